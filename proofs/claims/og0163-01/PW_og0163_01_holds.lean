import PyProof.Rows.All
import Wide.All
import OpenK.AllK
import Wide.FinOn
import Lean
import PySem.Challenge.RW_og0163_01
open PySem PySem.W PyProof.Rows PySem.Calls
set_option Elab.async false
set_option compiler.extract_closed false
set_option linter.all false
set_option maxRecDepth 100000
set_option maxHeartbeats 8000000
section
namespace Mine
def stBody : Stmt → List Stmt
  | .FunctionDef _ _ b _ _ _ _ _ _ _ => b
  | _ => []
def stArgs : Stmt → Arguments
  | .FunctionDef _ a _ _ _ _ _ _ _ _ => a
  | _ => default
def stScope : Stmt → Scope
  | .FunctionDef _ _ _ _ _ _ sc _ _ _ => sc
  | _ => default
def stPos : Stmt → Pos
  | .FunctionDef _ _ _ _ _ _ _ _ _ p => p
  | _ => default
def clBody : Stmt → List Stmt
  | .ClassDef _ _ _ b _ _ _ _ _ _ _ => b
  | _ => []
noncomputable def pT (i : Nat) : Stmt := PySem.Challenge.pw_og0163_01.main.body.getD i (.Pass default)
noncomputable def pM (i j : Nat) : Stmt := (clBody (pT i)).getD j (.Pass default)
noncomputable def K0 (a0 : Arguments) (a1 : Arguments) (a2 : Arguments) (a3 : Arguments) (a4 : Arguments) (a5 : Arguments) (a6 : Arguments) (a7 : Arguments) (a8 : Arguments) (a9 : Arguments) (a10 : Arguments) (a11 : Arguments) (a12 : Arguments) (a13 : Arguments) (a14 : Arguments) (a15 : Arguments) (a16 : Arguments) (a17 : Arguments) (a18 : Arguments) (a19 : Arguments) (a20 : Arguments) (a21 : Arguments) (a22 : Arguments) (a23 : Arguments) (a24 : Arguments) (a25 : Arguments) (a26 : Arguments) (a27 : Arguments) (a28 : Arguments) (a29 : Arguments) (a30 : Arguments) (a31 : Arguments) (a32 : Arguments) (a33 : Arguments) (a34 : Arguments) (a35 : Arguments) (a36 : Arguments) (a37 : Arguments) (a38 : Arguments) (a39 : Arguments) (a40 : Arguments) (a41 : Arguments) (a42 : Arguments) (a43 : Arguments) (a44 : Arguments) (a45 : List Stmt) (a46 : List Stmt) (a47 : List Stmt) (a48 : List Stmt) (a49 : List Stmt) (a50 : List Stmt) (a51 : List Stmt) (a52 : List Stmt) (a53 : List Stmt) (a54 : List Stmt) (a55 : List Stmt) (a56 : List Stmt) (a57 : List Stmt) (a58 : List Stmt) (a59 : List Stmt) (a60 : List Stmt) (a61 : List Stmt) (a62 : List Stmt) (a63 : List Stmt) (a64 : List Stmt) (a65 : List Stmt) (a66 : List Stmt) (a67 : List Stmt) (a68 : List Stmt) (a69 : List Stmt) (a70 : List Stmt) (a71 : List Stmt) (a72 : List Stmt) (a73 : List Stmt) (a74 : List Stmt) (a75 : List Stmt) (a76 : List Stmt) (a77 : List Stmt) (a78 : List Stmt) (a79 : List Stmt) (a80 : List Stmt) (a81 : List Stmt) (a82 : List Stmt) (a83 : List Stmt) (a84 : List Stmt) (a85 : List Stmt) (a86 : List Stmt) (a87 : List Stmt) (a88 : List Stmt) (a89 : List Stmt) (a90 : Scope) (a91 : Scope) (a92 : Scope) (a93 : Scope) (a94 : Scope) (a95 : Scope) (a96 : Scope) (a97 : Scope) (a98 : Scope) (a99 : Scope) (a100 : Scope) (a101 : Scope) (a102 : Scope) (a103 : Scope) (a104 : Scope) (a105 : Scope) (a106 : Scope) (a107 : Scope) (a108 : Scope) (a109 : Scope) (a110 : Scope) (a111 : Scope) (a112 : Scope) (a113 : Scope) (a114 : Scope) (a115 : Scope) (a116 : Scope) (a117 : Scope) (a118 : Scope) (a119 : Scope) (a120 : Scope) (a121 : Scope) (a122 : Scope) (a123 : Scope) (a124 : Scope) (a125 : Scope) (a126 : Scope) (a127 : Scope) (a128 : Scope) (a129 : Scope) (a130 : Scope) (a131 : Scope) (a132 : Scope) (a133 : Scope) (a134 : Scope) (P : Params) : Frag :=
  (nat_lit 2, Obj.mk Value.none none (Data.dict #[DictEntry.mk (PyData.keyHash P (Str.ofString "type.__subclasses__.Exception.0")) (Value.str (Str.ofString "type.__subclasses__.Exception.0") 232) (Value.int 46 0), DictEntry.mk (PyData.keyHash P (Str.ofString "type.__subclasses__.Exception.n")) (Value.str (Str.ofString "type.__subclasses__.Exception.n") 233) (Value.int 1 0)] 2) #[]) ::
  (nat_lit 3, Obj.mk (Value.type "dict") none (Data.dict #[DictEntry.mk (PyData.keyHash P (Str.ofString "__name__")) (Value.str (Str.ofString "__name__") 165) (Value.str (Str.ofString "law_og0163_01") 676), DictEntry.mk (PyData.keyHash P (Str.ofString "__doc__")) (Value.str (Str.ofString "__doc__") 166) Value.none, DictEntry.mk (PyData.keyHash P (Str.ofString "__package__")) (Value.str (Str.ofString "__package__") 167) Value.none, DictEntry.mk (PyData.keyHash P (Str.ofString "__loader__")) (Value.str (Str.ofString "__loader__") 168) (Value.builtin "__main__.__loader__#opaque"), DictEntry.mk (PyData.keyHash P (Str.ofString "__spec__")) (Value.str (Str.ofString "__spec__") 169) Value.none, DictEntry.mk (PyData.keyHash P (Str.ofString "__annotations__")) (Value.str (Str.ofString "__annotations__") 170) (Value.ref 6), DictEntry.mk (PyData.keyHash P (Str.ofString "__builtins__")) (Value.str (Str.ofString "__builtins__") 171) (Value.ref 4), DictEntry.mk (PyData.keyHash P (Str.ofString "__file__")) (Value.str (Str.ofString "__file__") 173) (Value.str (Str.ofString "/claim/cut.py") 172), DictEntry.mk (PyData.keyHash P (Str.ofString "__cached__")) (Value.str (Str.ofString "__cached__") 174) Value.none, DictEntry.mk (PyData.keyHash P (Str.ofString "_wall")) (Value.str (Str.ofString "_wall") 193) (Value.ref 21), DictEntry.mk (PyData.keyHash P (Str.ofString "PaperError")) (Value.str (Str.ofString "PaperError") 235) (Value.ref 46), DictEntry.mk (PyData.keyHash P (Str.ofString "TreeFault")) (Value.str (Str.ofString "TreeFault") 251) (Value.ref 59), DictEntry.mk (PyData.keyHash P (Str.ofString "Decimal")) (Value.str (Str.ofString "Decimal") 367) (Value.ref 155), DictEntry.mk (PyData.keyHash P (Str.ofString "sign_text")) (Value.str (Str.ofString "sign_text") 374) (Value.ref 166), DictEntry.mk (PyData.keyHash P (Str.ofString "MOST_HOPS")) (Value.str (Str.ofString "MOST_HOPS") 378) (Value.int 30 377), DictEntry.mk (PyData.keyHash P (Str.ofString "Name")) (Value.str (Str.ofString "Name") 407) (Value.ref 183), DictEntry.mk (PyData.keyHash P (Str.ofString "String")) (Value.str (Str.ofString "String") 438) (Value.ref 205), DictEntry.mk (PyData.keyHash P (Str.ofString "Stream")) (Value.str (Str.ofString "Stream") 469) (Value.ref 226), DictEntry.mk (PyData.keyHash P (Str.ofString "Reference")) (Value.str (Str.ofString "Reference") 507) (Value.ref 254), DictEntry.mk (PyData.keyHash P (Str.ofString "kind_of")) (Value.str (Str.ofString "kind_of") 514) (Value.ref 265), DictEntry.mk (PyData.keyHash P (Str.ofString "told_plain")) (Value.str (Str.ofString "told_plain") 522) (Value.ref 272), DictEntry.mk (PyData.keyHash P (Str.ofString "told")) (Value.str (Str.ofString "told") 528) (Value.ref 277), DictEntry.mk (PyData.keyHash P (Str.ofString "told_objects")) (Value.str (Str.ofString "told_objects") 529) (Value.ref 277), DictEntry.mk (PyData.keyHash P (Str.ofString "Lookup")) (Value.str (Str.ofString "Lookup") 581) (Value.ref 309), DictEntry.mk (PyData.keyHash P (Str.ofString "Shelf")) (Value.str (Str.ofString "Shelf") 644) (Value.ref 363), DictEntry.mk (PyData.keyHash P (Str.ofString "MOST_NESTED")) (Value.str (Str.ofString "MOST_NESTED") 648) (Value.int 20 647), DictEntry.mk (PyData.keyHash P (Str.ofString "word_at")) (Value.str (Str.ofString "word_at") 659) (Value.ref 372), DictEntry.mk (PyData.keyHash P (Str.ofString "is_group")) (Value.str (Str.ofString "is_group") 668) (Value.ref 379), DictEntry.mk (PyData.keyHash P (Str.ofString "expression_state")) (Value.str (Str.ofString "expression_state") 675) (Value.ref 385), DictEntry.mk (PyData.keyHash P (Str.ofString "_law_taker")) (Value.str (Str.ofString "_law_taker") 687) (Value.ref 392), DictEntry.mk (PyData.keyHash P (Str.ofString "_law_plan")) (Value.str (Str.ofString "_law_plan") 693) (Value.ref 397), DictEntry.mk (PyData.keyHash P (Str.ofString "_law_made")) (Value.str (Str.ofString "_law_made") 699) (Value.ref 402), DictEntry.mk (PyData.keyHash P (Str.ofString "_law_denied")) (Value.str (Str.ofString "_law_denied") 705) (Value.ref 407), DictEntry.mk (PyData.keyHash P (Str.ofString "_law_turned")) (Value.str (Str.ofString "_law_turned") 711) (Value.ref 412), DictEntry.mk (PyData.keyHash P (Str.ofString "_law_mirror")) (Value.str (Str.ofString "_law_mirror") 717) (Value.ref 417), DictEntry.mk (PyData.keyHash P (Str.ofString "_law_truth")) (Value.str (Str.ofString "_law_truth") 728) (Value.ref 424), DictEntry.mk (PyData.keyHash P (Str.ofString "_law_kept")) (Value.str (Str.ofString "_law_kept") 734) (Value.ref 429), DictEntry.mk (PyData.keyHash P (Str.ofString "law")) (Value.str (Str.ofString "law") 740) (Value.ref 434)] 38) #[]) ::
  (nat_lit 15, Obj.mk (Value.type "tuple") none (Data.seq #[]) #[]) ::
  (nat_lit 17, Obj.mk (Value.type "tuple") none (Data.seq #[Value.str (Str.ofString "k") 190]) #[]) ::
  (nat_lit 18, Obj.mk (Value.type "tuple") none (Data.seq #[]) #[]) ::
  (nat_lit 20, Obj.mk (Value.type "code") none (Data.fields #[Value.str (Str.ofString "_wall") 187, Value.str (Str.ofString "_wall") 188, Value.str (Str.ofString "/claim/cut.py") 189, Value.int 1 0, Value.int 1 0, Value.int 0 0, Value.int 0 0, Value.int 3 0, Value.ref 15, Value.bool true, Value.int 181 0, Value.ref 16, Value.none, Value.ref 17, Value.ref 18, Value.ref 19, Value.int 191 0, Value.int 1 0, Value.str (Str.ofString "/claim/cut.py") 192]) #[]) ::
  (nat_lit 21, Obj.mk (Value.type "function") none (Data.func (FuncData.mk (Str.ofString "_wall") (Str.ofString "_wall") a28 (FuncBody.stmts a73) a118 3 [] Value.none Value.none Value.none (Value.str (Str.ofString "__main__") 164) none (Value.ref 20) Value.none 0)) #[]) ::
  (nat_lit 22, Obj.mk (Value.type "tuple") none (Data.seq #[Value.type "Exception"]) #[]) ::
  (nat_lit 29, Obj.mk (Value.type "tuple") none (Data.seq #[Value.int (-1) 209]) #[]) ::
  (nat_lit 30, Obj.mk (Value.type "tuple") none (Data.seq #[]) #[]) ::
  (nat_lit 32, Obj.mk (Value.type "tuple") none (Data.seq #[Value.str (Str.ofString "self") 213, Value.str (Str.ofString "what") 214, Value.str (Str.ofString "at") 215]) #[]) ::
  (nat_lit 33, Obj.mk (Value.type "tuple") none (Data.seq #[]) #[]) ::
  (nat_lit 35, Obj.mk (Value.type "code") none (Data.fields #[Value.str (Str.ofString "__init__") 210, Value.str (Str.ofString "PaperError.__init__") 211, Value.str (Str.ofString "/claim/cut.py") 212, Value.int 7 0, Value.int 3 0, Value.int 0 0, Value.int 0 0, Value.int 3 0, Value.ref 30, Value.bool true, Value.int 181 0, Value.ref 31, Value.none, Value.ref 32, Value.ref 33, Value.ref 34, Value.int 216 0, Value.int 7 0, Value.str (Str.ofString "/claim/cut.py") 217]) #[]) ::
  (nat_lit 36, Obj.mk (Value.type "function") none (Data.func (FuncData.mk (Str.ofString "__init__") (Str.ofString "PaperError.__init__") a13 (FuncBody.stmts a58) a103 3 [] (Value.ref 29) Value.none Value.none (Value.str (Str.ofString "paperhold.errors") 194) none (Value.ref 35) Value.none 0)) #[]) ::
  (nat_lit 37, Obj.mk (Value.type "tuple") none (Data.seq #[]) #[]) ::
  (nat_lit 39, Obj.mk (Value.type "tuple") none (Data.seq #[Value.str (Str.ofString "self") 222]) #[]) ::
  (nat_lit 40, Obj.mk (Value.type "tuple") none (Data.seq #[]) #[]) ::
  (nat_lit 42, Obj.mk (Value.type "code") none (Data.fields #[Value.str (Str.ofString "told") 219, Value.str (Str.ofString "PaperError.told") 220, Value.str (Str.ofString "/claim/cut.py") 221, Value.int 12 0, Value.int 1 0, Value.int 0 0, Value.int 0 0, Value.int 3 0, Value.ref 37, Value.bool true, Value.int 181 0, Value.ref 38, Value.none, Value.ref 39, Value.ref 40, Value.ref 41, Value.int 223 0, Value.int 12 0, Value.str (Str.ofString "/claim/cut.py") 224]) #[]) ::
  (nat_lit 43, Obj.mk (Value.type "function") none (Data.func (FuncData.mk (Str.ofString "told") (Str.ofString "PaperError.told") a14 (FuncBody.stmts a59) a104 3 [] Value.none Value.none Value.none (Value.str (Str.ofString "paperhold.errors") 194) none (Value.ref 42) Value.none 0)) #[]) ::
  (nat_lit 44, Obj.mk (Value.type "tuple") none (Data.seq #[Value.str (Str.ofString "at") 226, Value.str (Str.ofString "what") 227]) #[]) ::
  (nat_lit 45, Obj.mk (Value.type "dict") none (Data.dict #[DictEntry.mk (PyData.keyHash P (Str.ofString "__module__")) (Value.str (Str.ofString "__module__") 203) (Value.str (Str.ofString "paperhold.errors") 194), DictEntry.mk (PyData.keyHash P (Str.ofString "__firstlineno__")) (Value.str (Str.ofString "__firstlineno__") 207) (Value.int 5 206), DictEntry.mk (PyData.keyHash P (Str.ofString "__init__")) (Value.str (Str.ofString "__init__") 218) (Value.ref 36), DictEntry.mk (PyData.keyHash P (Str.ofString "told")) (Value.str (Str.ofString "told") 225) (Value.ref 43), DictEntry.mk (PyData.keyHash P (Str.ofString "__static_attributes__")) (Value.str (Str.ofString "__static_attributes__") 228) (Value.ref 44), DictEntry.mk (PyData.keyHash P (Str.ofString "__weakref__")) (Value.str (Str.ofString "__weakref__") 230) (Value.ref 47), DictEntry.mk (PyData.keyHash P (Str.ofString "__doc__")) (Value.str (Str.ofString "__doc__") 231) Value.none] 3) #[]) ::
  (nat_lit 46, Obj.mk (Value.type "type") none (Data.cls (ClassData.mk (Str.ofString "PaperError") [Value.type "Exception"] [Value.ref 46, Value.type "Exception", Value.type "BaseException", Value.type "object"] 45 (Str.ofString "PaperError") true [] [Value.ref 59] false none false)) #[some (Value.ref 22), none, some (Value.str (Str.ofString "PaperError") 196), some (Value.str (Str.ofString "PaperError") 204), some (Value.builtin "Exception.__new__"), some (Value.bool true)]) ::
  (nat_lit 47, Obj.mk (Value.type "getset_descriptor") none (Data.fields #[Value.str (Str.ofString "__weakref__") 229, Value.ref 46, Value.builtin "ExceptionGroup.__weakref__", Value.none]) #[]) ::
  (nat_lit 50, Obj.mk (Value.type "tuple") none (Data.seq #[Value.ref 46]) #[]) ::
  (nat_lit 57, Obj.mk (Value.type "tuple") none (Data.seq #[]) #[]) ::
  (nat_lit 58, Obj.mk (Value.type "dict") none (Data.dict #[DictEntry.mk (PyData.keyHash P (Str.ofString "__module__")) (Value.str (Str.ofString "__module__") 243) (Value.str (Str.ofString "paperhold.errors") 194), DictEntry.mk (PyData.keyHash P (Str.ofString "__firstlineno__")) (Value.str (Str.ofString "__firstlineno__") 247) (Value.int 14 246), DictEntry.mk (PyData.keyHash P (Str.ofString "__static_attributes__")) (Value.str (Str.ofString "__static_attributes__") 248) (Value.ref 57), DictEntry.mk (PyData.keyHash P (Str.ofString "__doc__")) (Value.str (Str.ofString "__doc__") 249) Value.none] 2) #[]) ::
  (nat_lit 59, Obj.mk (Value.type "type") none (Data.cls (ClassData.mk (Str.ofString "TreeFault") [Value.ref 46] [Value.ref 59, Value.ref 46, Value.type "Exception", Value.type "BaseException", Value.type "object"] 58 (Str.ofString "TreeFault") true [] [] false none false)) #[some (Value.ref 50), none, some (Value.str (Str.ofString "TreeFault") 236), some (Value.str (Str.ofString "TreeFault") 244), some (Value.builtin "Exception.__new__"), some (Value.bool true)]) ::
  (nat_lit 69, Obj.mk (Value.type "tuple") none (Data.seq #[]) #[]) ::
  (nat_lit 71, Obj.mk (Value.type "tuple") none (Data.seq #[Value.str (Str.ofString "self") 269, Value.str (Str.ofString "top") 270, Value.str (Str.ofString "places") 271]) #[]) ::
  (nat_lit 72, Obj.mk (Value.type "tuple") none (Data.seq #[]) #[]) ::
  (nat_lit 74, Obj.mk (Value.type "code") none (Data.fields #[Value.str (Str.ofString "__init__") 266, Value.str (Str.ofString "Decimal.__init__") 267, Value.str (Str.ofString "/claim/cut.py") 268, Value.int 19 0, Value.int 3 0, Value.int 0 0, Value.int 0 0, Value.int 3 0, Value.ref 69, Value.bool true, Value.int 181 0, Value.ref 70, Value.none, Value.ref 71, Value.ref 72, Value.ref 73, Value.int 272 0, Value.int 19 0, Value.str (Str.ofString "/claim/cut.py") 273]) #[]) ::
  (nat_lit 75, Obj.mk (Value.type "function") none (Data.func (FuncData.mk (Str.ofString "__init__") (Str.ofString "Decimal.__init__") a15 (FuncBody.stmts a60) a105 3 [] Value.none Value.none Value.none (Value.str (Str.ofString "paperhold.decimals") 252) none (Value.ref 74) Value.none 0)) #[]) ::
  (nat_lit 76, Obj.mk (Value.type "tuple") none (Data.seq #[]) #[]) ::
  (nat_lit 78, Obj.mk (Value.type "tuple") none (Data.seq #[Value.str (Str.ofString "self") 278, Value.str (Str.ofString "other") 279]) #[]) ::
  (nat_lit 79, Obj.mk (Value.type "tuple") none (Data.seq #[]) #[]) ::
  (nat_lit 81, Obj.mk (Value.type "code") none (Data.fields #[Value.str (Str.ofString "plus") 275, Value.str (Str.ofString "Decimal.plus") 276, Value.str (Str.ofString "/claim/cut.py") 277, Value.int 26 0, Value.int 2 0, Value.int 0 0, Value.int 0 0, Value.int 3 0, Value.ref 76, Value.bool true, Value.int 181 0, Value.ref 77, Value.none, Value.ref 78, Value.ref 79, Value.ref 80, Value.int 280 0, Value.int 26 0, Value.str (Str.ofString "/claim/cut.py") 281]) #[]) ::
  (nat_lit 82, Obj.mk (Value.type "function") none (Data.func (FuncData.mk (Str.ofString "plus") (Str.ofString "Decimal.plus") a16 (FuncBody.stmts a61) a106 3 [] Value.none Value.none Value.none (Value.str (Str.ofString "paperhold.decimals") 252) none (Value.ref 81) Value.none 0)) #[]) ::
  (nat_lit 83, Obj.mk (Value.type "tuple") none (Data.seq #[]) #[]) ::
  (nat_lit 85, Obj.mk (Value.type "tuple") none (Data.seq #[Value.str (Str.ofString "self") 286, Value.str (Str.ofString "other") 287]) #[]) ::
  (nat_lit 86, Obj.mk (Value.type "tuple") none (Data.seq #[]) #[]) ::
  (nat_lit 88, Obj.mk (Value.type "code") none (Data.fields #[Value.str (Str.ofString "minus") 283, Value.str (Str.ofString "Decimal.minus") 284, Value.str (Str.ofString "/claim/cut.py") 285, Value.int 29 0, Value.int 2 0, Value.int 0 0, Value.int 0 0, Value.int 3 0, Value.ref 83, Value.bool true, Value.int 181 0, Value.ref 84, Value.none, Value.ref 85, Value.ref 86, Value.ref 87, Value.int 288 0, Value.int 29 0, Value.str (Str.ofString "/claim/cut.py") 289]) #[]) ::
  (nat_lit 89, Obj.mk (Value.type "function") none (Data.func (FuncData.mk (Str.ofString "minus") (Str.ofString "Decimal.minus") a19 (FuncBody.stmts a64) a109 3 [] Value.none Value.none Value.none (Value.str (Str.ofString "paperhold.decimals") 252) none (Value.ref 88) Value.none 0)) #[]) ::
  (nat_lit 90, Obj.mk (Value.type "tuple") none (Data.seq #[]) #[]) ::
  (nat_lit 92, Obj.mk (Value.type "tuple") none (Data.seq #[Value.str (Str.ofString "self") 294, Value.str (Str.ofString "other") 295]) #[]) ::
  (nat_lit 93, Obj.mk (Value.type "tuple") none (Data.seq #[]) #[]) ::
  (nat_lit 95, Obj.mk (Value.type "code") none (Data.fields #[Value.str (Str.ofString "times") 291, Value.str (Str.ofString "Decimal.times") 292, Value.str (Str.ofString "/claim/cut.py") 293, Value.int 32 0, Value.int 2 0, Value.int 0 0, Value.int 0 0, Value.int 3 0, Value.ref 90, Value.bool true, Value.int 181 0, Value.ref 91, Value.none, Value.ref 92, Value.ref 93, Value.ref 94, Value.int 296 0, Value.int 32 0, Value.str (Str.ofString "/claim/cut.py") 297]) #[]) ::
  (nat_lit 96, Obj.mk (Value.type "function") none (Data.func (FuncData.mk (Str.ofString "times") (Str.ofString "Decimal.times") a20 (FuncBody.stmts a65) a110 3 [] Value.none Value.none Value.none (Value.str (Str.ofString "paperhold.decimals") 252) none (Value.ref 95) Value.none 0)) #[]) ::
  (nat_lit 97, Obj.mk (Value.type "tuple") none (Data.seq #[]) #[]) ::
  (nat_lit 99, Obj.mk (Value.type "tuple") none (Data.seq #[Value.str (Str.ofString "self") 302]) #[]) ::
  (nat_lit 100, Obj.mk (Value.type "tuple") none (Data.seq #[]) #[]) ::
  (nat_lit 102, Obj.mk (Value.type "code") none (Data.fields #[Value.str (Str.ofString "negated") 299, Value.str (Str.ofString "Decimal.negated") 300, Value.str (Str.ofString "/claim/cut.py") 301, Value.int 35 0, Value.int 1 0, Value.int 0 0, Value.int 0 0, Value.int 3 0, Value.ref 97, Value.bool true, Value.int 181 0, Value.ref 98, Value.none, Value.ref 99, Value.ref 100, Value.ref 101, Value.int 303 0, Value.int 35 0, Value.str (Str.ofString "/claim/cut.py") 304]) #[]) ::
  (nat_lit 103, Obj.mk (Value.type "function") none (Data.func (FuncData.mk (Str.ofString "negated") (Str.ofString "Decimal.negated") a21 (FuncBody.stmts a66) a111 3 [] Value.none Value.none Value.none (Value.str (Str.ofString "paperhold.decimals") 252) none (Value.ref 102) Value.none 0)) #[]) ::
  (nat_lit 104, Obj.mk (Value.type "tuple") none (Data.seq #[]) #[]) ::
  (nat_lit 106, Obj.mk (Value.type "tuple") none (Data.seq #[Value.str (Str.ofString "self") 309, Value.str (Str.ofString "other") 310]) #[]) ::
  (nat_lit 107, Obj.mk (Value.type "tuple") none (Data.seq #[]) #[]) ::
  (nat_lit 109, Obj.mk (Value.type "code") none (Data.fields #[Value.str (Str.ofString "compared") 306, Value.str (Str.ofString "Decimal.compared") 307, Value.str (Str.ofString "/claim/cut.py") 308, Value.int 38 0, Value.int 2 0, Value.int 0 0, Value.int 0 0, Value.int 3 0, Value.ref 104, Value.bool true, Value.int 181 0, Value.ref 105, Value.none, Value.ref 106, Value.ref 107, Value.ref 108, Value.int 311 0, Value.int 38 0, Value.str (Str.ofString "/claim/cut.py") 312]) #[]) ::
  (nat_lit 110, Obj.mk (Value.type "function") none (Data.func (FuncData.mk (Str.ofString "compared") (Str.ofString "Decimal.compared") a22 (FuncBody.stmts a67) a112 3 [] Value.none Value.none Value.none (Value.str (Str.ofString "paperhold.decimals") 252) none (Value.ref 109) Value.none 0)) #[]) ::
  (nat_lit 111, Obj.mk (Value.type "tuple") none (Data.seq #[]) #[]) ::
  (nat_lit 113, Obj.mk (Value.type "tuple") none (Data.seq #[Value.str (Str.ofString "self") 317]) #[]) ::
  (nat_lit 114, Obj.mk (Value.type "tuple") none (Data.seq #[]) #[]) ::
  (nat_lit 116, Obj.mk (Value.type "code") none (Data.fields #[Value.str (Str.ofString "is_whole") 314, Value.str (Str.ofString "Decimal.is_whole") 315, Value.str (Str.ofString "/claim/cut.py") 316, Value.int 41 0, Value.int 1 0, Value.int 0 0, Value.int 0 0, Value.int 3 0, Value.ref 111, Value.bool true, Value.int 181 0, Value.ref 112, Value.none, Value.ref 113, Value.ref 114, Value.ref 115, Value.int 318 0, Value.int 41 0, Value.str (Str.ofString "/claim/cut.py") 319]) #[]) ::
  (nat_lit 117, Obj.mk (Value.type "function") none (Data.func (FuncData.mk (Str.ofString "is_whole") (Str.ofString "Decimal.is_whole") a23 (FuncBody.stmts a68) a113 3 [] Value.none Value.none Value.none (Value.str (Str.ofString "paperhold.decimals") 252) none (Value.ref 116) Value.none 0)) #[]) ::
  (nat_lit 118, Obj.mk (Value.type "tuple") none (Data.seq #[]) #[]) ::
  (nat_lit 120, Obj.mk (Value.type "tuple") none (Data.seq #[Value.str (Str.ofString "self") 324]) #[]) ::
  (nat_lit 121, Obj.mk (Value.type "tuple") none (Data.seq #[]) #[]) ::
  (nat_lit 123, Obj.mk (Value.type "code") none (Data.fields #[Value.str (Str.ofString "floor") 321, Value.str (Str.ofString "Decimal.floor") 322, Value.str (Str.ofString "/claim/cut.py") 323, Value.int 44 0, Value.int 1 0, Value.int 0 0, Value.int 0 0, Value.int 3 0, Value.ref 118, Value.bool true, Value.int 181 0, Value.ref 119, Value.none, Value.ref 120, Value.ref 121, Value.ref 122, Value.int 325 0, Value.int 44 0, Value.str (Str.ofString "/claim/cut.py") 326]) #[]) ::
  (nat_lit 124, Obj.mk (Value.type "function") none (Data.func (FuncData.mk (Str.ofString "floor") (Str.ofString "Decimal.floor") a24 (FuncBody.stmts a69) a114 3 [] Value.none Value.none Value.none (Value.str (Str.ofString "paperhold.decimals") 252) none (Value.ref 123) Value.none 0)) #[]) ::
  (nat_lit 125, Obj.mk (Value.type "tuple") none (Data.seq #[]) #[]) ::
  (nat_lit 127, Obj.mk (Value.type "tuple") none (Data.seq #[Value.str (Str.ofString "self") 331, Value.str (Str.ofString "places") 332]) #[]) ::
  (nat_lit 128, Obj.mk (Value.type "tuple") none (Data.seq #[]) #[]) ::
  (nat_lit 130, Obj.mk (Value.type "code") none (Data.fields #[Value.str (Str.ofString "rounded") 328, Value.str (Str.ofString "Decimal.rounded") 329, Value.str (Str.ofString "/claim/cut.py") 330, Value.int 47 0, Value.int 2 0, Value.int 0 0, Value.int 0 0, Value.int 3 0, Value.ref 125, Value.bool true, Value.int 181 0, Value.ref 126, Value.none, Value.ref 127, Value.ref 128, Value.ref 129, Value.int 333 0, Value.int 47 0, Value.str (Str.ofString "/claim/cut.py") 334]) #[]) ::
  (nat_lit 131, Obj.mk (Value.type "function") none (Data.func (FuncData.mk (Str.ofString "rounded") (Str.ofString "Decimal.rounded") a25 (FuncBody.stmts a70) a115 3 [] Value.none Value.none Value.none (Value.str (Str.ofString "paperhold.decimals") 252) none (Value.ref 130) Value.none 0)) #[]) ::
  (nat_lit 132, Obj.mk (Value.type "tuple") none (Data.seq #[]) #[]) ::
  (nat_lit 134, Obj.mk (Value.type "tuple") none (Data.seq #[Value.str (Str.ofString "self") 339]) #[]) ::
  (nat_lit 135, Obj.mk (Value.type "tuple") none (Data.seq #[]) #[]) ::
  (nat_lit 137, Obj.mk (Value.type "code") none (Data.fields #[Value.str (Str.ofString "told") 336, Value.str (Str.ofString "Decimal.told") 337, Value.str (Str.ofString "/claim/cut.py") 338, Value.int 50 0, Value.int 1 0, Value.int 0 0, Value.int 0 0, Value.int 3 0, Value.ref 132, Value.bool true, Value.int 181 0, Value.ref 133, Value.none, Value.ref 134, Value.ref 135, Value.ref 136, Value.int 340 0, Value.int 50 0, Value.str (Str.ofString "/claim/cut.py") 341]) #[]) ::
  (nat_lit 138, Obj.mk (Value.type "function") none (Data.func (FuncData.mk (Str.ofString "told") (Str.ofString "Decimal.told") a26 (FuncBody.stmts a71) a116 3 [] Value.none Value.none Value.none (Value.str (Str.ofString "paperhold.decimals") 252) none (Value.ref 137) Value.none 0)) #[]) ::
  (nat_lit 139, Obj.mk (Value.type "tuple") none (Data.seq #[]) #[]) ::
  (nat_lit 141, Obj.mk (Value.type "tuple") none (Data.seq #[Value.str (Str.ofString "self") 346, Value.str (Str.ofString "numerals") 347]) #[]) ::
  (nat_lit 142, Obj.mk (Value.type "tuple") none (Data.seq #[]) #[]) ::
  (nat_lit 144, Obj.mk (Value.type "code") none (Data.fields #[Value.str (Str.ofString "text") 343, Value.str (Str.ofString "Decimal.text") 344, Value.str (Str.ofString "/claim/cut.py") 345, Value.int 53 0, Value.int 1 0, Value.int 0 0, Value.int 0 0, Value.int 3 0, Value.ref 139, Value.bool true, Value.int 181 0, Value.ref 140, Value.none, Value.ref 141, Value.ref 142, Value.ref 143, Value.int 348 0, Value.int 53 0, Value.str (Str.ofString "/claim/cut.py") 349]) #[]) ::
  (nat_lit 145, Obj.mk (Value.type "function") none (Data.func (FuncData.mk (Str.ofString "text") (Str.ofString "Decimal.text") a17 (FuncBody.stmts a62) a107 3 [] Value.none Value.none Value.none (Value.str (Str.ofString "paperhold.decimals") 252) none (Value.ref 144) Value.none 0)) #[]) ::
  (nat_lit 146, Obj.mk (Value.type "tuple") none (Data.seq #[]) #[]) ::
  (nat_lit 148, Obj.mk (Value.type "tuple") none (Data.seq #[Value.str (Str.ofString "self") 354]) #[]) ::
  (nat_lit 149, Obj.mk (Value.type "tuple") none (Data.seq #[]) #[]) ::
  (nat_lit 151, Obj.mk (Value.type "code") none (Data.fields #[Value.str (Str.ofString "least_text") 351, Value.str (Str.ofString "Decimal.least_text") 352, Value.str (Str.ofString "/claim/cut.py") 353, Value.int 60 0, Value.int 1 0, Value.int 0 0, Value.int 0 0, Value.int 3 0, Value.ref 146, Value.bool true, Value.int 181 0, Value.ref 147, Value.none, Value.ref 148, Value.ref 149, Value.ref 150, Value.int 355 0, Value.int 60 0, Value.str (Str.ofString "/claim/cut.py") 356]) #[]) ::
  (nat_lit 152, Obj.mk (Value.type "function") none (Data.func (FuncData.mk (Str.ofString "least_text") (Str.ofString "Decimal.least_text") a18 (FuncBody.stmts a63) a108 3 [] Value.none Value.none Value.none (Value.str (Str.ofString "paperhold.decimals") 252) none (Value.ref 151) Value.none 0)) #[]) ::
  (nat_lit 153, Obj.mk (Value.type "tuple") none (Data.seq #[Value.str (Str.ofString "places") 358, Value.str (Str.ofString "top") 359]) #[]) ::
  (nat_lit 154, Obj.mk (Value.type "dict") none (Data.dict #[DictEntry.mk (PyData.keyHash P (Str.ofString "__module__")) (Value.str (Str.ofString "__module__") 261) (Value.str (Str.ofString "paperhold.decimals") 252), DictEntry.mk (PyData.keyHash P (Str.ofString "__firstlineno__")) (Value.str (Str.ofString "__firstlineno__") 265) (Value.int 17 264), DictEntry.mk (PyData.keyHash P (Str.ofString "__init__")) (Value.str (Str.ofString "__init__") 274) (Value.ref 75), DictEntry.mk (PyData.keyHash P (Str.ofString "plus")) (Value.str (Str.ofString "plus") 282) (Value.ref 82), DictEntry.mk (PyData.keyHash P (Str.ofString "minus")) (Value.str (Str.ofString "minus") 290) (Value.ref 89), DictEntry.mk (PyData.keyHash P (Str.ofString "times")) (Value.str (Str.ofString "times") 298) (Value.ref 96), DictEntry.mk (PyData.keyHash P (Str.ofString "negated")) (Value.str (Str.ofString "negated") 305) (Value.ref 103), DictEntry.mk (PyData.keyHash P (Str.ofString "compared")) (Value.str (Str.ofString "compared") 313) (Value.ref 110), DictEntry.mk (PyData.keyHash P (Str.ofString "is_whole")) (Value.str (Str.ofString "is_whole") 320) (Value.ref 117), DictEntry.mk (PyData.keyHash P (Str.ofString "floor")) (Value.str (Str.ofString "floor") 327) (Value.ref 124), DictEntry.mk (PyData.keyHash P (Str.ofString "rounded")) (Value.str (Str.ofString "rounded") 335) (Value.ref 131), DictEntry.mk (PyData.keyHash P (Str.ofString "told")) (Value.str (Str.ofString "told") 342) (Value.ref 138), DictEntry.mk (PyData.keyHash P (Str.ofString "text")) (Value.str (Str.ofString "text") 350) (Value.ref 145), DictEntry.mk (PyData.keyHash P (Str.ofString "least_text")) (Value.str (Str.ofString "least_text") 357) (Value.ref 152), DictEntry.mk (PyData.keyHash P (Str.ofString "__static_attributes__")) (Value.str (Str.ofString "__static_attributes__") 360) (Value.ref 153), DictEntry.mk (PyData.keyHash P (Str.ofString "__dict__")) (Value.str (Str.ofString "__dict__") 362) (Value.ref 156), DictEntry.mk (PyData.keyHash P (Str.ofString "__weakref__")) (Value.str (Str.ofString "__weakref__") 364) (Value.ref 157), DictEntry.mk (PyData.keyHash P (Str.ofString "__doc__")) (Value.str (Str.ofString "__doc__") 365) Value.none] 4) #[]) ::
  (nat_lit 155, Obj.mk (Value.type "type") none (Data.cls (ClassData.mk (Str.ofString "Decimal") [Value.type "object"] [Value.ref 155, Value.type "object"] 154 (Str.ofString "Decimal") true [] [] false none false)) #[none, none, some (Value.str (Str.ofString "Decimal") 254), some (Value.str (Str.ofString "Decimal") 262), some (Value.builtin "object.__new__"), some (Value.bool true)]) ::
  (nat_lit 156, Obj.mk (Value.type "getset_descriptor") none (Data.fields #[Value.str (Str.ofString "__dict__") 361, Value.ref 155, Value.builtin "function.__dict__", Value.builtin "function.__dict__#set"]) #[]) ::
  (nat_lit 157, Obj.mk (Value.type "getset_descriptor") none (Data.fields #[Value.str (Str.ofString "__weakref__") 363, Value.ref 155, Value.builtin "ExceptionGroup.__weakref__", Value.none]) #[]) ::
  (nat_lit 160, Obj.mk (Value.type "tuple") none (Data.seq #[]) #[]) ::
  (nat_lit 162, Obj.mk (Value.type "tuple") none (Data.seq #[Value.str (Str.ofString "number") 371]) #[]) ::
  (nat_lit 163, Obj.mk (Value.type "tuple") none (Data.seq #[]) #[]) ::
  (nat_lit 165, Obj.mk (Value.type "code") none (Data.fields #[Value.str (Str.ofString "sign_text") 368, Value.str (Str.ofString "sign_text") 369, Value.str (Str.ofString "/claim/cut.py") 370, Value.int 62 0, Value.int 1 0, Value.int 0 0, Value.int 0 0, Value.int 3 0, Value.ref 160, Value.bool true, Value.int 181 0, Value.ref 161, Value.none, Value.ref 162, Value.ref 163, Value.ref 164, Value.int 372 0, Value.int 62 0, Value.str (Str.ofString "/claim/cut.py") 373]) #[]) ::
  (nat_lit 166, Obj.mk (Value.type "function") none (Data.func (FuncData.mk (Str.ofString "sign_text") (Str.ofString "sign_text") a44 (FuncBody.stmts a89) a134 3 [] Value.none Value.none Value.none (Value.str (Str.ofString "paperhold.decimals") 252) none (Value.ref 165) Value.none 0)) #[]) ::
  (nat_lit 174, Obj.mk (Value.type "tuple") none (Data.seq #[]) #[]) ::
  (nat_lit 176, Obj.mk (Value.type "tuple") none (Data.seq #[Value.str (Str.ofString "self") 394, Value.str (Str.ofString "text") 395]) #[]) ::
  (nat_lit 177, Obj.mk (Value.type "tuple") none (Data.seq #[]) #[]) ::
  (nat_lit 179, Obj.mk (Value.type "code") none (Data.fields #[Value.str (Str.ofString "__init__") 391, Value.str (Str.ofString "Name.__init__") 392, Value.str (Str.ofString "/claim/cut.py") 393, Value.int 68 0, Value.int 2 0, Value.int 0 0, Value.int 0 0, Value.int 3 0, Value.ref 174, Value.bool true, Value.int 181 0, Value.ref 175, Value.none, Value.ref 176, Value.ref 177, Value.ref 178, Value.int 396 0, Value.int 68 0, Value.str (Str.ofString "/claim/cut.py") 397]) #[]) ::
  (nat_lit 180, Obj.mk (Value.type "function") none (Data.func (FuncData.mk (Str.ofString "__init__") (Str.ofString "Name.__init__") a27 (FuncBody.stmts a72) a117 3 [] Value.none Value.none Value.none (Value.str (Str.ofString "paperhold.objects") 375) none (Value.ref 179) Value.none 0)) #[]) ::
  (nat_lit 181, Obj.mk (Value.type "tuple") none (Data.seq #[Value.str (Str.ofString "text") 399]) #[]) ::
  (nat_lit 182, Obj.mk (Value.type "dict") none (Data.dict #[DictEntry.mk (PyData.keyHash P (Str.ofString "__module__")) (Value.str (Str.ofString "__module__") 386) (Value.str (Str.ofString "paperhold.objects") 375), DictEntry.mk (PyData.keyHash P (Str.ofString "__firstlineno__")) (Value.str (Str.ofString "__firstlineno__") 390) (Value.int 66 389), DictEntry.mk (PyData.keyHash P (Str.ofString "__init__")) (Value.str (Str.ofString "__init__") 398) (Value.ref 180), DictEntry.mk (PyData.keyHash P (Str.ofString "__static_attributes__")) (Value.str (Str.ofString "__static_attributes__") 400) (Value.ref 181), DictEntry.mk (PyData.keyHash P (Str.ofString "__dict__")) (Value.str (Str.ofString "__dict__") 402) (Value.ref 184), DictEntry.mk (PyData.keyHash P (Str.ofString "__weakref__")) (Value.str (Str.ofString "__weakref__") 404) (Value.ref 185), DictEntry.mk (PyData.keyHash P (Str.ofString "__doc__")) (Value.str (Str.ofString "__doc__") 405) Value.none] 4) #[]) ::
  (nat_lit 183, Obj.mk (Value.type "type") none (Data.cls (ClassData.mk (Str.ofString "Name") [Value.type "object"] [Value.ref 183, Value.type "object"] 182 (Str.ofString "Name") true [] [] false none false)) #[none, none, some (Value.str (Str.ofString "Name") 379), some (Value.str (Str.ofString "Name") 387), some (Value.builtin "object.__new__"), some (Value.bool true)]) ::
  (nat_lit 184, Obj.mk (Value.type "getset_descriptor") none (Data.fields #[Value.str (Str.ofString "__dict__") 401, Value.ref 183, Value.builtin "function.__dict__", Value.builtin "function.__dict__#set"]) #[]) ::
  (nat_lit 185, Obj.mk (Value.type "getset_descriptor") none (Data.fields #[Value.str (Str.ofString "__weakref__") 403, Value.ref 183, Value.builtin "ExceptionGroup.__weakref__", Value.none]) #[]) ::
  (nat_lit 195, Obj.mk (Value.type "tuple") none (Data.seq #[Value.bool false]) #[]) ::
  (nat_lit 196, Obj.mk (Value.type "tuple") none (Data.seq #[]) #[]) ::
  (nat_lit 198, Obj.mk (Value.type "tuple") none (Data.seq #[Value.str (Str.ofString "self") 423, Value.str (Str.ofString "octets") 424, Value.str (Str.ofString "is_hex") 425]) #[]) ::
  (nat_lit 199, Obj.mk (Value.type "tuple") none (Data.seq #[]) #[]) ::
  (nat_lit 201, Obj.mk (Value.type "code") none (Data.fields #[Value.str (Str.ofString "__init__") 420, Value.str (Str.ofString "String.__init__") 421, Value.str (Str.ofString "/claim/cut.py") 422, Value.int 72 0, Value.int 3 0, Value.int 0 0, Value.int 0 0, Value.int 3 0, Value.ref 196, Value.bool true, Value.int 181 0, Value.ref 197, Value.none, Value.ref 198, Value.ref 199, Value.ref 200, Value.int 426 0, Value.int 72 0, Value.str (Str.ofString "/claim/cut.py") 427]) #[]) ::
  (nat_lit 202, Obj.mk (Value.type "function") none (Data.func (FuncData.mk (Str.ofString "__init__") (Str.ofString "String.__init__") a0 (FuncBody.stmts a45) a90 3 [] (Value.ref 195) Value.none Value.none (Value.str (Str.ofString "paperhold.objects") 375) none (Value.ref 201) Value.none 0)) #[]) ::
  (nat_lit 203, Obj.mk (Value.type "tuple") none (Data.seq #[Value.str (Str.ofString "is_hex") 429, Value.str (Str.ofString "octets") 430]) #[]) ::
  (nat_lit 204, Obj.mk (Value.type "dict") none (Data.dict #[DictEntry.mk (PyData.keyHash P (Str.ofString "__module__")) (Value.str (Str.ofString "__module__") 415) (Value.str (Str.ofString "paperhold.objects") 375), DictEntry.mk (PyData.keyHash P (Str.ofString "__firstlineno__")) (Value.str (Str.ofString "__firstlineno__") 419) (Value.int 70 418), DictEntry.mk (PyData.keyHash P (Str.ofString "__init__")) (Value.str (Str.ofString "__init__") 428) (Value.ref 202), DictEntry.mk (PyData.keyHash P (Str.ofString "__static_attributes__")) (Value.str (Str.ofString "__static_attributes__") 431) (Value.ref 203), DictEntry.mk (PyData.keyHash P (Str.ofString "__dict__")) (Value.str (Str.ofString "__dict__") 433) (Value.ref 206), DictEntry.mk (PyData.keyHash P (Str.ofString "__weakref__")) (Value.str (Str.ofString "__weakref__") 435) (Value.ref 207), DictEntry.mk (PyData.keyHash P (Str.ofString "__doc__")) (Value.str (Str.ofString "__doc__") 436) Value.none] 4) #[]) ::
  (nat_lit 205, Obj.mk (Value.type "type") none (Data.cls (ClassData.mk (Str.ofString "String") [Value.type "object"] [Value.ref 205, Value.type "object"] 204 (Str.ofString "String") true [] [] false none false)) #[none, none, some (Value.str (Str.ofString "String") 408), some (Value.str (Str.ofString "String") 416), some (Value.builtin "object.__new__"), some (Value.bool true)]) ::
  (nat_lit 206, Obj.mk (Value.type "getset_descriptor") none (Data.fields #[Value.str (Str.ofString "__dict__") 432, Value.ref 205, Value.builtin "function.__dict__", Value.builtin "function.__dict__#set"]) #[]) ::
  (nat_lit 207, Obj.mk (Value.type "getset_descriptor") none (Data.fields #[Value.str (Str.ofString "__weakref__") 434, Value.ref 205, Value.builtin "ExceptionGroup.__weakref__", Value.none]) #[]) ::
  (nat_lit 217, Obj.mk (Value.type "tuple") none (Data.seq #[]) #[]) ::
  (nat_lit 219, Obj.mk (Value.type "tuple") none (Data.seq #[Value.str (Str.ofString "self") 454, Value.str (Str.ofString "head") 455, Value.str (Str.ofString "octets") 456]) #[]) ::
  (nat_lit 220, Obj.mk (Value.type "tuple") none (Data.seq #[]) #[]) ::
  (nat_lit 222, Obj.mk (Value.type "code") none (Data.fields #[Value.str (Str.ofString "__init__") 451, Value.str (Str.ofString "Stream.__init__") 452, Value.str (Str.ofString "/claim/cut.py") 453, Value.int 77 0, Value.int 3 0, Value.int 0 0, Value.int 0 0, Value.int 3 0, Value.ref 217, Value.bool true, Value.int 181 0, Value.ref 218, Value.none, Value.ref 219, Value.ref 220, Value.ref 221, Value.int 457 0, Value.int 77 0, Value.str (Str.ofString "/claim/cut.py") 458]) #[]) ::
  (nat_lit 223, Obj.mk (Value.type "function") none (Data.func (FuncData.mk (Str.ofString "__init__") (Str.ofString "Stream.__init__") a1 (FuncBody.stmts a46) a91 3 [] Value.none Value.none Value.none (Value.str (Str.ofString "paperhold.objects") 375) none (Value.ref 222) Value.none 0)) #[]) ::
  (nat_lit 224, Obj.mk (Value.type "tuple") none (Data.seq #[Value.str (Str.ofString "head") 460, Value.str (Str.ofString "octets") 461]) #[]) ::
  (nat_lit 225, Obj.mk (Value.type "dict") none (Data.dict #[DictEntry.mk (PyData.keyHash P (Str.ofString "__module__")) (Value.str (Str.ofString "__module__") 446) (Value.str (Str.ofString "paperhold.objects") 375), DictEntry.mk (PyData.keyHash P (Str.ofString "__firstlineno__")) (Value.str (Str.ofString "__firstlineno__") 450) (Value.int 75 449), DictEntry.mk (PyData.keyHash P (Str.ofString "__init__")) (Value.str (Str.ofString "__init__") 459) (Value.ref 223), DictEntry.mk (PyData.keyHash P (Str.ofString "__static_attributes__")) (Value.str (Str.ofString "__static_attributes__") 462) (Value.ref 224), DictEntry.mk (PyData.keyHash P (Str.ofString "__dict__")) (Value.str (Str.ofString "__dict__") 464) (Value.ref 227), DictEntry.mk (PyData.keyHash P (Str.ofString "__weakref__")) (Value.str (Str.ofString "__weakref__") 466) (Value.ref 228), DictEntry.mk (PyData.keyHash P (Str.ofString "__doc__")) (Value.str (Str.ofString "__doc__") 467) Value.none] 4) #[]) ::
  (nat_lit 226, Obj.mk (Value.type "type") none (Data.cls (ClassData.mk (Str.ofString "Stream") [Value.type "object"] [Value.ref 226, Value.type "object"] 225 (Str.ofString "Stream") true [] [] false none false)) #[none, none, some (Value.str (Str.ofString "Stream") 439), some (Value.str (Str.ofString "Stream") 447), some (Value.builtin "object.__new__"), some (Value.bool true)]) ::
  (nat_lit 227, Obj.mk (Value.type "getset_descriptor") none (Data.fields #[Value.str (Str.ofString "__dict__") 463, Value.ref 226, Value.builtin "function.__dict__", Value.builtin "function.__dict__#set"]) #[]) ::
  (nat_lit 228, Obj.mk (Value.type "getset_descriptor") none (Data.fields #[Value.str (Str.ofString "__weakref__") 465, Value.ref 226, Value.builtin "ExceptionGroup.__weakref__", Value.none]) #[]) ::
  (nat_lit 238, Obj.mk (Value.type "tuple") none (Data.seq #[]) #[]) ::
  (nat_lit 240, Obj.mk (Value.type "tuple") none (Data.seq #[Value.str (Str.ofString "self") 485, Value.str (Str.ofString "number") 486, Value.str (Str.ofString "generation") 487]) #[]) ::
  (nat_lit 241, Obj.mk (Value.type "tuple") none (Data.seq #[]) #[]) ::
  (nat_lit 243, Obj.mk (Value.type "code") none (Data.fields #[Value.str (Str.ofString "__init__") 482, Value.str (Str.ofString "Reference.__init__") 483, Value.str (Str.ofString "/claim/cut.py") 484, Value.int 82 0, Value.int 3 0, Value.int 0 0, Value.int 0 0, Value.int 3 0, Value.ref 238, Value.bool true, Value.int 181 0, Value.ref 239, Value.none, Value.ref 240, Value.ref 241, Value.ref 242, Value.int 488 0, Value.int 82 0, Value.str (Str.ofString "/claim/cut.py") 489]) #[]) ::
  (nat_lit 244, Obj.mk (Value.type "function") none (Data.func (FuncData.mk (Str.ofString "__init__") (Str.ofString "Reference.__init__") a2 (FuncBody.stmts a47) a92 3 [] Value.none Value.none Value.none (Value.str (Str.ofString "paperhold.objects") 375) none (Value.ref 243) Value.none 0)) #[]) ::
  (nat_lit 245, Obj.mk (Value.type "tuple") none (Data.seq #[]) #[]) ::
  (nat_lit 247, Obj.mk (Value.type "tuple") none (Data.seq #[Value.str (Str.ofString "self") 494]) #[]) ::
  (nat_lit 248, Obj.mk (Value.type "tuple") none (Data.seq #[]) #[]) ::
  (nat_lit 250, Obj.mk (Value.type "code") none (Data.fields #[Value.str (Str.ofString "pair") 491, Value.str (Str.ofString "Reference.pair") 492, Value.str (Str.ofString "/claim/cut.py") 493, Value.int 86 0, Value.int 1 0, Value.int 0 0, Value.int 0 0, Value.int 3 0, Value.ref 245, Value.bool true, Value.int 181 0, Value.ref 246, Value.none, Value.ref 247, Value.ref 248, Value.ref 249, Value.int 495 0, Value.int 86 0, Value.str (Str.ofString "/claim/cut.py") 496]) #[]) ::
  (nat_lit 251, Obj.mk (Value.type "function") none (Data.func (FuncData.mk (Str.ofString "pair") (Str.ofString "Reference.pair") a3 (FuncBody.stmts a48) a93 3 [] Value.none Value.none Value.none (Value.str (Str.ofString "paperhold.objects") 375) none (Value.ref 250) Value.none 0)) #[]) ::
  (nat_lit 252, Obj.mk (Value.type "tuple") none (Data.seq #[Value.str (Str.ofString "generation") 498, Value.str (Str.ofString "number") 499]) #[]) ::
  (nat_lit 253, Obj.mk (Value.type "dict") none (Data.dict #[DictEntry.mk (PyData.keyHash P (Str.ofString "__module__")) (Value.str (Str.ofString "__module__") 477) (Value.str (Str.ofString "paperhold.objects") 375), DictEntry.mk (PyData.keyHash P (Str.ofString "__firstlineno__")) (Value.str (Str.ofString "__firstlineno__") 481) (Value.int 80 480), DictEntry.mk (PyData.keyHash P (Str.ofString "__init__")) (Value.str (Str.ofString "__init__") 490) (Value.ref 244), DictEntry.mk (PyData.keyHash P (Str.ofString "pair")) (Value.str (Str.ofString "pair") 497) (Value.ref 251), DictEntry.mk (PyData.keyHash P (Str.ofString "__static_attributes__")) (Value.str (Str.ofString "__static_attributes__") 500) (Value.ref 252), DictEntry.mk (PyData.keyHash P (Str.ofString "__dict__")) (Value.str (Str.ofString "__dict__") 502) (Value.ref 255), DictEntry.mk (PyData.keyHash P (Str.ofString "__weakref__")) (Value.str (Str.ofString "__weakref__") 504) (Value.ref 256), DictEntry.mk (PyData.keyHash P (Str.ofString "__doc__")) (Value.str (Str.ofString "__doc__") 505) Value.none] 4) #[]) ::
  (nat_lit 254, Obj.mk (Value.type "type") none (Data.cls (ClassData.mk (Str.ofString "Reference") [Value.type "object"] [Value.ref 254, Value.type "object"] 253 (Str.ofString "Reference") true [] [] false none false)) #[none, none, some (Value.str (Str.ofString "Reference") 470), some (Value.str (Str.ofString "Reference") 478), some (Value.builtin "object.__new__"), some (Value.bool true)]) ::
  (nat_lit 255, Obj.mk (Value.type "getset_descriptor") none (Data.fields #[Value.str (Str.ofString "__dict__") 501, Value.ref 254, Value.builtin "function.__dict__", Value.builtin "function.__dict__#set"]) #[]) ::
  (nat_lit 256, Obj.mk (Value.type "getset_descriptor") none (Data.fields #[Value.str (Str.ofString "__weakref__") 503, Value.ref 254, Value.builtin "ExceptionGroup.__weakref__", Value.none]) #[]) ::
  (nat_lit 259, Obj.mk (Value.type "tuple") none (Data.seq #[]) #[]) ::
  (nat_lit 261, Obj.mk (Value.type "tuple") none (Data.seq #[Value.str (Str.ofString "value") 511]) #[]) ::
  (nat_lit 262, Obj.mk (Value.type "tuple") none (Data.seq #[]) #[]) ::
  (nat_lit 264, Obj.mk (Value.type "code") none (Data.fields #[Value.str (Str.ofString "kind_of") 508, Value.str (Str.ofString "kind_of") 509, Value.str (Str.ofString "/claim/cut.py") 510, Value.int 88 0, Value.int 1 0, Value.int 0 0, Value.int 0 0, Value.int 3 0, Value.ref 259, Value.bool true, Value.int 181 0, Value.ref 260, Value.none, Value.ref 261, Value.ref 262, Value.ref 263, Value.int 512 0, Value.int 88 0, Value.str (Str.ofString "/claim/cut.py") 513]) #[]) ::
  (nat_lit 265, Obj.mk (Value.type "function") none (Data.func (FuncData.mk (Str.ofString "kind_of") (Str.ofString "kind_of") a29 (FuncBody.stmts a74) a119 3 [] Value.none Value.none Value.none (Value.str (Str.ofString "paperhold.objects") 375) none (Value.ref 264) Value.none 0)) #[]) ::
  (nat_lit 266, Obj.mk (Value.type "tuple") none (Data.seq #[]) #[]) ::
  (nat_lit 268, Obj.mk (Value.type "tuple") none (Data.seq #[Value.str (Str.ofString "kind") 518, Value.str (Str.ofString "value") 519]) #[]) ::
  (nat_lit 269, Obj.mk (Value.type "tuple") none (Data.seq #[]) #[]) ::
  (nat_lit 271, Obj.mk (Value.type "code") none (Data.fields #[Value.str (Str.ofString "told_plain") 515, Value.str (Str.ofString "told_plain") 516, Value.str (Str.ofString "/claim/cut.py") 517, Value.int 110 0, Value.int 2 0, Value.int 0 0, Value.int 0 0, Value.int 3 0, Value.ref 266, Value.bool true, Value.int 181 0, Value.ref 267, Value.none, Value.ref 268, Value.ref 269, Value.ref 270, Value.int 520 0, Value.int 110 0, Value.str (Str.ofString "/claim/cut.py") 521]) #[]) ::
  (nat_lit 272, Obj.mk (Value.type "function") none (Data.func (FuncData.mk (Str.ofString "told_plain") (Str.ofString "told_plain") a30 (FuncBody.stmts a75) a120 3 [] Value.none Value.none Value.none (Value.str (Str.ofString "paperhold.objects") 375) none (Value.ref 271) Value.none 0)) #[]) ::
  (nat_lit 273, Obj.mk (Value.type "tuple") none (Data.seq #[]) #[]) ::
  (nat_lit 276, Obj.mk (Value.type "code") none (Data.fields #[Value.str (Str.ofString "told") 523, Value.str (Str.ofString "told") 524, Value.str (Str.ofString "/claim/cut.py") 525, Value.int 124 0, Value.int 1 0, Value.int 0 0, Value.int 0 0, Value.int 3 0, Value.ref 273, Value.bool true, Value.int 181 0, Value.ref 274, Value.none, Value.none, Value.none, Value.ref 275, Value.int 526 0, Value.int 124 0, Value.str (Str.ofString "/claim/cut.py") 527]) #[]) ::
  (nat_lit 277, Obj.mk (Value.type "function") none (Data.func (FuncData.mk (Str.ofString "told") (Str.ofString "told") a31 (FuncBody.stmts a76) a121 3 [] Value.none Value.none Value.none (Value.str (Str.ofString "paperhold.objects") 375) none (Value.ref 276) Value.none 0)) #[]) ::
  (nat_lit 285, Obj.mk (Value.type "tuple") none (Data.seq #[Value.none, Value.none]) #[]) ::
  (nat_lit 286, Obj.mk (Value.type "tuple") none (Data.seq #[]) #[]) ::
  (nat_lit 288, Obj.mk (Value.type "tuple") none (Data.seq #[Value.str (Str.ofString "self") 545, Value.str (Str.ofString "table") 546, Value.str (Str.ofString "trailer") 547]) #[]) ::
  (nat_lit 289, Obj.mk (Value.type "tuple") none (Data.seq #[]) #[]) ::
  (nat_lit 291, Obj.mk (Value.type "code") none (Data.fields #[Value.str (Str.ofString "__init__") 542, Value.str (Str.ofString "Lookup.__init__") 543, Value.str (Str.ofString "/claim/cut.py") 544, Value.int 136 0, Value.int 3 0, Value.int 0 0, Value.int 0 0, Value.int 3 0, Value.ref 286, Value.bool true, Value.int 181 0, Value.ref 287, Value.none, Value.ref 288, Value.ref 289, Value.ref 290, Value.int 548 0, Value.int 136 0, Value.str (Str.ofString "/claim/cut.py") 549]) #[]) ::
  (nat_lit 292, Obj.mk (Value.type "function") none (Data.func (FuncData.mk (Str.ofString "__init__") (Str.ofString "Lookup.__init__") a4 (FuncBody.stmts a49) a94 3 [] (Value.ref 285) Value.none Value.none (Value.str (Str.ofString "paperhold.objects") 375) none (Value.ref 291) Value.none 0)) #[]) ::
  (nat_lit 293, Obj.mk (Value.type "tuple") none (Data.seq #[]) #[]) ::
  (nat_lit 295, Obj.mk (Value.type "tuple") none (Data.seq #[Value.str (Str.ofString "self") 554, Value.str (Str.ofString "value") 555, Value.str (Str.ofString "here") 556, Value.str (Str.ofString "hop") 557, Value.str (Str.ofString "generation") 558, Value.str (Str.ofString "found") 559]) #[]) ::
  (nat_lit 296, Obj.mk (Value.type "tuple") none (Data.seq #[]) #[]) ::
  (nat_lit 298, Obj.mk (Value.type "code") none (Data.fields #[Value.str (Str.ofString "fetch") 551, Value.str (Str.ofString "Lookup.fetch") 552, Value.str (Str.ofString "/claim/cut.py") 553, Value.int 140 0, Value.int 2 0, Value.int 0 0, Value.int 0 0, Value.int 3 0, Value.ref 293, Value.bool true, Value.int 181 0, Value.ref 294, Value.none, Value.ref 295, Value.ref 296, Value.ref 297, Value.int 560 0, Value.int 140 0, Value.str (Str.ofString "/claim/cut.py") 561]) #[]) ::
  (nat_lit 299, Obj.mk (Value.type "function") none (Data.func (FuncData.mk (Str.ofString "fetch") (Str.ofString "Lookup.fetch") a5 (FuncBody.stmts a50) a95 3 [] Value.none Value.none Value.none (Value.str (Str.ofString "paperhold.objects") 375) none (Value.ref 298) Value.none 0)) #[]) ::
  (nat_lit 300, Obj.mk (Value.type "tuple") none (Data.seq #[]) #[]) ::
  (nat_lit 302, Obj.mk (Value.type "tuple") none (Data.seq #[Value.str (Str.ofString "self") 566, Value.str (Str.ofString "head") 567, Value.str (Str.ofString "key") 568]) #[]) ::
  (nat_lit 303, Obj.mk (Value.type "tuple") none (Data.seq #[]) #[]) ::
  (nat_lit 305, Obj.mk (Value.type "code") none (Data.fields #[Value.str (Str.ofString "get") 563, Value.str (Str.ofString "Lookup.get") 564, Value.str (Str.ofString "/claim/cut.py") 565, Value.int 151 0, Value.int 3 0, Value.int 0 0, Value.int 0 0, Value.int 3 0, Value.ref 300, Value.bool true, Value.int 181 0, Value.ref 301, Value.none, Value.ref 302, Value.ref 303, Value.ref 304, Value.int 569 0, Value.int 151 0, Value.str (Str.ofString "/claim/cut.py") 570]) #[]) ::
  (nat_lit 306, Obj.mk (Value.type "function") none (Data.func (FuncData.mk (Str.ofString "get") (Str.ofString "Lookup.get") a6 (FuncBody.stmts a51) a96 3 [] Value.none Value.none Value.none (Value.str (Str.ofString "paperhold.objects") 375) none (Value.ref 305) Value.none 0)) #[]) ::
  (nat_lit 307, Obj.mk (Value.type "tuple") none (Data.seq #[Value.str (Str.ofString "table") 572, Value.str (Str.ofString "trailer") 573]) #[]) ::
  (nat_lit 308, Obj.mk (Value.type "dict") none (Data.dict #[DictEntry.mk (PyData.keyHash P (Str.ofString "__module__")) (Value.str (Str.ofString "__module__") 537) (Value.str (Str.ofString "paperhold.objects") 375), DictEntry.mk (PyData.keyHash P (Str.ofString "__firstlineno__")) (Value.str (Str.ofString "__firstlineno__") 541) (Value.int 134 540), DictEntry.mk (PyData.keyHash P (Str.ofString "__init__")) (Value.str (Str.ofString "__init__") 550) (Value.ref 292), DictEntry.mk (PyData.keyHash P (Str.ofString "fetch")) (Value.str (Str.ofString "fetch") 562) (Value.ref 299), DictEntry.mk (PyData.keyHash P (Str.ofString "get")) (Value.str (Str.ofString "get") 571) (Value.ref 306), DictEntry.mk (PyData.keyHash P (Str.ofString "__static_attributes__")) (Value.str (Str.ofString "__static_attributes__") 574) (Value.ref 307), DictEntry.mk (PyData.keyHash P (Str.ofString "__dict__")) (Value.str (Str.ofString "__dict__") 576) (Value.ref 310), DictEntry.mk (PyData.keyHash P (Str.ofString "__weakref__")) (Value.str (Str.ofString "__weakref__") 578) (Value.ref 311), DictEntry.mk (PyData.keyHash P (Str.ofString "__doc__")) (Value.str (Str.ofString "__doc__") 579) Value.none] 4) #[]) ::
  (nat_lit 309, Obj.mk (Value.type "type") none (Data.cls (ClassData.mk (Str.ofString "Lookup") [Value.type "object"] [Value.ref 309, Value.type "object"] 308 (Str.ofString "Lookup") true [] [Value.ref 363] false none false)) #[none, none, some (Value.str (Str.ofString "Lookup") 530), some (Value.str (Str.ofString "Lookup") 538), some (Value.builtin "object.__new__"), some (Value.bool true)]) ::
  (nat_lit 310, Obj.mk (Value.type "getset_descriptor") none (Data.fields #[Value.str (Str.ofString "__dict__") 575, Value.ref 309, Value.builtin "function.__dict__", Value.builtin "function.__dict__#set"]) #[]) ::
  (nat_lit 311, Obj.mk (Value.type "getset_descriptor") none (Data.fields #[Value.str (Str.ofString "__weakref__") 577, Value.ref 309, Value.builtin "ExceptionGroup.__weakref__", Value.none]) #[]) ::
  (nat_lit 314, Obj.mk (Value.type "tuple") none (Data.seq #[Value.ref 309]) #[]) ::
  (nat_lit 321, Obj.mk (Value.type "tuple") none (Data.seq #[]) #[]) ::
  (nat_lit 323, Obj.mk (Value.type "tuple") none (Data.seq #[Value.str (Str.ofString "self") 597, Value.str (Str.ofString "number") 598, Value.str (Str.ofString "generation") 599, Value.str (Str.ofString "value") 600]) #[]) ::
  (nat_lit 324, Obj.mk (Value.type "tuple") none (Data.seq #[]) #[]) ::
  (nat_lit 326, Obj.mk (Value.type "code") none (Data.fields #[Value.str (Str.ofString "put") 594, Value.str (Str.ofString "Shelf.put") 595, Value.str (Str.ofString "/claim/cut.py") 596, Value.int 155 0, Value.int 4 0, Value.int 0 0, Value.int 0 0, Value.int 3 0, Value.ref 321, Value.bool true, Value.int 181 0, Value.ref 322, Value.none, Value.ref 323, Value.ref 324, Value.ref 325, Value.int 601 0, Value.int 155 0, Value.str (Str.ofString "/claim/cut.py") 602]) #[]) ::
  (nat_lit 327, Obj.mk (Value.type "function") none (Data.func (FuncData.mk (Str.ofString "put") (Str.ofString "Shelf.put") a7 (FuncBody.stmts a52) a97 3 [] Value.none Value.none Value.none (Value.str (Str.ofString "paperhold.objects") 375) none (Value.ref 326) Value.none 0)) #[]) ::
  (nat_lit 328, Obj.mk (Value.type "tuple") none (Data.seq #[]) #[]) ::
  (nat_lit 330, Obj.mk (Value.type "tuple") none (Data.seq #[Value.str (Str.ofString "self") 607, Value.str (Str.ofString "value") 608, Value.str (Str.ofString "number") 609]) #[]) ::
  (nat_lit 331, Obj.mk (Value.type "tuple") none (Data.seq #[]) #[]) ::
  (nat_lit 333, Obj.mk (Value.type "code") none (Data.fields #[Value.str (Str.ofString "add") 604, Value.str (Str.ofString "Shelf.add") 605, Value.str (Str.ofString "/claim/cut.py") 606, Value.int 158 0, Value.int 2 0, Value.int 0 0, Value.int 0 0, Value.int 3 0, Value.ref 328, Value.bool true, Value.int 181 0, Value.ref 329, Value.none, Value.ref 330, Value.ref 331, Value.ref 332, Value.int 610 0, Value.int 158 0, Value.str (Str.ofString "/claim/cut.py") 611]) #[]) ::
  (nat_lit 334, Obj.mk (Value.type "function") none (Data.func (FuncData.mk (Str.ofString "add") (Str.ofString "Shelf.add") a8 (FuncBody.stmts a53) a98 3 [] Value.none Value.none Value.none (Value.str (Str.ofString "paperhold.objects") 375) none (Value.ref 333) Value.none 0)) #[]) ::
  (nat_lit 335, Obj.mk (Value.type "tuple") none (Data.seq #[]) #[]) ::
  (nat_lit 337, Obj.mk (Value.type "tuple") none (Data.seq #[Value.str (Str.ofString "self") 616, Value.str (Str.ofString "number") 617]) #[]) ::
  (nat_lit 338, Obj.mk (Value.type "tuple") none (Data.seq #[]) #[]) ::
  (nat_lit 340, Obj.mk (Value.type "code") none (Data.fields #[Value.str (Str.ofString "drop") 613, Value.str (Str.ofString "Shelf.drop") 614, Value.str (Str.ofString "/claim/cut.py") 615, Value.int 165 0, Value.int 2 0, Value.int 0 0, Value.int 0 0, Value.int 3 0, Value.ref 335, Value.bool true, Value.int 181 0, Value.ref 336, Value.none, Value.ref 337, Value.ref 338, Value.ref 339, Value.int 618 0, Value.int 165 0, Value.str (Str.ofString "/claim/cut.py") 619]) #[]) ::
  (nat_lit 341, Obj.mk (Value.type "function") none (Data.func (FuncData.mk (Str.ofString "drop") (Str.ofString "Shelf.drop") a9 (FuncBody.stmts a54) a99 3 [] Value.none Value.none Value.none (Value.str (Str.ofString "paperhold.objects") 375) none (Value.ref 340) Value.none 0)) #[]) ::
  (nat_lit 342, Obj.mk (Value.type "tuple") none (Data.seq #[]) #[]) ::
  (nat_lit 344, Obj.mk (Value.type "tuple") none (Data.seq #[Value.str (Str.ofString "self") 624]) #[]) ::
  (nat_lit 345, Obj.mk (Value.type "tuple") none (Data.seq #[]) #[]) ::
  (nat_lit 347, Obj.mk (Value.type "code") none (Data.fields #[Value.str (Str.ofString "numbers") 621, Value.str (Str.ofString "Shelf.numbers") 622, Value.str (Str.ofString "/claim/cut.py") 623, Value.int 168 0, Value.int 1 0, Value.int 0 0, Value.int 0 0, Value.int 3 0, Value.ref 342, Value.bool true, Value.int 181 0, Value.ref 343, Value.none, Value.ref 344, Value.ref 345, Value.ref 346, Value.int 625 0, Value.int 168 0, Value.str (Str.ofString "/claim/cut.py") 626]) #[]) ::
  (nat_lit 348, Obj.mk (Value.type "function") none (Data.func (FuncData.mk (Str.ofString "numbers") (Str.ofString "Shelf.numbers") a10 (FuncBody.stmts a55) a100 3 [] Value.none Value.none Value.none (Value.str (Str.ofString "paperhold.objects") 375) none (Value.ref 347) Value.none 0)) #[]) ::
  (nat_lit 349, Obj.mk (Value.type "tuple") none (Data.seq #[]) #[]) ::
  (nat_lit 351, Obj.mk (Value.type "tuple") none (Data.seq #[Value.str (Str.ofString "self") 631]) #[]) ::
  (nat_lit 352, Obj.mk (Value.type "tuple") none (Data.seq #[]) #[]) ::
  (nat_lit 354, Obj.mk (Value.type "code") none (Data.fields #[Value.str (Str.ofString "root") 628, Value.str (Str.ofString "Shelf.root") 629, Value.str (Str.ofString "/claim/cut.py") 630, Value.int 171 0, Value.int 1 0, Value.int 0 0, Value.int 0 0, Value.int 3 0, Value.ref 349, Value.bool true, Value.int 181 0, Value.ref 350, Value.none, Value.ref 351, Value.ref 352, Value.ref 353, Value.int 632 0, Value.int 171 0, Value.str (Str.ofString "/claim/cut.py") 633]) #[]) ::
  (nat_lit 355, Obj.mk (Value.type "function") none (Data.func (FuncData.mk (Str.ofString "root") (Str.ofString "Shelf.root") a11 (FuncBody.stmts a56) a101 3 [] Value.none Value.none Value.none (Value.str (Str.ofString "paperhold.objects") 375) none (Value.ref 354) Value.none 0)) #[]) ::
  (nat_lit 356, Obj.mk (Value.type "tuple") none (Data.seq #[]) #[]) ::
  (nat_lit 359, Obj.mk (Value.type "code") none (Data.fields #[Value.str (Str.ofString "told") 635, Value.str (Str.ofString "Shelf.told") 636, Value.str (Str.ofString "/claim/cut.py") 637, Value.int 174 0, Value.int 1 0, Value.int 0 0, Value.int 0 0, Value.int 3 0, Value.ref 356, Value.bool true, Value.int 181 0, Value.ref 357, Value.none, Value.none, Value.none, Value.ref 358, Value.int 638 0, Value.int 174 0, Value.str (Str.ofString "/claim/cut.py") 639]) #[]) ::
  (nat_lit 360, Obj.mk (Value.type "function") none (Data.func (FuncData.mk (Str.ofString "told") (Str.ofString "Shelf.told") a12 (FuncBody.stmts a57) a102 3 [] Value.none Value.none Value.none (Value.str (Str.ofString "paperhold.objects") 375) none (Value.ref 359) Value.none 0)) #[]) ::
  (nat_lit 361, Obj.mk (Value.type "tuple") none (Data.seq #[]) #[]) ::
  (nat_lit 362, Obj.mk (Value.type "dict") none (Data.dict #[DictEntry.mk (PyData.keyHash P (Str.ofString "__module__")) (Value.str (Str.ofString "__module__") 589) (Value.str (Str.ofString "paperhold.objects") 375), DictEntry.mk (PyData.keyHash P (Str.ofString "__firstlineno__")) (Value.str (Str.ofString "__firstlineno__") 593) (Value.int 153 592), DictEntry.mk (PyData.keyHash P (Str.ofString "put")) (Value.str (Str.ofString "put") 603) (Value.ref 327), DictEntry.mk (PyData.keyHash P (Str.ofString "add")) (Value.str (Str.ofString "add") 612) (Value.ref 334), DictEntry.mk (PyData.keyHash P (Str.ofString "drop")) (Value.str (Str.ofString "drop") 620) (Value.ref 341), DictEntry.mk (PyData.keyHash P (Str.ofString "numbers")) (Value.str (Str.ofString "numbers") 627) (Value.ref 348), DictEntry.mk (PyData.keyHash P (Str.ofString "root")) (Value.str (Str.ofString "root") 634) (Value.ref 355), DictEntry.mk (PyData.keyHash P (Str.ofString "told")) (Value.str (Str.ofString "told") 640) (Value.ref 360), DictEntry.mk (PyData.keyHash P (Str.ofString "__static_attributes__")) (Value.str (Str.ofString "__static_attributes__") 641) (Value.ref 361), DictEntry.mk (PyData.keyHash P (Str.ofString "__doc__")) (Value.str (Str.ofString "__doc__") 642) Value.none] 2) #[]) ::
  (nat_lit 363, Obj.mk (Value.type "type") none (Data.cls (ClassData.mk (Str.ofString "Shelf") [Value.ref 309] [Value.ref 363, Value.ref 309, Value.type "object"] 362 (Str.ofString "Shelf") true [] [] false none false)) #[some (Value.ref 314), none, some (Value.str (Str.ofString "Shelf") 582), some (Value.str (Str.ofString "Shelf") 590), some (Value.builtin "object.__new__"), some (Value.bool true)]) ::
  (nat_lit 366, Obj.mk (Value.type "tuple") none (Data.seq #[]) #[]) ::
  (nat_lit 368, Obj.mk (Value.type "tuple") none (Data.seq #[Value.str (Str.ofString "shelf") 652, Value.str (Str.ofString "head") 653, Value.str (Str.ofString "key") 654, Value.str (Str.ofString "default") 655, Value.str (Str.ofString "found") 656]) #[]) ::
  (nat_lit 369, Obj.mk (Value.type "tuple") none (Data.seq #[]) #[]) ::
  (nat_lit 371, Obj.mk (Value.type "code") none (Data.fields #[Value.str (Str.ofString "word_at") 649, Value.str (Str.ofString "word_at") 650, Value.str (Str.ofString "/claim/cut.py") 651, Value.int 179 0, Value.int 4 0, Value.int 0 0, Value.int 0 0, Value.int 3 0, Value.ref 366, Value.bool true, Value.int 181 0, Value.ref 367, Value.none, Value.ref 368, Value.ref 369, Value.ref 370, Value.int 657 0, Value.int 179 0, Value.str (Str.ofString "/claim/cut.py") 658]) #[]) ::
  (nat_lit 372, Obj.mk (Value.type "function") none (Data.func (FuncData.mk (Str.ofString "word_at") (Str.ofString "word_at") a32 (FuncBody.stmts a77) a122 3 [] Value.none Value.none Value.none (Value.str (Str.ofString "paperhold.layers") 645) none (Value.ref 371) Value.none 0)) #[]) ::
  (nat_lit 373, Obj.mk (Value.type "tuple") none (Data.seq #[]) #[]) ::
  (nat_lit 375, Obj.mk (Value.type "tuple") none (Data.seq #[Value.str (Str.ofString "shelf") 663, Value.str (Str.ofString "value") 664, Value.str (Str.ofString "found") 665]) #[]) ::
  (nat_lit 376, Obj.mk (Value.type "tuple") none (Data.seq #[]) #[]) ::
  (nat_lit 378, Obj.mk (Value.type "code") none (Data.fields #[Value.str (Str.ofString "is_group") 660, Value.str (Str.ofString "is_group") 661, Value.str (Str.ofString "/claim/cut.py") 662, Value.int 182 0, Value.int 2 0, Value.int 0 0, Value.int 0 0, Value.int 3 0, Value.ref 373, Value.bool true, Value.int 181 0, Value.ref 374, Value.none, Value.ref 375, Value.ref 376, Value.ref 377, Value.int 666 0, Value.int 182 0, Value.str (Str.ofString "/claim/cut.py") 667]) #[]) ::
  (nat_lit 379, Obj.mk (Value.type "function") none (Data.func (FuncData.mk (Str.ofString "is_group") (Str.ofString "is_group") a33 (FuncBody.stmts a78) a123 3 [] Value.none Value.none Value.none (Value.str (Str.ofString "paperhold.layers") 645) none (Value.ref 378) Value.none 0)) #[]) ::
  (nat_lit 380, Obj.mk (Value.type "tuple") none (Data.seq #[Value.int 0 669]) #[]) ::
  (nat_lit 381, Obj.mk (Value.type "tuple") none (Data.seq #[]) #[]) ::
  (nat_lit 384, Obj.mk (Value.type "code") none (Data.fields #[Value.str (Str.ofString "expression_state") 670, Value.str (Str.ofString "expression_state") 671, Value.str (Str.ofString "/claim/cut.py") 672, Value.int 185 0, Value.int 4 0, Value.int 0 0, Value.int 0 0, Value.int 3 0, Value.ref 381, Value.bool true, Value.int 181 0, Value.ref 382, Value.none, Value.none, Value.none, Value.ref 383, Value.int 673 0, Value.int 185 0, Value.str (Str.ofString "/claim/cut.py") 674]) #[]) ::
  (nat_lit 385, Obj.mk (Value.type "function") none (Data.func (FuncData.mk (Str.ofString "expression_state") (Str.ofString "expression_state") a34 (FuncBody.stmts a79) a124 3 [] (Value.ref 380) Value.none Value.none (Value.str (Str.ofString "paperhold.layers") 645) none (Value.ref 384) Value.none 0)) #[]) ::
  (nat_lit 386, Obj.mk (Value.type "tuple") none (Data.seq #[]) #[]) ::
  (nat_lit 388, Obj.mk (Value.type "tuple") none (Data.seq #[Value.str (Str.ofString "script") 681, Value.str (Str.ofString "take") 682]) #[]) ::
  (nat_lit 389, Obj.mk (Value.type "tuple") none (Data.seq #[Value.str (Str.ofString "cells") 683, Value.str (Str.ofString "place") 684]) #[]) ::
  (nat_lit 391, Obj.mk (Value.type "code") none (Data.fields #[Value.str (Str.ofString "_law_taker") 678, Value.str (Str.ofString "_law_taker") 679, Value.str (Str.ofString "/claim/cut.py") 680, Value.int 202 0, Value.int 1 0, Value.int 0 0, Value.int 0 0, Value.int 3 0, Value.ref 386, Value.bool true, Value.int 181 0, Value.ref 387, Value.none, Value.ref 388, Value.ref 389, Value.ref 390, Value.int 685 0, Value.int 202 0, Value.str (Str.ofString "/claim/cut.py") 686]) #[]) ::
  (nat_lit 392, Obj.mk (Value.type "function") none (Data.func (FuncData.mk (Str.ofString "_law_taker") (Str.ofString "_law_taker") a35 (FuncBody.stmts a80) a125 3 [] Value.none Value.none Value.none (Value.str (Str.ofString "law_og0163_01") 676) none (Value.ref 391) Value.none 0)) #[]) ::
  (nat_lit 393, Obj.mk (Value.type "tuple") none (Data.seq #[]) #[]) ::
  (nat_lit 396, Obj.mk (Value.type "code") none (Data.fields #[Value.str (Str.ofString "_law_plan") 688, Value.str (Str.ofString "_law_plan") 689, Value.str (Str.ofString "/claim/cut.py") 690, Value.int 214 0, Value.int 3 0, Value.int 0 0, Value.int 0 0, Value.int 3 0, Value.ref 393, Value.bool true, Value.int 181 0, Value.ref 394, Value.none, Value.none, Value.none, Value.ref 395, Value.int 691 0, Value.int 214 0, Value.str (Str.ofString "/claim/cut.py") 692]) #[]) ::
  (nat_lit 397, Obj.mk (Value.type "function") none (Data.func (FuncData.mk (Str.ofString "_law_plan") (Str.ofString "_law_plan") a36 (FuncBody.stmts a81) a126 3 [] Value.none Value.none Value.none (Value.str (Str.ofString "law_og0163_01") 676) none (Value.ref 396) Value.none 0)) #[]) ::
  (nat_lit 398, Obj.mk (Value.type "tuple") none (Data.seq #[]) #[]) ::
  (nat_lit 401, Obj.mk (Value.type "code") none (Data.fields #[Value.str (Str.ofString "_law_made") 694, Value.str (Str.ofString "_law_made") 695, Value.str (Str.ofString "/claim/cut.py") 696, Value.int 221 0, Value.int 4 0, Value.int 0 0, Value.int 0 0, Value.int 3 0, Value.ref 398, Value.bool true, Value.int 181 0, Value.ref 399, Value.none, Value.none, Value.none, Value.ref 400, Value.int 697 0, Value.int 221 0, Value.str (Str.ofString "/claim/cut.py") 698]) #[]) ::
  (nat_lit 402, Obj.mk (Value.type "function") none (Data.func (FuncData.mk (Str.ofString "_law_made") (Str.ofString "_law_made") a37 (FuncBody.stmts a82) a127 3 [] Value.none Value.none Value.none (Value.str (Str.ofString "law_og0163_01") 676) none (Value.ref 401) Value.none 0)) #[]) ::
  (nat_lit 403, Obj.mk (Value.type "tuple") none (Data.seq #[]) #[]) ::
  (nat_lit 406, Obj.mk (Value.type "code") none (Data.fields #[Value.str (Str.ofString "_law_denied") 700, Value.str (Str.ofString "_law_denied") 701, Value.str (Str.ofString "/claim/cut.py") 702, Value.int 226 0, Value.int 1 0, Value.int 0 0, Value.int 0 0, Value.int 3 0, Value.ref 403, Value.bool true, Value.int 181 0, Value.ref 404, Value.none, Value.none, Value.none, Value.ref 405, Value.int 703 0, Value.int 226 0, Value.str (Str.ofString "/claim/cut.py") 704]) #[]) ::
  (nat_lit 407, Obj.mk (Value.type "function") none (Data.func (FuncData.mk (Str.ofString "_law_denied") (Str.ofString "_law_denied") a38 (FuncBody.stmts a83) a128 3 [] Value.none Value.none Value.none (Value.str (Str.ofString "law_og0163_01") 676) none (Value.ref 406) Value.none 0)) #[]) ::
  (nat_lit 408, Obj.mk (Value.type "tuple") none (Data.seq #[]) #[]) ::
  (nat_lit 411, Obj.mk (Value.type "code") none (Data.fields #[Value.str (Str.ofString "_law_turned") 706, Value.str (Str.ofString "_law_turned") 707, Value.str (Str.ofString "/claim/cut.py") 708, Value.int 232 0, Value.int 2 0, Value.int 0 0, Value.int 0 0, Value.int 3 0, Value.ref 408, Value.bool true, Value.int 181 0, Value.ref 409, Value.none, Value.none, Value.none, Value.ref 410, Value.int 709 0, Value.int 232 0, Value.str (Str.ofString "/claim/cut.py") 710]) #[]) ::
  (nat_lit 412, Obj.mk (Value.type "function") none (Data.func (FuncData.mk (Str.ofString "_law_turned") (Str.ofString "_law_turned") a39 (FuncBody.stmts a84) a129 3 [] Value.none Value.none Value.none (Value.str (Str.ofString "law_og0163_01") 676) none (Value.ref 411) Value.none 0)) #[]) ::
  (nat_lit 413, Obj.mk (Value.type "tuple") none (Data.seq #[]) #[]) ::
  (nat_lit 416, Obj.mk (Value.type "code") none (Data.fields #[Value.str (Str.ofString "_law_mirror") 712, Value.str (Str.ofString "_law_mirror") 713, Value.str (Str.ofString "/claim/cut.py") 714, Value.int 238 0, Value.int 1 0, Value.int 0 0, Value.int 0 0, Value.int 3 0, Value.ref 413, Value.bool true, Value.int 181 0, Value.ref 414, Value.none, Value.none, Value.none, Value.ref 415, Value.int 715 0, Value.int 238 0, Value.str (Str.ofString "/claim/cut.py") 716]) #[]) ::
  (nat_lit 417, Obj.mk (Value.type "function") none (Data.func (FuncData.mk (Str.ofString "_law_mirror") (Str.ofString "_law_mirror") a40 (FuncBody.stmts a85) a130 3 [] Value.none Value.none Value.none (Value.str (Str.ofString "law_og0163_01") 676) none (Value.ref 416) Value.none 0)) #[]) ::
  (nat_lit 418, Obj.mk (Value.type "tuple") none (Data.seq #[]) #[]) ::
  (nat_lit 420, Obj.mk (Value.type "tuple") none (Data.seq #[Value.str (Str.ofString "take") 721, Value.str (Str.ofString "shelf") 722, Value.str (Str.ofString "groups") 723, Value.str (Str.ofString "plan") 724, Value.str (Str.ofString "states") 725]) #[]) ::
  (nat_lit 421, Obj.mk (Value.type "tuple") none (Data.seq #[]) #[]) ::
  (nat_lit 423, Obj.mk (Value.type "code") none (Data.fields #[Value.str (Str.ofString "_law_truth") 718, Value.str (Str.ofString "_law_truth") 719, Value.str (Str.ofString "/claim/cut.py") 720, Value.int 240 0, Value.int 5 0, Value.int 0 0, Value.int 0 0, Value.int 3 0, Value.ref 418, Value.bool true, Value.int 181 0, Value.ref 419, Value.none, Value.ref 420, Value.ref 421, Value.ref 422, Value.int 726 0, Value.int 240 0, Value.str (Str.ofString "/claim/cut.py") 727]) #[]) ::
  (nat_lit 424, Obj.mk (Value.type "function") none (Data.func (FuncData.mk (Str.ofString "_law_truth") (Str.ofString "_law_truth") a41 (FuncBody.stmts a86) a131 3 [] Value.none Value.none Value.none (Value.str (Str.ofString "law_og0163_01") 676) none (Value.ref 423) Value.none 0)) #[]) ::
  (nat_lit 425, Obj.mk (Value.type "tuple") none (Data.seq #[]) #[]) ::
  (nat_lit 428, Obj.mk (Value.type "code") none (Data.fields #[Value.str (Str.ofString "_law_kept") 729, Value.str (Str.ofString "_law_kept") 730, Value.str (Str.ofString "/claim/cut.py") 731, Value.int 242 0, Value.int 5 0, Value.int 0 0, Value.int 0 0, Value.int 3 0, Value.ref 425, Value.bool true, Value.int 181 0, Value.ref 426, Value.none, Value.none, Value.none, Value.ref 427, Value.int 732 0, Value.int 242 0, Value.str (Str.ofString "/claim/cut.py") 733]) #[]) ::
  (nat_lit 429, Obj.mk (Value.type "function") none (Data.func (FuncData.mk (Str.ofString "_law_kept") (Str.ofString "_law_kept") a42 (FuncBody.stmts a87) a132 3 [] Value.none Value.none Value.none (Value.str (Str.ofString "law_og0163_01") 676) none (Value.ref 428) Value.none 0)) #[]) ::
  (nat_lit 430, Obj.mk (Value.type "tuple") none (Data.seq #[]) #[]) ::
  (nat_lit 433, Obj.mk (Value.type "code") none (Data.fields #[Value.str (Str.ofString "law") 735, Value.str (Str.ofString "law") 736, Value.str (Str.ofString "/claim/cut.py") 737, Value.int 255 0, Value.int 1 0, Value.int 0 0, Value.int 0 0, Value.int 3 0, Value.ref 430, Value.bool true, Value.int 181 0, Value.ref 431, Value.none, Value.none, Value.none, Value.ref 432, Value.int 738 0, Value.int 255 0, Value.str (Str.ofString "/claim/cut.py") 739]) #[]) ::
  (nat_lit 434, Obj.mk (Value.type "function") none (Data.func (FuncData.mk (Str.ofString "law") (Str.ofString "law") a43 (FuncBody.stmts a88) a133 3 [] Value.none Value.none Value.none (Value.str (Str.ofString "law_og0163_01") 676) none (Value.ref 433) Value.none 0)) #[]) :: []
noncomputable def K : Params → Frag := fun P => by
  apply (fun (k : Frag) (_ : K0 (stArgs (pM 10 0)) (stArgs (pM 11 0)) (stArgs (pM 12 0)) (stArgs (pM 12 1)) (stArgs (pM 17 0)) (stArgs (pM 17 1)) (stArgs (pM 17 2)) (stArgs (pM 18 0)) (stArgs (pM 18 1)) (stArgs (pM 18 2)) (stArgs (pM 18 3)) (stArgs (pM 18 4)) (stArgs (pM 18 5)) (stArgs (pM 2 0)) (stArgs (pM 2 1)) (stArgs (pM 5 0)) (stArgs (pM 5 1)) (stArgs (pM 5 10)) (stArgs (pM 5 11)) (stArgs (pM 5 2)) (stArgs (pM 5 3)) (stArgs (pM 5 4)) (stArgs (pM 5 5)) (stArgs (pM 5 6)) (stArgs (pM 5 7)) (stArgs (pM 5 8)) (stArgs (pM 5 9)) (stArgs (pM 9 0)) (stArgs (pT 0)) (stArgs (pT 13)) (stArgs (pT 14)) (stArgs (pT 15)) (stArgs (pT 21)) (stArgs (pT 22)) (stArgs (pT 23)) (stArgs (pT 25)) (stArgs (pT 26)) (stArgs (pT 27)) (stArgs (pT 28)) (stArgs (pT 29)) (stArgs (pT 30)) (stArgs (pT 31)) (stArgs (pT 32)) (stArgs (pT 33)) (stArgs (pT 6)) (stBody (pM 10 0)) (stBody (pM 11 0)) (stBody (pM 12 0)) (stBody (pM 12 1)) (stBody (pM 17 0)) (stBody (pM 17 1)) (stBody (pM 17 2)) (stBody (pM 18 0)) (stBody (pM 18 1)) (stBody (pM 18 2)) (stBody (pM 18 3)) (stBody (pM 18 4)) (stBody (pM 18 5)) (stBody (pM 2 0)) (stBody (pM 2 1)) (stBody (pM 5 0)) (stBody (pM 5 1)) (stBody (pM 5 10)) (stBody (pM 5 11)) (stBody (pM 5 2)) (stBody (pM 5 3)) (stBody (pM 5 4)) (stBody (pM 5 5)) (stBody (pM 5 6)) (stBody (pM 5 7)) (stBody (pM 5 8)) (stBody (pM 5 9)) (stBody (pM 9 0)) (stBody (pT 0)) (stBody (pT 13)) (stBody (pT 14)) (stBody (pT 15)) (stBody (pT 21)) (stBody (pT 22)) (stBody (pT 23)) (stBody (pT 25)) (stBody (pT 26)) (stBody (pT 27)) (stBody (pT 28)) (stBody (pT 29)) (stBody (pT 30)) (stBody (pT 31)) (stBody (pT 32)) (stBody (pT 33)) (stBody (pT 6)) (stScope (pM 10 0)) (stScope (pM 11 0)) (stScope (pM 12 0)) (stScope (pM 12 1)) (stScope (pM 17 0)) (stScope (pM 17 1)) (stScope (pM 17 2)) (stScope (pM 18 0)) (stScope (pM 18 1)) (stScope (pM 18 2)) (stScope (pM 18 3)) (stScope (pM 18 4)) (stScope (pM 18 5)) (stScope (pM 2 0)) (stScope (pM 2 1)) (stScope (pM 5 0)) (stScope (pM 5 1)) (stScope (pM 5 10)) (stScope (pM 5 11)) (stScope (pM 5 2)) (stScope (pM 5 3)) (stScope (pM 5 4)) (stScope (pM 5 5)) (stScope (pM 5 6)) (stScope (pM 5 7)) (stScope (pM 5 8)) (stScope (pM 5 9)) (stScope (pM 9 0)) (stScope (pT 0)) (stScope (pT 13)) (stScope (pT 14)) (stScope (pT 15)) (stScope (pT 21)) (stScope (pT 22)) (stScope (pT 23)) (stScope (pT 25)) (stScope (pT 26)) (stScope (pT 27)) (stScope (pT 28)) (stScope (pT 29)) (stScope (pT 30)) (stScope (pT 31)) (stScope (pT 32)) (stScope (pT 33)) (stScope (pT 6)) P = k) => k)
  have e0 : stArgs (pM 10 0) = stArgs (pM 10 0) := rfl
  conv at e0 => rhs; whnf
  have e1 : stArgs (pM 11 0) = stArgs (pM 11 0) := rfl
  conv at e1 => rhs; whnf
  have e2 : stArgs (pM 12 0) = stArgs (pM 12 0) := rfl
  conv at e2 => rhs; whnf
  have e3 : stArgs (pM 12 1) = stArgs (pM 12 1) := rfl
  conv at e3 => rhs; whnf
  have e4 : stArgs (pM 17 0) = stArgs (pM 17 0) := rfl
  conv at e4 => rhs; whnf
  have e5 : stArgs (pM 17 1) = stArgs (pM 17 1) := rfl
  conv at e5 => rhs; whnf
  have e6 : stArgs (pM 17 2) = stArgs (pM 17 2) := rfl
  conv at e6 => rhs; whnf
  have e7 : stArgs (pM 18 0) = stArgs (pM 18 0) := rfl
  conv at e7 => rhs; whnf
  have e8 : stArgs (pM 18 1) = stArgs (pM 18 1) := rfl
  conv at e8 => rhs; whnf
  have e9 : stArgs (pM 18 2) = stArgs (pM 18 2) := rfl
  conv at e9 => rhs; whnf
  have e10 : stArgs (pM 18 3) = stArgs (pM 18 3) := rfl
  conv at e10 => rhs; whnf
  have e11 : stArgs (pM 18 4) = stArgs (pM 18 4) := rfl
  conv at e11 => rhs; whnf
  have e12 : stArgs (pM 18 5) = stArgs (pM 18 5) := rfl
  conv at e12 => rhs; whnf
  have e13 : stArgs (pM 2 0) = stArgs (pM 2 0) := rfl
  conv at e13 => rhs; whnf
  have e14 : stArgs (pM 2 1) = stArgs (pM 2 1) := rfl
  conv at e14 => rhs; whnf
  have e15 : stArgs (pM 5 0) = stArgs (pM 5 0) := rfl
  conv at e15 => rhs; whnf
  have e16 : stArgs (pM 5 1) = stArgs (pM 5 1) := rfl
  conv at e16 => rhs; whnf
  have e17 : stArgs (pM 5 10) = stArgs (pM 5 10) := rfl
  conv at e17 => rhs; whnf
  have e18 : stArgs (pM 5 11) = stArgs (pM 5 11) := rfl
  conv at e18 => rhs; whnf
  have e19 : stArgs (pM 5 2) = stArgs (pM 5 2) := rfl
  conv at e19 => rhs; whnf
  have e20 : stArgs (pM 5 3) = stArgs (pM 5 3) := rfl
  conv at e20 => rhs; whnf
  have e21 : stArgs (pM 5 4) = stArgs (pM 5 4) := rfl
  conv at e21 => rhs; whnf
  have e22 : stArgs (pM 5 5) = stArgs (pM 5 5) := rfl
  conv at e22 => rhs; whnf
  have e23 : stArgs (pM 5 6) = stArgs (pM 5 6) := rfl
  conv at e23 => rhs; whnf
  have e24 : stArgs (pM 5 7) = stArgs (pM 5 7) := rfl
  conv at e24 => rhs; whnf
  have e25 : stArgs (pM 5 8) = stArgs (pM 5 8) := rfl
  conv at e25 => rhs; whnf
  have e26 : stArgs (pM 5 9) = stArgs (pM 5 9) := rfl
  conv at e26 => rhs; whnf
  have e27 : stArgs (pM 9 0) = stArgs (pM 9 0) := rfl
  conv at e27 => rhs; whnf
  have e28 : stArgs (pT 0) = stArgs (pT 0) := rfl
  conv at e28 => rhs; whnf
  have e29 : stArgs (pT 13) = stArgs (pT 13) := rfl
  conv at e29 => rhs; whnf
  have e30 : stArgs (pT 14) = stArgs (pT 14) := rfl
  conv at e30 => rhs; whnf
  have e31 : stArgs (pT 15) = stArgs (pT 15) := rfl
  conv at e31 => rhs; whnf
  have e32 : stArgs (pT 21) = stArgs (pT 21) := rfl
  conv at e32 => rhs; whnf
  have e33 : stArgs (pT 22) = stArgs (pT 22) := rfl
  conv at e33 => rhs; whnf
  have e34 : stArgs (pT 23) = stArgs (pT 23) := rfl
  conv at e34 => rhs; whnf
  have e35 : stArgs (pT 25) = stArgs (pT 25) := rfl
  conv at e35 => rhs; whnf
  have e36 : stArgs (pT 26) = stArgs (pT 26) := rfl
  conv at e36 => rhs; whnf
  have e37 : stArgs (pT 27) = stArgs (pT 27) := rfl
  conv at e37 => rhs; whnf
  have e38 : stArgs (pT 28) = stArgs (pT 28) := rfl
  conv at e38 => rhs; whnf
  have e39 : stArgs (pT 29) = stArgs (pT 29) := rfl
  conv at e39 => rhs; whnf
  have e40 : stArgs (pT 30) = stArgs (pT 30) := rfl
  conv at e40 => rhs; whnf
  have e41 : stArgs (pT 31) = stArgs (pT 31) := rfl
  conv at e41 => rhs; whnf
  have e42 : stArgs (pT 32) = stArgs (pT 32) := rfl
  conv at e42 => rhs; whnf
  have e43 : stArgs (pT 33) = stArgs (pT 33) := rfl
  conv at e43 => rhs; whnf
  have e44 : stArgs (pT 6) = stArgs (pT 6) := rfl
  conv at e44 => rhs; whnf
  have e45 : stBody (pM 10 0) = stBody (pM 10 0) := rfl
  conv at e45 => rhs; whnf
  have e46 : stBody (pM 11 0) = stBody (pM 11 0) := rfl
  conv at e46 => rhs; whnf
  have e47 : stBody (pM 12 0) = stBody (pM 12 0) := rfl
  conv at e47 => rhs; whnf
  have e48 : stBody (pM 12 1) = stBody (pM 12 1) := rfl
  conv at e48 => rhs; whnf
  have e49 : stBody (pM 17 0) = stBody (pM 17 0) := rfl
  conv at e49 => rhs; whnf
  have e50 : stBody (pM 17 1) = stBody (pM 17 1) := rfl
  conv at e50 => rhs; whnf
  have e51 : stBody (pM 17 2) = stBody (pM 17 2) := rfl
  conv at e51 => rhs; whnf
  have e52 : stBody (pM 18 0) = stBody (pM 18 0) := rfl
  conv at e52 => rhs; whnf
  have e53 : stBody (pM 18 1) = stBody (pM 18 1) := rfl
  conv at e53 => rhs; whnf
  have e54 : stBody (pM 18 2) = stBody (pM 18 2) := rfl
  conv at e54 => rhs; whnf
  have e55 : stBody (pM 18 3) = stBody (pM 18 3) := rfl
  conv at e55 => rhs; whnf
  have e56 : stBody (pM 18 4) = stBody (pM 18 4) := rfl
  conv at e56 => rhs; whnf
  have e57 : stBody (pM 18 5) = stBody (pM 18 5) := rfl
  conv at e57 => rhs; whnf
  have e58 : stBody (pM 2 0) = stBody (pM 2 0) := rfl
  conv at e58 => rhs; whnf
  have e59 : stBody (pM 2 1) = stBody (pM 2 1) := rfl
  conv at e59 => rhs; whnf
  have e60 : stBody (pM 5 0) = stBody (pM 5 0) := rfl
  conv at e60 => rhs; whnf
  have e61 : stBody (pM 5 1) = stBody (pM 5 1) := rfl
  conv at e61 => rhs; whnf
  have e62 : stBody (pM 5 10) = stBody (pM 5 10) := rfl
  conv at e62 => rhs; whnf
  have e63 : stBody (pM 5 11) = stBody (pM 5 11) := rfl
  conv at e63 => rhs; whnf
  have e64 : stBody (pM 5 2) = stBody (pM 5 2) := rfl
  conv at e64 => rhs; whnf
  have e65 : stBody (pM 5 3) = stBody (pM 5 3) := rfl
  conv at e65 => rhs; whnf
  have e66 : stBody (pM 5 4) = stBody (pM 5 4) := rfl
  conv at e66 => rhs; whnf
  have e67 : stBody (pM 5 5) = stBody (pM 5 5) := rfl
  conv at e67 => rhs; whnf
  have e68 : stBody (pM 5 6) = stBody (pM 5 6) := rfl
  conv at e68 => rhs; whnf
  have e69 : stBody (pM 5 7) = stBody (pM 5 7) := rfl
  conv at e69 => rhs; whnf
  have e70 : stBody (pM 5 8) = stBody (pM 5 8) := rfl
  conv at e70 => rhs; whnf
  have e71 : stBody (pM 5 9) = stBody (pM 5 9) := rfl
  conv at e71 => rhs; whnf
  have e72 : stBody (pM 9 0) = stBody (pM 9 0) := rfl
  conv at e72 => rhs; whnf
  have e73 : stBody (pT 0) = stBody (pT 0) := rfl
  conv at e73 => rhs; whnf
  have e74 : stBody (pT 13) = stBody (pT 13) := rfl
  conv at e74 => rhs; whnf
  have e75 : stBody (pT 14) = stBody (pT 14) := rfl
  conv at e75 => rhs; whnf
  have e76 : stBody (pT 15) = stBody (pT 15) := rfl
  conv at e76 => rhs; whnf
  have e77 : stBody (pT 21) = stBody (pT 21) := rfl
  conv at e77 => rhs; whnf
  have e78 : stBody (pT 22) = stBody (pT 22) := rfl
  conv at e78 => rhs; whnf
  have e79 : stBody (pT 23) = stBody (pT 23) := rfl
  conv at e79 => rhs; whnf
  have e80 : stBody (pT 25) = stBody (pT 25) := rfl
  conv at e80 => rhs; whnf
  have e81 : stBody (pT 26) = stBody (pT 26) := rfl
  conv at e81 => rhs; whnf
  have e82 : stBody (pT 27) = stBody (pT 27) := rfl
  conv at e82 => rhs; whnf
  have e83 : stBody (pT 28) = stBody (pT 28) := rfl
  conv at e83 => rhs; whnf
  have e84 : stBody (pT 29) = stBody (pT 29) := rfl
  conv at e84 => rhs; whnf
  have e85 : stBody (pT 30) = stBody (pT 30) := rfl
  conv at e85 => rhs; whnf
  have e86 : stBody (pT 31) = stBody (pT 31) := rfl
  conv at e86 => rhs; whnf
  have e87 : stBody (pT 32) = stBody (pT 32) := rfl
  conv at e87 => rhs; whnf
  have e88 : stBody (pT 33) = stBody (pT 33) := rfl
  conv at e88 => rhs; whnf
  have e89 : stBody (pT 6) = stBody (pT 6) := rfl
  conv at e89 => rhs; whnf
  have e90 : stScope (pM 10 0) = stScope (pM 10 0) := rfl
  conv at e90 => rhs; whnf
  have e91 : stScope (pM 11 0) = stScope (pM 11 0) := rfl
  conv at e91 => rhs; whnf
  have e92 : stScope (pM 12 0) = stScope (pM 12 0) := rfl
  conv at e92 => rhs; whnf
  have e93 : stScope (pM 12 1) = stScope (pM 12 1) := rfl
  conv at e93 => rhs; whnf
  have e94 : stScope (pM 17 0) = stScope (pM 17 0) := rfl
  conv at e94 => rhs; whnf
  have e95 : stScope (pM 17 1) = stScope (pM 17 1) := rfl
  conv at e95 => rhs; whnf
  have e96 : stScope (pM 17 2) = stScope (pM 17 2) := rfl
  conv at e96 => rhs; whnf
  have e97 : stScope (pM 18 0) = stScope (pM 18 0) := rfl
  conv at e97 => rhs; whnf
  have e98 : stScope (pM 18 1) = stScope (pM 18 1) := rfl
  conv at e98 => rhs; whnf
  have e99 : stScope (pM 18 2) = stScope (pM 18 2) := rfl
  conv at e99 => rhs; whnf
  have e100 : stScope (pM 18 3) = stScope (pM 18 3) := rfl
  conv at e100 => rhs; whnf
  have e101 : stScope (pM 18 4) = stScope (pM 18 4) := rfl
  conv at e101 => rhs; whnf
  have e102 : stScope (pM 18 5) = stScope (pM 18 5) := rfl
  conv at e102 => rhs; whnf
  have e103 : stScope (pM 2 0) = stScope (pM 2 0) := rfl
  conv at e103 => rhs; whnf
  have e104 : stScope (pM 2 1) = stScope (pM 2 1) := rfl
  conv at e104 => rhs; whnf
  have e105 : stScope (pM 5 0) = stScope (pM 5 0) := rfl
  conv at e105 => rhs; whnf
  have e106 : stScope (pM 5 1) = stScope (pM 5 1) := rfl
  conv at e106 => rhs; whnf
  have e107 : stScope (pM 5 10) = stScope (pM 5 10) := rfl
  conv at e107 => rhs; whnf
  have e108 : stScope (pM 5 11) = stScope (pM 5 11) := rfl
  conv at e108 => rhs; whnf
  have e109 : stScope (pM 5 2) = stScope (pM 5 2) := rfl
  conv at e109 => rhs; whnf
  have e110 : stScope (pM 5 3) = stScope (pM 5 3) := rfl
  conv at e110 => rhs; whnf
  have e111 : stScope (pM 5 4) = stScope (pM 5 4) := rfl
  conv at e111 => rhs; whnf
  have e112 : stScope (pM 5 5) = stScope (pM 5 5) := rfl
  conv at e112 => rhs; whnf
  have e113 : stScope (pM 5 6) = stScope (pM 5 6) := rfl
  conv at e113 => rhs; whnf
  have e114 : stScope (pM 5 7) = stScope (pM 5 7) := rfl
  conv at e114 => rhs; whnf
  have e115 : stScope (pM 5 8) = stScope (pM 5 8) := rfl
  conv at e115 => rhs; whnf
  have e116 : stScope (pM 5 9) = stScope (pM 5 9) := rfl
  conv at e116 => rhs; whnf
  have e117 : stScope (pM 9 0) = stScope (pM 9 0) := rfl
  conv at e117 => rhs; whnf
  have e118 : stScope (pT 0) = stScope (pT 0) := rfl
  conv at e118 => rhs; whnf
  have e119 : stScope (pT 13) = stScope (pT 13) := rfl
  conv at e119 => rhs; whnf
  have e120 : stScope (pT 14) = stScope (pT 14) := rfl
  conv at e120 => rhs; whnf
  have e121 : stScope (pT 15) = stScope (pT 15) := rfl
  conv at e121 => rhs; whnf
  have e122 : stScope (pT 21) = stScope (pT 21) := rfl
  conv at e122 => rhs; whnf
  have e123 : stScope (pT 22) = stScope (pT 22) := rfl
  conv at e123 => rhs; whnf
  have e124 : stScope (pT 23) = stScope (pT 23) := rfl
  conv at e124 => rhs; whnf
  have e125 : stScope (pT 25) = stScope (pT 25) := rfl
  conv at e125 => rhs; whnf
  have e126 : stScope (pT 26) = stScope (pT 26) := rfl
  conv at e126 => rhs; whnf
  have e127 : stScope (pT 27) = stScope (pT 27) := rfl
  conv at e127 => rhs; whnf
  have e128 : stScope (pT 28) = stScope (pT 28) := rfl
  conv at e128 => rhs; whnf
  have e129 : stScope (pT 29) = stScope (pT 29) := rfl
  conv at e129 => rhs; whnf
  have e130 : stScope (pT 30) = stScope (pT 30) := rfl
  conv at e130 => rhs; whnf
  have e131 : stScope (pT 31) = stScope (pT 31) := rfl
  conv at e131 => rhs; whnf
  have e132 : stScope (pT 32) = stScope (pT 32) := rfl
  conv at e132 => rhs; whnf
  have e133 : stScope (pT 33) = stScope (pT 33) := rfl
  conv at e133 => rhs; whnf
  have e134 : stScope (pT 6) = stScope (pT 6) := rfl
  conv at e134 => rhs; whnf
  have h0 := congrFun (congr (congr (congr (congr (congr (congr (congr (congr (congr (congr (congr (congr (congr (congr (congr (congr (congr (congr (congr (congr (congr (congr (congr (congr (congr (congr (congr (congr (congr (congr (congr (congr (congr (congr (congr (congr (congr (congr (congr (congr (congr (congr (congr (congr (congr (congr (congr (congr (congr (congr (congr (congr (congr (congr (congr (congr (congr (congr (congr (congr (congr (congr (congr (congr (congr (congr (congr (congr (congr (congr (congr (congr (congr (congr (congr (congr (congr (congr (congr (congr (congr (congr (congr (congr (congr (congr (congr (congr (congr (congr (congr (congr (congr (congr (congr (congr (congr (congr (congr (congr (congr (congr (congr (congr (congr (congr (congr (congr (congr (congr (congr (congr (congr (congr (congr (congr (congr (congr (congr (congr (congr (congr (congr (congr (congr (congr (congr (congr (congr (congr (congr (congr (congr (congr (congrArg K0 e0) e1) e2) e3) e4) e5) e6) e7) e8) e9) e10) e11) e12) e13) e14) e15) e16) e17) e18) e19) e20) e21) e22) e23) e24) e25) e26) e27) e28) e29) e30) e31) e32) e33) e34) e35) e36) e37) e38) e39) e40) e41) e42) e43) e44) e45) e46) e47) e48) e49) e50) e51) e52) e53) e54) e55) e56) e57) e58) e59) e60) e61) e62) e63) e64) e65) e66) e67) e68) e69) e70) e71) e72) e73) e74) e75) e76) e77) e78) e79) e80) e81) e82) e83) e84) e85) e86) e87) e88) e89) e90) e91) e92) e93) e94) e95) e96) e97) e98) e99) e100) e101) e102) e103) e104) e105) e106) e107) e108) e109) e110) e111) e112) e113) e114) e115) e116) e117) e118) e119) e120) e121) e122) e123) e124) e125) e126) e127) e128) e129) e130) e131) e132) e133) e134) P
  conv at h0 => rhs; delta K0
  exact h0
def kAs : List Addr := [2, 3, 15, 17, 18, 20, 21, 22, 29, 30, 32, 33, 35, 36, 37, 39, 40, 42, 43, 44, 45, 46, 47, 50, 57, 58, 59, 69, 71, 72, 74, 75, 76, 78, 79, 81, 82, 83, 85, 86, 88, 89, 90, 92, 93, 95, 96, 97, 99, 100, 102, 103, 104, 106, 107, 109, 110, 111, 113, 114, 116, 117, 118, 120, 121, 123, 124, 125, 127, 128, 130, 131, 132, 134, 135, 137, 138, 139, 141, 142, 144, 145, 146, 148, 149, 151, 152, 153, 154, 155, 156, 157, 160, 162, 163, 165, 166, 174, 176, 177, 179, 180, 181, 182, 183, 184, 185, 195, 196, 198, 199, 201, 202, 203, 204, 205, 206, 207, 217, 219, 220, 222, 223, 224, 225, 226, 227, 228, 238, 240, 241, 243, 244, 245, 247, 248, 250, 251, 252, 253, 254, 255, 256, 259, 261, 262, 264, 265, 266, 268, 269, 271, 272, 273, 276, 277, 285, 286, 288, 289, 291, 292, 293, 295, 296, 298, 299, 300, 302, 303, 305, 306, 307, 308, 309, 310, 311, 314, 321, 323, 324, 326, 327, 328, 330, 331, 333, 334, 335, 337, 338, 340, 341, 342, 344, 345, 347, 348, 349, 351, 352, 354, 355, 356, 359, 360, 361, 362, 363, 366, 368, 369, 371, 372, 373, 375, 376, 378, 379, 380, 381, 384, 385, 386, 388, 389, 391, 392, 393, 396, 397, 398, 401, 402, 403, 406, 407, 408, 411, 412, 413, 416, 417, 418, 420, 421, 423, 424, 425, 428, 429, 430, 433, 434]
noncomputable def V : Program := { PySem.Challenge.rw_og0163_01.row.toRowW.prog with main := { PySem.Challenge.rw_og0163_01.row.toRowW.prog.main with body := [pT 0, pT 2, pT 3, pT 5, pT 6, pT 8, pT 9, pT 10, pT 11, pT 12, pT 13, pT 14, pT 15, pT 16, pT 17, pT 18, pT 20, pT 21, pT 22, pT 25, pT 26, pT 27, pT 28, pT 29, pT 30, pT 31, pT 32, pT 33] } }
noncomputable def lawRec : DefRec := { name := Str.ofString "law", params := stArgs (pT 33), body := stBody (pT 33), scope := stScope (pT 33), pos := stPos (pT 33) }
example : (PySem.Challenge.rw_og0163_01, K) = (PySem.Challenge.rw_og0163_01, K) := by k_fill; rfl
theorem and_kl {knep kneq : Prop} (kneh : knep ∧ kneq) : knep := kneh.1
theorem and_kr {knep kneq : Prop} (kneh : knep ∧ kneq) : kneq := kneh.2
theorem lt_up {a b : Nat} (h : a < b) : a < b + 1 := Nat.lt_succ_of_lt h
local macro_rules | `(tactic| walk_at "knw") => `(tactic| (apply and_kl; focus ((iterate 21 (first | done | with_reducible assumption | apply and_kr)); done)))
local macro_rules | `(tactic| walk_at "knx") => `(tactic| ((repeat refine lt_up ?_); first | assumption | walk_at "knw" | (apply and_kr; with_reducible assumption)))
local macro_rules | `(tactic| walk_at "kny") => `(tactic| (first | with_reducible assumption | (apply and_kl; first | walk_at "knw" | (apply and_kr; walk_at "knw")) | (apply and_kr; apply and_kr; walk_at "knw")))
local macro_rules | `(tactic| k_ne) => `(tactic| (refine neN ?_; (try dsimp only); first | (refine Nat.ne_of_gt ?_; walk_at "knx") | (refine Nat.ne_of_lt ?_; walk_at "knx") | walk_at "kny" | (refine Ne.symm ?_; walk_at "kny")))
theorem rm0 {n N R : Nat} (h : n + N < R) : n < R := Nat.lt_of_le_of_lt (Nat.le_add_right n N) h
theorem rm1 {n N R a : Nat} (h : n + N < R) (e : Nat.ble a N = true) : n + a < R := Nat.lt_of_le_of_lt (Nat.add_le_add_left (Nat.le_of_ble_eq_true e) n) h
theorem rm2 {n N R a b : Nat} (h : n + N < R) (e : Nat.ble (a + b) N = true) : n + a + b < R := by rw [Nat.add_assoc]; exact rm1 h e
theorem rm3 {n N R a b c : Nat} (h : n + N < R) (e : Nat.ble (a + b + c) N = true) : n + a + b + c < R := by rw [Nat.add_assoc n a b]; exact rm2 h e
theorem nb0 {h₀ : Heap} {L : Addr} {h : Heap} { p q : Addr × Obj} {R : List (Addr × Obj)} (N : News h₀ L h (p :: q :: R)) : News h₀ L h ([] ++ p :: q :: R) := N
theorem nb1 {h₀ : Heap} {L : Addr} {h : Heap} {x0 p q : Addr × Obj} {R : List (Addr × Obj)} (N : News h₀ L h (x0 :: p :: q :: R)) : News h₀ L h ([x0] ++ p :: q :: R) := N
theorem nb2 {h₀ : Heap} {L : Addr} {h : Heap} {x0 x1 p q : Addr × Obj} {R : List (Addr × Obj)} (N : News h₀ L h (x0 :: x1 :: p :: q :: R)) : News h₀ L h ([x0, x1] ++ p :: q :: R) := N
theorem nb3 {h₀ : Heap} {L : Addr} {h : Heap} {x0 x1 x2 p q : Addr × Obj} {R : List (Addr × Obj)} (N : News h₀ L h (x0 :: x1 :: x2 :: p :: q :: R)) : News h₀ L h ([x0, x1, x2] ++ p :: q :: R) := N
theorem nb4 {h₀ : Heap} {L : Addr} {h : Heap} {x0 x1 x2 x3 p q : Addr × Obj} {R : List (Addr × Obj)} (N : News h₀ L h (x0 :: x1 :: x2 :: x3 :: p :: q :: R)) : News h₀ L h ([x0, x1, x2, x3] ++ p :: q :: R) := N
theorem nb5 {h₀ : Heap} {L : Addr} {h : Heap} {x0 x1 x2 x3 x4 p q : Addr × Obj} {R : List (Addr × Obj)} (N : News h₀ L h (x0 :: x1 :: x2 :: x3 :: x4 :: p :: q :: R)) : News h₀ L h ([x0, x1, x2, x3, x4] ++ p :: q :: R) := N
theorem nb6 {h₀ : Heap} {L : Addr} {h : Heap} {x0 x1 x2 x3 x4 x5 p q : Addr × Obj} {R : List (Addr × Obj)} (N : News h₀ L h (x0 :: x1 :: x2 :: x3 :: x4 :: x5 :: p :: q :: R)) : News h₀ L h ([x0, x1, x2, x3, x4, x5] ++ p :: q :: R) := N
theorem nb7 {h₀ : Heap} {L : Addr} {h : Heap} {x0 x1 x2 x3 x4 x5 x6 p q : Addr × Obj} {R : List (Addr × Obj)} (N : News h₀ L h (x0 :: x1 :: x2 :: x3 :: x4 :: x5 :: x6 :: p :: q :: R)) : News h₀ L h ([x0, x1, x2, x3, x4, x5, x6] ++ p :: q :: R) := N
theorem nb8 {h₀ : Heap} {L : Addr} {h : Heap} {x0 x1 x2 x3 x4 x5 x6 x7 p q : Addr × Obj} {R : List (Addr × Obj)} (N : News h₀ L h (x0 :: x1 :: x2 :: x3 :: x4 :: x5 :: x6 :: x7 :: p :: q :: R)) : News h₀ L h ([x0, x1, x2, x3, x4, x5, x6, x7] ++ p :: q :: R) := N
theorem nb9 {h₀ : Heap} {L : Addr} {h : Heap} {x0 x1 x2 x3 x4 x5 x6 x7 x8 p q : Addr × Obj} {R : List (Addr × Obj)} (N : News h₀ L h (x0 :: x1 :: x2 :: x3 :: x4 :: x5 :: x6 :: x7 :: x8 :: p :: q :: R)) : News h₀ L h ([x0, x1, x2, x3, x4, x5, x6, x7, x8] ++ p :: q :: R) := N
theorem nb10 {h₀ : Heap} {L : Addr} {h : Heap} {x0 x1 x2 x3 x4 x5 x6 x7 x8 x9 p q : Addr × Obj} {R : List (Addr × Obj)} (N : News h₀ L h (x0 :: x1 :: x2 :: x3 :: x4 :: x5 :: x6 :: x7 :: x8 :: x9 :: p :: q :: R)) : News h₀ L h ([x0, x1, x2, x3, x4, x5, x6, x7, x8, x9] ++ p :: q :: R) := N
theorem nb11 {h₀ : Heap} {L : Addr} {h : Heap} {x0 x1 x2 x3 x4 x5 x6 x7 x8 x9 x10 p q : Addr × Obj} {R : List (Addr × Obj)} (N : News h₀ L h (x0 :: x1 :: x2 :: x3 :: x4 :: x5 :: x6 :: x7 :: x8 :: x9 :: x10 :: p :: q :: R)) : News h₀ L h ([x0, x1, x2, x3, x4, x5, x6, x7, x8, x9, x10] ++ p :: q :: R) := N
theorem nb12 {h₀ : Heap} {L : Addr} {h : Heap} {x0 x1 x2 x3 x4 x5 x6 x7 x8 x9 x10 x11 p q : Addr × Obj} {R : List (Addr × Obj)} (N : News h₀ L h (x0 :: x1 :: x2 :: x3 :: x4 :: x5 :: x6 :: x7 :: x8 :: x9 :: x10 :: x11 :: p :: q :: R)) : News h₀ L h ([x0, x1, x2, x3, x4, x5, x6, x7, x8, x9, x10, x11] ++ p :: q :: R) := N
local macro_rules | `(tactic| tb_start) => `(tactic| first | exact nb0 (by k_asm) | exact nb1 (by k_asm) | exact nb2 (by k_asm) | exact nb3 (by k_asm) | exact nb4 (by k_asm) | exact nb5 (by k_asm) | exact nb6 (by k_asm) | exact nb7 (by k_asm) | exact nb8 (by k_asm) | exact nb9 (by k_asm) | exact nb10 (by k_asm) | exact nb11 (by k_asm) | exact nb12 (by k_asm))
local macro_rules | `(tactic| tb_rel) => `(tactic| first | assumption | exact List.forall_mem_nil _ | (refine List.forall_mem_cons.mpr ⟨by k_ne, ?_⟩; tb_rel))
local macro_rules | `(tactic| walk_at "rmx") => `(tactic| (first | (refine rm3 (N := ?rmN) ?rmh ?rme; (case rmh => with_reducible assumption); (case rme => exact rfl)) | (refine rm2 (N := ?rmN) ?rmh ?rme; (case rmh => with_reducible assumption); (case rme => exact rfl)) | (refine rm1 (N := ?rmN) ?rmh ?rme; (case rmh => with_reducible assumption); (case rme => exact rfl)) | (refine rm0 (N := ?rmN) ?rmh; (case rmh => with_reducible assumption)) | omega))
local macro_rules | `(tactic| ktr_room) => `(tactic| ((simp only [recursionLimit, depth_deeper] at *); walk_at "rmx"))
local macro_rules | `(tactic| ktr_units) => `(tactic| ((simp only [cLine_is, units_deeper] at *); walk_at "rmx"))
/-! ## part Base -/
section
example : True := by (w_top off; trivial)
abbrev LL := List (Addr × Obj)
def takeSt : Stmt := (stBody (PySem.Challenge.pw_og0163_01.main.body.getD 25 (.Pass default))).getD 3 (.Pass default)

abbrev lstO (vs : List Value) (n : Nat) : Obj := { cls := .type "list", data := .seq vs.toArray n }
/-- the place: a list of one int -/
abbrev placeO (k : Int) (tk : Tok) (n : Nat) : Obj := lstO [.int k tk] n

section
variable {prog : Program} {w : World} {A : Around} {E : Value → Shared → Prop} {s : Shared} {h₀ : Heap} {L : Addr} {news : LL} {l : Addr} {vs : List Value} {ns : List Int} {n : Nat}
theorem len_N {Q : Value → Shared → Prop} (N : News h₀ L s.heap news) (hm : (l, lstO vs n) ∈ news) (hf : vs.length < 1000000)
    (h : ∀ t t', Q (.int (vs.length : Nat) t) { s with toks := t' }) : wpAny (model prog w) A (call (.builtin "len") [.ref l]) Q E s := by
  have hl : s.heap.IsList l vs.toArray := News.isList N hm
  refine Calls.call_len_list hl (by simp; omega) ?_
  have := h (s.toks + 1) (s.toks + 1 + 1)
  simpa using this
theorem item_N {value slice : Expr} {k : Int} {u : Tok} {v : Value} {Q : Value → Shared → Prop} (N : News h₀ L s.heap news) (hm : (l, lstO vs n) ∈ news)
    (h0 : 0 ≤ k) (hhi : k < 1000000) (hx : vs[k.toNat]? = some v) (h : Q v s)
    (hs : subscripted slice false (.ref l) (.int k u) = operate [.ref l, .int k u] (getItem (.ref l) (.int k u)) := by with_unfolding_all rfl) :
    wpAny (model prog w) A (subscriptTail value slice (.ref l) (.int k u)) Q E s :=
  have hL : s.heap.IsList l vs.toArray := News.isList N hm
  tail_any hL.typeIs slot_list_getitem.lookup (wpAny_getItem_list hL h0 (by omega) (by simpa using hx) h) hs
theorem itemI_N {value slice : Expr} {k : Int} {u : Tok} {Q : Value → Shared → Prop} (N : News h₀ L s.heap news) (hm : (l, lstO vs n) ∈ news) (hI : IntsAre vs ns)
    (h0 : 0 ≤ k) (hhi : k < 1000000) (hx : k < (ns.length : Nat)) (h : ∀ x t, Q (.int x t) s)
    (hs : subscripted slice false (.ref l) (.int k u) = operate [.ref l, .int k u] (getItem (.ref l) (.int k u)) := by with_unfolding_all rfl) :
    wpAny (model prog w) A (subscriptTail value slice (.ref l) (.int k u)) Q E s := by
  have hlt : k.toNat < ns.length := by omega
  obtain ⟨t, hx⟩ := hI.get k.toNat ns[k.toNat] (by simp [hlt])
  exact item_N N hm h0 hhi hx (h _ t) hs
theorem fdiv_bd {a b : Int} (h : 0 ≤ a) (hb : 0 ≤ b) : 0 ≤ a.fdiv b ∧ a.fdiv b ≤ a := by
  rw [Int.fdiv_eq_ediv_of_nonneg _ hb]
  exact ⟨Int.ediv_nonneg h hb, Int.ediv_le_self _ h⟩
theorem fdiv_lo {a b : Int} (h : 0 ≤ a) (hb : 0 ≤ b) : 0 ≤ a.fdiv b := (fdiv_bd h hb).1
theorem fdiv_hi {a b : Int} (h : 0 ≤ a) (hb : 0 ≤ b) (hx : a < 900000) : a.fdiv b ≤ 1000000 := by have := (fdiv_bd h hb).2; omega
theorem fdivP_N {a : Int} {c : Nat} {n : Nat} {t u : Tok} {env : Env} {l : List Env} {Q : Value → Shared → Prop} (S : s.heap.NoSeer) (hl : s.heap.NoLimit) (hg : prog.given.tree = none) (hc : 0 < c)
    (hd : A.depth + 100 < recursionLimit) (hfr : A.frames = some (env :: l)) (hgen : env.scope.isGenerator = false) (hco : env.scope.isCoroutine = false)
    (hb : env.builtins = builtinsNs) (hgl : env.globals = mainGlobals) (h : ∀ x t, Q (.int x t) { s with toks := s.toks + 1 }) :
    wpAny (model prog w) A (binaryOp .FloorDiv (.int a t) (.int ((c : Int) ^ n) u)) Q E s := by
  have hp : (0 : Int) < (c : Int) ^ n := Int.pow_pos (by omega)
  exact floordiv_int (by omega) (h _ _) (.inr (PylongRoom.of hl hd (SeerAt.of S hg hfr hgen hco hb hgl)))
end

/-! ### the data -/
inductive Wd where
  | and | or | not
  deriving DecidableEq
def Wd.str : Wd → Str
  | .and => Str.ofString "And"
  | .or => Str.ofString "Or"
  | .not => Str.ofString "Not"
inductive Pl where
  | g (i : Nat)
  | op (w : Wd) (ps : List Pl)
abbrev tupO (vs : List Value) (n : Nat) : Obj := { cls := .type "tuple", data := .seq vs.toArray n }
mutual
/-- a plan, as the ledger bears it -/
def PlanIn (R : LL) : Value → Pl → Prop
  | v, .g i => ∃ t, v = .int (i : Nat) t
  | v, .op wd ps => ∃ a l t vs n n', v = .ref a ∧ (a, tupO [.str wd.str t, .ref l] n) ∈ R ∧ (l, lstO vs n') ∈ R ∧ PlansIn R vs ps
def PlansIn (R : LL) : List Value → List Pl → Prop
  | [], [] => True
  | v :: vs, p :: ps => PlanIn R v p ∧ PlansIn R vs ps
  | [], _ :: _ => False
  | _ :: _, [] => False
end
mutual
theorem PlanIn.mono {R R' : LL} (h : ∀ q ∈ R, q ∈ R') : ∀ {v : Value} {p : Pl}, PlanIn R v p → PlanIn R' v p
  | v, .g i, x => by simpa only [PlanIn] using x
  | v, .op wd ps, x => by
    simp only [PlanIn] at x ⊢
    obtain ⟨a, l, t, vs, n, n', e, h1, h2, h3⟩ := x
    exact ⟨a, l, t, vs, n, n', e, h _ h1, h _ h2, PlansIn.mono h h3⟩
theorem PlansIn.mono {R R' : LL} (h : ∀ q ∈ R, q ∈ R') : ∀ {vs : List Value} {ps : List Pl}, PlansIn R vs ps → PlansIn R' vs ps
  | [], [], _ => by simp only [PlansIn]
  | v :: vs, p :: ps, x => by
    simp only [PlansIn] at x ⊢
    exact ⟨PlanIn.mono h x.1, PlansIn.mono h x.2⟩
  | [], _ :: _, x => by simp only [PlansIn] at x
  | _ :: _, [], x => by simp only [PlansIn] at x
end
theorem PlansIn.snoc {R : LL} {v : Value} {p : Pl} (h : PlanIn R v p) : ∀ {vs : List Value} {ps : List Pl}, PlansIn R vs ps → PlansIn R (vs ++ [v]) (ps ++ [p])
  | [], [], _ => by simp only [List.nil_append, PlansIn, and_true]; exact h
  | u :: vs, q :: ps, x => by
    simp only [List.cons_append, PlansIn] at x ⊢
    exact ⟨x.1, PlansIn.snoc h x.2⟩
  | [], _ :: _, x => by simp only [PlansIn] at x
  | _ :: _, [], x => by simp only [PlansIn] at x
theorem PlansIn.len {R : LL} : ∀ {vs : List Value} {ps : List Pl}, PlansIn R vs ps → vs.length = ps.length
  | [], [], _ => rfl
  | u :: vs, q :: ps, x => by
    simp only [PlansIn] at x
    simp [PlansIn.len x.2]
  | [], _ :: _, x => by simp only [PlansIn] at x
  | _ :: _, [], x => by simp only [PlansIn] at x
mutual
/-- a plan as _law_plan makes it: no deeper than d, one to three parts; a plain one without Not -/
def PlOk : Nat → Bool → Pl → Prop
  | _, _, .g i => i < 4
  | 0, _, .op _ _ => False
  | d + 1, pn, .op wd ps => 1 ≤ ps.length ∧ ps.length ≤ 3 ∧ (wd = .not → ps.length = 1 ∧ pn = false) ∧ PlsOk d pn ps
def PlsOk : Nat → Bool → List Pl → Prop
  | _, _, [] => True
  | d, pn, p :: ps => PlOk d pn p ∧ PlsOk d pn ps
end
theorem PlsOk.snoc {d : Nat} {pn : Bool} {p : Pl} (h : PlOk d pn p) : ∀ {ps : List Pl}, PlsOk d pn ps → PlsOk d pn (ps ++ [p])
  | [], _ => by simp only [List.nil_append, PlsOk, and_true]; exact h
  | q :: ps, x => by
    simp only [List.cons_append, PlsOk] at x ⊢
    exact ⟨x.1, PlsOk.snoc h x.2⟩
def cst : Nat → Nat
  | 0 => 2
  | d + 1 => 3 + 3 * cst d
theorem cst_pos : ∀ d, 2 ≤ cst d
  | 0 => Nat.le_refl _
  | d + 1 => by have := cst_pos d; unfold cst; omega

/-- the ledger's rest: what stands for good, off the place and the table -/
structure Ok (pl tb : Addr) (I₀ R : LL) : Prop where
  sub : ∀ q ∈ I₀, q ∈ R
  np : ∀ q ∈ R, q.1 ≠ pl
  nt : ∀ q ∈ R, q.1 ≠ tb
  ne : tb ≠ pl
theorem Ok.cons {pl tb : Addr} {I₀ R : LL} {a : Addr} {o : Obj} (h1 : a ≠ pl) (h2 : a ≠ tb) (x : Ok pl tb I₀ R) : Ok pl tb I₀ ((a, o) :: R) where
  sub := fun q h => .tail _ (x.sub q h)
  np := fun q h => by
    rcases List.mem_cons.mp h with rfl | h
    · exact h1
    · exact x.np q h
  nt := fun q h => by
    rcases List.mem_cons.mp h with rfl | h
    · exact h2
    · exact x.nt q h
  ne := x.ne
/-- what is new lies apart -/
def Above (tl news : LL) : Prop := ∀ q ∈ tl, ∀ r ∈ news, r.1 ≠ q.1
theorem Ok.app {pl tb : Addr} {I₀ R tl : LL} {po to : Obj} (x : Ok pl tb I₀ R) (h : Above tl ((pl, po) :: (tb, to) :: R)) : Ok pl tb I₀ (tl ++ R) where
  sub := fun q hq => List.mem_append_right _ (x.sub q hq)
  np := fun q hq => by
    rcases List.mem_append.mp hq with hq | hq
    · exact Ne.symm (h q hq _ (.head _))
    · exact x.np q hq
  nt := fun q hq => by
    rcases List.mem_append.mp hq with hq | hq
    · exact Ne.symm (h q hq _ (.tail _ (.head _)))
    · exact x.nt q hq
  ne := x.ne
section
variable {h₀ h : Heap} {L : Addr} {own R tl : LL} {x y : Addr × Obj}
theorem front1 (N : News h₀ L h (own ++ x :: R)) : News h₀ L h (x :: (own ++ R)) := fun p hp => N p (by
  simp only [List.mem_cons, List.mem_append] at hp ⊢; rcases hp with h | h | h <;> simp [h])
theorem back1 (N : News h₀ L h (x :: (own ++ R))) : News h₀ L h (own ++ x :: R) := fun p hp => N p (by
  simp only [List.mem_cons, List.mem_append] at hp ⊢; rcases hp with h | h | h <;> simp [h])
theorem front2 (N : News h₀ L h (own ++ x :: y :: R)) : News h₀ L h (x :: y :: (own ++ R)) := fun p hp => N p (by
  simp only [List.mem_cons, List.mem_append] at hp ⊢; rcases hp with h | h | h | h <;> simp [h])
theorem back2 (N : News h₀ L h (x :: y :: (tl ++ (own ++ R)))) : News h₀ L h (own ++ x :: y :: (tl ++ R)) := fun p hp => N p (by
  simp only [List.mem_cons, List.mem_append] at hp ⊢; rcases hp with h | h | h | h | h <;> simp [h])
end

/-- what a call of the law's taker does -/
def TakeSpec (prog : Program) (w : World) (p : Program) (loose : List Str) (mean : ExcName → Option Value) (mg mb : Str → Option Value) (np : Nat) (pl tf : Addr) (I₀ : LL) : Prop :=
  ∀ (A A₀ : Around) (env : Env) (outer : List Env) (base h₀ : Heap) (L : Addr) (m : Str → Option Value) (s : Shared) (Q E : Value → Shared → Prop) (W : LL) (k : Int) (tk ltk : Tok) (lim : Int),
    A.frames = some (env :: outer) → env.frame = some L → env.scope.kind = .function → A.handled = none → A.depth + 110 < recursionLimit → A.units + 50 < cLine →
    Below A₀ base outer h₀ → Fr h₀ L s.heap m → (K w.params).In h₀ → Top p loose mean mg mb h₀ → h₀.NoSeer →
    News h₀ L s.heap ((pl, placeO k tk np) :: W) → (∀ q ∈ W, q.1 ≠ pl) → (∀ q ∈ I₀, q ∈ W) → 0 ≤ k → k < 900000 → 0 < lim → lim ≤ 64 →
    (∀ i itk h' tks tk', 0 ≤ i → i < lim → Fr h₀ L h' m → News h₀ L h' ((pl, placeO (k + 1) tk' np) :: W) → Q (.int i itk) { s with heap := h', toks := tks }) →
    wpAny (model prog w) A (call (.ref tf) [.int lim ltk]) Q E s
section
variable {prog : Program} {w : World} {p : Program} {loose : List Str} {mean : ExcName → Option Value} {mg mb : Str → Option Value} {np : Nat} {pl tb tf : Addr} {I₀ : LL}
  {A A₀ : Around} {env : Env} {outer : List Env} {base h₀ : Heap} {L : Addr} {m : Str → Option Value} {s : Shared} {Q E : Value → Shared → Prop}
theorem take_use {own R : LL} {k : Int} {tk ltk : Tok} {lim : Int} {to : Obj} (hT : TakeSpec prog w p loose mean mg mb np pl tf I₀)
    (hA : A.frames = some (env :: outer)) (hf : env.frame = some L) (hke : env.scope.kind = .function) (hh : A.handled = none) (hd : A.depth + 110 < recursionLimit) (hu : A.units + 50 < cLine)
    (B : Below A₀ base outer h₀) (F : Fr h₀ L s.heap m) (X : (K w.params).In h₀) (T : Top p loose mean mg mb h₀) (S : h₀.NoSeer)
    (N : News h₀ L s.heap (own ++ (pl, placeO k tk np) :: (tb, to) :: R)) (hown : ∀ q ∈ own, q.1 ≠ pl) (ok : Ok pl tb I₀ R)
    (hk0 : 0 ≤ k) (hk : k < 900000) (hl0 : 0 < lim) (hl1 : lim ≤ 64)
    (ret : ∀ i itk h' tks tk', 0 ≤ i → i < lim → Fr h₀ L h' m → News h₀ L h' (own ++ (pl, placeO (k + 1) tk' np) :: (tb, to) :: R) → Q (.int i itk) { s with heap := h', toks := tks }) :
    wpAny (model prog w) A (call (.ref tf) [.int lim ltk]) Q E s := by
  refine hT A A₀ env outer base h₀ L m s Q E (own ++ (tb, to) :: R) k tk ltk lim hA hf hke hh hd hu B F X T S (front1 N) ?_ ?_ hk0 hk hl0 hl1 fun i itk h' tks tk' h0 h1 F' N' => ret i itk h' tks tk' h0 h1 F' (back1 N')
  · intro q hq
    rcases List.mem_append.mp hq with hq | hq
    · exact hown q hq
    · rcases List.mem_cons.mp hq with rfl | hq
      · exact ok.ne
      · exact ok.np q hq
  · exact fun q hq => List.mem_append_right _ (.tail _ (ok.sub q hq))
def FnIn (I : LL) (tf : Addr) : Prop := ∃ oc od fd sl, (tf, (⟨oc, od, .func fd, sl⟩ : Obj)) ∈ I
theorem fnAt_use {h : Heap} {own R : LL} {x y : Addr × Obj} (hfn : FnIn I₀ tf) (ok : Ok pl tb I₀ R) (N : News h₀ L h (own ++ x :: y :: R)) : FnAt tf h := by
  obtain ⟨oc, od, fd, sl, hm⟩ := hfn
  exact ⟨oc, od, fd, sl, (N (tf, _) (List.mem_append_right _ (.tail _ (.tail _ (ok.sub _ hm))))).1⟩
theorem Above.nil {news : LL} : Above [] news := fun _ h => nomatch h
theorem Above.cons {news tl : LL} {a : Addr} {o : Obj} (h : ∀ r ∈ news, r.1 ≠ a) (x : Above tl news) : Above ((a, o) :: tl) news := fun q hq => by
  rcases List.mem_cons.mp hq with rfl | hq
  · exact h
  · exact x q hq
theorem Above.app {news tl tl' : LL} (x : Above tl news) (y : Above tl' news) : Above (tl ++ tl') news := fun q hq => by
  rcases List.mem_append.mp hq with hq | hq
  · exact x q hq
  · exact y q hq
theorem Above.sub {news news' tl : LL} (x : Above tl news) (h : ∀ r ∈ news', ∃ r' ∈ news, r'.1 = r.1) : Above tl news' := fun q hq r hr => by
  obtain ⟨r', h1, h2⟩ := h r hr
  exact h2 ▸ x q hq r' h1
/-- what a call of _law_plan to the depth d does -/
def PlanSpec (prog : Program) (w : World) (p : Program) (loose : List Str) (mean : ExcName → Option Value) (mg mb : Str → Option Value) (np : Nat) (pl tb tf : Addr) (I₀ : LL) (d : Nat) : Prop :=
  ∀ (A A₀ : Around) (env : Env) (outer : List Env) (base h₀ : Heap) (L : Addr) (m : Str → Option Value) (s : Shared) (Q E : Value → Shared → Prop)
    (R : LL) (k : Int) (tk dtk : Tok) (ot : Obj) (pn : Bool) (e : Int), e = (d : Nat) →
    A.frames = some (env :: outer) → env.frame = some L → env.scope.kind = .function → A.handled = none → A.depth + 120 + d < recursionLimit → A.units + 60 + 6 * d < cLine →
    Below A₀ base outer h₀ → Fr h₀ L s.heap m → (K w.params).In h₀ → Top p loose mean mg mb h₀ → h₀.NoSeer →
    News h₀ L s.heap ((pl, placeO k tk np) :: (tb, ot) :: R) → Ok pl tb I₀ R → 0 ≤ k → k + cst d < 900000 →
    (∀ v P tl k' h' tks tk', PlanIn tl v P → PlOk d pn P → k ≤ k' → k' ≤ k + cst d → Fr h₀ L h' m → News h₀ L h' ((pl, placeO k' tk' np) :: (tb, ot) :: (tl ++ R)) →
      Above tl ((pl, placeO k tk np) :: (tb, ot) :: R) → Q v { s with heap := h', toks := tks }) →
    wpAny (model prog w) A (call (.ref 397) [.ref tf, .int e dtk, .bool pn]) Q E s
theorem Ok.own {own R : LL} (h : ∀ q ∈ own, q.1 ≠ pl) (h' : ∀ q ∈ own, q.1 ≠ tb) (x : Ok pl tb I₀ R) : Ok pl tb I₀ (own ++ R) where
  sub := fun q hq => List.mem_append_right _ (x.sub q hq)
  np := fun q hq => (List.mem_append.mp hq).elim (h q) (x.np q)
  nt := fun q hq => (List.mem_append.mp hq).elim (h' q) (x.nt q)
  ne := x.ne
theorem plan_use {d : Nat} (hP : PlanSpec prog w p loose mean mg mb np pl tb tf I₀ d) {own R : LL} {k : Int} {tk dtk : Tok} {ot : Obj} {pn : Bool} {e : Int} (he : e = (d : Nat))
    (hA : A.frames = some (env :: outer)) (hf : env.frame = some L) (hke : env.scope.kind = .function) (hh : A.handled = none) (hd : A.depth + 120 + d < recursionLimit) (hu : A.units + 60 + 6 * d < cLine)
    (B : Below A₀ base outer h₀) (F : Fr h₀ L s.heap m) (X : (K w.params).In h₀) (T : Top p loose mean mg mb h₀) (S : h₀.NoSeer)
    (N : News h₀ L s.heap (own ++ (pl, placeO k tk np) :: (tb, ot) :: R)) (hown : ∀ q ∈ own, q.1 ≠ pl) (hown' : ∀ q ∈ own, q.1 ≠ tb) (ok : Ok pl tb I₀ R)
    (hk0 : 0 ≤ k) (hk : k + cst d < 900000)
    (ret : ∀ v P tl k' h' tks tk', PlanIn tl v P → PlOk d pn P → k ≤ k' → k' ≤ k + cst d → Fr h₀ L h' m → News h₀ L h' (own ++ (pl, placeO k' tk' np) :: (tb, ot) :: (tl ++ R)) →
      Above tl ((pl, placeO k tk np) :: (tb, ot) :: (own ++ R)) → Ok pl tb I₀ (tl ++ R) → Q v { s with heap := h', toks := tks }) :
    wpAny (model prog w) A (call (.ref 397) [.ref tf, .int e dtk, .bool pn]) Q E s := by
  refine hP A A₀ env outer base h₀ L m s Q E (own ++ R) k tk dtk ot pn e he hA hf hke hh hd hu B F X T S (front2 N) (ok.own hown hown') hk0 hk fun v P tl k' h' tks tk' a b c d' F' N' ab => ?_
  refine ret v P tl k' h' tks tk' a b c d' F' (back2 N') ab (Ok.app (po := placeO k tk np) (to := ot) ok (ab.sub fun r hr => ?_))
  rcases List.mem_cons.mp hr with rfl | hr
  · exact ⟨_, .head _, rfl⟩
  · rcases List.mem_cons.mp hr with rfl | hr
    · exact ⟨_, .tail _ (.head _), rfl⟩
    · exact ⟨r, .tail _ (.tail _ (List.mem_append_right _ hr)), rfl⟩
/-- a leaf comes back -/
theorem plan_intA {i : Int} {t : Tok} {tl : LL} (h0 : 0 ≤ i) : PlanIn tl (.int i t) (.g i.toNat) := by
  have e : ((i.toNat : Nat) : Int) = i := Int.toNat_of_nonneg h0
  simp only [PlanIn]; exact ⟨t, by rw [e]⟩
theorem plan_intB {i : Int} {d : Nat} {pn : Bool} (h0 : 0 ≤ i) (h1 : i < 4) : PlOk d pn (.g i.toNat) := by
  cases d <;> (simp only [PlOk]; omega)
end
section
open LCg
variable {prog : Program} {w : World} {A : Around} {E : Value → Shared → Prop} {s : Shared} {h₀ : Heap} {L : Addr} {m : Str → Option Value} {env : Env}
/-- what is left of a comprehension, by what holds between its turns -/
theorem comp_gen {elt : Expr} {x : Str} {scope : Scope} {cl : List (Str × Addr)} {S : LL → Prop} {P : Nat → Value → Prop} {Fin : List Value → LL → Prop} {n : Nat} (Inv : Nat → List Value → LL → Prop)
    (step : ∀ i ys news v I oI C oC D m₂ h tk (E' : Value → Shared → Prop), i < n → Inv i ys news → P i v → NsObj oC m₂ → m₂ x = some v → Fr h₀ L h m → News h₀ L h ((I, oI) :: (C, oC) :: (D, lst ys) :: news) → Off3 I C D news → (I ≠ C ∧ I ≠ D ∧ C ≠ D) →
      wpAny (model prog w) A (eval elt (compEnvC scope cl C env)) (fun y s' => ∃ h' tk' news', s' = { s with heap := h', toks := tk' } ∧ Fr h₀ L h' m ∧ News h₀ L h' ((I, oI) :: (C, oC) :: (D, lst ys) :: news') ∧ Off3 I C D news' ∧ S news' ∧ Inv (i + 1) (ys ++ [y]) news') E' { s with heap := h, toks := tk })
    (fin : ∀ ys news, Inv n ys news → Fin ys news) : ∀ j i ys news, i + j = n → Inv i ys news → CompRest prog w A h₀ L m env elt x scope cl s S P Fin j i ys news
  | 0, i, ys, news, e, hi => fin ys news ((show i = n from e) ▸ hi)
  | j + 1, i, ys, news, e, hi => CompRest.succ fun v I oI C oC D m₂ h tk E' hv hC hx F N off ne =>
      wpAny_mono (step i ys news v I oI C oC D m₂ h tk E' (by omega) hi hv hC hx F N off ne) (fun y s' ⟨h', tk', news', es, F', N', off', hS, hi'⟩ =>
        ⟨h', tk', news', by rw [es], F', N', off', hS, comp_gen Inv step fin j (i + 1) _ _ (by omega) hi'⟩) fun _ _ e => e
theorem off3_app {I C D : Addr} {tl R : LL} (h : ∀ q ∈ tl, q.1 ≠ I ∧ q.1 ≠ C ∧ q.1 ≠ D) (x : Off3 I C D R) : Off3 I C D (tl ++ R) := Off3.of fun p hp => by
  rcases List.mem_append.mp hp with hp | hp
  · have := h p hp; exact this
  · exact x.mem p hp
theorem off3_own {I C D : Addr} {own R : LL} {x x' y y' : Addr × Obj} (hx : x.1 = x'.1) (hy : y.1 = y'.1) {tl : LL} (h : ∀ q ∈ tl, q.1 ≠ I ∧ q.1 ≠ C ∧ q.1 ≠ D) (o : Off3 I C D (own ++ x :: y :: R)) : Off3 I C D (own ++ x' :: y' :: (tl ++ R)) := Off3.of fun p hp => by
  rcases List.mem_append.mp hp with hp | hp
  · exact o.mem p (List.mem_append_left _ hp)
  · rcases List.mem_cons.mp hp with rfl | hp
    · have := o.mem x (List.mem_append_right _ (.head _)); rw [hx] at this; exact this
    · rcases List.mem_cons.mp hp with rfl | hp
      · have := o.mem y (List.mem_append_right _ (.tail _ (.head _))); rw [hy] at this; exact this
      · rcases List.mem_append.mp hp with hp | hp
        · have := h p hp; exact this
        · exact o.mem p (List.mem_append_right _ (.tail _ (.tail _ hp)))
theorem pick_word {value slice : Expr} {D : Addr} {n : Nat} {t1 t2 : Tok} {news : LL} {k : Int} {u : Tok} {Q : Value → Shared → Prop} (N : News h₀ L s.heap news) (hm : (D, tupO [.str (Str.ofString "And") t1, .str (Str.ofString "Or") t2] n) ∈ news)
    (h0 : 0 ≤ k) (h1 : k < 2) (h : ∀ wd t, wd ≠ Wd.not → Q (.str wd.str t) s)
    (hs : subscripted slice false (.ref D) (.int k u) = operate [.ref D, .int k u] (getItem (.ref D) (.int k u)) := by with_unfolding_all rfl) :
    wpAny (model prog w) A (subscriptTail value slice (.ref D) (.int k u)) Q E s := by
  have hT : IsTup s.heap D [Value.str (Str.ofString "And") t1, .str (Str.ofString "Or") t2].toArray := News.isTup N hm
  have hk : k = 0 ∨ k = 1 := by omega
  rcases hk with rfl | rfl
  · exact item_tupleT hT (by decide) (by decide) rfl rfl (h .and t1 (by decide)) hs
  · exact item_tupleT hT (by decide) (by decide) rfl rfl (h .or t2 (by decide)) hs
theorem compRange {elt : Expr} {x : Str} {scope : Scope} {cl : List (Str × Addr)} {Fin : Shared → List Value → LL → Prop} {r : Addr} {b : Int} {t u v : Tok} {news : LL} {s₁ : Shared}
    (hh : A.handled = none) (F : Fr h₀ L s₁.heap m) (N : News h₀ L s₁.heap news) (hr : IsRange s₁.heap r 0 b 1 t u v) (h1 : 1 ≤ b) (h3 : b ≤ 3)
    (h : ∀ g n, ((n : Nat) : Int) = b → CompRest prog w A h₀ L m env elt x scope cl { s₁ with heap := g } (fun _ => True) (fun i v => ∃ t, v = .int (0 + (i : Int)) t) (Fin { s₁ with heap := g }) n 0 [] news) :
    CompSrc prog w A h₀ L m env elt x scope cl Fin (.ref r) s₁ := by
  have hb : b = 1 ∨ b = 2 ∨ b = 3 := by omega
  rcases hb with rfl | rfl | rfl
  · exact CompSrc.range hh F N hr (by decide) (n := 1) (by decide) (by decide) fun g => h g 1 rfl
  · exact CompSrc.range hh F N hr (by decide) (n := 2) (by decide) (by decide) fun g => h g 2 rfl
  · exact CompSrc.range hh F N hr (by decide) (n := 3) (by decide) (by decide) fun g => h g 3 rfl
theorem above_lt {news : LL} {b a : Addr} (h : ∀ r ∈ news, r.1 < b) (k : @LT.lt Nat _ b a) : ∀ r ∈ news, r.1 ≠ a := fun r hr => Nat.ne_of_lt (Nat.lt_trans (h r hr) k)
theorem off1_mem {D : Addr} : ∀ {l : LL}, Off1 D l → ∀ p ∈ l, p.1 ≠ D
  | [], _, _, h => nomatch h
  | _ :: _, x, p, h => by
    rcases List.mem_cons.mp h with rfl | h
    · exact x.1
    · exact off1_mem x.2 p h
theorem off1_base {D : Addr} {own tl R : LL} {x y x' y' : Addr × Obj} (o : Off1 D (own ++ x :: y :: (tl ++ R))) (hx : x.1 = x'.1) (hy : y.1 = y'.1) : ∀ r ∈ x' :: y' :: R, r.1 ≠ D := fun r hr => by
  rcases List.mem_cons.mp hr with rfl | hr
  · rw [← hx]; exact off1_mem o _ (List.mem_append_right _ (.head _))
  · rcases List.mem_cons.mp hr with rfl | hr
    · rw [← hy]; exact off1_mem o _ (List.mem_append_right _ (.tail _ (.head _)))
    · exact off1_mem o _ (List.mem_append_right _ (.tail _ (.tail _ (List.mem_append_right _ hr))))
theorem ab_sub2 {tl9 own tl R : LL} {x y x' y' : Addr × Obj} (ab : Above tl9 (x :: y :: (own ++ (tl ++ R)))) (hx : x.1 = x'.1) (hy : y.1 = y'.1) : Above tl9 (x' :: y' :: R) := ab.sub fun r hr => by
  rcases List.mem_cons.mp hr with rfl | hr
  · exact ⟨x, .head _, hx⟩
  · rcases List.mem_cons.mp hr with rfl | hr
    · exact ⟨y, .tail _ (.head _), hy⟩
    · exact ⟨r, .tail _ (.tail _ (List.mem_append_right _ (List.mem_append_right _ hr))), rfl⟩
theorem ab_sub {tl own R : LL} {x y x' y' : Addr × Obj} (ab : Above tl (x :: y :: (own ++ R))) (hx : x.1 = x'.1) (hy : y.1 = y'.1) : Above tl (x' :: y' :: R) := ab.sub fun r hr => by
  rcases List.mem_cons.mp hr with rfl | hr
  · exact ⟨x, .head _, hx⟩
  · rcases List.mem_cons.mp hr with rfl | hr
    · exact ⟨y, .tail _ (.head _), hy⟩
    · exact ⟨r, .tail _ (.tail _ (List.mem_append_right _ hr)), rfl⟩
theorem front2a {h : Heap} {own R tl : LL} {x y : Addr × Obj} (N : News h₀ L h (own ++ x :: y :: (tl ++ R))) : News h₀ L h (x :: y :: ((own ++ tl) ++ R)) := by
  rw [List.append_assoc]; exact front2 N
theorem mul_step {n i c : Nat} (h : i < n) : (n - i) * c = (n - (i + 1)) * c + c := by
  rw [show n - i = (n - (i + 1)) + 1 by omega, Nat.succ_mul]
theorem inv0_le {k : Int} {n c : Nat} (h : n ≤ 3) : k + 1 + 1 + 1 + (((n - 0) * c : Nat) : Int) ≤ k + ((3 + 3 * c : Nat) : Int) := by
  have : (n - 0) * c ≤ 3 * c := Nat.mul_le_mul_right _ (by omega)
  generalize (n - 0) * c = x at *
  omega
theorem inv_room {k kend : Int} {n i c : Nat} (h : i < n) (hk : k + (((n - i) * c : Nat) : Int) ≤ kend) : k + ((c : Nat) : Int) ≤ kend := by
  have := mul_step (c := c) h
  generalize (n - i) * c = x at *
  generalize (n - (i + 1)) * c = y at *
  omega
theorem inv_next {k k9 kend : Int} {n i c : Nat} (h : i < n) (hk : k + (((n - i) * c : Nat) : Int) ≤ kend) (h9 : k9 ≤ k + ((c : Nat) : Int)) : k9 + (((n - (i + 1)) * c : Nat) : Int) ≤ kend := by
  have := mul_step (c := c) h
  generalize (n - i) * c = x at *
  generalize (n - (i + 1)) * c = y at *
  omega
/-- between the turns of _law_plan's comprehension -/
def PlanInv (own : LL) (pl tb : Addr) (np : Nat) (base R : LL) (I₀ : LL) (ot : Obj) (d : Nat) (pn : Bool) (n : Nat) (k kend : Int) (i : Nat) (ys : List Value) (news : LL) : Prop :=
  ∃ Ps tl k' tk', news = own ++ (pl, placeO k' tk' np) :: (tb, ot) :: (tl ++ R) ∧ PlansIn tl ys Ps ∧ PlsOk d pn Ps ∧ Ps.length = i ∧ k ≤ k' ∧ k' + (((n - i) * cst d : Nat) : Int) ≤ kend ∧ Above tl base ∧ Ok pl tb I₀ (tl ++ R)
/-- _law_plan's comprehension -/
theorem plan_comp {elt : Expr} {x : Str} {scope : Scope} {cl : List (Str × Addr)} {Sx : LL → Prop} {Px : Nat → Value → Prop} {Fin : List Value → LL → Prop}
    {own R I₀ : LL} {pl tb : Addr} {np : Nat} {ot : Obj} {d : Nat} {pn : Bool} {n : Nat} {k₀ kend : Int} {tk₀ : Tok} (pb : Obj) (hS : ∀ l, Sx l)
    (h0 : k₀ + (((n - 0) * cst d : Nat) : Int) ≤ kend) (ok : Ok pl tb I₀ R)
    (step : ∀ i ys v It oI Ct oC Dt m₂ h tk (E' : Value → Shared → Prop) tl k' tk', Px i v → NsObj oC m₂ → m₂ x = some v → Fr h₀ L h m →
      News h₀ L h ((It, oI) :: (Ct, oC) :: (Dt, lst ys) :: (own ++ (pl, placeO k' tk' np) :: (tb, ot) :: (tl ++ R))) → Off3 It Ct Dt (own ++ (pl, placeO k' tk' np) :: (tb, ot) :: (tl ++ R)) → (It ≠ Ct ∧ It ≠ Dt ∧ Ct ≠ Dt) →
      k₀ ≤ k' → k' + ((cst d : Nat) : Int) ≤ kend → Ok pl tb I₀ (tl ++ R) →
      wpAny (model prog w) A (eval elt (compEnvC scope cl Ct env)) (fun y s' => ∃ h' tks P tl9 k9 tk9, s' = { s with heap := h', toks := tks } ∧ Fr h₀ L h' m ∧
        News h₀ L h' ((It, oI) :: (Ct, oC) :: (Dt, lst ys) :: (own ++ (pl, placeO k9 tk9 np) :: (tb, ot) :: (tl9 ++ (tl ++ R)))) ∧ PlanIn tl9 y P ∧ PlOk d pn P ∧ k' ≤ k9 ∧ k9 ≤ k' + ((cst d : Nat) : Int) ∧
        Above tl9 ((pl, placeO k' tk' np) :: (tb, ot) :: ((It, oI) :: (Ct, oC) :: (Dt, lst ys) :: (own ++ (tl ++ R))))) E' { s with heap := h, toks := tk })
    (fin : ∀ ys Ps tl k' tk', PlansIn tl ys Ps → PlsOk d pn Ps → Ps.length = n → k₀ ≤ k' → k' ≤ kend → Above tl ((pl, pb) :: (tb, ot) :: R) → Fin ys (own ++ (pl, placeO k' tk' np) :: (tb, ot) :: (tl ++ R))) :
    CompRest prog w A h₀ L m env elt x scope cl s Sx Px Fin n 0 [] (own ++ (pl, placeO k₀ tk₀ np) :: (tb, ot) :: R) := by
  refine comp_gen (n := n) (PlanInv own pl tb np ((pl, pb) :: (tb, ot) :: R) R I₀ ot d pn n k₀ kend) ?_ ?_ n 0 [] _ (by omega) ⟨[], [], k₀, tk₀, rfl, by simp only [PlansIn], by simp only [PlsOk], rfl, Int.le_refl _, h0, .nil, ok⟩
  · rintro i ys news v It oI Ct oC Dt m₂ h tk E' hi ⟨Ps, tl, k', tk', rfl, hps, hpo, hlen, hk1, hk2, hab, hok⟩ hv hNs hx F N off ne
    refine wpAny_mono (step i ys v It oI Ct oC Dt m₂ h tk E' tl k' tk' hv hNs hx F N off ne hk1 (inv_room hi hk2) hok) (fun y s' => ?_) fun _ _ e => e
    rintro ⟨h', tks, P, tl9, k9, tk9, rfl, F9, N9, p9, q9, j0, j1, ab9⟩
    have o9 : Off3 It Ct Dt (own ++ (pl, placeO k9 tk9 np) :: (tb, ot) :: (tl9 ++ (tl ++ R))) := off3_own (x := (pl, placeO k' tk' np)) (x' := (pl, placeO k9 tk9 np)) (y := (tb, ot)) (y' := (tb, ot)) rfl rfl (fun q hq => ⟨Ne.symm (ab9 q hq (It, oI) (by simp)), Ne.symm (ab9 q hq (Ct, oC) (by simp)), Ne.symm (ab9 q hq (Dt, lst ys) (by simp))⟩) off
    refine ⟨h', tks, _, rfl, F9, N9, o9, hS _, Ps ++ [P], tl9 ++ tl, k9, tk9, by rw [List.append_assoc], ?_, PlsOk.snoc q9 hpo, by simp [hlen], by omega, inv_next hi hk2 j1, ?_, ?_⟩
    · exact PlansIn.snoc (PlanIn.mono (fun q h => List.mem_append_left _ h) p9) (PlansIn.mono (fun q h => List.mem_append_right _ h) hps)
    · refine Above.app (ab9.sub fun r hr => ?_) hab
      rcases List.mem_cons.mp hr with rfl | hr
      · exact ⟨_, .head _, rfl⟩
      · rcases List.mem_cons.mp hr with rfl | hr
        · exact ⟨_, .tail _ (.head _), rfl⟩
        · exact ⟨r, by simp [hr], rfl⟩
    · rw [List.append_assoc]
      refine Ok.app (po := placeO k' tk' np) (to := ot) hok (ab9.sub fun r hr => ⟨r, ?_, rfl⟩)
      rcases List.mem_cons.mp hr with rfl | hr
      · exact .head _
      · rcases List.mem_cons.mp hr with rfl | hr
        · exact .tail _ (.head _)
        · exact .tail _ (.tail _ (.tail _ (.tail _ (.tail _ (List.mem_append_right _ hr)))))
  · rintro ys news ⟨Ps, tl, k', tk', rfl, hps, hpo, hlen, hk1, hk2, hab, _⟩
    have hz : (((n - n) * cst d : Nat) : Int) = 0 := by simp
    exact fin ys Ps tl k' tk' hps hpo hlen hk1 (by omega) hab
end
end
/-! ## part Take -/
section
example : True := by (w_top off; trivial)
local macro_rules | `(tactic| walk_at "eval Name") => `(tactic| (k_here; k_dflt (refine' nameX_F ?N ?c ?m ?d ?_ ?a ?b; (case a | b => rfl); (case N => k_asm); (case c => rfl); (case m => k_mem); (case d => k_asm); k_whole)))
local macro_rules | `(tactic| k_all) => `(tactic| assumption)
local macro_rules | `(tactic| k_mem) => `(tactic| assumption)
local macro_rules | `(tactic| walk_at "call builtin:len") => `(tactic| (k_here; (with_reducible show wpAny _ _ (call (Value.builtin "len") [Value.ref _]) _ _ _); k_dflt (refine len_N (by k_asm) (by k_mem) ?hf ?_; (case hf => omega); k_whole); intro t9 t8))
local macro_rules | `(tactic| walk_at "subscriptTail") => `(tactic| (k_here; (with_reducible show wpAny _ _ (subscriptTail _ _ (Value.ref _) (Value.int _ _)) _ _ _); k_dflt (refine itemI_N (by k_asm) (by k_mem) (by assumption) ?h0 ?h1 ?h2 ?_ ?hs; (case h0 | h1 | h2 => l_fact); (case hs => with_unfolding_all rfl); k_whole); intro x9 t9))
local macro_rules | `(tactic| walk_at "binaryOp FloorDiv int int") => `(tactic| (k_here; (with_reducible show wpAny _ _ (binaryOp Operator.FloorDiv (Value.int _ _) (Value.int (HPow.hPow _ _) _)) _ _ _); k_dflt (refine' fdivP_N (c := 720720) ?S ?l ?g ?c ?d ?f ?e1 ?e2 ?e3 ?e4 ?_; (case S => exact Heap.NoSeer.keeps (by assumption) (Fr.keep (by k_asm))); (case l => exact Heap.NoLimit.keeps (Top.nolimit (by assumption)) (Fr.keep (by k_asm))); (case g => assumption); (case c => decide); (case d => simp only [recursionLimit, depth_deeper] at *; omega); (case f | e1 | e2 | e3 | e4 => exact rfl); k_whole); intro x9 t9))
local macro_rules | `(tactic| walk_at "binaryOp Pow int int") => `(tactic| (k_here; k_dflt (refine' pow_int_small ?a ?b ?c ?_; (case a => exact fdiv_lo (by assumption) (by omega)); (case b => exact fdiv_hi (by assumption) (by omega) (by assumption)); (case c => decide); k_whole)))

theorem take_core {prog : Program} {w : World} {p : Program} {loose : List Str} {mean : ExcName → Option Value} {mg mb : Str → Option Value}
    {A : Around} {A₀ : Around} {env : Env} {outer : List Env} {base h₀ : Heap} {L : Addr} {m : Str → Option Value} {s : Shared} {Q E : Value → Shared → Prop}
    {W : LL} {pl tf : Addr} {k : Int} {tk ltk : Tok} {np : Nat} {lim : Int}
    {nm qual : Str} {doc pm ctv : Value} {c' cc cp cl : Addr} {oc occ ocp : Obj} {vs : Array Value} {t : Tok} {items : List Value} {ns : List Int} {nl : Nat}
    (hA : A.frames = some (env :: outer)) (hf : env.frame = some L) (hke : env.scope.kind = .function) (hh : A.handled = none) (hd : A.depth + 110 < recursionLimit) (hg : prog.given.tree = none) (S : h₀.NoSeer) (hu : A.units + 50 < cLine)
    (B : Below A₀ base outer h₀) (F : Fr h₀ L s.heap m) (X : (K w.params).In h₀) (T : Top p loose mean mg mb h₀)
    (N : News h₀ L s.heap ((pl, placeO k tk np) :: W))
    (hne : ∀ q ∈ W, q.1 ≠ pl)
    (m1 : (tf, fnMade nm qual (stArgs takeSt) (stBody takeSt) (stScope takeSt) [(Str.ofString "place", cp), (Str.ofString "cells", cc)] doc pm c' ctv) ∈ W)
    (m2 : (c', oc) ∈ W) (d2 : oc.data = .fields vs) (d3 : vs[1]? = some (.str qual t))
    (m3 : (cc, occ) ∈ W) (d4 : occ.data = .cell (some (.ref cl))) (m4 : (cp, ocp) ∈ W) (d5 : ocp.data = .cell (some (.ref pl)))
    (m5 : (cl, ({ cls := .type "list", data := .seq items.toArray nl } : Obj)) ∈ W) (hI : IntsAre items ns) (hn0 : 0 < ns.length) (hn1 : ns.length ≤ 63)
    (hk0 : 0 ≤ k) (hk : k < 900000) (hl0 : 0 < lim) (hl1 : lim ≤ 64)
    (ret : ∀ i itk h' tks tk', 0 ≤ i → i < lim → Fr h₀ L h' m → News h₀ L h' ((pl, placeO (k + 1) tk' np) :: W) → Q (.int i itk) { s with heap := h', toks := tks }) :
    wpAny (model prog w) A (call (.ref tf) [.int lim ltk]) Q E s := by
  have hlen := hI.length
  obtain ⟨hd', dp, fr, gd, un⟩ := A
  dsimp only at hA hh hd hu
  subst hA hh
  conv at m1 => arg 2; arg 2; arg 3; whnf
  conv at m1 => arg 2; arg 2; arg 4; whnf
  conv at m1 => arg 2; arg 2; arg 5; whnf
  refine wpAny_call ?_
  k_dflt (refine' code_nest B F X N T rfl hf hke ?k6 ?k7 ?k8 ?k9 ?kB ?_ ?c2 ?c3 ?c4 ?c5; (case k6 => exact .tail _ m1); (case k7 => exact codeRec_news N (.tail _ m2) d2 d3); (case k8 => (simp only [recursionLimit] at *; omega)); (case k9 => exact BindsTo.of_eq rfl); (case c5 => decide); (case kB => exact locs rfl); (case c2 => exact rfl); (case c3 => exact rfl); (case c4 => exact rfl))
  k_dflt (intro g' L' h' FG' F' N' B' X' T'; (try dsimp only))
  have S' := S.keeps FG'.keep
  clear N F X T B S
  k_unmd
  k_fold
  repeat' (first | (k_unfold; (try dsimp only)) | (k_end; wrow_close) | walk1 | (dsimp only; walk1) | (leave1; walk_say "STEP leave1"; try dsimp only) | fail "no step")
  k_dflt (refine' leaveK_ ?k1 ?k2 ?_; (case k1 => k_asm); (case k2 => k_asm))
  intro kF kN
  refine ret _ _ _ _ _ ?_ ?_ kF kN
  · rw [Int.fmod_eq_emod_of_nonneg _ (by omega)]; exact Int.emod_nonneg _ (by omega)
  · rw [Int.fmod_eq_emod_of_nonneg _ (by omega)]; exact Int.emod_lt_of_pos _ (by omega)
end
/-! ## part Base2 -/
section
example : True := by (w_top off; trivial)
mutual
/-- a well made plan: no deeper than d, one to n parts, a Not has one -/
def Wf (n : Nat) : Nat → Pl → Prop
  | _, .g i => i < 4
  | 0, .op _ _ => False
  | d + 1, .op wd ps => 1 ≤ ps.length ∧ ps.length ≤ n ∧ (wd = .not → ps.length = 1) ∧ Wfs n d ps
def Wfs (n : Nat) : Nat → List Pl → Prop
  | _, [] => True
  | d, p :: ps => Wf n d p ∧ Wfs n d ps
end
theorem Wfs.get {n d : Nat} : ∀ {ps : List Pl}, Wfs n d ps → ∀ {i : Nat} {p : Pl}, ps[i]? = some p → Wf n d p
  | p :: ps, x, 0, q, h => by
    simp only [Wfs] at x
    simp only [List.getElem?_cons_zero, Option.some.injEq] at h
    exact h ▸ x.1
  | p :: ps, x, i + 1, q, h => by
    simp only [Wfs] at x
    exact Wfs.get x.2 (by simpa using h)
  | [], _, i, q, h => by simp at h
theorem Wfs.snoc {n d : Nat} {p : Pl} (h : Wf n d p) : ∀ {ps : List Pl}, Wfs n d ps → Wfs n d (ps ++ [p])
  | [], _ => by simp only [List.nil_append, Wfs, and_true]; exact h
  | q :: ps, x => by
    simp only [List.cons_append, Wfs] at x ⊢
    exact ⟨x.1, Wfs.snoc h x.2⟩
theorem PlansIn.get {R : LL} : ∀ {vs : List Value} {ps : List Pl}, PlansIn R vs ps → ∀ {i : Nat} {v : Value}, vs[i]? = some v → ∃ p, ps[i]? = some p ∧ PlanIn R v p
  | v :: vs, p :: ps, x, 0, u, h => by
    simp only [PlansIn] at x
    simp only [List.getElem?_cons_zero, Option.some.injEq] at h
    exact ⟨p, rfl, h ▸ x.1⟩
  | v :: vs, p :: ps, x, i + 1, u, h => by
    simp only [PlansIn] at x
    obtain ⟨q, h1, h2⟩ := PlansIn.get x.2 (i := i) (v := u) (by simpa using h)
    exact ⟨q, by simpa using h1, h2⟩
  | [], [], _, i, u, h => by simp at h
  | [], _ :: _, x, _, _, _ => by simp only [PlansIn] at x
  | _ :: _, [], x, _, _, _ => by simp only [PlansIn] at x
/-- two lists, pair by pair -/
inductive Two (r : Pl → Pl → Prop) : List Pl → List Pl → Prop
  | nil : Two r [] []
  | cons {a b : Pl} {l l' : List Pl} : r a b → Two r l l' → Two r (a :: l) (b :: l')
theorem Two.snoc {r : Pl → Pl → Prop} {a b : Pl} {l l' : List Pl} (x : Two r l l') (h : r a b) : Two r (l ++ [a]) (l' ++ [b]) := by
  induction x with
  | nil => exact .cons h .nil
  | cons h' _ ih => exact .cons h' ih
theorem Two.length {r : Pl → Pl → Prop} {l l' : List Pl} (x : Two r l l') : l.length = l'.length := by
  induction x with
  | nil => rfl
  | cons _ _ ih => simp [ih]
section
open LCg
variable {prog : Program} {w : World} {A : Around} {E : Value → Shared → Prop} {s : Shared} {h₀ : Heap} {L : Addr} {m : Str → Option Value} {env : Env}
/-- a comprehension over a plan's parts, each part to a new plan -/
theorem map_comp {elt : Expr} {x : Str} {scope : Scope} {cl : List (Str × Addr)} {Fin : List Value → LL → Prop}
    {own R I I₀ : LL} {pl tb ax : Addr} {np nk : Nat} {ot : Obj} {k₀ kend : Int} {tk₀ : Tok} (pb : Obj) (Rel : Pl → Pl → Prop) (c : Nat) (vs : List Value) (ps : List Pl)
    (hI : ∀ q ∈ I, q ∈ R) (hax : (ax, lstO vs nk) ∈ R)
    (h0 : k₀ + (((ps.length - 0) * c : Nat) : Int) ≤ kend) (ok : Ok pl tb I₀ R) (hP : PlansIn I vs ps)
    (step : ∀ v P ys It oI Ct oC Dt m₂ h tk (E' : Value → Shared → Prop) tl k' tk', P ∈ ps → PlanIn I v P → NsObj oC m₂ → m₂ x = some v → Fr h₀ L h m →
      News h₀ L h ((It, oI) :: (Ct, oC) :: (Dt, lst ys) :: (own ++ (pl, placeO k' tk' np) :: (tb, ot) :: (tl ++ R))) → Off3 It Ct Dt (own ++ (pl, placeO k' tk' np) :: (tb, ot) :: (tl ++ R)) → (It ≠ Ct ∧ It ≠ Dt ∧ Ct ≠ Dt) →
      k₀ ≤ k' → k' + ((c : Nat) : Int) ≤ kend → Ok pl tb I₀ (tl ++ R) →
      wpAny (model prog w) A (eval elt (compEnvC scope cl Ct env)) (fun y s' => ∃ h' tks P' tl9 k9 tk9, s' = { s with heap := h', toks := tks } ∧ Fr h₀ L h' m ∧
        News h₀ L h' ((It, oI) :: (Ct, oC) :: (Dt, lst ys) :: (own ++ (pl, placeO k9 tk9 np) :: (tb, ot) :: (tl9 ++ (tl ++ R)))) ∧ PlanIn (tl9 ++ I) y P' ∧ Rel P P' ∧ k' ≤ k9 ∧ k9 ≤ k' + ((c : Nat) : Int) ∧
        Above tl9 ((pl, placeO k' tk' np) :: (tb, ot) :: ((It, oI) :: (Ct, oC) :: (Dt, lst ys) :: (own ++ (tl ++ R))))) E' { s with heap := h, toks := tk })
    (fin : ∀ ys Ps tl k' tk', PlansIn (tl ++ I) ys Ps → Two Rel ps Ps → k₀ ≤ k' → k' ≤ kend → Above tl ((pl, pb) :: (tb, ot) :: R) → Ok pl tb I₀ (tl ++ R) → Fin ys (own ++ (pl, placeO k' tk' np) :: (tb, ot) :: (tl ++ R))) :
    CompRest prog w A h₀ L m env elt x scope cl s (SrcAt h₀ ax vs.toArray) (fun i v => vs.toArray[i]? = some v) Fin vs.toArray.size 0 [] (own ++ (pl, placeO k₀ tk₀ np) :: (tb, ot) :: R) := by
  have hl : vs.length = ps.length := hP.len
  refine comp_gen (n := vs.toArray.size) (fun i ys news => ∃ Ps tl k' tk', news = own ++ (pl, placeO k' tk' np) :: (tb, ot) :: (tl ++ R) ∧ PlansIn (tl ++ I) ys Ps ∧ Two Rel (ps.take i) Ps ∧ k₀ ≤ k' ∧ k' + (((ps.length - i) * c : Nat) : Int) ≤ kend ∧
    Above tl ((pl, pb) :: (tb, ot) :: R) ∧ Ok pl tb I₀ (tl ++ R)) ?_ ?_ _ 0 [] _ (by omega) ⟨[], [], k₀, tk₀, rfl, by simp only [PlansIn], .nil, Int.le_refl _, h0, .nil, ok⟩
  · rintro i ys news v It oI Ct oC Dt m₂ h tk E' hi ⟨Ps, tl, k', tk', rfl, hps, htw, hk1, hk2, hab, hok⟩ hv hNs hx F N off ne
    have hi' : i < ps.length := by simpa [hl] using hi
    obtain ⟨P, hpi, hpv⟩ := hP.get (i := i) (v := v) (by simpa using hv)
    refine wpAny_mono (step v P ys It oI Ct oC Dt m₂ h tk E' tl k' tk' (List.mem_of_getElem? hpi) hpv hNs hx F N off ne hk1 (inv_room hi' hk2) hok) (fun y s' => ?_) fun _ _ e => e
    rintro ⟨h', tks, P', tl9, k9, tk9, rfl, F9, N9, p9, q9, j0, j1, ab9⟩
    have o9 : Off3 It Ct Dt (own ++ (pl, placeO k9 tk9 np) :: (tb, ot) :: (tl9 ++ (tl ++ R))) := off3_own (x := (pl, placeO k' tk' np)) (x' := (pl, placeO k9 tk9 np)) (y := (tb, ot)) (y' := (tb, ot)) rfl rfl (fun q hq => ⟨Ne.symm (ab9 q hq (It, oI) (by simp)), Ne.symm (ab9 q hq (Ct, oC) (by simp)), Ne.symm (ab9 q hq (Dt, lst ys) (by simp))⟩) off
    refine ⟨h', tks, _, rfl, F9, N9, o9, .inr ⟨lstO vs nk, List.mem_append_right _ (.tail _ (.tail _ (List.mem_append_right _ (List.mem_append_right _ hax)))), rfl, nk, rfl⟩, Ps ++ [P'], tl9 ++ tl, k9, tk9, by rw [List.append_assoc], ?_, ?_, by omega, inv_next hi' hk2 j1, ?_, ?_⟩
    · rw [List.append_assoc]
      refine PlansIn.snoc (PlanIn.mono (fun q h => ?_) p9) (PlansIn.mono (fun q h => List.mem_append_right _ h) hps)
      rcases List.mem_append.mp h with h | h
      · exact List.mem_append_left _ h
      · exact List.mem_append_right _ (List.mem_append_right _ h)
    · rw [List.take_add_one, hpi]
      exact htw.snoc q9
    · refine Above.app (ab9.sub fun r hr => ?_) hab
      rcases List.mem_cons.mp hr with rfl | hr
      · exact ⟨_, .head _, rfl⟩
      · rcases List.mem_cons.mp hr with rfl | hr
        · exact ⟨_, .tail _ (.head _), rfl⟩
        · exact ⟨r, by simp [hr], rfl⟩
    · rw [List.append_assoc]
      refine Ok.app (po := placeO k' tk' np) (to := ot) hok (ab9.sub fun r hr => ⟨r, ?_, rfl⟩)
      rcases List.mem_cons.mp hr with rfl | hr
      · exact .head _
      · rcases List.mem_cons.mp hr with rfl | hr
        · exact .tail _ (.head _)
        · exact .tail _ (.tail _ (.tail _ (.tail _ (.tail _ (List.mem_append_right _ hr)))))
  · rintro ys news ⟨Ps, tl, k', tk', rfl, hps, htw, hk1, hk2, hab, hok⟩
    have e : ps.take vs.toArray.size = ps := List.take_of_length_le (by simp [hl])
    rw [e] at htw
    have hz : (((ps.length - vs.toArray.size) * c : Nat) : Int) = 0 := by simp [hl]
    exact fin ys Ps tl k' tk' hps htw hk1 (by omega) hab hok
end

section
variable {prog : Program} {w : World} {A : Around} {E : Value → Shared → Prop} {s : Shared} {h₀ : Heap} {L : Addr} {news : LL}
theorem bool_index : typeLookup (.type "bool") "__index__" = pure (some (.builtin "int.__index__")) := by rw [typeLookup_type, builtinLookup_eq_fast]; kernel_rfl
theorem getItem_tuple_bool {t : Addr} {items : Array Value} {b : Bool} {x : Value} {Q : Value → Shared → Prop} (ht : IsTup s.heap t items)
    (hx : (seqIndex? (if b then 1 else 0) items.size).bind (items[·]?) = some x) (h : Q x s) : wpAny (model prog w) A (getItem (.ref t) (.bool b)) Q E s := by
  unfold getItem
  try with_reducible refine wpAny_holding ?_
  first | refine wpAny_bind (wpAny_pure ?_) | skip
  refine wpAny_bind (wpAny_sequenceKey ht.typeIs (by decide) ?_)
  refine wpAny_bind (wpAny_callSpecial?_slot (name := Str.ofString "__getitem__") ht.typeIs slot_tuple_getitem
    (wpAny_call_entry slot_tuple_getitem ht.typeIs entry_tuple_getitem ?_ (args_tuple_getitem _ _)))
  show wpAny _ _ (Builtin.Tuple.tupleItemsOf (.ref t) >>= _) _ _ s
  refine wpAny_bind (tupleItemsOf_ ht ?_)
  refine wpAny_bind (wpAny_typeOf (show s.TypeIs (.bool b) "bool" from rfl) ?_)
  rw [if_neg (by decide)]
  refine wpAny_bind (wpAny_specialOf (T := "bool") (show s.TypeIs (.bool b) "bool" from rfl) bool_index ?_)
  rw [if_neg (by simp)]
  refine wpAny_bind (wpAny_of_eq (a := if b then 1 else 0) (by cases b <;> rfl) ?_)
  rw [if_neg (by cases b <;> decide)]
  simp only [hx]
  exact wpAny_pure ⟨_, rfl, wpAny_pure h⟩
theorem pick_bool {value slice : Expr} {D : Addr} {n : Nat} {x y : Value} {b : Bool} {Q : Value → Shared → Prop} (N : News h₀ L s.heap news) (hm : (D, tupO [x, y] n) ∈ news)
    (h : Q (if b then y else x) s)
    (hs : subscripted slice false (.ref D) (.bool b) = operate [.ref D, .bool b] (getItem (.ref D) (.bool b)) := by with_unfolding_all rfl) :
    wpAny (model prog w) A (subscriptTail value slice (.ref D) (.bool b)) Q E s := by
  have hT : IsTup s.heap D [x, y].toArray := News.isTup N hm
  refine tail_any hT.typeIs slot_tuple_getitem.lookup (getItem_tuple_bool hT (x := if b then y else x) (by cases b <;> rfl) h) hs
end
mutual
def denied : Pl → Pl
  | .g i => .op .not [.g i]
  | .op .not ps => ps.headD (.g 0)
  | .op .and ps => .op .or (deniedL ps)
  | .op .or ps => .op .and (deniedL ps)
def deniedL : List Pl → List Pl
  | [] => []
  | p :: ps => denied p :: deniedL ps
end
mutual
def mirror : Pl → Pl
  | .g i => .op .not [.g i]
  | .op wd ps => .op wd (mirrorL ps)
def mirrorL : List Pl → List Pl
  | [] => []
  | p :: ps => mirror p :: mirrorL ps
end
theorem two_denied {ps Ps : List Pl} (x : Two (fun a b => b = denied a) ps Ps) : Ps = deniedL ps := by
  induction x with
  | nil => simp only [deniedL]
  | cons h _ ih => simp only [deniedL]; rw [h, ih]
theorem two_mirror {ps Ps : List Pl} (x : Two (fun a b => b = mirror a) ps Ps) : Ps = mirrorL ps := by
  induction x with
  | nil => simp only [mirrorL]
  | cons h _ ih => simp only [mirrorL]; rw [h, ih]
/-- what a call of a plan's maker does: one plan in, one out -/
def MapSpec (prog : Program) (w : World) (p : Program) (loose : List Str) (mean : ExcName → Option Value) (mg mb : Str → Option Value) (np : Nat) (pl tb : Addr) (I₀ : LL) (f : Addr) (mk : Value → List Value)
    (Rel : Pl → Pl → Prop) (n : Nat) (cost : Nat → Nat) (d : Nat) : Prop :=
  ∀ (A A₀ : Around) (env : Env) (outer : List Env) (base h₀ : Heap) (L : Addr) (m : Str → Option Value) (s : Shared) (Q E : Value → Shared → Prop)
    (R I : LL) (k : Int) (tk : Tok) (ot : Obj) (v : Value) (P : Pl),
    A.frames = some (env :: outer) → env.frame = some L → env.scope.kind = .function → A.handled = none → A.depth + 120 + d < recursionLimit → A.units + 60 + 6 * d < cLine →
    Below A₀ base outer h₀ → Fr h₀ L s.heap m → (K w.params).In h₀ → Top p loose mean mg mb h₀ → h₀.NoSeer →
    News h₀ L s.heap ((pl, placeO k tk np) :: (tb, ot) :: R) → Ok pl tb I₀ R → (∀ q ∈ I, q ∈ R) → Wf n d P → PlanIn I v P → 0 ≤ k → k + ((cost d : Nat) : Int) < 900000 →
    (∀ v' P' tl k' h' tks tk', PlanIn (tl ++ I) v' P' → Rel P P' → k ≤ k' → k' ≤ k + ((cost d : Nat) : Int) → Fr h₀ L h' m → News h₀ L h' ((pl, placeO k' tk' np) :: (tb, ot) :: (tl ++ R)) →
      Above tl ((pl, placeO k tk np) :: (tb, ot) :: R) → Q v' { s with heap := h', toks := tks }) →
    wpAny (model prog w) A (call (.ref f) (mk v)) Q E s
section
variable {prog : Program} {w : World} {p : Program} {loose : List Str} {mean : ExcName → Option Value} {mg mb : Str → Option Value} {np : Nat} {pl tb tf : Addr} {I₀ : LL}
  {A A₀ : Around} {env : Env} {outer : List Env} {base h₀ : Heap} {L : Addr} {m : Str → Option Value} {s : Shared} {Q E : Value → Shared → Prop}
theorem ok_of_above {own R tl : LL} {po to : Obj} (ok : Ok pl tb I₀ R) (ab : Above tl ((pl, po) :: (tb, to) :: (own ++ R))) : Ok pl tb I₀ (tl ++ R) :=
  Ok.app (po := po) (to := to) ok (ab.sub fun r hr => by
    rcases List.mem_cons.mp hr with rfl | hr
    · exact ⟨_, .head _, rfl⟩
    · rcases List.mem_cons.mp hr with rfl | hr
      · exact ⟨_, .tail _ (.head _), rfl⟩
      · exact ⟨r, .tail _ (.tail _ (List.mem_append_right _ hr)), rfl⟩)
theorem map_use {f : Addr} {mk : Value → List Value} {Rel : Pl → Pl → Prop} {n : Nat} {cost : Nat → Nat} {d : Nat} (hP : MapSpec prog w p loose mean mg mb np pl tb I₀ f mk Rel n cost d)
    {own R I : LL} {k : Int} {tk : Tok} {ot : Obj} {v : Value} {P : Pl}
    (hA : A.frames = some (env :: outer)) (hf : env.frame = some L) (hke : env.scope.kind = .function) (hh : A.handled = none) (hd : A.depth + 120 + d < recursionLimit) (hu : A.units + 60 + 6 * d < cLine)
    (B : Below A₀ base outer h₀) (F : Fr h₀ L s.heap m) (X : (K w.params).In h₀) (T : Top p loose mean mg mb h₀) (S : h₀.NoSeer)
    (N : News h₀ L s.heap (own ++ (pl, placeO k tk np) :: (tb, ot) :: R)) (hown : ∀ q ∈ own, q.1 ≠ pl) (hown' : ∀ q ∈ own, q.1 ≠ tb) (ok : Ok pl tb I₀ R) (hI : ∀ q ∈ I, q ∈ R) (hw : Wf n d P) (hp : PlanIn I v P)
    (hk0 : 0 ≤ k) (hk : k + ((cost d : Nat) : Int) < 900000)
    (ret : ∀ v' P' tl k' h' tks tk', PlanIn (tl ++ I) v' P' → Rel P P' → k ≤ k' → k' ≤ k + ((cost d : Nat) : Int) → Fr h₀ L h' m → News h₀ L h' (own ++ (pl, placeO k' tk' np) :: (tb, ot) :: (tl ++ R)) →
      Above tl ((pl, placeO k tk np) :: (tb, ot) :: (own ++ R)) → Ok pl tb I₀ (tl ++ R) → Q v' { s with heap := h', toks := tks }) :
    wpAny (model prog w) A (call (.ref f) (mk v)) Q E s := by
  refine hP A A₀ env outer base h₀ L m s Q E (own ++ R) I k tk ot v P hA hf hke hh hd hu B F X T S (front2 N) (ok.own hown hown') (fun q h => List.mem_append_right _ (hI q h)) hw hp hk0 hk fun v' P' tl k' h' tks tk' a b c d' F' N' ab => ?_
  exact ret v' P' tl k' h' tks tk' a b c d' F' (back2 N') ab (ok_of_above ok ab)
end
theorem Wfs.mem {n d : Nat} : ∀ {ps : List Pl}, Wfs n d ps → ∀ {p : Pl}, p ∈ ps → Wf n d p
  | q :: ps, x, p, h => by
    simp only [Wfs] at x
    rcases List.mem_cons.mp h with rfl | h
    · exact x.1
    · exact Wfs.mem x.2 h
  | [], _, p, h => nomatch h
theorem allLt_mem {a : Addr} : ∀ {R : LL}, AllLt a R → ∀ r ∈ R, r.1 ≠ a
  | [], _, _, h => nomatch h
  | q :: R, x, r, h => by
    rcases List.mem_cons.mp h with rfl | h
    · exact Nat.ne_of_lt x.1
    · exact allLt_mem x.2 r h
theorem above_l1 {a : Addr} {x y : Addr × Obj} {R : LL} (h1 : @LT.lt Nat _ x.1 a) (h2 : @LT.lt Nat _ y.1 a) (h3 : AllLt a R) : ∀ r ∈ x :: y :: R, r.1 ≠ a := fun r hr => by
  rcases List.mem_cons.mp hr with rfl | hr
  · exact Nat.ne_of_lt h1
  · rcases List.mem_cons.mp hr with rfl | hr
    · exact Nat.ne_of_lt h2
    · exact allLt_mem h3 r hr
section
variable {prog : Program} {w : World} {A : Around} {E : Value → Shared → Prop} {s : Shared} {h₀ : Heap} {L : Addr} {news : LL}
theorem pick_tf {value slice : Expr} {D : Addr} {n : Nat} {x y z : Value} {b : Bool} {Q : Value → Shared → Prop} (N : News h₀ L s.heap news) (hm : (D, tupO [x, y] n) ∈ news)
    (hb : (b = true ∧ z = y) ∨ (b = false ∧ z = x)) (h : Q z s)
    (hs : subscripted slice false (.ref D) (.bool b) = operate [.ref D, .bool b] (getItem (.ref D) (.bool b)) := by with_unfolding_all rfl) :
    wpAny (model prog w) A (subscriptTail value slice (.ref D) (.bool b)) Q E s := by
  refine pick_bool N hm ?_ hs
  rcases hb with ⟨rfl, rfl⟩ | ⟨rfl, rfl⟩ <;> simpa using h
end
theorem above_l1a {a : Addr} {x y : Addr × Obj} {tl R : LL} (h1 : @LT.lt Nat _ x.1 a) (h2 : @LT.lt Nat _ y.1 a) (h3 : AllLt a (tl ++ R)) : ∀ r ∈ x :: y :: R, r.1 ≠ a := fun r hr => by
  rcases List.mem_cons.mp hr with rfl | hr
  · exact Nat.ne_of_lt h1
  · rcases List.mem_cons.mp hr with rfl | hr
    · exact Nat.ne_of_lt h2
    · exact allLt_mem h3 r (List.mem_append_right _ hr)
end
/-! ## part Base3 -/
section
example : True := by (w_top off; trivial)
local macro_rules | `(tactic| walk_at "none") => `(tactic| fail)
def comb : Wd → List Bool → Bool
  | .and, l => l.all id
  | .or, l => l.any id
  | .not, l => !(l.headD true)
mutual
def ev (σ : Nat → Bool) : Pl → Bool
  | .g i => σ i
  | .op wd ps => comb wd (evL σ ps)
def evL (σ : Nat → Bool) : List Pl → List Bool
  | [] => []
  | p :: ps => ev σ p :: evL σ ps
end
theorem evL_map (σ : Nat → Bool) : ∀ ps, evL σ ps = ps.map (ev σ)
  | [] => by simp only [evL, List.map_nil]
  | p :: ps => by simp only [evL, List.map_cons, evL_map σ ps]
theorem comb_one {wd : Wd} (h : wd ≠ .not) (b : Bool) : comb wd [b] = b := by cases wd <;> simp_all [comb]
theorem comb_turn {wd : Wd} (h : wd ≠ .not) {E : List Bool} {b : Bool} (hb : b ∈ E) (n : Nat) : comb wd (E.drop n ++ [b] ++ E.take n) = comb wd E := by
  have e : E = E.take n ++ E.drop n := (List.take_append_drop n E).symm
  have hb' : b ∈ E.take n ∨ b ∈ E.drop n := by rw [e] at hb; exact List.mem_append.mp hb
  have key : ∀ x y : List Bool, (b ∈ x ∨ b ∈ y) → (comb wd (y ++ [b] ++ x) = comb wd (x ++ y)) := by
    intro x y hxy
    cases wd with
    | not => exact absurd rfl h
    | and =>
      simp only [comb, List.all_append, List.all_cons, List.all_nil, id, Bool.and_true]
      rcases hxy with h' | h' <;> cases b <;> simp_all [Bool.and_comm]
    | or =>
      simp only [comb, List.any_append, List.any_cons, List.any_nil, id, Bool.or_false]
      rcases hxy with h' | h' <;> cases b <;> simp_all [Bool.or_comm]
  have := key (E.take n) (E.drop n) hb'
  rw [List.take_append_drop] at this
  exact this
def cstT : Nat → Nat
  | 0 => 0
  | d + 1 => 2 + 3 * cstT d
def TRel (d : Nat) (a b : Pl) : Prop := Wf 4 (2 * d) b ∧ ∀ σ, ev σ b = ev σ a
mutual
theorem Wf.mono {n n' d d' : Nat} (hn : n ≤ n') (hd : d ≤ d') : ∀ {P : Pl}, Wf n d P → Wf n' d' P
  | .g i, x => by cases d <;> cases d' <;> simpa only [Wf] using x
  | .op wd ps, x => by
    cases d with
    | zero => simp only [Wf] at x
    | succ d =>
      cases d' with
      | zero => omega
      | succ d' =>
        simp only [Wf] at x ⊢
        exact ⟨x.1, by omega, x.2.2.1, Wfs.mono hn (by omega) x.2.2.2⟩
theorem Wfs.mono {n n' d d' : Nat} (hn : n ≤ n') (hd : d ≤ d') : ∀ {ps : List Pl}, Wfs n d ps → Wfs n' d' ps
  | [], _ => by simp only [Wfs]
  | p :: ps, x => by
    simp only [Wfs] at x ⊢
    exact ⟨Wf.mono hn hd x.1, Wfs.mono hn hd x.2⟩
end
theorem Wfs.append {n d : Nat} : ∀ {ps qs : List Pl}, Wfs n d ps → Wfs n d qs → Wfs n d (ps ++ qs)
  | [], _, _, y => y
  | p :: ps, _, x, y => by
    simp only [Wfs, List.cons_append] at x ⊢
    exact ⟨x.1, Wfs.append x.2 y⟩
theorem Wfs.all {n d : Nat} : ∀ {ps : List Pl}, (∀ p ∈ ps, Wf n d p) → Wfs n d ps
  | [], _ => by simp only [Wfs]
  | p :: ps, x => by
    simp only [Wfs]
    exact ⟨x p (.head _), Wfs.all fun q h => x q (.tail _ h)⟩
theorem two_wf {d : Nat} {ps Ps : List Pl} (x : Two (TRel d) ps Ps) : (∀ p ∈ Ps, Wf 4 (2 * d) p) ∧ (∀ σ, evL σ Ps = evL σ ps) := by
  induction x with
  | nil => exact ⟨(fun _ h => nomatch h), fun _ => rfl⟩
  | cons h _ ih =>
    refine ⟨fun p hp => ?_, fun σ => ?_⟩
    · rcases List.mem_cons.mp hp with rfl | hp
      · exact h.1
      · exact ih.1 p hp
    · simp only [evL]; rw [h.2, ih.2]
theorem turned_rel {d : Nat} {wd : Wd} {ps Ps : List Pl} {P : Pl} {n : Nat} (h : wd ≠ .not) (h1 : 1 ≤ ps.length) (h3 : ps.length ≤ 3) (x : Two (TRel d) ps Ps) (hP : P ∈ Ps) :
    TRel (d + 1) (.op wd ps) (.op wd (Ps.drop n ++ [.op wd [P]] ++ Ps.take n)) := by
  have hl := x.length
  obtain ⟨w1, w2⟩ := two_wf x
  refine ⟨?_, fun σ => ?_⟩
  · rw [show 2 * (d + 1) = (2 * d + 1) + 1 by omega]
    simp only [Wf]
    refine ⟨by simp only [List.length_append, List.length_cons]; omega, ?_, fun e => absurd e h, Wfs.append (Wfs.append (Wfs.all fun p hp => ?_) ?_) (Wfs.all fun p hp => ?_)⟩
    · simp only [List.length_append, List.length_drop, List.length_cons, List.length_nil, List.length_take]; omega
    · exact Wf.mono (Nat.le_refl _) (by omega) (w1 p (List.mem_of_mem_drop hp))
    · simp only [Wfs, Wf, and_true]
      exact ⟨by simp, by simp, fun e => absurd e h, w1 P hP⟩
    · exact Wf.mono (Nat.le_refl _) (by omega) (w1 p (List.mem_of_mem_take hp))
  · simp only [ev]
    rw [← w2 σ]
    simp only [evL_map, List.map_append, List.map_drop, List.map_take, List.map_cons, List.map_nil]
    have e : ev σ (.op wd [P]) = ev σ P := by simp only [ev, evL]; exact comb_one h _
    rw [e]
    exact comb_turn h (List.mem_map_of_mem hP) n
theorem PlansIn.append {R : LL} : ∀ {vs : List Value} {ps : List Pl} {us : List Value} {qs : List Pl}, PlansIn R vs ps → PlansIn R us qs → PlansIn R (vs ++ us) (ps ++ qs)
  | [], [], _, _, _, y => y
  | v :: vs, p :: ps, _, _, x, y => by
    simp only [PlansIn, List.cons_append] at x ⊢
    exact ⟨x.1, PlansIn.append x.2 y⟩
  | [], _ :: _, _, _, x, _ => by simp only [PlansIn] at x
  | _ :: _, [], _, _, x, _ => by simp only [PlansIn] at x
theorem PlansIn.drop {R : LL} : ∀ (n : Nat) {vs : List Value} {ps : List Pl}, PlansIn R vs ps → PlansIn R (vs.drop n) (ps.drop n)
  | 0, _, _, x => x
  | n + 1, [], [], _ => by simp only [List.drop_nil, PlansIn]
  | n + 1, v :: vs, p :: ps, x => by
    simp only [PlansIn] at x
    exact PlansIn.drop n x.2
  | _ + 1, [], _ :: _, x => by simp only [PlansIn] at x
  | _ + 1, _ :: _, [], x => by simp only [PlansIn] at x
theorem PlansIn.take {R : LL} : ∀ (n : Nat) {vs : List Value} {ps : List Pl}, PlansIn R vs ps → PlansIn R (vs.take n) (ps.take n)
  | 0, _, _, x => by simp only [List.take_zero, PlansIn]
  | n + 1, [], [], _ => by simp only [List.take_nil, PlansIn]
  | n + 1, v :: vs, p :: ps, x => by
    simp only [PlansIn, List.take_succ_cons] at x ⊢
    exact ⟨x.1, PlansIn.take n x.2⟩
  | _ + 1, [], _ :: _, x => by simp only [PlansIn] at x
  | _ + 1, _ :: _, [], x => by simp only [PlansIn] at x
section
variable {prog : Program} {w : World} {A : Around} {E : Value → Shared → Prop} {s : Shared} {h₀ : Heap} {L l : Addr} {m : Str → Option Value} {news : LL} {value slice : PySem.Expr} {vs us : List Value} {x : Int} {tx : Tok} {n n' : Nat} {Q : Value → Shared → Prop}
theorem slice_fromN (F : Fr h₀ L s.heap m) (N : News h₀ L s.heap news) (hm : (l, lstO vs n) ∈ news) (h0 : 0 ≤ x) (h1 : x ≤ vs.length) (h4 : vs.length ≤ 4)
    (h : ∀ D h', Fr h₀ L h' m → News h₀ L h' ((D, listOf (vs.drop x.toNat).toArray 0) :: news) → (∀ p ∈ news, p.1 < D) → Q (.ref D) { s with heap := h' })
    (hs : subscripted slice false (.ref l) (.ref s.heap.objs.size) = operate [.ref s.heap.objs.size, .ref l] (getItem (.ref l) (.ref s.heap.objs.size))) (ht : ∀ r, letTemporaryGo value (.ref l) r = pure ()) :
    wpAny (model prog w) A (subscriptTail value slice (.ref l) (.ref s.heap.objs.size)) Q E { s with heap := s.heap.push { cls := .type "slice", data := .fields #[.int x tx, .none, .none] } } := by
  refine kms_slice_lit (lo := some x) (hi := none) F N (News.isList N hm) (.int _ _) .none ?_ h hs ht (Nat.le_trans (show vs.toArray.size ≤ 4 by simp only [List.size_toArray]; omega) (by decide))
  show kms_pick vs (some x) none = _
  unfold kms_pick kms_lo kms_hi
  simp only [if_neg (show ¬ (x < 0) by omega)]
  rw [Nat.min_eq_left (by omega)]
  exact List.take_of_length_le (Nat.le_of_eq (by rw [List.length_drop]))
theorem slice_uptoN (F : Fr h₀ L s.heap m) (N : News h₀ L s.heap news) (hm : (l, lstO vs n) ∈ news) (h0 : 0 ≤ x) (h1 : x ≤ vs.length) (h4 : vs.length ≤ 4)
    (h : ∀ D h', Fr h₀ L h' m → News h₀ L h' ((D, listOf (vs.take x.toNat).toArray 0) :: news) → (∀ p ∈ news, p.1 < D) → Q (.ref D) { s with heap := h' })
    (hs : subscripted slice false (.ref l) (.ref s.heap.objs.size) = operate [.ref s.heap.objs.size, .ref l] (getItem (.ref l) (.ref s.heap.objs.size))) (ht : ∀ r, letTemporaryGo value (.ref l) r = pure ()) :
    wpAny (model prog w) A (subscriptTail value slice (.ref l) (.ref s.heap.objs.size)) Q E { s with heap := s.heap.push { cls := .type "slice", data := .fields #[.none, .int x tx, .none] } } := by
  refine kms_slice_lit (lo := none) (hi := some x) F N (News.isList N hm) .none (.int _ _) ?_ h hs ht (Nat.le_trans (show vs.toArray.size ≤ 4 by simp only [List.size_toArray]; omega) (by decide))
  show kms_pick vs none (some x) = _
  unfold kms_pick kms_lo kms_hi
  simp only [if_neg (show ¬ (x < 0) by omega)]
  rw [Nat.min_eq_left (by omega)]
  simp
theorem add_N {a b : Addr} (F : Fr h₀ L s.heap m) (N : News h₀ L s.heap news) (ha : (a, lstO vs n) ∈ news) (hb : (b, lstO us n') ∈ news) (h4 : vs.length + us.length ≤ 9)
    (h : ∀ D h', Fr h₀ L h' m → News h₀ L h' ((D, listOf (vs ++ us).toArray 0) :: news) → (∀ p ∈ news, p.1 < D) → Q (.ref D) { s with heap := h' }) :
    wpAny (model prog w) A (binaryOp .Add (.ref a) (.ref b)) Q E s :=
  kmk_add_lit F N (News.isList N ha) (News.isList N hb) rfl h (Nat.le_trans (show vs.length + us.length ≤ 9 by omega) (by decide))
theorem itemE_N {k : Int} {u : Tok} (N : News h₀ L s.heap news) (hm : (l, lstO vs n) ∈ news) (h0 : 0 ≤ k) (hx : k < vs.length) (h4 : vs.length ≤ 4)
    (h : ∀ v, vs[k.toNat]? = some v → Q v s)
    (hs : subscripted slice false (.ref l) (.int k u) = operate [.ref l, .int k u] (getItem (.ref l) (.int k u)) := by with_unfolding_all rfl) :
    wpAny (model prog w) A (subscriptTail value slice (.ref l) (.int k u)) Q E s := by
  have hlt : k.toNat < vs.length := by omega
  exact item_N N hm h0 (by omega) (v := vs[k.toNat]) (by simp [hlt]) (h _ (by simp [hlt])) hs
end
theorem invT_le {k k1 : Int} {n c : Nat} (hk : k1 ≤ k) (h : n ≤ 3) : k1 + (((n - 0) * c : Nat) : Int) ≤ k + ((3 * c : Nat) : Int) := by
  have : (n - 0) * c ≤ 3 * c := Nat.mul_le_mul_right _ (by omega)
  generalize (n - 0) * c = x at *
  omega
theorem turned_in {RR : LL} {D D1 D4 l5 : Addr} {wd : Wd} {t t' : Tok} {n1 n2 n3 n4 n : Nat} {ys : List Value} {Ps : List Pl} {v : Value} {P : Pl}
    (h1 : (D, tupO [.str wd.str t, .ref D1] n1) ∈ RR) (h2 : (D1, lstO (ys.drop n ++ [.ref D4] ++ ys.take n) n2) ∈ RR) (h4 : (D4, tupO [.str wd.str t', .ref l5] n3) ∈ RR) (h5 : (l5, lstO [v] n4) ∈ RR)
    (hv : PlanIn RR v P) (hps : PlansIn RR ys Ps) : PlanIn RR (.ref D) (.op wd (Ps.drop n ++ [.op wd [P]] ++ Ps.take n)) := by
  simp only [PlanIn]
  refine ⟨D, D1, t, _, n1, n2, rfl, h1, h2, PlansIn.append (PlansIn.append (PlansIn.drop n hps) ?_) (PlansIn.take n hps)⟩
  simp only [PlansIn, PlanIn, and_true]
  exact ⟨D4, l5, t', [v], n3, n4, rfl, h4, h5, by simp only [PlansIn, and_true]; exact hv⟩
theorem mem_own {α : Type} {own tl I : List α} {q : α} (h : q ∈ tl ++ I) : q ∈ (own ++ tl) ++ I := by
  rw [List.append_assoc]; exact List.mem_append_right _ h
end
/-! ## part Base4 -/
section
example : True := by (w_top off; trivial)
/-! ### the objects of the text, as the ledger bears them -/
def NameIn (w : World) (R : LL) (v : Value) (x : Str) : Prop := ∃ a dx t t', v = .ref a ∧ (a, instObj 183 dx) ∈ R ∧
  (dx, dictOf [{ hash := PyData.keyHash w.params (Str.ofString "text"), key := .str (Str.ofString "text") t, val := .str x t' }] 1) ∈ R
def RefIn (w : World) (R : LL) (v : Value) (j : Int) : Prop := ∃ a dx t1 t2 t3 t4, v = .ref a ∧ (a, instObj 254 dx) ∈ R ∧
  (dx, dictOf [{ hash := PyData.keyHash w.params (Str.ofString "number"), key := .str (Str.ofString "number") t1, val := .int j t2 },
    { hash := PyData.keyHash w.params (Str.ofString "generation"), key := .str (Str.ofString "generation") t3, val := .int 0 t4 }] 2) ∈ R
mutual
def ExprIn (w : World) (R : LL) (rs : List Value) : Value → Pl → Prop
  | v, .g i => RefIn w R v ((i : Int) + 1)
  | v, .op wd ps => ∃ l nm vs n, (l, lstO (nm :: vs) n) ∈ R ∧ NameIn w R nm wd.str ∧ ExprsIn w R rs vs ps ∧ (v = .ref l ∨ ∃ j : Nat, RefIn w R v ((j : Int) + 1) ∧ rs[j]? = some (.ref l))
def ExprsIn (w : World) (R : LL) (rs : List Value) : List Value → List Pl → Prop
  | [], [] => True
  | v :: vs, p :: ps => ExprIn w R rs v p ∧ ExprsIn w R rs vs ps
  | [], _ :: _ => False
  | _ :: _, [] => False
end
theorem NameIn.mono {w : World} {R R' : LL} {v : Value} {x : Str} (h : ∀ q ∈ R, q ∈ R') : NameIn w R v x → NameIn w R' v x
  | ⟨a, dx, t, t', e, h1, h2⟩ => ⟨a, dx, t, t', e, h _ h1, h _ h2⟩
theorem RefIn.mono {w : World} {R R' : LL} {v : Value} {x : Int} (h : ∀ q ∈ R, q ∈ R') : RefIn w R v x → RefIn w R' v x
  | ⟨a, dx, t1, t2, t3, t4, e, h1, h2⟩ => ⟨a, dx, t1, t2, t3, t4, e, h _ h1, h _ h2⟩
def Pre (rs rs' : List Value) : Prop := ∀ (j : Nat) x, rs[j]? = some x → rs'[j]? = some x
theorem Pre.refl (rs : List Value) : Pre rs rs := fun _ _ h => h
theorem Pre.trans {a b c : List Value} (h : Pre a b) (k : Pre b c) : Pre a c := fun j x e => k j x (h j x e)
theorem Pre.snoc (rs : List Value) (v : Value) : Pre rs (rs ++ [v]) := fun j x h => by
  have hl : j < rs.length := by
    rcases Nat.lt_or_ge j rs.length with h' | h'
    · exact h'
    · rw [List.getElem?_eq_none h'] at h; exact nomatch h
  rw [List.getElem?_append_left hl]; exact h
mutual
theorem ExprIn.mono {w : World} {R R' : LL} {rs rs' : List Value} (h : ∀ q ∈ R, q ∈ R') (hr : Pre rs rs') : ∀ {v : Value} {p : Pl}, ExprIn w R rs v p → ExprIn w R' rs' v p
  | v, .g i, x => by
    simp only [ExprIn] at x ⊢
    exact x.mono h
  | v, .op wd ps, x => by
    simp only [ExprIn] at x ⊢
    obtain ⟨l, nm, vs, n, h1, h2, h3, h4⟩ := x
    refine ⟨l, nm, vs, n, h _ h1, h2.mono h, ExprsIn.mono h hr h3, ?_⟩
    rcases h4 with h4 | ⟨j, h4, h5⟩
    · exact .inl h4
    · exact .inr ⟨j, h4.mono h, hr _ _ h5⟩
theorem ExprsIn.mono {w : World} {R R' : LL} {rs rs' : List Value} (h : ∀ q ∈ R, q ∈ R') (hr : Pre rs rs') : ∀ {vs : List Value} {ps : List Pl}, ExprsIn w R rs vs ps → ExprsIn w R' rs' vs ps
  | [], [], _ => by simp only [ExprsIn]
  | v :: vs, p :: ps, x => by
    simp only [ExprsIn] at x ⊢
    exact ⟨ExprIn.mono h hr x.1, ExprsIn.mono h hr x.2⟩
  | [], _ :: _, x => by simp only [ExprsIn] at x
  | _ :: _, [], x => by simp only [ExprsIn] at x
end
theorem ExprsIn.snoc {w : World} {R : LL} {rs : List Value} {v : Value} {p : Pl} (h : ExprIn w R rs v p) : ∀ {vs : List Value} {ps : List Pl}, ExprsIn w R rs vs ps → ExprsIn w R rs (vs ++ [v]) (ps ++ [p])
  | [], [], _ => by simp only [List.nil_append, ExprsIn, and_true]; exact h
  | u :: vs, q :: ps, x => by
    simp only [List.cons_append, ExprsIn] at x ⊢
    exact ⟨x.1, ExprsIn.snoc h x.2⟩
  | [], _ :: _, x => by simp only [ExprsIn] at x
  | _ :: _, [], x => by simp only [ExprsIn] at x
theorem ExprsIn.len {w : World} {R : LL} {rs : List Value} : ∀ {vs : List Value} {ps : List Pl}, ExprsIn w R rs vs ps → vs.length = ps.length
  | [], [], _ => rfl
  | u :: vs, q :: ps, x => by
    simp only [ExprsIn] at x
    simp [ExprsIn.len x.2]
  | [], _ :: _, x => by simp only [ExprsIn] at x
  | _ :: _, [], x => by simp only [ExprsIn] at x
theorem ExprsIn.get {w : World} {R : LL} {rs : List Value} : ∀ {vs : List Value} {ps : List Pl}, ExprsIn w R rs vs ps → ∀ {i : Nat} {v : Value}, vs[i]? = some v → ∃ p, ps[i]? = some p ∧ ExprIn w R rs v p
  | v :: vs, p :: ps, x, 0, u, h => by
    simp only [ExprsIn] at x
    simp only [List.getElem?_cons_zero, Option.some.injEq] at h
    exact ⟨p, rfl, h ▸ x.1⟩
  | v :: vs, p :: ps, x, i + 1, u, h => by
    simp only [ExprsIn] at x
    obtain ⟨q, h1, h2⟩ := ExprsIn.get x.2 (i := i) (v := u) (by simpa using h)
    exact ⟨q, by simpa using h1, h2⟩
  | [], [], _, i, u, h => by simp at h
  | [], _ :: _, x, _, _, _ => by simp only [ExprsIn] at x
  | _ :: _, [], x, _, _, _ => by simp only [ExprsIn] at x
/-- the table, as the ledger bears it: row j + 1 holds a pair of 0 and rs[j] -/
def Tab (prog : Program) (w : World) (R : LL) (ot : Obj) (rs : List Value) : Prop :=
  ∃ kvs : List (Int × Value), ot.IsDictOf (intKind prog w) kvs ∧ kvs.length = rs.length ∧ (∀ k : Int, (valueAt kvs k).isSome = decide (1 ≤ k ∧ k ≤ rs.length)) ∧
    ∀ (j : Nat) x, rs[j]? = some x → ∃ a t n, valueAt kvs ((j : Int) + 1) = some (.ref a) ∧ (a, tupO [.int 0 t, x] n) ∈ R
theorem Tab.mono {prog : Program} {w : World} {R R' : LL} {ot : Obj} {rs : List Value} (h : ∀ q ∈ R, q ∈ R') : Tab prog w R ot rs → Tab prog w R' ot rs
  | ⟨kvs, a, b, c, d⟩ => ⟨kvs, a, b, c, fun j x e => let ⟨y, t, n, h1, h2⟩ := d j x e; ⟨y, t, n, h1, h _ h2⟩⟩
theorem valueAt_snoc {kvs : List (Int × Value)} {k k' : Int} {v : Value} : valueAt (kvs ++ [(k, v)]) k' = (valueAt kvs k').or (if k = k' then some v else none) := by
  unfold valueAt
  rw [List.find?_append]
  cases h : kvs.find? (fun kv => decide (kv.1 = k')) with
  | some x => simp
  | none =>
    by_cases e : k = k'
    · simp [e]
    · simp [e]
theorem Tab.snoc {prog : Program} {w : World} {R R' : LL} {o' : Obj} {rs : List Value} {kvs : List (Int × Value)} {a : Addr} {t : Tok} {n : Nat} {x : Value} {k : Int}
    (hd : o'.IsDictOf (intKind prog w) (stored kvs k (.ref a))) (hk : k = (rs.length : Nat) + 1) (b : kvs.length = rs.length) (c : ∀ k : Int, (valueAt kvs k).isSome = decide (1 ≤ k ∧ k ≤ rs.length))
    (d : ∀ (j : Nat) x, rs[j]? = some x → ∃ a t n, valueAt kvs ((j : Int) + 1) = some (.ref a) ∧ (a, tupO [.int 0 t, x] n) ∈ R) (h : ∀ q ∈ R, q ∈ R') (hm : (a, tupO [.int 0 t, x] n) ∈ R') :
    Tab prog w R' o' (rs ++ [x]) := by
  have hn : valueAt kvs k = none := by
    have := c k
    rw [hk] at this ⊢
    cases e : valueAt kvs (((rs.length : Nat) : Int) + 1) with
    | none => rfl
    | some y => rw [e] at this; simp at this; omega
  rw [stored_absent hn] at hd
  refine ⟨_, hd, by simp [b], fun k' => ?_, fun j y hy => ?_⟩
  · rw [valueAt_snoc]
    by_cases e : k = k'
    · subst e
      rw [hn]
      simp only [Option.none_or, if_true, Option.isSome_some, List.length_append, List.length_cons, List.length_nil]
      symm; rw [decide_eq_true_iff]; omega
    · rw [if_neg e, Option.or_none, c k']
      simp only [List.length_append, List.length_cons, List.length_nil, decide_eq_decide]
      omega
  · rcases Nat.lt_or_ge j rs.length with hj | hj
    · rw [List.getElem?_append_left hj] at hy
      obtain ⟨a', t', n', h1, h2⟩ := d j y hy
      exact ⟨a', t', n', by rw [valueAt_snoc, h1]; rfl, h _ h2⟩
    · have hj' : j = rs.length := by
        rcases Nat.lt_or_ge rs.length j with h' | h'
        · rw [List.getElem?_eq_none (by simp; omega)] at hy; exact nomatch hy
        · omega
      subst hj'
      simp only [List.getElem?_append_right (Nat.le_refl _), Nat.sub_self, List.getElem?_cons_zero, Option.some.injEq] at hy
      subst hy
      refine ⟨a, t, n, ?_, hm⟩
      rw [valueAt_snoc, ← hk, hn, if_pos rfl]; rfl
section
variable {prog : Program} {w : World} {A : Around} {E : Value → Shared → Prop} {s : Shared} {h₀ : Heap} {L l : Addr} {news : LL}
def eqB (c : Bool) : Value → Bool
  | .bool b => b == c
  | _ => false
theorem any_eqB (c : Bool) : ∀ bs : List Bool, (bs.map Value.bool).any (eqB c) = bs.any (· == c)
  | [] => rfl
  | b :: bs => by simp only [List.map_cons, List.any_cons, eqB, any_eqB c bs]
theorem in_bools {bs : List Bool} {c : Bool} {n : Nat} {Q : Value → Shared → Prop} (N : News h₀ L s.heap news) (hm : (l, lstO (bs.map Value.bool) n) ∈ news) (h : Q (.bool (bs.any (· == c))) s) :
    wpAny (model prog w) A (compareOp .In (.bool c) (.ref l)) Q E s := by
  refine SeqAt.in_listAt (eqB c) (News.isList N hm) (fun y hy => ?_) (by rw [← Array.any_toList, show (bs.map Value.bool).toArray.toList = bs.map Value.bool from rfl, any_eqB]; exact h)
  obtain ⟨b, _, rfl⟩ := List.mem_map.mp (show y ∈ bs.map Value.bool by simpa using hy)
  exact SeqAt.EqAt.bool_bool b c
theorem notin_bools {bs : List Bool} {c : Bool} {n : Nat} {Q : Value → Shared → Prop} (N : News h₀ L s.heap news) (hm : (l, lstO (bs.map Value.bool) n) ∈ news) (h : Q (.bool (!(bs.any (· == c)))) s) :
    wpAny (model prog w) A (compareOp .NotIn (.bool c) (.ref l)) Q E s := by
  refine SeqAt.notIn_listAt (eqB c) (News.isList N hm) (fun y hy => ?_) (by rw [← Array.any_toList, show (bs.map Value.bool).toArray.toList = bs.map Value.bool from rfl, any_eqB]; exact h)
  obtain ⟨b, _, rfl⟩ := List.mem_map.mp (show y ∈ bs.map Value.bool by simpa using hy)
  exact SeqAt.EqAt.bool_bool b c
end
section
variable {prog : Program} {w : World} {A : Around} {E : Value → Shared → Prop} {s : Shared} {h₀ : Heap} {L d : Addr} {news : LL} {o : Obj} {K : Type} [DecidableEq K] {knd : KeyKind prog w K} {kvs : List (K × Value)} {k : K} {key v dflt : Value}
theorem get2_some {Q : Value → Shared → Prop} (N : News h₀ L s.heap news) (hp : (d, o) ∈ news) (hd : o.IsDictOf knd kvs) (lo : (d == sysModules) = false) (hkey : knd.is k key = true) (hl : valueAt kvs k = some v) (h : Q v { s with toks := s.toks + 1 }) :
    wpAny (model prog w) A (call (.builtin "dict.get") [.ref d, key, dflt]) Q E s := kdg_get2 N hp hd lo hkey _ hl h
end
theorem unrEnd_W {h₀ : Heap} {L I : Addr} {it : Obj} {rest : (Str → Option Value) → LL → Prop} {s₁ : Shared} {h' : Heap} {tk : Nat} {m' : Str → Option Value} {all : LL} (W : LL) (F : Fr h₀ L h' m') (N : News h₀ L h' all)
    (hI : (I, it) ∈ all) (hW : ∀ p ∈ W, p ∈ all) (l : ∀ p ∈ W, p.1 ≠ I) (r : rest m' W) : UnrEnd h₀ L s₁ I it rest { s₁ with heap := h', toks := tk } :=
  UnrEnd.intro F N W (fun p hp => by
    rcases List.mem_cons.mp hp with rfl | hp
    · exact hI
    · exact hW p hp) l r
theorem ne_of_allLt {W : LL} {I : Addr} (l : ∀ p ∈ W, p.1 < I) : ∀ p ∈ W, p.1 ≠ I := fun p h => Nat.ne_of_lt (l p h)
/-- what the address a stands for: itself, or what row j of the table holds -/
def Via (w : World) (W : LL) (kvs : List (Int × Value)) (a x : Addr) : Prop := ∃ dx u1 u2 u3 u4 j tup u5 n, (a, instObj 254 dx) ∈ W ∧
  (dx, dictOf [{ hash := PyData.keyHash w.params (Str.ofString "number"), key := .str (Str.ofString "number") u1, val := .int j u2 },
    { hash := PyData.keyHash w.params (Str.ofString "generation"), key := .str (Str.ofString "generation") u3, val := .int 0 u4 }] 2) ∈ W ∧
  valueAt kvs j = some (.ref tup) ∧ (tup, tupO [.int 0 u5, .ref x] n) ∈ W
theorem isDict_cls {prog : Program} {w : World} {K : Type} [DecidableEq K] {knd : KeyKind prog w K} {o : Obj} {kvs : List (K × Value)} (h : o.IsDictOf knd kvs) : o.cls = .type "dict" := by
  obtain ⟨es, ep, h1, _⟩ := h
  exact h1.1
theorem Via.mono {w : World} {R R' : LL} {kvs : List (Int × Value)} {a x : Addr} (h : ∀ q ∈ R, q ∈ R') : Via w R kvs a x → Via w R' kvs a x
  | ⟨dx, u1, u2, u3, u4, j, tup, u5, n, h1, h2, h3, h4⟩ => ⟨dx, u1, u2, u3, u4, j, tup, u5, n, h _ h1, h _ h2, h3, h _ h4⟩
section
variable {prog : Program} {w : World} {A : Around} {E : Value → Shared → Prop} {s : Shared} {h₀ : Heap} {L d : Addr} {news : LL} {o : Obj} {K : Type} [DecidableEq K] {knd : KeyKind prog w K} {kvs : List (K × Value)} {k : K} {key v dflt : Value}
theorem get1_some {Q : Value → Shared → Prop} (N : News h₀ L s.heap news) (hp : (d, o) ∈ news) (hd : o.IsDictOf knd kvs) (lo : (d == sysModules) = false) (hkey : knd.is k key = true) (hl : valueAt kvs k = some v) (h : Q v { s with toks := s.toks + 1 }) :
    wpAny (model prog w) A (call (.builtin "dict.get") [.ref d, key]) Q E s := kdg_get1 N hp hd lo hkey _ hl h
theorem val_one {k : Str} {v : Value} : valueAt [(k, v)] k = some v := by simp [valueAt]
end
end
section
local macro_rules | `(tactic| walk_at "eval Name") => `(tactic| (k_here; (with_reducible show wpAny _ _ (eval (Expr.Name _ _) (envX _ _ _ _ _ _)) _ _ _); k_dflt (refine' nameX_F ?N ?c ?m ?d ?_ ?a ?b; (case a | b => rfl); (case N => k_asm); (case c => rfl); (case m => k_mem); (case d => k_asm); k_whole)))
local macro_rules | `(tactic| k_all) => `(tactic| assumption)
local macro_rules | `(tactic| k_mem) => `(tactic| first | exact List.Mem.head _ | (refine' List.Mem.tail _ ?_; k_mem) | assumption)
local macro_rules | `(tactic| walk_at "eval Name") => `(tactic| (k_here; (with_reducible show wpAny _ _ (eval (Expr.Name _ _) (compEnvC _ _ _ _)) _ _ _); k_dflt (refine' lcf_cell ?N ?c ?m ?d ?_ ?a ?b; (case a | b => rfl); (case N => k_asm); (case c => rfl); (case m => k_mem); (case d => k_asm); k_whole)))
local macro_rules | `(tactic| k_room) => `(tactic| (simp only [depth_under_make, depth_under_kw, depth_in1, depth_deeper, depth_caller, recursionLimit] at *; walk_at "rmx"))
section
local macro_rules | `(tactic| walk_at "call ref") => `(tactic| (k_here; (with_reducible show wpAny _ _ (call (Value.ref _) [Value.int _ _]) _ _ _); k_dflt (refine' take_use ?hT ?hA ?hf ?hke ?hh ?hd ?hu ?B ?F ?X ?T ?S ?N ?ow ?ok ?k0 ?k1 ?l0 ?l1 ?_; (case hT => assumption); (case hA | hf | hke | hh => exact rfl); (case hd => ktr_room); (case hu => ktr_units); (case B | F | X | T | S => k_asm); (case N => tb_start); (case ow => tb_rel); (case ok => assumption); (case k0 | k1 => omega); (case l0 | l1 => first | decide | omega)); intro i9 t9 h9 tk9 tk8 i0 i1 F9 N9; (try simp only [List.cons_append, List.nil_append] at N9)))
local macro_rules | `(tactic| walk_at "FnAt") => `(tactic| (k_dflt (refine' fnAt_use ?h ?o ?N; (case h | o => assumption); (case N => tb_start))))
local macro_rules | `(tactic| walk_at "callWith ref") => `(tactic| (k_here; k_dflt (refine' callWith_F ?k1 ?_; (case k1 => (refine' fnAt_use ?h ?o ?N; (case h => assumption); (case o => assumption); (case N => tb_start))); k_whole)))
section
local macro_rules | `(tactic| walk_at "subscriptTail") => `(tactic| (k_here; (with_reducible show wpAny _ _ (subscriptTail _ _ (Value.ref _) (Value.int _ _)) _ _ _); k_dflt (refine' item_N ?N ?m ?a ?b ?x ?_ ?hs; (case N => k_asm); (case m => k_mem); (case a | b => decide); (case x => exact rfl); (case hs => with_unfolding_all rfl))))
/-! ## part F1 -/
section
example : True := by (w_top off; trivial)
local macro_rules | `(tactic| walk_at "pyIter ref") => `(tactic| ((with_reducible show wpAny _ _ (pyIter (Value.ref _)) (fun it s₂ => LoopAtV _ _ _ _ _ _ _ _ _ it s₂) _ _); (rename Fr _ _ _ _ => lF'); (rename News _ _ _ _ => lN'); (rename IsRange _ _ _ _ _ _ _ _ => rgX); (with_unfolding_all refine iter_rangeUnr (n := 30) (by rfl) rgX (by first | decide | rfl) (by first | decide | rfl) lF' lN' ?_); clear lF' lN'; intro i' l1; (try k_lt l1)))
set_option hygiene false in
local macro_rules | `(tactic| walk_at "UnrEnd") => `(tactic| k_dflt (refine unrEnd_W W (by k_asm) (by k_asm) (by k_mem) (by intro p9 h9; repeat (first | exact h9 | apply List.Mem.tail)) (by first | exact ne_of_allLt (by assumption) | exact allLt_mem (by assumption)) ?_))
local macro_rules | `(tactic| kit_dict) => `(tactic| (refine' kitAt_N ?N ?m ?c; (case N => k_asm); (case m => k_mem); (case c => exact isDict_cls (by assumption))))
theorem fetch_R_list {prog : Program} {w : World} {p : Program} {loose : List Str} {mean : ExcName → Option Value} {mg mb : Str → Option Value}
    {A A₀ : Around} {env : Env} {outer : List Env} {base h₀ : Heap} {L : Addr} {m : Str → Option Value} {s : Shared} {Q E : Value → Shared → Prop}
    {W : LL} {sh dsh tb tr : Addr} {ot : Obj} {t1 t2 : Tok} {kvs : List (Int × Value)}
    (hA : A.frames = some (env :: outer)) (hf : env.frame = some L) (hke : env.scope.kind = .function) (hh : A.handled = none) (hd : A.depth + 60 < recursionLimit) (hu : A.units + 60 < cLine)
    (B : Below A₀ base outer h₀) (F : Fr h₀ L s.heap m) (X : (K w.params).In h₀) (T : Top p loose mean mg mb h₀)
    (N : News h₀ L s.heap W)
    (m1 : (sh, instObj 363 dsh) ∈ W) (m2 : (dsh, dictOf [{ hash := PyData.keyHash w.params (Str.ofString "table"), key := .str (Str.ofString "table") t1, val := .ref tb },
      { hash := PyData.keyHash w.params (Str.ofString "trailer"), key := .str (Str.ofString "trailer") t2, val := .ref tr }] 2) ∈ W) (m3 : (tb, ot) ∈ W) (hot : ot.IsDictOf (intKind prog w) kvs) (hlo : (tb == sysModules) = false)
    {x : Addr} {xs : List Value} {n9 : Nat} (m7 : (x, lstO xs n9) ∈ W) {a : Addr} (hvia : Via w W kvs a x) 
    (ret : ∀ h' tks, Fr h₀ L h' m → News h₀ L h' W → Q (.ref x) { s with heap := h', toks := tks }) :
    wpAny (model prog w) A (call (.ref 299) [.ref sh, .ref a]) Q E s := by
  obtain ⟨hd', dp, fr, gd, un⟩ := A
  dsimp only at hA hh hd hu
  subst hA hh
  have hvia2 := hvia
  obtain ⟨dx, u1, u2, u3, u4, j, tup, u5, n, m4, m5, hv, m6⟩ := hvia
  refine wpAny_call ?_
  k_dflt (refine' code_def B F X N T rfl hf hke ?k6 ?k7 ?k8 ?k9 ?kB ?_ ?c2 ?c3 ?c4 ?c5; (case k6 => k_is); (case k7 => k_is); (case k8 => (simp only [recursionLimit] at *; omega)); (case k9 => first | exact BindsTo.of_eq rfl | exact binds_K (by k_in) rfl (by k_is) rfl rfl rfl); (case c5 => decide); (case kB => exact locs rfl); (case c2 => exact rfl); (case c3 => exact rfl); (case c4 => exact rfl))
  k_dflt (intro g' L' h' FG' F' N' B' X' T'; (try dsimp only))
  try (have S' := S.keeps FG'.keep; clear S)
  clear N F X T B
  k_unmd
  k_fold
  repeat' ((fail_if_success (with_reducible show LCg.CompSrc _ _ _ _ _ _ _ _ _ _ _ _ _ _)); (fail_if_success (with_reducible show LeaveK h₀ L m _ _ _ _)); (fail_if_success (with_reducible show Exists _)); first | ((with_reducible show wpAny _ _ (call (Value.builtin "dict.get") [Value.ref _, Value.int _ _, _]) _ _ _); k_here; k_dflt (refine get2_some (knd := PySem.intKind _ _) (by k_asm) (by k_mem) (by assumption) (by assumption) (intKind_is _ _ _ _) (by assumption) ?_)) | ((with_reducible show wpAny _ _ (getMethod (Value.ref _) (Str.ofString "get") _) _ _ _); k_here; k_dflt (refine kdg_method (knd := PySem.intKind _ _) (by k_asm) (by k_mem) (by assumption) ?_)) | (k_unfold; (try dsimp only)) | (k_end; wrow_close) | walk1 | (dsimp only; walk1) | (leave1; walk_say "STEP leave1"; try dsimp only) | fail "no step")
  k_dflt (refine' leaveK_ ?k1 ?k2 ?_; (case k1 => k_asm); (case k2 => k_asm))
  intro kF kN
  exact ret _ _ kF (fun q h => kN q (by repeat (first | exact h | apply List.Mem.tail)))
theorem fetch_D_list {prog : Program} {w : World} {p : Program} {loose : List Str} {mean : ExcName → Option Value} {mg mb : Str → Option Value}
    {A A₀ : Around} {env : Env} {outer : List Env} {base h₀ : Heap} {L : Addr} {m : Str → Option Value} {s : Shared} {Q E : Value → Shared → Prop}
    {W : LL} {sh dsh tb tr : Addr} {ot : Obj} {t1 t2 : Tok} {kvs : List (Int × Value)}
    (hA : A.frames = some (env :: outer)) (hf : env.frame = some L) (hke : env.scope.kind = .function) (hh : A.handled = none) (hd : A.depth + 60 < recursionLimit) (hu : A.units + 60 < cLine)
    (B : Below A₀ base outer h₀) (F : Fr h₀ L s.heap m) (X : (K w.params).In h₀) (T : Top p loose mean mg mb h₀)
    (N : News h₀ L s.heap W)
    (m1 : (sh, instObj 363 dsh) ∈ W) (m2 : (dsh, dictOf [{ hash := PyData.keyHash w.params (Str.ofString "table"), key := .str (Str.ofString "table") t1, val := .ref tb },
      { hash := PyData.keyHash w.params (Str.ofString "trailer"), key := .str (Str.ofString "trailer") t2, val := .ref tr }] 2) ∈ W) (m3 : (tb, ot) ∈ W) (hot : ot.IsDictOf (intKind prog w) kvs) (hlo : (tb == sysModules) = false)
    {x : Addr} {xs : List Value} {n9 : Nat} (m7 : (x, lstO xs n9) ∈ W) 
    (ret : ∀ h' tks, Fr h₀ L h' m → News h₀ L h' W → Q (.ref x) { s with heap := h', toks := tks }) :
    wpAny (model prog w) A (call (.ref 299) [.ref sh, .ref x]) Q E s := by
  obtain ⟨hd', dp, fr, gd, un⟩ := A
  dsimp only at hA hh hd hu
  subst hA hh
  refine wpAny_call ?_
  k_dflt (refine' code_def B F X N T rfl hf hke ?k6 ?k7 ?k8 ?k9 ?kB ?_ ?c2 ?c3 ?c4 ?c5; (case k6 => k_is); (case k7 => k_is); (case k8 => (simp only [recursionLimit] at *; omega)); (case k9 => first | exact BindsTo.of_eq rfl | exact binds_K (by k_in) rfl (by k_is) rfl rfl rfl); (case c5 => decide); (case kB => exact locs rfl); (case c2 => exact rfl); (case c3 => exact rfl); (case c4 => exact rfl))
  k_dflt (intro g' L' h' FG' F' N' B' X' T'; (try dsimp only))
  try (have S' := S.keeps FG'.keep; clear S)
  clear N F X T B
  k_unmd
  k_fold
  repeat' ((fail_if_success (with_reducible show LCg.CompSrc _ _ _ _ _ _ _ _ _ _ _ _ _ _)); (fail_if_success (with_reducible show LeaveK h₀ L m _ _ _ _)); (fail_if_success (with_reducible show Exists _)); first | ((with_reducible show wpAny _ _ (call (Value.builtin "dict.get") [Value.ref _, Value.int _ _, _]) _ _ _); k_here; k_dflt (refine get2_some (knd := PySem.intKind _ _) (by k_asm) (by k_mem) (by assumption) (by assumption) (intKind_is _ _ _ _) (by assumption) ?_)) | ((with_reducible show wpAny _ _ (getMethod (Value.ref _) (Str.ofString "get") _) _ _ _); k_here; k_dflt (refine kdg_method (knd := PySem.intKind _ _) (by k_asm) (by k_mem) (by assumption) ?_)) | (k_unfold; (try dsimp only)) | (k_end; wrow_close) | walk1 | (dsimp only; walk1) | (leave1; walk_say "STEP leave1"; try dsimp only) | fail "no step")
  k_dflt (refine' leaveK_ ?k1 ?k2 ?_; (case k1 => k_asm); (case k2 => k_asm))
  intro kF kN
  exact ret _ _ kF (fun q h => kN q (by repeat (first | exact h | apply List.Mem.tail)))
theorem fetch_R_dict {prog : Program} {w : World} {p : Program} {loose : List Str} {mean : ExcName → Option Value} {mg mb : Str → Option Value}
    {A A₀ : Around} {env : Env} {outer : List Env} {base h₀ : Heap} {L : Addr} {m : Str → Option Value} {s : Shared} {Q E : Value → Shared → Prop}
    {W : LL} {sh dsh tb tr : Addr} {ot : Obj} {t1 t2 : Tok} {kvs : List (Int × Value)}
    (hA : A.frames = some (env :: outer)) (hf : env.frame = some L) (hke : env.scope.kind = .function) (hh : A.handled = none) (hd : A.depth + 60 < recursionLimit) (hu : A.units + 60 < cLine)
    (B : Below A₀ base outer h₀) (F : Fr h₀ L s.heap m) (X : (K w.params).In h₀) (T : Top p loose mean mg mb h₀)
    (N : News h₀ L s.heap W)
    (m1 : (sh, instObj 363 dsh) ∈ W) (m2 : (dsh, dictOf [{ hash := PyData.keyHash w.params (Str.ofString "table"), key := .str (Str.ofString "table") t1, val := .ref tb },
      { hash := PyData.keyHash w.params (Str.ofString "trailer"), key := .str (Str.ofString "trailer") t2, val := .ref tr }] 2) ∈ W) (m3 : (tb, ot) ∈ W) (hot : ot.IsDictOf (intKind prog w) kvs) (hlo : (tb == sysModules) = false)
    {x : Addr} {od : Obj} {skv : List (Str × Value)} (m7 : (x, od) ∈ W) (m8 : od.IsDictOf (strKind prog w) skv) {a : Addr} (hvia : Via w W kvs a x) 
    (ret : ∀ h' tks, Fr h₀ L h' m → News h₀ L h' W → Q (.ref x) { s with heap := h', toks := tks }) :
    wpAny (model prog w) A (call (.ref 299) [.ref sh, .ref a]) Q E s := by
  obtain ⟨hd', dp, fr, gd, un⟩ := A
  dsimp only at hA hh hd hu
  subst hA hh
  have hvia2 := hvia
  obtain ⟨dx, u1, u2, u3, u4, j, tup, u5, n, m4, m5, hv, m6⟩ := hvia
  refine wpAny_call ?_
  k_dflt (refine' code_def B F X N T rfl hf hke ?k6 ?k7 ?k8 ?k9 ?kB ?_ ?c2 ?c3 ?c4 ?c5; (case k6 => k_is); (case k7 => k_is); (case k8 => (simp only [recursionLimit] at *; omega)); (case k9 => first | exact BindsTo.of_eq rfl | exact binds_K (by k_in) rfl (by k_is) rfl rfl rfl); (case c5 => decide); (case kB => exact locs rfl); (case c2 => exact rfl); (case c3 => exact rfl); (case c4 => exact rfl))
  k_dflt (intro g' L' h' FG' F' N' B' X' T'; (try dsimp only))
  try (have S' := S.keeps FG'.keep; clear S)
  clear N F X T B
  k_unmd
  k_fold
  repeat' ((fail_if_success (with_reducible show LCg.CompSrc _ _ _ _ _ _ _ _ _ _ _ _ _ _)); (fail_if_success (with_reducible show LeaveK h₀ L m _ _ _ _)); (fail_if_success (with_reducible show Exists _)); first | ((with_reducible show wpAny _ _ (call (Value.builtin "dict.get") [Value.ref _, Value.int _ _, _]) _ _ _); k_here; k_dflt (refine get2_some (knd := PySem.intKind _ _) (by k_asm) (by k_mem) (by assumption) (by assumption) (intKind_is _ _ _ _) (by assumption) ?_)) | ((with_reducible show wpAny _ _ (getMethod (Value.ref _) (Str.ofString "get") _) _ _ _); k_here; k_dflt (refine kdg_method (knd := PySem.intKind _ _) (by k_asm) (by k_mem) (by assumption) ?_)) | (k_unfold; (try dsimp only)) | (k_end; wrow_close) | walk1 | (dsimp only; walk1) | (leave1; walk_say "STEP leave1"; try dsimp only) | fail "no step")
  k_dflt (refine' leaveK_ ?k1 ?k2 ?_; (case k1 => k_asm); (case k2 => k_asm))
  intro kF kN
  exact ret _ _ kF (fun q h => kN q (by repeat (first | exact h | apply List.Mem.tail)))
theorem fetch_D_name {prog : Program} {w : World} {p : Program} {loose : List Str} {mean : ExcName → Option Value} {mg mb : Str → Option Value}
    {A A₀ : Around} {env : Env} {outer : List Env} {base h₀ : Heap} {L : Addr} {m : Str → Option Value} {s : Shared} {Q E : Value → Shared → Prop}
    {W : LL} {sh dsh tb tr : Addr} {ot : Obj} {t1 t2 : Tok} {kvs : List (Int × Value)}
    (hA : A.frames = some (env :: outer)) (hf : env.frame = some L) (hke : env.scope.kind = .function) (hh : A.handled = none) (hd : A.depth + 60 < recursionLimit) (hu : A.units + 60 < cLine)
    (B : Below A₀ base outer h₀) (F : Fr h₀ L s.heap m) (X : (K w.params).In h₀) (T : Top p loose mean mg mb h₀)
    (N : News h₀ L s.heap W)
    (m1 : (sh, instObj 363 dsh) ∈ W) (m2 : (dsh, dictOf [{ hash := PyData.keyHash w.params (Str.ofString "table"), key := .str (Str.ofString "table") t1, val := .ref tb },
      { hash := PyData.keyHash w.params (Str.ofString "trailer"), key := .str (Str.ofString "trailer") t2, val := .ref tr }] 2) ∈ W) (m3 : (tb, ot) ∈ W) (hot : ot.IsDictOf (intKind prog w) kvs) (hlo : (tb == sysModules) = false)
    {x dn : Addr} {od : Obj} (m7 : (x, instObj 183 dn) ∈ W) (m8 : (dn, od) ∈ W) 
    (ret : ∀ h' tks, Fr h₀ L h' m → News h₀ L h' W → Q (.ref x) { s with heap := h', toks := tks }) :
    wpAny (model prog w) A (call (.ref 299) [.ref sh, .ref x]) Q E s := by
  obtain ⟨hd', dp, fr, gd, un⟩ := A
  dsimp only at hA hh hd hu
  subst hA hh
  refine wpAny_call ?_
  k_dflt (refine' code_def B F X N T rfl hf hke ?k6 ?k7 ?k8 ?k9 ?kB ?_ ?c2 ?c3 ?c4 ?c5; (case k6 => k_is); (case k7 => k_is); (case k8 => (simp only [recursionLimit] at *; omega)); (case k9 => first | exact BindsTo.of_eq rfl | exact binds_K (by k_in) rfl (by k_is) rfl rfl rfl); (case c5 => decide); (case kB => exact locs rfl); (case c2 => exact rfl); (case c3 => exact rfl); (case c4 => exact rfl))
  k_dflt (intro g' L' h' FG' F' N' B' X' T'; (try dsimp only))
  try (have S' := S.keeps FG'.keep; clear S)
  clear N F X T B
  k_unmd
  k_fold
  repeat' ((fail_if_success (with_reducible show LCg.CompSrc _ _ _ _ _ _ _ _ _ _ _ _ _ _)); (fail_if_success (with_reducible show LeaveK h₀ L m _ _ _ _)); (fail_if_success (with_reducible show Exists _)); first | ((with_reducible show wpAny _ _ (call (Value.builtin "dict.get") [Value.ref _, Value.int _ _, _]) _ _ _); k_here; k_dflt (refine get2_some (knd := PySem.intKind _ _) (by k_asm) (by k_mem) (by assumption) (by assumption) (intKind_is _ _ _ _) (by assumption) ?_)) | ((with_reducible show wpAny _ _ (getMethod (Value.ref _) (Str.ofString "get") _) _ _ _); k_here; k_dflt (refine kdg_method (knd := PySem.intKind _ _) (by k_asm) (by k_mem) (by assumption) ?_)) | (k_unfold; (try dsimp only)) | (k_end; wrow_close) | walk1 | (dsimp only; walk1) | (leave1; walk_say "STEP leave1"; try dsimp only) | fail "no step")
  k_dflt (refine' leaveK_ ?k1 ?k2 ?_; (case k1 => k_asm); (case k2 => k_asm))
  intro kF kN
  exact ret _ _ kF (fun q h => kN q (by repeat (first | exact h | apply List.Mem.tail)))
end
/-! ## part F2 -/
section
example : True := by (w_top off; trivial)
local macro_rules | `(tactic| kit_dict) => `(tactic| (refine' kitAt_N ?N ?m ?c; (case N => k_asm); (case m => k_mem); (case c => exact isDict_cls (by assumption))))
theorem isgrp_D_list {prog : Program} {w : World} {p : Program} {loose : List Str} {mean : ExcName → Option Value} {mg mb : Str → Option Value}
    {A A₀ : Around} {env : Env} {outer : List Env} {base h₀ : Heap} {L : Addr} {m : Str → Option Value} {s : Shared} {Q E : Value → Shared → Prop}
    {W : LL} {sh dsh tb tr : Addr} {ot : Obj} {t1 t2 : Tok} {kvs : List (Int × Value)}
    (hA : A.frames = some (env :: outer)) (hf : env.frame = some L) (hke : env.scope.kind = .function) (hh : A.handled = none) (hd : A.depth + 100 < recursionLimit) (hu : A.units + 100 < cLine)
    (B : Below A₀ base outer h₀) (F : Fr h₀ L s.heap m) (X : (K w.params).In h₀) (T : Top p loose mean mg mb h₀)
    (N : News h₀ L s.heap W)
    (m1 : (sh, instObj 363 dsh) ∈ W) (m2 : (dsh, dictOf [{ hash := PyData.keyHash w.params (Str.ofString "table"), key := .str (Str.ofString "table") t1, val := .ref tb },
      { hash := PyData.keyHash w.params (Str.ofString "trailer"), key := .str (Str.ofString "trailer") t2, val := .ref tr }] 2) ∈ W) (m3 : (tb, ot) ∈ W) (hot : ot.IsDictOf (intKind prog w) kvs) (hlo : (tb == sysModules) = false)
    {x : Addr} {xs : List Value} {n9 : Nat} (m7 : (x, lstO xs n9) ∈ W) 
    (ret : ∀ h' tks, Fr h₀ L h' m → News h₀ L h' W → Q (.bool false) { s with heap := h', toks := tks }) :
    wpAny (model prog w) A (call (.ref 379) [.ref sh, .ref x]) Q E s := by
  obtain ⟨hd', dp, fr, gd, un⟩ := A
  dsimp only at hA hh hd hu
  subst hA hh
  refine wpAny_call ?_
  k_dflt (refine' code_def B F X N T rfl hf hke ?k6 ?k7 ?k8 ?k9 ?kB ?_ ?c2 ?c3 ?c4 ?c5; (case k6 => k_is); (case k7 => k_is); (case k8 => (simp only [recursionLimit] at *; omega)); (case k9 => first | exact BindsTo.of_eq rfl | exact binds_K (by k_in) rfl (by k_is) rfl rfl rfl); (case c5 => decide); (case kB => exact locs rfl); (case c2 => exact rfl); (case c3 => exact rfl); (case c4 => exact rfl))
  k_dflt (intro g' L' h' FG' F' N' B' X' T'; (try dsimp only))
  try (have S' := S.keeps FG'.keep; clear S)
  clear N F X T B
  k_unmd
  k_fold
  repeat' ((fail_if_success (with_reducible show LCg.CompSrc _ _ _ _ _ _ _ _ _ _ _ _ _ _)); (fail_if_success (with_reducible show LeaveK h₀ L m _ _ _ _)); (fail_if_success (with_reducible show Exists _)); first | ((with_reducible show wpAny _ _ (call (Value.builtin "dict.get") [Value.ref _, Value.str _ _]) _ _ _); k_here; k_dflt (refine get1_some (knd := PySem.strKind _ _) (by k_asm) (by k_mem) (by assumption) (by assumption) (strKind_is _ _ _ _) val_one ?_)) | ((with_reducible show wpAny _ _ (getMethod (Value.ref _) (Str.ofString "get") _) _ _ _); k_here; k_dflt (refine kdg_method (knd := PySem.strKind _ _) (by k_asm) (by k_mem) (by assumption) ?_)) | ((with_reducible show wpAny _ _ (call (Value.ref 299) [_, _]) _ _ _); k_here; k_dflt (first | (refine' fetch_D_list rfl rfl rfl rfl ?hd ?hu ?B ?F ?X ?T ?N ?m1 ?m2 ?m3 ?hot ?hlo ?m7 ?_; (case hd => ktr_room); (case hu => ktr_units); (case B | F | X | T | N => k_asm); (case m1 | m2 | m3 => k_mem); (case hot | hlo => assumption); (case m7 => k_mem); intro h9z tk9z F9z N9z) | (refine' fetch_R_list rfl rfl rfl rfl ?hd ?hu ?B ?F ?X ?T ?N ?m1 ?m2 ?m3 ?hot ?hlo ?m7 ?hvia ?_; (case hd => ktr_room); (case hu => ktr_units); (case B | F | X | T | N => k_asm); (case m1 | m2 | m3 => k_mem); (case hot | hlo => assumption); (case hvia => exact Via.mono (by intro p9z h9z; repeat (first | exact h9z | apply List.Mem.tail)) (by assumption)); (case m7 => k_mem); intro h9z tk9z F9z N9z) | (refine' fetch_R_dict rfl rfl rfl rfl ?hd ?hu ?B ?F ?X ?T ?N ?m1 ?m2 ?m3 ?hot ?hlo ?m7 ?m8 ?hvia ?_; (case hd => ktr_room); (case hu => ktr_units); (case B | F | X | T | N => k_asm); (case m1 | m2 | m3 => k_mem); (case hot | hlo => assumption); (case hvia => exact Via.mono (by intro p9z h9z; repeat (first | exact h9z | apply List.Mem.tail)) (by assumption)); (case m7 => k_mem); (case m8 => assumption); intro h9z tk9z F9z N9z) | (refine' fetch_D_name rfl rfl rfl rfl ?hd ?hu ?B ?F ?X ?T ?N ?m1 ?m2 ?m3 ?hot ?hlo ?m7 ?m8 ?_; (case hd => ktr_room); (case hu => ktr_units); (case B | F | X | T | N => k_asm); (case m1 | m2 | m3 => k_mem); (case hot | hlo => assumption); (case m7 | m8 => k_mem); intro h9z tk9z F9z N9z))) | (k_unfold; (try dsimp only)) | (k_end; wrow_close) | walk1 | (dsimp only; walk1) | (leave1; walk_say "STEP leave1"; try dsimp only) | fail "no step")
  k_dflt (refine' leaveK_ ?k1 ?k2 ?_; (case k1 => k_asm); (case k2 => k_asm))
  intro kF kN
  exact ret _ _ kF (fun q h => kN q (by repeat (first | exact h | apply List.Mem.tail)))
theorem isgrp_R_list {prog : Program} {w : World} {p : Program} {loose : List Str} {mean : ExcName → Option Value} {mg mb : Str → Option Value}
    {A A₀ : Around} {env : Env} {outer : List Env} {base h₀ : Heap} {L : Addr} {m : Str → Option Value} {s : Shared} {Q E : Value → Shared → Prop}
    {W : LL} {sh dsh tb tr : Addr} {ot : Obj} {t1 t2 : Tok} {kvs : List (Int × Value)}
    (hA : A.frames = some (env :: outer)) (hf : env.frame = some L) (hke : env.scope.kind = .function) (hh : A.handled = none) (hd : A.depth + 100 < recursionLimit) (hu : A.units + 100 < cLine)
    (B : Below A₀ base outer h₀) (F : Fr h₀ L s.heap m) (X : (K w.params).In h₀) (T : Top p loose mean mg mb h₀)
    (N : News h₀ L s.heap W)
    (m1 : (sh, instObj 363 dsh) ∈ W) (m2 : (dsh, dictOf [{ hash := PyData.keyHash w.params (Str.ofString "table"), key := .str (Str.ofString "table") t1, val := .ref tb },
      { hash := PyData.keyHash w.params (Str.ofString "trailer"), key := .str (Str.ofString "trailer") t2, val := .ref tr }] 2) ∈ W) (m3 : (tb, ot) ∈ W) (hot : ot.IsDictOf (intKind prog w) kvs) (hlo : (tb == sysModules) = false)
    {x : Addr} {xs : List Value} {n9 : Nat} (m7 : (x, lstO xs n9) ∈ W) {a : Addr} (hvia : Via w W kvs a x) 
    (ret : ∀ h' tks, Fr h₀ L h' m → News h₀ L h' W → Q (.bool false) { s with heap := h', toks := tks }) :
    wpAny (model prog w) A (call (.ref 379) [.ref sh, .ref a]) Q E s := by
  obtain ⟨hd', dp, fr, gd, un⟩ := A
  dsimp only at hA hh hd hu
  subst hA hh
  have hvia2 := hvia
  obtain ⟨dx, u1, u2, u3, u4, j, tup, u5, n, m4, m5, hv, m6⟩ := hvia
  refine wpAny_call ?_
  k_dflt (refine' code_def B F X N T rfl hf hke ?k6 ?k7 ?k8 ?k9 ?kB ?_ ?c2 ?c3 ?c4 ?c5; (case k6 => k_is); (case k7 => k_is); (case k8 => (simp only [recursionLimit] at *; omega)); (case k9 => first | exact BindsTo.of_eq rfl | exact binds_K (by k_in) rfl (by k_is) rfl rfl rfl); (case c5 => decide); (case kB => exact locs rfl); (case c2 => exact rfl); (case c3 => exact rfl); (case c4 => exact rfl))
  k_dflt (intro g' L' h' FG' F' N' B' X' T'; (try dsimp only))
  try (have S' := S.keeps FG'.keep; clear S)
  clear N F X T B
  k_unmd
  k_fold
  repeat' ((fail_if_success (with_reducible show LCg.CompSrc _ _ _ _ _ _ _ _ _ _ _ _ _ _)); (fail_if_success (with_reducible show LeaveK h₀ L m _ _ _ _)); (fail_if_success (with_reducible show Exists _)); first | ((with_reducible show wpAny _ _ (call (Value.builtin "dict.get") [Value.ref _, Value.str _ _]) _ _ _); k_here; k_dflt (refine get1_some (knd := PySem.strKind _ _) (by k_asm) (by k_mem) (by assumption) (by assumption) (strKind_is _ _ _ _) val_one ?_)) | ((with_reducible show wpAny _ _ (getMethod (Value.ref _) (Str.ofString "get") _) _ _ _); k_here; k_dflt (refine kdg_method (knd := PySem.strKind _ _) (by k_asm) (by k_mem) (by assumption) ?_)) | ((with_reducible show wpAny _ _ (call (Value.ref 299) [_, _]) _ _ _); k_here; k_dflt (first | (refine' fetch_D_list rfl rfl rfl rfl ?hd ?hu ?B ?F ?X ?T ?N ?m1 ?m2 ?m3 ?hot ?hlo ?m7 ?_; (case hd => ktr_room); (case hu => ktr_units); (case B | F | X | T | N => k_asm); (case m1 | m2 | m3 => k_mem); (case hot | hlo => assumption); (case m7 => k_mem); intro h9z tk9z F9z N9z) | (refine' fetch_R_list rfl rfl rfl rfl ?hd ?hu ?B ?F ?X ?T ?N ?m1 ?m2 ?m3 ?hot ?hlo ?m7 ?hvia ?_; (case hd => ktr_room); (case hu => ktr_units); (case B | F | X | T | N => k_asm); (case m1 | m2 | m3 => k_mem); (case hot | hlo => assumption); (case hvia => exact Via.mono (by intro p9z h9z; repeat (first | exact h9z | apply List.Mem.tail)) (by assumption)); (case m7 => k_mem); intro h9z tk9z F9z N9z) | (refine' fetch_R_dict rfl rfl rfl rfl ?hd ?hu ?B ?F ?X ?T ?N ?m1 ?m2 ?m3 ?hot ?hlo ?m7 ?m8 ?hvia ?_; (case hd => ktr_room); (case hu => ktr_units); (case B | F | X | T | N => k_asm); (case m1 | m2 | m3 => k_mem); (case hot | hlo => assumption); (case hvia => exact Via.mono (by intro p9z h9z; repeat (first | exact h9z | apply List.Mem.tail)) (by assumption)); (case m7 => k_mem); (case m8 => assumption); intro h9z tk9z F9z N9z) | (refine' fetch_D_name rfl rfl rfl rfl ?hd ?hu ?B ?F ?X ?T ?N ?m1 ?m2 ?m3 ?hot ?hlo ?m7 ?m8 ?_; (case hd => ktr_room); (case hu => ktr_units); (case B | F | X | T | N => k_asm); (case m1 | m2 | m3 => k_mem); (case hot | hlo => assumption); (case m7 | m8 => k_mem); intro h9z tk9z F9z N9z))) | (k_unfold; (try dsimp only)) | (k_end; wrow_close) | walk1 | (dsimp only; walk1) | (leave1; walk_say "STEP leave1"; try dsimp only) | fail "no step")
  k_dflt (refine' leaveK_ ?k1 ?k2 ?_; (case k1 => k_asm); (case k2 => k_asm))
  intro kF kN
  exact ret _ _ kF (fun q h => kN q (by repeat (first | exact h | apply List.Mem.tail)))
theorem isgrp_R_grp {prog : Program} {w : World} {p : Program} {loose : List Str} {mean : ExcName → Option Value} {mg mb : Str → Option Value}
    {A A₀ : Around} {env : Env} {outer : List Env} {base h₀ : Heap} {L : Addr} {m : Str → Option Value} {s : Shared} {Q E : Value → Shared → Prop}
    {W : LL} {sh dsh tb tr : Addr} {ot : Obj} {t1 t2 : Tok} {kvs : List (Int × Value)}
    (hA : A.frames = some (env :: outer)) (hf : env.frame = some L) (hke : env.scope.kind = .function) (hh : A.handled = none) (hd : A.depth + 100 < recursionLimit) (hu : A.units + 100 < cLine)
    (B : Below A₀ base outer h₀) (F : Fr h₀ L s.heap m) (X : (K w.params).In h₀) (T : Top p loose mean mg mb h₀)
    (N : News h₀ L s.heap W)
    (m1 : (sh, instObj 363 dsh) ∈ W) (m2 : (dsh, dictOf [{ hash := PyData.keyHash w.params (Str.ofString "table"), key := .str (Str.ofString "table") t1, val := .ref tb },
      { hash := PyData.keyHash w.params (Str.ofString "trailer"), key := .str (Str.ofString "trailer") t2, val := .ref tr }] 2) ∈ W) (m3 : (tb, ot) ∈ W) (hot : ot.IsDictOf (intKind prog w) kvs) (hlo : (tb == sysModules) = false)
    {x nm dn : Addr} {od : Obj} {u7 u8 : Tok} (m7 : (x, od) ∈ W) (m8 : od.IsDictOf (strKind prog w) [(Str.ofString "Type", .ref nm)]) (hx : (x == sysModules) = false)
    (m9 : (nm, instObj 183 dn) ∈ W) (m10 : (dn, dictOf [{ hash := PyData.keyHash w.params (Str.ofString "text"), key := .str (Str.ofString "text") u7, val := .str (Str.ofString "OCG") u8 }] 1) ∈ W) {a : Addr} (hvia : Via w W kvs a x) 
    (ret : ∀ h' tks, Fr h₀ L h' m → News h₀ L h' W → Q (.bool true) { s with heap := h', toks := tks }) :
    wpAny (model prog w) A (call (.ref 379) [.ref sh, .ref a]) Q E s := by
  obtain ⟨hd', dp, fr, gd, un⟩ := A
  dsimp only at hA hh hd hu
  subst hA hh
  have hvia2 := hvia
  obtain ⟨dx, u1, u2, u3, u4, j, tup, u5, n, m4, m5, hv, m6⟩ := hvia
  refine wpAny_call ?_
  k_dflt (refine' code_def B F X N T rfl hf hke ?k6 ?k7 ?k8 ?k9 ?kB ?_ ?c2 ?c3 ?c4 ?c5; (case k6 => k_is); (case k7 => k_is); (case k8 => (simp only [recursionLimit] at *; omega)); (case k9 => first | exact BindsTo.of_eq rfl | exact binds_K (by k_in) rfl (by k_is) rfl rfl rfl); (case c5 => decide); (case kB => exact locs rfl); (case c2 => exact rfl); (case c3 => exact rfl); (case c4 => exact rfl))
  k_dflt (intro g' L' h' FG' F' N' B' X' T'; (try dsimp only))
  try (have S' := S.keeps FG'.keep; clear S)
  clear N F X T B
  k_unmd
  k_fold
  repeat' ((fail_if_success (with_reducible show LCg.CompSrc _ _ _ _ _ _ _ _ _ _ _ _ _ _)); (fail_if_success (with_reducible show LeaveK h₀ L m _ _ _ _)); (fail_if_success (with_reducible show Exists _)); first | ((with_reducible show wpAny _ _ (call (Value.builtin "dict.get") [Value.ref _, Value.str _ _]) _ _ _); k_here; k_dflt (refine get1_some (knd := PySem.strKind _ _) (by k_asm) (by k_mem) (by assumption) (by assumption) (strKind_is _ _ _ _) val_one ?_)) | ((with_reducible show wpAny _ _ (getMethod (Value.ref _) (Str.ofString "get") _) _ _ _); k_here; k_dflt (refine kdg_method (knd := PySem.strKind _ _) (by k_asm) (by k_mem) (by assumption) ?_)) | ((with_reducible show wpAny _ _ (call (Value.ref 299) [_, _]) _ _ _); k_here; k_dflt (first | (refine' fetch_D_list rfl rfl rfl rfl ?hd ?hu ?B ?F ?X ?T ?N ?m1 ?m2 ?m3 ?hot ?hlo ?m7 ?_; (case hd => ktr_room); (case hu => ktr_units); (case B | F | X | T | N => k_asm); (case m1 | m2 | m3 => k_mem); (case hot | hlo => assumption); (case m7 => k_mem); intro h9z tk9z F9z N9z) | (refine' fetch_R_list rfl rfl rfl rfl ?hd ?hu ?B ?F ?X ?T ?N ?m1 ?m2 ?m3 ?hot ?hlo ?m7 ?hvia ?_; (case hd => ktr_room); (case hu => ktr_units); (case B | F | X | T | N => k_asm); (case m1 | m2 | m3 => k_mem); (case hot | hlo => assumption); (case hvia => exact Via.mono (by intro p9z h9z; repeat (first | exact h9z | apply List.Mem.tail)) (by assumption)); (case m7 => k_mem); intro h9z tk9z F9z N9z) | (refine' fetch_R_dict rfl rfl rfl rfl ?hd ?hu ?B ?F ?X ?T ?N ?m1 ?m2 ?m3 ?hot ?hlo ?m7 ?m8 ?hvia ?_; (case hd => ktr_room); (case hu => ktr_units); (case B | F | X | T | N => k_asm); (case m1 | m2 | m3 => k_mem); (case hot | hlo => assumption); (case hvia => exact Via.mono (by intro p9z h9z; repeat (first | exact h9z | apply List.Mem.tail)) (by assumption)); (case m7 => k_mem); (case m8 => assumption); intro h9z tk9z F9z N9z) | (refine' fetch_D_name rfl rfl rfl rfl ?hd ?hu ?B ?F ?X ?T ?N ?m1 ?m2 ?m3 ?hot ?hlo ?m7 ?m8 ?_; (case hd => ktr_room); (case hu => ktr_units); (case B | F | X | T | N => k_asm); (case m1 | m2 | m3 => k_mem); (case hot | hlo => assumption); (case m7 | m8 => k_mem); intro h9z tk9z F9z N9z))) | (k_unfold; (try dsimp only)) | (k_end; wrow_close) | walk1 | (dsimp only; walk1) | (leave1; walk_say "STEP leave1"; try dsimp only) | fail "no step")
  k_dflt (refine' leaveK_ ?k1 ?k2 ?_; (case k1 => k_asm); (case k2 => k_asm))
  intro kF kN
  exact ret _ _ kF (fun q h => kN q (by repeat (first | exact h | apply List.Mem.tail)))
end
/-! ## part Base5 -/
section
example : True := by (w_top off; trivial)
local macro_rules | `(tactic| walk_at "none") => `(tactic| fail)
theorem ev_and (σ : Nat → Bool) (ps : List Pl) : ev σ (.op .and ps) = !((ps.map (ev σ)).any (· == false)) := by
  simp only [ev, comb, evL_map]
  generalize ps.map (ev σ) = l
  induction l with
  | nil => rfl
  | cons b l ih => cases b <;> simp_all
theorem ev_or (σ : Nat → Bool) (ps : List Pl) : ev σ (.op .or ps) = (ps.map (ev σ)).any (· == true) := by
  simp only [ev, comb, evL_map]
  generalize ps.map (ev σ) = l
  induction l with
  | nil => rfl
  | cons b l ih => cases b <;> simp_all
theorem ev_not (σ : Nat → Bool) (p : Pl) : ev σ (.op .not [p]) = !(ev σ p) := by simp only [ev, evL, comb, List.headD_cons]
def GroupIn (prog : Program) (w : World) (R : LL) (x : Addr) : Prop := ∃ nm dn od u7 u8, (x, od) ∈ R ∧ od.IsDictOf (strKind prog w) [(Str.ofString "Type", .ref nm)] ∧ (x == sysModules) = false ∧
  (nm, instObj 183 dn) ∈ R ∧ (dn, dictOf [{ hash := PyData.keyHash w.params (Str.ofString "text"), key := .str (Str.ofString "text") u7, val := .str (Str.ofString "OCG") u8 }] 1) ∈ R
theorem GroupIn.mono {prog : Program} {w : World} {R R' : LL} {x : Addr} (h : ∀ q ∈ R, q ∈ R') : GroupIn prog w R x → GroupIn prog w R' x
  | ⟨nm, dn, od, u7, u8, a, b, c, d, e⟩ => ⟨nm, dn, od, u7, u8, h _ a, b, c, h _ d, h _ e⟩
def Rows' (kvs : List (Int × Value)) (R : LL) (rs : List Value) : Prop := ∀ (j : Nat) x, rs[j]? = some x → ∃ a t n, valueAt kvs ((j : Int) + 1) = some (.ref a) ∧ (a, tupO [.int 0 t, x] n) ∈ R
theorem Rows'.mono {kvs : List (Int × Value)} {R R' : LL} {rs : List Value} (h : ∀ q ∈ R, q ∈ R') (x : Rows' kvs R rs) : Rows' kvs R' rs := fun j y e => let ⟨a, t, n, h1, h2⟩ := x j y e; ⟨a, t, n, h1, h _ h2⟩
theorem via_of {w : World} {R : LL} {kvs : List (Int × Value)} {rs : List Value} {a x : Addr} {j : Nat} (hr : RefIn w R (.ref a) ((j : Int) + 1)) (hx : rs[j]? = some (.ref x)) (h : Rows' kvs R rs) : Via w R kvs a x := by
  obtain ⟨a', dx, t1, t2, t3, t4, e, h1, h2⟩ := hr
  obtain ⟨b, t, n, h3, h4⟩ := h j _ hx
  injection e with e
  subst e
  exact ⟨dx, t1, t2, t3, t4, _, b, t, n, h1, h2, h3, h4⟩
section
variable {prog : Program} {w : World} {A : Around} {E : Value → Shared → Prop} {s : Shared} {h₀ : Heap} {L l d : Addr} {m : Str → Option Value} {news : LL} {value slice : PySem.Expr} {vs : List Value} {v0 : Value} {tx : Tok} {n : Nat} {Q : Value → Shared → Prop}
theorem slice_tailN (F : Fr h₀ L s.heap m) (N : News h₀ L s.heap news) (hm : (l, lstO (v0 :: vs) n) ∈ news) (h4 : vs.length ≤ 4)
    (h : ∀ D h', Fr h₀ L h' m → News h₀ L h' ((D, listOf vs.toArray 0) :: news) → (∀ p ∈ news, p.1 < D) → Q (.ref D) { s with heap := h' })
    (hs : subscripted slice false (.ref l) (.ref s.heap.objs.size) = operate [.ref s.heap.objs.size, .ref l] (getItem (.ref l) (.ref s.heap.objs.size))) (ht : ∀ r, letTemporaryGo value (.ref l) r = pure ()) :
    wpAny (model prog w) A (subscriptTail value slice (.ref l) (.ref s.heap.objs.size)) Q E { s with heap := s.heap.push { cls := .type "slice", data := .fields #[.int 1 tx, .none, .none] } } := by
  refine kms_slice_lit (lo := some 1) (hi := none) F N (News.isList N hm) (.int _ _) .none ?_ h hs ht (Nat.le_trans (show (v0 :: vs).toArray.size ≤ 5 by simp only [List.size_toArray, List.length_cons]; omega) (by decide))
  show kms_pick (v0 :: vs) (some 1) none = _
  unfold kms_pick kms_lo kms_hi
  simp only [if_neg (show ¬ ((1 : Int) < 0) by omega), List.length_cons]
  rw [show min (1 : Int).toNat (vs.length + 1) = 1 by simp]
  simp
variable {K : Type} [DecidableEq K] {knd : KeyKind prog w K} {kvs : List (K × Value)} {k : K} {key v dflt : Value} {o : Obj}
theorem get2_getD (N : News h₀ L s.heap news) (hp : (d, o) ∈ news) (hd : o.IsDictOf knd kvs) (lo : (d == sysModules) = false) (hkey : knd.is k key = true) (hl : (valueAt kvs k).getD dflt = v) (h : Q v { s with toks := s.toks + 1 }) :
    wpAny (model prog w) A (call (.builtin "dict.get") [.ref d, key, dflt]) Q E s := kdg_get2 N hp hd lo hkey _ rfl (by rw [hl]; exact h)
end
section
open LCg
variable {prog : Program} {w : World} {A : Around} {E : Value → Shared → Prop} {s : Shared} {h₀ : Heap} {L : Addr} {m : Str → Option Value} {env : Env}
theorem ev_comp {elt : Expr} {x : Str} {scope : Scope} {cl : List (Str × Addr)} {Fin : List Value → LL → Prop} {W R : LL} {rs : List Value} {ax : Addr} {nk : Nat} (vs : List Value) (ps : List Pl) (f : Pl → Bool)
    (hax : (ax, lstO vs nk) ∈ W) (hE : ExprsIn w R rs vs ps)
    (step : ∀ v P ys It oI Ct oC Dt m₂ h tk (E' : Value → Shared → Prop), P ∈ ps → ExprIn w R rs v P → NsObj oC m₂ → m₂ x = some v → Fr h₀ L h m →
      News h₀ L h ((It, oI) :: (Ct, oC) :: (Dt, lst ys) :: W) → Off3 It Ct Dt W → (It ≠ Ct ∧ It ≠ Dt ∧ Ct ≠ Dt) →
      wpAny (model prog w) A (eval elt (compEnvC scope cl Ct env)) (fun y s' => ∃ h' tk', y = .bool (f P) ∧ s' = { s with heap := h', toks := tk' } ∧ Fr h₀ L h' m ∧
        News h₀ L h' ((It, oI) :: (Ct, oC) :: (Dt, lst ys) :: W)) E' { s with heap := h, toks := tk })
    (fin : Fin ((ps.map f).map Value.bool) W) :
    CompRest prog w A h₀ L m env elt x scope cl s (SrcAt h₀ ax vs.toArray) (fun i v => vs.toArray[i]? = some v) Fin vs.toArray.size 0 [] W := by
  have hl : vs.length = ps.length := hE.len
  refine comp_gen (n := vs.toArray.size) (fun i ys news => news = W ∧ ys = ((ps.take i).map f).map Value.bool) ?_ ?_ _ 0 [] _ (by omega) ⟨rfl, rfl⟩
  · rintro i ys news v It oI Ct oC Dt m₂ h tk E' hi ⟨rfl, hys⟩ hv hNs hx F N off ne
    have hi' : i < ps.length := by simpa [hl] using hi
    obtain ⟨P, hpi, hpv⟩ := hE.get (i := i) (v := v) (by simpa using hv)
    refine wpAny_mono (step v P ys It oI Ct oC Dt m₂ h tk E' (List.mem_of_getElem? hpi) hpv hNs hx F N off ne) (fun y s' => ?_) fun _ _ e => e
    rintro ⟨h', tks, rfl, rfl, F9, N9⟩
    refine ⟨h', tks, _, rfl, F9, N9, off, .inr ⟨lstO vs nk, hax, rfl, nk, rfl⟩, rfl, ?_⟩
    rw [List.take_add_one, hpi, hys]
    simp
  · rintro ys news ⟨rfl, rfl⟩
    have e : ps.take vs.toArray.size = ps := List.take_of_length_le (by simp [hl])
    rw [e]
    exact fin
end
section
variable {prog : Program} {w : World} {p : Program} {loose : List Str} {mean : ExcName → Option Value} {mg mb : Str → Option Value}
    {A A₀ : Around} {env : Env} {outer : List Env} {base h₀ : Heap} {L : Addr} {m : Str → Option Value} {s : Shared} {Q E : Value → Shared → Prop}
    {W : LL} {sh dsh tb tr : Addr} {ot : Obj} {t1 t2 : Tok} {kvs : List (Int × Value)}
theorem isgrp_list (hA : A.frames = some (env :: outer)) (hf : env.frame = some L) (hke : env.scope.kind = .function) (hh : A.handled = none) (hd : A.depth + 100 < recursionLimit) (hu : A.units + 100 < cLine)
    (B : Below A₀ base outer h₀) (F : Fr h₀ L s.heap m) (X : (K w.params).In h₀) (T : Top p loose mean mg mb h₀)
    (N : News h₀ L s.heap W)
    (m1 : (sh, instObj 363 dsh) ∈ W) (m2 : (dsh, dictOf [{ hash := PyData.keyHash w.params (Str.ofString "table"), key := .str (Str.ofString "table") t1, val := .ref tb },
      { hash := PyData.keyHash w.params (Str.ofString "trailer"), key := .str (Str.ofString "trailer") t2, val := .ref tr }] 2) ∈ W) (m3 : (tb, ot) ∈ W) (hot : ot.IsDictOf (intKind prog w) kvs) (hlo : (tb == sysModules) = false)
    {x a : Addr} {xs : List Value} {n9 : Nat} (m7 : (x, lstO xs n9) ∈ W) (hres : a = x ∨ Via w W kvs a x)
    (ret : ∀ h' tks, Fr h₀ L h' m → News h₀ L h' W → Q (.bool false) { s with heap := h', toks := tks }) :
    wpAny (model prog w) A (call (.ref 379) [.ref sh, .ref a]) Q E s := by
  rcases hres with rfl | hv
  · exact isgrp_D_list hA hf hke hh hd hu B F X T N m1 m2 m3 hot hlo m7 ret
  · exact isgrp_R_list hA hf hke hh hd hu B F X T N m1 m2 m3 hot hlo m7 hv ret
theorem fetch_list (hA : A.frames = some (env :: outer)) (hf : env.frame = some L) (hke : env.scope.kind = .function) (hh : A.handled = none) (hd : A.depth + 60 < recursionLimit) (hu : A.units + 60 < cLine)
    (B : Below A₀ base outer h₀) (F : Fr h₀ L s.heap m) (X : (K w.params).In h₀) (T : Top p loose mean mg mb h₀)
    (N : News h₀ L s.heap W)
    (m1 : (sh, instObj 363 dsh) ∈ W) (m2 : (dsh, dictOf [{ hash := PyData.keyHash w.params (Str.ofString "table"), key := .str (Str.ofString "table") t1, val := .ref tb },
      { hash := PyData.keyHash w.params (Str.ofString "trailer"), key := .str (Str.ofString "trailer") t2, val := .ref tr }] 2) ∈ W) (m3 : (tb, ot) ∈ W) (hot : ot.IsDictOf (intKind prog w) kvs) (hlo : (tb == sysModules) = false)
    {x a : Addr} {xs : List Value} {n9 : Nat} (m7 : (x, lstO xs n9) ∈ W) (hres : a = x ∨ Via w W kvs a x)
    (ret : ∀ h' tks, Fr h₀ L h' m → News h₀ L h' W → Q (.ref x) { s with heap := h', toks := tks }) :
    wpAny (model prog w) A (call (.ref 299) [.ref sh, .ref a]) Q E s := by
  rcases hres with rfl | hv
  · exact fetch_D_list hA hf hke hh hd hu B F X T N m1 m2 m3 hot hlo m7 ret
  · exact fetch_R_list hA hf hke hh hd hu B F X T N m1 m2 m3 hot hlo m7 hv ret
end
/-- the states told by a dict -/
def StIn (prog : Program) (w : World) (os : Obj) (σ : Nat → Bool) : Prop := ∃ skv : List (Int × Value), os.IsDictOf (intKind prog w) skv ∧ ∀ i : Nat, i < 4 → (valueAt skv ((i : Int) + 1)).getD (.bool true) = .bool (σ i)
/-- what a call of expression_state does -/
def EvalSpec (prog : Program) (w : World) (p : Program) (loose : List Str) (mean : ExcName → Option Value) (mg mb : Str → Option Value) (d : Nat) : Prop :=
  ∀ (A A₀ : Around) (env : Env) (outer : List Env) (base h₀ : Heap) (L : Addr) (m : Str → Option Value) (s : Shared) (Q E : Value → Shared → Prop)
    (W : LL) (sh dsh tb tr st : Addr) (ot os : Obj) (t1 t2 : Tok) (kvs : List (Int × Value)) (rs : List Value) (σ : Nat → Bool) (v : Value) (P : Pl) (e : Int) (etk : Tok),
    A.frames = some (env :: outer) → env.frame = some L → env.scope.kind = .function → A.handled = none → A.depth + 130 + d < recursionLimit → A.units + 130 + 6 * d < cLine →
    Below A₀ base outer h₀ → Fr h₀ L s.heap m → (K w.params).In h₀ → Top p loose mean mg mb h₀ → News h₀ L s.heap W →
    (sh, instObj 363 dsh) ∈ W → (dsh, dictOf [{ hash := PyData.keyHash w.params (Str.ofString "table"), key := .str (Str.ofString "table") t1, val := .ref tb },
      { hash := PyData.keyHash w.params (Str.ofString "trailer"), key := .str (Str.ofString "trailer") t2, val := .ref tr }] 2) ∈ W → (tb, ot) ∈ W → ot.IsDictOf (intKind prog w) kvs → (tb == sysModules) = false →
    (st, os) ∈ W → StIn prog w os σ → (st == sysModules) = false → Rows' kvs W rs → (∀ i : Nat, i < 4 → ∃ x, rs[i]? = some (.ref x) ∧ GroupIn prog w W x) →
    Wf 4 d P → ExprIn w W rs v P → 0 ≤ e → e + d ≤ 19 →
    (∀ h' tks, Fr h₀ L h' m → News h₀ L h' W → Q (.bool (ev σ P)) { s with heap := h', toks := tks }) →
    wpAny (model prog w) A (call (.ref 385) [.ref sh, .ref st, v, .int e etk]) Q E s
theorem Via.up {w : World} {R R' : LL} {kvs : List (Int × Value)} {a x : Addr} (z : Via w R kvs a x) (h : ∀ q ∈ R, q ∈ R') : Via w R' kvs a x := z.mono h
theorem resUp {w : World} {R R' : LL} {kvs : List (Int × Value)} {a x : Addr} (z : a = x ∨ Via w R kvs a x) (h : ∀ q ∈ R, q ∈ R') : a = x ∨ Via w R' kvs a x := z.imp_right fun y => y.mono h
theorem ExprIn.up {w : World} {R R' : LL} {rs : List Value} {v : Value} {P : Pl} (z : ExprIn w R rs v P) (h : ∀ q ∈ R, q ∈ R') : ExprIn w R' rs v P := z.mono h (Pre.refl _)
/-- the call with no depth told -/
def EvalTop (prog : Program) (w : World) (p : Program) (loose : List Str) (mean : ExcName → Option Value) (mg mb : Str → Option Value) (d : Nat) : Prop :=
  ∀ (A A₀ : Around) (env : Env) (outer : List Env) (base h₀ : Heap) (L : Addr) (m : Str → Option Value) (s : Shared) (Q E : Value → Shared → Prop)
    (W : LL) (sh dsh tb tr st : Addr) (ot os : Obj) (t1 t2 : Tok) (kvs : List (Int × Value)) (rs : List Value) (σ : Nat → Bool) (v : Value) (P : Pl),
    A.frames = some (env :: outer) → env.frame = some L → env.scope.kind = .function → A.handled = none → A.depth + 130 + d < recursionLimit → A.units + 130 + 6 * d < cLine →
    Below A₀ base outer h₀ → Fr h₀ L s.heap m → (K w.params).In h₀ → Top p loose mean mg mb h₀ → News h₀ L s.heap W →
    (sh, instObj 363 dsh) ∈ W → (dsh, dictOf [{ hash := PyData.keyHash w.params (Str.ofString "table"), key := .str (Str.ofString "table") t1, val := .ref tb },
      { hash := PyData.keyHash w.params (Str.ofString "trailer"), key := .str (Str.ofString "trailer") t2, val := .ref tr }] 2) ∈ W → (tb, ot) ∈ W → ot.IsDictOf (intKind prog w) kvs → (tb == sysModules) = false →
    (st, os) ∈ W → StIn prog w os σ → (st == sysModules) = false → Rows' kvs W rs → (∀ i : Nat, i < 4 → ∃ x, rs[i]? = some (.ref x) ∧ GroupIn prog w W x) →
    Wf 4 d P → ExprIn w W rs v P → d ≤ 19 →
    (∀ h' tks, Fr h₀ L h' m → News h₀ L h' W → Q (.bool (ev σ P)) { s with heap := h', toks := tks }) →
    wpAny (model prog w) A (call (.ref 385) [.ref sh, .ref st, v]) Q E s
end
/-! ## part F3 -/
section
example : True := by (w_top off; trivial)
local macro_rules | `(tactic| walk_at "none") => `(tactic| fail)
local macro_rules | `(tactic| walk_at "exec Assign cons ListComp") => `(tactic| (k_here; k_dflt (refine LCg.Assign_ListComp_U (F₀ := by k_asm) (by rfl) (by with_unfolding_all rfl) (by with_unfolding_all rfl) (by decide) (by rfl) (by decide) (by rfl) (by rfl) (by rfl) ?_)))
def EvalArgs (w : World) (vs : List Value) (bs : List (Str × Value)) : Prop := ∀ (s : Shared) (fd : FuncData) (c : Value) (d : Option Addr) (sl : Array (Option Value)),
  (K w.params).lookup 385 = some ⟨c, d, .func fd, sl⟩ → (K w.params).In s.heap → BindsTo s fd ⟨vs, []⟩ bs
theorem evalArgs4 {w : World} {a b v x : Value} : EvalArgs w [a, b, v, x] [(Str.ofString "shelf", a), (Str.ofString "states", b), (Str.ofString "value", v), (Str.ofString "depth", x)] := by
  intro s fd c d sl h X
  conv at h => lhs; whnf
  cases h
  exact binds_K X rfl (by k_is) rfl rfl (by kernel_rfl)
theorem evalArgs3 {w : World} {a b v : Value} : EvalArgs w [a, b, v] [(Str.ofString "shelf", a), (Str.ofString "states", b), (Str.ofString "value", v), (Str.ofString "depth", .int 0 669)] := by
  intro s fd c d sl h X
  conv at h => lhs; whnf
  cases h
  exact binds_K X rfl (by k_is) rfl rfl (by kernel_rfl)
def EvalG (prog : Program) (w : World) (p : Program) (loose : List Str) (mean : ExcName → Option Value) (mg mb : Str → Option Value) (d : Nat) : Prop :=
  ∀ (A A₀ : Around) (env : Env) (outer : List Env) (base h₀ : Heap) (L : Addr) (m : Str → Option Value) (s : Shared) (Q E : Value → Shared → Prop)
    (W : LL) (sh dsh tb tr st : Addr) (ot os : Obj) (t1 t2 : Tok) (kvs : List (Int × Value)) (rs : List Value) (σ : Nat → Bool) (v : Value) (P : Pl) (e : Int) (etk : Tok) (vs : List Value),
    EvalArgs w vs [(Str.ofString "shelf", .ref sh), (Str.ofString "states", .ref st), (Str.ofString "value", v), (Str.ofString "depth", .int e etk)] → A.frames = some (env :: outer) → env.frame = some L → env.scope.kind = .function → A.handled = none → A.depth + 130 + d < recursionLimit → A.units + 130 + 6 * d < cLine →
    Below A₀ base outer h₀ → Fr h₀ L s.heap m → (K w.params).In h₀ → Top p loose mean mg mb h₀ → News h₀ L s.heap W →
    (sh, instObj 363 dsh) ∈ W → (dsh, dictOf [{ hash := PyData.keyHash w.params (Str.ofString "table"), key := .str (Str.ofString "table") t1, val := .ref tb },
      { hash := PyData.keyHash w.params (Str.ofString "trailer"), key := .str (Str.ofString "trailer") t2, val := .ref tr }] 2) ∈ W → (tb, ot) ∈ W → ot.IsDictOf (intKind prog w) kvs → (tb == sysModules) = false →
    (st, os) ∈ W → StIn prog w os σ → (st == sysModules) = false → Rows' kvs W rs → (∀ i : Nat, i < 4 → ∃ x, rs[i]? = some (.ref x) ∧ GroupIn prog w W x) →
    Wf 4 d P → ExprIn w W rs v P → 0 ≤ e → e + d ≤ 19 →
    (∀ h' tks, Fr h₀ L h' m → News h₀ L h' W → Q (.bool (ev σ P)) { s with heap := h', toks := tks }) →
    wpAny (model prog w) A (call (.ref 385) vs) Q E s
theorem eval_zero {prog : Program} {w : World} {p : Program} {loose : List Str} {mean : ExcName → Option Value} {mg mb : Str → Option Value} : EvalG prog w p loose mean mg mb 0 := by
    intro A A₀ env outer base h₀ L m s Q E W sh dsh tb tr st ot os t1 t2 kvs rs σ v P e etk vs hB hA hf hke hh hd hu B F X T N m1 m2 m3 hot hlo m4 hst hslo hrs hgr hw he e0 e1 ret
    obtain ⟨hd', dp, fr, gd, un⟩ := A
    dsimp only at hA hh hd hu
    subst hA hh
    obtain ⟨skv, hsk, hσ⟩ := hst
    refine wpAny_call ?_
    k_dflt (refine' code_defC B F X N T rfl hf hke ?k6 ?k7 ?k8 ?k9 ?kB ?kD ?_ ?c2 ?c3 ?c4; (case k6 => k_is); (case k7 => k_is); (case k8 => (simp only [recursionLimit] at *; omega)); (case k9 => exact hB _ _ _ _ _ rfl (by k_in)); (case kB => exact rfl); (case kD => decide +kernel); (case c2 => exact rfl); (case c3 => exact rfl); (case c4 => exact rfl))
    k_dflt (intro g' L' h' tk' cells' FG' F' N' Y' B' X' T' l1; (have l0 := l1); (try k_lt l1); k_cells Y'; (try simp only [List.cons_append, List.nil_append] at N'); (try dsimp only))
    try (have S' := S.keeps FG'.keep; clear S)
    clear N F X T B
    cases P with
    | op wd ps => (exfalso; simp only [Wf] at hw)
    | g i =>
      have hi : i < 4 := by simpa only [Wf] using hw
      obtain ⟨x, hx, nm, dn, od, u7, u8, g1, g2, g3, g4, g5⟩ := hgr i hi
      simp only [ExprIn] at he
      obtain ⟨a, dx, r1, r2, r3, r4, rfl, q1, q2⟩ := he
      have hvia := via_of (w := w) ⟨a, dx, r1, r2, r3, r4, rfl, q1, q2⟩ hx hrs
      have hσi := hσ i hi
      simp only [ev] at ret
      k_unmd
      k_fold
      repeat' ((fail_if_success (with_reducible show LCg.CompSrc _ _ _ _ _ _ _ _ _ _ _ _ _ _)); (fail_if_success (with_reducible show LeaveK h₀ L m _ _ _ _)); (fail_if_success (with_reducible show Exists _)); first | ((with_reducible show wpAny _ _ (compareOp CmpOp.NotIn (Value.bool _) (Value.ref _)) _ _ _); k_here; k_dflt (refine' notin_bools ?N ?m ?_; (case N => k_asm); (case m => k_mem))) | ((with_reducible show wpAny _ _ (compareOp CmpOp.In (Value.bool _) (Value.ref _)) _ _ _); k_here; k_dflt (refine' in_bools ?N ?m ?_; (case N => k_asm); (case m => k_mem))) | ((with_reducible show wpAny _ _ (call (Value.builtin "len") [Value.ref _]) _ _ _); k_here; k_dflt (refine' len_N ?N ?m ?f ?_; (case N => k_asm); (case m => k_mem); (case f => (simp only [List.length_cons, List.length_map]; omega))); intro t9z t8z; (try simp only [List.length_cons, List.length_map, List.length_nil])) | ((with_reducible show wpAny _ _ (subscriptTail _ (PySem.Expr.Slice _ _ none _) (Value.ref _) (Value.ref _)) _ _ _); k_here; k_dflt (refine' slice_tailN ?F ?N ?m ?c ?_ ?s ?t; (case F | N => k_asm); (case m => k_mem); (case c => omega); (case s => with_unfolding_all rfl); (case t => (intro _; with_unfolding_all rfl))); intro Dz hz Fz Nz l1z; (try k_lt l1z)) | ((with_reducible show wpAny _ _ (call (Value.builtin "dict.get") [Value.ref _, Value.int _ _, _]) _ _ _); k_here; k_dflt (refine get2_getD (knd := PySem.intKind _ _) (by k_asm) (by k_mem) (by assumption) (by assumption) (intKind_is _ _ _ _) (by assumption) ?_)) | ((with_reducible show wpAny _ _ (getMethod (Value.ref _) (Str.ofString "get") _) _ _ _); k_here; k_dflt (refine kdg_method (knd := PySem.intKind _ _) (by k_asm) (by k_mem) (by assumption) ?_)) | ((with_reducible show wpAny _ _ (call (Value.ref 385) [_, _, _, Value.int _ _]) _ _ _); k_here; k_dflt (refine' ih _ _ _ _ _ _ _ _ _ _ _ _ sh dsh tb tr st ot os t1 t2 kvs rs σ _ P _ _ rfl rfl rfl rfl ?hd ?hu ?B ?F ?X ?T ?N ?m1 ?m2 ?m3 ?hot ?hlo ?m4 ?hst ?hslo ?hrs ?hgr ?hw ?he ?e0 ?e1 ?_; (case hd => ktr_room); (case hu => ktr_units); (case B | F | X | T | N => k_asm); (case m1 | m2 | m3 => k_mem); (case hot | hlo => assumption); (case m4 => k_mem); (case hst | hslo => assumption); (case hrs => exact Rows'.mono (by intro p9 h9; repeat (first | exact h9 | apply List.Mem.tail)) hrs); (case hgr => exact fun i hi => let ⟨x, e, g⟩ := hgr i hi; ⟨x, e, g.mono (by intro p9 h9; repeat (first | exact h9 | apply List.Mem.tail))⟩); (case hw => assumption); (case he => exact ExprIn.up (by assumption) (by intro p9 h9; repeat (first | exact h9 | apply List.Mem.tail))); (case e0 | e1 => omega)); intro h9 tk9 F9 N9) | ((with_reducible show wpAny _ _ (call (Value.ref 379) [_, _]) _ _ _); k_here; k_dflt (first | (refine' isgrp_list rfl rfl rfl rfl ?hd ?hu ?B ?F ?X ?T ?N ?m1 ?m2 ?m3 ?hot ?hlo ?m7 ?hres ?_; (case hd => ktr_room); (case hu => ktr_units); (case B | F | X | T | N => k_asm); (case m1 | m2 | m3 => k_mem); (case hot | hlo => assumption); (case hres => first | exact resUp (by assumption) (by intro p9z h9z; repeat (first | exact h9z | apply List.Mem.tail)) | exact .inl rfl); (case m7 => k_mem); intro h9z tk9z F9z N9z) | (refine' isgrp_R_grp rfl rfl rfl rfl ?hd ?hu ?B ?F ?X ?T ?N ?m1 ?m2 ?m3 ?hot ?hlo ?m7 ?m8 ?hx ?m9 ?m10 ?hvia ?_; (case hd => ktr_room); (case hu => ktr_units); (case B | F | X | T | N => k_asm); (case m1 | m2 | m3 => k_mem); (case hot | hlo => assumption); (case hvia => exact Via.up (by assumption) (by intro p9z h9z; repeat (first | exact h9z | apply List.Mem.tail))); (case m7 => k_mem); (case m8 | hx => assumption); (case m9 | m10 => k_mem); intro h9z tk9z F9z N9z))) | ((with_reducible show wpAny _ _ (call (Value.ref 299) [_, _]) _ _ _); k_here; k_dflt (first | (refine' fetch_list rfl rfl rfl rfl ?hd ?hu ?B ?F ?X ?T ?N ?m1 ?m2 ?m3 ?hot ?hlo ?m7 ?hres ?_; (case hd => ktr_room); (case hu => ktr_units); (case B | F | X | T | N => k_asm); (case m1 | m2 | m3 => k_mem); (case hot | hlo => assumption); (case hres => first | exact resUp (by assumption) (by intro p9z h9z; repeat (first | exact h9z | apply List.Mem.tail)) | exact .inl rfl); (case m7 => k_mem); intro h9z tk9z F9z N9z) | (refine' fetch_D_name rfl rfl rfl rfl ?hd ?hu ?B ?F ?X ?T ?N ?m1 ?m2 ?m3 ?hot ?hlo ?m7 ?m8 ?_; (case hd => ktr_room); (case hu => ktr_units); (case B | F | X | T | N => k_asm); (case m1 | m2 | m3 => k_mem); (case hot | hlo => assumption); (case m7 | m8 => k_mem); intro h9z tk9z F9z N9z))) | (k_unfold; (try dsimp only)) | (k_end; wrow_close) | walk1 | (dsimp only; walk1) | (leave1; walk_say "STEP leave1"; try dsimp only) | fail "no step")
      k_dflt (refine' leaveK_ ?k1 ?k2 ?_; (case k1 => k_asm); (case k2 => k_asm))
      intro kF kN
      exact ret _ _ kF (fun q h => kN q (by repeat (first | exact h | apply List.Mem.tail)))
theorem eval_succ {prog : Program} {w : World} {p : Program} {loose : List Str} {mean : ExcName → Option Value} {mg mb : Str → Option Value} {d : Nat} (ih : EvalSpec prog w p loose mean mg mb d) : EvalG prog w p loose mean mg mb (d + 1) := by
    intro A A₀ env outer base h₀ L m s Q E W sh dsh tb tr st ot os t1 t2 kvs rs σ v P e etk vs hB hA hf hke hh hd hu B F X T N m1 m2 m3 hot hlo m4 hst hslo hrs hgr hw he e0 e1 ret
    obtain ⟨hd', dp, fr, gd, un⟩ := A
    dsimp only at hA hh hd hu
    subst hA hh
    obtain ⟨skv, hsk, hσ⟩ := hst
    have hst : StIn prog w os σ := ⟨skv, hsk, hσ⟩
    refine wpAny_call ?_
    k_dflt (refine' code_defC B F X N T rfl hf hke ?k6 ?k7 ?k8 ?k9 ?kB ?kD ?_ ?c2 ?c3 ?c4; (case k6 => k_is); (case k7 => k_is); (case k8 => (simp only [recursionLimit] at *; omega)); (case k9 => exact hB _ _ _ _ _ rfl (by k_in)); (case kB => exact rfl); (case kD => decide +kernel); (case c2 => exact rfl); (case c3 => exact rfl); (case c4 => exact rfl))
    k_dflt (intro g' L' h' tk' cells' FG' F' N' Y' B' X' T' l1; (have l0 := l1); (try k_lt l1); k_cells Y'; (try simp only [List.cons_append, List.nil_append] at N'); (try dsimp only))
    try (have S' := S.keeps FG'.keep; clear S)
    clear N F X T B
    cases P with
    | g i =>
      have hi : i < 4 := by simpa only [Wf] using hw
      obtain ⟨x, hx, nm, dn, od, u7, u8, g1, g2, g3, g4, g5⟩ := hgr i hi
      simp only [ExprIn] at he
      obtain ⟨a, dx, r1, r2, r3, r4, rfl, q1, q2⟩ := he
      have hvia := via_of (w := w) ⟨a, dx, r1, r2, r3, r4, rfl, q1, q2⟩ hx hrs
      have hσi := hσ i hi
      simp only [ev] at ret
      k_unmd
      k_fold
      repeat' ((fail_if_success (with_reducible show LCg.CompSrc _ _ _ _ _ _ _ _ _ _ _ _ _ _)); (fail_if_success (with_reducible show LeaveK h₀ L m _ _ _ _)); (fail_if_success (with_reducible show Exists _)); first | ((with_reducible show wpAny _ _ (compareOp CmpOp.NotIn (Value.bool _) (Value.ref _)) _ _ _); k_here; k_dflt (refine' notin_bools ?N ?m ?_; (case N => k_asm); (case m => k_mem))) | ((with_reducible show wpAny _ _ (compareOp CmpOp.In (Value.bool _) (Value.ref _)) _ _ _); k_here; k_dflt (refine' in_bools ?N ?m ?_; (case N => k_asm); (case m => k_mem))) | ((with_reducible show wpAny _ _ (call (Value.builtin "len") [Value.ref _]) _ _ _); k_here; k_dflt (refine' len_N ?N ?m ?f ?_; (case N => k_asm); (case m => k_mem); (case f => (simp only [List.length_cons, List.length_map]; omega))); intro t9z t8z; (try simp only [List.length_cons, List.length_map, List.length_nil])) | ((with_reducible show wpAny _ _ (subscriptTail _ (PySem.Expr.Slice _ _ none _) (Value.ref _) (Value.ref _)) _ _ _); k_here; k_dflt (refine' slice_tailN ?F ?N ?m ?c ?_ ?s ?t; (case F | N => k_asm); (case m => k_mem); (case c => omega); (case s => with_unfolding_all rfl); (case t => (intro _; with_unfolding_all rfl))); intro Dz hz Fz Nz l1z; (try k_lt l1z)) | ((with_reducible show wpAny _ _ (call (Value.builtin "dict.get") [Value.ref _, Value.int _ _, _]) _ _ _); k_here; k_dflt (refine get2_getD (knd := PySem.intKind _ _) (by k_asm) (by k_mem) (by assumption) (by assumption) (intKind_is _ _ _ _) (by assumption) ?_)) | ((with_reducible show wpAny _ _ (getMethod (Value.ref _) (Str.ofString "get") _) _ _ _); k_here; k_dflt (refine kdg_method (knd := PySem.intKind _ _) (by k_asm) (by k_mem) (by assumption) ?_)) | ((with_reducible show wpAny _ _ (call (Value.ref 385) [_, _, _, Value.int _ _]) _ _ _); k_here; k_dflt (refine' ih _ _ _ _ _ _ _ _ _ _ _ _ sh dsh tb tr st ot os t1 t2 kvs rs σ _ P _ _ rfl rfl rfl rfl ?hd ?hu ?B ?F ?X ?T ?N ?m1 ?m2 ?m3 ?hot ?hlo ?m4 ?hst ?hslo ?hrs ?hgr ?hw ?he ?e0 ?e1 ?_; (case hd => ktr_room); (case hu => ktr_units); (case B | F | X | T | N => k_asm); (case m1 | m2 | m3 => k_mem); (case hot | hlo => assumption); (case m4 => k_mem); (case hst | hslo => assumption); (case hrs => exact Rows'.mono (by intro p9 h9; repeat (first | exact h9 | apply List.Mem.tail)) hrs); (case hgr => exact fun i hi => let ⟨x, e, g⟩ := hgr i hi; ⟨x, e, g.mono (by intro p9 h9; repeat (first | exact h9 | apply List.Mem.tail))⟩); (case hw => assumption); (case he => exact ExprIn.up (by assumption) (by intro p9 h9; repeat (first | exact h9 | apply List.Mem.tail))); (case e0 | e1 => omega)); intro h9 tk9 F9 N9) | ((with_reducible show wpAny _ _ (call (Value.ref 379) [_, _]) _ _ _); k_here; k_dflt (first | (refine' isgrp_list rfl rfl rfl rfl ?hd ?hu ?B ?F ?X ?T ?N ?m1 ?m2 ?m3 ?hot ?hlo ?m7 ?hres ?_; (case hd => ktr_room); (case hu => ktr_units); (case B | F | X | T | N => k_asm); (case m1 | m2 | m3 => k_mem); (case hot | hlo => assumption); (case hres => first | exact resUp (by assumption) (by intro p9z h9z; repeat (first | exact h9z | apply List.Mem.tail)) | exact .inl rfl); (case m7 => k_mem); intro h9z tk9z F9z N9z) | (refine' isgrp_R_grp rfl rfl rfl rfl ?hd ?hu ?B ?F ?X ?T ?N ?m1 ?m2 ?m3 ?hot ?hlo ?m7 ?m8 ?hx ?m9 ?m10 ?hvia ?_; (case hd => ktr_room); (case hu => ktr_units); (case B | F | X | T | N => k_asm); (case m1 | m2 | m3 => k_mem); (case hot | hlo => assumption); (case hvia => exact Via.up (by assumption) (by intro p9z h9z; repeat (first | exact h9z | apply List.Mem.tail))); (case m7 => k_mem); (case m8 | hx => assumption); (case m9 | m10 => k_mem); intro h9z tk9z F9z N9z))) | ((with_reducible show wpAny _ _ (call (Value.ref 299) [_, _]) _ _ _); k_here; k_dflt (first | (refine' fetch_list rfl rfl rfl rfl ?hd ?hu ?B ?F ?X ?T ?N ?m1 ?m2 ?m3 ?hot ?hlo ?m7 ?hres ?_; (case hd => ktr_room); (case hu => ktr_units); (case B | F | X | T | N => k_asm); (case m1 | m2 | m3 => k_mem); (case hot | hlo => assumption); (case hres => first | exact resUp (by assumption) (by intro p9z h9z; repeat (first | exact h9z | apply List.Mem.tail)) | exact .inl rfl); (case m7 => k_mem); intro h9z tk9z F9z N9z) | (refine' fetch_D_name rfl rfl rfl rfl ?hd ?hu ?B ?F ?X ?T ?N ?m1 ?m2 ?m3 ?hot ?hlo ?m7 ?m8 ?_; (case hd => ktr_room); (case hu => ktr_units); (case B | F | X | T | N => k_asm); (case m1 | m2 | m3 => k_mem); (case hot | hlo => assumption); (case m7 | m8 => k_mem); intro h9z tk9z F9z N9z))) | (k_unfold; (try dsimp only)) | (k_end; wrow_close) | walk1 | (dsimp only; walk1) | (leave1; walk_say "STEP leave1"; try dsimp only) | fail "no step")
      k_dflt (refine' leaveK_ ?k1 ?k2 ?_; (case k1 => k_asm); (case k2 => k_asm))
      intro kF kN
      exact ret _ _ kF (fun q h => kN q (by repeat (first | exact h | apply List.Mem.tail)))
    | op wd ps =>
      simp only [ExprIn] at he
      obtain ⟨l, nm, ws, n, hl, ⟨na, ndx, u1, u2, rfl, nm1, nm2⟩, hps, hv⟩ := he
      simp only [Wf] at hw
      obtain ⟨hw1, hw2, hw3, hw4⟩ := hw
      have hlen := hps.len
      obtain ⟨a, rfl, hres⟩ : ∃ a, v = .ref a ∧ (a = l ∨ Via w W kvs a l) := by
        rcases hv with rfl | ⟨j, hr, hj⟩
        · exact ⟨l, rfl, .inl rfl⟩
        · have hr' := hr
          obtain ⟨a, dx, r1, r2, r3, r4, rfl, q1, q2⟩ := hr
          exact ⟨a, rfl, .inr (via_of hr' hj hrs)⟩
      cases wd with
      | and =>
        rw [ev_and] at ret
        k_unmd
        k_fold
        repeat' ((fail_if_success (with_reducible show LCg.CompSrc _ _ _ _ _ _ _ _ _ _ _ _ _ _)); (fail_if_success (with_reducible show LeaveK h₀ L m _ _ _ _)); (fail_if_success (with_reducible show Exists _)); first | ((with_reducible show wpAny _ _ (compareOp CmpOp.NotIn (Value.bool _) (Value.ref _)) _ _ _); k_here; k_dflt (refine' notin_bools ?N ?m ?_; (case N => k_asm); (case m => k_mem))) | ((with_reducible show wpAny _ _ (compareOp CmpOp.In (Value.bool _) (Value.ref _)) _ _ _); k_here; k_dflt (refine' in_bools ?N ?m ?_; (case N => k_asm); (case m => k_mem))) | ((with_reducible show wpAny _ _ (call (Value.builtin "len") [Value.ref _]) _ _ _); k_here; k_dflt (refine' len_N ?N ?m ?f ?_; (case N => k_asm); (case m => k_mem); (case f => (simp only [List.length_cons, List.length_map]; omega))); intro t9z t8z; (try simp only [List.length_cons, List.length_map, List.length_nil])) | ((with_reducible show wpAny _ _ (subscriptTail _ (PySem.Expr.Slice _ _ none _) (Value.ref _) (Value.ref _)) _ _ _); k_here; k_dflt (refine' slice_tailN ?F ?N ?m ?c ?_ ?s ?t; (case F | N => k_asm); (case m => k_mem); (case c => omega); (case s => with_unfolding_all rfl); (case t => (intro _; with_unfolding_all rfl))); intro Dz hz Fz Nz l1z; (try k_lt l1z)) | ((with_reducible show wpAny _ _ (call (Value.builtin "dict.get") [Value.ref _, Value.int _ _, _]) _ _ _); k_here; k_dflt (refine get2_getD (knd := PySem.intKind _ _) (by k_asm) (by k_mem) (by assumption) (by assumption) (intKind_is _ _ _ _) (by assumption) ?_)) | ((with_reducible show wpAny _ _ (getMethod (Value.ref _) (Str.ofString "get") _) _ _ _); k_here; k_dflt (refine kdg_method (knd := PySem.intKind _ _) (by k_asm) (by k_mem) (by assumption) ?_)) | ((with_reducible show wpAny _ _ (call (Value.ref 385) [_, _, _, Value.int _ _]) _ _ _); k_here; k_dflt (refine' ih _ _ _ _ _ _ _ _ _ _ _ _ sh dsh tb tr st ot os t1 t2 kvs rs σ _ P _ _ rfl rfl rfl rfl ?hd ?hu ?B ?F ?X ?T ?N ?m1 ?m2 ?m3 ?hot ?hlo ?m4 ?hst ?hslo ?hrs ?hgr ?hw ?he ?e0 ?e1 ?_; (case hd => ktr_room); (case hu => ktr_units); (case B | F | X | T | N => k_asm); (case m1 | m2 | m3 => k_mem); (case hot | hlo => assumption); (case m4 => k_mem); (case hst | hslo => assumption); (case hrs => exact Rows'.mono (by intro p9 h9; repeat (first | exact h9 | apply List.Mem.tail)) hrs); (case hgr => exact fun i hi => let ⟨x, e, g⟩ := hgr i hi; ⟨x, e, g.mono (by intro p9 h9; repeat (first | exact h9 | apply List.Mem.tail))⟩); (case hw => assumption); (case he => exact ExprIn.up (by assumption) (by intro p9 h9; repeat (first | exact h9 | apply List.Mem.tail))); (case e0 | e1 => omega)); intro h9 tk9 F9 N9) | ((with_reducible show wpAny _ _ (call (Value.ref 379) [_, _]) _ _ _); k_here; k_dflt (first | (refine' isgrp_list rfl rfl rfl rfl ?hd ?hu ?B ?F ?X ?T ?N ?m1 ?m2 ?m3 ?hot ?hlo ?m7 ?hres ?_; (case hd => ktr_room); (case hu => ktr_units); (case B | F | X | T | N => k_asm); (case m1 | m2 | m3 => k_mem); (case hot | hlo => assumption); (case hres => first | exact resUp (by assumption) (by intro p9z h9z; repeat (first | exact h9z | apply List.Mem.tail)) | exact .inl rfl); (case m7 => k_mem); intro h9z tk9z F9z N9z) | (refine' isgrp_R_grp rfl rfl rfl rfl ?hd ?hu ?B ?F ?X ?T ?N ?m1 ?m2 ?m3 ?hot ?hlo ?m7 ?m8 ?hx ?m9 ?m10 ?hvia ?_; (case hd => ktr_room); (case hu => ktr_units); (case B | F | X | T | N => k_asm); (case m1 | m2 | m3 => k_mem); (case hot | hlo => assumption); (case hvia => exact Via.up (by assumption) (by intro p9z h9z; repeat (first | exact h9z | apply List.Mem.tail))); (case m7 => k_mem); (case m8 | hx => assumption); (case m9 | m10 => k_mem); intro h9z tk9z F9z N9z))) | ((with_reducible show wpAny _ _ (call (Value.ref 299) [_, _]) _ _ _); k_here; k_dflt (first | (refine' fetch_list rfl rfl rfl rfl ?hd ?hu ?B ?F ?X ?T ?N ?m1 ?m2 ?m3 ?hot ?hlo ?m7 ?hres ?_; (case hd => ktr_room); (case hu => ktr_units); (case B | F | X | T | N => k_asm); (case m1 | m2 | m3 => k_mem); (case hot | hlo => assumption); (case hres => first | exact resUp (by assumption) (by intro p9z h9z; repeat (first | exact h9z | apply List.Mem.tail)) | exact .inl rfl); (case m7 => k_mem); intro h9z tk9z F9z N9z) | (refine' fetch_D_name rfl rfl rfl rfl ?hd ?hu ?B ?F ?X ?T ?N ?m1 ?m2 ?m3 ?hot ?hlo ?m7 ?m8 ?_; (case hd => ktr_room); (case hu => ktr_units); (case B | F | X | T | N => k_asm); (case m1 | m2 | m3 => k_mem); (case hot | hlo => assumption); (case m7 | m8 => k_mem); intro h9z tk9z F9z N9z))) | (k_unfold; (try dsimp only)) | (k_end; wrow_close) | walk1 | (dsimp only; walk1) | (leave1; walk_say "STEP leave1"; try dsimp only) | fail "no step")
        refine LCg.CompSrc.ledger (by rfl) (by k_asm) (by k_asm) (by k_mem) (Nat.le_trans (show List.length _ ≤ 4 by (first | omega | (simp only [List.length_cons, List.length_nil]; omega))) (by decide)) fun g9 => ?_
        k_dflt (refine ev_comp ws ps (ev σ) (by k_mem) hps ?step ?fin)
        case step =>
          intro v P ys It oI Ct oC Dt m₂ h tk9 E' hPm hpv hNs hx F9 N9 off ne
          have hw9 := Wfs.mem hw4 hPm
          simp only [LCg.Off3] at off
          k_unmd
          repeat' ((fail_if_success (with_reducible show LCg.CompSrc _ _ _ _ _ _ _ _ _ _ _ _ _ _)); (fail_if_success (with_reducible show LeaveK h₀ L m _ _ _ _)); (fail_if_success (with_reducible show Exists _)); first | ((with_reducible show wpAny _ _ (compareOp CmpOp.NotIn (Value.bool _) (Value.ref _)) _ _ _); k_here; k_dflt (refine' notin_bools ?N ?m ?_; (case N => k_asm); (case m => k_mem))) | ((with_reducible show wpAny _ _ (compareOp CmpOp.In (Value.bool _) (Value.ref _)) _ _ _); k_here; k_dflt (refine' in_bools ?N ?m ?_; (case N => k_asm); (case m => k_mem))) | ((with_reducible show wpAny _ _ (call (Value.builtin "len") [Value.ref _]) _ _ _); k_here; k_dflt (refine' len_N ?N ?m ?f ?_; (case N => k_asm); (case m => k_mem); (case f => (simp only [List.length_cons, List.length_map]; omega))); intro t9z t8z; (try simp only [List.length_cons, List.length_map, List.length_nil])) | ((with_reducible show wpAny _ _ (subscriptTail _ (PySem.Expr.Slice _ _ none _) (Value.ref _) (Value.ref _)) _ _ _); k_here; k_dflt (refine' slice_tailN ?F ?N ?m ?c ?_ ?s ?t; (case F | N => k_asm); (case m => k_mem); (case c => omega); (case s => with_unfolding_all rfl); (case t => (intro _; with_unfolding_all rfl))); intro Dz hz Fz Nz l1z; (try k_lt l1z)) | ((with_reducible show wpAny _ _ (call (Value.builtin "dict.get") [Value.ref _, Value.int _ _, _]) _ _ _); k_here; k_dflt (refine get2_getD (knd := PySem.intKind _ _) (by k_asm) (by k_mem) (by assumption) (by assumption) (intKind_is _ _ _ _) (by assumption) ?_)) | ((with_reducible show wpAny _ _ (getMethod (Value.ref _) (Str.ofString "get") _) _ _ _); k_here; k_dflt (refine kdg_method (knd := PySem.intKind _ _) (by k_asm) (by k_mem) (by assumption) ?_)) | ((with_reducible show wpAny _ _ (call (Value.ref 385) [_, _, _, Value.int _ _]) _ _ _); k_here; k_dflt (refine' ih _ _ _ _ _ _ _ _ _ _ _ _ sh dsh tb tr st ot os t1 t2 kvs rs σ _ P _ _ rfl rfl rfl rfl ?hd ?hu ?B ?F ?X ?T ?N ?m1 ?m2 ?m3 ?hot ?hlo ?m4 ?hst ?hslo ?hrs ?hgr ?hw ?he ?e0 ?e1 ?_; (case hd => ktr_room); (case hu => ktr_units); (case B | F | X | T | N => k_asm); (case m1 | m2 | m3 => k_mem); (case hot | hlo => assumption); (case m4 => k_mem); (case hst | hslo => assumption); (case hrs => exact Rows'.mono (by intro p9 h9; repeat (first | exact h9 | apply List.Mem.tail)) hrs); (case hgr => exact fun i hi => let ⟨x, e, g⟩ := hgr i hi; ⟨x, e, g.mono (by intro p9 h9; repeat (first | exact h9 | apply List.Mem.tail))⟩); (case hw => assumption); (case he => exact ExprIn.up (by assumption) (by intro p9 h9; repeat (first | exact h9 | apply List.Mem.tail))); (case e0 | e1 => omega)); intro h9 tk9 F9 N9) | ((with_reducible show wpAny _ _ (call (Value.ref 379) [_, _]) _ _ _); k_here; k_dflt (first | (refine' isgrp_list rfl rfl rfl rfl ?hd ?hu ?B ?F ?X ?T ?N ?m1 ?m2 ?m3 ?hot ?hlo ?m7 ?hres ?_; (case hd => ktr_room); (case hu => ktr_units); (case B | F | X | T | N => k_asm); (case m1 | m2 | m3 => k_mem); (case hot | hlo => assumption); (case hres => first | exact resUp (by assumption) (by intro p9z h9z; repeat (first | exact h9z | apply List.Mem.tail)) | exact .inl rfl); (case m7 => k_mem); intro h9z tk9z F9z N9z) | (refine' isgrp_R_grp rfl rfl rfl rfl ?hd ?hu ?B ?F ?X ?T ?N ?m1 ?m2 ?m3 ?hot ?hlo ?m7 ?m8 ?hx ?m9 ?m10 ?hvia ?_; (case hd => ktr_room); (case hu => ktr_units); (case B | F | X | T | N => k_asm); (case m1 | m2 | m3 => k_mem); (case hot | hlo => assumption); (case hvia => exact Via.up (by assumption) (by intro p9z h9z; repeat (first | exact h9z | apply List.Mem.tail))); (case m7 => k_mem); (case m8 | hx => assumption); (case m9 | m10 => k_mem); intro h9z tk9z F9z N9z))) | ((with_reducible show wpAny _ _ (call (Value.ref 299) [_, _]) _ _ _); k_here; k_dflt (first | (refine' fetch_list rfl rfl rfl rfl ?hd ?hu ?B ?F ?X ?T ?N ?m1 ?m2 ?m3 ?hot ?hlo ?m7 ?hres ?_; (case hd => ktr_room); (case hu => ktr_units); (case B | F | X | T | N => k_asm); (case m1 | m2 | m3 => k_mem); (case hot | hlo => assumption); (case hres => first | exact resUp (by assumption) (by intro p9z h9z; repeat (first | exact h9z | apply List.Mem.tail)) | exact .inl rfl); (case m7 => k_mem); intro h9z tk9z F9z N9z) | (refine' fetch_D_name rfl rfl rfl rfl ?hd ?hu ?B ?F ?X ?T ?N ?m1 ?m2 ?m3 ?hot ?hlo ?m7 ?m8 ?_; (case hd => ktr_room); (case hu => ktr_units); (case B | F | X | T | N => k_asm); (case m1 | m2 | m3 => k_mem); (case hot | hlo => assumption); (case m7 | m8 => k_mem); intro h9z tk9z F9z N9z))) | (k_unfold; (try dsimp only)) | (k_end; wrow_close) | walk1 | (dsimp only; walk1) | (leave1; walk_say "STEP leave1"; try dsimp only) | fail "no step")
          exact ⟨_, _, rfl, rfl, by assumption, by assumption⟩
        case fin =>
          intro D9 h9 tk9 F9 N9 o9
          simp only [LCg.Off1] at o9
          k_unmd
          repeat' ((fail_if_success (with_reducible show LCg.CompSrc _ _ _ _ _ _ _ _ _ _ _ _ _ _)); (fail_if_success (with_reducible show LeaveK h₀ L m _ _ _ _)); (fail_if_success (with_reducible show Exists _)); first | ((with_reducible show wpAny _ _ (compareOp CmpOp.NotIn (Value.bool _) (Value.ref _)) _ _ _); k_here; k_dflt (refine' notin_bools ?N ?m ?_; (case N => k_asm); (case m => k_mem))) | ((with_reducible show wpAny _ _ (compareOp CmpOp.In (Value.bool _) (Value.ref _)) _ _ _); k_here; k_dflt (refine' in_bools ?N ?m ?_; (case N => k_asm); (case m => k_mem))) | ((with_reducible show wpAny _ _ (call (Value.builtin "len") [Value.ref _]) _ _ _); k_here; k_dflt (refine' len_N ?N ?m ?f ?_; (case N => k_asm); (case m => k_mem); (case f => (simp only [List.length_cons, List.length_map]; omega))); intro t9z t8z; (try simp only [List.length_cons, List.length_map, List.length_nil])) | ((with_reducible show wpAny _ _ (subscriptTail _ (PySem.Expr.Slice _ _ none _) (Value.ref _) (Value.ref _)) _ _ _); k_here; k_dflt (refine' slice_tailN ?F ?N ?m ?c ?_ ?s ?t; (case F | N => k_asm); (case m => k_mem); (case c => omega); (case s => with_unfolding_all rfl); (case t => (intro _; with_unfolding_all rfl))); intro Dz hz Fz Nz l1z; (try k_lt l1z)) | ((with_reducible show wpAny _ _ (call (Value.builtin "dict.get") [Value.ref _, Value.int _ _, _]) _ _ _); k_here; k_dflt (refine get2_getD (knd := PySem.intKind _ _) (by k_asm) (by k_mem) (by assumption) (by assumption) (intKind_is _ _ _ _) (by assumption) ?_)) | ((with_reducible show wpAny _ _ (getMethod (Value.ref _) (Str.ofString "get") _) _ _ _); k_here; k_dflt (refine kdg_method (knd := PySem.intKind _ _) (by k_asm) (by k_mem) (by assumption) ?_)) | ((with_reducible show wpAny _ _ (call (Value.ref 385) [_, _, _, Value.int _ _]) _ _ _); k_here; k_dflt (refine' ih _ _ _ _ _ _ _ _ _ _ _ _ sh dsh tb tr st ot os t1 t2 kvs rs σ _ P _ _ rfl rfl rfl rfl ?hd ?hu ?B ?F ?X ?T ?N ?m1 ?m2 ?m3 ?hot ?hlo ?m4 ?hst ?hslo ?hrs ?hgr ?hw ?he ?e0 ?e1 ?_; (case hd => ktr_room); (case hu => ktr_units); (case B | F | X | T | N => k_asm); (case m1 | m2 | m3 => k_mem); (case hot | hlo => assumption); (case m4 => k_mem); (case hst | hslo => assumption); (case hrs => exact Rows'.mono (by intro p9 h9; repeat (first | exact h9 | apply List.Mem.tail)) hrs); (case hgr => exact fun i hi => let ⟨x, e, g⟩ := hgr i hi; ⟨x, e, g.mono (by intro p9 h9; repeat (first | exact h9 | apply List.Mem.tail))⟩); (case hw => assumption); (case he => exact ExprIn.up (by assumption) (by intro p9 h9; repeat (first | exact h9 | apply List.Mem.tail))); (case e0 | e1 => omega)); intro h9 tk9 F9 N9) | ((with_reducible show wpAny _ _ (call (Value.ref 379) [_, _]) _ _ _); k_here; k_dflt (first | (refine' isgrp_list rfl rfl rfl rfl ?hd ?hu ?B ?F ?X ?T ?N ?m1 ?m2 ?m3 ?hot ?hlo ?m7 ?hres ?_; (case hd => ktr_room); (case hu => ktr_units); (case B | F | X | T | N => k_asm); (case m1 | m2 | m3 => k_mem); (case hot | hlo => assumption); (case hres => first | exact resUp (by assumption) (by intro p9z h9z; repeat (first | exact h9z | apply List.Mem.tail)) | exact .inl rfl); (case m7 => k_mem); intro h9z tk9z F9z N9z) | (refine' isgrp_R_grp rfl rfl rfl rfl ?hd ?hu ?B ?F ?X ?T ?N ?m1 ?m2 ?m3 ?hot ?hlo ?m7 ?m8 ?hx ?m9 ?m10 ?hvia ?_; (case hd => ktr_room); (case hu => ktr_units); (case B | F | X | T | N => k_asm); (case m1 | m2 | m3 => k_mem); (case hot | hlo => assumption); (case hvia => exact Via.up (by assumption) (by intro p9z h9z; repeat (first | exact h9z | apply List.Mem.tail))); (case m7 => k_mem); (case m8 | hx => assumption); (case m9 | m10 => k_mem); intro h9z tk9z F9z N9z))) | ((with_reducible show wpAny _ _ (call (Value.ref 299) [_, _]) _ _ _); k_here; k_dflt (first | (refine' fetch_list rfl rfl rfl rfl ?hd ?hu ?B ?F ?X ?T ?N ?m1 ?m2 ?m3 ?hot ?hlo ?m7 ?hres ?_; (case hd => ktr_room); (case hu => ktr_units); (case B | F | X | T | N => k_asm); (case m1 | m2 | m3 => k_mem); (case hot | hlo => assumption); (case hres => first | exact resUp (by assumption) (by intro p9z h9z; repeat (first | exact h9z | apply List.Mem.tail)) | exact .inl rfl); (case m7 => k_mem); intro h9z tk9z F9z N9z) | (refine' fetch_D_name rfl rfl rfl rfl ?hd ?hu ?B ?F ?X ?T ?N ?m1 ?m2 ?m3 ?hot ?hlo ?m7 ?m8 ?_; (case hd => ktr_room); (case hu => ktr_units); (case B | F | X | T | N => k_asm); (case m1 | m2 | m3 => k_mem); (case hot | hlo => assumption); (case m7 | m8 => k_mem); intro h9z tk9z F9z N9z))) | (k_unfold; (try dsimp only)) | (k_end; wrow_close) | walk1 | (dsimp only; walk1) | (leave1; walk_say "STEP leave1"; try dsimp only) | fail "no step")
          k_dflt (refine' leaveK_ ?k1 ?k2 ?_; (case k1 => k_asm); (case k2 => k_asm))
          intro kF kN
          exact ret _ _ kF (fun q h => kN q (by repeat (first | exact h | apply List.Mem.tail)))
      | or =>
        rw [ev_or] at ret
        k_unmd
        k_fold
        repeat' ((fail_if_success (with_reducible show LCg.CompSrc _ _ _ _ _ _ _ _ _ _ _ _ _ _)); (fail_if_success (with_reducible show LeaveK h₀ L m _ _ _ _)); (fail_if_success (with_reducible show Exists _)); first | ((with_reducible show wpAny _ _ (compareOp CmpOp.NotIn (Value.bool _) (Value.ref _)) _ _ _); k_here; k_dflt (refine' notin_bools ?N ?m ?_; (case N => k_asm); (case m => k_mem))) | ((with_reducible show wpAny _ _ (compareOp CmpOp.In (Value.bool _) (Value.ref _)) _ _ _); k_here; k_dflt (refine' in_bools ?N ?m ?_; (case N => k_asm); (case m => k_mem))) | ((with_reducible show wpAny _ _ (call (Value.builtin "len") [Value.ref _]) _ _ _); k_here; k_dflt (refine' len_N ?N ?m ?f ?_; (case N => k_asm); (case m => k_mem); (case f => (simp only [List.length_cons, List.length_map]; omega))); intro t9z t8z; (try simp only [List.length_cons, List.length_map, List.length_nil])) | ((with_reducible show wpAny _ _ (subscriptTail _ (PySem.Expr.Slice _ _ none _) (Value.ref _) (Value.ref _)) _ _ _); k_here; k_dflt (refine' slice_tailN ?F ?N ?m ?c ?_ ?s ?t; (case F | N => k_asm); (case m => k_mem); (case c => omega); (case s => with_unfolding_all rfl); (case t => (intro _; with_unfolding_all rfl))); intro Dz hz Fz Nz l1z; (try k_lt l1z)) | ((with_reducible show wpAny _ _ (call (Value.builtin "dict.get") [Value.ref _, Value.int _ _, _]) _ _ _); k_here; k_dflt (refine get2_getD (knd := PySem.intKind _ _) (by k_asm) (by k_mem) (by assumption) (by assumption) (intKind_is _ _ _ _) (by assumption) ?_)) | ((with_reducible show wpAny _ _ (getMethod (Value.ref _) (Str.ofString "get") _) _ _ _); k_here; k_dflt (refine kdg_method (knd := PySem.intKind _ _) (by k_asm) (by k_mem) (by assumption) ?_)) | ((with_reducible show wpAny _ _ (call (Value.ref 385) [_, _, _, Value.int _ _]) _ _ _); k_here; k_dflt (refine' ih _ _ _ _ _ _ _ _ _ _ _ _ sh dsh tb tr st ot os t1 t2 kvs rs σ _ P _ _ rfl rfl rfl rfl ?hd ?hu ?B ?F ?X ?T ?N ?m1 ?m2 ?m3 ?hot ?hlo ?m4 ?hst ?hslo ?hrs ?hgr ?hw ?he ?e0 ?e1 ?_; (case hd => ktr_room); (case hu => ktr_units); (case B | F | X | T | N => k_asm); (case m1 | m2 | m3 => k_mem); (case hot | hlo => assumption); (case m4 => k_mem); (case hst | hslo => assumption); (case hrs => exact Rows'.mono (by intro p9 h9; repeat (first | exact h9 | apply List.Mem.tail)) hrs); (case hgr => exact fun i hi => let ⟨x, e, g⟩ := hgr i hi; ⟨x, e, g.mono (by intro p9 h9; repeat (first | exact h9 | apply List.Mem.tail))⟩); (case hw => assumption); (case he => exact ExprIn.up (by assumption) (by intro p9 h9; repeat (first | exact h9 | apply List.Mem.tail))); (case e0 | e1 => omega)); intro h9 tk9 F9 N9) | ((with_reducible show wpAny _ _ (call (Value.ref 379) [_, _]) _ _ _); k_here; k_dflt (first | (refine' isgrp_list rfl rfl rfl rfl ?hd ?hu ?B ?F ?X ?T ?N ?m1 ?m2 ?m3 ?hot ?hlo ?m7 ?hres ?_; (case hd => ktr_room); (case hu => ktr_units); (case B | F | X | T | N => k_asm); (case m1 | m2 | m3 => k_mem); (case hot | hlo => assumption); (case hres => first | exact resUp (by assumption) (by intro p9z h9z; repeat (first | exact h9z | apply List.Mem.tail)) | exact .inl rfl); (case m7 => k_mem); intro h9z tk9z F9z N9z) | (refine' isgrp_R_grp rfl rfl rfl rfl ?hd ?hu ?B ?F ?X ?T ?N ?m1 ?m2 ?m3 ?hot ?hlo ?m7 ?m8 ?hx ?m9 ?m10 ?hvia ?_; (case hd => ktr_room); (case hu => ktr_units); (case B | F | X | T | N => k_asm); (case m1 | m2 | m3 => k_mem); (case hot | hlo => assumption); (case hvia => exact Via.up (by assumption) (by intro p9z h9z; repeat (first | exact h9z | apply List.Mem.tail))); (case m7 => k_mem); (case m8 | hx => assumption); (case m9 | m10 => k_mem); intro h9z tk9z F9z N9z))) | ((with_reducible show wpAny _ _ (call (Value.ref 299) [_, _]) _ _ _); k_here; k_dflt (first | (refine' fetch_list rfl rfl rfl rfl ?hd ?hu ?B ?F ?X ?T ?N ?m1 ?m2 ?m3 ?hot ?hlo ?m7 ?hres ?_; (case hd => ktr_room); (case hu => ktr_units); (case B | F | X | T | N => k_asm); (case m1 | m2 | m3 => k_mem); (case hot | hlo => assumption); (case hres => first | exact resUp (by assumption) (by intro p9z h9z; repeat (first | exact h9z | apply List.Mem.tail)) | exact .inl rfl); (case m7 => k_mem); intro h9z tk9z F9z N9z) | (refine' fetch_D_name rfl rfl rfl rfl ?hd ?hu ?B ?F ?X ?T ?N ?m1 ?m2 ?m3 ?hot ?hlo ?m7 ?m8 ?_; (case hd => ktr_room); (case hu => ktr_units); (case B | F | X | T | N => k_asm); (case m1 | m2 | m3 => k_mem); (case hot | hlo => assumption); (case m7 | m8 => k_mem); intro h9z tk9z F9z N9z))) | (k_unfold; (try dsimp only)) | (k_end; wrow_close) | walk1 | (dsimp only; walk1) | (leave1; walk_say "STEP leave1"; try dsimp only) | fail "no step")
        refine LCg.CompSrc.ledger (by rfl) (by k_asm) (by k_asm) (by k_mem) (Nat.le_trans (show List.length _ ≤ 4 by (first | omega | (simp only [List.length_cons, List.length_nil]; omega))) (by decide)) fun g9 => ?_
        k_dflt (refine ev_comp ws ps (ev σ) (by k_mem) hps ?step ?fin)
        case step =>
          intro v P ys It oI Ct oC Dt m₂ h tk9 E' hPm hpv hNs hx F9 N9 off ne
          have hw9 := Wfs.mem hw4 hPm
          simp only [LCg.Off3] at off
          k_unmd
          repeat' ((fail_if_success (with_reducible show LCg.CompSrc _ _ _ _ _ _ _ _ _ _ _ _ _ _)); (fail_if_success (with_reducible show LeaveK h₀ L m _ _ _ _)); (fail_if_success (with_reducible show Exists _)); first | ((with_reducible show wpAny _ _ (compareOp CmpOp.NotIn (Value.bool _) (Value.ref _)) _ _ _); k_here; k_dflt (refine' notin_bools ?N ?m ?_; (case N => k_asm); (case m => k_mem))) | ((with_reducible show wpAny _ _ (compareOp CmpOp.In (Value.bool _) (Value.ref _)) _ _ _); k_here; k_dflt (refine' in_bools ?N ?m ?_; (case N => k_asm); (case m => k_mem))) | ((with_reducible show wpAny _ _ (call (Value.builtin "len") [Value.ref _]) _ _ _); k_here; k_dflt (refine' len_N ?N ?m ?f ?_; (case N => k_asm); (case m => k_mem); (case f => (simp only [List.length_cons, List.length_map]; omega))); intro t9z t8z; (try simp only [List.length_cons, List.length_map, List.length_nil])) | ((with_reducible show wpAny _ _ (subscriptTail _ (PySem.Expr.Slice _ _ none _) (Value.ref _) (Value.ref _)) _ _ _); k_here; k_dflt (refine' slice_tailN ?F ?N ?m ?c ?_ ?s ?t; (case F | N => k_asm); (case m => k_mem); (case c => omega); (case s => with_unfolding_all rfl); (case t => (intro _; with_unfolding_all rfl))); intro Dz hz Fz Nz l1z; (try k_lt l1z)) | ((with_reducible show wpAny _ _ (call (Value.builtin "dict.get") [Value.ref _, Value.int _ _, _]) _ _ _); k_here; k_dflt (refine get2_getD (knd := PySem.intKind _ _) (by k_asm) (by k_mem) (by assumption) (by assumption) (intKind_is _ _ _ _) (by assumption) ?_)) | ((with_reducible show wpAny _ _ (getMethod (Value.ref _) (Str.ofString "get") _) _ _ _); k_here; k_dflt (refine kdg_method (knd := PySem.intKind _ _) (by k_asm) (by k_mem) (by assumption) ?_)) | ((with_reducible show wpAny _ _ (call (Value.ref 385) [_, _, _, Value.int _ _]) _ _ _); k_here; k_dflt (refine' ih _ _ _ _ _ _ _ _ _ _ _ _ sh dsh tb tr st ot os t1 t2 kvs rs σ _ P _ _ rfl rfl rfl rfl ?hd ?hu ?B ?F ?X ?T ?N ?m1 ?m2 ?m3 ?hot ?hlo ?m4 ?hst ?hslo ?hrs ?hgr ?hw ?he ?e0 ?e1 ?_; (case hd => ktr_room); (case hu => ktr_units); (case B | F | X | T | N => k_asm); (case m1 | m2 | m3 => k_mem); (case hot | hlo => assumption); (case m4 => k_mem); (case hst | hslo => assumption); (case hrs => exact Rows'.mono (by intro p9 h9; repeat (first | exact h9 | apply List.Mem.tail)) hrs); (case hgr => exact fun i hi => let ⟨x, e, g⟩ := hgr i hi; ⟨x, e, g.mono (by intro p9 h9; repeat (first | exact h9 | apply List.Mem.tail))⟩); (case hw => assumption); (case he => exact ExprIn.up (by assumption) (by intro p9 h9; repeat (first | exact h9 | apply List.Mem.tail))); (case e0 | e1 => omega)); intro h9 tk9 F9 N9) | ((with_reducible show wpAny _ _ (call (Value.ref 379) [_, _]) _ _ _); k_here; k_dflt (first | (refine' isgrp_list rfl rfl rfl rfl ?hd ?hu ?B ?F ?X ?T ?N ?m1 ?m2 ?m3 ?hot ?hlo ?m7 ?hres ?_; (case hd => ktr_room); (case hu => ktr_units); (case B | F | X | T | N => k_asm); (case m1 | m2 | m3 => k_mem); (case hot | hlo => assumption); (case hres => first | exact resUp (by assumption) (by intro p9z h9z; repeat (first | exact h9z | apply List.Mem.tail)) | exact .inl rfl); (case m7 => k_mem); intro h9z tk9z F9z N9z) | (refine' isgrp_R_grp rfl rfl rfl rfl ?hd ?hu ?B ?F ?X ?T ?N ?m1 ?m2 ?m3 ?hot ?hlo ?m7 ?m8 ?hx ?m9 ?m10 ?hvia ?_; (case hd => ktr_room); (case hu => ktr_units); (case B | F | X | T | N => k_asm); (case m1 | m2 | m3 => k_mem); (case hot | hlo => assumption); (case hvia => exact Via.up (by assumption) (by intro p9z h9z; repeat (first | exact h9z | apply List.Mem.tail))); (case m7 => k_mem); (case m8 | hx => assumption); (case m9 | m10 => k_mem); intro h9z tk9z F9z N9z))) | ((with_reducible show wpAny _ _ (call (Value.ref 299) [_, _]) _ _ _); k_here; k_dflt (first | (refine' fetch_list rfl rfl rfl rfl ?hd ?hu ?B ?F ?X ?T ?N ?m1 ?m2 ?m3 ?hot ?hlo ?m7 ?hres ?_; (case hd => ktr_room); (case hu => ktr_units); (case B | F | X | T | N => k_asm); (case m1 | m2 | m3 => k_mem); (case hot | hlo => assumption); (case hres => first | exact resUp (by assumption) (by intro p9z h9z; repeat (first | exact h9z | apply List.Mem.tail)) | exact .inl rfl); (case m7 => k_mem); intro h9z tk9z F9z N9z) | (refine' fetch_D_name rfl rfl rfl rfl ?hd ?hu ?B ?F ?X ?T ?N ?m1 ?m2 ?m3 ?hot ?hlo ?m7 ?m8 ?_; (case hd => ktr_room); (case hu => ktr_units); (case B | F | X | T | N => k_asm); (case m1 | m2 | m3 => k_mem); (case hot | hlo => assumption); (case m7 | m8 => k_mem); intro h9z tk9z F9z N9z))) | (k_unfold; (try dsimp only)) | (k_end; wrow_close) | walk1 | (dsimp only; walk1) | (leave1; walk_say "STEP leave1"; try dsimp only) | fail "no step")
          exact ⟨_, _, rfl, rfl, by assumption, by assumption⟩
        case fin =>
          intro D9 h9 tk9 F9 N9 o9
          simp only [LCg.Off1] at o9
          k_unmd
          repeat' ((fail_if_success (with_reducible show LCg.CompSrc _ _ _ _ _ _ _ _ _ _ _ _ _ _)); (fail_if_success (with_reducible show LeaveK h₀ L m _ _ _ _)); (fail_if_success (with_reducible show Exists _)); first | ((with_reducible show wpAny _ _ (compareOp CmpOp.NotIn (Value.bool _) (Value.ref _)) _ _ _); k_here; k_dflt (refine' notin_bools ?N ?m ?_; (case N => k_asm); (case m => k_mem))) | ((with_reducible show wpAny _ _ (compareOp CmpOp.In (Value.bool _) (Value.ref _)) _ _ _); k_here; k_dflt (refine' in_bools ?N ?m ?_; (case N => k_asm); (case m => k_mem))) | ((with_reducible show wpAny _ _ (call (Value.builtin "len") [Value.ref _]) _ _ _); k_here; k_dflt (refine' len_N ?N ?m ?f ?_; (case N => k_asm); (case m => k_mem); (case f => (simp only [List.length_cons, List.length_map]; omega))); intro t9z t8z; (try simp only [List.length_cons, List.length_map, List.length_nil])) | ((with_reducible show wpAny _ _ (subscriptTail _ (PySem.Expr.Slice _ _ none _) (Value.ref _) (Value.ref _)) _ _ _); k_here; k_dflt (refine' slice_tailN ?F ?N ?m ?c ?_ ?s ?t; (case F | N => k_asm); (case m => k_mem); (case c => omega); (case s => with_unfolding_all rfl); (case t => (intro _; with_unfolding_all rfl))); intro Dz hz Fz Nz l1z; (try k_lt l1z)) | ((with_reducible show wpAny _ _ (call (Value.builtin "dict.get") [Value.ref _, Value.int _ _, _]) _ _ _); k_here; k_dflt (refine get2_getD (knd := PySem.intKind _ _) (by k_asm) (by k_mem) (by assumption) (by assumption) (intKind_is _ _ _ _) (by assumption) ?_)) | ((with_reducible show wpAny _ _ (getMethod (Value.ref _) (Str.ofString "get") _) _ _ _); k_here; k_dflt (refine kdg_method (knd := PySem.intKind _ _) (by k_asm) (by k_mem) (by assumption) ?_)) | ((with_reducible show wpAny _ _ (call (Value.ref 385) [_, _, _, Value.int _ _]) _ _ _); k_here; k_dflt (refine' ih _ _ _ _ _ _ _ _ _ _ _ _ sh dsh tb tr st ot os t1 t2 kvs rs σ _ P _ _ rfl rfl rfl rfl ?hd ?hu ?B ?F ?X ?T ?N ?m1 ?m2 ?m3 ?hot ?hlo ?m4 ?hst ?hslo ?hrs ?hgr ?hw ?he ?e0 ?e1 ?_; (case hd => ktr_room); (case hu => ktr_units); (case B | F | X | T | N => k_asm); (case m1 | m2 | m3 => k_mem); (case hot | hlo => assumption); (case m4 => k_mem); (case hst | hslo => assumption); (case hrs => exact Rows'.mono (by intro p9 h9; repeat (first | exact h9 | apply List.Mem.tail)) hrs); (case hgr => exact fun i hi => let ⟨x, e, g⟩ := hgr i hi; ⟨x, e, g.mono (by intro p9 h9; repeat (first | exact h9 | apply List.Mem.tail))⟩); (case hw => assumption); (case he => exact ExprIn.up (by assumption) (by intro p9 h9; repeat (first | exact h9 | apply List.Mem.tail))); (case e0 | e1 => omega)); intro h9 tk9 F9 N9) | ((with_reducible show wpAny _ _ (call (Value.ref 379) [_, _]) _ _ _); k_here; k_dflt (first | (refine' isgrp_list rfl rfl rfl rfl ?hd ?hu ?B ?F ?X ?T ?N ?m1 ?m2 ?m3 ?hot ?hlo ?m7 ?hres ?_; (case hd => ktr_room); (case hu => ktr_units); (case B | F | X | T | N => k_asm); (case m1 | m2 | m3 => k_mem); (case hot | hlo => assumption); (case hres => first | exact resUp (by assumption) (by intro p9z h9z; repeat (first | exact h9z | apply List.Mem.tail)) | exact .inl rfl); (case m7 => k_mem); intro h9z tk9z F9z N9z) | (refine' isgrp_R_grp rfl rfl rfl rfl ?hd ?hu ?B ?F ?X ?T ?N ?m1 ?m2 ?m3 ?hot ?hlo ?m7 ?m8 ?hx ?m9 ?m10 ?hvia ?_; (case hd => ktr_room); (case hu => ktr_units); (case B | F | X | T | N => k_asm); (case m1 | m2 | m3 => k_mem); (case hot | hlo => assumption); (case hvia => exact Via.up (by assumption) (by intro p9z h9z; repeat (first | exact h9z | apply List.Mem.tail))); (case m7 => k_mem); (case m8 | hx => assumption); (case m9 | m10 => k_mem); intro h9z tk9z F9z N9z))) | ((with_reducible show wpAny _ _ (call (Value.ref 299) [_, _]) _ _ _); k_here; k_dflt (first | (refine' fetch_list rfl rfl rfl rfl ?hd ?hu ?B ?F ?X ?T ?N ?m1 ?m2 ?m3 ?hot ?hlo ?m7 ?hres ?_; (case hd => ktr_room); (case hu => ktr_units); (case B | F | X | T | N => k_asm); (case m1 | m2 | m3 => k_mem); (case hot | hlo => assumption); (case hres => first | exact resUp (by assumption) (by intro p9z h9z; repeat (first | exact h9z | apply List.Mem.tail)) | exact .inl rfl); (case m7 => k_mem); intro h9z tk9z F9z N9z) | (refine' fetch_D_name rfl rfl rfl rfl ?hd ?hu ?B ?F ?X ?T ?N ?m1 ?m2 ?m3 ?hot ?hlo ?m7 ?m8 ?_; (case hd => ktr_room); (case hu => ktr_units); (case B | F | X | T | N => k_asm); (case m1 | m2 | m3 => k_mem); (case hot | hlo => assumption); (case m7 | m8 => k_mem); intro h9z tk9z F9z N9z))) | (k_unfold; (try dsimp only)) | (k_end; wrow_close) | walk1 | (dsimp only; walk1) | (leave1; walk_say "STEP leave1"; try dsimp only) | fail "no step")
          k_dflt (refine' leaveK_ ?k1 ?k2 ?_; (case k1 => k_asm); (case k2 => k_asm))
          intro kF kN
          exact ret _ _ kF (fun q h => kN q (by repeat (first | exact h | apply List.Mem.tail)))
      | not =>
        obtain ⟨p0, rfl⟩ := List.length_eq_one_iff.mp (hw3 rfl)
        obtain ⟨v0, rfl⟩ := List.length_eq_one_iff.mp (hlen.trans (hw3 rfl))
        rw [ev_not] at ret
        k_unmd
        k_fold
        repeat' ((fail_if_success (with_reducible show LCg.CompSrc _ _ _ _ _ _ _ _ _ _ _ _ _ _)); (fail_if_success (with_reducible show LeaveK h₀ L m _ _ _ _)); (fail_if_success (with_reducible show Exists _)); first | ((with_reducible show wpAny _ _ (compareOp CmpOp.NotIn (Value.bool _) (Value.ref _)) _ _ _); k_here; k_dflt (refine' notin_bools ?N ?m ?_; (case N => k_asm); (case m => k_mem))) | ((with_reducible show wpAny _ _ (compareOp CmpOp.In (Value.bool _) (Value.ref _)) _ _ _); k_here; k_dflt (refine' in_bools ?N ?m ?_; (case N => k_asm); (case m => k_mem))) | ((with_reducible show wpAny _ _ (call (Value.builtin "len") [Value.ref _]) _ _ _); k_here; k_dflt (refine' len_N ?N ?m ?f ?_; (case N => k_asm); (case m => k_mem); (case f => (simp only [List.length_cons, List.length_map]; omega))); intro t9z t8z; (try simp only [List.length_cons, List.length_map, List.length_nil])) | ((with_reducible show wpAny _ _ (subscriptTail _ (PySem.Expr.Slice _ _ none _) (Value.ref _) (Value.ref _)) _ _ _); k_here; k_dflt (refine' slice_tailN ?F ?N ?m ?c ?_ ?s ?t; (case F | N => k_asm); (case m => k_mem); (case c => omega); (case s => with_unfolding_all rfl); (case t => (intro _; with_unfolding_all rfl))); intro Dz hz Fz Nz l1z; (try k_lt l1z)) | ((with_reducible show wpAny _ _ (call (Value.builtin "dict.get") [Value.ref _, Value.int _ _, _]) _ _ _); k_here; k_dflt (refine get2_getD (knd := PySem.intKind _ _) (by k_asm) (by k_mem) (by assumption) (by assumption) (intKind_is _ _ _ _) (by assumption) ?_)) | ((with_reducible show wpAny _ _ (getMethod (Value.ref _) (Str.ofString "get") _) _ _ _); k_here; k_dflt (refine kdg_method (knd := PySem.intKind _ _) (by k_asm) (by k_mem) (by assumption) ?_)) | ((with_reducible show wpAny _ _ (call (Value.ref 385) [_, _, _, Value.int _ _]) _ _ _); k_here; k_dflt (refine' ih _ _ _ _ _ _ _ _ _ _ _ _ sh dsh tb tr st ot os t1 t2 kvs rs σ _ P _ _ rfl rfl rfl rfl ?hd ?hu ?B ?F ?X ?T ?N ?m1 ?m2 ?m3 ?hot ?hlo ?m4 ?hst ?hslo ?hrs ?hgr ?hw ?he ?e0 ?e1 ?_; (case hd => ktr_room); (case hu => ktr_units); (case B | F | X | T | N => k_asm); (case m1 | m2 | m3 => k_mem); (case hot | hlo => assumption); (case m4 => k_mem); (case hst | hslo => assumption); (case hrs => exact Rows'.mono (by intro p9 h9; repeat (first | exact h9 | apply List.Mem.tail)) hrs); (case hgr => exact fun i hi => let ⟨x, e, g⟩ := hgr i hi; ⟨x, e, g.mono (by intro p9 h9; repeat (first | exact h9 | apply List.Mem.tail))⟩); (case hw => assumption); (case he => exact ExprIn.up (by assumption) (by intro p9 h9; repeat (first | exact h9 | apply List.Mem.tail))); (case e0 | e1 => omega)); intro h9 tk9 F9 N9) | ((with_reducible show wpAny _ _ (call (Value.ref 379) [_, _]) _ _ _); k_here; k_dflt (first | (refine' isgrp_list rfl rfl rfl rfl ?hd ?hu ?B ?F ?X ?T ?N ?m1 ?m2 ?m3 ?hot ?hlo ?m7 ?hres ?_; (case hd => ktr_room); (case hu => ktr_units); (case B | F | X | T | N => k_asm); (case m1 | m2 | m3 => k_mem); (case hot | hlo => assumption); (case hres => first | exact resUp (by assumption) (by intro p9z h9z; repeat (first | exact h9z | apply List.Mem.tail)) | exact .inl rfl); (case m7 => k_mem); intro h9z tk9z F9z N9z) | (refine' isgrp_R_grp rfl rfl rfl rfl ?hd ?hu ?B ?F ?X ?T ?N ?m1 ?m2 ?m3 ?hot ?hlo ?m7 ?m8 ?hx ?m9 ?m10 ?hvia ?_; (case hd => ktr_room); (case hu => ktr_units); (case B | F | X | T | N => k_asm); (case m1 | m2 | m3 => k_mem); (case hot | hlo => assumption); (case hvia => exact Via.up (by assumption) (by intro p9z h9z; repeat (first | exact h9z | apply List.Mem.tail))); (case m7 => k_mem); (case m8 | hx => assumption); (case m9 | m10 => k_mem); intro h9z tk9z F9z N9z))) | ((with_reducible show wpAny _ _ (call (Value.ref 299) [_, _]) _ _ _); k_here; k_dflt (first | (refine' fetch_list rfl rfl rfl rfl ?hd ?hu ?B ?F ?X ?T ?N ?m1 ?m2 ?m3 ?hot ?hlo ?m7 ?hres ?_; (case hd => ktr_room); (case hu => ktr_units); (case B | F | X | T | N => k_asm); (case m1 | m2 | m3 => k_mem); (case hot | hlo => assumption); (case hres => first | exact resUp (by assumption) (by intro p9z h9z; repeat (first | exact h9z | apply List.Mem.tail)) | exact .inl rfl); (case m7 => k_mem); intro h9z tk9z F9z N9z) | (refine' fetch_D_name rfl rfl rfl rfl ?hd ?hu ?B ?F ?X ?T ?N ?m1 ?m2 ?m3 ?hot ?hlo ?m7 ?m8 ?_; (case hd => ktr_room); (case hu => ktr_units); (case B | F | X | T | N => k_asm); (case m1 | m2 | m3 => k_mem); (case hot | hlo => assumption); (case m7 | m8 => k_mem); intro h9z tk9z F9z N9z))) | (k_unfold; (try dsimp only)) | (k_end; wrow_close) | walk1 | (dsimp only; walk1) | (leave1; walk_say "STEP leave1"; try dsimp only) | fail "no step")
        refine LCg.CompSrc.ledger (by rfl) (by k_asm) (by k_asm) (by k_mem) (Nat.le_trans (show List.length _ ≤ 4 by (first | omega | (simp only [List.length_cons, List.length_nil]; omega))) (by decide)) fun g9 => ?_
        k_dflt (refine ev_comp [v0] [p0] (ev σ) (by k_mem) hps ?step ?fin)
        case step =>
          intro v P ys It oI Ct oC Dt m₂ h tk9 E' hPm hpv hNs hx F9 N9 off ne
          have hw9 := Wfs.mem hw4 hPm
          simp only [LCg.Off3] at off
          k_unmd
          repeat' ((fail_if_success (with_reducible show LCg.CompSrc _ _ _ _ _ _ _ _ _ _ _ _ _ _)); (fail_if_success (with_reducible show LeaveK h₀ L m _ _ _ _)); (fail_if_success (with_reducible show Exists _)); first | ((with_reducible show wpAny _ _ (compareOp CmpOp.NotIn (Value.bool _) (Value.ref _)) _ _ _); k_here; k_dflt (refine' notin_bools ?N ?m ?_; (case N => k_asm); (case m => k_mem))) | ((with_reducible show wpAny _ _ (compareOp CmpOp.In (Value.bool _) (Value.ref _)) _ _ _); k_here; k_dflt (refine' in_bools ?N ?m ?_; (case N => k_asm); (case m => k_mem))) | ((with_reducible show wpAny _ _ (call (Value.builtin "len") [Value.ref _]) _ _ _); k_here; k_dflt (refine' len_N ?N ?m ?f ?_; (case N => k_asm); (case m => k_mem); (case f => (simp only [List.length_cons, List.length_map]; omega))); intro t9z t8z; (try simp only [List.length_cons, List.length_map, List.length_nil])) | ((with_reducible show wpAny _ _ (subscriptTail _ (PySem.Expr.Slice _ _ none _) (Value.ref _) (Value.ref _)) _ _ _); k_here; k_dflt (refine' slice_tailN ?F ?N ?m ?c ?_ ?s ?t; (case F | N => k_asm); (case m => k_mem); (case c => omega); (case s => with_unfolding_all rfl); (case t => (intro _; with_unfolding_all rfl))); intro Dz hz Fz Nz l1z; (try k_lt l1z)) | ((with_reducible show wpAny _ _ (call (Value.builtin "dict.get") [Value.ref _, Value.int _ _, _]) _ _ _); k_here; k_dflt (refine get2_getD (knd := PySem.intKind _ _) (by k_asm) (by k_mem) (by assumption) (by assumption) (intKind_is _ _ _ _) (by assumption) ?_)) | ((with_reducible show wpAny _ _ (getMethod (Value.ref _) (Str.ofString "get") _) _ _ _); k_here; k_dflt (refine kdg_method (knd := PySem.intKind _ _) (by k_asm) (by k_mem) (by assumption) ?_)) | ((with_reducible show wpAny _ _ (call (Value.ref 385) [_, _, _, Value.int _ _]) _ _ _); k_here; k_dflt (refine' ih _ _ _ _ _ _ _ _ _ _ _ _ sh dsh tb tr st ot os t1 t2 kvs rs σ _ P _ _ rfl rfl rfl rfl ?hd ?hu ?B ?F ?X ?T ?N ?m1 ?m2 ?m3 ?hot ?hlo ?m4 ?hst ?hslo ?hrs ?hgr ?hw ?he ?e0 ?e1 ?_; (case hd => ktr_room); (case hu => ktr_units); (case B | F | X | T | N => k_asm); (case m1 | m2 | m3 => k_mem); (case hot | hlo => assumption); (case m4 => k_mem); (case hst | hslo => assumption); (case hrs => exact Rows'.mono (by intro p9 h9; repeat (first | exact h9 | apply List.Mem.tail)) hrs); (case hgr => exact fun i hi => let ⟨x, e, g⟩ := hgr i hi; ⟨x, e, g.mono (by intro p9 h9; repeat (first | exact h9 | apply List.Mem.tail))⟩); (case hw => assumption); (case he => exact ExprIn.up (by assumption) (by intro p9 h9; repeat (first | exact h9 | apply List.Mem.tail))); (case e0 | e1 => omega)); intro h9 tk9 F9 N9) | ((with_reducible show wpAny _ _ (call (Value.ref 379) [_, _]) _ _ _); k_here; k_dflt (first | (refine' isgrp_list rfl rfl rfl rfl ?hd ?hu ?B ?F ?X ?T ?N ?m1 ?m2 ?m3 ?hot ?hlo ?m7 ?hres ?_; (case hd => ktr_room); (case hu => ktr_units); (case B | F | X | T | N => k_asm); (case m1 | m2 | m3 => k_mem); (case hot | hlo => assumption); (case hres => first | exact resUp (by assumption) (by intro p9z h9z; repeat (first | exact h9z | apply List.Mem.tail)) | exact .inl rfl); (case m7 => k_mem); intro h9z tk9z F9z N9z) | (refine' isgrp_R_grp rfl rfl rfl rfl ?hd ?hu ?B ?F ?X ?T ?N ?m1 ?m2 ?m3 ?hot ?hlo ?m7 ?m8 ?hx ?m9 ?m10 ?hvia ?_; (case hd => ktr_room); (case hu => ktr_units); (case B | F | X | T | N => k_asm); (case m1 | m2 | m3 => k_mem); (case hot | hlo => assumption); (case hvia => exact Via.up (by assumption) (by intro p9z h9z; repeat (first | exact h9z | apply List.Mem.tail))); (case m7 => k_mem); (case m8 | hx => assumption); (case m9 | m10 => k_mem); intro h9z tk9z F9z N9z))) | ((with_reducible show wpAny _ _ (call (Value.ref 299) [_, _]) _ _ _); k_here; k_dflt (first | (refine' fetch_list rfl rfl rfl rfl ?hd ?hu ?B ?F ?X ?T ?N ?m1 ?m2 ?m3 ?hot ?hlo ?m7 ?hres ?_; (case hd => ktr_room); (case hu => ktr_units); (case B | F | X | T | N => k_asm); (case m1 | m2 | m3 => k_mem); (case hot | hlo => assumption); (case hres => first | exact resUp (by assumption) (by intro p9z h9z; repeat (first | exact h9z | apply List.Mem.tail)) | exact .inl rfl); (case m7 => k_mem); intro h9z tk9z F9z N9z) | (refine' fetch_D_name rfl rfl rfl rfl ?hd ?hu ?B ?F ?X ?T ?N ?m1 ?m2 ?m3 ?hot ?hlo ?m7 ?m8 ?_; (case hd => ktr_room); (case hu => ktr_units); (case B | F | X | T | N => k_asm); (case m1 | m2 | m3 => k_mem); (case hot | hlo => assumption); (case m7 | m8 => k_mem); intro h9z tk9z F9z N9z))) | (k_unfold; (try dsimp only)) | (k_end; wrow_close) | walk1 | (dsimp only; walk1) | (leave1; walk_say "STEP leave1"; try dsimp only) | fail "no step")
          exact ⟨_, _, rfl, rfl, by assumption, by assumption⟩
        case fin =>
          intro D9 h9 tk9 F9 N9 o9
          simp only [LCg.Off1] at o9
          k_unmd
          repeat' ((fail_if_success (with_reducible show LCg.CompSrc _ _ _ _ _ _ _ _ _ _ _ _ _ _)); (fail_if_success (with_reducible show LeaveK h₀ L m _ _ _ _)); (fail_if_success (with_reducible show Exists _)); first | ((with_reducible show wpAny _ _ (compareOp CmpOp.NotIn (Value.bool _) (Value.ref _)) _ _ _); k_here; k_dflt (refine' notin_bools ?N ?m ?_; (case N => k_asm); (case m => k_mem))) | ((with_reducible show wpAny _ _ (compareOp CmpOp.In (Value.bool _) (Value.ref _)) _ _ _); k_here; k_dflt (refine' in_bools ?N ?m ?_; (case N => k_asm); (case m => k_mem))) | ((with_reducible show wpAny _ _ (call (Value.builtin "len") [Value.ref _]) _ _ _); k_here; k_dflt (refine' len_N ?N ?m ?f ?_; (case N => k_asm); (case m => k_mem); (case f => (simp only [List.length_cons, List.length_map]; omega))); intro t9z t8z; (try simp only [List.length_cons, List.length_map, List.length_nil])) | ((with_reducible show wpAny _ _ (subscriptTail _ (PySem.Expr.Slice _ _ none _) (Value.ref _) (Value.ref _)) _ _ _); k_here; k_dflt (refine' slice_tailN ?F ?N ?m ?c ?_ ?s ?t; (case F | N => k_asm); (case m => k_mem); (case c => omega); (case s => with_unfolding_all rfl); (case t => (intro _; with_unfolding_all rfl))); intro Dz hz Fz Nz l1z; (try k_lt l1z)) | ((with_reducible show wpAny _ _ (call (Value.builtin "dict.get") [Value.ref _, Value.int _ _, _]) _ _ _); k_here; k_dflt (refine get2_getD (knd := PySem.intKind _ _) (by k_asm) (by k_mem) (by assumption) (by assumption) (intKind_is _ _ _ _) (by assumption) ?_)) | ((with_reducible show wpAny _ _ (getMethod (Value.ref _) (Str.ofString "get") _) _ _ _); k_here; k_dflt (refine kdg_method (knd := PySem.intKind _ _) (by k_asm) (by k_mem) (by assumption) ?_)) | ((with_reducible show wpAny _ _ (call (Value.ref 385) [_, _, _, Value.int _ _]) _ _ _); k_here; k_dflt (refine' ih _ _ _ _ _ _ _ _ _ _ _ _ sh dsh tb tr st ot os t1 t2 kvs rs σ _ P _ _ rfl rfl rfl rfl ?hd ?hu ?B ?F ?X ?T ?N ?m1 ?m2 ?m3 ?hot ?hlo ?m4 ?hst ?hslo ?hrs ?hgr ?hw ?he ?e0 ?e1 ?_; (case hd => ktr_room); (case hu => ktr_units); (case B | F | X | T | N => k_asm); (case m1 | m2 | m3 => k_mem); (case hot | hlo => assumption); (case m4 => k_mem); (case hst | hslo => assumption); (case hrs => exact Rows'.mono (by intro p9 h9; repeat (first | exact h9 | apply List.Mem.tail)) hrs); (case hgr => exact fun i hi => let ⟨x, e, g⟩ := hgr i hi; ⟨x, e, g.mono (by intro p9 h9; repeat (first | exact h9 | apply List.Mem.tail))⟩); (case hw => assumption); (case he => exact ExprIn.up (by assumption) (by intro p9 h9; repeat (first | exact h9 | apply List.Mem.tail))); (case e0 | e1 => omega)); intro h9 tk9 F9 N9) | ((with_reducible show wpAny _ _ (call (Value.ref 379) [_, _]) _ _ _); k_here; k_dflt (first | (refine' isgrp_list rfl rfl rfl rfl ?hd ?hu ?B ?F ?X ?T ?N ?m1 ?m2 ?m3 ?hot ?hlo ?m7 ?hres ?_; (case hd => ktr_room); (case hu => ktr_units); (case B | F | X | T | N => k_asm); (case m1 | m2 | m3 => k_mem); (case hot | hlo => assumption); (case hres => first | exact resUp (by assumption) (by intro p9z h9z; repeat (first | exact h9z | apply List.Mem.tail)) | exact .inl rfl); (case m7 => k_mem); intro h9z tk9z F9z N9z) | (refine' isgrp_R_grp rfl rfl rfl rfl ?hd ?hu ?B ?F ?X ?T ?N ?m1 ?m2 ?m3 ?hot ?hlo ?m7 ?m8 ?hx ?m9 ?m10 ?hvia ?_; (case hd => ktr_room); (case hu => ktr_units); (case B | F | X | T | N => k_asm); (case m1 | m2 | m3 => k_mem); (case hot | hlo => assumption); (case hvia => exact Via.up (by assumption) (by intro p9z h9z; repeat (first | exact h9z | apply List.Mem.tail))); (case m7 => k_mem); (case m8 | hx => assumption); (case m9 | m10 => k_mem); intro h9z tk9z F9z N9z))) | ((with_reducible show wpAny _ _ (call (Value.ref 299) [_, _]) _ _ _); k_here; k_dflt (first | (refine' fetch_list rfl rfl rfl rfl ?hd ?hu ?B ?F ?X ?T ?N ?m1 ?m2 ?m3 ?hot ?hlo ?m7 ?hres ?_; (case hd => ktr_room); (case hu => ktr_units); (case B | F | X | T | N => k_asm); (case m1 | m2 | m3 => k_mem); (case hot | hlo => assumption); (case hres => first | exact resUp (by assumption) (by intro p9z h9z; repeat (first | exact h9z | apply List.Mem.tail)) | exact .inl rfl); (case m7 => k_mem); intro h9z tk9z F9z N9z) | (refine' fetch_D_name rfl rfl rfl rfl ?hd ?hu ?B ?F ?X ?T ?N ?m1 ?m2 ?m3 ?hot ?hlo ?m7 ?m8 ?_; (case hd => ktr_room); (case hu => ktr_units); (case B | F | X | T | N => k_asm); (case m1 | m2 | m3 => k_mem); (case hot | hlo => assumption); (case m7 | m8 => k_mem); intro h9z tk9z F9z N9z))) | (k_unfold; (try dsimp only)) | (k_end; wrow_close) | walk1 | (dsimp only; walk1) | (leave1; walk_say "STEP leave1"; try dsimp only) | fail "no step")
          k_dflt (refine' leaveK_ ?k1 ?k2 ?_; (case k1 => k_asm); (case k2 => k_asm))
          intro kF kN
          exact ret _ _ kF (fun q h => kN q (by repeat (first | exact h | apply List.Mem.tail)))
theorem eval_down {prog : Program} {w : World} {p : Program} {loose : List Str} {mean : ExcName → Option Value} {mg mb : Str → Option Value} {d : Nat} (g : EvalG prog w p loose mean mg mb d) : EvalSpec prog w p loose mean mg mb d :=
  fun A A₀ env outer base h₀ L m s Q E W sh dsh tb tr st ot os t1 t2 kvs rs σ v P e etk => g A A₀ env outer base h₀ L m s Q E W sh dsh tb tr st ot os t1 t2 kvs rs σ v P e etk _ evalArgs4
theorem eval_g {prog : Program} {w : World} {p : Program} {loose : List Str} {mean : ExcName → Option Value} {mg mb : Str → Option Value} : ∀ d : Nat, EvalG prog w p loose mean mg mb d
  | 0 => eval_zero
  | d + 1 => eval_succ (eval_down (eval_g d))
theorem eval_top {prog : Program} {w : World} {p : Program} {loose : List Str} {mean : ExcName → Option Value} {mg mb : Str → Option Value} : ∀ d : Nat, EvalTop prog w p loose mean mg mb d :=
  fun d A A₀ env outer base h₀ L m s Q E W sh dsh tb tr st ot os t1 t2 kvs rs σ v P hA hf hke hh hd hu B F X T N m1 m2 m3 hot hlo m4 hst hslo hrs hgr hw he e1 =>
    eval_g d A A₀ env outer base h₀ L m s Q E W sh dsh tb tr st ot os t1 t2 kvs rs σ v P 0 669 _ evalArgs3 hA hf hke hh hd hu B F X T N m1 m2 m3 hot hlo m4 hst hslo hrs hgr hw he (Int.le_refl 0) (by omega)
end
/-! ## part Base6 -/
section
example : True := by (w_top off; trivial)
section
variable {prog : Program} {w : World} {A : Around} {E : Value → Shared → Prop} {Q : Flow → Shared → Prop} {s : Shared} {env : Env} {h₀ : Heap} {L : Addr}
def NumStep (h₀ : Heap) (L : Addr) (s : Shared) (m : Str → Option Value) (i : Str) (news : LL) (k : Int) (f : Flow) (s₃ : Shared) : Prop :=
  f = .next ∧ ∃ h' tk t', s₃ = { s with heap := h', toks := tk } ∧ Fr h₀ L h' (bindM m i (some (.int k t'))) ∧ News h₀ L h' news
theorem bindM_over {m : Str → Option Value} {i : Str} {u v : Option Value} : (fun y => if y = i then v else bindM m i u y) = bindM m i v := by
  funext y
  unfold bindM
  by_cases h : y = i <;> simp [h]
theorem NumStep.intro {h : Heap} {tk : Nat} {m : Str → Option Value} {i : Str} {news : LL} {k : Int} {t' : Tok} {u : Option Value} (F : Fr h₀ L h (fun y => if y = i then some (.int k t') else bindM m i u y)) (N : News h₀ L h news) :
    NumStep h₀ L s m i news k .next { s with heap := h, toks := tk } := ⟨rfl, h, tk, t', rfl, by rw [← bindM_over (u := u)]; exact F, N⟩
theorem while_num {test : Expr} {body : List Stmt} {pos : Pos} {m : Str → Option Value} {news : LL} {i : Str} {k₀ : Int} {t₀ : Tok} (K : Int)
    (F : Fr h₀ L s.heap m) (N : News h₀ L s.heap news) (hmi : m i = some (.int k₀ t₀)) (h01 : k₀ ≤ K)
    (turn : ∀ k t h₁ tk₁, k₀ ≤ k → k < K → Fr h₀ L h₁ (bindM m i (some (.int k t))) → News h₀ L h₁ news →
      wpAny (model prog w) A (isTrue test env (eval test env)) (fun b s₂ =>
        if b = true then wpAny (model prog w) A (execs body env) (NumStep h₀ L s m i news (k + 1)) E s₂ else Q .next s₂) E { s with heap := h₁, toks := tk₁ })
    (last : ∀ t h₁ tk₁, Fr h₀ L h₁ (bindM m i (some (.int K t))) → News h₀ L h₁ news →
      wpAny (model prog w) A (isTrue test env (eval test env)) (fun b s₂ => if b = true then wpAny (model prog w) A (execs body env) (NumStep h₀ L s m i news 0) E s₂ ∧ False else Q .next s₂) E { s with heap := h₁, toks := tk₁ })
    (hE : PassesOwn (model prog w) A env E := by passes_own) :
    wpAny (model prog w) A (exec (.While test body [] pos) env) Q E s := by
  refine While_inv (fun n m₁ news₁ => ∃ k t, k₀ ≤ k ∧ k ≤ K ∧ m₁ = bindM m i (some (.int k t)) ∧ news₁ = news ∧ n = (K - k).toNat)
    F N ⟨k₀, t₀, Int.le_refl _, h01, by rw [← hmi]; exact bindM_start m i, rfl, rfl⟩ ?_
  rintro n m₁ news₁ h₁ tk₁ F₁ N₁ ⟨k, t, hk, hkK, rfl, rfl, rfl⟩
  rcases Int.lt_or_le k K with h | h
  · refine wpAny_mono (turn k t h₁ tk₁ hk h F₁ N₁) (fun b s₂ h₂ => ?_) fun _ _ e => e
    cases b with
    | false => exact h₂
    | true =>
      simp only [if_true] at h₂ ⊢
      refine wpAny_mono h₂ (fun f s₃ h₃ => ?_) fun _ _ e => e
      obtain ⟨rfl, h', tk, t', rfl, F₃, N₃⟩ := h₃
      exact WhileStep.intro F₃ N₃ (n' := (K - (k + 1)).toNat) (by omega) ⟨k + 1, t', by omega, by omega, rfl, rfl, rfl⟩
  · have e : k = K := by omega
    subst e
    refine wpAny_mono (last t h₁ tk₁ F₁ N₁) (fun b s₂ h₂ => ?_) fun _ _ e => e
    cases b with
    | false => exact h₂
    | true => simp only [if_true] at h₂; exact h₂.2.elim
end
theorem front_tb {h₀ h : Heap} {L : Addr} {own R : LL} {x y : Addr × Obj} (N : News h₀ L h (own ++ x :: y :: R)) : News h₀ L h (y :: (own ++ x :: R)) := fun p hp => N p (by
  simp only [List.mem_cons, List.mem_append] at hp ⊢; rcases hp with h | h | h | h <;> simp [h])
theorem back_tb {h₀ h : Heap} {L : Addr} {own R tl : LL} {x y : Addr × Obj} (N : News h₀ L h (y :: (tl ++ (own ++ x :: R)))) : News h₀ L h (own ++ x :: y :: (tl ++ R)) := fun p hp => N p (by
  simp only [List.mem_cons, List.mem_append] at hp ⊢; rcases hp with h | h | h | h | h <;> simp [h])
theorem perm3 {h₀ h : Heap} {L : Addr} {W : LL} {x y z t : Addr × Obj} (N : News h₀ L h (x :: y :: z :: t :: W)) : News h₀ L h (t :: ([x, y, z] ++ W)) := fun p hp => N p (by
  simp only [List.mem_cons, List.mem_append, List.not_mem_nil, or_false] at hp ⊢; rcases hp with h | (h | h | h) | h <;> simp [h])
theorem above_b {a : Addr} {x : Addr × Obj} {W : LL} (h1 : @LT.lt Nat _ x.1 a) (h3 : AllLt a W) : ∀ r ∈ x :: W, r.1 ≠ a := fun r hr => by
  rcases List.mem_cons.mp hr with rfl | hr
  · exact Nat.ne_of_lt h1
  · exact allLt_mem h3 r hr
theorem allLt_up {a b : Addr} (h : @LT.lt Nat _ a b) : ∀ {W : LL}, AllLt a W → AllLt b W
  | [], _ => trivial
  | _ :: _, x => ⟨Nat.lt_trans x.1 h, allLt_up h x.2⟩
theorem above_3 {d x D : Addr} {ox od oD : Obj} {q : Addr × Obj} {W : LL} (h1 : @LT.lt Nat _ q.1 D ∧ AllLt D W) (h2 : @LT.lt Nat _ D d ∧ @LT.lt Nat _ q.1 d ∧ AllLt d W) (h3 : @LT.lt Nat _ d x) : Above [(x, ox), (d, od), (D, oD)] (q :: W) :=
  .cons (above_b (Nat.lt_trans h2.2.1 h3) (allLt_up h3 h2.2.2)) (.cons (above_b h2.2.1 h2.2.2) (.cons (above_b h1.1 h1.2) .nil))
end
/-! ## part F4 -/
section
example : True := by (w_top off; trivial)
local macro_rules | `(tactic| walk_at "setItem ref int") => `(tactic| (k_here; k_dflt (refine' kda_set (knd := PySem.intKind _ _) ?F ?N ?U ?d (intKind_is _ _ _ _) ?z ?_; (case F | N => k_asm); (case U => k_updF); (case d => k_asm); (case z => rw [sizeLine_eq]; omega)); intro h' o' F' N' hd'; (try dsimp only at N')))
theorem add_core {prog : Program} {w : World} {p : Program} {loose : List Str} {mean : ExcName → Option Value} {mg mb : Str → Option Value}
    {A A₀ : Around} {env : Env} {outer : List Env} {base h₀ : Heap} {L : Addr} {m : Str → Option Value} {s : Shared} {Q E : Value → Shared → Prop}
    {W : LL} {sh dsh tb tr : Addr} {ot : Obj} {t1 t2 : Tok} {kvs : List (Int × Value)} {len : Nat} {v : Value}
    (hA : A.frames = some (env :: outer)) (hf : env.frame = some L) (hke : env.scope.kind = .function) (hh : A.handled = none) (hd : A.depth + 60 < recursionLimit) (hu : A.units + 60 < cLine)
    (B : Below A₀ base outer h₀) (F : Fr h₀ L s.heap m) (X : (K w.params).In h₀) (T : Top p loose mean mg mb h₀)
    (N : News h₀ L s.heap ((tb, ot) :: W))
    (m1 : (sh, instObj 363 dsh) ∈ W) (m2 : (dsh, dictOf [{ hash := PyData.keyHash w.params (Str.ofString "table"), key := .str (Str.ofString "table") t1, val := .ref tb },
      { hash := PyData.keyHash w.params (Str.ofString "trailer"), key := .str (Str.ofString "trailer") t2, val := .ref tr }] 2) ∈ W) (hot : ot.IsDictOf (intKind prog w) kvs) (hlo : (tb == sysModules) = false)
    (hnt : ∀ q ∈ W, q.1 ≠ tb) (hlen : kvs.length = len) (hc : ∀ k : Int, (valueAt kvs k).isSome = decide (1 ≤ k ∧ k ≤ (len : Nat))) (hbig : len < 1000000)
    (ret : ∀ a' tup t n ot' h' tks tl, ot'.IsDictOf (intKind prog w) (stored kvs ((len : Nat) + 1) (.ref tup)) → RefIn w tl (.ref a') ((len : Nat) + 1) → (tup, tupO [.int 0 t, v] n) ∈ tl → Fr h₀ L h' m →
      News h₀ L h' ((tb, ot') :: (tl ++ W)) → Above tl ((tb, ot) :: W) → Q (.ref a') { s with heap := h', toks := tks }) :
    wpAny (model prog w) A (call (.ref 334) [.ref sh, v]) Q E s := by
  obtain ⟨hd', dp, fr, gd, un⟩ := A
  dsimp only at hA hh hd hu
  subst hA hh
  refine wpAny_call ?_
  k_dflt (refine' code_def B F X N T rfl hf hke ?k6 ?k7 ?k8 ?k9 ?kB ?_ ?c2 ?c3 ?c4 ?c5; (case k6 => k_is); (case k7 => k_is); (case k8 => (simp only [recursionLimit] at *; omega)); (case k9 => first | exact BindsTo.of_eq rfl | exact binds_K (by k_in) rfl (by k_is) rfl rfl rfl); (case c5 => decide); (case kB => exact locs rfl); (case c2 => exact rfl); (case c3 => exact rfl); (case c4 => exact rfl))
  k_dflt (intro g' L' h' FG' F' N' B' X' T'; (try dsimp only))
  try (have S' := S.keeps FG'.keep; clear S)
  clear N F X T B
  k_unmd
  k_fold
  repeat' ((fail_if_success (with_reducible show LCg.CompSrc _ _ _ _ _ _ _ _ _ _ _ _ _ _)); (fail_if_success (with_reducible show LeaveK h₀ L m _ _ _ _)); (fail_if_success (with_reducible show Exists _)); (fail_if_success (with_reducible show NumStep _ _ _ _ _ _ _ _ _)); (fail_if_success (with_reducible show wpAny _ _ (exec (Stmt.While _ _ _ _) _) _ _ _)); first | ((with_reducible show wpAny _ _ (compareOp CmpOp.In (Value.int _ _) (Value.ref _)) _ _ _); k_here; k_dflt (refine kda_in (knd := PySem.intKind _ _) (by k_asm) (by k_mem) (by assumption) (by assumption) (intKind_is _ _ _ _) _ (by assumption) ?_)) | (k_unfold; (try dsimp only)) | (k_end; wrow_close) | walk1 | (dsimp only; walk1) | (leave1; walk_say "STEP leave1"; try dsimp only) | fail "no step")
  k_dflt (refine' while_num (i := Str.ofString "number") ((len : Int) + 1) ?F ?N ?m ?l ?turn ?last)
  case F => k_asm
  case N => k_asm
  case m => exact rfl
  case l => omega
  case turn =>
    intro k9 t9 h9 tk9 k91 k92 F9 N9
    have hcb : (valueAt kvs k9).isSome = true := by rw [hc]; exact decide_eq_true (And.intro k91 (by omega))
    k_unmd
    repeat' ((fail_if_success (with_reducible show LCg.CompSrc _ _ _ _ _ _ _ _ _ _ _ _ _ _)); (fail_if_success (with_reducible show LeaveK h₀ L m _ _ _ _)); (fail_if_success (with_reducible show Exists _)); (fail_if_success (with_reducible show NumStep _ _ _ _ _ _ _ _ _)); first | ((with_reducible show wpAny _ _ (compareOp CmpOp.In (Value.int _ _) (Value.ref _)) _ _ _); k_here; k_dflt (refine kda_in (knd := PySem.intKind _ _) (by k_asm) (by k_mem) (by assumption) (by assumption) (intKind_is _ _ _ _) _ (by assumption) ?_)) | (k_unfold; (try dsimp only)) | (k_end; wrow_close) | walk1 | (dsimp only; walk1) | (leave1; walk_say "STEP leave1"; try dsimp only) | fail "no step")
    exact NumStep.intro (by assumption) (by assumption)
  case last =>
    intro t9 h9 tk9 F9 N9
    have hcb : (valueAt kvs ((len : Int) + 1)).isSome = false := by rw [hc]; exact decide_eq_false (by omega)
    k_unmd
    repeat' ((fail_if_success (with_reducible show LCg.CompSrc _ _ _ _ _ _ _ _ _ _ _ _ _ _)); (fail_if_success (with_reducible show LeaveK h₀ L m _ _ _ _)); (fail_if_success (with_reducible show Exists _)); (fail_if_success (with_reducible show NumStep _ _ _ _ _ _ _ _ _)); first | ((with_reducible show wpAny _ _ (compareOp CmpOp.In (Value.int _ _) (Value.ref _)) _ _ _); k_here; k_dflt (refine kda_in (knd := PySem.intKind _ _) (by k_asm) (by k_mem) (by assumption) (by assumption) (intKind_is _ _ _ _) _ (by assumption) ?_)) | (k_unfold; (try dsimp only)) | (k_end; wrow_close) | walk1 | (dsimp only; walk1) | (leave1; walk_say "STEP leave1"; try dsimp only) | fail "no step")
    k_dflt (refine' leaveK_ ?k1 ?k2 ?_; (case k1 => k_asm); (case k2 => k_asm))
    intro kF kN
    refine ret _ _ _ _ _ _ _ [_, _, _] (by assumption) ?pA (by exact .tail _ (.tail _ (.head _))) kF (perm3 kN) ?pE
    case pA => exact ⟨_, _, _, _, _, _, rfl, .head _, .tail _ (.head _)⟩
    case pE => exact above_3 (by assumption) (by assumption) (by assumption)
end
/-! ## part Base7 -/
section
example : True := by (w_top off; trivial)
def cstM : Nat → Nat
  | 0 => 0
  | d + 1 => 1 + 4 * cstM d
theorem front3 {h₀ h : Heap} {L : Addr} {own R tl tl2 : LL} {x y : Addr × Obj} (N : News h₀ L h (own ++ x :: y :: (tl2 ++ (tl ++ R)))) : News h₀ L h (x :: y :: ((own ++ (tl2 ++ tl)) ++ R)) := by
  have := front2 N
  rw [List.append_assoc, List.append_assoc]; exact this
/-- the law's standing things, in I₀ -/
structure Std (w : World) (I₀ : LL) (sh dsh tb tr gl : Addr) (t1 t2 : Tok) (gvs : List Value) (ng : Nat) : Prop where
  m1 : (sh, instObj 363 dsh) ∈ I₀
  m2 : (dsh, dictOf [{ hash := PyData.keyHash w.params (Str.ofString "table"), key := .str (Str.ofString "table") t1, val := .ref tb },
      { hash := PyData.keyHash w.params (Str.ofString "trailer"), key := .str (Str.ofString "trailer") t2, val := .ref tr }] 2) ∈ I₀
  lo : (tb == sysModules) = false
  mg : (gl, lstO gvs ng) ∈ I₀
  len : gvs.length = 4
  grp : ∀ (i : Nat) v, gvs[i]? = some v → RefIn w I₀ v ((i : Int) + 1)
def MadeSpec (prog : Program) (w : World) (p : Program) (loose : List Str) (mean : ExcName → Option Value) (mg mb : Str → Option Value) (np : Nat) (pl tb tf : Addr) (I₀ : LL) (sh gl : Addr) (d : Nat) : Prop :=
  ∀ (A A₀ : Around) (env : Env) (outer : List Env) (base h₀ : Heap) (L : Addr) (m : Str → Option Value) (s : Shared) (Q E : Value → Shared → Prop)
    (R I RT : LL) (k : Int) (tk : Tok) (ot : Obj) (rs : List Value) (v : Value) (P : Pl),
    A.frames = some (env :: outer) → env.frame = some L → env.scope.kind = .function → A.handled = none → A.depth + 130 + d < recursionLimit → A.units + 100 + 6 * d < cLine →
    Below A₀ base outer h₀ → Fr h₀ L s.heap m → (K w.params).In h₀ → Top p loose mean mg mb h₀ → h₀.NoSeer →
    News h₀ L s.heap ((pl, placeO k tk np) :: (tb, ot) :: R) → Ok pl tb I₀ R → (∀ q ∈ RT, q ∈ R) → Tab prog w RT ot rs → (rs.length : Int) ≤ k + 4 → (∀ q ∈ I, q ∈ R) → Wf 4 d P → PlanIn I v P → 0 ≤ k → k + ((cstM d : Nat) : Int) < 900000 →
    (∀ v' tl ot' rs' k' h' tks tk', ExprIn w (tl ++ I₀) rs' v' P → Tab prog w (tl ++ RT) ot' rs' → Pre rs rs' → (rs'.length : Int) ≤ k' + 4 → k ≤ k' → k' ≤ k + ((cstM d : Nat) : Int) → Fr h₀ L h' m →
      News h₀ L h' ((pl, placeO k' tk' np) :: (tb, ot') :: (tl ++ R)) → Above tl ((pl, placeO k tk np) :: (tb, ot) :: R) → Q v' { s with heap := h', toks := tks }) →
    wpAny (model prog w) A (call (.ref 402) [.ref tf, .ref sh, .ref gl, v]) Q E s
section
variable {prog : Program} {w : World} {p : Program} {loose : List Str} {mean : ExcName → Option Value} {mg mb : Str → Option Value} {np : Nat} {pl tb tf : Addr} {I₀ : LL}
  {A A₀ : Around} {env : Env} {outer : List Env} {base h₀ : Heap} {L : Addr} {m : Str → Option Value} {s : Shared} {Q E : Value → Shared → Prop}
theorem made_use {sh gl : Addr} {d : Nat} (hP : MadeSpec prog w p loose mean mg mb np pl tb tf I₀ sh gl d) {own R I RT : LL} {k : Int} {tk : Tok} {ot : Obj} {rs : List Value} {v : Value} {P : Pl}
    (hA : A.frames = some (env :: outer)) (hf : env.frame = some L) (hke : env.scope.kind = .function) (hh : A.handled = none) (hd : A.depth + 130 + d < recursionLimit) (hu : A.units + 100 + 6 * d < cLine)
    (B : Below A₀ base outer h₀) (F : Fr h₀ L s.heap m) (X : (K w.params).In h₀) (T : Top p loose mean mg mb h₀) (S : h₀.NoSeer)
    (N : News h₀ L s.heap (own ++ (pl, placeO k tk np) :: (tb, ot) :: R)) (hown : ∀ q ∈ own, q.1 ≠ pl) (hown' : ∀ q ∈ own, q.1 ≠ tb) (ok : Ok pl tb I₀ R) (hRT : ∀ q ∈ RT, q ∈ R) (ht : Tab prog w RT ot rs) (hl : (rs.length : Int) ≤ k + 4)
    (hI : ∀ q ∈ I, q ∈ own ++ R) (hw : Wf 4 d P) (hp : PlanIn I v P) (hk0 : 0 ≤ k) (hk : k + ((cstM d : Nat) : Int) < 900000)
    (ret : ∀ v' tl ot' rs' k' h' tks tk', ExprIn w (tl ++ I₀) rs' v' P → Tab prog w (tl ++ RT) ot' rs' → Pre rs rs' → (rs'.length : Int) ≤ k' + 4 → k ≤ k' → k' ≤ k + ((cstM d : Nat) : Int) → Fr h₀ L h' m →
      News h₀ L h' (own ++ (pl, placeO k' tk' np) :: (tb, ot') :: (tl ++ R)) → Above tl ((pl, placeO k tk np) :: (tb, ot) :: (own ++ R)) → Ok pl tb I₀ (tl ++ R) → Q v' { s with heap := h', toks := tks }) :
    wpAny (model prog w) A (call (.ref 402) [.ref tf, .ref sh, .ref gl, v]) Q E s := by
  refine hP A A₀ env outer base h₀ L m s Q E (own ++ R) I RT k tk ot rs v P hA hf hke hh hd hu B F X T S (front2 N) (ok.own hown hown') (fun q h => List.mem_append_right _ (hRT q h)) ht hl hI hw hp hk0 hk
    fun v' tl ot' rs' k' h' tks tk' a b c d' e f F' N' ab => ?_
  exact ret v' tl ot' rs' k' h' tks tk' a b c d' e f F' (back2 N') ab (ok_of_above ok ab)
theorem add_use {sh dsh tr gl : Addr} {t1 t2 : Tok} {gvs : List Value} {ng : Nat} (st : Std w I₀ sh dsh tb tr gl t1 t2 gvs ng) {own R RT : LL} {po : Obj} {ot : Obj} {rs : List Value} {v : Value}
    (hA : A.frames = some (env :: outer)) (hf : env.frame = some L) (hke : env.scope.kind = .function) (hh : A.handled = none) (hd : A.depth + 60 < recursionLimit) (hu : A.units + 60 < cLine)
    (B : Below A₀ base outer h₀) (F : Fr h₀ L s.heap m) (X : (K w.params).In h₀) (T : Top p loose mean mg mb h₀)
    (N : News h₀ L s.heap (own ++ (pl, po) :: (tb, ot) :: R)) (hown' : ∀ q ∈ own, q.1 ≠ tb) (ok : Ok pl tb I₀ R) (ht : Tab prog w RT ot rs) (hl : rs.length < 1000000)
    (ret : ∀ a' tl ot' h' tks, RefIn w tl (.ref a') ((rs.length : Nat) + 1) → Tab prog w (tl ++ RT) ot' (rs ++ [v]) → Fr h₀ L h' m →
      News h₀ L h' (own ++ (pl, po) :: (tb, ot') :: (tl ++ R)) → Above tl ((pl, po) :: (tb, ot) :: (own ++ R)) → Ok pl tb I₀ (tl ++ R) → Q (.ref a') { s with heap := h', toks := tks }) :
    wpAny (model prog w) A (call (.ref 334) [.ref sh, v]) Q E s := by
  obtain ⟨kvs, h1, h2, h3, h4⟩ := ht
  refine add_core (W := own ++ (pl, po) :: R) (len := rs.length) (kvs := kvs) hA hf hke hh hd hu B F X T (front_tb N) (List.mem_append_right _ (.tail _ (ok.sub _ st.m1))) (List.mem_append_right _ (.tail _ (ok.sub _ st.m2))) h1 st.lo ?_ h2 h3 hl ?_
  · intro q hq
    rcases List.mem_append.mp hq with hq | hq
    · exact hown' q hq
    · rcases List.mem_cons.mp hq with rfl | hq
      · exact ok.ne.symm
      · exact ok.nt q hq
  · intro a' tup t n ot' h' tks tl hd' hr hm F' N' ab
    have ab' : Above tl ((pl, po) :: (tb, ot) :: (own ++ R)) := ab.sub fun r hr => by
      rcases List.mem_cons.mp hr with rfl | hr
      · exact ⟨_, .tail _ (List.mem_append_right _ (.head _)), rfl⟩
      · rcases List.mem_cons.mp hr with rfl | hr
        · exact ⟨_, .head _, rfl⟩
        · rcases List.mem_append.mp hr with hr | hr
          · exact ⟨r, .tail _ (List.mem_append_left _ hr), rfl⟩
          · exact ⟨r, .tail _ (List.mem_append_right _ (.tail _ hr)), rfl⟩
    exact ret a' tl ot' h' tks hr (Tab.snoc (R := RT) (n := n) hd' rfl h2 h3 h4 (fun q h => List.mem_append_right _ h) (List.mem_append_left _ hm)) F' (back_tb N') ab' (ok_of_above ok ab')
end
section
open LCg
variable {prog : Program} {w : World} {A : Around} {E : Value → Shared → Prop} {s : Shared} {h₀ : Heap} {L : Addr} {m : Str → Option Value} {env : Env}
theorem made_comp {elt : Expr} {x : Str} {scope : Scope} {cl : List (Str × Addr)} {Fin : List Value → LL → Prop}
    {own R I RT I₀ : LL} {pl tb ax : Addr} {np nk : Nat} {ot₀ : Obj} {rs₀ : List Value} {k₀ kend : Int} {tk₀ : Tok} (pb pt : Obj) (c : Nat) (vs : List Value) (ps : List Pl)
    (hax : (ax, lstO vs nk) ∈ R)
    (h0 : k₀ + (((ps.length - 0) * c : Nat) : Int) ≤ kend) (ok : Ok pl tb I₀ R) (hP : PlansIn I vs ps) (ht : Tab prog w RT ot₀ rs₀) (hl4 : (rs₀.length : Int) ≤ k₀ + 4)
    (step : ∀ v P ys It oI Ct oC Dt m₂ h tk (E' : Value → Shared → Prop) tl k' tk' ot rs, P ∈ ps → PlanIn I v P → NsObj oC m₂ → m₂ x = some v → Fr h₀ L h m →
      News h₀ L h ((It, oI) :: (Ct, oC) :: (Dt, lst ys) :: (own ++ (pl, placeO k' tk' np) :: (tb, ot) :: (tl ++ R))) → Off3 It Ct Dt (own ++ (pl, placeO k' tk' np) :: (tb, ot) :: (tl ++ R)) → (It ≠ Ct ∧ It ≠ Dt ∧ Ct ≠ Dt) →
      k₀ ≤ k' → k' + ((c : Nat) : Int) ≤ kend → Ok pl tb I₀ (tl ++ R) → Tab prog w (tl ++ RT) ot rs → (rs.length : Int) ≤ k' + 4 →
      wpAny (model prog w) A (eval elt (compEnvC scope cl Ct env)) (fun y s' => ∃ h' tks tl9 k9 tk9 ot9 rs9, s' = { s with heap := h', toks := tks } ∧ Fr h₀ L h' m ∧
        News h₀ L h' ((It, oI) :: (Ct, oC) :: (Dt, lst ys) :: (own ++ (pl, placeO k9 tk9 np) :: (tb, ot9) :: (tl9 ++ (tl ++ R)))) ∧ ExprIn w (tl9 ++ I₀) rs9 y P ∧ Tab prog w (tl9 ++ (tl ++ RT)) ot9 rs9 ∧ Pre rs rs9 ∧ (rs9.length : Int) ≤ k9 + 4 ∧
        k' ≤ k9 ∧ k9 ≤ k' + ((c : Nat) : Int) ∧
        Above tl9 ((pl, placeO k' tk' np) :: (tb, ot) :: ((It, oI) :: (Ct, oC) :: (Dt, lst ys) :: (own ++ (tl ++ R))))) E' { s with heap := h, toks := tk })
    (fin : ∀ ys tl k' tk' ot rs, ExprsIn w (tl ++ I₀) rs ys ps → Tab prog w (tl ++ RT) ot rs → Pre rs₀ rs → (rs.length : Int) ≤ k' + 4 → k₀ ≤ k' → k' ≤ kend → Above tl ((pl, pb) :: (tb, pt) :: R) → Ok pl tb I₀ (tl ++ R) → Fin ys (own ++ (pl, placeO k' tk' np) :: (tb, ot) :: (tl ++ R))) :
    CompRest prog w A h₀ L m env elt x scope cl s (SrcAt h₀ ax vs.toArray) (fun i v => vs.toArray[i]? = some v) Fin vs.toArray.size 0 [] (own ++ (pl, placeO k₀ tk₀ np) :: (tb, ot₀) :: R) := by
  have hl : vs.length = ps.length := hP.len
  refine comp_gen (n := vs.toArray.size) (fun i ys news => ∃ tl k' tk' ot rs, news = own ++ (pl, placeO k' tk' np) :: (tb, ot) :: (tl ++ R) ∧ ExprsIn w (tl ++ I₀) rs ys (ps.take i) ∧ Tab prog w (tl ++ RT) ot rs ∧ Pre rs₀ rs ∧ (rs.length : Int) ≤ k' + 4 ∧ k₀ ≤ k' ∧ k' + (((ps.length - i) * c : Nat) : Int) ≤ kend ∧
    Above tl ((pl, pb) :: (tb, pt) :: R) ∧ Ok pl tb I₀ (tl ++ R)) ?_ ?_ _ 0 [] _ (by omega) ⟨[], k₀, tk₀, ot₀, rs₀, rfl, by simp only [List.take_zero, ExprsIn], ht, Pre.refl _, hl4, Int.le_refl _, h0, .nil, ok⟩
  · rintro i ys news v It oI Ct oC Dt m₂ h tk E' hi ⟨tl, k', tk', ot, rs, rfl, hes, htb, hpre, hl5, hk1, hk2, hab, hok⟩ hv hNs hx F N off ne
    have hi' : i < ps.length := by simpa [hl] using hi
    obtain ⟨P, hpi, hpv⟩ := hP.get (i := i) (v := v) (by simpa using hv)
    refine wpAny_mono (step v P ys It oI Ct oC Dt m₂ h tk E' tl k' tk' ot rs (List.mem_of_getElem? hpi) hpv hNs hx F N off ne hk1 (inv_room hi' hk2) hok htb hl5) (fun y s' => ?_) fun _ _ e => e
    rintro ⟨h', tks, tl9, k9, tk9, ot9, rs9, rfl, F9, N9, e9, t9, p9, l9, j0, j1, ab9⟩
    have o9 : Off3 It Ct Dt (own ++ (pl, placeO k9 tk9 np) :: (tb, ot9) :: (tl9 ++ (tl ++ R))) := off3_own (x := (pl, placeO k' tk' np)) (x' := (pl, placeO k9 tk9 np)) (y := (tb, ot)) (y' := (tb, ot9)) rfl rfl (fun q hq => ⟨Ne.symm (ab9 q hq (It, oI) (by simp)), Ne.symm (ab9 q hq (Ct, oC) (by simp)), Ne.symm (ab9 q hq (Dt, lst ys) (by simp))⟩) off
    refine ⟨h', tks, _, rfl, F9, N9, o9, .inr ⟨lstO vs nk, List.mem_append_right _ (.tail _ (.tail _ (List.mem_append_right _ (List.mem_append_right _ hax)))), rfl, nk, rfl⟩, tl9 ++ tl, k9, tk9, ot9, rs9, by rw [List.append_assoc], ?_, ?_, hpre.trans p9, l9, by omega, inv_next hi' hk2 j1, ?_, ?_⟩
    · rw [List.append_assoc, List.take_add_one, hpi]
      refine ExprsIn.snoc (ExprIn.mono (fun q h => ?_) (Pre.refl _) e9) (ExprsIn.mono (fun q h => List.mem_append_right _ h) p9 hes)
      rcases List.mem_append.mp h with h | h
      · exact List.mem_append_left _ h
      · exact List.mem_append_right _ (List.mem_append_right _ h)
    · rw [List.append_assoc]; exact t9
    · refine Above.app (ab9.sub fun r hr => ?_) hab
      rcases List.mem_cons.mp hr with rfl | hr
      · exact ⟨_, .head _, rfl⟩
      · rcases List.mem_cons.mp hr with rfl | hr
        · exact ⟨_, .tail _ (.head _), rfl⟩
        · exact ⟨r, by simp [hr], rfl⟩
    · rw [List.append_assoc]
      refine Ok.app (po := placeO k' tk' np) (to := ot) hok (ab9.sub fun r hr => ⟨r, ?_, rfl⟩)
      rcases List.mem_cons.mp hr with rfl | hr
      · exact .head _
      · rcases List.mem_cons.mp hr with rfl | hr
        · exact .tail _ (.head _)
        · exact .tail _ (.tail _ (.tail _ (.tail _ (.tail _ (List.mem_append_right _ hr)))))
  · rintro ys news ⟨tl, k', tk', ot, rs, rfl, hes, htb, hpre, hl5, hk1, hk2, hab, hok⟩
    have e : ps.take vs.toArray.size = ps := List.take_of_length_le (by simp [hl])
    rw [e] at hes
    have hz : (((ps.length - vs.toArray.size) * c : Nat) : Int) = 0 := by simp [hl]
    exact fin ys tl k' tk' ot rs hes htb hpre hl5 hk1 (by omega) hab hok
end
theorem invM_le {k k1 : Int} {n c : Nat} (hk : k1 ≤ k) (h : n ≤ 4) : k1 + (((n - 0) * c : Nat) : Int) ≤ k + ((4 * c : Nat) : Int) := by
  have : (n - 0) * c ≤ 4 * c := Nat.mul_le_mul_right _ (by omega)
  generalize (n - 0) * c = x at *
  omega
theorem mem_app_mono {α : Type} {tl R RT : List α} (h : ∀ q ∈ RT, q ∈ R) : ∀ q ∈ tl ++ RT, q ∈ tl ++ R := fun q hq => by
  rcases List.mem_append.mp hq with hq | hq
  · exact List.mem_append_left _ hq
  · exact List.mem_append_right _ (h q hq)
theorem mem_own2 {α : Type} {own tl tl9 I : List α} {q : α} (h : q ∈ tl ++ I) : q ∈ (own ++ (tl9 ++ tl)) ++ I := by
  simp only [List.mem_append] at h ⊢
  rcases h with h | h <;> simp [h]
theorem mem_own3 {α : Type} {own tl tl9 I : List α} {q : α} (h : q ∈ tl9 ++ (tl ++ I)) : q ∈ (own ++ (tl9 ++ tl)) ++ I := by
  simp only [List.mem_append] at h ⊢
  rcases h with h | h | h <;> simp [h]
end
/-! ## part F5 -/
section
example : True := by (w_top off; trivial)
local macro_rules | `(tactic| walk_at "eval ListComp") => `(tactic| (k_here; k_dflt (refine LCg.ListComp_U (F₀ := by k_asm) (by with_unfolding_all rfl) (by decide) (by rfl) (by decide) (by rfl) ?_)))
local macro_rules | `(tactic| walk_at "exec Assign cons ListComp") => `(tactic| (k_here; k_dflt (refine LCg.Assign_ListComp_U (F₀ := by k_asm) (by rfl) (by with_unfolding_all rfl) (by with_unfolding_all rfl) (by decide) (by rfl) (by decide) (by rfl) (by rfl) (by rfl) ?_)))
theorem made_spec {prog : Program} {w : World} {p : Program} {loose : List Str} {mean : ExcName → Option Value} {mg mb : Str → Option Value} {np : Nat} {pl tb tf : Addr} {I₀ : LL}
    {sh dsh tr gl : Addr} {t1 t2 : Tok} {gvs : List Value} {ng : Nat} (std : Std w I₀ sh dsh tb tr gl t1 t2 gvs ng)
    (hT : TakeSpec prog w p loose mean mg mb np pl tf I₀) (hFn : FnIn I₀ tf) : ∀ d : Nat, MadeSpec prog w p loose mean mg mb np pl tb tf I₀ sh gl d := by
  intro d
  induction d with
  | zero =>
    intro A A₀ env outer base h₀ L m s Q E R I RT k tk ot rs v P hA hf hke hh hd hu B F X T S N ok hRT ht hrl hI hw hp hk0 hk ret
    obtain ⟨hd', dp, fr, gd, un⟩ := A
    dsimp only at hA hh hd hu hk ret
    subst hA hh
    cases P with
    | op wd ps => (exfalso; simp only [Wf] at hw)
    | g i =>
      have hi : i < 4 := by simpa only [Wf] using hw
      simp only [PlanIn] at hp
      obtain ⟨t, rfl⟩ := hp
      have hgl := ok.sub _ std.mg
      have hgn := std.len
      refine wpAny_call ?_
      k_dflt (refine' code_defC B F X N T rfl hf hke ?k6 ?k7 ?k8 ?k9 ?kB ?kD ?_ ?c2 ?c3 ?c4; (case k6 => k_is); (case k7 => k_is); (case k8 => (simp only [recursionLimit] at *; omega)); (case k9 => first | exact BindsTo.of_eq rfl | exact binds_K (by k_in) rfl (by k_is) rfl rfl rfl); (case kB => exact rfl); (case kD => decide +kernel); (case c2 => exact rfl); (case c3 => exact rfl); (case c4 => exact rfl))
      k_dflt (intro g' L' h' tk' cells' FG' F' N' Y' B' X' T' l1; (have l0 := l1); (try k_lt l1); k_cells Y'; (try simp only [List.cons_append, List.nil_append] at N'); (try dsimp only))
      try (have S' := S.keeps FG'.keep; clear S)
      clear N F X T B
      k_unmd
      k_fold
      repeat' ((fail_if_success (with_reducible show LCg.CompSrc _ _ _ _ _ _ _ _ _ _ _ _ _ _)); (fail_if_success (with_reducible show LeaveK h₀ L m _ _ _ _)); (fail_if_success (with_reducible show Exists _)); first | ((with_reducible show wpAny _ _ (subscriptTail (Expr.Name _ _) _ (Value.ref _) (Value.int _ _)) _ _ _); k_here; k_dflt (refine' itemE_N ?N ?m ?a ?b ?c ?_ ?hs; (case N => k_asm); (case m => k_mem); (case a | b | c => omega); (case hs => with_unfolding_all rfl)); intro ve9 hve9) | ((with_reducible show wpAny _ _ (binaryOp _ (Value.ref _) (Value.ref _)) _ _ _); k_here; k_dflt (refine' add_N ?F ?N ?a ?b ?c ?_; (case F | N => k_asm); (case a | b => k_mem); (case c => (simp only [List.length_append, List.length_drop, List.length_take, List.length_cons, List.length_nil]; omega))); intro Dz hz Fz Nz l1z; (try k_lt l1z)) | ((with_reducible show wpAny _ _ (call (Value.ref 334) [Value.ref _, _]) _ _ _); k_here; k_dflt (refine' add_use std ?hA ?hf ?hke ?hh ?hd ?hu ?B ?F ?X ?T ?N ?ow' ?ok ?ht ?hl ?_; (case hA | hf | hke | hh => exact rfl); (case hd => ktr_room); (case hu => ktr_units); (case B | F | X | T => k_asm); (case N => tb_start); (case ow' => tb_rel); (case ok | ht => assumption); (case hl => omega)); intro a9 tl9 ot9 h9 tk9 e9 t9 F9 N9 ab9 ok9; (try simp only [List.cons_append, List.nil_append] at N9)) | ((with_reducible show wpAny _ _ (call (Value.ref 402) [Value.ref _, Value.ref _, Value.ref _, _]) _ _ _); k_here; k_dflt (refine' made_use (I := I) ih ?hA ?hf ?hke ?hh ?hd ?hu ?B ?F ?X ?T ?S ?N ?ow ?ow' ?ok ?hRT ?ht ?hl ?hI ?hw ?hp ?k0 ?k1 ?_; (case hA | hf | hke | hh => exact rfl); (case hd => ktr_room); (case hu => ktr_units); (case B | F | X | T | S => k_asm); (case N => tb_start); (case ow => tb_rel); (case ow' => tb_rel); (case ok => assumption); (case hRT => exact mem_app_mono hRT); (case ht | hl => assumption); (case hI => exact fun q h => List.mem_append_right _ (List.mem_append_right _ (hI q h))); (case hw | hp => assumption); (case k0 | k1 => omega)); intro v9 tl9 ot9 rs9 k9 h9 tk9 tk8 e9 t9 p9 l9 i0 i1 F9 N9 ab9 ok9; (try simp only [List.cons_append, List.nil_append] at N9)) | (k_unfold; (try dsimp only)) | (k_end; wrow_close) | walk1 | (dsimp only; walk1) | (leave1; walk_say "STEP leave1"; try dsimp only) | fail "no step")
      k_dflt (refine' leaveK_ ?k1 ?k2 ?_; (case k1 => k_asm); (case k2 => k_asm))
      intro kF kN
      rw [Int.toNat_natCast] at hve9
      refine ret _ ([_, _, _] ++ []) ot rs k _ _ _ ?pA (ht.mono fun q h => List.mem_append_right _ h) (Pre.refl _) hrl (by omega) (by omega) kF (front2a (own := [_, _, _]) (tl := []) kN) (.cons (above_lt l0 (by omega)) (.cons (above_lt l0 (by omega)) (.cons (above_lt l0 (by omega)) .nil)))
      case pA => simp only [ExprIn]; exact (std.grp i _ hve9).mono fun q h => List.mem_append_right _ h
  | succ d ih =>
    intro A A₀ env outer base h₀ L m s Q E R I RT k tk ot rs v P hA hf hke hh hd hu B F X T S N ok hRT ht hrl hI hw hp hk0 hk ret
    obtain ⟨hd', dp, fr, gd, un⟩ := A
    dsimp only at hA hh hd hu hk ret
    subst hA hh
    cases P with
    | g i =>
      have hi : i < 4 := by simpa only [Wf] using hw
      simp only [PlanIn] at hp
      obtain ⟨t, rfl⟩ := hp
      have hgl := ok.sub _ std.mg
      have hgn := std.len
      refine wpAny_call ?_
      k_dflt (refine' code_defC B F X N T rfl hf hke ?k6 ?k7 ?k8 ?k9 ?kB ?kD ?_ ?c2 ?c3 ?c4; (case k6 => k_is); (case k7 => k_is); (case k8 => (simp only [recursionLimit] at *; omega)); (case k9 => first | exact BindsTo.of_eq rfl | exact binds_K (by k_in) rfl (by k_is) rfl rfl rfl); (case kB => exact rfl); (case kD => decide +kernel); (case c2 => exact rfl); (case c3 => exact rfl); (case c4 => exact rfl))
      k_dflt (intro g' L' h' tk' cells' FG' F' N' Y' B' X' T' l1; (have l0 := l1); (try k_lt l1); k_cells Y'; (try simp only [List.cons_append, List.nil_append] at N'); (try dsimp only))
      try (have S' := S.keeps FG'.keep; clear S)
      clear N F X T B
      k_unmd
      k_fold
      repeat' ((fail_if_success (with_reducible show LCg.CompSrc _ _ _ _ _ _ _ _ _ _ _ _ _ _)); (fail_if_success (with_reducible show LeaveK h₀ L m _ _ _ _)); (fail_if_success (with_reducible show Exists _)); first | ((with_reducible show wpAny _ _ (subscriptTail (Expr.Name _ _) _ (Value.ref _) (Value.int _ _)) _ _ _); k_here; k_dflt (refine' itemE_N ?N ?m ?a ?b ?c ?_ ?hs; (case N => k_asm); (case m => k_mem); (case a | b | c => omega); (case hs => with_unfolding_all rfl)); intro ve9 hve9) | ((with_reducible show wpAny _ _ (binaryOp _ (Value.ref _) (Value.ref _)) _ _ _); k_here; k_dflt (refine' add_N ?F ?N ?a ?b ?c ?_; (case F | N => k_asm); (case a | b => k_mem); (case c => (simp only [List.length_append, List.length_drop, List.length_take, List.length_cons, List.length_nil]; omega))); intro Dz hz Fz Nz l1z; (try k_lt l1z)) | ((with_reducible show wpAny _ _ (call (Value.ref 334) [Value.ref _, _]) _ _ _); k_here; k_dflt (refine' add_use std ?hA ?hf ?hke ?hh ?hd ?hu ?B ?F ?X ?T ?N ?ow' ?ok ?ht ?hl ?_; (case hA | hf | hke | hh => exact rfl); (case hd => ktr_room); (case hu => ktr_units); (case B | F | X | T => k_asm); (case N => tb_start); (case ow' => tb_rel); (case ok | ht => assumption); (case hl => omega)); intro a9 tl9 ot9 h9 tk9 e9 t9 F9 N9 ab9 ok9; (try simp only [List.cons_append, List.nil_append] at N9)) | ((with_reducible show wpAny _ _ (call (Value.ref 402) [Value.ref _, Value.ref _, Value.ref _, _]) _ _ _); k_here; k_dflt (refine' made_use (I := I) ih ?hA ?hf ?hke ?hh ?hd ?hu ?B ?F ?X ?T ?S ?N ?ow ?ow' ?ok ?hRT ?ht ?hl ?hI ?hw ?hp ?k0 ?k1 ?_; (case hA | hf | hke | hh => exact rfl); (case hd => ktr_room); (case hu => ktr_units); (case B | F | X | T | S => k_asm); (case N => tb_start); (case ow => tb_rel); (case ow' => tb_rel); (case ok => assumption); (case hRT => exact mem_app_mono hRT); (case ht | hl => assumption); (case hI => exact fun q h => List.mem_append_right _ (List.mem_append_right _ (hI q h))); (case hw | hp => assumption); (case k0 | k1 => omega)); intro v9 tl9 ot9 rs9 k9 h9 tk9 tk8 e9 t9 p9 l9 i0 i1 F9 N9 ab9 ok9; (try simp only [List.cons_append, List.nil_append] at N9)) | (k_unfold; (try dsimp only)) | (k_end; wrow_close) | walk1 | (dsimp only; walk1) | (leave1; walk_say "STEP leave1"; try dsimp only) | fail "no step")
      k_dflt (refine' leaveK_ ?k1 ?k2 ?_; (case k1 => k_asm); (case k2 => k_asm))
      intro kF kN
      rw [Int.toNat_natCast] at hve9
      refine ret _ ([_, _, _] ++ []) ot rs k _ _ _ ?pA (ht.mono fun q h => List.mem_append_right _ h) (Pre.refl _) hrl (by omega) (by omega) kF (front2a (own := [_, _, _]) (tl := []) kN) (.cons (above_lt l0 (by omega)) (.cons (above_lt l0 (by omega)) (.cons (above_lt l0 (by omega)) .nil)))
      case pA => simp only [ExprIn]; exact (std.grp i _ hve9).mono fun q h => List.mem_append_right _ h
    | op wd ps =>
      simp only [PlanIn] at hp
      obtain ⟨a, l, t, vs, n1, n2, rfl, ha, hl0, hps⟩ := hp
      have ha' := hI _ ha
      have hl' := hI _ hl0
      simp only [Wf] at hw
      obtain ⟨hw1, hw2, hw3, hw4⟩ := hw
      have hlen := hps.len
      have hcc : cstM (d + 1) = 1 + 4 * cstM d := rfl
      rw [hcc] at hk ret
      refine wpAny_call ?_
      k_dflt (refine' code_defC B F X N T rfl hf hke ?k6 ?k7 ?k8 ?k9 ?kB ?kD ?_ ?c2 ?c3 ?c4; (case k6 => k_is); (case k7 => k_is); (case k8 => (simp only [recursionLimit] at *; omega)); (case k9 => first | exact BindsTo.of_eq rfl | exact binds_K (by k_in) rfl (by k_is) rfl rfl rfl); (case kB => exact rfl); (case kD => decide +kernel); (case c2 => exact rfl); (case c3 => exact rfl); (case c4 => exact rfl))
      k_dflt (intro g' L' h' tk' cells' FG' F' N' Y' B' X' T' l1; (have l0 := l1); (try k_lt l1); k_cells Y'; (try simp only [List.cons_append, List.nil_append] at N'); (try dsimp only))
      try (have S' := S.keeps FG'.keep; clear S)
      clear N F X T B
      k_unmd
      k_fold
      repeat' ((fail_if_success (with_reducible show LCg.CompSrc _ _ _ _ _ _ _ _ _ _ _ _ _ _)); (fail_if_success (with_reducible show LeaveK h₀ L m _ _ _ _)); (fail_if_success (with_reducible show Exists _)); first | ((with_reducible show wpAny _ _ (subscriptTail (Expr.Name _ _) _ (Value.ref _) (Value.int _ _)) _ _ _); k_here; k_dflt (refine' itemE_N ?N ?m ?a ?b ?c ?_ ?hs; (case N => k_asm); (case m => k_mem); (case a | b | c => omega); (case hs => with_unfolding_all rfl)); intro ve9 hve9) | ((with_reducible show wpAny _ _ (binaryOp _ (Value.ref _) (Value.ref _)) _ _ _); k_here; k_dflt (refine' add_N ?F ?N ?a ?b ?c ?_; (case F | N => k_asm); (case a | b => k_mem); (case c => (simp only [List.length_append, List.length_drop, List.length_take, List.length_cons, List.length_nil]; omega))); intro Dz hz Fz Nz l1z; (try k_lt l1z)) | ((with_reducible show wpAny _ _ (call (Value.ref 334) [Value.ref _, _]) _ _ _); k_here; k_dflt (refine' add_use std ?hA ?hf ?hke ?hh ?hd ?hu ?B ?F ?X ?T ?N ?ow' ?ok ?ht ?hl ?_; (case hA | hf | hke | hh => exact rfl); (case hd => ktr_room); (case hu => ktr_units); (case B | F | X | T => k_asm); (case N => tb_start); (case ow' => tb_rel); (case ok | ht => assumption); (case hl => omega)); intro a9 tl9 ot9 h9 tk9 e9 t9 F9 N9 ab9 ok9; (try simp only [List.cons_append, List.nil_append] at N9)) | ((with_reducible show wpAny _ _ (call (Value.ref 402) [Value.ref _, Value.ref _, Value.ref _, _]) _ _ _); k_here; k_dflt (refine' made_use (I := I) ih ?hA ?hf ?hke ?hh ?hd ?hu ?B ?F ?X ?T ?S ?N ?ow ?ow' ?ok ?hRT ?ht ?hl ?hI ?hw ?hp ?k0 ?k1 ?_; (case hA | hf | hke | hh => exact rfl); (case hd => ktr_room); (case hu => ktr_units); (case B | F | X | T | S => k_asm); (case N => tb_start); (case ow => tb_rel); (case ow' => tb_rel); (case ok => assumption); (case hRT => exact mem_app_mono hRT); (case ht | hl => assumption); (case hI => exact fun q h => List.mem_append_right _ (List.mem_append_right _ (hI q h))); (case hw | hp => assumption); (case k0 | k1 => omega)); intro v9 tl9 ot9 rs9 k9 h9 tk9 tk8 e9 t9 p9 l9 i0 i1 F9 N9 ab9 ok9; (try simp only [List.cons_append, List.nil_append] at N9)) | (k_unfold; (try dsimp only)) | (k_end; wrow_close) | walk1 | (dsimp only; walk1) | (leave1; walk_say "STEP leave1"; try dsimp only) | fail "no step")
      refine LCg.CompSrc.ledger (by rfl) (by k_asm) (by k_asm) (by k_mem) (Nat.le_trans (show vs.toArray.size ≤ 4 by simp only [List.size_toArray]; omega) (by decide)) fun g9 => ?_
      k_dflt (refine made_comp (own := [_, _, _, _, _, _]) (np := np) (kend := k + ((4 * cstM d : Nat) : Int)) (placeO k tk np) ot (cstM d) vs ps hl' (invM_le (by omega) (by omega)) ok hps ht hrl ?step ?fin)
      case step =>
        intro v P ys It oI Ct oC Dt m₂ h tk9 E' tl k8 tk8 ot8 rs8 hPm hv hNs hx F9 N9 off ne hk1 hk2 hok9 ht8 hl8
        have hw9 := Wfs.mem hw4 hPm
        simp only [List.cons_append, List.nil_append, LCg.Off3] at N9 off
        k_unmd
        repeat' ((fail_if_success (with_reducible show LCg.CompSrc _ _ _ _ _ _ _ _ _ _ _ _ _ _)); (fail_if_success (with_reducible show LeaveK h₀ L m _ _ _ _)); (fail_if_success (with_reducible show Exists _)); first | ((with_reducible show wpAny _ _ (subscriptTail (Expr.Name _ _) _ (Value.ref _) (Value.int _ _)) _ _ _); k_here; k_dflt (refine' itemE_N ?N ?m ?a ?b ?c ?_ ?hs; (case N => k_asm); (case m => k_mem); (case a | b | c => omega); (case hs => with_unfolding_all rfl)); intro ve9 hve9) | ((with_reducible show wpAny _ _ (binaryOp _ (Value.ref _) (Value.ref _)) _ _ _); k_here; k_dflt (refine' add_N ?F ?N ?a ?b ?c ?_; (case F | N => k_asm); (case a | b => k_mem); (case c => (simp only [List.length_append, List.length_drop, List.length_take, List.length_cons, List.length_nil]; omega))); intro Dz hz Fz Nz l1z; (try k_lt l1z)) | ((with_reducible show wpAny _ _ (call (Value.ref 334) [Value.ref _, _]) _ _ _); k_here; k_dflt (refine' add_use std ?hA ?hf ?hke ?hh ?hd ?hu ?B ?F ?X ?T ?N ?ow' ?ok ?ht ?hl ?_; (case hA | hf | hke | hh => exact rfl); (case hd => ktr_room); (case hu => ktr_units); (case B | F | X | T => k_asm); (case N => tb_start); (case ow' => tb_rel); (case ok | ht => assumption); (case hl => omega)); intro a9 tl9 ot9 h9 tk9 e9 t9 F9 N9 ab9 ok9; (try simp only [List.cons_append, List.nil_append] at N9)) | ((with_reducible show wpAny _ _ (call (Value.ref 402) [Value.ref _, Value.ref _, Value.ref _, _]) _ _ _); k_here; k_dflt (refine' made_use (I := I) ih ?hA ?hf ?hke ?hh ?hd ?hu ?B ?F ?X ?T ?S ?N ?ow ?ow' ?ok ?hRT ?ht ?hl ?hI ?hw ?hp ?k0 ?k1 ?_; (case hA | hf | hke | hh => exact rfl); (case hd => ktr_room); (case hu => ktr_units); (case B | F | X | T | S => k_asm); (case N => tb_start); (case ow => tb_rel); (case ow' => tb_rel); (case ok => assumption); (case hRT => exact mem_app_mono hRT); (case ht | hl => assumption); (case hI => exact fun q h => List.mem_append_right _ (List.mem_append_right _ (hI q h))); (case hw | hp => assumption); (case k0 | k1 => omega)); intro v9 tl9 ot9 rs9 k9 h9 tk9 tk8 e9 t9 p9 l9 i0 i1 F9 N9 ab9 ok9; (try simp only [List.cons_append, List.nil_append] at N9)) | (k_unfold; (try dsimp only)) | (k_end; wrow_close) | walk1 | (dsimp only; walk1) | (leave1; walk_say "STEP leave1"; try dsimp only) | fail "no step")
        exact ⟨_, _, tl9, k9, _, ot9, rs9, rfl, F9, N9, e9, t9, p9, l9, i0, i1, ab9⟩
      case fin =>
        intro ys tl k8 tk8 ot8 rs8 hes htb hpre hl8 hk1 hk2 hab hok D9 h9 tk9 F9 N9 o9
        have o8 := o9
        have hly := hes.len
        have s1 := hok.sub _ std.m1
        have s2 := hok.sub _ std.m2
        simp only [List.cons_append, List.nil_append, LCg.Off1] at N9 o9
        k_unmd
        repeat' ((fail_if_success (with_reducible show LCg.CompSrc _ _ _ _ _ _ _ _ _ _ _ _ _ _)); (fail_if_success (with_reducible show LeaveK h₀ L m _ _ _ _)); (fail_if_success (with_reducible show Exists _)); first | ((with_reducible show wpAny _ _ (subscriptTail (Expr.Name _ _) _ (Value.ref _) (Value.int _ _)) _ _ _); k_here; k_dflt (refine' itemE_N ?N ?m ?a ?b ?c ?_ ?hs; (case N => k_asm); (case m => k_mem); (case a | b | c => omega); (case hs => with_unfolding_all rfl)); intro ve9 hve9) | ((with_reducible show wpAny _ _ (binaryOp _ (Value.ref _) (Value.ref _)) _ _ _); k_here; k_dflt (refine' add_N ?F ?N ?a ?b ?c ?_; (case F | N => k_asm); (case a | b => k_mem); (case c => (simp only [List.length_append, List.length_drop, List.length_take, List.length_cons, List.length_nil]; omega))); intro Dz hz Fz Nz l1z; (try k_lt l1z)) | ((with_reducible show wpAny _ _ (call (Value.ref 334) [Value.ref _, _]) _ _ _); k_here; k_dflt (refine' add_use std ?hA ?hf ?hke ?hh ?hd ?hu ?B ?F ?X ?T ?N ?ow' ?ok ?ht ?hl ?_; (case hA | hf | hke | hh => exact rfl); (case hd => ktr_room); (case hu => ktr_units); (case B | F | X | T => k_asm); (case N => tb_start); (case ow' => tb_rel); (case ok | ht => assumption); (case hl => omega)); intro a9 tl9 ot9 h9 tk9 e9 t9 F9 N9 ab9 ok9; (try simp only [List.cons_append, List.nil_append] at N9)) | ((with_reducible show wpAny _ _ (call (Value.ref 402) [Value.ref _, Value.ref _, Value.ref _, _]) _ _ _); k_here; k_dflt (refine' made_use (I := I) ih ?hA ?hf ?hke ?hh ?hd ?hu ?B ?F ?X ?T ?S ?N ?ow ?ow' ?ok ?hRT ?ht ?hl ?hI ?hw ?hp ?k0 ?k1 ?_; (case hA | hf | hke | hh => exact rfl); (case hd => ktr_room); (case hu => ktr_units); (case B | F | X | T | S => k_asm); (case N => tb_start); (case ow => tb_rel); (case ow' => tb_rel); (case ok => assumption); (case hRT => exact mem_app_mono hRT); (case ht | hl => assumption); (case hI => exact fun q h => List.mem_append_right _ (List.mem_append_right _ (hI q h))); (case hw | hp => assumption); (case k0 | k1 => omega)); intro v9 tl9 ot9 rs9 k9 h9 tk9 tk8 e9 t9 p9 l9 i0 i1 F9 N9 ab9 ok9; (try simp only [List.cons_append, List.nil_append] at N9)) | (k_unfold; (try dsimp only)) | (k_end; wrow_close) | walk1 | (dsimp only; walk1) | (leave1; walk_say "STEP leave1"; try dsimp only) | fail "no step")
        all_goals (
          k_dflt (refine' leaveK_ ?k1 ?k2 ?_; (case k1 => k_asm); (case k2 => k_asm))
          intro kF kN)
        · refine ret _ ([_, _, _, _, _, _, _, _] ++ (tl9 ++ tl)) ot9 _ (k8 + 1) _ _ _ ?pA (by exact t9.mono fun _ h => mem_own3 h) (by exact hpre.trans (Pre.snoc _ _)) ?pL (by omega) (by omega) kF (front3 (own := [_, _, _, _, _, _, _, _]) kN) ?pE
          case pA =>
            simp only [ExprIn]
            exact ⟨_, _, ys, _, List.mem_append_left _ (List.mem_append_left _ (.head _)), ⟨_, _, _, _, rfl, List.mem_append_left _ (List.mem_append_left _ (.tail _ (.tail _ (.tail _ (.head _))))), List.mem_append_left _ (List.mem_append_left _ (.tail _ (.tail _ (.tail _ (.tail _ (.head _))))))⟩, ExprsIn.mono (fun _ h => mem_own2 h) (Pre.snoc _ _) hes, .inr ⟨_, RefIn.mono (fun q h => List.mem_append_left _ (List.mem_append_right _ (List.mem_append_left _ h))) e9, by simp⟩⟩
          case pL => simp only [List.length_append, List.length_cons, List.length_nil]; omega
          case pE => exact .app (.cons (above_lt l0 (by omega)) (.cons (off1_base (own := [_, _, _, _, _, _]) o8 rfl rfl) (.cons (above_lt l0 (by omega)) (.cons (above_lt l0 (by omega)) (.cons (above_lt l0 (by omega)) (.cons (above_lt l0 (by omega)) (.cons (above_lt l0 (by omega)) (.cons (above_lt l0 (by omega)) (.nil))))))))) (.app (ab_sub2 ab9 rfl rfl) (ab_sub (own := []) hab rfl rfl))
        · refine ret _ ([_, _, _, _, _, _, _, _] ++ tl) ot8 rs8 (k8 + 1) _ _ _ ?pA ?pT hpre (by omega) (by omega) (by omega) kF (front2a (own := [_, _, _, _, _, _, _, _]) kN) ?pE
          case pA =>
            simp only [ExprIn]
            exact ⟨_, _, ys, _, List.mem_append_left _ (List.mem_append_left _ (.head _)), ⟨_, _, _, _, rfl, List.mem_append_left _ (List.mem_append_left _ (.tail _ (.tail _ (.tail _ (.head _))))), List.mem_append_left _ (List.mem_append_left _ (.tail _ (.tail _ (.tail _ (.tail _ (.head _))))))⟩, ExprsIn.mono (fun _ h => mem_own h) (Pre.refl _) hes, .inl rfl⟩
          case pT => exact htb.mono fun _ h => mem_own h
          case pE => exact .app (.cons (above_lt l0 (by omega)) (.cons (off1_base (own := [_, _, _, _, _, _]) o8 rfl rfl) (.cons (above_lt l0 (by omega)) (.cons (above_lt l0 (by omega)) (.cons (above_lt l0 (by omega)) (.cons (above_lt l0 (by omega)) (.cons (above_lt l0 (by omega)) (.cons (above_lt l0 (by omega)) (.nil))))))))) (ab_sub (own := []) hab rfl rfl)
end
/-! ## part T4 -/
section
example : True := by (w_top off; trivial)
local macro_rules | `(tactic| walk_at "eval ListComp") => `(tactic| (k_here; k_dflt (refine LCg.ListComp_U (F₀ := by k_asm) (by with_unfolding_all rfl) (by decide) (by rfl) (by decide) (by rfl) ?_)))
theorem plan_spec {prog : Program} {w : World} {p : Program} {loose : List Str} {mean : ExcName → Option Value} {mg mb : Str → Option Value} {np : Nat} {pl tb tf : Addr} {I₀ : LL}
    (hT : TakeSpec prog w p loose mean mg mb np pl tf I₀) (hFn : FnIn I₀ tf) : ∀ (d : Nat), PlanSpec prog w p loose mean mg mb np pl tb tf I₀ d := by
  intro d
  induction d with
  | zero =>
    intro A A₀ env outer base h₀ L m s Q E R k tk dtk ot pn e he hA hf hke hh hd hu B F X T S N ok hk0 hk ret
    subst he
    obtain ⟨hd', dp, fr, gd, un⟩ := A
    dsimp only at hA hh hd hu
    subst hA hh
    have hc : cst 0 = 2 := rfl
    rw [hc] at hk ret
    refine wpAny_call ?_
    k_dflt (refine' code_defC B F X N T rfl hf hke ?k6 ?k7 ?k8 ?k9 ?kB ?kD ?_ ?c2 ?c3 ?c4; (case k6 => k_is); (case k7 => k_is); (case k8 => (simp only [recursionLimit] at *; omega)); (case k9 => first | exact BindsTo.of_eq rfl | exact binds_K (by k_in) rfl (by k_is) rfl rfl rfl); (case kB => exact rfl); (case kD => decide +kernel); (case c2 => exact rfl); (case c3 => exact rfl); (case c4 => exact rfl))
    k_dflt (intro g' L' h' tk' cells' FG' F' N' Y' B' X' T' l1; (have l0 := l1); (try k_lt l1); k_cells Y'; (try simp only [List.cons_append, List.nil_append] at N'); (try dsimp only))
    try (have S' := S.keeps FG'.keep; clear S)
    clear N F X T B
    k_unmd
    k_fold
    repeat' ((fail_if_success (with_reducible show LCg.CompSrc _ _ _ _ _ _ _ _ _ _ _ _ _ _)); (fail_if_success (with_reducible show LeaveK _ _ _ _ _ _ _)); (fail_if_success (with_reducible show Exists _)); first | ((with_reducible show wpAny _ _ (subscriptTail _ _ (Value.ref _) (Value.int _ _)) _ _ _); k_here; k_dflt (refine' pick_word ?N ?m ?a ?b ?_ ?hs; (case N => k_asm); (case m => k_mem); (case a | b => assumption); (case hs => with_unfolding_all rfl)); intro wd9 tw9 nw9) | ((with_reducible show wpAny _ _ (call (Value.ref 397) [Value.ref _, Value.int _ _, Value.bool _]) _ _ _); k_here; k_dflt (refine' plan_use ?hP ?he ?hA ?hf ?hke ?hh ?hd ?hu ?B ?F ?X ?T ?S ?N ?ow ?ow' ?ok ?k0 ?k1 ?_; (case hP => assumption); (case he => omega); (case hA | hf | hke | hh => exact rfl); (case hd => ktr_room); (case hu => ktr_units); (case B | F | X | T | S => k_asm); (case N => tb_start); (case ow => tb_rel); (case ow' => tb_rel); (case ok => assumption); (case k0 | k1 => omega)); intro v9 P9 tl9 k9 h9 tk9 tk8 p9 q9 i0 i1 F9 N9 ab9 ok9; (try simp only [List.cons_append, List.nil_append] at N9)) | (k_unfold; (try dsimp only)) | (k_end; wrow_close) | walk1 | (dsimp only; walk1) | (leave1; walk_say "STEP leave1"; try dsimp only) | fail "no step")
    k_dflt (refine' leaveK_ ?k1 ?k2 ?_; (case k1 => k_asm); (case k2 => k_asm))
    intro kF kN
    exact ret _ _ _ _ _ _ _ (plan_intA (by assumption)) (plan_intB (by assumption) (by assumption)) (by omega) (by omega) kF (front2 (own := [_, _, _]) kN) (.cons (above_lt l0 (by omega)) (.cons (above_lt l0 (by omega)) (.cons (above_lt l0 (by omega)) .nil)))
  | succ d ih =>
    intro A A₀ env outer base h₀ L m s Q E R k tk dtk ot pn e he hA hf hke hh hd hu B F X T S N ok hk0 hk ret
    subst he
    obtain ⟨hd', dp, fr, gd, un⟩ := A
    dsimp only at hA hh hd hu
    subst hA hh
    have hc : cst (d + 1) = 3 + 3 * cst d := rfl
    have hcp := cst_pos d
    rw [hc] at hk ret
    refine wpAny_call ?_
    k_dflt (refine' code_defC B F X N T rfl hf hke ?k6 ?k7 ?k8 ?k9 ?kB ?kD ?_ ?c2 ?c3 ?c4; (case k6 => k_is); (case k7 => k_is); (case k8 => (simp only [recursionLimit] at *; omega)); (case k9 => first | exact BindsTo.of_eq rfl | exact binds_K (by k_in) rfl (by k_is) rfl rfl rfl); (case kB => exact rfl); (case kD => decide +kernel); (case c2 => exact rfl); (case c3 => exact rfl); (case c4 => exact rfl))
    k_dflt (intro g' L' h' tk' cells' FG' F' N' Y' B' X' T' l1; (have l0 := l1); (try k_lt l1); k_cells Y'; (try simp only [List.cons_append, List.nil_append] at N'); (try dsimp only))
    try (have S' := S.keeps FG'.keep; clear S)
    clear N F X T B
    k_unmd
    k_fold
    repeat' ((fail_if_success (with_reducible show LCg.CompSrc _ _ _ _ _ _ _ _ _ _ _ _ _ _)); (fail_if_success (with_reducible show LeaveK _ _ _ _ _ _ _)); (fail_if_success (with_reducible show Exists _)); first | ((with_reducible show wpAny _ _ (subscriptTail _ _ (Value.ref _) (Value.int _ _)) _ _ _); k_here; k_dflt (refine' pick_word ?N ?m ?a ?b ?_ ?hs; (case N => k_asm); (case m => k_mem); (case a | b => assumption); (case hs => with_unfolding_all rfl)); intro wd9 tw9 nw9) | ((with_reducible show wpAny _ _ (call (Value.ref 397) [Value.ref _, Value.int _ _, Value.bool _]) _ _ _); k_here; k_dflt (refine' plan_use ?hP ?he ?hA ?hf ?hke ?hh ?hd ?hu ?B ?F ?X ?T ?S ?N ?ow ?ow' ?ok ?k0 ?k1 ?_; (case hP => assumption); (case he => omega); (case hA | hf | hke | hh => exact rfl); (case hd => ktr_room); (case hu => ktr_units); (case B | F | X | T | S => k_asm); (case N => tb_start); (case ow => tb_rel); (case ow' => tb_rel); (case ok => assumption); (case k0 | k1 => omega)); intro v9 P9 tl9 k9 h9 tk9 tk8 p9 q9 i0 i1 F9 N9 ab9 ok9; (try simp only [List.cons_append, List.nil_append] at N9)) | (k_unfold; (try dsimp only)) | (k_end; wrow_close) | walk1 | (dsimp only; walk1) | (leave1; walk_say "STEP leave1"; try dsimp only) | fail "no step")
    all_goals (try (
      k_dflt (refine' leaveK_ ?k1 ?k2 ?_; (case k1 => k_asm); (case k2 => k_asm))
      intro kF kN
      first
      | exact ret _ _ _ _ _ _ _ (plan_intA (by assumption)) (plan_intB (by assumption) (by assumption)) (by omega) (by omega) kF (front2 (own := [_, _, _]) kN) (.cons (above_lt l0 (by omega)) (.cons (above_lt l0 (by omega)) (.cons (above_lt l0 (by omega)) .nil)))
      | (refine ret _ (.op .not [P9]) _ k9 _ _ _ ?pA ?pB ?pC ?pD kF (front2a (own := [_, _, _, _, _]) kN) ?pE
         case pA => (simp only [PlanIn, PlansIn]; exact ⟨_, _, _, [v9], _, _, rfl, List.mem_append_left _ (.head _), List.mem_append_left _ (.tail _ (.head _)), PlanIn.mono (fun q h => List.mem_append_right _ h) p9, trivial⟩)
         case pB => (simp only [PlOk, PlsOk]; exact ⟨by simp, by simp, fun _ => ⟨rfl, by assumption⟩, q9, trivial⟩)
         case pC => omega
         case pD => omega
         case pE => exact .app (.cons (above_lt l0 (by omega)) (.cons (above_lt l0 (by omega)) (.cons (above_lt l0 (by omega)) (.cons (above_lt l0 (by omega)) (.cons (above_lt l0 (by omega)) .nil))))) (ab_sub ab9 rfl rfl))))
    all_goals (
      k_dflt (refine' compRange ?hh ?F ?N ?hr ?h1 ?h3 ?_; (case hh => exact rfl); (case F => k_asm); (case N => k_asm); (case hr => assumption); (case h1 => omega); (case h3 => omega))
      intro g9 n9 hn9)
    all_goals (
      refine plan_comp (own := [_, _, _, _]) (n := n9) (pn := pn) (d := d) (kend := k + ((3 + 3 * cst d : Nat) : Int)) (placeO k tk np) (fun _ => trivial) (inv0_le (by omega)) ok ?step ?fin
      case step =>
        intro i ys v It oI Ct oC Dt m₂ h tk9 E' tl k8 tk8 hv hNs hx F9 N9 off ne hk1 hk2 hok9
        simp only [List.cons_append, List.nil_append, LCg.Off3] at N9 off
        k_unmd
        repeat' ((fail_if_success (with_reducible show LCg.CompSrc _ _ _ _ _ _ _ _ _ _ _ _ _ _)); (fail_if_success (with_reducible show LeaveK _ _ _ _ _ _ _)); (fail_if_success (with_reducible show Exists _)); first | ((with_reducible show wpAny _ _ (subscriptTail _ _ (Value.ref _) (Value.int _ _)) _ _ _); k_here; k_dflt (refine' pick_word ?N ?m ?a ?b ?_ ?hs; (case N => k_asm); (case m => k_mem); (case a | b => assumption); (case hs => with_unfolding_all rfl)); intro wd9 tw9 nw9) | ((with_reducible show wpAny _ _ (call (Value.ref 397) [Value.ref _, Value.int _ _, Value.bool _]) _ _ _); k_here; k_dflt (refine' plan_use ?hP ?he ?hA ?hf ?hke ?hh ?hd ?hu ?B ?F ?X ?T ?S ?N ?ow ?ow' ?ok ?k0 ?k1 ?_; (case hP => assumption); (case he => omega); (case hA | hf | hke | hh => exact rfl); (case hd => ktr_room); (case hu => ktr_units); (case B | F | X | T | S => k_asm); (case N => tb_start); (case ow => tb_rel); (case ow' => tb_rel); (case ok => assumption); (case k0 | k1 => omega)); intro v9 P9 tl9 k9 h9 tk9 tk8 p9 q9 i0 i1 F9 N9 ab9 ok9; (try simp only [List.cons_append, List.nil_append] at N9)) | (k_unfold; (try dsimp only)) | (k_end; wrow_close) | walk1 | (dsimp only; walk1) | (leave1; walk_say "STEP leave1"; try dsimp only) | fail "no step")
        exact ⟨_, _, P9, tl9, k9, _, rfl, F9, N9, p9, q9, i0, i1, ab9⟩
      case fin =>
        intro ys Ps tl k8 tk8 hps hpo hlen hk1 hk2 hab D9 h9 tk9 F9 N9 o9
        have o8 := o9
        simp only [List.cons_append, List.nil_append, LCg.Off1] at N9 o9
        k_unmd
        repeat' ((fail_if_success (with_reducible show LCg.CompSrc _ _ _ _ _ _ _ _ _ _ _ _ _ _)); (fail_if_success (with_reducible show LeaveK _ _ _ _ _ _ _)); (fail_if_success (with_reducible show Exists _)); first | ((with_reducible show wpAny _ _ (subscriptTail _ _ (Value.ref _) (Value.int _ _)) _ _ _); k_here; k_dflt (refine' pick_word ?N ?m ?a ?b ?_ ?hs; (case N => k_asm); (case m => k_mem); (case a | b => assumption); (case hs => with_unfolding_all rfl)); intro wd9 tw9 nw9) | ((with_reducible show wpAny _ _ (call (Value.ref 397) [Value.ref _, Value.int _ _, Value.bool _]) _ _ _); k_here; k_dflt (refine' plan_use ?hP ?he ?hA ?hf ?hke ?hh ?hd ?hu ?B ?F ?X ?T ?S ?N ?ow ?ow' ?ok ?k0 ?k1 ?_; (case hP => assumption); (case he => omega); (case hA | hf | hke | hh => exact rfl); (case hd => ktr_room); (case hu => ktr_units); (case B | F | X | T | S => k_asm); (case N => tb_start); (case ow => tb_rel); (case ow' => tb_rel); (case ok => assumption); (case k0 | k1 => omega)); intro v9 P9 tl9 k9 h9 tk9 tk8 p9 q9 i0 i1 F9 N9 ab9 ok9; (try simp only [List.cons_append, List.nil_append] at N9)) | (k_unfold; (try dsimp only)) | (k_end; wrow_close) | walk1 | (dsimp only; walk1) | (leave1; walk_say "STEP leave1"; try dsimp only) | fail "no step")
        k_dflt (refine' leaveK_ ?k1 ?k2 ?_; (case k1 => k_asm); (case k2 => k_asm))
        intro kF kN
        refine ret _ (.op wd9 Ps) _ k8 _ _ _ ?pA ?pB ?pC ?pD kF (front2a (own := [_, _, _, _, _, _]) kN) ?pE
        case pA => (simp only [PlanIn]; exact ⟨_, _, _, ys, _, _, rfl, List.mem_append_left _ (.head _), List.mem_append_left _ (.tail _ (.head _)), PlansIn.mono (fun q h => List.mem_append_right _ h) hps⟩)
        case pB => (simp only [PlOk]; exact ⟨by omega, by omega, fun e => absurd e nw9, hpo⟩)
        case pC => omega
        case pD => omega
        case pE => exact .app (.cons (above_lt l0 (by omega)) (.cons (off1_base (own := [_, _, _, _]) o8 rfl rfl) (.cons (above_lt l0 (by omega)) (.cons (above_lt l0 (by omega)) (.cons (above_lt l0 (by omega)) (.cons (above_lt l0 (by omega)) .nil)))))) (ab_sub (own := []) hab rfl rfl))
end
/-! ## part T6 -/
section
example : True := by (w_top off; trivial)
local macro_rules | `(tactic| walk_at "none") => `(tactic| fail)
local macro_rules | `(tactic| walk_at "eval ListComp") => `(tactic| (k_here; k_dflt (refine LCg.ListComp_U (F₀ := by k_asm) (by with_unfolding_all rfl) (by decide) (by rfl) (by decide) (by rfl) ?_)))

theorem denied_spec {prog : Program} {w : World} {p : Program} {loose : List Str} {mean : ExcName → Option Value} {mg mb : Str → Option Value} {np : Nat} {pl tb : Addr} {I₀ : LL} {n : Nat} (hn : n ≤ 4) :
    ∀ d : Nat, MapSpec prog w p loose mean mg mb np pl tb I₀ 407 (fun v => [v]) (fun a b => b = denied a) n (fun _ => 0) d := by
  intro d
  induction d with
  | zero =>
    intro A A₀ env outer base h₀ L m s Q E R I k tk ot v P hA hf hke hh hd hu B F X T S N ok hI hw hp hk0 hk ret
    obtain ⟨hd', dp, fr, gd, un⟩ := A
    dsimp only at hA hh hd hu hk ret
    subst hA hh
    cases P with
    | op wd ps => (exfalso; simp only [Wf] at hw)
    | g i =>
      simp only [PlanIn] at hp
      obtain ⟨t, rfl⟩ := hp
      refine wpAny_call ?_
      k_dflt (refine' code_def B F X N T rfl hf hke ?k6 ?k7 ?k8 ?k9 ?kB ?_ ?c2 ?c3 ?c4 ?c5; (case k6 => k_is); (case k7 => k_is); (case k8 => (simp only [recursionLimit] at *; omega)); (case k9 => first | exact BindsTo.of_eq rfl | exact binds_K (by k_in) rfl (by k_is) rfl rfl rfl); (case c5 => decide); (case kB => exact locs rfl); (case c2 => exact rfl); (case c3 => exact rfl); (case c4 => exact rfl))
      k_dflt (intro g' L' h' FG' F' N' B' X' T'; (try dsimp only))
      try (have S' := S.keeps FG'.keep; clear S)
      clear N F X T B
      k_unmd
      k_fold
      repeat' ((fail_if_success (with_reducible show LCg.CompSrc _ _ _ _ _ _ _ _ _ _ _ _ _ _)); (fail_if_success (with_reducible show LeaveK _ _ _ _ _ _ _)); (fail_if_success (with_reducible show Exists _)); first | ((with_reducible show wpAny _ _ (call (Value.ref 407) [_]) _ _ _); k_here; k_dflt (refine' map_use (mk := fun v => [v]) ih ?hA ?hf ?hke ?hh ?hd ?hu ?B ?F ?X ?T ?S ?N ?ow ?ow' ?ok ?hI ?hw ?hp ?k0 ?k1 ?_; (case hA | hf | hke | hh => exact rfl); (case hd => ktr_room); (case hu => ktr_units); (case B | F | X | T | S => k_asm); (case N => tb_start); (case ow => tb_rel); (case ow' => tb_rel); (case ok => assumption); (case hI => exact fun q h => List.mem_append_right _ (hI q h)); (case hw | hp => assumption); (case k0 | k1 => omega)); intro v9 P9 tl9 k9 h9 tk9 tk8 p9 q9 i0 i1 F9 N9 ab9 ok9; (try simp only [List.cons_append, List.nil_append] at N9)) | ((with_reducible show wpAny _ _ (subscriptTail _ _ (Value.ref _) (Value.bool _)) _ _ _); k_here; k_dflt (refine' pick_tf ?N ?m ?b ?_ ?hs; (case N => k_asm); (case m => k_mem); (case b => first | exact .inl ⟨by with_unfolding_all rfl, rfl⟩ | exact .inr ⟨by with_unfolding_all rfl, rfl⟩); (case hs => with_unfolding_all rfl))) | (k_unfold; (try dsimp only)) | (k_end; wrow_close) | walk1 | (dsimp only; walk1) | (leave1; walk_say "STEP leave1"; try dsimp only) | fail "no step")
      k_dflt (refine' leaveK_ ?k1 ?k2 ?_; (case k1 => k_asm); (case k2 => k_asm))
      intro kF kN
      refine ret _ (.op .not [.g i]) _ k _ _ _ ?pA ?pB (by omega) (by omega) kF (front2a (own := [_, _]) (tl := []) kN) ?pE
      case pA => (simp only [PlanIn, PlansIn]; exact ⟨_, _, _, [_], _, _, rfl, List.mem_append_left _ (.head _), List.mem_append_left _ (.tail _ (.head _)), ⟨t, rfl⟩, trivial⟩)
      case pB => simp only [denied]
      case pE => exact .cons (by refine above_l1 ?_ ?_ ?_ <;> simp_all only) (.cons (by refine above_l1 ?_ ?_ ?_ <;> simp_all only) .nil)
  | succ d ih =>
    intro A A₀ env outer base h₀ L m s Q E R I k tk ot v P hA hf hke hh hd hu B F X T S N ok hI hw hp hk0 hk ret
    obtain ⟨hd', dp, fr, gd, un⟩ := A
    dsimp only at hA hh hd hu hk ret
    subst hA hh
    cases P with
    | g i =>
      simp only [PlanIn] at hp
      obtain ⟨t, rfl⟩ := hp
      refine wpAny_call ?_
      k_dflt (refine' code_def B F X N T rfl hf hke ?k6 ?k7 ?k8 ?k9 ?kB ?_ ?c2 ?c3 ?c4 ?c5; (case k6 => k_is); (case k7 => k_is); (case k8 => (simp only [recursionLimit] at *; omega)); (case k9 => first | exact BindsTo.of_eq rfl | exact binds_K (by k_in) rfl (by k_is) rfl rfl rfl); (case c5 => decide); (case kB => exact locs rfl); (case c2 => exact rfl); (case c3 => exact rfl); (case c4 => exact rfl))
      k_dflt (intro g' L' h' FG' F' N' B' X' T'; (try dsimp only))
      try (have S' := S.keeps FG'.keep; clear S)
      clear N F X T B
      k_unmd
      k_fold
      repeat' ((fail_if_success (with_reducible show LCg.CompSrc _ _ _ _ _ _ _ _ _ _ _ _ _ _)); (fail_if_success (with_reducible show LeaveK _ _ _ _ _ _ _)); (fail_if_success (with_reducible show Exists _)); first | ((with_reducible show wpAny _ _ (call (Value.ref 407) [_]) _ _ _); k_here; k_dflt (refine' map_use (mk := fun v => [v]) ih ?hA ?hf ?hke ?hh ?hd ?hu ?B ?F ?X ?T ?S ?N ?ow ?ow' ?ok ?hI ?hw ?hp ?k0 ?k1 ?_; (case hA | hf | hke | hh => exact rfl); (case hd => ktr_room); (case hu => ktr_units); (case B | F | X | T | S => k_asm); (case N => tb_start); (case ow => tb_rel); (case ow' => tb_rel); (case ok => assumption); (case hI => exact fun q h => List.mem_append_right _ (hI q h)); (case hw | hp => assumption); (case k0 | k1 => omega)); intro v9 P9 tl9 k9 h9 tk9 tk8 p9 q9 i0 i1 F9 N9 ab9 ok9; (try simp only [List.cons_append, List.nil_append] at N9)) | ((with_reducible show wpAny _ _ (subscriptTail _ _ (Value.ref _) (Value.bool _)) _ _ _); k_here; k_dflt (refine' pick_tf ?N ?m ?b ?_ ?hs; (case N => k_asm); (case m => k_mem); (case b => first | exact .inl ⟨by with_unfolding_all rfl, rfl⟩ | exact .inr ⟨by with_unfolding_all rfl, rfl⟩); (case hs => with_unfolding_all rfl))) | (k_unfold; (try dsimp only)) | (k_end; wrow_close) | walk1 | (dsimp only; walk1) | (leave1; walk_say "STEP leave1"; try dsimp only) | fail "no step")
      k_dflt (refine' leaveK_ ?k1 ?k2 ?_; (case k1 => k_asm); (case k2 => k_asm))
      intro kF kN
      refine ret _ (.op .not [.g i]) _ k _ _ _ ?pA ?pB (by omega) (by omega) kF (front2a (own := [_, _]) (tl := []) kN) ?pE
      case pA => (simp only [PlanIn, PlansIn]; exact ⟨_, _, _, [_], _, _, rfl, List.mem_append_left _ (.head _), List.mem_append_left _ (.tail _ (.head _)), ⟨t, rfl⟩, trivial⟩)
      case pB => simp only [denied]
      case pE => exact .cons (by refine above_l1 ?_ ?_ ?_ <;> simp_all only) (.cons (by refine above_l1 ?_ ?_ ?_ <;> simp_all only) .nil)
    | op wd ps =>
      simp only [PlanIn] at hp
      obtain ⟨a, l, t, vs, n1, n2, rfl, ha, hl, hps⟩ := hp
      have ha' := hI _ ha
      have hl' := hI _ hl
      simp only [Wf] at hw
      obtain ⟨hw1, hw2, hw3, hw4⟩ := hw
      have hlen := hps.len
      cases wd with
      | not =>
        have hw5 := hw3 rfl
        obtain ⟨p0, rfl⟩ := List.length_eq_one_iff.mp hw5
        obtain ⟨v0, rfl⟩ := List.length_eq_one_iff.mp (hlen.trans hw5)
        simp only [PlansIn] at hps
        refine wpAny_call ?_
        k_dflt (refine' code_def B F X N T rfl hf hke ?k6 ?k7 ?k8 ?k9 ?kB ?_ ?c2 ?c3 ?c4 ?c5; (case k6 => k_is); (case k7 => k_is); (case k8 => (simp only [recursionLimit] at *; omega)); (case k9 => first | exact BindsTo.of_eq rfl | exact binds_K (by k_in) rfl (by k_is) rfl rfl rfl); (case c5 => decide); (case kB => exact locs rfl); (case c2 => exact rfl); (case c3 => exact rfl); (case c4 => exact rfl))
        k_dflt (intro g' L' h' FG' F' N' B' X' T'; (try dsimp only))
        try (have S' := S.keeps FG'.keep; clear S)
        clear N F X T B
        k_unmd
        k_fold
        repeat' ((fail_if_success (with_reducible show LCg.CompSrc _ _ _ _ _ _ _ _ _ _ _ _ _ _)); (fail_if_success (with_reducible show LeaveK _ _ _ _ _ _ _)); (fail_if_success (with_reducible show Exists _)); first | ((with_reducible show wpAny _ _ (call (Value.ref 407) [_]) _ _ _); k_here; k_dflt (refine' map_use (mk := fun v => [v]) ih ?hA ?hf ?hke ?hh ?hd ?hu ?B ?F ?X ?T ?S ?N ?ow ?ow' ?ok ?hI ?hw ?hp ?k0 ?k1 ?_; (case hA | hf | hke | hh => exact rfl); (case hd => ktr_room); (case hu => ktr_units); (case B | F | X | T | S => k_asm); (case N => tb_start); (case ow => tb_rel); (case ow' => tb_rel); (case ok => assumption); (case hI => exact fun q h => List.mem_append_right _ (hI q h)); (case hw | hp => assumption); (case k0 | k1 => omega)); intro v9 P9 tl9 k9 h9 tk9 tk8 p9 q9 i0 i1 F9 N9 ab9 ok9; (try simp only [List.cons_append, List.nil_append] at N9)) | ((with_reducible show wpAny _ _ (subscriptTail _ _ (Value.ref _) (Value.bool _)) _ _ _); k_here; k_dflt (refine' pick_tf ?N ?m ?b ?_ ?hs; (case N => k_asm); (case m => k_mem); (case b => first | exact .inl ⟨by with_unfolding_all rfl, rfl⟩ | exact .inr ⟨by with_unfolding_all rfl, rfl⟩); (case hs => with_unfolding_all rfl))) | (k_unfold; (try dsimp only)) | (k_end; wrow_close) | walk1 | (dsimp only; walk1) | (leave1; walk_say "STEP leave1"; try dsimp only) | fail "no step")
        k_dflt (refine' leaveK_ ?k1 ?k2 ?_; (case k1 => k_asm); (case k2 => k_asm))
        intro kF kN
        exact ret v0 p0 [] k _ _ _ hps.1 (by simp only [denied]; rfl) (by omega) (by omega) kF kN .nil
      | or =>
        refine wpAny_call ?_
        k_dflt (refine' code_def B F X N T rfl hf hke ?k6 ?k7 ?k8 ?k9 ?kB ?_ ?c2 ?c3 ?c4 ?c5; (case k6 => k_is); (case k7 => k_is); (case k8 => (simp only [recursionLimit] at *; omega)); (case k9 => first | exact BindsTo.of_eq rfl | exact binds_K (by k_in) rfl (by k_is) rfl rfl rfl); (case c5 => decide); (case kB => exact locs rfl); (case c2 => exact rfl); (case c3 => exact rfl); (case c4 => exact rfl))
        k_dflt (intro g' L' h' FG' F' N' B' X' T'; (try dsimp only))
        try (have S' := S.keeps FG'.keep; clear S)
        clear N F X T B
        k_unmd
        k_fold
        repeat' ((fail_if_success (with_reducible show LCg.CompSrc _ _ _ _ _ _ _ _ _ _ _ _ _ _)); (fail_if_success (with_reducible show LeaveK _ _ _ _ _ _ _)); (fail_if_success (with_reducible show Exists _)); first | ((with_reducible show wpAny _ _ (call (Value.ref 407) [_]) _ _ _); k_here; k_dflt (refine' map_use (mk := fun v => [v]) ih ?hA ?hf ?hke ?hh ?hd ?hu ?B ?F ?X ?T ?S ?N ?ow ?ow' ?ok ?hI ?hw ?hp ?k0 ?k1 ?_; (case hA | hf | hke | hh => exact rfl); (case hd => ktr_room); (case hu => ktr_units); (case B | F | X | T | S => k_asm); (case N => tb_start); (case ow => tb_rel); (case ow' => tb_rel); (case ok => assumption); (case hI => exact fun q h => List.mem_append_right _ (hI q h)); (case hw | hp => assumption); (case k0 | k1 => omega)); intro v9 P9 tl9 k9 h9 tk9 tk8 p9 q9 i0 i1 F9 N9 ab9 ok9; (try simp only [List.cons_append, List.nil_append] at N9)) | ((with_reducible show wpAny _ _ (subscriptTail _ _ (Value.ref _) (Value.bool _)) _ _ _); k_here; k_dflt (refine' pick_tf ?N ?m ?b ?_ ?hs; (case N => k_asm); (case m => k_mem); (case b => first | exact .inl ⟨by with_unfolding_all rfl, rfl⟩ | exact .inr ⟨by with_unfolding_all rfl, rfl⟩); (case hs => with_unfolding_all rfl))) | (k_unfold; (try dsimp only)) | (k_end; wrow_close) | walk1 | (dsimp only; walk1) | (leave1; walk_say "STEP leave1"; try dsimp only) | fail "no step")
        refine LCg.CompSrc.ledger (by rfl) (by k_asm) (by k_asm) (by k_mem) (Nat.le_trans (show vs.toArray.size ≤ 4 by simp only [List.size_toArray]; omega) (by decide)) fun g9 => ?_
        k_dflt (refine map_comp (own := [_]) (np := np) (kend := k) (placeO k tk np) (fun a b => b = denied a) 0 vs ps hI hl' (by simp) ok hps ?step ?fin)
        case step =>
          intro v P ys It oI Ct oC Dt m₂ h tk9 E' tl k8 tk8 hPm hv hNs hx F9 N9 off ne hk1 hk2 hok9
          have hw9 := Wfs.mem hw4 hPm
          simp only [List.cons_append, List.nil_append, LCg.Off3] at N9 off
          k_unmd
          repeat' ((fail_if_success (with_reducible show LCg.CompSrc _ _ _ _ _ _ _ _ _ _ _ _ _ _)); (fail_if_success (with_reducible show LeaveK _ _ _ _ _ _ _)); (fail_if_success (with_reducible show Exists _)); first | ((with_reducible show wpAny _ _ (call (Value.ref 407) [_]) _ _ _); k_here; k_dflt (refine' map_use (mk := fun v => [v]) ih ?hA ?hf ?hke ?hh ?hd ?hu ?B ?F ?X ?T ?S ?N ?ow ?ow' ?ok ?hI ?hw ?hp ?k0 ?k1 ?_; (case hA | hf | hke | hh => exact rfl); (case hd => ktr_room); (case hu => ktr_units); (case B | F | X | T | S => k_asm); (case N => tb_start); (case ow => tb_rel); (case ow' => tb_rel); (case ok => assumption); (case hI => exact fun q h => List.mem_append_right _ (hI q h)); (case hw | hp => assumption); (case k0 | k1 => omega)); intro v9 P9 tl9 k9 h9 tk9 tk8 p9 q9 i0 i1 F9 N9 ab9 ok9; (try simp only [List.cons_append, List.nil_append] at N9)) | ((with_reducible show wpAny _ _ (subscriptTail _ _ (Value.ref _) (Value.bool _)) _ _ _); k_here; k_dflt (refine' pick_tf ?N ?m ?b ?_ ?hs; (case N => k_asm); (case m => k_mem); (case b => first | exact .inl ⟨by with_unfolding_all rfl, rfl⟩ | exact .inr ⟨by with_unfolding_all rfl, rfl⟩); (case hs => with_unfolding_all rfl))) | (k_unfold; (try dsimp only)) | (k_end; wrow_close) | walk1 | (dsimp only; walk1) | (leave1; walk_say "STEP leave1"; try dsimp only) | fail "no step")
          exact ⟨_, _, P9, tl9, k9, _, rfl, F9, N9, p9, q9, i0, by omega, ab9⟩
        case fin =>
          intro ys Ps tl k8 tk8 hps9 htw hk1 hk2 hab hok D9 h9 tk9 F9 N9 o9
          have o8 := o9
          simp only [List.cons_append, List.nil_append, LCg.Off1] at N9 o9
          k_unmd
          repeat' ((fail_if_success (with_reducible show LCg.CompSrc _ _ _ _ _ _ _ _ _ _ _ _ _ _)); (fail_if_success (with_reducible show LeaveK _ _ _ _ _ _ _)); (fail_if_success (with_reducible show Exists _)); first | ((with_reducible show wpAny _ _ (call (Value.ref 407) [_]) _ _ _); k_here; k_dflt (refine' map_use (mk := fun v => [v]) ih ?hA ?hf ?hke ?hh ?hd ?hu ?B ?F ?X ?T ?S ?N ?ow ?ow' ?ok ?hI ?hw ?hp ?k0 ?k1 ?_; (case hA | hf | hke | hh => exact rfl); (case hd => ktr_room); (case hu => ktr_units); (case B | F | X | T | S => k_asm); (case N => tb_start); (case ow => tb_rel); (case ow' => tb_rel); (case ok => assumption); (case hI => exact fun q h => List.mem_append_right _ (hI q h)); (case hw | hp => assumption); (case k0 | k1 => omega)); intro v9 P9 tl9 k9 h9 tk9 tk8 p9 q9 i0 i1 F9 N9 ab9 ok9; (try simp only [List.cons_append, List.nil_append] at N9)) | ((with_reducible show wpAny _ _ (subscriptTail _ _ (Value.ref _) (Value.bool _)) _ _ _); k_here; k_dflt (refine' pick_tf ?N ?m ?b ?_ ?hs; (case N => k_asm); (case m => k_mem); (case b => first | exact .inl ⟨by with_unfolding_all rfl, rfl⟩ | exact .inr ⟨by with_unfolding_all rfl, rfl⟩); (case hs => with_unfolding_all rfl))) | (k_unfold; (try dsimp only)) | (k_end; wrow_close) | walk1 | (dsimp only; walk1) | (leave1; walk_say "STEP leave1"; try dsimp only) | fail "no step")
          k_dflt (refine' leaveK_ ?k1 ?k2 ?_; (case k1 => k_asm); (case k2 => k_asm))
          intro kF kN
          refine ret _ (.op .and Ps) _ k8 _ _ _ ?pA ?pB hk1 (by omega) kF (front2a (own := [_, _, _]) kN) ?pE
          case pA => (simp only [PlanIn]; exact ⟨_, _, _, ys, _, _, rfl, List.mem_append_left _ (.head _), List.mem_append_left _ (.tail _ (.head _)), PlansIn.mono (fun q h => by simp only [List.mem_append] at h ⊢; rcases h with h | h <;> simp [h]) hps9⟩)
          case pB => (simp only [denied]; rw [two_denied htw])
          case pE => exact .app (.cons (by refine above_l1a (tl := tl) ?_ ?_ ?_ <;> simp_all only) (.cons (off1_base (own := [_]) o8 rfl rfl) (.cons (by refine above_l1 ?_ ?_ ?_ <;> simp_all only) .nil))) (ab_sub (own := []) hab rfl rfl)
      | and =>
        refine wpAny_call ?_
        k_dflt (refine' code_def B F X N T rfl hf hke ?k6 ?k7 ?k8 ?k9 ?kB ?_ ?c2 ?c3 ?c4 ?c5; (case k6 => k_is); (case k7 => k_is); (case k8 => (simp only [recursionLimit] at *; omega)); (case k9 => first | exact BindsTo.of_eq rfl | exact binds_K (by k_in) rfl (by k_is) rfl rfl rfl); (case c5 => decide); (case kB => exact locs rfl); (case c2 => exact rfl); (case c3 => exact rfl); (case c4 => exact rfl))
        k_dflt (intro g' L' h' FG' F' N' B' X' T'; (try dsimp only))
        try (have S' := S.keeps FG'.keep; clear S)
        clear N F X T B
        k_unmd
        k_fold
        repeat' ((fail_if_success (with_reducible show LCg.CompSrc _ _ _ _ _ _ _ _ _ _ _ _ _ _)); (fail_if_success (with_reducible show LeaveK _ _ _ _ _ _ _)); (fail_if_success (with_reducible show Exists _)); first | ((with_reducible show wpAny _ _ (call (Value.ref 407) [_]) _ _ _); k_here; k_dflt (refine' map_use (mk := fun v => [v]) ih ?hA ?hf ?hke ?hh ?hd ?hu ?B ?F ?X ?T ?S ?N ?ow ?ow' ?ok ?hI ?hw ?hp ?k0 ?k1 ?_; (case hA | hf | hke | hh => exact rfl); (case hd => ktr_room); (case hu => ktr_units); (case B | F | X | T | S => k_asm); (case N => tb_start); (case ow => tb_rel); (case ow' => tb_rel); (case ok => assumption); (case hI => exact fun q h => List.mem_append_right _ (hI q h)); (case hw | hp => assumption); (case k0 | k1 => omega)); intro v9 P9 tl9 k9 h9 tk9 tk8 p9 q9 i0 i1 F9 N9 ab9 ok9; (try simp only [List.cons_append, List.nil_append] at N9)) | ((with_reducible show wpAny _ _ (subscriptTail _ _ (Value.ref _) (Value.bool _)) _ _ _); k_here; k_dflt (refine' pick_tf ?N ?m ?b ?_ ?hs; (case N => k_asm); (case m => k_mem); (case b => first | exact .inl ⟨by with_unfolding_all rfl, rfl⟩ | exact .inr ⟨by with_unfolding_all rfl, rfl⟩); (case hs => with_unfolding_all rfl))) | (k_unfold; (try dsimp only)) | (k_end; wrow_close) | walk1 | (dsimp only; walk1) | (leave1; walk_say "STEP leave1"; try dsimp only) | fail "no step")
        refine LCg.CompSrc.ledger (by rfl) (by k_asm) (by k_asm) (by k_mem) (Nat.le_trans (show vs.toArray.size ≤ 4 by simp only [List.size_toArray]; omega) (by decide)) fun g9 => ?_
        k_dflt (refine map_comp (own := [_]) (np := np) (kend := k) (placeO k tk np) (fun a b => b = denied a) 0 vs ps hI hl' (by simp) ok hps ?step ?fin)
        case step =>
          intro v P ys It oI Ct oC Dt m₂ h tk9 E' tl k8 tk8 hPm hv hNs hx F9 N9 off ne hk1 hk2 hok9
          have hw9 := Wfs.mem hw4 hPm
          simp only [List.cons_append, List.nil_append, LCg.Off3] at N9 off
          k_unmd
          repeat' ((fail_if_success (with_reducible show LCg.CompSrc _ _ _ _ _ _ _ _ _ _ _ _ _ _)); (fail_if_success (with_reducible show LeaveK _ _ _ _ _ _ _)); (fail_if_success (with_reducible show Exists _)); first | ((with_reducible show wpAny _ _ (call (Value.ref 407) [_]) _ _ _); k_here; k_dflt (refine' map_use (mk := fun v => [v]) ih ?hA ?hf ?hke ?hh ?hd ?hu ?B ?F ?X ?T ?S ?N ?ow ?ow' ?ok ?hI ?hw ?hp ?k0 ?k1 ?_; (case hA | hf | hke | hh => exact rfl); (case hd => ktr_room); (case hu => ktr_units); (case B | F | X | T | S => k_asm); (case N => tb_start); (case ow => tb_rel); (case ow' => tb_rel); (case ok => assumption); (case hI => exact fun q h => List.mem_append_right _ (hI q h)); (case hw | hp => assumption); (case k0 | k1 => omega)); intro v9 P9 tl9 k9 h9 tk9 tk8 p9 q9 i0 i1 F9 N9 ab9 ok9; (try simp only [List.cons_append, List.nil_append] at N9)) | ((with_reducible show wpAny _ _ (subscriptTail _ _ (Value.ref _) (Value.bool _)) _ _ _); k_here; k_dflt (refine' pick_tf ?N ?m ?b ?_ ?hs; (case N => k_asm); (case m => k_mem); (case b => first | exact .inl ⟨by with_unfolding_all rfl, rfl⟩ | exact .inr ⟨by with_unfolding_all rfl, rfl⟩); (case hs => with_unfolding_all rfl))) | (k_unfold; (try dsimp only)) | (k_end; wrow_close) | walk1 | (dsimp only; walk1) | (leave1; walk_say "STEP leave1"; try dsimp only) | fail "no step")
          exact ⟨_, _, P9, tl9, k9, _, rfl, F9, N9, p9, q9, i0, by omega, ab9⟩
        case fin =>
          intro ys Ps tl k8 tk8 hps9 htw hk1 hk2 hab hok D9 h9 tk9 F9 N9 o9
          have o8 := o9
          simp only [List.cons_append, List.nil_append, LCg.Off1] at N9 o9
          k_unmd
          repeat' ((fail_if_success (with_reducible show LCg.CompSrc _ _ _ _ _ _ _ _ _ _ _ _ _ _)); (fail_if_success (with_reducible show LeaveK _ _ _ _ _ _ _)); (fail_if_success (with_reducible show Exists _)); first | ((with_reducible show wpAny _ _ (call (Value.ref 407) [_]) _ _ _); k_here; k_dflt (refine' map_use (mk := fun v => [v]) ih ?hA ?hf ?hke ?hh ?hd ?hu ?B ?F ?X ?T ?S ?N ?ow ?ow' ?ok ?hI ?hw ?hp ?k0 ?k1 ?_; (case hA | hf | hke | hh => exact rfl); (case hd => ktr_room); (case hu => ktr_units); (case B | F | X | T | S => k_asm); (case N => tb_start); (case ow => tb_rel); (case ow' => tb_rel); (case ok => assumption); (case hI => exact fun q h => List.mem_append_right _ (hI q h)); (case hw | hp => assumption); (case k0 | k1 => omega)); intro v9 P9 tl9 k9 h9 tk9 tk8 p9 q9 i0 i1 F9 N9 ab9 ok9; (try simp only [List.cons_append, List.nil_append] at N9)) | ((with_reducible show wpAny _ _ (subscriptTail _ _ (Value.ref _) (Value.bool _)) _ _ _); k_here; k_dflt (refine' pick_tf ?N ?m ?b ?_ ?hs; (case N => k_asm); (case m => k_mem); (case b => first | exact .inl ⟨by with_unfolding_all rfl, rfl⟩ | exact .inr ⟨by with_unfolding_all rfl, rfl⟩); (case hs => with_unfolding_all rfl))) | (k_unfold; (try dsimp only)) | (k_end; wrow_close) | walk1 | (dsimp only; walk1) | (leave1; walk_say "STEP leave1"; try dsimp only) | fail "no step")
          k_dflt (refine' leaveK_ ?k1 ?k2 ?_; (case k1 => k_asm); (case k2 => k_asm))
          intro kF kN
          refine ret _ (.op .or Ps) _ k8 _ _ _ ?pA ?pB hk1 (by omega) kF (front2a (own := [_, _, _]) kN) ?pE
          case pA => (simp only [PlanIn]; exact ⟨_, _, _, ys, _, _, rfl, List.mem_append_left _ (.head _), List.mem_append_left _ (.tail _ (.head _)), PlansIn.mono (fun q h => by simp only [List.mem_append] at h ⊢; rcases h with h | h <;> simp [h]) hps9⟩)
          case pB => (simp only [denied]; rw [two_denied htw])
          case pE => exact .app (.cons (by refine above_l1a (tl := tl) ?_ ?_ ?_ <;> simp_all only) (.cons (off1_base (own := [_]) o8 rfl rfl) (.cons (by refine above_l1 ?_ ?_ ?_ <;> simp_all only) .nil))) (ab_sub (own := []) hab rfl rfl)
end
/-! ## part T7 -/
section
example : True := by (w_top off; trivial)
local macro_rules | `(tactic| walk_at "eval ListComp") => `(tactic| (k_here; k_dflt (refine LCg.ListComp_U (F₀ := by k_asm) (by with_unfolding_all rfl) (by decide) (by rfl) (by decide) (by rfl) ?_)))
theorem mirror_spec {prog : Program} {w : World} {p : Program} {loose : List Str} {mean : ExcName → Option Value} {mg mb : Str → Option Value} {np : Nat} {pl tb : Addr} {I₀ : LL} {n : Nat} (hn : n ≤ 4) :
    ∀ d : Nat, MapSpec prog w p loose mean mg mb np pl tb I₀ 417 (fun v => [v]) (fun a b => b = mirror a) n (fun _ => 0) d := by
  intro d
  induction d with
  | zero =>
    intro A A₀ env outer base h₀ L m s Q E R I k tk ot v P hA hf hke hh hd hu B F X T S N ok hI hw hp hk0 hk ret
    obtain ⟨hd', dp, fr, gd, un⟩ := A
    dsimp only at hA hh hd hu hk ret
    subst hA hh
    cases P with
    | op wd ps => (exfalso; simp only [Wf] at hw)
    | g i =>
      simp only [PlanIn] at hp
      obtain ⟨t, rfl⟩ := hp
      refine wpAny_call ?_
      k_dflt (refine' code_def B F X N T rfl hf hke ?k6 ?k7 ?k8 ?k9 ?kB ?_ ?c2 ?c3 ?c4 ?c5; (case k6 => k_is); (case k7 => k_is); (case k8 => (simp only [recursionLimit] at *; omega)); (case k9 => first | exact BindsTo.of_eq rfl | exact binds_K (by k_in) rfl (by k_is) rfl rfl rfl); (case c5 => decide); (case kB => exact locs rfl); (case c2 => exact rfl); (case c3 => exact rfl); (case c4 => exact rfl))
      k_dflt (intro g' L' h' FG' F' N' B' X' T'; (try dsimp only))
      try (have S' := S.keeps FG'.keep; clear S)
      clear N F X T B
      k_unmd
      k_fold
      repeat' ((fail_if_success (with_reducible show LCg.CompSrc _ _ _ _ _ _ _ _ _ _ _ _ _ _)); (fail_if_success (with_reducible show LeaveK _ _ _ _ _ _ _)); (fail_if_success (with_reducible show Exists _)); first | ((with_reducible show wpAny _ _ (call (Value.ref 417) [_]) _ _ _); k_here; k_dflt (refine' map_use (mk := fun v => [v]) ih ?hA ?hf ?hke ?hh ?hd ?hu ?B ?F ?X ?T ?S ?N ?ow ?ow' ?ok ?hI ?hw ?hp ?k0 ?k1 ?_; (case hA | hf | hke | hh => exact rfl); (case hd => ktr_room); (case hu => ktr_units); (case B | F | X | T | S => k_asm); (case N => tb_start); (case ow => tb_rel); (case ow' => tb_rel); (case ok => assumption); (case hI => exact fun q h => List.mem_append_right _ (hI q h)); (case hw | hp => assumption); (case k0 | k1 => omega)); intro v9 P9 tl9 k9 h9 tk9 tk8 p9 q9 i0 i1 F9 N9 ab9 ok9; (try simp only [List.cons_append, List.nil_append] at N9)) | (k_unfold; (try dsimp only)) | (k_end; wrow_close) | walk1 | (dsimp only; walk1) | (leave1; walk_say "STEP leave1"; try dsimp only) | fail "no step")
      k_dflt (refine' leaveK_ ?k1 ?k2 ?_; (case k1 => k_asm); (case k2 => k_asm))
      intro kF kN
      refine ret _ (.op .not [.g i]) _ k _ _ _ ?pA ?pB (by omega) (by omega) kF (front2a (own := [_, _]) (tl := []) kN) ?pE
      case pA => (simp only [PlanIn, PlansIn]; exact ⟨_, _, _, [_], _, _, rfl, List.mem_append_left _ (.head _), List.mem_append_left _ (.tail _ (.head _)), ⟨t, rfl⟩, trivial⟩)
      case pB => simp only [mirror]
      case pE => exact .cons (by refine above_l1 ?_ ?_ ?_ <;> simp_all only) (.cons (by refine above_l1 ?_ ?_ ?_ <;> simp_all only) .nil)
  | succ d ih =>
    intro A A₀ env outer base h₀ L m s Q E R I k tk ot v P hA hf hke hh hd hu B F X T S N ok hI hw hp hk0 hk ret
    obtain ⟨hd', dp, fr, gd, un⟩ := A
    dsimp only at hA hh hd hu hk ret
    subst hA hh
    cases P with
    | g i =>
      simp only [PlanIn] at hp
      obtain ⟨t, rfl⟩ := hp
      refine wpAny_call ?_
      k_dflt (refine' code_def B F X N T rfl hf hke ?k6 ?k7 ?k8 ?k9 ?kB ?_ ?c2 ?c3 ?c4 ?c5; (case k6 => k_is); (case k7 => k_is); (case k8 => (simp only [recursionLimit] at *; omega)); (case k9 => first | exact BindsTo.of_eq rfl | exact binds_K (by k_in) rfl (by k_is) rfl rfl rfl); (case c5 => decide); (case kB => exact locs rfl); (case c2 => exact rfl); (case c3 => exact rfl); (case c4 => exact rfl))
      k_dflt (intro g' L' h' FG' F' N' B' X' T'; (try dsimp only))
      try (have S' := S.keeps FG'.keep; clear S)
      clear N F X T B
      k_unmd
      k_fold
      repeat' ((fail_if_success (with_reducible show LCg.CompSrc _ _ _ _ _ _ _ _ _ _ _ _ _ _)); (fail_if_success (with_reducible show LeaveK _ _ _ _ _ _ _)); (fail_if_success (with_reducible show Exists _)); first | ((with_reducible show wpAny _ _ (call (Value.ref 417) [_]) _ _ _); k_here; k_dflt (refine' map_use (mk := fun v => [v]) ih ?hA ?hf ?hke ?hh ?hd ?hu ?B ?F ?X ?T ?S ?N ?ow ?ow' ?ok ?hI ?hw ?hp ?k0 ?k1 ?_; (case hA | hf | hke | hh => exact rfl); (case hd => ktr_room); (case hu => ktr_units); (case B | F | X | T | S => k_asm); (case N => tb_start); (case ow => tb_rel); (case ow' => tb_rel); (case ok => assumption); (case hI => exact fun q h => List.mem_append_right _ (hI q h)); (case hw | hp => assumption); (case k0 | k1 => omega)); intro v9 P9 tl9 k9 h9 tk9 tk8 p9 q9 i0 i1 F9 N9 ab9 ok9; (try simp only [List.cons_append, List.nil_append] at N9)) | (k_unfold; (try dsimp only)) | (k_end; wrow_close) | walk1 | (dsimp only; walk1) | (leave1; walk_say "STEP leave1"; try dsimp only) | fail "no step")
      k_dflt (refine' leaveK_ ?k1 ?k2 ?_; (case k1 => k_asm); (case k2 => k_asm))
      intro kF kN
      refine ret _ (.op .not [.g i]) _ k _ _ _ ?pA ?pB (by omega) (by omega) kF (front2a (own := [_, _]) (tl := []) kN) ?pE
      case pA => (simp only [PlanIn, PlansIn]; exact ⟨_, _, _, [_], _, _, rfl, List.mem_append_left _ (.head _), List.mem_append_left _ (.tail _ (.head _)), ⟨t, rfl⟩, trivial⟩)
      case pB => simp only [mirror]
      case pE => exact .cons (by refine above_l1 ?_ ?_ ?_ <;> simp_all only) (.cons (by refine above_l1 ?_ ?_ ?_ <;> simp_all only) .nil)
    | op wd ps =>
      simp only [PlanIn] at hp
      obtain ⟨a, l, t, vs, n1, n2, rfl, ha, hl, hps⟩ := hp
      have ha' := hI _ ha
      have hl' := hI _ hl
      simp only [Wf] at hw
      obtain ⟨hw1, hw2, hw3, hw4⟩ := hw
      have hlen := hps.len
      refine wpAny_call ?_
      k_dflt (refine' code_def B F X N T rfl hf hke ?k6 ?k7 ?k8 ?k9 ?kB ?_ ?c2 ?c3 ?c4 ?c5; (case k6 => k_is); (case k7 => k_is); (case k8 => (simp only [recursionLimit] at *; omega)); (case k9 => first | exact BindsTo.of_eq rfl | exact binds_K (by k_in) rfl (by k_is) rfl rfl rfl); (case c5 => decide); (case kB => exact locs rfl); (case c2 => exact rfl); (case c3 => exact rfl); (case c4 => exact rfl))
      k_dflt (intro g' L' h' FG' F' N' B' X' T'; (try dsimp only))
      try (have S' := S.keeps FG'.keep; clear S)
      clear N F X T B
      k_unmd
      k_fold
      repeat' ((fail_if_success (with_reducible show LCg.CompSrc _ _ _ _ _ _ _ _ _ _ _ _ _ _)); (fail_if_success (with_reducible show LeaveK _ _ _ _ _ _ _)); (fail_if_success (with_reducible show Exists _)); first | ((with_reducible show wpAny _ _ (call (Value.ref 417) [_]) _ _ _); k_here; k_dflt (refine' map_use (mk := fun v => [v]) ih ?hA ?hf ?hke ?hh ?hd ?hu ?B ?F ?X ?T ?S ?N ?ow ?ow' ?ok ?hI ?hw ?hp ?k0 ?k1 ?_; (case hA | hf | hke | hh => exact rfl); (case hd => ktr_room); (case hu => ktr_units); (case B | F | X | T | S => k_asm); (case N => tb_start); (case ow => tb_rel); (case ow' => tb_rel); (case ok => assumption); (case hI => exact fun q h => List.mem_append_right _ (hI q h)); (case hw | hp => assumption); (case k0 | k1 => omega)); intro v9 P9 tl9 k9 h9 tk9 tk8 p9 q9 i0 i1 F9 N9 ab9 ok9; (try simp only [List.cons_append, List.nil_append] at N9)) | (k_unfold; (try dsimp only)) | (k_end; wrow_close) | walk1 | (dsimp only; walk1) | (leave1; walk_say "STEP leave1"; try dsimp only) | fail "no step")
      refine LCg.CompSrc.ledger (by rfl) (by k_asm) (by k_asm) (by k_mem) (Nat.le_trans (show vs.toArray.size ≤ 4 by simp only [List.size_toArray]; omega) (by decide)) fun g9 => ?_
      k_dflt (refine map_comp (own := []) (np := np) (kend := k) (placeO k tk np) (fun a b => b = mirror a) 0 vs ps hI hl' (by simp) ok hps ?step ?fin)
      case step =>
        intro v P ys It oI Ct oC Dt m₂ h tk9 E' tl k8 tk8 hPm hv hNs hx F9 N9 off ne hk1 hk2 hok9
        have hw9 := Wfs.mem hw4 hPm
        simp only [List.cons_append, List.nil_append, LCg.Off3] at N9 off
        k_unmd
        repeat' ((fail_if_success (with_reducible show LCg.CompSrc _ _ _ _ _ _ _ _ _ _ _ _ _ _)); (fail_if_success (with_reducible show LeaveK _ _ _ _ _ _ _)); (fail_if_success (with_reducible show Exists _)); first | ((with_reducible show wpAny _ _ (call (Value.ref 417) [_]) _ _ _); k_here; k_dflt (refine' map_use (mk := fun v => [v]) ih ?hA ?hf ?hke ?hh ?hd ?hu ?B ?F ?X ?T ?S ?N ?ow ?ow' ?ok ?hI ?hw ?hp ?k0 ?k1 ?_; (case hA | hf | hke | hh => exact rfl); (case hd => ktr_room); (case hu => ktr_units); (case B | F | X | T | S => k_asm); (case N => tb_start); (case ow => tb_rel); (case ow' => tb_rel); (case ok => assumption); (case hI => exact fun q h => List.mem_append_right _ (hI q h)); (case hw | hp => assumption); (case k0 | k1 => omega)); intro v9 P9 tl9 k9 h9 tk9 tk8 p9 q9 i0 i1 F9 N9 ab9 ok9; (try simp only [List.cons_append, List.nil_append] at N9)) | (k_unfold; (try dsimp only)) | (k_end; wrow_close) | walk1 | (dsimp only; walk1) | (leave1; walk_say "STEP leave1"; try dsimp only) | fail "no step")
        exact ⟨_, _, P9, tl9, k9, _, rfl, F9, N9, p9, q9, i0, by omega, ab9⟩
      case fin =>
        intro ys Ps tl k8 tk8 hps9 htw hk1 hk2 hab hok D9 h9 tk9 F9 N9 o9
        have o8 := o9
        simp only [List.cons_append, List.nil_append, LCg.Off1] at N9 o9
        k_unmd
        repeat' ((fail_if_success (with_reducible show LCg.CompSrc _ _ _ _ _ _ _ _ _ _ _ _ _ _)); (fail_if_success (with_reducible show LeaveK _ _ _ _ _ _ _)); (fail_if_success (with_reducible show Exists _)); first | ((with_reducible show wpAny _ _ (call (Value.ref 417) [_]) _ _ _); k_here; k_dflt (refine' map_use (mk := fun v => [v]) ih ?hA ?hf ?hke ?hh ?hd ?hu ?B ?F ?X ?T ?S ?N ?ow ?ow' ?ok ?hI ?hw ?hp ?k0 ?k1 ?_; (case hA | hf | hke | hh => exact rfl); (case hd => ktr_room); (case hu => ktr_units); (case B | F | X | T | S => k_asm); (case N => tb_start); (case ow => tb_rel); (case ow' => tb_rel); (case ok => assumption); (case hI => exact fun q h => List.mem_append_right _ (hI q h)); (case hw | hp => assumption); (case k0 | k1 => omega)); intro v9 P9 tl9 k9 h9 tk9 tk8 p9 q9 i0 i1 F9 N9 ab9 ok9; (try simp only [List.cons_append, List.nil_append] at N9)) | (k_unfold; (try dsimp only)) | (k_end; wrow_close) | walk1 | (dsimp only; walk1) | (leave1; walk_say "STEP leave1"; try dsimp only) | fail "no step")
        k_dflt (refine' leaveK_ ?k1 ?k2 ?_; (case k1 => k_asm); (case k2 => k_asm))
        intro kF kN
        refine ret _ (.op wd Ps) _ k8 _ _ _ ?pA ?pB hk1 (by omega) kF (front2a (own := [_, _]) kN) ?pE
        case pA => (simp only [PlanIn]; exact ⟨_, _, _, ys, _, _, rfl, List.mem_append_left _ (.head _), List.mem_append_left _ (.tail _ (.head _)), PlansIn.mono (fun q h => by simp only [List.mem_append] at h ⊢; rcases h with h | h <;> simp [h]) hps9⟩)
        case pB => (simp only [mirror]; rw [two_mirror htw])
        case pE => exact .app (.cons (by refine above_l1a (tl := tl) ?_ ?_ ?_ <;> simp_all only) (.cons (off1_base (own := []) o8 rfl rfl) .nil)) (ab_sub (own := []) hab rfl rfl)
end
/-! ## part T8 -/
section
example : True := by (w_top off; trivial)
local macro_rules | `(tactic| walk_at "eval ListComp") => `(tactic| (k_here; k_dflt (refine LCg.ListComp_U (F₀ := by k_asm) (by with_unfolding_all rfl) (by decide) (by rfl) (by decide) (by rfl) ?_)))
local macro_rules | `(tactic| walk_at "exec Assign cons ListComp") => `(tactic| (k_here; k_dflt (refine LCg.Assign_ListComp_U (F₀ := by k_asm) (by rfl) (by with_unfolding_all rfl) (by with_unfolding_all rfl) (by decide) (by rfl) (by decide) (by rfl) (by rfl) (by rfl) ?_)))
theorem turned_spec {prog : Program} {w : World} {p : Program} {loose : List Str} {mean : ExcName → Option Value} {mg mb : Str → Option Value} {np : Nat} {pl tb tf : Addr} {I₀ : LL}
    (hT : TakeSpec prog w p loose mean mg mb np pl tf I₀) (hFn : FnIn I₀ tf) :
    ∀ d : Nat, MapSpec prog w p loose mean mg mb np pl tb I₀ 412 (fun v => [.ref tf, v]) (TRel d) 3 cstT d := by
  intro d
  induction d with
  | zero =>
    intro A A₀ env outer base h₀ L m s Q E R I k tk ot v P hA hf hke hh hd hu B F X T S N ok hI hw hp hk0 hk ret
    obtain ⟨hd', dp, fr, gd, un⟩ := A
    dsimp only at hA hh hd hu hk ret
    subst hA hh
    cases P with
    | op wd ps => (exfalso; simp only [Wf] at hw)
    | g i =>
      simp only [PlanIn] at hp
      obtain ⟨t, rfl⟩ := hp
      refine wpAny_call ?_
      k_dflt (refine' code_defC B F X N T rfl hf hke ?k6 ?k7 ?k8 ?k9 ?kB ?kD ?_ ?c2 ?c3 ?c4; (case k6 => k_is); (case k7 => k_is); (case k8 => (simp only [recursionLimit] at *; omega)); (case k9 => first | exact BindsTo.of_eq rfl | exact binds_K (by k_in) rfl (by k_is) rfl rfl rfl); (case kB => exact rfl); (case kD => decide +kernel); (case c2 => exact rfl); (case c3 => exact rfl); (case c4 => exact rfl))
      k_dflt (intro g' L' h' tk' cells' FG' F' N' Y' B' X' T' l1; (have l0 := l1); (try k_lt l1); k_cells Y'; (try simp only [List.cons_append, List.nil_append] at N'); (try dsimp only))
      try (have S' := S.keeps FG'.keep; clear S)
      clear N F X T B
      k_unmd
      k_fold
      repeat' ((fail_if_success (with_reducible show LCg.CompSrc _ _ _ _ _ _ _ _ _ _ _ _ _ _)); (fail_if_success (with_reducible show LeaveK _ _ _ _ _ _ _)); (fail_if_success (with_reducible show Exists _)); first | ((with_reducible show wpAny _ _ (call (Value.ref 412) [Value.ref _, _]) _ _ _); k_here; k_dflt (refine' map_use (mk := fun v => [.ref tf, v]) ih ?hA ?hf ?hke ?hh ?hd ?hu ?B ?F ?X ?T ?S ?N ?ow ?ow' ?ok ?hI ?hw ?hp ?k0 ?k1 ?_; (case hA | hf | hke | hh => exact rfl); (case hd => ktr_room); (case hu => ktr_units); (case B | F | X | T | S => k_asm); (case N => tb_start); (case ow => tb_rel); (case ow' => tb_rel); (case ok => assumption); (case hI => exact fun q h => List.mem_append_right _ (hI q h)); (case hw | hp => assumption); (case k0 | k1 => omega)); intro v9 P9 tl9 k9 h9 tk9 tk8 p9 q9 i0 i1 F9 N9 ab9 ok9; (try simp only [List.cons_append, List.nil_append] at N9)) | ((with_reducible show wpAny _ _ (call (Value.builtin "len") [Value.ref _]) _ _ _); k_here; k_dflt (refine' len_N ?N ?m ?f ?_; (case N => k_asm); (case m => k_mem); (case f => omega)); intro t9z t8z) | ((with_reducible show wpAny _ _ (subscriptTail (Expr.Name _ _) _ (Value.ref _) (Value.int _ _)) _ _ _); k_here; k_dflt (refine' itemE_N ?N ?m ?a ?b ?c ?_ ?hs; (case N => k_asm); (case m => k_mem); (case a | b => assumption); (case c => omega); (case hs => with_unfolding_all rfl)); intro ve9 hve9) | ((with_reducible show wpAny _ _ (binaryOp _ (Value.ref _) (Value.ref _)) _ _ _); k_here; k_dflt (refine' add_N ?F ?N ?a ?b ?c ?_; (case F | N => k_asm); (case a | b => k_mem); (case c => (simp only [List.length_append, List.length_drop, List.length_take, List.length_cons, List.length_nil]; omega))); intro Dz hz Fz Nz l1z; (try k_lt l1z)) | ((with_reducible show wpAny _ _ (subscriptTail _ (PySem.Expr.Slice _ _ none _) (Value.ref _) (Value.ref _)) _ _ _); k_here; k_dflt (first | (refine' slice_fromN ?F ?N ?m ?a ?b ?c ?_ ?s ?t; (case F | N => k_asm); (case m => k_mem); (case a => assumption); (case b | c => omega); (case s => with_unfolding_all rfl); (case t => (intro _; with_unfolding_all rfl))) | (refine' slice_uptoN ?F ?N ?m ?a ?b ?c ?_ ?s ?t; (case F | N => k_asm); (case m => k_mem); (case a => assumption); (case b | c => omega); (case s => with_unfolding_all rfl); (case t => (intro _; with_unfolding_all rfl)))); intro Dz hz Fz Nz l1z; (try k_lt l1z)) | (k_unfold; (try dsimp only)) | (k_end; wrow_close) | walk1 | (dsimp only; walk1) | (leave1; walk_say "STEP leave1"; try dsimp only) | fail "no step")
      k_dflt (refine' leaveK_ ?k1 ?k2 ?_; (case k1 => k_asm); (case k2 => k_asm))
      intro kF kN
      exact ret _ (.g i) ([_] ++ []) k _ _ _ (by simp only [PlanIn]; exact ⟨t, rfl⟩) ⟨by (first | simpa only [Wf] using hw | (cases d <;> simpa only [Wf] using hw)), fun _ => rfl⟩ (by omega) (by omega) kF (front2a (own := [_]) (tl := []) kN) (.cons (above_lt l0 (by omega)) .nil)
  | succ d ih =>
    intro A A₀ env outer base h₀ L m s Q E R I k tk ot v P hA hf hke hh hd hu B F X T S N ok hI hw hp hk0 hk ret
    obtain ⟨hd', dp, fr, gd, un⟩ := A
    dsimp only at hA hh hd hu hk ret
    subst hA hh
    cases P with
    | g i =>
      simp only [PlanIn] at hp
      obtain ⟨t, rfl⟩ := hp
      refine wpAny_call ?_
      k_dflt (refine' code_defC B F X N T rfl hf hke ?k6 ?k7 ?k8 ?k9 ?kB ?kD ?_ ?c2 ?c3 ?c4; (case k6 => k_is); (case k7 => k_is); (case k8 => (simp only [recursionLimit] at *; omega)); (case k9 => first | exact BindsTo.of_eq rfl | exact binds_K (by k_in) rfl (by k_is) rfl rfl rfl); (case kB => exact rfl); (case kD => decide +kernel); (case c2 => exact rfl); (case c3 => exact rfl); (case c4 => exact rfl))
      k_dflt (intro g' L' h' tk' cells' FG' F' N' Y' B' X' T' l1; (have l0 := l1); (try k_lt l1); k_cells Y'; (try simp only [List.cons_append, List.nil_append] at N'); (try dsimp only))
      try (have S' := S.keeps FG'.keep; clear S)
      clear N F X T B
      k_unmd
      k_fold
      repeat' ((fail_if_success (with_reducible show LCg.CompSrc _ _ _ _ _ _ _ _ _ _ _ _ _ _)); (fail_if_success (with_reducible show LeaveK _ _ _ _ _ _ _)); (fail_if_success (with_reducible show Exists _)); first | ((with_reducible show wpAny _ _ (call (Value.ref 412) [Value.ref _, _]) _ _ _); k_here; k_dflt (refine' map_use (mk := fun v => [.ref tf, v]) ih ?hA ?hf ?hke ?hh ?hd ?hu ?B ?F ?X ?T ?S ?N ?ow ?ow' ?ok ?hI ?hw ?hp ?k0 ?k1 ?_; (case hA | hf | hke | hh => exact rfl); (case hd => ktr_room); (case hu => ktr_units); (case B | F | X | T | S => k_asm); (case N => tb_start); (case ow => tb_rel); (case ow' => tb_rel); (case ok => assumption); (case hI => exact fun q h => List.mem_append_right _ (hI q h)); (case hw | hp => assumption); (case k0 | k1 => omega)); intro v9 P9 tl9 k9 h9 tk9 tk8 p9 q9 i0 i1 F9 N9 ab9 ok9; (try simp only [List.cons_append, List.nil_append] at N9)) | ((with_reducible show wpAny _ _ (call (Value.builtin "len") [Value.ref _]) _ _ _); k_here; k_dflt (refine' len_N ?N ?m ?f ?_; (case N => k_asm); (case m => k_mem); (case f => omega)); intro t9z t8z) | ((with_reducible show wpAny _ _ (subscriptTail (Expr.Name _ _) _ (Value.ref _) (Value.int _ _)) _ _ _); k_here; k_dflt (refine' itemE_N ?N ?m ?a ?b ?c ?_ ?hs; (case N => k_asm); (case m => k_mem); (case a | b => assumption); (case c => omega); (case hs => with_unfolding_all rfl)); intro ve9 hve9) | ((with_reducible show wpAny _ _ (binaryOp _ (Value.ref _) (Value.ref _)) _ _ _); k_here; k_dflt (refine' add_N ?F ?N ?a ?b ?c ?_; (case F | N => k_asm); (case a | b => k_mem); (case c => (simp only [List.length_append, List.length_drop, List.length_take, List.length_cons, List.length_nil]; omega))); intro Dz hz Fz Nz l1z; (try k_lt l1z)) | ((with_reducible show wpAny _ _ (subscriptTail _ (PySem.Expr.Slice _ _ none _) (Value.ref _) (Value.ref _)) _ _ _); k_here; k_dflt (first | (refine' slice_fromN ?F ?N ?m ?a ?b ?c ?_ ?s ?t; (case F | N => k_asm); (case m => k_mem); (case a => assumption); (case b | c => omega); (case s => with_unfolding_all rfl); (case t => (intro _; with_unfolding_all rfl))) | (refine' slice_uptoN ?F ?N ?m ?a ?b ?c ?_ ?s ?t; (case F | N => k_asm); (case m => k_mem); (case a => assumption); (case b | c => omega); (case s => with_unfolding_all rfl); (case t => (intro _; with_unfolding_all rfl)))); intro Dz hz Fz Nz l1z; (try k_lt l1z)) | (k_unfold; (try dsimp only)) | (k_end; wrow_close) | walk1 | (dsimp only; walk1) | (leave1; walk_say "STEP leave1"; try dsimp only) | fail "no step")
      k_dflt (refine' leaveK_ ?k1 ?k2 ?_; (case k1 => k_asm); (case k2 => k_asm))
      intro kF kN
      exact ret _ (.g i) ([_] ++ []) k _ _ _ (by simp only [PlanIn]; exact ⟨t, rfl⟩) ⟨by (first | simpa only [Wf] using hw | (cases d <;> simpa only [Wf] using hw)), fun _ => rfl⟩ (by omega) (by omega) kF (front2a (own := [_]) (tl := []) kN) (.cons (above_lt l0 (by omega)) .nil)
    | op wd ps =>
      simp only [PlanIn] at hp
      obtain ⟨a, l, t, vs, n1, n2, rfl, ha, hl, hps⟩ := hp
      have ha' := hI _ ha
      have hl' := hI _ hl
      simp only [Wf] at hw
      obtain ⟨hw1, hw2, hw3, hw4⟩ := hw
      have hlen := hps.len
      have hcc : cstT (d + 1) = 2 + 3 * cstT d := rfl
      rw [hcc] at hk ret
      cases wd with
      | not =>
        refine wpAny_call ?_
        k_dflt (refine' code_defC B F X N T rfl hf hke ?k6 ?k7 ?k8 ?k9 ?kB ?kD ?_ ?c2 ?c3 ?c4; (case k6 => k_is); (case k7 => k_is); (case k8 => (simp only [recursionLimit] at *; omega)); (case k9 => first | exact BindsTo.of_eq rfl | exact binds_K (by k_in) rfl (by k_is) rfl rfl rfl); (case kB => exact rfl); (case kD => decide +kernel); (case c2 => exact rfl); (case c3 => exact rfl); (case c4 => exact rfl))
        k_dflt (intro g' L' h' tk' cells' FG' F' N' Y' B' X' T' l1; (have l0 := l1); (try k_lt l1); k_cells Y'; (try simp only [List.cons_append, List.nil_append] at N'); (try dsimp only))
        try (have S' := S.keeps FG'.keep; clear S)
        clear N F X T B
        k_unmd
        k_fold
        repeat' ((fail_if_success (with_reducible show LCg.CompSrc _ _ _ _ _ _ _ _ _ _ _ _ _ _)); (fail_if_success (with_reducible show LeaveK _ _ _ _ _ _ _)); (fail_if_success (with_reducible show Exists _)); first | ((with_reducible show wpAny _ _ (call (Value.ref 412) [Value.ref _, _]) _ _ _); k_here; k_dflt (refine' map_use (mk := fun v => [.ref tf, v]) ih ?hA ?hf ?hke ?hh ?hd ?hu ?B ?F ?X ?T ?S ?N ?ow ?ow' ?ok ?hI ?hw ?hp ?k0 ?k1 ?_; (case hA | hf | hke | hh => exact rfl); (case hd => ktr_room); (case hu => ktr_units); (case B | F | X | T | S => k_asm); (case N => tb_start); (case ow => tb_rel); (case ow' => tb_rel); (case ok => assumption); (case hI => exact fun q h => List.mem_append_right _ (hI q h)); (case hw | hp => assumption); (case k0 | k1 => omega)); intro v9 P9 tl9 k9 h9 tk9 tk8 p9 q9 i0 i1 F9 N9 ab9 ok9; (try simp only [List.cons_append, List.nil_append] at N9)) | ((with_reducible show wpAny _ _ (call (Value.builtin "len") [Value.ref _]) _ _ _); k_here; k_dflt (refine' len_N ?N ?m ?f ?_; (case N => k_asm); (case m => k_mem); (case f => omega)); intro t9z t8z) | ((with_reducible show wpAny _ _ (subscriptTail (Expr.Name _ _) _ (Value.ref _) (Value.int _ _)) _ _ _); k_here; k_dflt (refine' itemE_N ?N ?m ?a ?b ?c ?_ ?hs; (case N => k_asm); (case m => k_mem); (case a | b => assumption); (case c => omega); (case hs => with_unfolding_all rfl)); intro ve9 hve9) | ((with_reducible show wpAny _ _ (binaryOp _ (Value.ref _) (Value.ref _)) _ _ _); k_here; k_dflt (refine' add_N ?F ?N ?a ?b ?c ?_; (case F | N => k_asm); (case a | b => k_mem); (case c => (simp only [List.length_append, List.length_drop, List.length_take, List.length_cons, List.length_nil]; omega))); intro Dz hz Fz Nz l1z; (try k_lt l1z)) | ((with_reducible show wpAny _ _ (subscriptTail _ (PySem.Expr.Slice _ _ none _) (Value.ref _) (Value.ref _)) _ _ _); k_here; k_dflt (first | (refine' slice_fromN ?F ?N ?m ?a ?b ?c ?_ ?s ?t; (case F | N => k_asm); (case m => k_mem); (case a => assumption); (case b | c => omega); (case s => with_unfolding_all rfl); (case t => (intro _; with_unfolding_all rfl))) | (refine' slice_uptoN ?F ?N ?m ?a ?b ?c ?_ ?s ?t; (case F | N => k_asm); (case m => k_mem); (case a => assumption); (case b | c => omega); (case s => with_unfolding_all rfl); (case t => (intro _; with_unfolding_all rfl)))); intro Dz hz Fz Nz l1z; (try k_lt l1z)) | (k_unfold; (try dsimp only)) | (k_end; wrow_close) | walk1 | (dsimp only; walk1) | (leave1; walk_say "STEP leave1"; try dsimp only) | fail "no step")
        k_dflt (refine' leaveK_ ?k1 ?k2 ?_; (case k1 => k_asm); (case k2 => k_asm))
        intro kF kN
        exact ret _ (.op .not ps) ([_] ++ []) k _ _ _ (by simp only [PlanIn]; exact ⟨_, _, _, vs, _, _, rfl, List.mem_append_right _ ha, List.mem_append_right _ hl, PlansIn.mono (fun q h => List.mem_append_right _ h) hps⟩) ⟨Wf.mono (n := 3) (d := d + 1) (by omega) (by omega) (by simp only [Wf]; exact ⟨hw1, hw2, fun _ => hw3 rfl, hw4⟩), fun _ => rfl⟩ (by omega) (by omega) kF (front2a (own := [_]) (tl := []) kN) (.cons (above_lt l0 (by omega)) .nil)
      | and =>
        refine wpAny_call ?_
        k_dflt (refine' code_defC B F X N T rfl hf hke ?k6 ?k7 ?k8 ?k9 ?kB ?kD ?_ ?c2 ?c3 ?c4; (case k6 => k_is); (case k7 => k_is); (case k8 => (simp only [recursionLimit] at *; omega)); (case k9 => first | exact BindsTo.of_eq rfl | exact binds_K (by k_in) rfl (by k_is) rfl rfl rfl); (case kB => exact rfl); (case kD => decide +kernel); (case c2 => exact rfl); (case c3 => exact rfl); (case c4 => exact rfl))
        k_dflt (intro g' L' h' tk' cells' FG' F' N' Y' B' X' T' l1; (have l0 := l1); (try k_lt l1); k_cells Y'; (try simp only [List.cons_append, List.nil_append] at N'); (try dsimp only))
        try (have S' := S.keeps FG'.keep; clear S)
        clear N F X T B
        k_unmd
        k_fold
        repeat' ((fail_if_success (with_reducible show LCg.CompSrc _ _ _ _ _ _ _ _ _ _ _ _ _ _)); (fail_if_success (with_reducible show LeaveK _ _ _ _ _ _ _)); (fail_if_success (with_reducible show Exists _)); first | ((with_reducible show wpAny _ _ (call (Value.ref 412) [Value.ref _, _]) _ _ _); k_here; k_dflt (refine' map_use (mk := fun v => [.ref tf, v]) ih ?hA ?hf ?hke ?hh ?hd ?hu ?B ?F ?X ?T ?S ?N ?ow ?ow' ?ok ?hI ?hw ?hp ?k0 ?k1 ?_; (case hA | hf | hke | hh => exact rfl); (case hd => ktr_room); (case hu => ktr_units); (case B | F | X | T | S => k_asm); (case N => tb_start); (case ow => tb_rel); (case ow' => tb_rel); (case ok => assumption); (case hI => exact fun q h => List.mem_append_right _ (hI q h)); (case hw | hp => assumption); (case k0 | k1 => omega)); intro v9 P9 tl9 k9 h9 tk9 tk8 p9 q9 i0 i1 F9 N9 ab9 ok9; (try simp only [List.cons_append, List.nil_append] at N9)) | ((with_reducible show wpAny _ _ (call (Value.builtin "len") [Value.ref _]) _ _ _); k_here; k_dflt (refine' len_N ?N ?m ?f ?_; (case N => k_asm); (case m => k_mem); (case f => omega)); intro t9z t8z) | ((with_reducible show wpAny _ _ (subscriptTail (Expr.Name _ _) _ (Value.ref _) (Value.int _ _)) _ _ _); k_here; k_dflt (refine' itemE_N ?N ?m ?a ?b ?c ?_ ?hs; (case N => k_asm); (case m => k_mem); (case a | b => assumption); (case c => omega); (case hs => with_unfolding_all rfl)); intro ve9 hve9) | ((with_reducible show wpAny _ _ (binaryOp _ (Value.ref _) (Value.ref _)) _ _ _); k_here; k_dflt (refine' add_N ?F ?N ?a ?b ?c ?_; (case F | N => k_asm); (case a | b => k_mem); (case c => (simp only [List.length_append, List.length_drop, List.length_take, List.length_cons, List.length_nil]; omega))); intro Dz hz Fz Nz l1z; (try k_lt l1z)) | ((with_reducible show wpAny _ _ (subscriptTail _ (PySem.Expr.Slice _ _ none _) (Value.ref _) (Value.ref _)) _ _ _); k_here; k_dflt (first | (refine' slice_fromN ?F ?N ?m ?a ?b ?c ?_ ?s ?t; (case F | N => k_asm); (case m => k_mem); (case a => assumption); (case b | c => omega); (case s => with_unfolding_all rfl); (case t => (intro _; with_unfolding_all rfl))) | (refine' slice_uptoN ?F ?N ?m ?a ?b ?c ?_ ?s ?t; (case F | N => k_asm); (case m => k_mem); (case a => assumption); (case b | c => omega); (case s => with_unfolding_all rfl); (case t => (intro _; with_unfolding_all rfl)))); intro Dz hz Fz Nz l1z; (try k_lt l1z)) | (k_unfold; (try dsimp only)) | (k_end; wrow_close) | walk1 | (dsimp only; walk1) | (leave1; walk_say "STEP leave1"; try dsimp only) | fail "no step")
        refine LCg.CompSrc.ledger (by rfl) (by k_asm) (by k_asm) (by k_mem) (Nat.le_trans (show vs.toArray.size ≤ 4 by simp only [List.size_toArray]; omega) (by decide)) fun g9 => ?_
        k_dflt (refine map_comp (own := [_]) (np := np) (kend := k + ((3 * cstT d : Nat) : Int)) (placeO k tk np) (TRel d) (cstT d) vs ps hI hl' (invT_le (by omega) (by omega)) ok hps ?step ?fin)
        case step =>
          intro v P ys It oI Ct oC Dt m₂ h tk9 E' tl k8 tk8 hPm hv hNs hx F9 N9 off ne hk1 hk2 hok9
          have hw9 := Wfs.mem hw4 hPm
          simp only [List.cons_append, List.nil_append, LCg.Off3] at N9 off
          k_unmd
          repeat' ((fail_if_success (with_reducible show LCg.CompSrc _ _ _ _ _ _ _ _ _ _ _ _ _ _)); (fail_if_success (with_reducible show LeaveK _ _ _ _ _ _ _)); (fail_if_success (with_reducible show Exists _)); first | ((with_reducible show wpAny _ _ (call (Value.ref 412) [Value.ref _, _]) _ _ _); k_here; k_dflt (refine' map_use (mk := fun v => [.ref tf, v]) ih ?hA ?hf ?hke ?hh ?hd ?hu ?B ?F ?X ?T ?S ?N ?ow ?ow' ?ok ?hI ?hw ?hp ?k0 ?k1 ?_; (case hA | hf | hke | hh => exact rfl); (case hd => ktr_room); (case hu => ktr_units); (case B | F | X | T | S => k_asm); (case N => tb_start); (case ow => tb_rel); (case ow' => tb_rel); (case ok => assumption); (case hI => exact fun q h => List.mem_append_right _ (hI q h)); (case hw | hp => assumption); (case k0 | k1 => omega)); intro v9 P9 tl9 k9 h9 tk9 tk8 p9 q9 i0 i1 F9 N9 ab9 ok9; (try simp only [List.cons_append, List.nil_append] at N9)) | ((with_reducible show wpAny _ _ (call (Value.builtin "len") [Value.ref _]) _ _ _); k_here; k_dflt (refine' len_N ?N ?m ?f ?_; (case N => k_asm); (case m => k_mem); (case f => omega)); intro t9z t8z) | ((with_reducible show wpAny _ _ (subscriptTail (Expr.Name _ _) _ (Value.ref _) (Value.int _ _)) _ _ _); k_here; k_dflt (refine' itemE_N ?N ?m ?a ?b ?c ?_ ?hs; (case N => k_asm); (case m => k_mem); (case a | b => assumption); (case c => omega); (case hs => with_unfolding_all rfl)); intro ve9 hve9) | ((with_reducible show wpAny _ _ (binaryOp _ (Value.ref _) (Value.ref _)) _ _ _); k_here; k_dflt (refine' add_N ?F ?N ?a ?b ?c ?_; (case F | N => k_asm); (case a | b => k_mem); (case c => (simp only [List.length_append, List.length_drop, List.length_take, List.length_cons, List.length_nil]; omega))); intro Dz hz Fz Nz l1z; (try k_lt l1z)) | ((with_reducible show wpAny _ _ (subscriptTail _ (PySem.Expr.Slice _ _ none _) (Value.ref _) (Value.ref _)) _ _ _); k_here; k_dflt (first | (refine' slice_fromN ?F ?N ?m ?a ?b ?c ?_ ?s ?t; (case F | N => k_asm); (case m => k_mem); (case a => assumption); (case b | c => omega); (case s => with_unfolding_all rfl); (case t => (intro _; with_unfolding_all rfl))) | (refine' slice_uptoN ?F ?N ?m ?a ?b ?c ?_ ?s ?t; (case F | N => k_asm); (case m => k_mem); (case a => assumption); (case b | c => omega); (case s => with_unfolding_all rfl); (case t => (intro _; with_unfolding_all rfl)))); intro Dz hz Fz Nz l1z; (try k_lt l1z)) | (k_unfold; (try dsimp only)) | (k_end; wrow_close) | walk1 | (dsimp only; walk1) | (leave1; walk_say "STEP leave1"; try dsimp only) | fail "no step")
          exact ⟨_, _, P9, tl9, k9, _, rfl, F9, N9, p9, q9, i0, i1, ab9⟩
        case fin =>
          intro ys Ps tl k8 tk8 hps9 htw hk1 hk2 hab hok D9 h9 tk9 F9 N9 o9
          have o8 := o9
          have ha2 := List.mem_append_right tl ha'
          have hl2 := List.mem_append_right tl hl'
          have hly := hps9.len
          have hlp := htw.length
          simp only [List.cons_append, List.nil_append, LCg.Off1] at N9 o9
          k_unmd
          repeat' ((fail_if_success (with_reducible show LCg.CompSrc _ _ _ _ _ _ _ _ _ _ _ _ _ _)); (fail_if_success (with_reducible show LeaveK _ _ _ _ _ _ _)); (fail_if_success (with_reducible show Exists _)); first | ((with_reducible show wpAny _ _ (call (Value.ref 412) [Value.ref _, _]) _ _ _); k_here; k_dflt (refine' map_use (mk := fun v => [.ref tf, v]) ih ?hA ?hf ?hke ?hh ?hd ?hu ?B ?F ?X ?T ?S ?N ?ow ?ow' ?ok ?hI ?hw ?hp ?k0 ?k1 ?_; (case hA | hf | hke | hh => exact rfl); (case hd => ktr_room); (case hu => ktr_units); (case B | F | X | T | S => k_asm); (case N => tb_start); (case ow => tb_rel); (case ow' => tb_rel); (case ok => assumption); (case hI => exact fun q h => List.mem_append_right _ (hI q h)); (case hw | hp => assumption); (case k0 | k1 => omega)); intro v9 P9 tl9 k9 h9 tk9 tk8 p9 q9 i0 i1 F9 N9 ab9 ok9; (try simp only [List.cons_append, List.nil_append] at N9)) | ((with_reducible show wpAny _ _ (call (Value.builtin "len") [Value.ref _]) _ _ _); k_here; k_dflt (refine' len_N ?N ?m ?f ?_; (case N => k_asm); (case m => k_mem); (case f => omega)); intro t9z t8z) | ((with_reducible show wpAny _ _ (subscriptTail (Expr.Name _ _) _ (Value.ref _) (Value.int _ _)) _ _ _); k_here; k_dflt (refine' itemE_N ?N ?m ?a ?b ?c ?_ ?hs; (case N => k_asm); (case m => k_mem); (case a | b => assumption); (case c => omega); (case hs => with_unfolding_all rfl)); intro ve9 hve9) | ((with_reducible show wpAny _ _ (binaryOp _ (Value.ref _) (Value.ref _)) _ _ _); k_here; k_dflt (refine' add_N ?F ?N ?a ?b ?c ?_; (case F | N => k_asm); (case a | b => k_mem); (case c => (simp only [List.length_append, List.length_drop, List.length_take, List.length_cons, List.length_nil]; omega))); intro Dz hz Fz Nz l1z; (try k_lt l1z)) | ((with_reducible show wpAny _ _ (subscriptTail _ (PySem.Expr.Slice _ _ none _) (Value.ref _) (Value.ref _)) _ _ _); k_here; k_dflt (first | (refine' slice_fromN ?F ?N ?m ?a ?b ?c ?_ ?s ?t; (case F | N => k_asm); (case m => k_mem); (case a => assumption); (case b | c => omega); (case s => with_unfolding_all rfl); (case t => (intro _; with_unfolding_all rfl))) | (refine' slice_uptoN ?F ?N ?m ?a ?b ?c ?_ ?s ?t; (case F | N => k_asm); (case m => k_mem); (case a => assumption); (case b | c => omega); (case s => with_unfolding_all rfl); (case t => (intro _; with_unfolding_all rfl)))); intro Dz hz Fz Nz l1z; (try k_lt l1z)) | (k_unfold; (try dsimp only)) | (k_end; wrow_close) | walk1 | (dsimp only; walk1) | (leave1; walk_say "STEP leave1"; try dsimp only) | fail "no step")
          k_dflt (refine' leaveK_ ?k1 ?k2 ?_; (case k1 => k_asm); (case k2 => k_asm))
          intro kF kN
          obtain ⟨Pj, hj, hjp⟩ := PlansIn.get hps9 hve9
          refine ret _ _ _ (k8 + 1 + 1) _ _ _ (by exact turned_in (List.mem_append_left _ (.head _)) (List.mem_append_left _ (.tail _ (.head _))) (List.mem_append_left _ (.tail _ (.tail _ (.tail _ (.tail _ (.tail _ (.head _))))))) (List.mem_append_left _ (.tail _ (.tail _ (.tail _ (.tail _ (.tail _ (.tail _ (.head _)))))))) (PlanIn.mono (fun _ h => mem_own h) hjp) (PlansIn.mono (fun _ h => mem_own h) hps9)) (by exact turned_rel (by decide) hw1 hw2 htw (List.mem_of_getElem? hj)) ?pC ?pD kF (front2a (own := [_, _, _, _, _, _, _, _, _, _]) kN) ?pE
          case pC => omega
          case pD => omega
          case pE => exact .app (.cons (above_lt l0 (by omega)) (.cons (above_lt l0 (by omega)) (.cons (above_lt l0 (by omega)) (.cons (above_lt l0 (by omega)) (.cons (above_lt l0 (by omega)) (.cons (above_lt l0 (by omega)) (.cons (above_lt l0 (by omega)) (.cons (above_lt l0 (by omega)) (.cons (off1_base (own := [_]) o8 rfl rfl) (.cons (above_lt l0 (by omega)) (.nil))))))))))) (ab_sub (own := []) hab rfl rfl)
      | or =>
        refine wpAny_call ?_
        k_dflt (refine' code_defC B F X N T rfl hf hke ?k6 ?k7 ?k8 ?k9 ?kB ?kD ?_ ?c2 ?c3 ?c4; (case k6 => k_is); (case k7 => k_is); (case k8 => (simp only [recursionLimit] at *; omega)); (case k9 => first | exact BindsTo.of_eq rfl | exact binds_K (by k_in) rfl (by k_is) rfl rfl rfl); (case kB => exact rfl); (case kD => decide +kernel); (case c2 => exact rfl); (case c3 => exact rfl); (case c4 => exact rfl))
        k_dflt (intro g' L' h' tk' cells' FG' F' N' Y' B' X' T' l1; (have l0 := l1); (try k_lt l1); k_cells Y'; (try simp only [List.cons_append, List.nil_append] at N'); (try dsimp only))
        try (have S' := S.keeps FG'.keep; clear S)
        clear N F X T B
        k_unmd
        k_fold
        repeat' ((fail_if_success (with_reducible show LCg.CompSrc _ _ _ _ _ _ _ _ _ _ _ _ _ _)); (fail_if_success (with_reducible show LeaveK _ _ _ _ _ _ _)); (fail_if_success (with_reducible show Exists _)); first | ((with_reducible show wpAny _ _ (call (Value.ref 412) [Value.ref _, _]) _ _ _); k_here; k_dflt (refine' map_use (mk := fun v => [.ref tf, v]) ih ?hA ?hf ?hke ?hh ?hd ?hu ?B ?F ?X ?T ?S ?N ?ow ?ow' ?ok ?hI ?hw ?hp ?k0 ?k1 ?_; (case hA | hf | hke | hh => exact rfl); (case hd => ktr_room); (case hu => ktr_units); (case B | F | X | T | S => k_asm); (case N => tb_start); (case ow => tb_rel); (case ow' => tb_rel); (case ok => assumption); (case hI => exact fun q h => List.mem_append_right _ (hI q h)); (case hw | hp => assumption); (case k0 | k1 => omega)); intro v9 P9 tl9 k9 h9 tk9 tk8 p9 q9 i0 i1 F9 N9 ab9 ok9; (try simp only [List.cons_append, List.nil_append] at N9)) | ((with_reducible show wpAny _ _ (call (Value.builtin "len") [Value.ref _]) _ _ _); k_here; k_dflt (refine' len_N ?N ?m ?f ?_; (case N => k_asm); (case m => k_mem); (case f => omega)); intro t9z t8z) | ((with_reducible show wpAny _ _ (subscriptTail (Expr.Name _ _) _ (Value.ref _) (Value.int _ _)) _ _ _); k_here; k_dflt (refine' itemE_N ?N ?m ?a ?b ?c ?_ ?hs; (case N => k_asm); (case m => k_mem); (case a | b => assumption); (case c => omega); (case hs => with_unfolding_all rfl)); intro ve9 hve9) | ((with_reducible show wpAny _ _ (binaryOp _ (Value.ref _) (Value.ref _)) _ _ _); k_here; k_dflt (refine' add_N ?F ?N ?a ?b ?c ?_; (case F | N => k_asm); (case a | b => k_mem); (case c => (simp only [List.length_append, List.length_drop, List.length_take, List.length_cons, List.length_nil]; omega))); intro Dz hz Fz Nz l1z; (try k_lt l1z)) | ((with_reducible show wpAny _ _ (subscriptTail _ (PySem.Expr.Slice _ _ none _) (Value.ref _) (Value.ref _)) _ _ _); k_here; k_dflt (first | (refine' slice_fromN ?F ?N ?m ?a ?b ?c ?_ ?s ?t; (case F | N => k_asm); (case m => k_mem); (case a => assumption); (case b | c => omega); (case s => with_unfolding_all rfl); (case t => (intro _; with_unfolding_all rfl))) | (refine' slice_uptoN ?F ?N ?m ?a ?b ?c ?_ ?s ?t; (case F | N => k_asm); (case m => k_mem); (case a => assumption); (case b | c => omega); (case s => with_unfolding_all rfl); (case t => (intro _; with_unfolding_all rfl)))); intro Dz hz Fz Nz l1z; (try k_lt l1z)) | (k_unfold; (try dsimp only)) | (k_end; wrow_close) | walk1 | (dsimp only; walk1) | (leave1; walk_say "STEP leave1"; try dsimp only) | fail "no step")
        refine LCg.CompSrc.ledger (by rfl) (by k_asm) (by k_asm) (by k_mem) (Nat.le_trans (show vs.toArray.size ≤ 4 by simp only [List.size_toArray]; omega) (by decide)) fun g9 => ?_
        k_dflt (refine map_comp (own := [_]) (np := np) (kend := k + ((3 * cstT d : Nat) : Int)) (placeO k tk np) (TRel d) (cstT d) vs ps hI hl' (invT_le (by omega) (by omega)) ok hps ?step ?fin)
        case step =>
          intro v P ys It oI Ct oC Dt m₂ h tk9 E' tl k8 tk8 hPm hv hNs hx F9 N9 off ne hk1 hk2 hok9
          have hw9 := Wfs.mem hw4 hPm
          simp only [List.cons_append, List.nil_append, LCg.Off3] at N9 off
          k_unmd
          repeat' ((fail_if_success (with_reducible show LCg.CompSrc _ _ _ _ _ _ _ _ _ _ _ _ _ _)); (fail_if_success (with_reducible show LeaveK _ _ _ _ _ _ _)); (fail_if_success (with_reducible show Exists _)); first | ((with_reducible show wpAny _ _ (call (Value.ref 412) [Value.ref _, _]) _ _ _); k_here; k_dflt (refine' map_use (mk := fun v => [.ref tf, v]) ih ?hA ?hf ?hke ?hh ?hd ?hu ?B ?F ?X ?T ?S ?N ?ow ?ow' ?ok ?hI ?hw ?hp ?k0 ?k1 ?_; (case hA | hf | hke | hh => exact rfl); (case hd => ktr_room); (case hu => ktr_units); (case B | F | X | T | S => k_asm); (case N => tb_start); (case ow => tb_rel); (case ow' => tb_rel); (case ok => assumption); (case hI => exact fun q h => List.mem_append_right _ (hI q h)); (case hw | hp => assumption); (case k0 | k1 => omega)); intro v9 P9 tl9 k9 h9 tk9 tk8 p9 q9 i0 i1 F9 N9 ab9 ok9; (try simp only [List.cons_append, List.nil_append] at N9)) | ((with_reducible show wpAny _ _ (call (Value.builtin "len") [Value.ref _]) _ _ _); k_here; k_dflt (refine' len_N ?N ?m ?f ?_; (case N => k_asm); (case m => k_mem); (case f => omega)); intro t9z t8z) | ((with_reducible show wpAny _ _ (subscriptTail (Expr.Name _ _) _ (Value.ref _) (Value.int _ _)) _ _ _); k_here; k_dflt (refine' itemE_N ?N ?m ?a ?b ?c ?_ ?hs; (case N => k_asm); (case m => k_mem); (case a | b => assumption); (case c => omega); (case hs => with_unfolding_all rfl)); intro ve9 hve9) | ((with_reducible show wpAny _ _ (binaryOp _ (Value.ref _) (Value.ref _)) _ _ _); k_here; k_dflt (refine' add_N ?F ?N ?a ?b ?c ?_; (case F | N => k_asm); (case a | b => k_mem); (case c => (simp only [List.length_append, List.length_drop, List.length_take, List.length_cons, List.length_nil]; omega))); intro Dz hz Fz Nz l1z; (try k_lt l1z)) | ((with_reducible show wpAny _ _ (subscriptTail _ (PySem.Expr.Slice _ _ none _) (Value.ref _) (Value.ref _)) _ _ _); k_here; k_dflt (first | (refine' slice_fromN ?F ?N ?m ?a ?b ?c ?_ ?s ?t; (case F | N => k_asm); (case m => k_mem); (case a => assumption); (case b | c => omega); (case s => with_unfolding_all rfl); (case t => (intro _; with_unfolding_all rfl))) | (refine' slice_uptoN ?F ?N ?m ?a ?b ?c ?_ ?s ?t; (case F | N => k_asm); (case m => k_mem); (case a => assumption); (case b | c => omega); (case s => with_unfolding_all rfl); (case t => (intro _; with_unfolding_all rfl)))); intro Dz hz Fz Nz l1z; (try k_lt l1z)) | (k_unfold; (try dsimp only)) | (k_end; wrow_close) | walk1 | (dsimp only; walk1) | (leave1; walk_say "STEP leave1"; try dsimp only) | fail "no step")
          exact ⟨_, _, P9, tl9, k9, _, rfl, F9, N9, p9, q9, i0, i1, ab9⟩
        case fin =>
          intro ys Ps tl k8 tk8 hps9 htw hk1 hk2 hab hok D9 h9 tk9 F9 N9 o9
          have o8 := o9
          have ha2 := List.mem_append_right tl ha'
          have hl2 := List.mem_append_right tl hl'
          have hly := hps9.len
          have hlp := htw.length
          simp only [List.cons_append, List.nil_append, LCg.Off1] at N9 o9
          k_unmd
          repeat' ((fail_if_success (with_reducible show LCg.CompSrc _ _ _ _ _ _ _ _ _ _ _ _ _ _)); (fail_if_success (with_reducible show LeaveK _ _ _ _ _ _ _)); (fail_if_success (with_reducible show Exists _)); first | ((with_reducible show wpAny _ _ (call (Value.ref 412) [Value.ref _, _]) _ _ _); k_here; k_dflt (refine' map_use (mk := fun v => [.ref tf, v]) ih ?hA ?hf ?hke ?hh ?hd ?hu ?B ?F ?X ?T ?S ?N ?ow ?ow' ?ok ?hI ?hw ?hp ?k0 ?k1 ?_; (case hA | hf | hke | hh => exact rfl); (case hd => ktr_room); (case hu => ktr_units); (case B | F | X | T | S => k_asm); (case N => tb_start); (case ow => tb_rel); (case ow' => tb_rel); (case ok => assumption); (case hI => exact fun q h => List.mem_append_right _ (hI q h)); (case hw | hp => assumption); (case k0 | k1 => omega)); intro v9 P9 tl9 k9 h9 tk9 tk8 p9 q9 i0 i1 F9 N9 ab9 ok9; (try simp only [List.cons_append, List.nil_append] at N9)) | ((with_reducible show wpAny _ _ (call (Value.builtin "len") [Value.ref _]) _ _ _); k_here; k_dflt (refine' len_N ?N ?m ?f ?_; (case N => k_asm); (case m => k_mem); (case f => omega)); intro t9z t8z) | ((with_reducible show wpAny _ _ (subscriptTail (Expr.Name _ _) _ (Value.ref _) (Value.int _ _)) _ _ _); k_here; k_dflt (refine' itemE_N ?N ?m ?a ?b ?c ?_ ?hs; (case N => k_asm); (case m => k_mem); (case a | b => assumption); (case c => omega); (case hs => with_unfolding_all rfl)); intro ve9 hve9) | ((with_reducible show wpAny _ _ (binaryOp _ (Value.ref _) (Value.ref _)) _ _ _); k_here; k_dflt (refine' add_N ?F ?N ?a ?b ?c ?_; (case F | N => k_asm); (case a | b => k_mem); (case c => (simp only [List.length_append, List.length_drop, List.length_take, List.length_cons, List.length_nil]; omega))); intro Dz hz Fz Nz l1z; (try k_lt l1z)) | ((with_reducible show wpAny _ _ (subscriptTail _ (PySem.Expr.Slice _ _ none _) (Value.ref _) (Value.ref _)) _ _ _); k_here; k_dflt (first | (refine' slice_fromN ?F ?N ?m ?a ?b ?c ?_ ?s ?t; (case F | N => k_asm); (case m => k_mem); (case a => assumption); (case b | c => omega); (case s => with_unfolding_all rfl); (case t => (intro _; with_unfolding_all rfl))) | (refine' slice_uptoN ?F ?N ?m ?a ?b ?c ?_ ?s ?t; (case F | N => k_asm); (case m => k_mem); (case a => assumption); (case b | c => omega); (case s => with_unfolding_all rfl); (case t => (intro _; with_unfolding_all rfl)))); intro Dz hz Fz Nz l1z; (try k_lt l1z)) | (k_unfold; (try dsimp only)) | (k_end; wrow_close) | walk1 | (dsimp only; walk1) | (leave1; walk_say "STEP leave1"; try dsimp only) | fail "no step")
          k_dflt (refine' leaveK_ ?k1 ?k2 ?_; (case k1 => k_asm); (case k2 => k_asm))
          intro kF kN
          obtain ⟨Pj, hj, hjp⟩ := PlansIn.get hps9 hve9
          refine ret _ _ _ (k8 + 1 + 1) _ _ _ (by exact turned_in (List.mem_append_left _ (.head _)) (List.mem_append_left _ (.tail _ (.head _))) (List.mem_append_left _ (.tail _ (.tail _ (.tail _ (.tail _ (.tail _ (.head _))))))) (List.mem_append_left _ (.tail _ (.tail _ (.tail _ (.tail _ (.tail _ (.tail _ (.head _)))))))) (PlanIn.mono (fun _ h => mem_own h) hjp) (PlansIn.mono (fun _ h => mem_own h) hps9)) (by exact turned_rel (by decide) hw1 hw2 htw (List.mem_of_getElem? hj)) ?pC ?pD kF (front2a (own := [_, _, _, _, _, _, _, _, _, _]) kN) ?pE
          case pC => omega
          case pD => omega
          case pE => exact .app (.cons (above_lt l0 (by omega)) (.cons (above_lt l0 (by omega)) (.cons (above_lt l0 (by omega)) (.cons (above_lt l0 (by omega)) (.cons (above_lt l0 (by omega)) (.cons (above_lt l0 (by omega)) (.cons (above_lt l0 (by omega)) (.cons (above_lt l0 (by omega)) (.cons (off1_base (own := [_]) o8 rfl rfl) (.cons (above_lt l0 (by omega)) (.nil))))))))))) (ab_sub (own := []) hab rfl rfl)
end
end
/-! ## part Base8 -/
section
example : True := by (w_top off; trivial)
def TruthSpec (prog : Program) (w : World) (p : Program) (loose : List Str) (mean : ExcName → Option Value) (mg mb : Str → Option Value) (np : Nat) (pl tb tf : Addr) (I₀ : LL) (sh gl : Addr) (d : Nat) : Prop :=
  ∀ (A A₀ : Around) (env : Env) (outer : List Env) (base h₀ : Heap) (L : Addr) (m : Str → Option Value) (s : Shared) (Q E : Value → Shared → Prop)
    (R I RT : LL) (k : Int) (tk : Tok) (ot os : Obj) (st : Addr) (σ : Nat → Bool) (rs : List Value) (v : Value) (P : Pl),
    A.frames = some (env :: outer) → env.frame = some L → env.scope.kind = .function → A.handled = none → A.depth + 140 + d < recursionLimit → A.units + 140 + 6 * d < cLine →
    Below A₀ base outer h₀ → Fr h₀ L s.heap m → (K w.params).In h₀ → Top p loose mean mg mb h₀ → h₀.NoSeer →
    News h₀ L s.heap ((pl, placeO k tk np) :: (tb, ot) :: R) → Ok pl tb I₀ R → (∀ q ∈ RT, q ∈ R) → Tab prog w RT ot rs → (rs.length : Int) ≤ k + 4 → (∀ i : Nat, i < 4 → ∃ x, rs[i]? = some (.ref x) ∧ GroupIn prog w I₀ x) →
    (st, os) ∈ R → StIn prog w os σ → (st == sysModules) = false →
    (∀ q ∈ I, q ∈ R) → Wf 4 d P → PlanIn I v P → 0 ≤ k → k + ((cstM d : Nat) : Int) < 900000 →
    (∀ tl ot' rs' k' h' tks tk', Tab prog w (tl ++ RT) ot' rs' → Pre rs rs' → (rs'.length : Int) ≤ k' + 4 → k ≤ k' → k' ≤ k + ((cstM d : Nat) : Int) → Fr h₀ L h' m →
      News h₀ L h' ((pl, placeO k' tk' np) :: (tb, ot') :: (tl ++ R)) → Above tl ((pl, placeO k tk np) :: (tb, ot) :: R) → Q (.bool (ev σ P)) { s with heap := h', toks := tks }) →
    wpAny (model prog w) A (call (.ref 424) [.ref tf, .ref sh, .ref gl, v, .ref st]) Q E s
section
variable {prog : Program} {w : World} {p : Program} {loose : List Str} {mean : ExcName → Option Value} {mg mb : Str → Option Value} {np : Nat} {pl tb tf : Addr} {I₀ : LL}
  {A A₀ : Around} {env : Env} {outer : List Env} {base h₀ : Heap} {L : Addr} {m : Str → Option Value} {s : Shared} {Q E : Value → Shared → Prop}
theorem eval_use (d : Nat) {sh dsh tr gl st : Addr} {t1 t2 : Tok} {gvs : List Value} {ng : Nat} (std : Std w I₀ sh dsh tb tr gl t1 t2 gvs ng) {R RT RE : LL} {po ot os : Obj} {rs : List Value} {σ : Nat → Bool} {v : Value} {P : Pl}
    (hA : A.frames = some (env :: outer)) (hf : env.frame = some L) (hke : env.scope.kind = .function) (hh : A.handled = none) (hd : A.depth + 130 + d < recursionLimit) (hu : A.units + 130 + 6 * d < cLine)
    (B : Below A₀ base outer h₀) (F : Fr h₀ L s.heap m) (X : (K w.params).In h₀) (T : Top p loose mean mg mb h₀)
    (N : News h₀ L s.heap ((pl, po) :: (tb, ot) :: R)) (ok : Ok pl tb I₀ R) (hRT : ∀ q ∈ RT, q ∈ R) (ht : Tab prog w RT ot rs) (hgr : ∀ i : Nat, i < 4 → ∃ x, rs[i]? = some (.ref x) ∧ GroupIn prog w I₀ x)
    (m4 : (st, os) ∈ R) (hst : StIn prog w os σ) (hslo : (st == sysModules) = false) (hw : Wf 4 d P) (hRE : ∀ q ∈ RE, q ∈ R) (he : ExprIn w RE rs v P) (h19 : d ≤ 19)
    (ret : ∀ h' tks, Fr h₀ L h' m → News h₀ L h' ((pl, po) :: (tb, ot) :: R) → Q (.bool (ev σ P)) { s with heap := h', toks := tks }) :
    wpAny (model prog w) A (call (.ref 385) [.ref sh, .ref st, v]) Q E s := by
  obtain ⟨kvs, h1, h2, h3, h4⟩ := ht
  have up : ∀ q ∈ R, q ∈ (pl, po) :: (tb, ot) :: R := fun q h => .tail _ (.tail _ h)
  exact eval_top d A A₀ env outer base h₀ L m s Q E _ sh dsh tb tr st ot os t1 t2 kvs rs σ v P hA hf hke hh hd hu B F X T N (up _ (ok.sub _ std.m1)) (up _ (ok.sub _ std.m2)) (.tail _ (.head _)) h1 std.lo (up _ m4) hst hslo
    (fun j x e => let ⟨a, t, n, y1, y2⟩ := h4 j x e; ⟨a, t, n, y1, up _ (hRT _ y2)⟩) (fun i hi => let ⟨x, y1, y2⟩ := hgr i hi; ⟨x, y1, y2.mono fun q h => up _ (ok.sub _ h)⟩) hw (he.mono (fun q h => up _ (hRE _ h)) (Pre.refl _)) h19 ret
theorem truth_use {sh gl : Addr} {d : Nat} (hP : TruthSpec prog w p loose mean mg mb np pl tb tf I₀ sh gl d) {own R I RT : LL} {k : Int} {tk : Tok} {ot os : Obj} {st : Addr} {σ : Nat → Bool} {rs : List Value} {v : Value} {P : Pl}
    (hA : A.frames = some (env :: outer)) (hf : env.frame = some L) (hke : env.scope.kind = .function) (hh : A.handled = none) (hd : A.depth + 140 + d < recursionLimit) (hu : A.units + 140 + 6 * d < cLine)
    (B : Below A₀ base outer h₀) (F : Fr h₀ L s.heap m) (X : (K w.params).In h₀) (T : Top p loose mean mg mb h₀) (S : h₀.NoSeer)
    (N : News h₀ L s.heap (own ++ (pl, placeO k tk np) :: (tb, ot) :: R)) (hown : ∀ q ∈ own, q.1 ≠ pl) (hown' : ∀ q ∈ own, q.1 ≠ tb) (ok : Ok pl tb I₀ R) (hRT : ∀ q ∈ RT, q ∈ R) (ht : Tab prog w RT ot rs) (hl : (rs.length : Int) ≤ k + 4)
    (hgr : ∀ i : Nat, i < 4 → ∃ x, rs[i]? = some (.ref x) ∧ GroupIn prog w I₀ x) (m4 : (st, os) ∈ own ++ R) (hst : StIn prog w os σ) (hslo : (st == sysModules) = false)
    (hI : ∀ q ∈ I, q ∈ own ++ R) (hw : Wf 4 d P) (hp : PlanIn I v P) (hk0 : 0 ≤ k) (hk : k + ((cstM d : Nat) : Int) < 900000)
    (ret : ∀ tl ot' rs' k' h' tks tk', Tab prog w (tl ++ RT) ot' rs' → Pre rs rs' → (rs'.length : Int) ≤ k' + 4 → k ≤ k' → k' ≤ k + ((cstM d : Nat) : Int) → Fr h₀ L h' m →
      News h₀ L h' (own ++ (pl, placeO k' tk' np) :: (tb, ot') :: (tl ++ R)) → Above tl ((pl, placeO k tk np) :: (tb, ot) :: (own ++ R)) → Ok pl tb I₀ (tl ++ R) → Q (.bool (ev σ P)) { s with heap := h', toks := tks }) :
    wpAny (model prog w) A (call (.ref 424) [.ref tf, .ref sh, .ref gl, v, .ref st]) Q E s := by
  refine hP A A₀ env outer base h₀ L m s Q E (own ++ R) I RT k tk ot os st σ rs v P hA hf hke hh hd hu B F X T S (front2 N) (ok.own hown hown') (fun q h => List.mem_append_right _ (hRT q h)) ht hl hgr m4 hst hslo hI hw hp hk0 hk
    fun tl ot' rs' k' h' tks tk' b c d' e f F' N' ab => ?_
  exact ret tl ot' rs' k' h' tks tk' b c d' e f F' (back2 N') ab (ok_of_above ok ab)
end
end
/-! ## part T18 -/
section
example : True := by (w_top off; trivial)
local macro_rules | `(tactic| walk_at "none") => `(tactic| fail)
theorem truth_spec {prog : Program} {w : World} {p : Program} {loose : List Str} {mean : ExcName → Option Value} {mg mb : Str → Option Value} {np : Nat} {pl tb tf : Addr} {I₀ : LL}
    {sh dsh tr gl : Addr} {t1 t2 : Tok} {gvs : List Value} {ng : Nat} (std : Std w I₀ sh dsh tb tr gl t1 t2 gvs ng)
    {d : Nat} (hM : MadeSpec prog w p loose mean mg mb np pl tb tf I₀ sh gl d) (h19 : d ≤ 19) : TruthSpec prog w p loose mean mg mb np pl tb tf I₀ sh gl d := by
  intro A A₀ env outer base h₀ L m s Q E R I RT k tk ot os st σ rs v P hA hf hke hh hd hu B F X T S N ok hRT ht hrl hgr hm4 hst hslo hI hw hp hk0 hk ret
  obtain ⟨hd', dp, fr, gd, un⟩ := A
  dsimp only at hA hh hd hu hk ret
  subst hA hh
  refine wpAny_call ?_
  k_dflt (refine' code_def B F X N T rfl hf hke ?k6 ?k7 ?k8 ?k9 ?kB ?_ ?c2 ?c3 ?c4 ?c5; (case k6 => k_is); (case k7 => k_is); (case k8 => (simp only [recursionLimit] at *; omega)); (case k9 => first | exact BindsTo.of_eq rfl | exact binds_K (by k_in) rfl (by k_is) rfl rfl rfl); (case c5 => decide); (case kB => exact locs rfl); (case c2 => exact rfl); (case c3 => exact rfl); (case c4 => exact rfl))
  k_dflt (intro g' L' h' FG' F' N' B' X' T'; (try dsimp only))
  try (have S' := S.keeps FG'.keep; clear S)
  clear N F X T B
  k_unmd
  k_fold
  repeat' ((fail_if_success (with_reducible show LCg.CompSrc _ _ _ _ _ _ _ _ _ _ _ _ _ _)); (fail_if_success (with_reducible show LeaveK h₀ L m _ _ _ _)); (fail_if_success (with_reducible show Exists _)); first | ((with_reducible show wpAny _ _ (call (Value.ref 385) [Value.ref _, Value.ref _, _]) _ _ _); k_here; k_dflt (refine' eval_use (σ := σ) (P := P) d std ?hA ?hf ?hke ?hh ?hd ?hu ?B ?F ?X ?T ?N ok9 (mem_app_mono hRT) t9 ?hgr (List.mem_append_right _ hm4) hst hslo hw ?hRE e9 h19 ?_; (case hA | hf | hke | hh => exact rfl); (case hd => ktr_room); (case hu => ktr_units); (case B | F | X | T | N => k_asm); (case hgr => exact fun i hi => let ⟨x, y1, y2⟩ := hgr i hi; ⟨x, p9 _ _ y1, y2⟩); (case hRE => exact mem_app_mono ok.sub)); intro h8 tk7 F8 N8) | ((with_reducible show wpAny _ _ (call (Value.ref 402) [Value.ref _, Value.ref _, Value.ref _, _]) _ _ _); k_here; k_dflt (refine' made_use (own := []) (I := I) (RT := RT) (R := R) hM ?hA ?hf ?hke ?hh ?hd ?hu ?B ?F ?X ?T ?S ?N ?ow ?ow' ?ok ?hRT ?ht ?hl ?hI ?hw ?hp ?k0 ?k1 ?_; (case hA | hf | hke | hh => exact rfl); (case hd => ktr_room); (case hu => ktr_units); (case B | F | X | T | S | N => k_asm); (case ow => tb_rel); (case ow' => tb_rel); (case ok | hRT | ht | hl => assumption); (case hI => exact hI); (case hw | hp => assumption); (case k0 | k1 => omega)); intro v9 tl9 ot9 rs9 k9 h9 tk9 tk8 e9 t9 p9 l9 i0 i1 F9 N9 ab9 ok9; (try simp only [List.cons_append, List.nil_append] at N9)) | (k_unfold; (try dsimp only)) | (k_end; wrow_close) | walk1 | (dsimp only; walk1) | (leave1; walk_say "STEP leave1"; try dsimp only) | fail "no step")
  k_dflt (refine' leaveK_ ?k1 ?k2 ?_; (case k1 => k_asm); (case k2 => k_asm))
  intro kF kN
  exact ret _ _ _ _ _ _ _ t9 p9 l9 i0 i1 kF kN ab9
end
/-! ## part Base9 -/
section
example : True := by (w_top off; trivial)
open LCg in
theorem compEnd_new {h₀ : Heap} {L I C D : Addr} {m : Str → Option Value} {s₁ : Shared} {oI oC oD : Obj} {S : LL → Prop} {rest : Value → LL → Prop} {y : Value} {h' : Heap} {tk : Nat} {t : Addr × Obj} {base : LL}
    (F : Fr h₀ L h' m) (N : News h₀ L h' (t :: (I, oI) :: (C, oC) :: (D, oD) :: base)) (off : Off3 I C D base) (ht : (@Ne Nat t.1 I) ∧ (@Ne Nat t.1 C) ∧ (@Ne Nat t.1 D)) (hS : S (t :: base)) (r : rest y (t :: base)) :
    CompEnd h₀ L m s₁ I oI C oC D oD S rest y { s₁ with heap := h', toks := tk } :=
  CompEnd.intro F N (t :: base) (fun p hp => by simp only [List.mem_cons] at hp ⊢; rcases hp with h | h | h | h | h <;> simp [h]) ⟨ht, off⟩ hS r
open LCg in
theorem compEnd_same {h₀ : Heap} {L I C D : Addr} {m : Str → Option Value} {s₁ : Shared} {oI oC oD : Obj} {S : LL → Prop} {rest : Value → LL → Prop} {y : Value} {h' : Heap} {tk : Nat} {base : LL}
    (F : Fr h₀ L h' m) (N : News h₀ L h' ((I, oI) :: (C, oC) :: (D, oD) :: base)) (off : Off3 I C D base) (hS : S base) (r : rest y base) :
    CompEnd h₀ L m s₁ I oI C oC D oD S rest y { s₁ with heap := h', toks := tk } :=
  CompEnd.intro F N base (fun p hp => hp) off hS r
end
/-! ## part Pairs -/
section
example : True := by (w_top off; trivial)
local macro_rules | `(tactic| walk_at "none") => `(tactic| fail)
theorem entry_dict_update_loop : entryFor table "dict.update.loop" = some Builtin.«dict.update.loop» := entryFor_of_tree (by kernel_rfl)
theorem plain_dict_update_loop : plainId "dict.update.loop" = true := by decide +kernel
section
variable {prog : Program} {w : World} {A : Around} {R : Result → Shared → Prop}
theorem pairs_loop (hh : A.handled = none) {D I ax : Addr} (h1 : ax ≠ I) (h2 : D ≠ I) (h3 : D ≠ ax) (items : Array Value) (pairs : List (Int × Value)) (hl : pairs.length = items.size) (hsm : pairs.length ≤ 1000) :
    ∀ (j i : Nat) (s : Shared) (kvs : List (Int × Value)), items.size - i = j → i ≤ items.size → s.heap.IsListIter I ax i → s.heap.IsList ax items → s.heap.DictOf (intKind prog w) D kvs → kvs.length ≤ i →
      (∀ (i : Nat) p, pairs[i]? = some p → ∃ a t, items[i]? = some (.ref a) ∧ IsTup s.heap a #[.int p.1 t, p.2] ∧ a ≠ I ∧ a ≠ D) →
      (∀ h' tk, (∀ b o, b ≠ I → b ≠ D → s.heap.get? b = some o → h'.get? b = some o) → h'.DictOf (intKind prog w) D ((pairs.drop i).foldl (fun acc p => stored acc p.1 p.2) kvs) → R (.ok (.ret .none)) { s with heap := h', toks := tk }) →
      codeAny (model prog w) A (.builtin "dict.update.loop" ⟨[.ref D, .ref I, rawInt i, .none], []⟩) R s := by
  have W := Walks.list (prog := prog) (w := w) (A := A.in1) hh I ax h1 items
  intro j
  induction j with
  | zero =>
    intro i s kvs hk hi hit hls hd hkl htup hR
    have hin : i = items.size := by omega
    subst hin
    refine codeAny_builtin entry_dict_update_loop ?_
    rw [Around.under_plainId plain_dict_update_loop _]
    show wpAny _ A.in1 (pyNext (.ref I) >>= _) _ _ s
    refine wpAny_bind (W.done s _ _ ⟨hit, hls⟩ fun h' tk hm => ?_)
    show wpAny _ A.in1 (ret Value.none) _ _ _
    refine wpAny_pure (hR h' tk (fun b o hb _ e => hm b o (by simpa using hb) e) ?_)
    rw [List.drop_of_length_le (by omega)]
    obtain ⟨o, es, ep, ho, r⟩ := hd
    exact ⟨o, es, ep, hm D o (by simpa using h2) ho, r⟩
  | succ k ih =>
    intro i s kvs hk hi hit hls hd hkl htup hR
    have hlt : i < items.size := by omega
    obtain ⟨p, hp⟩ : ∃ p, pairs[i]? = some p := ⟨pairs[i]'(by omega), by simp [hl, hlt]⟩
    obtain ⟨a, t, hia, htp, haI, haD⟩ := htup i p hp
    refine codeAny_builtin entry_dict_update_loop ?_
    rw [Around.under_plainId plain_dict_update_loop _]
    show wpAny _ A.in1 (pyNext (.ref I) >>= _) _ _ s
    refine wpAny_bind (W.item i s _ _ hlt ⟨hit, hls⟩ fun v h' tk hP hst' hm => ?_)
    have hv : v = .ref a := by
      have : items[i]? = some v := hP
      rw [hia] at this
      exact (Option.some.inj this).symm
    subst hv
    have htp' : IsTup h' a #[.int p.1 t, p.2] := by
      obtain ⟨o, ho, r⟩ := htp
      exact ⟨o, hm a o (by simpa using haI) ho, r⟩
    have hd' : h'.DictOf (intKind prog w) D kvs := by
      obtain ⟨o, es, ep, ho, r⟩ := hd
      exact ⟨o, es, ep, hm D o (by simpa using h2) ho, r⟩
    have hty : Shared.TypeIs { s with heap := h', toks := tk } (.ref a) "tuple" := IsTup.typeIs (s := { s with heap := h', toks := tk }) htp'
    obtain ⟨o9, ho9, hc9, n9, hd9⟩ := id htp'
    dsimp only
    refine wpAny_bind (wpAny_holding ?_)
    refine wpAny_bind (wpAny_tryCatch ?_)
    unfold Builtin.Dict.pairItems
    refine wpAny_bind (wpAny_typeOf hty ?_)
    rw [if_pos (by decide)]
    refine wpAny_bind (wpAny_seqItems ho9 hd9 ?_)
    refine wpAny_pure ?_
    show wpAny _ A.in1 (holding [Value.int p.1 t, p.2] (dictSet D (.int p.1 t) p.2)) _ _ _
    refine wpAny_holding ?_
    refine wpAny_dictSet_pairs (knd := intKind prog w) (k := p.1) (intKind_is _ _ _ _) hd' (fun h'' hd'' hs'' => ?_) (Nat.le_trans (show kvs.length ≤ 1000 by omega) (by decide))
    refine wpAny_pure ⟨plainId_quiet plain_dict_update_loop _, ?_⟩
    have e1 : ∀ b o, b ≠ D → h'.get? b = some o → h''.get? b = some o := fun b o hb e => (hs''.2 b hb).trans e
    refine ih (i + 1) _ (stored kvs p.1 p.2) (by omega) hlt (hst'.1.at fun o e => e1 I o (Ne.symm h2) e) (by obtain ⟨o, ho, r⟩ := hst'.2; exact ⟨o, e1 ax o (Ne.symm h3) ho, r⟩) hd'' (Nat.le_trans (stored_length_le _ _ _) (by omega)) (fun i' p' hp' => ?_) fun h3' tk3 hk3 hd3 => ?_
    · obtain ⟨a', t', y1, y2, y3, y4⟩ := htup i' p' hp'
      refine ⟨a', t', y1, ?_, y3, y4⟩
      obtain ⟨o, ho, r⟩ := y2
      exact ⟨o, e1 a' o y4 (hm a' o (by simpa using y3) ho), r⟩
    · refine hR h3' tk3 (fun b o hb hb' e => hk3 b o hb hb' (e1 b o hb' (hm b o (by simpa using hb) e))) ?_
      have hlt' : i < pairs.length := by omega
      rw [List.drop_eq_getElem_cons hlt', List.foldl_cons]
      have : pairs[i] = p := by rw [List.getElem?_eq_getElem hlt'] at hp; exact Option.some.inj hp
      rw [this]; exact hd3
end
theorem keys_miss : typeLookup (.type "list") (Str.ofString "keys") = pure none := am_miss_of_fast (by kernel_rfl)
section
variable {prog : Program} {w : World} {A : Around} {E : Value → Shared → Prop} {s : Shared}
theorem getAttrBy_miss_list {a : Addr} {o : Obj} {xs : Array Value} {k : Nat} {name : Str} {u : Tok} {Q : Value → Shared → Prop}
    (hx : s.heap.get? a = some o) (hc : o.cls = .type "list") (hdat : o.data = .seq xs k) (hd : o.dict = none) (hmiss : typeLookup (.type "list") name = pure none) (hname : (["__module__", "__name__", "__qualname__", "__doc__", "__annotations__"] : List Str).contains name = false) (hA : A.handled = none)
    (h : ∀ h' tk e, Heap.NewExcOf s.heap h' e "AttributeError" → E (.ref e) { s with heap := h', toks := tk }) (hsz : name.length + 100 ≤ sizeLine := by size_fits) :
    wpAny (model prog w) A (getAttrBy (.ref a) (.str name u) false) Q E s := by
  obtain ⟨c, dct, dat, sl⟩ := o
  simp only at hc hdat hd
  subst hc hdat hd
  obtain ⟨hp, g, d, tk, os⟩ := s
  have hT : ∀ tk', (⟨hp, g, d, tk', os⟩ : Shared).TypeIs (.ref a) "list" := fun _ => ⟨_, hx, rfl⟩
  have f1 := sub_AttributeError
  have f3 := F.slot_list_getattribute.lookup
  have f4 := F.slot_list_getattribute.bind (.ref a)
  have f5 := am_list_getattr_none
  unfold getAttrBy
  repeat (any_goals (first | assumption | exact hT _ | ((with_reducible show wpAny _ _ (call (Value.builtin "list.__getattribute__") _ _) _ _ _); refine call_meets F.slot_list_getattribute (hT _) am_entry_list_getattribute (F.args_list_getattribute_2 _ _) (meets_getattribute_miss_list a xs k sl name _ hmiss hname hsz) ⟨hx, hA, fun h' tk' e hx' => ?_⟩) | wp_step))
  obtain ⟨t', u', he⟩ := hx'.there
  show wpAny _ _ (getattributeRaised _ _ _ _ _ _ _) _ _ _
  unfold getattributeRaised
  repeat (any_goals (first | assumption | wp_step))
  exact h _ _ _ hx'.of
end
section
variable {prog : Program} {w : World} {A : Around} {E : Value → Shared → Prop} {s : Shared}
theorem getAttr?_keys {a : Addr} {o : Obj} {xs : Array Value} {k : Nat} {Q : Option Value → Shared → Prop}
    (hx : s.heap.get? a = some o) (hc : o.cls = .type "list") (hdat : o.data = .seq xs k) (hd : o.dict = none) (hA : A.handled = none)
    (h : ∀ h' tk, (∀ b ob, s.heap.get? b = some ob → h'.get? b = some ob) → Q none { s with heap := h', toks := tk }) :
    wpAny (model prog w) A (getAttr? (.ref a) (Str.ofString "keys")) Q E s := by
  unfold getAttr? getAttrBy?
  refine wpAny_bind (wpAny_mkText ?_)
  refine wpAny_bind (wpAny_attempt ?_)
  refine getAttrBy_miss_list (s := { s with toks := s.toks + 1 }) hx hc hdat hd keys_miss (by decide +kernel) hA (fun h' tk e hx' => ?_) (by decide +kernel)
  obtain ⟨k1, k2, k3⟩ := hx'
  obtain ⟨x1, x2, x3, x4, x5⟩ := k3
  refine wpAny_bind (wpAny_isInstance (T := "AttributeError") ⟨_, x3, x4⟩ sub_AttributeError ?_)
  simp only [if_true]
  exact wpAny_pure (h h' _ k1)
theorem call_dict_pairs (hh : A.handled = none) {l : Addr} {ol : Obj} {items : Array Value} {n : Nat} {pairs : List (Int × Value)} {Q : Value → Shared → Prop}
    (hx : s.heap.get? l = some ol) (hc : ol.cls = .type "list") (hdat : ol.data = .seq items n) (hd : ol.dict = none)
    (hl : pairs.length = items.size) (hsm : pairs.length ≤ 1000)
    (htup : ∀ (i : Nat) p, pairs[i]? = some p → ∃ a t, items[i]? = some (.ref a) ∧ IsTup s.heap a #[.int p.1 t, p.2])
    (h : ∀ h' tk, (∀ b o, s.heap.get? b = some o → h'.get? b = some o) → h'.DictOf (intKind prog w) s.heap.objs.size (pairs.foldl (fun acc p => stored acc p.1 p.2) []) → Q (.ref s.heap.objs.size) { s with heap := h', toks := tk }) :
    wpAny (model prog w) A (call (.type "dict") [.ref l]) Q E s := by
  refine callType_codes (Q₁ := fun obj s₁ => obj = .ref s.heap.objs.size ∧ s₁ = { s with heap := s.heap.push { cls := .type "dict", data := .dict #[] } }) F.kt_called_dict (F.kt_typeCall_dict_1 _) F.entry_dict_init (kt_code_dict_new _ ⟨rfl, rfl⟩) ?_
  rintro obj s₁ ⟨rfl, rfl⟩
  have hnew : (s.heap.push { cls := .type "dict", data := .dict #[] }).DictOf (intKind prog w) s.heap.objs.size [] := Heap.DictOf.new s.heap
  have hx1 : (s.heap.push { cls := .type "dict", data := .dict #[] }).get? l = some ol := Heap.get?_push_of_some _ hx
  have hls : (s.heap.push { cls := .type "dict", data := .dict #[] }).IsList l items := ⟨_, hx1, hc, n, hdat⟩
  refine ⟨hnew.typeIs, F.args_dict_init_2 _ _, ?_⟩
  unfold Builtin.«dict.__init__»
  refine wpAny_bind ?_
  unfold Builtin.Dict.selfAndRest
  refine wpAny_bind (wpAny_notOrdered_dict hnew.typeIs ?_)
  show wpAny _ _ (pure (s.heap.objs.size, [Value.ref l])) _ _ _
  refine wpAny_pure ?_
  show wpAny _ _ (Builtin.Dict.updateFrom "dict.__init__" s.heap.objs.size (.ref l) [] .none) _ _ _
  unfold Builtin.Dict.updateFrom
  refine wpAny_bind (wpAny_typeOf hls.typeIs ?_)
  rw [if_pos (by decide)]
  refine wpAny_bind (getAttr?_keys hx1 hc hdat hd ?_ fun h1 tk1 k1 => ?_)
  · exact hh
  · simp only [Option.isNone_none, if_true]
    have hD0 := hnew
    obtain ⟨oD, esD, epD, hDg, hDr⟩ := hnew
    have hD1 : h1.get? s.heap.objs.size = some oD := k1 _ _ hDg
    have hl1 : h1.get? l = some ol := k1 _ _ hx1
    have hls1 : h1.IsList l items := ⟨_, hl1, hc, n, hdat⟩
    have ne1 : l ≠ h1.objs.size := fun e => absurd (Heap.lt_size hl1) (by rw [e]; exact Nat.lt_irrefl _)
    have ne2 : s.heap.objs.size ≠ h1.objs.size := fun e => absurd (Heap.lt_size hD1) (by rw [e]; exact Nat.lt_irrefl _)
    have ne3 : s.heap.objs.size ≠ l := fun e => absurd (Heap.lt_size hx) (by rw [← e]; exact Nat.lt_irrefl _)
    refine wpAny_bind (wpAny_rule ?_)
    refine wpAny_bind (wpAny_pyIter_list hls1 ?_)
    refine wpAny_pure ⟨plainId_quiet plain_dict_update_loop _, ?_⟩
    have up : ∀ b o, s.heap.get? b = some o → (h1.push { cls := .type "list_iterator", data := .fields #[.ref l, .int 0 0] }).get? b = some o := fun b o e => Heap.get?_push_of_some _ (k1 b o (Heap.get?_push_of_some _ e))
    refine pairs_loop (A := A.in1) (D := s.heap.objs.size) (I := h1.objs.size) (ax := l) hh ne1 ne2 ne3 items pairs hl hsm items.size 0 _ [] (by omega) (by omega) ?_ ?_ ?_ (by simp) ?_ ?_
    · exact ⟨_, Heap.get?_push_size _ rfl, rfl, rfl⟩
    · exact ⟨_, up _ _ hx, hc, n, hdat⟩
    · exact ⟨oD, esD, epD, Heap.get?_push_of_some _ hD1, hDr⟩
    · intro i p hp
      obtain ⟨a, t, y1, y2⟩ := htup i p hp
      obtain ⟨o, ho, r⟩ := y2
      refine ⟨a, t, y1, ⟨o, up _ _ ho, r⟩, ?_, ?_⟩
      · exact fun e => absurd (Heap.lt_size (k1 _ _ (Heap.get?_push_of_some _ ho))) (by rw [e]; exact Nat.lt_irrefl _)
      · exact fun e => absurd (Heap.lt_size ho) (by rw [e]; exact Nat.lt_irrefl _)
    · intro h' tk hk hd'
      refine ⟨rfl, h h' tk (fun b o e => hk b o ?_ ?_ (up _ _ e)) hd'⟩
      · exact fun q => absurd (Heap.lt_size (k1 _ _ (Heap.get?_push_of_some _ e))) (by rw [q]; exact Nat.lt_irrefl _)
      · exact fun q => absurd (Heap.lt_size e) (by rw [q]; exact Nat.lt_irrefl _)
end
section
variable {prog : Program} {w : World} {A : Around} {E : Value → Shared → Prop} {s : Shared} {h₀ : Heap} {L : Addr} {m : Str → Option Value} {news : LL}
theorem dict_pairs_N {l : Addr} {vs : List Value} {n : Nat} (pairs : List (Int × Value)) {Q : Value → Shared → Prop} (hh : A.handled = none) (F : Fr h₀ L s.heap m) (N : News h₀ L s.heap news) (hbig : h₀.NoLimit)
    (hm : (l, lstO vs n) ∈ news) (hl : pairs.length = vs.length) (hsm : pairs.length ≤ 1000)
    (htup : ∀ (i : Nat) p, pairs[i]? = some p → ∃ a t nn, vs[i]? = some (.ref a) ∧ (a, tupO [.int p.1 t, p.2] nn) ∈ news)
    (h : ∀ D h' o tk, Fr h₀ L h' m → News h₀ L h' ((D, o) :: news) → (∀ p ∈ news, p.1 < D) → (D == sysModules) = false → o.IsDictOf (intKind prog w) (pairs.foldl (fun acc p => stored acc p.1 p.2) []) → Q (.ref D) { s with heap := h', toks := tk }) :
    wpAny (model prog w) A (call (.type "dict") [.ref l]) Q E s := by
  refine call_dict_pairs (items := vs.toArray) (n := n) (pairs := pairs) hh (N _ hm).1 rfl rfl rfl (by simpa using hl) hsm ?_ fun h' tk keep hd => ?_
  · intro i p hp
    obtain ⟨a, t, nn, y1, y2⟩ := htup i p hp
    exact ⟨a, t, by simpa using y1, ⟨_, (N _ y2).1, rfl, nn, rfl⟩⟩
  · obtain ⟨o, ho, hd'⟩ := Heap.dictOf_iff.mp hd
    have N1 := News.push F N { cls := .type "dict", data := .dict #[] }
    refine h _ h' o tk ⟨F.ns.keeps keep, fun b o e => keep b o (F.keep b o e), F.above⟩ (fun p hp => ?_) (fun p hp => Heap.lt_size (N p hp).1) (F.notModules (modules_low hbig)) hd'
    rcases List.mem_cons.mp hp with rfl | hp
    · exact ⟨ho, (N1 _ (.head _)).2⟩
    · exact ⟨keep _ _ (N p hp).1, (N p hp).2⟩
end
end
/-! ## part DictC -/
section
example : True := by (w_top off; trivial)
open LCg
section
variable {prog : Program} {w : World} {A : Around} {E : Value → Shared → Prop} {s : Shared} {h₀ : Heap} {L : Addr} {m : Str → Option Value} {env : Env} {K : Type} [DecidableEq K] {knd : KeyKind prog w K}
/-- the iterable is an opaque dict of the ledger -/
def CompDict (knd : KeyKind prog w K) (A : Around) (h₀ : Heap) (L : Addr) (m : Str → Option Value) (env : Env) (elt : Expr) (x : Str) (scope : Scope) (cl : List (Str × Addr)) (Fin : Shared → List Value → LL → Prop) (xv : Value) (s₁ : Shared) : Prop :=
  ∃ d o kvs news, xv = .ref d ∧ A.handled = none ∧ Fr h₀ L s₁.heap m ∧ News h₀ L s₁.heap news ∧ (d, o) ∈ news ∧ o.IsDictOf knd kvs ∧ (d == sysModules) = false ∧ kvs.length ≤ sizeLine ∧
    ∀ g, CompRest prog w A h₀ L m env elt x scope cl { s₁ with heap := g } (fun nw => (d, o) ∈ nw) (fun i v => ∃ k y, kvs[i]? = some (k, y) ∧ knd.is k v = true) (Fin { s₁ with heap := g }) kvs.length 0 [] news
theorem ListComp_D {elt iter : Expr} {x : Str} {px : Pos} {scope : Scope} {cl : List (Str × Addr)} {pos : Pos} {Q : Value → Shared → Prop} (F₀ : Fr h₀ L s.heap m)
    (hclos : closureFor scope env = pure cl) (hcell : ∀ y ∈ scope.names, y.2 ≠ .cell) (hkind : scope.kind = .function)
    (hnames : ∀ y ∈ scope.names, y.2 = .local → scope.names.lookup y.1 = some .local) (hx : scope.names.lookup x = some .local)
    (h : wpAny (model prog w) A (eval iter env) (CompDict knd A h₀ L m env elt x scope cl (fun s₂ => FinE h₀ L m s₂ Q)) E s)
    (hs : ∀ x, foldedSetIterable iter env x = pure x := by intro _; rfl) :
    wpAny (model prog w) A (eval (.ListComp elt [⟨.Name x px, iter, [], 0⟩] scope pos) env) Q E s := by
  rw [eval_ListComp]
  refine wpAny_comprehension_free (use := none) rfl hs hclos hkind hnames (wpAny_mono h (fun xv s₁ h₁ => ?_) fun _ _ e => e)
  obtain ⟨d, o, kvs, news, rfl, hh, F, N, hm, hd, lo, hsz, R⟩ := h₁
  obtain ⟨ep, hat⟩ := Heap.DictOf.dictAt (Heap.dictOf_iff.mpr ⟨o, (N _ hm).1, hd⟩)
  have hlt : d < s₁.heap.objs.size := hat.lt_size
  refine wpAny_pyIter_dict lo hat ?_
  have up : ∀ b o, s₁.heap.get? b = some o → (s₁.heap.push { cls := .type "dict_keyiterator", data := .fields #[.ref d, .int 0 0, .int kvs.length 0, .int ep 0] }).get? b = some o := fun b o e => Heap.get?_push_of_some _ e
  refine block_U (S := fun nw => (d, o) ∈ nw) (Walks.dictKeys hh s₁.heap.objs.size d (Nat.ne_of_lt hlt) kvs ep) hsz (fun i h st => by obtain ⟨o, e, _⟩ := st.1; exact ⟨o, e⟩) ?st hcell hkind hx ⟨⟨_, Heap.get?_push_size _ rfl, rfl, rfl⟩, hat.push _⟩ (fun b hb => ?_)
    (F.keeps up) (N.grown up) (Nat.ne_of_lt F.ns.lt) (next_is_new F) (fun p hp => Nat.ne_of_lt (Heap.lt_size (N p hp).1)) hm (R _) ?_
  case st =>
    intro i h h' oI nw st e e' k N' S
    refine ⟨by obtain ⟨o', q, r⟩ := st.1; rw [e] at q; cases q; exact ⟨oI, e', r⟩, ?_⟩
    obtain ⟨o1, es1, ho1, r1⟩ := hat
    have : o1 = o := by have := (N _ hm).1; rw [ho1] at this; exact Option.some.inj this
    subst this
    exact ⟨o1, es1, (N' _ S).1, r1⟩
  · show b < (s₁.heap.push _).objs.size
    rw [Heap.size_push]
    rcases List.mem_cons.mp hb with rfl | hb
    · exact Nat.lt_succ_self _
    · rw [List.mem_singleton.mp hb]; exact Nat.lt_succ_of_lt hlt
  · intro D C h tk m' ys news' F' N' o1 hn hC₀ hD₀ hCL hDL hCD offC fin
    refine ⟨m', hn, fun h'' hs'' => fin D h'' tk (F'.change hs'' hCL hC₀) (fun p hp => ?_) o1⟩
    refine ⟨hs''.extBut _ _ ?_ (N' p hp).1, (N' p hp).2⟩
    rcases List.mem_cons.mp hp with rfl | hp
    · exact Ne.symm hCD
    · exact offC p hp
end
theorem quad {news : LL} {p0 p1 p2 p3 : Int × Value} {a0 a1 a2 a3 : Addr} {t0 t1 t2 t3 : Tok} {n0 n1 n2 n3 : Nat}
    (h0 : (a0, tupO [.int p0.1 t0, p0.2] n0) ∈ news) (h1 : (a1, tupO [.int p1.1 t1, p1.2] n1) ∈ news) (h2 : (a2, tupO [.int p2.1 t2, p2.2] n2) ∈ news) (h3 : (a3, tupO [.int p3.1 t3, p3.2] n3) ∈ news) :
    ∀ (i : Nat) p, [p0, p1, p2, p3][i]? = some p → ∃ a t nn, [Value.ref a0, .ref a1, .ref a2, .ref a3][i]? = some (.ref a) ∧ (a, tupO [.int p.1 t, p.2] nn) ∈ news := by
  intro i p hp
  rcases i with _ | _ | _ | _ | i
  · simp only [List.getElem?_cons_zero, Option.some.injEq] at hp; subst hp; exact ⟨_, _, _, rfl, h0⟩
  · simp only [List.getElem?_cons_succ, List.getElem?_cons_zero, Option.some.injEq] at hp; subst hp; exact ⟨_, _, _, rfl, h1⟩
  · simp only [List.getElem?_cons_succ, List.getElem?_cons_zero, Option.some.injEq] at hp; subst hp; exact ⟨_, _, _, rfl, h2⟩
  · simp only [List.getElem?_cons_succ, List.getElem?_cons_zero, Option.some.injEq] at hp; subst hp; exact ⟨_, _, _, rfl, h3⟩
  · simp at hp
theorem stored4 {v0 v1 v2 v3 : Value} : ([(1, v0), (2, v1), (3, v2), (4, v3)] : List (Int × Value)).foldl (fun acc p => stored acc p.1 p.2) [] = [(1, v0), (2, v1), (3, v2), (4, v3)] := by
  simp [stored]
section
variable {prog : Program} {w : World} {A : Around} {E : Value → Shared → Prop} {s : Shared} {h₀ : Heap} {L : Addr} {m : Str → Option Value} {news : LL}
theorem dict_quad {l : Addr} {n : Nat} {v0 v1 v2 v3 : Value} {a0 a1 a2 a3 : Addr} {t0 t1 t2 t3 : Tok} {n0 n1 n2 n3 : Nat} {Q : Value → Shared → Prop} (hh : A.handled = none) (F : Fr h₀ L s.heap m) (N : News h₀ L s.heap news) (hbig : h₀.NoLimit)
    (hm : (l, lstO [Value.ref a0, .ref a1, .ref a2, .ref a3] n) ∈ news)
    (k0 : (a0, tupO [.int 1 t0, v0] n0) ∈ news) (k1 : (a1, tupO [.int 2 t1, v1] n1) ∈ news) (k2 : (a2, tupO [.int 3 t2, v2] n2) ∈ news) (k3 : (a3, tupO [.int 4 t3, v3] n3) ∈ news)
    (h : ∀ D h' o tk, Fr h₀ L h' m → News h₀ L h' ((D, o) :: news) → (∀ p ∈ news, p.1 < D) → (D == sysModules) = false → o.IsDictOf (intKind prog w) [(1, v0), (2, v1), (3, v2), (4, v3)] → Q (.ref D) { s with heap := h', toks := tk }) :
    wpAny (model prog w) A (call (.type "dict") [.ref l]) Q E s :=
  dict_pairs_N [(1, v0), (2, v1), (3, v2), (4, v3)] hh F N hbig hm rfl (by simp) (quad k0 k1 k2 k3) (by rw [stored4]; exact h)
end
theorem int_is {prog : Program} {w : World} {k : Int} {v : Value} (h : (intKind prog w).is k v = true) : ∃ t, v = .int k t := by
  have h' : Value.isInt k v = true := by simpa [intKind] using h
  cases v with
  | int n t => simp only [Value.isInt, beq_iff_eq] at h'; exact ⟨t, by rw [h']⟩
  | _ => simp [Value.isInt] at h'
theorem val4_1 {v0 v1 v2 v3 : Value} : valueAt ([(1, v0), (2, v1), (3, v2), (4, v3)] : List (Int × Value)) 1 = some v0 := by simp [valueAt]
theorem val4_2 {v0 v1 v2 v3 : Value} : valueAt ([(1, v0), (2, v1), (3, v2), (4, v3)] : List (Int × Value)) 2 = some v1 := by simp [valueAt]
theorem val4_3 {v0 v1 v2 v3 : Value} : valueAt ([(1, v0), (2, v1), (3, v2), (4, v3)] : List (Int × Value)) 3 = some v2 := by simp [valueAt]
theorem val4_4 {v0 v1 v2 v3 : Value} : valueAt ([(1, v0), (2, v1), (3, v2), (4, v3)] : List (Int × Value)) 4 = some v3 := by simp [valueAt]
end
/-! ## part Base10 -/
section
example : True := by (w_top off; trivial)
local macro_rules | `(tactic| walk_at "none") => `(tactic| fail)
def keptSt : Stmt := PySem.Challenge.pw_og0163_01.main.body.getD 32 (.Pass default)
def kS (i : Nat) : Stmt := (stBody keptSt).getD i (.Pass default)
/-! ### plain law of the truths -/

theorem any_not : ∀ l : List Bool, (l.map (!·)).any id = !(l.all id)
  | [] => rfl
  | b :: l => by simp only [List.map_cons, List.any_cons, List.all_cons, any_not l, id, Bool.not_and]
theorem all_not : ∀ l : List Bool, (l.map (!·)).all id = !(l.any id)
  | [] => rfl
  | b :: l => by simp only [List.map_cons, List.any_cons, List.all_cons, all_not l, id, Bool.not_or]
mutual
theorem ev_denied {n : Nat} (σ : Nat → Bool) : ∀ {d : Nat} {P : Pl}, Wf n d P → ev σ (denied P) = !ev σ P
  | _, .g i, _ => by simp [denied, ev, evL, comb]
  | 0, .op _ _, x => by simp only [Wf] at x
  | d + 1, .op .not ps, x => by
    simp only [Wf] at x
    have h1 := x.2.2.1 trivial
    match ps, h1 with
    | [p], _ => simp [denied, ev, evL, comb]
  | d + 1, .op .and ps, x => by
    simp only [Wf] at x
    simp only [denied, ev, comb, evL_denied σ x.2.2.2, any_not]
  | d + 1, .op .or ps, x => by
    simp only [Wf] at x
    simp only [denied, ev, comb, evL_denied σ x.2.2.2, all_not]
theorem evL_denied {n : Nat} (σ : Nat → Bool) : ∀ {d : Nat} {ps : List Pl}, Wfs n d ps → evL σ (deniedL ps) = (evL σ ps).map (!·)
  | _, [], _ => by simp only [deniedL, evL, List.map_nil]
  | d, p :: ps, x => by
    simp only [Wfs] at x
    simp only [deniedL, evL, List.map_cons, ev_denied σ x.1, evL_denied σ x.2]
end
mutual
theorem ev_mirror {n : Nat} (σ τ : Nat → Bool) (h : ∀ i, i < 4 → τ i = !σ i) : ∀ {d : Nat} {P : Pl}, Wf n d P → ev τ (mirror P) = ev σ P
  | d, .g i, x => by
    have hi : i < 4 := by cases d <;> simpa only [Wf] using x
    simp [mirror, ev, evL, comb, h i hi]
  | 0, .op _ _, x => by simp only [Wf] at x
  | d + 1, .op wd ps, x => by
    simp only [Wf] at x
    simp only [mirror, ev, evL_mirror σ τ h x.2.2.2]
theorem evL_mirror {n : Nat} (σ τ : Nat → Bool) (h : ∀ i, i < 4 → τ i = !σ i) : ∀ {d : Nat} {ps : List Pl}, Wfs n d ps → evL τ (mirrorL ps) = evL σ ps
  | _, [], _ => by simp only [mirrorL, evL]
  | d, p :: ps, x => by
    simp only [Wfs] at x
    simp only [mirrorL, evL, ev_mirror σ τ h x.1, evL_mirror σ τ h x.2]
end
theorem deniedL_len : ∀ ps : List Pl, (deniedL ps).length = ps.length
  | [] => rfl
  | p :: ps => by simp [deniedL, deniedL_len ps]
theorem mirrorL_len : ∀ ps : List Pl, (mirrorL ps).length = ps.length
  | [] => rfl
  | p :: ps => by simp [mirrorL, mirrorL_len ps]
mutual
theorem wf_denied {n : Nat} (hn : 1 ≤ n) : ∀ {d : Nat} {P : Pl}, Wf n d P → Wf n (d + 1) (denied P)
  | d, .g i, x => by
    have hi : i < 4 := by cases d <;> simpa only [Wf] using x
    cases d <;> simp [denied, Wf, Wfs, hi, hn]
  | 0, .op _ _, x => by simp only [Wf] at x
  | d + 1, .op .not ps, x => by
    simp only [Wf] at x
    have h1 := x.2.2.1 trivial
    match ps, h1, x with
    | [p], _, x =>
      simp only [Wfs] at x
      simp only [denied, List.headD_cons]
      exact Wf.mono (Nat.le_refl _) (by omega) x.2.2.2.1
  | d + 1, .op .and ps, x => by
    simp only [Wf] at x
    simp only [denied, Wf, deniedL_len]
    exact ⟨x.1, x.2.1, (fun h => nomatch h), wfs_denied hn x.2.2.2⟩
  | d + 1, .op .or ps, x => by
    simp only [Wf] at x
    simp only [denied, Wf, deniedL_len]
    exact ⟨x.1, x.2.1, (fun h => nomatch h), wfs_denied hn x.2.2.2⟩
theorem wfs_denied {n : Nat} (hn : 1 ≤ n) : ∀ {d : Nat} {ps : List Pl}, Wfs n d ps → Wfs n (d + 1) (deniedL ps)
  | _, [], _ => by simp only [deniedL, Wfs]
  | d, p :: ps, x => by
    simp only [Wfs] at x
    simp only [deniedL, Wfs]
    exact ⟨wf_denied hn x.1, wfs_denied hn x.2⟩
end
mutual
theorem wf_mirror {n : Nat} (hn : 1 ≤ n) : ∀ {d : Nat} {P : Pl}, Wf n d P → Wf n (d + 1) (mirror P)
  | d, .g i, x => by
    have hi : i < 4 := by cases d <;> simpa only [Wf] using x
    cases d <;> simp [mirror, Wf, Wfs, hi, hn]
  | 0, .op _ _, x => by simp only [Wf] at x
  | d + 1, .op wd ps, x => by
    simp only [Wf] at x
    simp only [mirror, Wf, mirrorL_len]
    exact ⟨x.1, x.2.1, x.2.2.1, wfs_mirror hn x.2.2.2⟩
theorem wfs_mirror {n : Nat} (hn : 1 ≤ n) : ∀ {d : Nat} {ps : List Pl}, Wfs n d ps → Wfs n (d + 1) (mirrorL ps)
  | _, [], _ => by simp only [mirrorL, Wfs]
  | d, p :: ps, x => by
    simp only [Wfs] at x
    simp only [mirrorL, Wfs]
    exact ⟨wf_mirror hn x.1, wfs_mirror hn x.2⟩
end
theorem wf_not {n d : Nat} {P : Pl} (hn : 1 ≤ n) (h : Wf n d P) : Wf n (d + 1) (.op .not [P]) := by
  simp only [Wf, Wfs, List.length_cons, List.length_nil, and_true]
  exact ⟨by omega, by omega, fun _ => trivial, h⟩
theorem wf_both {n d : Nat} {wd : Wd} {P : Pl} (hn : 2 ≤ n) (hwd : wd ≠ .not) (h : Wf n d P) : Wf n (d + 2) (.op wd [P, .op .not [P]]) := by
  simp only [Wf, Wfs, List.length_cons, List.length_nil, and_true]
  exact ⟨by omega, by omega, fun e => absurd e hwd, Wf.mono (Nat.le_refl _) (by omega) h, by omega, by omega, fun _ => trivial, h⟩
theorem ev_and_not (σ : Nat → Bool) (P : Pl) : ev σ (.op .and [P, .op .not [P]]) = false := by
  simp [ev, evL, comb]
theorem ev_or_not (σ : Nat → Bool) (P : Pl) : ev σ (.op .or [P, .op .not [P]]) = true := by
  simp [ev, evL, comb]
mutual
/-- a plan without Not does not fall when a group is put on -/
theorem ev_up {d : Nat} (σ τ : Nat → Bool) (h : ∀ i, i < 4 → σ i = true → τ i = true) : ∀ {d : Nat} {P : Pl}, PlOk d true P → ev σ P = true → ev τ P = true
  | d, .g i, x, y => by
    have hi : i < 4 := by cases d <;> simpa only [PlOk] using x
    simp only [ev] at y ⊢
    exact h i hi y
  | 0, .op _ _, x, _ => by simp only [PlOk] at x
  | d' + 1, .op .not ps, x, _ => by
    simp only [PlOk] at x
    exact absurd (x.2.2.1 trivial).2 (by decide)
  | d' + 1, .op .and ps, x, y => by
    simp only [PlOk] at x
    simp only [ev, comb] at y ⊢
    exact evL_all (d := d) σ τ h x.2.2.2 y
  | d' + 1, .op .or ps, x, y => by
    simp only [PlOk] at x
    simp only [ev, comb] at y ⊢
    exact evL_any (d := d) σ τ h x.2.2.2 y
theorem evL_all {d : Nat} (σ τ : Nat → Bool) (h : ∀ i, i < 4 → σ i = true → τ i = true) : ∀ {d : Nat} {ps : List Pl}, PlsOk d true ps → (evL σ ps).all id = true → (evL τ ps).all id = true
  | _, [], _, _ => by simp only [evL, List.all_nil]
  | d', p :: ps, x, y => by
    simp only [PlsOk] at x
    simp only [evL, List.all_cons, id, Bool.and_eq_true] at y ⊢
    exact ⟨ev_up (d := d) σ τ h x.1 y.1, evL_all (d := d) σ τ h x.2 y.2⟩
theorem evL_any {d : Nat} (σ τ : Nat → Bool) (h : ∀ i, i < 4 → σ i = true → τ i = true) : ∀ {d : Nat} {ps : List Pl}, PlsOk d true ps → (evL σ ps).any id = true → (evL τ ps).any id = true
  | _, [], _, y => by simp [evL] at y
  | d', p :: ps, x, y => by
    simp only [PlsOk] at x
    simp only [evL, List.any_cons, id, Bool.or_eq_true] at y ⊢
    exact y.imp (ev_up (d := d) σ τ h x.1) (evL_any (d := d) σ τ h x.2)
end
mutual
theorem PlOk.wf : ∀ {d : Nat} {pn : Bool} {P : Pl}, PlOk d pn P → Wf 3 d P
  | d, _, .g i, x => by cases d <;> simpa only [PlOk, Wf] using x
  | 0, _, .op _ _, x => by simp only [PlOk] at x
  | d + 1, pn, .op wd ps, x => by
    simp only [PlOk] at x
    simp only [Wf]
    exact ⟨x.1, x.2.1, fun e => (x.2.2.1 e).1, PlsOk.wfs x.2.2.2⟩
theorem PlsOk.wfs : ∀ {d : Nat} {pn : Bool} {ps : List Pl}, PlsOk d pn ps → Wfs 3 d ps
  | _, _, [], _ => by simp only [Wfs]
  | d, pn, p :: ps, x => by
    simp only [PlsOk] at x
    simp only [Wfs]
    exact ⟨PlOk.wf x.1, PlsOk.wfs x.2⟩
end
/-! ### plans in the ledger -/
theorem plan_not {R : LL} {D l : Addr} {t : Tok} {v : Value} {n n' : Nat} {P : Pl} (h1 : (D, tupO [.str Wd.not.str t, .ref l] n) ∈ R) (h2 : (l, lstO [v] n') ∈ R) (hv : PlanIn R v P) : PlanIn R (.ref D) (.op .not [P]) := by
  simp only [PlanIn, PlansIn]
  exact ⟨D, l, t, [v], n, n', rfl, h1, h2, by simp only [PlansIn, and_true]; exact hv⟩
theorem plan_both {R : LL} {D l : Addr} {t : Tok} {u v : Value} {n n' : Nat} {wd : Wd} {P Q : Pl} (h1 : (D, tupO [.str wd.str t, .ref l] n) ∈ R) (h2 : (l, lstO [u, v] n') ∈ R) (hu : PlanIn R u P) (hv : PlanIn R v Q) : PlanIn R (.ref D) (.op wd [P, Q]) := by
  simp only [PlanIn, PlansIn]
  exact ⟨D, l, t, [u, v], n, n', rfl, h1, h2, by simp only [PlansIn, and_true]; exact ⟨hu, hv⟩⟩
/-! ### the state between _law_kept's statements -/
theorem mem_l {α : Type} {a : α} {x y : List α} (h : a ∈ y) : a ∈ x ++ y := List.mem_append_right _ h
theorem mem_r {α : Type} {a : α} {x y : List α} (h : a ∈ x) : a ∈ x ++ y := List.mem_append_left _ h
def Ext (R bs Z : LL) : Prop := ∃ tl, Z = tl ++ R ∧ Above tl bs
theorem Ext.app {pl tb : Addr} {R bs Z tl W : LL} {po to : Obj} {x y : Addr × Obj} (e : Ext R bs Z) (hbs : bs = (pl, po) :: (tb, to) :: R) (ab : Above tl (x :: y :: W)) (hx : x.1 = pl) (hy : y.1 = tb) (h : ∀ r ∈ Z, r ∈ W) : Ext R bs (tl ++ Z) := by
  obtain ⟨t, rfl, ha⟩ := e
  refine ⟨tl ++ t, by rw [List.append_assoc], .app (ab.sub fun r hr => ?_) ha⟩
  subst hbs
  rcases List.mem_cons.mp hr with rfl | hr
  · exact ⟨x, .head _, hx⟩
  · rcases List.mem_cons.mp hr with rfl | hr
    · exact ⟨y, .tail _ (.head _), hy⟩
    · exact ⟨r, .tail _ (.tail _ (h r (mem_l hr))), rfl⟩
theorem Ext.cons {pl tb : Addr} {R bs Z : LL} {po to : Obj} {a : Addr} {o : Obj} (e : Ext R bs Z) (hbs : bs = (pl, po) :: (tb, to) :: R) (h1 : @LT.lt Nat _ pl a) (h2 : @LT.lt Nat _ tb a) (h3 : AllLt a Z) : Ext R bs ((a, o) :: Z) := by
  obtain ⟨t, rfl, ha⟩ := e
  refine ⟨(a, o) :: t, rfl, .cons ?_ ha⟩
  subst hbs
  exact above_l1a (tl := t) (x := (pl, po)) (y := (tb, to)) h1 h2 h3
theorem Ext.cons2 {pl tb : Addr} {R bs Z : LL} {po to : Obj} {a : Addr} {o : Obj} (e : Ext R bs Z) (hbs : bs = (pl, po) :: (tb, to) :: R) (h1 : pl ≠ a) (h2 : tb ≠ a) (h3 : ∀ r ∈ Z, r.1 ≠ a) : Ext R bs ((a, o) :: Z) := by
  obtain ⟨t, rfl, ha⟩ := e
  refine ⟨(a, o) :: t, rfl, .cons (fun r hr => ?_) ha⟩
  subst hbs
  rcases List.mem_cons.mp hr with rfl | hr
  · exact h1
  · rcases List.mem_cons.mp hr with rfl | hr
    · exact h2
    · exact h3 r (mem_l hr)
def KS (prog : Program) (w : World) (np : Nat) (pl tb : Addr) (I₀ R cells bs : LL) (g' : Heap) (L' : Addr) (k₀ kmax : Int) (rs₀ : List Value) (s₀ : Shared) (mm : Str → Option Value) (Z : LL) (s : Shared) : Prop :=
  ∃ k tk ot rs h tks, s = { s₀ with heap := h, toks := tks } ∧ Fr g' L' h mm ∧ News g' L' h (cells ++ (pl, placeO k tk np) :: (tb, ot) :: Z) ∧ Ext R bs Z ∧ Ok pl tb I₀ Z ∧ Tab prog w Z ot rs ∧ Pre rs₀ rs ∧
    (rs.length : Int) ≤ k + 4 ∧ k₀ ≤ k ∧ k ≤ kmax
section
variable {prog : Program} {w : World} {p : Program} {loose : List Str} {mean : ExcName → Option Value} {mg mb : Str → Option Value} {np : Nat} {pl tb tf : Addr} {I₀ : LL}
  {A A₀ : Around} {env : Env} {outer : List Env} {base h₀ : Heap} {L : Addr} {m : Str → Option Value} {s : Shared} {Q E : Value → Shared → Prop}
theorem truth_b {sh gl : Addr} {d : Nat} {b : Bool} (hP : TruthSpec prog w p loose mean mg mb np pl tb tf I₀ sh gl d) {own R : LL} {k : Int} {tk : Tok} {ot os : Obj} {st : Addr} {σ : Nat → Bool} {rs₀ rs : List Value} {v : Value} {P : Pl} (hb : ev σ P = b)
    (hA : A.frames = some (env :: outer)) (hf : env.frame = some L) (hke : env.scope.kind = .function) (hh : A.handled = none) (hd : A.depth + 140 + d < recursionLimit) (hu : A.units + 140 + 6 * d < cLine)
    (B : Below A₀ base outer h₀) (F : Fr h₀ L s.heap m) (X : (K w.params).In h₀) (T : Top p loose mean mg mb h₀) (S : h₀.NoSeer)
    (N : News h₀ L s.heap (own ++ (pl, placeO k tk np) :: (tb, ot) :: R)) (hown : ∀ q ∈ own, q.1 ≠ pl) (hown' : ∀ q ∈ own, q.1 ≠ tb) (ok : Ok pl tb I₀ R) (ht : Tab prog w R ot rs) (hl : (rs.length : Int) ≤ k + 4)
    (hpre : Pre rs₀ rs) (hgr : ∀ i : Nat, i < 4 → ∃ x, rs₀[i]? = some (.ref x) ∧ GroupIn prog w I₀ x) (m4 : (st, os) ∈ own ++ R) (hst : StIn prog w os σ) (hslo : (st == sysModules) = false)
    (hw : Wf 4 d P) (hp : PlanIn (own ++ R) v P) (hk0 : 0 ≤ k) (hk : k + ((cstM d : Nat) : Int) < 900000)
    (ret : ∀ tl ot' rs' k' h' tks tk', Tab prog w (tl ++ R) ot' rs' → Pre rs₀ rs' → (rs'.length : Int) ≤ k' + 4 → k ≤ k' → k' ≤ k + ((cstM d : Nat) : Int) → Fr h₀ L h' m →
      News h₀ L h' (own ++ (pl, placeO k' tk' np) :: (tb, ot') :: (tl ++ R)) → Above tl ((pl, placeO k tk np) :: (tb, ot) :: (own ++ R)) → Ok pl tb I₀ (tl ++ R) → Q (.bool b) { s with heap := h', toks := tks }) :
    wpAny (model prog w) A (call (.ref 424) [.ref tf, .ref sh, .ref gl, v, .ref st]) Q E s := by
  subst hb
  exact truth_use (RT := R) hP hA hf hke hh hd hu B F X T S N hown hown' ok (fun q h => h) ht hl (fun i hi => let ⟨x, y1, y2⟩ := hgr i hi; ⟨x, hpre _ _ y1, y2⟩) m4 hst hslo (fun q h => h) hw hp hk0 hk
    fun tl ot' rs' k' h' tks tk' b c d' e f F' N' ab => ret tl ot' rs' k' h' tks tk' b (hpre.trans c) d' e f F' N' ab
end
theorem mvh {h₀ h : Heap} {L : Addr} {a x y : Addr × Obj} {pre cells W : LL} (N : News h₀ L h (a :: (pre ++ (cells ++ x :: y :: W)))) : News h₀ L h (cells ++ x :: y :: a :: W) := fun q hq => N q (by
  rcases List.mem_append.mp hq with hq | hq
  · exact .tail _ (mem_l (mem_r hq))
  · rcases List.mem_cons.mp hq with rfl | hq
    · exact .tail _ (mem_l (mem_l (.head _)))
    · rcases List.mem_cons.mp hq with rfl | hq
      · exact .tail _ (mem_l (mem_l (.tail _ (.head _))))
      · rcases List.mem_cons.mp hq with rfl | hq
        · exact .head _
        · exact .tail _ (mem_l (mem_l (.tail _ (.tail _ hq)))))
theorem drp {h₀ h : Heap} {L : Addr} {pre W : LL} (N : News h₀ L h (pre ++ W)) : News h₀ L h W := fun q hq => N q (mem_l hq)
theorem stIn4 {prog : Program} {w : World} {o : Obj} {σ : Nat → Bool} (h : o.IsDictOf (intKind prog w) [(1, .bool (σ 0)), (2, .bool (σ 1)), (3, .bool (σ 2)), (4, .bool (σ 3))]) : StIn prog w o σ := ⟨_, h, fun i hi => by
  have : i = 0 ∨ i = 1 ∨ i = 2 ∨ i = 3 := by omega
  rcases this with rfl | rfl | rfl | rfl
  · exact congrArg (·.getD (.bool true)) val4_1
  · exact congrArg (·.getD (.bool true)) val4_2
  · exact congrArg (·.getD (.bool true)) val4_3
  · exact congrArg (·.getD (.bool true)) val4_4⟩
theorem newListV {prog : Program} {w : World} {A : Around} {E : Value → Shared → Prop} {s : Shared} {h₀ : Heap} {L : Addr} {m : Str → Option Value} {news : LL} {x : Value} {Q : Value → Shared → Prop} (F : Fr h₀ L s.heap m) (N : News h₀ L s.heap news)
    (h : ∀ l h', Fr h₀ L h' m → News h₀ L h' ((l, listOf [x].toArray 0) :: news) → (∀ p ∈ news, p.1 < l) → Q (.ref l) { s with heap := h' }) : wpAny (model prog w) A (newList [x]) Q E s := newList_K F N h
theorem newListV2 {prog : Program} {w : World} {A : Around} {E : Value → Shared → Prop} {s : Shared} {h₀ : Heap} {L : Addr} {m : Str → Option Value} {news : LL} {x y : Value} {Q : Value → Shared → Prop} (F : Fr h₀ L s.heap m) (N : News h₀ L s.heap news)
    (h : ∀ l h', Fr h₀ L h' m → News h₀ L h' ((l, listOf [x, y].toArray 0) :: news) → (∀ p ∈ news, p.1 < l) → Q (.ref l) { s with heap := h' }) : wpAny (model prog w) A (newList [x, y]) Q E s := newList_K F N h
end
/-! ## part TupC -/
section
example : True := by (w_top off; trivial)
open LCg
section
variable {prog : Program} {w : World} {A : Around} {E : Value → Shared → Prop} {s : Shared} {h₀ : Heap} {L : Addr} {m : Str → Option Value} {env : Env}
/-- the iterable is a tuple of the ledger -/
def CompTup (prog : Program) (w : World) (A : Around) (h₀ : Heap) (L : Addr) (m : Str → Option Value) (env : Env) (elt : Expr) (x : Str) (scope : Scope) (cl : List (Str × Addr)) (Fin : Shared → List Value → LL → Prop) (xv : Value) (s₁ : Shared) : Prop :=
  ∃ ax its k news, xv = .ref ax ∧ A.handled = none ∧ Fr h₀ L s₁.heap m ∧ News h₀ L s₁.heap news ∧ (ax, ({ cls := .type "tuple", data := .seq its k } : Obj)) ∈ news ∧ its.size ≤ sizeLine ∧
    ∀ g, CompRest prog w A h₀ L m env elt x scope cl { s₁ with heap := g } (fun nw => (ax, ({ cls := .type "tuple", data := .seq its k } : Obj)) ∈ nw) (fun i v => its[i]? = some v) (Fin { s₁ with heap := g }) its.size 0 [] news
theorem Assign_ListComp_Tup {elt iter : Expr} {x y : Str} {px py : Pos} {scope : Scope} {cl : List (Str × Addr)} {pos spos : Pos} {Q : Flow → Shared → Prop} (F₀ : Fr h₀ L s.heap m) (hLe : env.locals = L)
    (hsw : swapsWith (.ListComp elt [⟨.Name x px, iter, [], 0⟩] scope pos) (some (.Name y py)) spos.line env = pure true)
    (hclos : closureFor scope env = pure cl) (hcell : ∀ z ∈ scope.names, z.2 ≠ .cell) (hkind : scope.kind = .function)
    (hnames : ∀ z ∈ scope.names, z.2 = .local → scope.names.lookup z.1 = some .local) (hx : scope.names.lookup x = some .local)
    (hy : env.kindOf y = some .local) (hp : (env.scope.kind == .class || (env.scope.kind == .module && env.locals != env.globals)) = false)
    (h : wpAny (model prog w) A (eval iter env) (CompTup prog w A h₀ L m env elt x scope cl (fun s₂ => FinA h₀ L m s₂ y Q)) E s)
    (hs : ∀ x, foldedSetIterable iter env x = pure x := by intro _; rfl) :
    wpAny (model prog w) A (exec (.Assign [.Name y py] (.ListComp elt [⟨.Name x px, iter, [], 0⟩] scope pos) spos) env) Q E s := by
  subst hLe
  rw [exec_Assign_Name_used _ _ _ _ hsw]
  refine wpAny_bind (wpAny_standAt (wpAny_bind ?_))
  show wpAny _ A (do let _ ← comprehension (.ListComp elt [⟨.Name x px, iter, [], 0⟩] scope pos) scope env _ (newList []) false (eval iter env) (some (assign (.Name y py) env))) _ _ s
  refine wpAny_bind (wpAny_mono (wpAny_comprehension_free (use := some (assign (.Name y py) env)) (Q := fun _ s' => Q .next s') rfl hs hclos hkind hnames
    (wpAny_mono h (fun xv s₁ h₁ => ?_) fun _ _ e => e)) (fun _ s' hq => wpAny_pure (wpAny_pure hq)) fun _ _ e => e)
  obtain ⟨ax, its, nk, news, rfl, hh, F, N, hm, hsz, R⟩ := h₁
  have hl : s₁.heap.IsTuple ax its := ⟨_, (N _ hm).1, rfl, nk, rfl⟩
  have hlt : ax < s₁.heap.objs.size := Heap.lt_size (N _ hm).1
  refine wpAny_pyIter_tuple hl ?_
  have up : ∀ b o, s₁.heap.get? b = some o → (s₁.heap.push { cls := .type "tuple_iterator", data := .fields #[.ref ax, .int 0 0] }).get? b = some o := fun b o e => Heap.get?_push_of_some _ e
  refine block_U (S := fun nw => (ax, ({ cls := .type "tuple", data := .seq its nk } : Obj)) ∈ nw) (Walks.tuple hh s₁.heap.objs.size ax (Nat.ne_of_lt hlt) its) hsz (fun i h st => by obtain ⟨o, e, _⟩ := st.1; exact ⟨o, e⟩) ?st hcell hkind hx ⟨⟨_, Heap.get?_push_size _ rfl, rfl, rfl⟩, ⟨_, up _ _ (N _ hm).1, rfl, nk, rfl⟩⟩ (fun b hb => ?_)
    (F.keeps up) (N.grown up) (Nat.ne_of_lt F.ns.lt) (next_is_new F) (fun p hp => Nat.ne_of_lt (Heap.lt_size (N p hp).1)) hm (R _) ?_
  case st =>
    intro i h h' oI nw st e e' k N' S
    exact ⟨by obtain ⟨o', q, r⟩ := st.1; rw [e] at q; cases q; exact ⟨oI, e', r⟩, ⟨_, (N' _ S).1, rfl, nk, rfl⟩⟩
  · show b < (s₁.heap.push _).objs.size
    rw [Heap.size_push]
    rcases List.mem_cons.mp hb with rfl | hb
    · exact Nat.lt_succ_self _
    · rw [List.mem_singleton.mp hb]; exact Nat.lt_succ_of_lt hlt
  · intro D C h' tk m' ys news' F' N' o1 hn hC₀ hD₀ hCL hDL hCD offC fin
    show wpAny _ A (assign (.Name y py) env (.ref D)) _ _ _
    refine wpAny_assign_Name (wpAny_storeName_local hy F'.ns (fun h₂ hn₂ hs₂ => ?_) hp)
    have hL₀ : h₀.get? env.locals = none := Heap.get?_none_of_le F'.above
    have F₂ : Fr h₀ env.locals h₂ (fun z => if z = y then some (.ref D) else m z) := ⟨hn₂, fun b o e => hs₂.extBut b o (fun q => by rw [q, hL₀] at e; cases e) (F'.keep b o e), F'.above⟩
    refine ⟨m', hn.sameBut hs₂ hCL, fun h'' hs'' => fin D h'' _ (F₂.change hs'' hCL hC₀) (fun p hp => ?_) o1⟩
    have z : h₂.get? p.1 = some p.2 := hs₂.extBut _ _ (N' p hp).2.1 (N' p hp).1
    refine ⟨hs''.extBut _ _ ?_ z, (N' p hp).2⟩
    rcases List.mem_cons.mp hp with rfl | hp
    · exact Ne.symm hCD
    · exact offC p hp
end
end
section
set_option hygiene false in
local macro_rules | `(tactic| walk_at "newList") => `(tactic| (k_here; (with_reducible show wpAny _ _ (newList [_]) _ _ _); k_dflt (refine' newListV ?F ?N ?_; (case F | N => k_asm)); intro lw hw9 Fw Nw mw; (try k_lt mw)))
set_option hygiene false in
local macro_rules | `(tactic| walk_at "newList") => `(tactic| (k_here; (with_reducible show wpAny _ _ (newList [_, _]) _ _ _); k_dflt (refine' newListV2 ?F ?N ?_; (case F | N => k_asm)); intro lw hw9 Fw Nw mw; (try k_lt mw)))
/-! ## part Ks1 -/
section
example : True := by (w_top off; trivial)
theorem kept_s1 {prog : Program} {w : World} {p : Program} {loose : List Str} {mean : ExcName → Option Value} {mg mb : Str → Option Value} {np : Nat} {pl tb tf : Addr} {I₀ : LL}
    {sh gl : Addr} {base g' : Heap} {L' : Addr} {s s₀ : Shared} {Q : Flow → Shared → Prop} {E : Value → Shared → Prop} {env : Env} {outer : List Env} {dp un : Nat} {gd : Option (List Code)}
    {R bs Z : LL} {k₀ : Int} {rs₀ : List Value} {st dF dO lh : Addr} {os oF oO po to : Obj} {σ τ : Nat → Bool} {v : Value} {P : Pl} {o1 o2 o3 o4 o5 o6 : Obj} {m0 : Str → Option Value} {rest : List Stmt} {b : Bool} {nh : Nat}
    (hd : dp + 160 < recursionLimit) (hu : un + 240 < cLine) (B' : Below ({ handled := none, depth := dp, frames := some (env :: outer), guards := gd, units := un } : Around) base (env :: outer) g') (X' : (K w.params).In g') (T' : Top p loose mean mg mb g') (S' : g'.NoSeer)
    (hTr : ∀ d, d ≤ 19 → TruthSpec prog w p loose mean mg mb np pl tb tf I₀ sh gl d)
    (hDen : ∀ d, MapSpec prog w p loose mean mg mb np pl tb I₀ 407 (fun v => [v]) (fun a b => b = denied a) 3 (fun _ => 0) d)
    (hMir : ∀ d, MapSpec prog w p loose mean mg mb np pl tb I₀ 417 (fun v => [v]) (fun a b => b = mirror a) 3 (fun _ => 0) d)
    (hTur : ∀ d, MapSpec prog w p loose mean mg mb np pl tb I₀ 412 (fun v => [.ref tf, v]) (TRel d) 3 cstT d)
    (d1 : o1.data = .cell (some (.ref tf))) (d2 : o2.data = .cell (some (.ref sh))) (d3 : o3.data = .cell (some (.ref gl))) (d4 : o4.data = .cell (some v)) (d5 : o5.data = .cell (some (.ref st)))
    (hbs : bs = (pl, po) :: (tb, to) :: R) (lp : @LT.lt Nat _ pl L') (lt : @LT.lt Nat _ tb L')
    (hgr : ∀ i : Nat, i < 4 → ∃ x, rs₀[i]? = some (.ref x) ∧ GroupIn prog w I₀ x) (hm4 : (st, os) ∈ I₀) (hst : StIn prog w os σ) (hslo : (st == sysModules) = false)
    (hw : Wf 3 3 P) (hp : PlanIn I₀ v P) (hb : ev σ P = b) (hk0 : 0 ≤ k₀) (hk : k₀ + 200000 < 900000) (hz6 : ∀ q ∈ Z, q.1 ≠ L' + 1 + 1 + 1 + 1 + 1 + 1) 
    (hK : KS prog w np pl tb I₀ R [(L' + 1 + 1 + 1 + 1 + 1 + 1, o6), (L' + 1 + 1 + 1 + 1 + 1, o5), (L' + 1 + 1 + 1 + 1, o4), (L' + 1 + 1 + 1, o3), (L' + 1 + 1, o2), (L' + 1, o1)] bs g' L' k₀ (k₀ + 0) rs₀ s₀ (m0) Z s)
    (next : ∀  Z' s', (∀ q ∈ Z, q ∈ Z') → (∀ q ∈ Z', q.1 ≠ L' + 1 + 1 + 1 + 1 + 1 + 1) → KS prog w np pl tb I₀ R [(L' + 1 + 1 + 1 + 1 + 1 + 1, o6), (L' + 1 + 1 + 1 + 1 + 1, o5), (L' + 1 + 1 + 1 + 1, o4), (L' + 1 + 1 + 1, o3), (L' + 1 + 1, o2), (L' + 1, o1)] bs g' L' k₀ (k₀ + 10000) rs₀ s₀ (fun y => if y = Str.ofString "is_so" then some (.bool b) else m0 y) Z' s' → wpAny (model prog w) (({ handled := none, depth := dp, frames := some (env :: outer), guards := gd, units := un } : Around).deeper (envOfC (Str.ofString "_law_kept") (stScope keptSt) L' 429 (Value.ref 428))) (execs rest (envOfC (Str.ofString "_law_kept") (stScope keptSt) L' 429 (Value.ref 428))) Q E s') :
    wpAny (model prog w) (({ handled := none, depth := dp, frames := some (env :: outer), guards := gd, units := un } : Around).deeper (envOfC (Str.ofString "_law_kept") (stScope keptSt) L' 429 (Value.ref 428))) (execs (kS 0 :: rest) (envOfC (Str.ofString "_law_kept") (stScope keptSt) L' 429 (Value.ref 428))) Q E s := by
  have eS : stScope keptSt = stScope keptSt := rfl
  conv at eS => rhs; whnf
  have eK : kS 0 = kS 0 := rfl
  conv at eK => rhs; whnf
  simp only [eS] at next ⊢
  rw [eK]
  clear eS eK
  obtain ⟨k, tk, ot, rs, h, tks, rfl, F', N', hx, ok, ht, hpre, hrl, hk1, hk2⟩ := hK
  simp only [List.cons_append, List.nil_append] at N'
  have hl0 : ∀ d, (cstM d : Nat) = cstM d := fun _ => rfl
  k_unmd
  repeat' ((try k_unmd); (fail_if_success (with_reducible show wpAny _ _ (call (Value.ref 424) _) _ _ _)); (fail_if_success (with_reducible show wpAny _ _ (call (Value.ref 407) _) _ _ _)); (fail_if_success (with_reducible show wpAny _ _ (call (Value.ref 412) _) _ _ _)); (fail_if_success (with_reducible show wpAny _ _ (call (Value.ref 417) _) _ _ _)); first | (k_unfold; (try dsimp only)) | (k_end; wrow_close) | walk1 | (dsimp only; walk1) | (leave1; walk_say "STEP leave1"; try dsimp only) | fail "no step")
  k_dflt (refine' truth_b (own := [_, _, _, _, _, _]) (P := _) (hTr 3 (by omega)) hb ?hA ?hf ?hke ?hh ?hd ?hu ?B ?F ?X ?T ?S ?N ?ow ?ow' ?ok ?ht ?hl ?hpre hgr (mem_l (ok.sub _ hm4)) hst hslo ?hw ?hp ?k0 ?k1 ?_; (case hA => exact rfl); (case hf => exact rfl); (case hke => exact rfl); (case hh => exact rfl); (case hd => ktr_room); (case hu => ktr_units); (case B => k_asm); (case F => k_asm); (case X => k_asm); (case T => k_asm); (case S => k_asm); (case N => k_asm); (case ow => tb_rel); (case ow' => tb_rel); (case ok => assumption); (case ht => assumption); (case hl => omega); (case hpre => assumption); (case hw => exact Wf.mono (by omega) (Nat.le_refl _) hw); (case hp => exact hp.mono fun q h => mem_l (ok.sub q h)); (case k0 => omega); (case k1 => (have hcm : cstM 3 = 21 := rfl); omega))
  intro tl1 ot1 rs1 k1 h1 tk1 tl1' w11 w21 w31 w41 w51 F1 N1 ab1 ok1
  have hcm1 : cstM 3 = 21 := rfl
  rw [hcm1] at w51
  simp only [List.cons_append, List.nil_append] at N1
  k_unmd
  repeat' ((try k_unmd); (fail_if_success (with_reducible show wpAny _ _ (call (Value.ref 424) _) _ _ _)); (fail_if_success (with_reducible show wpAny _ _ (call (Value.ref 407) _) _ _ _)); (fail_if_success (with_reducible show wpAny _ _ (call (Value.ref 412) _) _ _ _)); (fail_if_success (with_reducible show wpAny _ _ (call (Value.ref 417) _) _ _ _)); first | (k_unfold; (try dsimp only)) | (k_end; wrow_close) | walk1 | (dsimp only; walk1) | (leave1; walk_say "STEP leave1"; try dsimp only) | fail "no step")
  have x1 := Ext.app hx hbs ab1 rfl rfl fun r hr => mem_l hr
  exact next (tl1 ++ Z) _ (fun q h => mem_l h) (fun q hq => (List.mem_append.mp hq).elim (fun hq => Ne.symm (ab1 q hq _ (.tail _ (.tail _ (.head _))))) (hz6 q)) ⟨k1, _, ot1, rs1, _, _, rfl, by k_asm, by k_asm, x1, ok1, w11, w21, by omega, by omega, by omega⟩
end
section
local macro_rules | `(tactic| walk_at "subscriptTail Name Name ref int") => `(tactic| (k_here; (with_reducible show wpAny _ _ (subscriptTail (Expr.Name (Str.ofString "full") _) _ (Value.ref _) (Value.int _ _)) _ _ _); k_dflt (refine' kda_item (knd := PySem.intKind _ _) ?N ?m ?d ?k ?v ?_ ?h1 ?h2; (case N => k_asm); (case m => k_mem); (case d => assumption); (case k => exact intKind_is _ _ _ _); (case v => first | exact val4_1 | exact val4_2 | exact val4_3 | exact val4_4); (case h1 => with_unfolding_all rfl); (case h2 => intro _; with_unfolding_all rfl))))
local macro_rules | `(tactic| walk_at "CompDict") => `(tactic| (k_here; k_dflt (refine ⟨_, _, _, _, rfl, by rfl, by k_asm, by k_asm, by k_mem, by assumption, by assumption, Nat.le_of_ble_eq_true rfl, fun g9 => ?_⟩); (try simp only [List.length_cons, List.length_nil, Nat.zero_add, Nat.reduceAdd])))
local macro_rules | `(tactic| walk_at "CompRest") => `(tactic| (k_dflt (refine LCg.CompRest.succ ?_); intro v' I' oI' C' oC' D' m' h' tk' E' hv' hC' hx' F' N' off' ne'; obtain ⟨k9, y9, hk9, hv9⟩ := hv'; (simp only [List.getElem?_cons_zero, List.getElem?_cons_succ, Option.some.injEq, Prod.mk.injEq, Nat.zero_add, Nat.reduceAdd] at hk9); obtain ⟨hk7, hk8⟩ := hk9; subst hk7 hk8; obtain ⟨t9, hv8⟩ := int_is hv9; subst hv8; (try simp only [LCg.Off3, and_true] at off')))
set_option hygiene false in
local macro_rules | `(tactic| walk_at "call type:dict") => `(tactic| (k_here; (with_reducible show wpAny _ _ (call (Value.type "dict") [Value.ref _]) _ _ _); k_dflt (refine' dict_quad ?hh ?F ?N ?b ?m ?k0 ?k1 ?k2 ?k3 ?_; (case hh => exact rfl); (case F | N => k_asm); (case b => exact Top.nolimit (by k_asm)); (case m | k0 | k1 | k2 | k3 => k_mem)); intro dq hdq oq tkq Fq Nq lq loq hdictq; (try k_lt lq)))
local macro_rules | `(tactic| walk_at "eval ListComp") => `(tactic| (k_here; (with_reducible show wpAny _ _ (eval (Expr.ListComp _ [⟨_, Expr.Name (Str.ofString "full") _, _, _⟩] _ _) _) _ _ _); k_dflt (refine ListComp_D (knd := PySem.intKind _ _) (F₀ := by k_asm) (by with_unfolding_all rfl) (by decide) (by rfl) (by decide) (by rfl) ?_)))
local macro_rules | `(tactic| walk_at "CompEnd") => `(tactic| (k_dflt (first
  | (refine compEnd_new (by k_asm) (by k_asm) ?off ?ht ?src ?_; (case off => (simp only [LCg.Off3, and_true]; first | assumption | simp_all only [and_true, and_self, ne_eq, not_false_eq_true])); (case ht => exact ⟨by k_ne, by k_ne, by k_ne⟩); (case src => first | exact Or.inr ⟨_, by k_mem, rfl, _, rfl⟩ | k_mem))
  | (refine compEnd_same (by k_asm) (by k_asm) ?off ?src ?_; (case off => (simp only [LCg.Off3, and_true]; first | assumption | simp_all only [and_true, and_self, ne_eq, not_false_eq_true])); (case src => first | exact Or.inr ⟨_, by k_mem, rfl, _, rfl⟩ | k_mem)))))
local macro_rules | `(tactic| walk_at "getMethod ref") => `(tactic| (k_here; (with_reducible show wpAny _ _ (getMethod (Value.ref _) (Str.ofString "get") _) _ _ _); k_dflt (refine kdg_method (knd := PySem.intKind _ _) (by k_asm) (by k_mem) (by assumption) ?_)))
local macro_rules | `(tactic| walk_at "call builtin:dict.get") => `(tactic| (k_here; (with_reducible show wpAny _ _ (call (Value.builtin "dict.get") [Value.ref _, Value.int _ _, _]) _ _ _); k_dflt (refine get2_getD (knd := PySem.intKind _ _) (by k_asm) (by k_mem) (by assumption) (by assumption) (intKind_is _ _ _ _) (by assumption) ?_)))
/-! ## part Ks2 -/
section
example : True := by (w_top off; trivial)
theorem kept_s2 {prog : Program} {w : World} {p : Program} {loose : List Str} {mean : ExcName → Option Value} {mg mb : Str → Option Value} {np : Nat} {pl tb tf : Addr} {I₀ : LL}
    {sh gl : Addr} {base g' : Heap} {L' : Addr} {s s₀ : Shared} {Q : Flow → Shared → Prop} {E : Value → Shared → Prop} {env : Env} {outer : List Env} {dp un : Nat} {gd : Option (List Code)}
    {R bs Z : LL} {k₀ : Int} {rs₀ : List Value} {st dF dO lh : Addr} {os oF oO po to : Obj} {σ τ : Nat → Bool} {v : Value} {P : Pl} {o1 o2 o3 o4 o5 o6 : Obj} {m0 : Str → Option Value} {rest : List Stmt} {b : Bool} {nh : Nat}
    (hd : dp + 160 < recursionLimit) (hu : un + 240 < cLine) (B' : Below ({ handled := none, depth := dp, frames := some (env :: outer), guards := gd, units := un } : Around) base (env :: outer) g') (X' : (K w.params).In g') (T' : Top p loose mean mg mb g') (S' : g'.NoSeer)
    (hTr : ∀ d, d ≤ 19 → TruthSpec prog w p loose mean mg mb np pl tb tf I₀ sh gl d)
    (hDen : ∀ d, MapSpec prog w p loose mean mg mb np pl tb I₀ 407 (fun v => [v]) (fun a b => b = denied a) 3 (fun _ => 0) d)
    (hMir : ∀ d, MapSpec prog w p loose mean mg mb np pl tb I₀ 417 (fun v => [v]) (fun a b => b = mirror a) 3 (fun _ => 0) d)
    (hTur : ∀ d, MapSpec prog w p loose mean mg mb np pl tb I₀ 412 (fun v => [.ref tf, v]) (TRel d) 3 cstT d)
    (d1 : o1.data = .cell (some (.ref tf))) (d2 : o2.data = .cell (some (.ref sh))) (d3 : o3.data = .cell (some (.ref gl))) (d4 : o4.data = .cell (some v)) (d5 : o5.data = .cell (some (.ref st)))
    (hbs : bs = (pl, po) :: (tb, to) :: R) (lp : @LT.lt Nat _ pl L') (lt : @LT.lt Nat _ tb L')
    (hgr : ∀ i : Nat, i < 4 → ∃ x, rs₀[i]? = some (.ref x) ∧ GroupIn prog w I₀ x) (hm4 : (st, os) ∈ I₀) (hst : StIn prog w os σ) (hslo : (st == sysModules) = false)
    (hw : Wf 3 3 P) (hp : PlanIn I₀ v P) (hb : ev σ P = b) (hk0 : 0 ≤ k₀) (hk : k₀ + 200000 < 900000) (d6 : o6.data = .cell none) (hz6 : ∀ q ∈ Z, q.1 ≠ L' + 1 + 1 + 1 + 1 + 1 + 1) {dsh tr : Addr} {t1 t2 : Tok} {ng : Nat} {r0 r1 r2 r3 g0 g1 g2 g3 : Addr} {a0 a1 a2 a3 b0 b1 b2 b3 c0 c1 c2 c3 e0 e1 e2 e3 : Tok} (std : Std w I₀ sh dsh tb tr gl t1 t2 [.ref r0, .ref r1, .ref r2, .ref r3] ng) (G0 : (r0, instObj 254 g0) ∈ I₀) (D0 : (g0, dictOf [{ hash := PyData.keyHash w.params (Str.ofString "number"), key := .str (Str.ofString "number") a0, val := .int 1 b0 }, { hash := PyData.keyHash w.params (Str.ofString "generation"), key := .str (Str.ofString "generation") c0, val := .int 0 e0 }] 2) ∈ I₀) (G1 : (r1, instObj 254 g1) ∈ I₀) (D1 : (g1, dictOf [{ hash := PyData.keyHash w.params (Str.ofString "number"), key := .str (Str.ofString "number") a1, val := .int 2 b1 }, { hash := PyData.keyHash w.params (Str.ofString "generation"), key := .str (Str.ofString "generation") c1, val := .int 0 e1 }] 2) ∈ I₀) (G2 : (r2, instObj 254 g2) ∈ I₀) (D2 : (g2, dictOf [{ hash := PyData.keyHash w.params (Str.ofString "number"), key := .str (Str.ofString "number") a2, val := .int 3 b2 }, { hash := PyData.keyHash w.params (Str.ofString "generation"), key := .str (Str.ofString "generation") c2, val := .int 0 e2 }] 2) ∈ I₀) (G3 : (r3, instObj 254 g3) ∈ I₀) (D3 : (g3, dictOf [{ hash := PyData.keyHash w.params (Str.ofString "number"), key := .str (Str.ofString "number") a3, val := .int 4 b3 }, { hash := PyData.keyHash w.params (Str.ofString "generation"), key := .str (Str.ofString "generation") c3, val := .int 0 e3 }] 2) ∈ I₀) {skv : List (Int × Value)} (hsk : os.IsDictOf (intKind prog w) skv) (q0 : (valueAt skv 1).getD (.bool true) = .bool (σ 0)) (q1 : (valueAt skv 2).getD (.bool true) = .bool (σ 1)) (q2 : (valueAt skv 3).getD (.bool true) = .bool (σ 2)) (q3 : (valueAt skv 4).getD (.bool true) = .bool (σ 3)) 
    (hK : KS prog w np pl tb I₀ R [(L' + 1 + 1 + 1 + 1 + 1 + 1, o6), (L' + 1 + 1 + 1 + 1 + 1, o5), (L' + 1 + 1 + 1 + 1, o4), (L' + 1 + 1 + 1, o3), (L' + 1 + 1, o2), (L' + 1, o1)] bs g' L' k₀ (k₀ + 10000) rs₀ s₀ (fun y => if y = Str.ofString "is_so" then some (.bool b) else m0 y) Z s)
    (next : ∀ dF oF o6 Z' s', (∀ q ∈ Z, q ∈ Z') → (dF, oF) ∈ Z' → oF.IsDictOf (intKind prog w) [(1, .bool (σ 0)), (2, .bool (σ 1)), (3, .bool (σ 2)), (4, .bool (σ 3))] → (dF == sysModules) = false → o6.data = .cell (some (.ref dF)) → KS prog w np pl tb I₀ R [(L' + 1 + 1 + 1 + 1 + 1 + 1, o6), (L' + 1 + 1 + 1 + 1 + 1, o5), (L' + 1 + 1 + 1 + 1, o4), (L' + 1 + 1 + 1, o3), (L' + 1 + 1, o2), (L' + 1, o1)] bs g' L' k₀ (k₀ + 10000) rs₀ s₀ (fun y => if y = Str.ofString "is_so" then some (.bool b) else m0 y) Z' s' → wpAny (model prog w) (({ handled := none, depth := dp, frames := some (env :: outer), guards := gd, units := un } : Around).deeper (envOfC (Str.ofString "_law_kept") (stScope keptSt) L' 429 (Value.ref 428))) (execs rest (envOfC (Str.ofString "_law_kept") (stScope keptSt) L' 429 (Value.ref 428))) Q E s') :
    wpAny (model prog w) (({ handled := none, depth := dp, frames := some (env :: outer), guards := gd, units := un } : Around).deeper (envOfC (Str.ofString "_law_kept") (stScope keptSt) L' 429 (Value.ref 428))) (execs (kS 1 :: rest) (envOfC (Str.ofString "_law_kept") (stScope keptSt) L' 429 (Value.ref 428))) Q E s := by
  have eS : stScope keptSt = stScope keptSt := rfl
  conv at eS => rhs; whnf
  have eK : kS 1 = kS 1 := rfl
  conv at eK => rhs; whnf
  simp only [eS] at next ⊢
  rw [eK]
  clear eS eK
  obtain ⟨k, tk, ot, rs, h, tks, rfl, F', N', hx, ok, ht, hpre, hrl, hk1, hk2⟩ := hK
  simp only [List.cons_append, List.nil_append] at N'
  have hl0 : ∀ d, (cstM d : Nat) = cstM d := fun _ => rfl
  have fl := ok.sub _ std.mg
  have f0 := ok.sub _ G0
  have f0' := ok.sub _ D0
  have f1 := ok.sub _ G1
  have f1' := ok.sub _ D1
  have f2 := ok.sub _ G2
  have f2' := ok.sub _ D2
  have f3 := ok.sub _ G3
  have f3' := ok.sub _ D3
  have f4 := ok.sub _ hm4
  k_unmd
  repeat' ((try k_unmd); (fail_if_success (with_reducible show wpAny _ _ (call (Value.ref 424) _) _ _ _)); (fail_if_success (with_reducible show wpAny _ _ (call (Value.ref 407) _) _ _ _)); (fail_if_success (with_reducible show wpAny _ _ (call (Value.ref 412) _) _ _ _)); (fail_if_success (with_reducible show wpAny _ _ (call (Value.ref 417) _) _ _ _)); first | (k_unfold; (try dsimp only)) | (k_end; wrow_close) | walk1 | (dsimp only; walk1) | (leave1; walk_say "STEP leave1"; try dsimp only) | fail "no step")
  have lp9 : @LT.lt Nat _ pl dq := by omega
  have lt9 : @LT.lt Nat _ tb dq := by omega
  have x4 := Ext.cons (o := oq) hx hbs lp9 lt9 lq.2.2.2.2.2.2.2.2.2.2.2.2.2
  refine next dq oq _ ((dq, oq) :: Z) _ (fun q h => .tail _ h) (.head _) hdictq loq (by assumption) ⟨k, _, ot, rs, _, _, rfl, by k_asm, mvh (pre := [_, _, _, _, _]) (cells := [_, _, _, _, _, _]) (by k_asm), x4, ?_, ?_, by assumption, by omega, by omega, by omega⟩
  · exact Ok.cons (Nat.ne_of_gt lp9) (Nat.ne_of_gt lt9) ok
  · exact Tab.mono (fun q h => .tail _ h) ht
end
/-! ## part Ks3 -/
section
example : True := by (w_top off; trivial)
local macro_rules | `(tactic| walk_at "none") => `(tactic| fail)
theorem kept_s3 {prog : Program} {w : World} {p : Program} {loose : List Str} {mean : ExcName → Option Value} {mg mb : Str → Option Value} {np : Nat} {pl tb tf : Addr} {I₀ : LL}
    {sh gl : Addr} {base g' : Heap} {L' : Addr} {s s₀ : Shared} {Q : Flow → Shared → Prop} {E : Value → Shared → Prop} {env : Env} {outer : List Env} {dp un : Nat} {gd : Option (List Code)}
    {R bs Z : LL} {k₀ : Int} {rs₀ : List Value} {st dF dO lh : Addr} {os oF oO po to : Obj} {σ τ : Nat → Bool} {v : Value} {P : Pl} {o1 o2 o3 o4 o5 o6 : Obj} {m0 : Str → Option Value} {rest : List Stmt} {b : Bool} {nh : Nat}
    (hd : dp + 160 < recursionLimit) (hu : un + 240 < cLine) (B' : Below ({ handled := none, depth := dp, frames := some (env :: outer), guards := gd, units := un } : Around) base (env :: outer) g') (X' : (K w.params).In g') (T' : Top p loose mean mg mb g') (S' : g'.NoSeer)
    (hTr : ∀ d, d ≤ 19 → TruthSpec prog w p loose mean mg mb np pl tb tf I₀ sh gl d)
    (hDen : ∀ d, MapSpec prog w p loose mean mg mb np pl tb I₀ 407 (fun v => [v]) (fun a b => b = denied a) 3 (fun _ => 0) d)
    (hMir : ∀ d, MapSpec prog w p loose mean mg mb np pl tb I₀ 417 (fun v => [v]) (fun a b => b = mirror a) 3 (fun _ => 0) d)
    (hTur : ∀ d, MapSpec prog w p loose mean mg mb np pl tb I₀ 412 (fun v => [.ref tf, v]) (TRel d) 3 cstT d)
    (d1 : o1.data = .cell (some (.ref tf))) (d2 : o2.data = .cell (some (.ref sh))) (d3 : o3.data = .cell (some (.ref gl))) (d4 : o4.data = .cell (some v)) (d5 : o5.data = .cell (some (.ref st))) (d6 : o6.data = .cell (some (.ref dF)))
    (hbs : bs = (pl, po) :: (tb, to) :: R) (lp : @LT.lt Nat _ pl L') (lt : @LT.lt Nat _ tb L')
    (hgr : ∀ i : Nat, i < 4 → ∃ x, rs₀[i]? = some (.ref x) ∧ GroupIn prog w I₀ x) (hm4 : (st, os) ∈ I₀) (hst : StIn prog w os σ) (hslo : (st == sysModules) = false)
    (mF : (dF, oF) ∈ Z) (hstF : StIn prog w oF σ) (hFlo : (dF == sysModules) = false)
    (hw : Wf 3 3 P) (hp : PlanIn I₀ v P) (hb : ev σ P = b) (hk0 : 0 ≤ k₀) (hk : k₀ + 200000 < 900000) (hdF : oF.IsDictOf (intKind prog w) [(1, .bool (σ 0)), (2, .bool (σ 1)), (3, .bool (σ 2)), (4, .bool (σ 3))])
    (hK : KS prog w np pl tb I₀ R [(L' + 1 + 1 + 1 + 1 + 1 + 1, o6), (L' + 1 + 1 + 1 + 1 + 1, o5), (L' + 1 + 1 + 1 + 1, o4), (L' + 1 + 1 + 1, o3), (L' + 1 + 1, o2), (L' + 1, o1)] bs g' L' k₀ (k₀ + 10000) rs₀ s₀ (fun y => if y = Str.ofString "is_so" then some (.bool b) else m0 y) Z s)
    (next : ∀ dO oO Z' s', (∀ q ∈ Z, q ∈ Z') → (dO, oO) ∈ Z' → StIn prog w oO (fun i => !σ i) → (dO == sysModules) = false → KS prog w np pl tb I₀ R [(L' + 1 + 1 + 1 + 1 + 1 + 1, o6), (L' + 1 + 1 + 1 + 1 + 1, o5), (L' + 1 + 1 + 1 + 1, o4), (L' + 1 + 1 + 1, o3), (L' + 1 + 1, o2), (L' + 1, o1)] bs g' L' k₀ (k₀ + 10000) rs₀ s₀ (fun y => if y = Str.ofString "other" then some (.ref dO) else if y = Str.ofString "is_so" then some (.bool b) else m0 y) Z' s' → wpAny (model prog w) (({ handled := none, depth := dp, frames := some (env :: outer), guards := gd, units := un } : Around).deeper (envOfC (Str.ofString "_law_kept") (stScope keptSt) L' 429 (Value.ref 428))) (execs rest (envOfC (Str.ofString "_law_kept") (stScope keptSt) L' 429 (Value.ref 428))) Q E s') :
    wpAny (model prog w) (({ handled := none, depth := dp, frames := some (env :: outer), guards := gd, units := un } : Around).deeper (envOfC (Str.ofString "_law_kept") (stScope keptSt) L' 429 (Value.ref 428))) (execs (kS 2 :: rest) (envOfC (Str.ofString "_law_kept") (stScope keptSt) L' 429 (Value.ref 428))) Q E s := by
  have eS : stScope keptSt = stScope keptSt := rfl
  conv at eS => rhs; whnf
  have eK : kS 2 = kS 2 := rfl
  conv at eK => rhs; whnf
  simp only [eS] at next ⊢
  rw [eK]
  clear eS eK
  obtain ⟨k, tk, ot, rs, h, tks, rfl, F', N', hx, ok, ht, hpre, hrl, hk1, hk2⟩ := hK
  simp only [List.cons_append, List.nil_append] at N'
  have hl0 : ∀ d, (cstM d : Nat) = cstM d := fun _ => rfl
  k_unmd
  repeat' ((try k_unmd); (fail_if_success (with_reducible show wpAny _ _ (call (Value.ref 424) _) _ _ _)); (fail_if_success (with_reducible show wpAny _ _ (call (Value.ref 407) _) _ _ _)); (fail_if_success (with_reducible show wpAny _ _ (call (Value.ref 412) _) _ _ _)); (fail_if_success (with_reducible show wpAny _ _ (call (Value.ref 417) _) _ _ _)); first | (k_unfold; (try dsimp only)) | (k_end; wrow_close) | walk1 | (dsimp only; walk1) | (leave1; walk_say "STEP leave1"; try dsimp only) | fail "no step")
  have lp9 : @LT.lt Nat _ pl dq := by omega
  have lt9 : @LT.lt Nat _ tb dq := by omega
  have x4 := Ext.cons (o := oq) hx hbs lp9 lt9 lq.2.2.2.2.2.2.2.2.2.2.2.2.2
  refine next dq oq ((dq, oq) :: Z) _ (fun q h => .tail _ h) (.head _) (stIn4 hdictq) loq ⟨k, _, ot, rs, _, _, rfl, by k_asm, mvh (pre := [_, _, _, _, _]) (cells := [_, _, _, _, _, _]) (by k_asm), x4, ?_, ?_, by assumption, by omega, by omega, by omega⟩
  · exact Ok.cons (Nat.ne_of_gt lp9) (Nat.ne_of_gt lt9) ok
  · exact Tab.mono (fun q h => .tail _ h) ht
end
end
/-! ## part Ks4 -/
section
example : True := by (w_top off; trivial)
theorem kept_s4 {prog : Program} {w : World} {p : Program} {loose : List Str} {mean : ExcName → Option Value} {mg mb : Str → Option Value} {np : Nat} {pl tb tf : Addr} {I₀ : LL}
    {sh gl : Addr} {base g' : Heap} {L' : Addr} {s s₀ : Shared} {Q : Flow → Shared → Prop} {E : Value → Shared → Prop} {env : Env} {outer : List Env} {dp un : Nat} {gd : Option (List Code)}
    {R bs Z : LL} {k₀ : Int} {rs₀ : List Value} {st dF dO lh : Addr} {os oF oO po to : Obj} {σ τ : Nat → Bool} {v : Value} {P : Pl} {o1 o2 o3 o4 o5 o6 : Obj} {m0 : Str → Option Value} {rest : List Stmt} {b : Bool} {nh : Nat}
    (hd : dp + 160 < recursionLimit) (hu : un + 240 < cLine) (B' : Below ({ handled := none, depth := dp, frames := some (env :: outer), guards := gd, units := un } : Around) base (env :: outer) g') (X' : (K w.params).In g') (T' : Top p loose mean mg mb g') (S' : g'.NoSeer)
    (hTr : ∀ d, d ≤ 19 → TruthSpec prog w p loose mean mg mb np pl tb tf I₀ sh gl d)
    (hDen : ∀ d, MapSpec prog w p loose mean mg mb np pl tb I₀ 407 (fun v => [v]) (fun a b => b = denied a) 3 (fun _ => 0) d)
    (hMir : ∀ d, MapSpec prog w p loose mean mg mb np pl tb I₀ 417 (fun v => [v]) (fun a b => b = mirror a) 3 (fun _ => 0) d)
    (hTur : ∀ d, MapSpec prog w p loose mean mg mb np pl tb I₀ 412 (fun v => [.ref tf, v]) (TRel d) 3 cstT d)
    (d1 : o1.data = .cell (some (.ref tf))) (d2 : o2.data = .cell (some (.ref sh))) (d3 : o3.data = .cell (some (.ref gl))) (d4 : o4.data = .cell (some v)) (d5 : o5.data = .cell (some (.ref st))) (d6 : o6.data = .cell (some (.ref dF)))
    (hbs : bs = (pl, po) :: (tb, to) :: R) (lp : @LT.lt Nat _ pl L') (lt : @LT.lt Nat _ tb L')
    (hgr : ∀ i : Nat, i < 4 → ∃ x, rs₀[i]? = some (.ref x) ∧ GroupIn prog w I₀ x) (hm4 : (st, os) ∈ I₀) (hst : StIn prog w os σ) (hslo : (st == sysModules) = false)
    (mF : (dF, oF) ∈ Z) (hstF : StIn prog w oF σ) (hFlo : (dF == sysModules) = false) (mO : (dO, oO) ∈ Z) (hstO : StIn prog w oO τ) (hOlo : (dO == sysModules) = false) (hτ : ∀ i, i < 4 → τ i = !σ i)
    (hw : Wf 3 3 P) (hp : PlanIn I₀ v P) (hb : ev σ P = b) (hk0 : 0 ≤ k₀) (hk : k₀ + 200000 < 900000) 
    (hK : KS prog w np pl tb I₀ R [(L' + 1 + 1 + 1 + 1 + 1 + 1, o6), (L' + 1 + 1 + 1 + 1 + 1, o5), (L' + 1 + 1 + 1 + 1, o4), (L' + 1 + 1 + 1, o3), (L' + 1 + 1, o2), (L' + 1, o1)] bs g' L' k₀ (k₀ + 10000) rs₀ s₀ (fun y => if y = Str.ofString "other" then some (.ref dO) else if y = Str.ofString "is_so" then some (.bool b) else m0 y) Z s)
    (next : ∀ lh nh Z' s', (∀ q ∈ Z, q ∈ Z') → (lh, lstO [.bool (!b), .bool (!b)] nh) ∈ Z' → KS prog w np pl tb I₀ R [(L' + 1 + 1 + 1 + 1 + 1 + 1, o6), (L' + 1 + 1 + 1 + 1 + 1, o5), (L' + 1 + 1 + 1 + 1, o4), (L' + 1 + 1 + 1, o3), (L' + 1 + 1, o2), (L' + 1, o1)] bs g' L' k₀ (k₀ + 20000) rs₀ s₀ (fun y => if y = Str.ofString "heard" then some (.ref lh) else if y = Str.ofString "other" then some (.ref dO) else if y = Str.ofString "is_so" then some (.bool b) else m0 y) Z' s' → wpAny (model prog w) (({ handled := none, depth := dp, frames := some (env :: outer), guards := gd, units := un } : Around).deeper (envOfC (Str.ofString "_law_kept") (stScope keptSt) L' 429 (Value.ref 428))) (execs rest (envOfC (Str.ofString "_law_kept") (stScope keptSt) L' 429 (Value.ref 428))) Q E s') :
    wpAny (model prog w) (({ handled := none, depth := dp, frames := some (env :: outer), guards := gd, units := un } : Around).deeper (envOfC (Str.ofString "_law_kept") (stScope keptSt) L' 429 (Value.ref 428))) (execs (kS 3 :: rest) (envOfC (Str.ofString "_law_kept") (stScope keptSt) L' 429 (Value.ref 428))) Q E s := by
  have eS : stScope keptSt = stScope keptSt := rfl
  conv at eS => rhs; whnf
  have eK : kS 3 = kS 3 := rfl
  conv at eK => rhs; whnf
  simp only [eS] at next ⊢
  rw [eK]
  clear eS eK
  obtain ⟨k, tk, ot, rs, h, tks, rfl, F', N', hx, ok, ht, hpre, hrl, hk1, hk2⟩ := hK
  simp only [List.cons_append, List.nil_append] at N'
  have hl0 : ∀ d, (cstM d : Nat) = cstM d := fun _ => rfl
  k_unmd
  repeat' ((try k_unmd); (fail_if_success (with_reducible show wpAny _ _ (call (Value.ref 424) _) _ _ _)); (fail_if_success (with_reducible show wpAny _ _ (call (Value.ref 407) _) _ _ _)); (fail_if_success (with_reducible show wpAny _ _ (call (Value.ref 412) _) _ _ _)); (fail_if_success (with_reducible show wpAny _ _ (call (Value.ref 417) _) _ _ _)); first | (k_unfold; (try dsimp only)) | (k_end; wrow_close) | walk1 | (dsimp only; walk1) | (leave1; walk_say "STEP leave1"; try dsimp only) | fail "no step")
  k_dflt (refine' truth_b (own := [_, _, _, _, _, _, _, _]) (P := _) (hTr 4 (by omega)) ((ev_not σ P).trans (congrArg (!·) hb)) ?hA ?hf ?hke ?hh ?hd ?hu ?B ?F ?X ?T ?S ?N ?ow ?ow' ?ok ?ht ?hl ?hpre hgr (mem_l (ok.sub _ hm4)) hst hslo ?hw ?hp ?k0 ?k1 ?_; (case hA => exact rfl); (case hf => exact rfl); (case hke => exact rfl); (case hh => exact rfl); (case hd => ktr_room); (case hu => ktr_units); (case B => k_asm); (case F => k_asm); (case X => k_asm); (case T => k_asm); (case S => k_asm); (case N => k_asm); (case ow => tb_rel); (case ow' => tb_rel); (case ok => assumption); (case ht => assumption); (case hl => omega); (case hpre => assumption); (case hw => exact Wf.mono (by omega) (by omega) (wf_not (by omega) hw)); (case hp => exact plan_not (.head _) (.tail _ (.head _)) (hp.mono fun q h => mem_l (ok.sub q h))); (case k0 => omega); (case k1 => (have hcm : cstM 4 = 85 := rfl); omega))
  intro tl1 ot1 rs1 k1 h1 tk1 tl1' w11 w21 w31 w41 w51 F1 N1 ab1 ok1
  have hcm1 : cstM 4 = 85 := rfl
  rw [hcm1] at w51
  simp only [List.cons_append, List.nil_append] at N1
  k_unmd
  repeat' ((try k_unmd); (fail_if_success (with_reducible show wpAny _ _ (call (Value.ref 424) _) _ _ _)); (fail_if_success (with_reducible show wpAny _ _ (call (Value.ref 407) _) _ _ _)); (fail_if_success (with_reducible show wpAny _ _ (call (Value.ref 412) _) _ _ _)); (fail_if_success (with_reducible show wpAny _ _ (call (Value.ref 417) _) _ _ _)); first | (k_unfold; (try dsimp only)) | (k_end; wrow_close) | walk1 | (dsimp only; walk1) | (leave1; walk_say "STEP leave1"; try dsimp only) | fail "no step")
  k_dflt (refine' map_use (own := [_, _, _, _, _, _, _, _]) (I := I₀) (P := P) (hDen 3) ?hA ?hf ?hke ?hh ?hd ?hu ?B ?F ?X ?T ?S ?N ?ow ?ow' ?ok ?hI ?hw ?hp ?k0 ?k1 ?_; (case hA => exact rfl); (case hf => exact rfl); (case hke => exact rfl); (case hh => exact rfl); (case hd => ktr_room); (case hu => ktr_units); (case B => k_asm); (case F => k_asm); (case X => k_asm); (case T => k_asm); (case S => k_asm); (case N => k_asm); (case ow => tb_rel); (case ow' => tb_rel); (case ok => assumption); (case hI => exact fun q h => ok1.sub q h); (case hw => exact hw); (case hp => exact hp); (case k0 => omega); (case k1 => omega))
  intro v2 P2 tl2 k2 h2 tk2 tl2' p2 e2 w42 w52 F2 N2 ab2 ok2
  simp only [List.cons_append, List.nil_append] at N2
  have w12 := Tab.mono (fun q h => mem_l (x := tl2) h) w11
  subst e2
  k_unmd
  repeat' ((try k_unmd); (fail_if_success (with_reducible show wpAny _ _ (call (Value.ref 424) _) _ _ _)); (fail_if_success (with_reducible show wpAny _ _ (call (Value.ref 407) _) _ _ _)); (fail_if_success (with_reducible show wpAny _ _ (call (Value.ref 412) _) _ _ _)); (fail_if_success (with_reducible show wpAny _ _ (call (Value.ref 417) _) _ _ _)); first | (k_unfold; (try dsimp only)) | (k_end; wrow_close) | walk1 | (dsimp only; walk1) | (leave1; walk_say "STEP leave1"; try dsimp only) | fail "no step")
  k_dflt (refine' truth_b (own := [_, _, _, _, _, _, _, _]) (P := denied P) (hTr 4 (by omega)) ((ev_denied σ hw).trans (congrArg (!·) hb)) ?hA ?hf ?hke ?hh ?hd ?hu ?B ?F ?X ?T ?S ?N ?ow ?ow' ?ok ?ht ?hl ?hpre hgr (mem_l (ok2.sub _ hm4)) hst hslo ?hw ?hp ?k0 ?k1 ?_; (case hA => exact rfl); (case hf => exact rfl); (case hke => exact rfl); (case hh => exact rfl); (case hd => ktr_room); (case hu => ktr_units); (case B => k_asm); (case F => k_asm); (case X => k_asm); (case T => k_asm); (case S => k_asm); (case N => k_asm); (case ow => tb_rel); (case ow' => tb_rel); (case ok => assumption); (case ht => assumption); (case hl => omega); (case hpre => assumption); (case hw => exact Wf.mono (by omega) (by omega) (wf_denied (by omega) hw)); (case hp => exact p2.mono fun q h => mem_l (mem_app_mono ok1.sub q h)); (case k0 => omega); (case k1 => (have hcm : cstM 4 = 85 := rfl); omega))
  intro tl3 ot3 rs3 k3 h3 tk3 tl3' w13 w23 w33 w43 w53 F3 N3 ab3 ok3
  have hcm3 : cstM 4 = 85 := rfl
  rw [hcm3] at w53
  simp only [List.cons_append, List.nil_append] at N3
  k_unmd
  repeat' ((try k_unmd); (fail_if_success (with_reducible show wpAny _ _ (call (Value.ref 424) _) _ _ _)); (fail_if_success (with_reducible show wpAny _ _ (call (Value.ref 407) _) _ _ _)); (fail_if_success (with_reducible show wpAny _ _ (call (Value.ref 412) _) _ _ _)); (fail_if_success (with_reducible show wpAny _ _ (call (Value.ref 417) _) _ _ _)); first | (k_unfold; (try dsimp only)) | (k_end; wrow_close) | walk1 | (dsimp only; walk1) | (leave1; walk_say "STEP leave1"; try dsimp only) | fail "no step")
  have x1 := Ext.app hx hbs ab1 rfl rfl fun r hr => mem_l hr
  have x2 := Ext.app x1 hbs ab2 rfl rfl fun r hr => mem_l hr
  have x3 := Ext.app x2 hbs ab3 rfl rfl fun r hr => mem_l hr
  have lp9 : @LT.lt Nat _ pl lw := by omega
  have lt9 : @LT.lt Nat _ tb lw := by omega
  have x4 := Ext.cons (o := lstO [.bool (!b), .bool (!b)] 0) x3 hbs lp9 lt9 mw.2.2.2.2.2.2.2.2.2.2
  refine next lw 0 ((lw, lstO [.bool (!b), .bool (!b)] 0) :: (tl3 ++ (tl2 ++ (tl1 ++ Z)))) _ (fun q h => .tail _ (mem_l (mem_l (mem_l h)))) (.head _) ⟨k3, _, ot3, rs3, _, _, rfl, by k_asm, mvh (pre := [_, _]) (cells := [_, _, _, _, _, _]) (by k_asm), x4, ?_, ?_, by assumption, by omega, by omega, by omega⟩
  · exact Ok.cons (Nat.ne_of_gt lp9) (Nat.ne_of_gt lt9) ok3
  · exact Tab.mono (fun q h => .tail _ h) w13
end
/-! ## part Ks5 -/
section
example : True := by (w_top off; trivial)
local macro_rules | `(tactic| walk_at "none") => `(tactic| fail)
theorem kept_s5 {prog : Program} {w : World} {p : Program} {loose : List Str} {mean : ExcName → Option Value} {mg mb : Str → Option Value} {np : Nat} {pl tb tf : Addr} {I₀ : LL}
    {sh gl : Addr} {base g' : Heap} {L' : Addr} {s s₀ : Shared} {Q : Flow → Shared → Prop} {E : Value → Shared → Prop} {env : Env} {outer : List Env} {dp un : Nat} {gd : Option (List Code)}
    {R bs Z : LL} {k₀ : Int} {rs₀ : List Value} {st dF dO lh : Addr} {os oF oO po to : Obj} {σ τ : Nat → Bool} {v : Value} {P : Pl} {o1 o2 o3 o4 o5 o6 : Obj} {m0 : Str → Option Value} {rest : List Stmt} {b : Bool} {nh : Nat}
    (hd : dp + 160 < recursionLimit) (hu : un + 240 < cLine) (B' : Below ({ handled := none, depth := dp, frames := some (env :: outer), guards := gd, units := un } : Around) base (env :: outer) g') (X' : (K w.params).In g') (T' : Top p loose mean mg mb g') (S' : g'.NoSeer)
    (hTr : ∀ d, d ≤ 19 → TruthSpec prog w p loose mean mg mb np pl tb tf I₀ sh gl d)
    (hDen : ∀ d, MapSpec prog w p loose mean mg mb np pl tb I₀ 407 (fun v => [v]) (fun a b => b = denied a) 3 (fun _ => 0) d)
    (hMir : ∀ d, MapSpec prog w p loose mean mg mb np pl tb I₀ 417 (fun v => [v]) (fun a b => b = mirror a) 3 (fun _ => 0) d)
    (hTur : ∀ d, MapSpec prog w p loose mean mg mb np pl tb I₀ 412 (fun v => [.ref tf, v]) (TRel d) 3 cstT d)
    (d1 : o1.data = .cell (some (.ref tf))) (d2 : o2.data = .cell (some (.ref sh))) (d3 : o3.data = .cell (some (.ref gl))) (d4 : o4.data = .cell (some v)) (d5 : o5.data = .cell (some (.ref st))) (d6 : o6.data = .cell (some (.ref dF)))
    (hbs : bs = (pl, po) :: (tb, to) :: R) (lp : @LT.lt Nat _ pl L') (lt : @LT.lt Nat _ tb L')
    (hgr : ∀ i : Nat, i < 4 → ∃ x, rs₀[i]? = some (.ref x) ∧ GroupIn prog w I₀ x) (hm4 : (st, os) ∈ I₀) (hst : StIn prog w os σ) (hslo : (st == sysModules) = false)
    (mF : (dF, oF) ∈ Z) (hstF : StIn prog w oF σ) (hFlo : (dF == sysModules) = false) (mO : (dO, oO) ∈ Z) (hstO : StIn prog w oO τ) (hOlo : (dO == sysModules) = false) (hτ : ∀ i, i < 4 → τ i = !σ i)
    (hw : Wf 3 3 P) (hp : PlanIn I₀ v P) (hb : ev σ P = b) (hk0 : 0 ≤ k₀) (hk : k₀ + 200000 < 900000) (mH : (lh, lstO [.bool (!b), .bool (!b)] nh) ∈ Z)
    (hK : KS prog w np pl tb I₀ R [(L' + 1 + 1 + 1 + 1 + 1 + 1, o6), (L' + 1 + 1 + 1 + 1 + 1, o5), (L' + 1 + 1 + 1 + 1, o4), (L' + 1 + 1 + 1, o3), (L' + 1 + 1, o2), (L' + 1, o1)] bs g' L' k₀ (k₀ + 20000) rs₀ s₀ (fun y => if y = Str.ofString "heard" then some (.ref lh) else if y = Str.ofString "other" then some (.ref dO) else if y = Str.ofString "is_so" then some (.bool b) else m0 y) Z s)
    (next : ∀  Z' s', (∀ q ∈ Z, q ∈ Z') → KS prog w np pl tb I₀ R [(L' + 1 + 1 + 1 + 1 + 1 + 1, o6), (L' + 1 + 1 + 1 + 1 + 1, o5), (L' + 1 + 1 + 1 + 1, o4), (L' + 1 + 1 + 1, o3), (L' + 1 + 1, o2), (L' + 1, o1)] bs g' L' k₀ (k₀ + 30000) rs₀ s₀ (fun y => if y = Str.ofString "heard" then some (.ref lh) else if y = Str.ofString "other" then some (.ref dO) else if y = Str.ofString "is_so" then some (.bool b) else m0 y) Z' s' → wpAny (model prog w) (({ handled := none, depth := dp, frames := some (env :: outer), guards := gd, units := un } : Around).deeper (envOfC (Str.ofString "_law_kept") (stScope keptSt) L' 429 (Value.ref 428))) (execs rest (envOfC (Str.ofString "_law_kept") (stScope keptSt) L' 429 (Value.ref 428))) Q E s') :
    wpAny (model prog w) (({ handled := none, depth := dp, frames := some (env :: outer), guards := gd, units := un } : Around).deeper (envOfC (Str.ofString "_law_kept") (stScope keptSt) L' 429 (Value.ref 428))) (execs (kS 4 :: rest) (envOfC (Str.ofString "_law_kept") (stScope keptSt) L' 429 (Value.ref 428))) Q E s := by
  have eS : stScope keptSt = stScope keptSt := rfl
  conv at eS => rhs; whnf
  have eK : kS 4 = kS 4 := rfl
  conv at eK => rhs; whnf
  simp only [eS] at next ⊢
  rw [eK]
  clear eS eK
  obtain ⟨k, tk, ot, rs, h, tks, rfl, F', N', hx, ok, ht, hpre, hrl, hk1, hk2⟩ := hK
  simp only [List.cons_append, List.nil_append] at N'
  have hl0 : ∀ d, (cstM d : Nat) = cstM d := fun _ => rfl
  have hnn : ev σ (.op .not [.op .not [P]]) = b := by rw [ev_not, ev_not, hb]; cases b <;> rfl
  cases b
  all_goals simp only [Bool.not_true, Bool.not_false] at mH
  all_goals k_unmd
  · repeat' ((try k_unmd); (fail_if_success (with_reducible show wpAny _ _ (call (Value.ref 424) _) _ _ _)); (fail_if_success (with_reducible show wpAny _ _ (call (Value.ref 407) _) _ _ _)); (fail_if_success (with_reducible show wpAny _ _ (call (Value.ref 412) _) _ _ _)); (fail_if_success (with_reducible show wpAny _ _ (call (Value.ref 417) _) _ _ _)); first | (k_unfold; (try dsimp only)) | (k_end; wrow_close) | walk1 | (dsimp only; walk1) | (leave1; walk_say "STEP leave1"; try dsimp only) | fail "no step")
    k_dflt (refine' truth_b (own := [_, _, _, _, _, _, _, _, _, _, _]) (P := _) (hTr 5 (by omega)) hnn ?hA ?hf ?hke ?hh ?hd ?hu ?B ?F ?X ?T ?S ?N ?ow ?ow' ?ok ?ht ?hl ?hpre hgr (mem_l (ok.sub _ hm4)) hst hslo ?hw ?hp ?k0 ?k1 ?_; (case hA => exact rfl); (case hf => exact rfl); (case hke => exact rfl); (case hh => exact rfl); (case hd => ktr_room); (case hu => ktr_units); (case B => k_asm); (case F => k_asm); (case X => k_asm); (case T => k_asm); (case S => k_asm); (case N => k_asm); (case ow => tb_rel); (case ow' => tb_rel); (case ok => assumption); (case ht => assumption); (case hl => omega); (case hpre => assumption); (case hw => exact wf_not (by omega) (wf_not (by omega) (Wf.mono (by omega) (Nat.le_refl _) hw))); (case hp => exact plan_not (.head _) (.tail _ (.head _)) (plan_not (.tail _ (.tail _ (.head _))) (.tail _ (.tail _ (.tail _ (.head _)))) (hp.mono fun q h => mem_l (ok.sub q h)))); (case k0 => omega); (case k1 => (have hcm : cstM 5 = 341 := rfl); omega))
    intro tl1 ot1 rs1 k1 h1 tk1 tl1' w11 w21 w31 w41 w51 F1 N1 ab1 ok1
    have hcm1 : cstM 5 = 341 := rfl
    rw [hcm1] at w51
    simp only [List.cons_append, List.nil_append] at N1
    k_unmd
    repeat' ((try k_unmd); (fail_if_success (with_reducible show wpAny _ _ (call (Value.ref 424) _) _ _ _)); (fail_if_success (with_reducible show wpAny _ _ (call (Value.ref 407) _) _ _ _)); (fail_if_success (with_reducible show wpAny _ _ (call (Value.ref 412) _) _ _ _)); (fail_if_success (with_reducible show wpAny _ _ (call (Value.ref 417) _) _ _ _)); first | (k_unfold; (try dsimp only)) | (k_end; wrow_close) | walk1 | (dsimp only; walk1) | (leave1; walk_say "STEP leave1"; try dsimp only) | fail "no step")
    have x1 := Ext.app hx hbs ab1 rfl rfl fun r hr => mem_l hr
    exact next (tl1 ++ Z) _ (fun q h => mem_l h) ⟨k1, _, ot1, rs1, _, _, rfl, by k_asm, drp (pre := [_, _, _, _, _]) (by k_asm), x1, ok1, w11, w21, by omega, by omega, by omega⟩
  · repeat' ((try k_unmd); (fail_if_success (with_reducible show wpAny _ _ (call (Value.ref 424) _) _ _ _)); (fail_if_success (with_reducible show wpAny _ _ (call (Value.ref 407) _) _ _ _)); (fail_if_success (with_reducible show wpAny _ _ (call (Value.ref 412) _) _ _ _)); (fail_if_success (with_reducible show wpAny _ _ (call (Value.ref 417) _) _ _ _)); first | (k_unfold; (try dsimp only)) | (k_end; wrow_close) | walk1 | (dsimp only; walk1) | (leave1; walk_say "STEP leave1"; try dsimp only) | fail "no step")
    k_dflt (refine' truth_b (own := [_, _, _, _, _, _, _, _, _, _, _]) (P := _) (hTr 5 (by omega)) hnn ?hA ?hf ?hke ?hh ?hd ?hu ?B ?F ?X ?T ?S ?N ?ow ?ow' ?ok ?ht ?hl ?hpre hgr (mem_l (ok.sub _ hm4)) hst hslo ?hw ?hp ?k0 ?k1 ?_; (case hA => exact rfl); (case hf => exact rfl); (case hke => exact rfl); (case hh => exact rfl); (case hd => ktr_room); (case hu => ktr_units); (case B => k_asm); (case F => k_asm); (case X => k_asm); (case T => k_asm); (case S => k_asm); (case N => k_asm); (case ow => tb_rel); (case ow' => tb_rel); (case ok => assumption); (case ht => assumption); (case hl => omega); (case hpre => assumption); (case hw => exact wf_not (by omega) (wf_not (by omega) (Wf.mono (by omega) (Nat.le_refl _) hw))); (case hp => exact plan_not (.head _) (.tail _ (.head _)) (plan_not (.tail _ (.tail _ (.head _))) (.tail _ (.tail _ (.tail _ (.head _)))) (hp.mono fun q h => mem_l (ok.sub q h)))); (case k0 => omega); (case k1 => (have hcm : cstM 5 = 341 := rfl); omega))
    intro tl1 ot1 rs1 k1 h1 tk1 tl1' w11 w21 w31 w41 w51 F1 N1 ab1 ok1
    have hcm1 : cstM 5 = 341 := rfl
    rw [hcm1] at w51
    simp only [List.cons_append, List.nil_append] at N1
    k_unmd
    repeat' ((try k_unmd); (fail_if_success (with_reducible show wpAny _ _ (call (Value.ref 424) _) _ _ _)); (fail_if_success (with_reducible show wpAny _ _ (call (Value.ref 407) _) _ _ _)); (fail_if_success (with_reducible show wpAny _ _ (call (Value.ref 412) _) _ _ _)); (fail_if_success (with_reducible show wpAny _ _ (call (Value.ref 417) _) _ _ _)); first | (k_unfold; (try dsimp only)) | (k_end; wrow_close) | walk1 | (dsimp only; walk1) | (leave1; walk_say "STEP leave1"; try dsimp only) | fail "no step")
    have x1 := Ext.app hx hbs ab1 rfl rfl fun r hr => mem_l hr
    exact next (tl1 ++ Z) _ (fun q h => mem_l h) ⟨k1, _, ot1, rs1, _, _, rfl, by k_asm, drp (pre := [_, _, _, _, _]) (by k_asm), x1, ok1, w11, w21, by omega, by omega, by omega⟩
end
/-! ## part Ks6 -/
section
example : True := by (w_top off; trivial)
theorem kept_s6 {prog : Program} {w : World} {p : Program} {loose : List Str} {mean : ExcName → Option Value} {mg mb : Str → Option Value} {np : Nat} {pl tb tf : Addr} {I₀ : LL}
    {sh gl : Addr} {base g' : Heap} {L' : Addr} {s s₀ : Shared} {Q : Flow → Shared → Prop} {E : Value → Shared → Prop} {env : Env} {outer : List Env} {dp un : Nat} {gd : Option (List Code)}
    {R bs Z : LL} {k₀ : Int} {rs₀ : List Value} {st dF dO lh : Addr} {os oF oO po to : Obj} {σ τ : Nat → Bool} {v : Value} {P : Pl} {o1 o2 o3 o4 o5 o6 : Obj} {m0 : Str → Option Value} {rest : List Stmt} {b : Bool} {nh : Nat}
    (hd : dp + 160 < recursionLimit) (hu : un + 240 < cLine) (B' : Below ({ handled := none, depth := dp, frames := some (env :: outer), guards := gd, units := un } : Around) base (env :: outer) g') (X' : (K w.params).In g') (T' : Top p loose mean mg mb g') (S' : g'.NoSeer)
    (hTr : ∀ d, d ≤ 19 → TruthSpec prog w p loose mean mg mb np pl tb tf I₀ sh gl d)
    (hDen : ∀ d, MapSpec prog w p loose mean mg mb np pl tb I₀ 407 (fun v => [v]) (fun a b => b = denied a) 3 (fun _ => 0) d)
    (hMir : ∀ d, MapSpec prog w p loose mean mg mb np pl tb I₀ 417 (fun v => [v]) (fun a b => b = mirror a) 3 (fun _ => 0) d)
    (hTur : ∀ d, MapSpec prog w p loose mean mg mb np pl tb I₀ 412 (fun v => [.ref tf, v]) (TRel d) 3 cstT d)
    (d1 : o1.data = .cell (some (.ref tf))) (d2 : o2.data = .cell (some (.ref sh))) (d3 : o3.data = .cell (some (.ref gl))) (d4 : o4.data = .cell (some v)) (d5 : o5.data = .cell (some (.ref st))) (d6 : o6.data = .cell (some (.ref dF)))
    (hbs : bs = (pl, po) :: (tb, to) :: R) (lp : @LT.lt Nat _ pl L') (lt : @LT.lt Nat _ tb L')
    (hgr : ∀ i : Nat, i < 4 → ∃ x, rs₀[i]? = some (.ref x) ∧ GroupIn prog w I₀ x) (hm4 : (st, os) ∈ I₀) (hst : StIn prog w os σ) (hslo : (st == sysModules) = false)
    (mF : (dF, oF) ∈ Z) (hstF : StIn prog w oF σ) (hFlo : (dF == sysModules) = false) (mO : (dO, oO) ∈ Z) (hstO : StIn prog w oO τ) (hOlo : (dO == sysModules) = false) (hτ : ∀ i, i < 4 → τ i = !σ i)
    (hw : Wf 3 3 P) (hp : PlanIn I₀ v P) (hb : ev σ P = b) (hk0 : 0 ≤ k₀) (hk : k₀ + 200000 < 900000) 
    (hK : KS prog w np pl tb I₀ R [(L' + 1 + 1 + 1 + 1 + 1 + 1, o6), (L' + 1 + 1 + 1 + 1 + 1, o5), (L' + 1 + 1 + 1 + 1, o4), (L' + 1 + 1 + 1, o3), (L' + 1 + 1, o2), (L' + 1, o1)] bs g' L' k₀ (k₀ + 30000) rs₀ s₀ (fun y => if y = Str.ofString "heard" then some (.ref lh) else if y = Str.ofString "other" then some (.ref dO) else if y = Str.ofString "is_so" then some (.bool b) else m0 y) Z s)
    (next : ∀  Z' s', (∀ q ∈ Z, q ∈ Z') → KS prog w np pl tb I₀ R [(L' + 1 + 1 + 1 + 1 + 1 + 1, o6), (L' + 1 + 1 + 1 + 1 + 1, o5), (L' + 1 + 1 + 1 + 1, o4), (L' + 1 + 1 + 1, o3), (L' + 1 + 1, o2), (L' + 1, o1)] bs g' L' k₀ (k₀ + 40000) rs₀ s₀ (fun y => if y = Str.ofString "heard" then some (.ref lh) else if y = Str.ofString "other" then some (.ref dO) else if y = Str.ofString "is_so" then some (.bool b) else m0 y) Z' s' → wpAny (model prog w) (({ handled := none, depth := dp, frames := some (env :: outer), guards := gd, units := un } : Around).deeper (envOfC (Str.ofString "_law_kept") (stScope keptSt) L' 429 (Value.ref 428))) (execs rest (envOfC (Str.ofString "_law_kept") (stScope keptSt) L' 429 (Value.ref 428))) Q E s') :
    wpAny (model prog w) (({ handled := none, depth := dp, frames := some (env :: outer), guards := gd, units := un } : Around).deeper (envOfC (Str.ofString "_law_kept") (stScope keptSt) L' 429 (Value.ref 428))) (execs (kS 5 :: rest) (envOfC (Str.ofString "_law_kept") (stScope keptSt) L' 429 (Value.ref 428))) Q E s := by
  have eS : stScope keptSt = stScope keptSt := rfl
  conv at eS => rhs; whnf
  have eK : kS 5 = kS 5 := rfl
  conv at eK => rhs; whnf
  simp only [eS] at next ⊢
  rw [eK]
  clear eS eK
  obtain ⟨k, tk, ot, rs, h, tks, rfl, F', N', hx, ok, ht, hpre, hrl, hk1, hk2⟩ := hK
  simp only [List.cons_append, List.nil_append] at N'
  have hl0 : ∀ d, (cstM d : Nat) = cstM d := fun _ => rfl
  cases b
  all_goals k_unmd
  · repeat' ((try k_unmd); (fail_if_success (with_reducible show wpAny _ _ (call (Value.ref 424) _) _ _ _)); (fail_if_success (with_reducible show wpAny _ _ (call (Value.ref 407) _) _ _ _)); (fail_if_success (with_reducible show wpAny _ _ (call (Value.ref 412) _) _ _ _)); (fail_if_success (with_reducible show wpAny _ _ (call (Value.ref 417) _) _ _ _)); first | (k_unfold; (try dsimp only)) | (k_end; wrow_close) | walk1 | (dsimp only; walk1) | (leave1; walk_say "STEP leave1"; try dsimp only) | fail "no step")
    k_dflt (refine' truth_b (own := [_, _, _, _, _, _]) (P := _) (hTr 3 (by omega)) hb ?hA ?hf ?hke ?hh ?hd ?hu ?B ?F ?X ?T ?S ?N ?ow ?ow' ?ok ?ht ?hl ?hpre hgr (mem_l mF) hstF hFlo ?hw ?hp ?k0 ?k1 ?_; (case hA => exact rfl); (case hf => exact rfl); (case hke => exact rfl); (case hh => exact rfl); (case hd => ktr_room); (case hu => ktr_units); (case B => k_asm); (case F => k_asm); (case X => k_asm); (case T => k_asm); (case S => k_asm); (case N => k_asm); (case ow => tb_rel); (case ow' => tb_rel); (case ok => assumption); (case ht => assumption); (case hl => omega); (case hpre => assumption); (case hw => exact Wf.mono (by omega) (Nat.le_refl _) hw); (case hp => exact hp.mono fun q h => mem_l (ok.sub q h)); (case k0 => omega); (case k1 => (have hcm : cstM 3 = 21 := rfl); omega))
    intro tl1 ot1 rs1 k1 h1 tk1 tl1' w11 w21 w31 w41 w51 F1 N1 ab1 ok1
    have hcm1 : cstM 3 = 21 := rfl
    rw [hcm1] at w51
    simp only [List.cons_append, List.nil_append] at N1
    k_unmd
    repeat' ((try k_unmd); (fail_if_success (with_reducible show wpAny _ _ (call (Value.ref 424) _) _ _ _)); (fail_if_success (with_reducible show wpAny _ _ (call (Value.ref 407) _) _ _ _)); (fail_if_success (with_reducible show wpAny _ _ (call (Value.ref 412) _) _ _ _)); (fail_if_success (with_reducible show wpAny _ _ (call (Value.ref 417) _) _ _ _)); first | (k_unfold; (try dsimp only)) | (k_end; wrow_close) | walk1 | (dsimp only; walk1) | (leave1; walk_say "STEP leave1"; try dsimp only) | fail "no step")
    k_dflt (refine' map_use (own := [_, _, _, _, _, _]) (I := I₀) (P := P) (hTur 3) ?hA ?hf ?hke ?hh ?hd ?hu ?B ?F ?X ?T ?S ?N ?ow ?ow' ?ok ?hI ?hw ?hp ?k0 ?k1 ?_; (case hA => exact rfl); (case hf => exact rfl); (case hke => exact rfl); (case hh => exact rfl); (case hd => ktr_room); (case hu => ktr_units); (case B => k_asm); (case F => k_asm); (case X => k_asm); (case T => k_asm); (case S => k_asm); (case N => k_asm); (case ow => tb_rel); (case ow' => tb_rel); (case ok => assumption); (case hI => exact fun q h => ok1.sub q h); (case hw => exact hw); (case hp => exact hp); (case k0 => omega); (case k1 => (have hct : cstT 3 = 26 := rfl); omega))
    intro v2 P2 tl2 k2 h2 tk2 tl2' p2 e2 w42 w52 F2 N2 ab2 ok2
    simp only [List.cons_append, List.nil_append] at N2
    have w12 := Tab.mono (fun q h => mem_l (x := tl2) h) w11
    have hct : cstT 3 = 26 := rfl
    rw [hct] at w52
    have hb2 := (e2.2 σ).trans hb
    k_unmd
    repeat' ((try k_unmd); (fail_if_success (with_reducible show wpAny _ _ (call (Value.ref 424) _) _ _ _)); (fail_if_success (with_reducible show wpAny _ _ (call (Value.ref 407) _) _ _ _)); (fail_if_success (with_reducible show wpAny _ _ (call (Value.ref 412) _) _ _ _)); (fail_if_success (with_reducible show wpAny _ _ (call (Value.ref 417) _) _ _ _)); first | (k_unfold; (try dsimp only)) | (k_end; wrow_close) | walk1 | (dsimp only; walk1) | (leave1; walk_say "STEP leave1"; try dsimp only) | fail "no step")
    k_dflt (refine' truth_b (own := [_, _, _, _, _, _]) (P := _) (hTr 6 (by omega)) hb2 ?hA ?hf ?hke ?hh ?hd ?hu ?B ?F ?X ?T ?S ?N ?ow ?ow' ?ok ?ht ?hl ?hpre hgr (mem_l (ok2.sub _ hm4)) hst hslo ?hw ?hp ?k0 ?k1 ?_; (case hA => exact rfl); (case hf => exact rfl); (case hke => exact rfl); (case hh => exact rfl); (case hd => ktr_room); (case hu => ktr_units); (case B => k_asm); (case F => k_asm); (case X => k_asm); (case T => k_asm); (case S => k_asm); (case N => k_asm); (case ow => tb_rel); (case ow' => tb_rel); (case ok => assumption); (case ht => assumption); (case hl => omega); (case hpre => assumption); (case hw => exact e2.1); (case hp => exact p2.mono fun q h => mem_l (mem_app_mono ok1.sub q h)); (case k0 => omega); (case k1 => (have hcm : cstM 6 = 1365 := rfl); omega))
    intro tl3 ot3 rs3 k3 h3 tk3 tl3' w13 w23 w33 w43 w53 F3 N3 ab3 ok3
    have hcm3 : cstM 6 = 1365 := rfl
    rw [hcm3] at w53
    simp only [List.cons_append, List.nil_append] at N3
    k_unmd
    repeat' ((try k_unmd); (fail_if_success (with_reducible show wpAny _ _ (call (Value.ref 424) _) _ _ _)); (fail_if_success (with_reducible show wpAny _ _ (call (Value.ref 407) _) _ _ _)); (fail_if_success (with_reducible show wpAny _ _ (call (Value.ref 412) _) _ _ _)); (fail_if_success (with_reducible show wpAny _ _ (call (Value.ref 417) _) _ _ _)); first | (k_unfold; (try dsimp only)) | (k_end; wrow_close) | walk1 | (dsimp only; walk1) | (leave1; walk_say "STEP leave1"; try dsimp only) | fail "no step")
    have x1 := Ext.app hx hbs ab1 rfl rfl fun r hr => mem_l hr
    have x2 := Ext.app x1 hbs ab2 rfl rfl fun r hr => mem_l hr
    have x3 := Ext.app x2 hbs ab3 rfl rfl fun r hr => mem_l hr
    exact next (tl3 ++ (tl2 ++ (tl1 ++ Z))) _ (fun q h => mem_l (mem_l (mem_l h))) ⟨k3, _, ot3, rs3, _, _, rfl, by k_asm, by k_asm, x3, ok3, w13, w23, by omega, by omega, by omega⟩
  · repeat' ((try k_unmd); (fail_if_success (with_reducible show wpAny _ _ (call (Value.ref 424) _) _ _ _)); (fail_if_success (with_reducible show wpAny _ _ (call (Value.ref 407) _) _ _ _)); (fail_if_success (with_reducible show wpAny _ _ (call (Value.ref 412) _) _ _ _)); (fail_if_success (with_reducible show wpAny _ _ (call (Value.ref 417) _) _ _ _)); first | (k_unfold; (try dsimp only)) | (k_end; wrow_close) | walk1 | (dsimp only; walk1) | (leave1; walk_say "STEP leave1"; try dsimp only) | fail "no step")
    k_dflt (refine' truth_b (own := [_, _, _, _, _, _]) (P := _) (hTr 3 (by omega)) hb ?hA ?hf ?hke ?hh ?hd ?hu ?B ?F ?X ?T ?S ?N ?ow ?ow' ?ok ?ht ?hl ?hpre hgr (mem_l mF) hstF hFlo ?hw ?hp ?k0 ?k1 ?_; (case hA => exact rfl); (case hf => exact rfl); (case hke => exact rfl); (case hh => exact rfl); (case hd => ktr_room); (case hu => ktr_units); (case B => k_asm); (case F => k_asm); (case X => k_asm); (case T => k_asm); (case S => k_asm); (case N => k_asm); (case ow => tb_rel); (case ow' => tb_rel); (case ok => assumption); (case ht => assumption); (case hl => omega); (case hpre => assumption); (case hw => exact Wf.mono (by omega) (Nat.le_refl _) hw); (case hp => exact hp.mono fun q h => mem_l (ok.sub q h)); (case k0 => omega); (case k1 => (have hcm : cstM 3 = 21 := rfl); omega))
    intro tl1 ot1 rs1 k1 h1 tk1 tl1' w11 w21 w31 w41 w51 F1 N1 ab1 ok1
    have hcm1 : cstM 3 = 21 := rfl
    rw [hcm1] at w51
    simp only [List.cons_append, List.nil_append] at N1
    k_unmd
    repeat' ((try k_unmd); (fail_if_success (with_reducible show wpAny _ _ (call (Value.ref 424) _) _ _ _)); (fail_if_success (with_reducible show wpAny _ _ (call (Value.ref 407) _) _ _ _)); (fail_if_success (with_reducible show wpAny _ _ (call (Value.ref 412) _) _ _ _)); (fail_if_success (with_reducible show wpAny _ _ (call (Value.ref 417) _) _ _ _)); first | (k_unfold; (try dsimp only)) | (k_end; wrow_close) | walk1 | (dsimp only; walk1) | (leave1; walk_say "STEP leave1"; try dsimp only) | fail "no step")
    k_dflt (refine' map_use (own := [_, _, _, _, _, _]) (I := I₀) (P := P) (hTur 3) ?hA ?hf ?hke ?hh ?hd ?hu ?B ?F ?X ?T ?S ?N ?ow ?ow' ?ok ?hI ?hw ?hp ?k0 ?k1 ?_; (case hA => exact rfl); (case hf => exact rfl); (case hke => exact rfl); (case hh => exact rfl); (case hd => ktr_room); (case hu => ktr_units); (case B => k_asm); (case F => k_asm); (case X => k_asm); (case T => k_asm); (case S => k_asm); (case N => k_asm); (case ow => tb_rel); (case ow' => tb_rel); (case ok => assumption); (case hI => exact fun q h => ok1.sub q h); (case hw => exact hw); (case hp => exact hp); (case k0 => omega); (case k1 => (have hct : cstT 3 = 26 := rfl); omega))
    intro v2 P2 tl2 k2 h2 tk2 tl2' p2 e2 w42 w52 F2 N2 ab2 ok2
    simp only [List.cons_append, List.nil_append] at N2
    have w12 := Tab.mono (fun q h => mem_l (x := tl2) h) w11
    have hct : cstT 3 = 26 := rfl
    rw [hct] at w52
    have hb2 := (e2.2 σ).trans hb
    k_unmd
    repeat' ((try k_unmd); (fail_if_success (with_reducible show wpAny _ _ (call (Value.ref 424) _) _ _ _)); (fail_if_success (with_reducible show wpAny _ _ (call (Value.ref 407) _) _ _ _)); (fail_if_success (with_reducible show wpAny _ _ (call (Value.ref 412) _) _ _ _)); (fail_if_success (with_reducible show wpAny _ _ (call (Value.ref 417) _) _ _ _)); first | (k_unfold; (try dsimp only)) | (k_end; wrow_close) | walk1 | (dsimp only; walk1) | (leave1; walk_say "STEP leave1"; try dsimp only) | fail "no step")
    k_dflt (refine' truth_b (own := [_, _, _, _, _, _]) (P := _) (hTr 6 (by omega)) hb2 ?hA ?hf ?hke ?hh ?hd ?hu ?B ?F ?X ?T ?S ?N ?ow ?ow' ?ok ?ht ?hl ?hpre hgr (mem_l (ok2.sub _ hm4)) hst hslo ?hw ?hp ?k0 ?k1 ?_; (case hA => exact rfl); (case hf => exact rfl); (case hke => exact rfl); (case hh => exact rfl); (case hd => ktr_room); (case hu => ktr_units); (case B => k_asm); (case F => k_asm); (case X => k_asm); (case T => k_asm); (case S => k_asm); (case N => k_asm); (case ow => tb_rel); (case ow' => tb_rel); (case ok => assumption); (case ht => assumption); (case hl => omega); (case hpre => assumption); (case hw => exact e2.1); (case hp => exact p2.mono fun q h => mem_l (mem_app_mono ok1.sub q h)); (case k0 => omega); (case k1 => (have hcm : cstM 6 = 1365 := rfl); omega))
    intro tl3 ot3 rs3 k3 h3 tk3 tl3' w13 w23 w33 w43 w53 F3 N3 ab3 ok3
    have hcm3 : cstM 6 = 1365 := rfl
    rw [hcm3] at w53
    simp only [List.cons_append, List.nil_append] at N3
    k_unmd
    repeat' ((try k_unmd); (fail_if_success (with_reducible show wpAny _ _ (call (Value.ref 424) _) _ _ _)); (fail_if_success (with_reducible show wpAny _ _ (call (Value.ref 407) _) _ _ _)); (fail_if_success (with_reducible show wpAny _ _ (call (Value.ref 412) _) _ _ _)); (fail_if_success (with_reducible show wpAny _ _ (call (Value.ref 417) _) _ _ _)); first | (k_unfold; (try dsimp only)) | (k_end; wrow_close) | walk1 | (dsimp only; walk1) | (leave1; walk_say "STEP leave1"; try dsimp only) | fail "no step")
    have x1 := Ext.app hx hbs ab1 rfl rfl fun r hr => mem_l hr
    have x2 := Ext.app x1 hbs ab2 rfl rfl fun r hr => mem_l hr
    have x3 := Ext.app x2 hbs ab3 rfl rfl fun r hr => mem_l hr
    exact next (tl3 ++ (tl2 ++ (tl1 ++ Z))) _ (fun q h => mem_l (mem_l (mem_l h))) ⟨k3, _, ot3, rs3, _, _, rfl, by k_asm, by k_asm, x3, ok3, w13, w23, by omega, by omega, by omega⟩
end
/-! ## part Ks7 -/
section
example : True := by (w_top off; trivial)
local macro_rules | `(tactic| walk_at "none") => `(tactic| fail)
theorem kept_s7 {prog : Program} {w : World} {p : Program} {loose : List Str} {mean : ExcName → Option Value} {mg mb : Str → Option Value} {np : Nat} {pl tb tf : Addr} {I₀ : LL}
    {sh gl : Addr} {base g' : Heap} {L' : Addr} {s s₀ : Shared} {Q : Flow → Shared → Prop} {E : Value → Shared → Prop} {env : Env} {outer : List Env} {dp un : Nat} {gd : Option (List Code)}
    {R bs Z : LL} {k₀ : Int} {rs₀ : List Value} {st dF dO lh : Addr} {os oF oO po to : Obj} {σ τ : Nat → Bool} {v : Value} {P : Pl} {o1 o2 o3 o4 o5 o6 : Obj} {m0 : Str → Option Value} {rest : List Stmt} {b : Bool} {nh : Nat}
    (hd : dp + 160 < recursionLimit) (hu : un + 240 < cLine) (B' : Below ({ handled := none, depth := dp, frames := some (env :: outer), guards := gd, units := un } : Around) base (env :: outer) g') (X' : (K w.params).In g') (T' : Top p loose mean mg mb g') (S' : g'.NoSeer)
    (hTr : ∀ d, d ≤ 19 → TruthSpec prog w p loose mean mg mb np pl tb tf I₀ sh gl d)
    (hDen : ∀ d, MapSpec prog w p loose mean mg mb np pl tb I₀ 407 (fun v => [v]) (fun a b => b = denied a) 3 (fun _ => 0) d)
    (hMir : ∀ d, MapSpec prog w p loose mean mg mb np pl tb I₀ 417 (fun v => [v]) (fun a b => b = mirror a) 3 (fun _ => 0) d)
    (hTur : ∀ d, MapSpec prog w p loose mean mg mb np pl tb I₀ 412 (fun v => [.ref tf, v]) (TRel d) 3 cstT d)
    (d1 : o1.data = .cell (some (.ref tf))) (d2 : o2.data = .cell (some (.ref sh))) (d3 : o3.data = .cell (some (.ref gl))) (d4 : o4.data = .cell (some v)) (d5 : o5.data = .cell (some (.ref st))) (d6 : o6.data = .cell (some (.ref dF)))
    (hbs : bs = (pl, po) :: (tb, to) :: R) (lp : @LT.lt Nat _ pl L') (lt : @LT.lt Nat _ tb L')
    (hgr : ∀ i : Nat, i < 4 → ∃ x, rs₀[i]? = some (.ref x) ∧ GroupIn prog w I₀ x) (hm4 : (st, os) ∈ I₀) (hst : StIn prog w os σ) (hslo : (st == sysModules) = false)
    (mF : (dF, oF) ∈ Z) (hstF : StIn prog w oF σ) (hFlo : (dF == sysModules) = false) (mO : (dO, oO) ∈ Z) (hstO : StIn prog w oO τ) (hOlo : (dO == sysModules) = false) (hτ : ∀ i, i < 4 → τ i = !σ i)
    (hw : Wf 3 3 P) (hp : PlanIn I₀ v P) (hb : ev σ P = b) (hk0 : 0 ≤ k₀) (hk : k₀ + 200000 < 900000) 
    (hK : KS prog w np pl tb I₀ R [(L' + 1 + 1 + 1 + 1 + 1 + 1, o6), (L' + 1 + 1 + 1 + 1 + 1, o5), (L' + 1 + 1 + 1 + 1, o4), (L' + 1 + 1 + 1, o3), (L' + 1 + 1, o2), (L' + 1, o1)] bs g' L' k₀ (k₀ + 40000) rs₀ s₀ (fun y => if y = Str.ofString "heard" then some (.ref lh) else if y = Str.ofString "other" then some (.ref dO) else if y = Str.ofString "is_so" then some (.bool b) else m0 y) Z s)
    (next : ∀  Z' s', (∀ q ∈ Z, q ∈ Z') → KS prog w np pl tb I₀ R [(L' + 1 + 1 + 1 + 1 + 1 + 1, o6), (L' + 1 + 1 + 1 + 1 + 1, o5), (L' + 1 + 1 + 1 + 1, o4), (L' + 1 + 1 + 1, o3), (L' + 1 + 1, o2), (L' + 1, o1)] bs g' L' k₀ (k₀ + 50000) rs₀ s₀ (fun y => if y = Str.ofString "heard" then some (.ref lh) else if y = Str.ofString "other" then some (.ref dO) else if y = Str.ofString "is_so" then some (.bool b) else m0 y) Z' s' → wpAny (model prog w) (({ handled := none, depth := dp, frames := some (env :: outer), guards := gd, units := un } : Around).deeper (envOfC (Str.ofString "_law_kept") (stScope keptSt) L' 429 (Value.ref 428))) (execs rest (envOfC (Str.ofString "_law_kept") (stScope keptSt) L' 429 (Value.ref 428))) Q E s') :
    wpAny (model prog w) (({ handled := none, depth := dp, frames := some (env :: outer), guards := gd, units := un } : Around).deeper (envOfC (Str.ofString "_law_kept") (stScope keptSt) L' 429 (Value.ref 428))) (execs (kS 6 :: rest) (envOfC (Str.ofString "_law_kept") (stScope keptSt) L' 429 (Value.ref 428))) Q E s := by
  have eS : stScope keptSt = stScope keptSt := rfl
  conv at eS => rhs; whnf
  have eK : kS 6 = kS 6 := rfl
  conv at eK => rhs; whnf
  simp only [eS] at next ⊢
  rw [eK]
  clear eS eK
  obtain ⟨k, tk, ot, rs, h, tks, rfl, F', N', hx, ok, ht, hpre, hrl, hk1, hk2⟩ := hK
  simp only [List.cons_append, List.nil_append] at N'
  have hl0 : ∀ d, (cstM d : Nat) = cstM d := fun _ => rfl
  have hbm := (ev_mirror σ τ hτ hw).trans hb
  cases b
  all_goals k_unmd
  · repeat' ((try k_unmd); (fail_if_success (with_reducible show wpAny _ _ (call (Value.ref 424) _) _ _ _)); (fail_if_success (with_reducible show wpAny _ _ (call (Value.ref 407) _) _ _ _)); (fail_if_success (with_reducible show wpAny _ _ (call (Value.ref 412) _) _ _ _)); (fail_if_success (with_reducible show wpAny _ _ (call (Value.ref 417) _) _ _ _)); first | (k_unfold; (try dsimp only)) | (k_end; wrow_close) | walk1 | (dsimp only; walk1) | (leave1; walk_say "STEP leave1"; try dsimp only) | fail "no step")
    k_dflt (refine' map_use (own := [_, _, _, _, _, _]) (I := I₀) (P := P) (hMir 3) ?hA ?hf ?hke ?hh ?hd ?hu ?B ?F ?X ?T ?S ?N ?ow ?ow' ?ok ?hI ?hw ?hp ?k0 ?k1 ?_; (case hA => exact rfl); (case hf => exact rfl); (case hke => exact rfl); (case hh => exact rfl); (case hd => ktr_room); (case hu => ktr_units); (case B => k_asm); (case F => k_asm); (case X => k_asm); (case T => k_asm); (case S => k_asm); (case N => k_asm); (case ow => tb_rel); (case ow' => tb_rel); (case ok => assumption); (case hI => exact fun q h => ok.sub q h); (case hw => exact hw); (case hp => exact hp); (case k0 => omega); (case k1 => omega))
    intro v1 P1 tl1 k1 h1 tk1 tl1' p1 e1 w41 w51 F1 N1 ab1 ok1
    simp only [List.cons_append, List.nil_append] at N1
    have w11 := Tab.mono (fun q h => mem_l (x := tl1) h) ht
    subst e1
    k_unmd
    repeat' ((try k_unmd); (fail_if_success (with_reducible show wpAny _ _ (call (Value.ref 424) _) _ _ _)); (fail_if_success (with_reducible show wpAny _ _ (call (Value.ref 407) _) _ _ _)); (fail_if_success (with_reducible show wpAny _ _ (call (Value.ref 412) _) _ _ _)); (fail_if_success (with_reducible show wpAny _ _ (call (Value.ref 417) _) _ _ _)); first | (k_unfold; (try dsimp only)) | (k_end; wrow_close) | walk1 | (dsimp only; walk1) | (leave1; walk_say "STEP leave1"; try dsimp only) | fail "no step")
    k_dflt (refine' truth_b (own := [_, _, _, _, _, _]) (P := _) (hTr 4 (by omega)) hbm ?hA ?hf ?hke ?hh ?hd ?hu ?B ?F ?X ?T ?S ?N ?ow ?ow' ?ok ?ht ?hl ?hpre hgr (mem_l (mem_l mO)) hstO hOlo ?hw ?hp ?k0 ?k1 ?_; (case hA => exact rfl); (case hf => exact rfl); (case hke => exact rfl); (case hh => exact rfl); (case hd => ktr_room); (case hu => ktr_units); (case B => k_asm); (case F => k_asm); (case X => k_asm); (case T => k_asm); (case S => k_asm); (case N => k_asm); (case ow => tb_rel); (case ow' => tb_rel); (case ok => assumption); (case ht => assumption); (case hl => omega); (case hpre => assumption); (case hw => exact Wf.mono (by omega) (Nat.le_refl _) (wf_mirror (by omega) hw)); (case hp => exact p1.mono fun q h => mem_l (mem_app_mono ok.sub q h)); (case k0 => omega); (case k1 => (have hcm : cstM 4 = 85 := rfl); omega))
    intro tl2 ot2 rs2 k2 h2 tk2 tl2' w12 w22 w32 w42 w52 F2 N2 ab2 ok2
    have hcm2 : cstM 4 = 85 := rfl
    rw [hcm2] at w52
    simp only [List.cons_append, List.nil_append] at N2
    k_unmd
    repeat' ((try k_unmd); (fail_if_success (with_reducible show wpAny _ _ (call (Value.ref 424) _) _ _ _)); (fail_if_success (with_reducible show wpAny _ _ (call (Value.ref 407) _) _ _ _)); (fail_if_success (with_reducible show wpAny _ _ (call (Value.ref 412) _) _ _ _)); (fail_if_success (with_reducible show wpAny _ _ (call (Value.ref 417) _) _ _ _)); first | (k_unfold; (try dsimp only)) | (k_end; wrow_close) | walk1 | (dsimp only; walk1) | (leave1; walk_say "STEP leave1"; try dsimp only) | fail "no step")
    have x1 := Ext.app hx hbs ab1 rfl rfl fun r hr => mem_l hr
    have x2 := Ext.app x1 hbs ab2 rfl rfl fun r hr => mem_l hr
    exact next (tl2 ++ (tl1 ++ Z)) _ (fun q h => mem_l (mem_l h)) ⟨k2, _, ot2, rs2, _, _, rfl, by k_asm, by k_asm, x2, ok2, w12, w22, by omega, by omega, by omega⟩
  · repeat' ((try k_unmd); (fail_if_success (with_reducible show wpAny _ _ (call (Value.ref 424) _) _ _ _)); (fail_if_success (with_reducible show wpAny _ _ (call (Value.ref 407) _) _ _ _)); (fail_if_success (with_reducible show wpAny _ _ (call (Value.ref 412) _) _ _ _)); (fail_if_success (with_reducible show wpAny _ _ (call (Value.ref 417) _) _ _ _)); first | (k_unfold; (try dsimp only)) | (k_end; wrow_close) | walk1 | (dsimp only; walk1) | (leave1; walk_say "STEP leave1"; try dsimp only) | fail "no step")
    k_dflt (refine' map_use (own := [_, _, _, _, _, _]) (I := I₀) (P := P) (hMir 3) ?hA ?hf ?hke ?hh ?hd ?hu ?B ?F ?X ?T ?S ?N ?ow ?ow' ?ok ?hI ?hw ?hp ?k0 ?k1 ?_; (case hA => exact rfl); (case hf => exact rfl); (case hke => exact rfl); (case hh => exact rfl); (case hd => ktr_room); (case hu => ktr_units); (case B => k_asm); (case F => k_asm); (case X => k_asm); (case T => k_asm); (case S => k_asm); (case N => k_asm); (case ow => tb_rel); (case ow' => tb_rel); (case ok => assumption); (case hI => exact fun q h => ok.sub q h); (case hw => exact hw); (case hp => exact hp); (case k0 => omega); (case k1 => omega))
    intro v1 P1 tl1 k1 h1 tk1 tl1' p1 e1 w41 w51 F1 N1 ab1 ok1
    simp only [List.cons_append, List.nil_append] at N1
    have w11 := Tab.mono (fun q h => mem_l (x := tl1) h) ht
    subst e1
    k_unmd
    repeat' ((try k_unmd); (fail_if_success (with_reducible show wpAny _ _ (call (Value.ref 424) _) _ _ _)); (fail_if_success (with_reducible show wpAny _ _ (call (Value.ref 407) _) _ _ _)); (fail_if_success (with_reducible show wpAny _ _ (call (Value.ref 412) _) _ _ _)); (fail_if_success (with_reducible show wpAny _ _ (call (Value.ref 417) _) _ _ _)); first | (k_unfold; (try dsimp only)) | (k_end; wrow_close) | walk1 | (dsimp only; walk1) | (leave1; walk_say "STEP leave1"; try dsimp only) | fail "no step")
    k_dflt (refine' truth_b (own := [_, _, _, _, _, _]) (P := _) (hTr 4 (by omega)) hbm ?hA ?hf ?hke ?hh ?hd ?hu ?B ?F ?X ?T ?S ?N ?ow ?ow' ?ok ?ht ?hl ?hpre hgr (mem_l (mem_l mO)) hstO hOlo ?hw ?hp ?k0 ?k1 ?_; (case hA => exact rfl); (case hf => exact rfl); (case hke => exact rfl); (case hh => exact rfl); (case hd => ktr_room); (case hu => ktr_units); (case B => k_asm); (case F => k_asm); (case X => k_asm); (case T => k_asm); (case S => k_asm); (case N => k_asm); (case ow => tb_rel); (case ow' => tb_rel); (case ok => assumption); (case ht => assumption); (case hl => omega); (case hpre => assumption); (case hw => exact Wf.mono (by omega) (Nat.le_refl _) (wf_mirror (by omega) hw)); (case hp => exact p1.mono fun q h => mem_l (mem_app_mono ok.sub q h)); (case k0 => omega); (case k1 => (have hcm : cstM 4 = 85 := rfl); omega))
    intro tl2 ot2 rs2 k2 h2 tk2 tl2' w12 w22 w32 w42 w52 F2 N2 ab2 ok2
    have hcm2 : cstM 4 = 85 := rfl
    rw [hcm2] at w52
    simp only [List.cons_append, List.nil_append] at N2
    k_unmd
    repeat' ((try k_unmd); (fail_if_success (with_reducible show wpAny _ _ (call (Value.ref 424) _) _ _ _)); (fail_if_success (with_reducible show wpAny _ _ (call (Value.ref 407) _) _ _ _)); (fail_if_success (with_reducible show wpAny _ _ (call (Value.ref 412) _) _ _ _)); (fail_if_success (with_reducible show wpAny _ _ (call (Value.ref 417) _) _ _ _)); first | (k_unfold; (try dsimp only)) | (k_end; wrow_close) | walk1 | (dsimp only; walk1) | (leave1; walk_say "STEP leave1"; try dsimp only) | fail "no step")
    have x1 := Ext.app hx hbs ab1 rfl rfl fun r hr => mem_l hr
    have x2 := Ext.app x1 hbs ab2 rfl rfl fun r hr => mem_l hr
    exact next (tl2 ++ (tl1 ++ Z)) _ (fun q h => mem_l (mem_l h)) ⟨k2, _, ot2, rs2, _, _, rfl, by k_asm, by k_asm, x2, ok2, w12, w22, by omega, by omega, by omega⟩
end
/-! ## part Ks8 -/
section
example : True := by (w_top off; trivial)
local macro_rules | `(tactic| walk_at "none") => `(tactic| fail)
local macro_rules | `(tactic| walk_at "exec Assign cons ListComp") => `(tactic| (k_here; k_dflt (refine Assign_ListComp_Tup (F₀ := by k_asm) (by rfl) (by with_unfolding_all rfl) (by with_unfolding_all rfl) (by decide) (by rfl) (by decide) (by rfl) (by rfl) (by rfl) ?_)))
theorem kept_s8 {prog : Program} {w : World} {p : Program} {loose : List Str} {mean : ExcName → Option Value} {mg mb : Str → Option Value} {np : Nat} {pl tb tf : Addr} {I₀ : LL}
    {sh gl : Addr} {base g' : Heap} {L' : Addr} {s s₀ : Shared} {Q : Flow → Shared → Prop} {E : Value → Shared → Prop} {env : Env} {outer : List Env} {dp un : Nat} {gd : Option (List Code)}
    {R bs Z : LL} {k₀ : Int} {rs₀ : List Value} {st dF dO lh : Addr} {os oF oO po to : Obj} {σ τ : Nat → Bool} {v : Value} {P : Pl} {o1 o2 o3 o4 o5 o6 : Obj} {m0 : Str → Option Value} {rest : List Stmt} {b : Bool} {nh : Nat}
    (hd : dp + 160 < recursionLimit) (hu : un + 240 < cLine) (B' : Below ({ handled := none, depth := dp, frames := some (env :: outer), guards := gd, units := un } : Around) base (env :: outer) g') (X' : (K w.params).In g') (T' : Top p loose mean mg mb g') (S' : g'.NoSeer)
    (hTr : ∀ d, d ≤ 19 → TruthSpec prog w p loose mean mg mb np pl tb tf I₀ sh gl d)
    (hDen : ∀ d, MapSpec prog w p loose mean mg mb np pl tb I₀ 407 (fun v => [v]) (fun a b => b = denied a) 3 (fun _ => 0) d)
    (hMir : ∀ d, MapSpec prog w p loose mean mg mb np pl tb I₀ 417 (fun v => [v]) (fun a b => b = mirror a) 3 (fun _ => 0) d)
    (hTur : ∀ d, MapSpec prog w p loose mean mg mb np pl tb I₀ 412 (fun v => [.ref tf, v]) (TRel d) 3 cstT d)
    (d1 : o1.data = .cell (some (.ref tf))) (d2 : o2.data = .cell (some (.ref sh))) (d3 : o3.data = .cell (some (.ref gl))) (d4 : o4.data = .cell (some v)) (d5 : o5.data = .cell (some (.ref st))) (d6 : o6.data = .cell (some (.ref dF)))
    (hbs : bs = (pl, po) :: (tb, to) :: R) (lp : @LT.lt Nat _ pl L') (lt : @LT.lt Nat _ tb L')
    (hgr : ∀ i : Nat, i < 4 → ∃ x, rs₀[i]? = some (.ref x) ∧ GroupIn prog w I₀ x) (hm4 : (st, os) ∈ I₀) (hst : StIn prog w os σ) (hslo : (st == sysModules) = false)
    (mF : (dF, oF) ∈ Z) (hstF : StIn prog w oF σ) (hFlo : (dF == sysModules) = false) (mO : (dO, oO) ∈ Z) (hstO : StIn prog w oO τ) (hOlo : (dO == sysModules) = false) (hτ : ∀ i, i < 4 → τ i = !σ i)
    (hw : Wf 3 3 P) (hp : PlanIn I₀ v P) (hb : ev σ P = b) (hk0 : 0 ≤ k₀) (hk : k₀ + 200000 < 900000) 
    (hK : KS prog w np pl tb I₀ R [(L' + 1 + 1 + 1 + 1 + 1 + 1, o6), (L' + 1 + 1 + 1 + 1 + 1, o5), (L' + 1 + 1 + 1 + 1, o4), (L' + 1 + 1 + 1, o3), (L' + 1 + 1, o2), (L' + 1, o1)] bs g' L' k₀ (k₀ + 50000) rs₀ s₀ (fun y => if y = Str.ofString "heard" then some (.ref lh) else if y = Str.ofString "other" then some (.ref dO) else if y = Str.ofString "is_so" then some (.bool b) else m0 y) Z s)
    (next : ∀ bl nb Z' s', (∀ q ∈ Z, q ∈ Z') → (bl, lstO [.bool false, .bool true] nb) ∈ Z' → KS prog w np pl tb I₀ R [(L' + 1 + 1 + 1 + 1 + 1 + 1, o6), (L' + 1 + 1 + 1 + 1 + 1, o5), (L' + 1 + 1 + 1 + 1, o4), (L' + 1 + 1 + 1, o3), (L' + 1 + 1, o2), (L' + 1, o1)] bs g' L' k₀ (k₀ + 60000) rs₀ s₀ (fun y => if y = Str.ofString "both" then some (.ref bl) else if y = Str.ofString "heard" then some (.ref lh) else if y = Str.ofString "other" then some (.ref dO) else if y = Str.ofString "is_so" then some (.bool b) else m0 y) Z' s' → wpAny (model prog w) (({ handled := none, depth := dp, frames := some (env :: outer), guards := gd, units := un } : Around).deeper (envOfC (Str.ofString "_law_kept") (stScope keptSt) L' 429 (Value.ref 428))) (execs rest (envOfC (Str.ofString "_law_kept") (stScope keptSt) L' 429 (Value.ref 428))) Q E s') :
    wpAny (model prog w) (({ handled := none, depth := dp, frames := some (env :: outer), guards := gd, units := un } : Around).deeper (envOfC (Str.ofString "_law_kept") (stScope keptSt) L' 429 (Value.ref 428))) (execs (kS 7 :: rest) (envOfC (Str.ofString "_law_kept") (stScope keptSt) L' 429 (Value.ref 428))) Q E s := by
  have eS : stScope keptSt = stScope keptSt := rfl
  conv at eS => rhs; whnf
  have eK : kS 7 = kS 7 := rfl
  conv at eK => rhs; whnf
  simp only [eS] at next ⊢
  rw [eK]
  clear eS eK
  obtain ⟨k, tk, ot, rs, h, tks, rfl, F', N', hx, ok, ht, hpre, hrl, hk1, hk2⟩ := hK
  simp only [List.cons_append, List.nil_append] at N'
  have hl0 : ∀ d, (cstM d : Nat) = cstM d := fun _ => rfl
  have fA := ev_and_not σ P
  have fO := ev_or_not σ P
  k_unmd
  repeat' ((try k_unmd); (fail_if_success (with_reducible show wpAny _ _ (call (Value.ref 424) _) _ _ _)); (fail_if_success (with_reducible show wpAny _ _ (call (Value.ref 407) _) _ _ _)); (fail_if_success (with_reducible show wpAny _ _ (call (Value.ref 412) _) _ _ _)); (fail_if_success (with_reducible show wpAny _ _ (call (Value.ref 417) _) _ _ _)); first | (k_unfold; (try dsimp only)) | (k_end; wrow_close) | walk1 | (dsimp only; walk1) | (leave1; walk_say "STEP leave1"; try dsimp only) | fail "no step")
  refine ⟨_, _, _, _, rfl, rfl, by k_asm, by k_asm, .head _, Nat.le_of_ble_eq_true rfl, fun g9 => ?_⟩
  try simp only [List.size_toArray, List.length_cons, List.length_nil, Nat.zero_add, Nat.reduceAdd]
  refine LCg.CompRest.succ ?_
  intro va10 I10 oI10 C10 oC10 D10 m10 hh10 tk10 E10 hv10 hC10 hx10 F10 N10 off10 ne10
  obtain rfl := Option.some.inj hv10
  try simp only [List.cons_append, List.nil_append] at N10
  have of10 := off10
  try simp only [LCg.Off3] at of10
  k_unmd
  repeat' ((try k_unmd); (fail_if_success (with_reducible show wpAny _ _ (call (Value.ref 424) _) _ _ _)); (fail_if_success (with_reducible show wpAny _ _ (call (Value.ref 407) _) _ _ _)); (fail_if_success (with_reducible show wpAny _ _ (call (Value.ref 412) _) _ _ _)); (fail_if_success (with_reducible show wpAny _ _ (call (Value.ref 417) _) _ _ _)); first | (k_unfold; (try dsimp only)) | (k_end; wrow_close) | walk1 | (dsimp only; walk1) | (leave1; walk_say "STEP leave1"; try dsimp only) | fail "no step")
  k_dflt (refine' truth_b (own := [_, _, _, _, _, _, _, _, _, _, _, _, _, _]) (P := _) (hTr 5 (by omega)) fA ?hA ?hf ?hke ?hh ?hd ?hu ?B ?F ?X ?T ?S ?N ?ow ?ow' ?ok ?ht ?hl ?hpre hgr (mem_l (ok.sub _ hm4)) hst hslo ?hw ?hp ?k0 ?k1 ?_; (case hA => exact rfl); (case hf => exact rfl); (case hke => exact rfl); (case hh => exact rfl); (case hd => ktr_room); (case hu => ktr_units); (case B => k_asm); (case F => k_asm); (case X => k_asm); (case T => k_asm); (case S => k_asm); (case N => k_asm); (case ow => tb_rel); (case ow' => tb_rel); (case ok => assumption); (case ht => assumption); (case hl => omega); (case hpre => assumption); (case hw => exact wf_both (by omega) (by decide) (Wf.mono (by omega) (Nat.le_refl _) hw)); (case hp => exact plan_both (wd := .and) (.head _) (.tail _ (.head _)) (hp.mono fun q h => mem_l (ok.sub q h)) (plan_not (.tail _ (.tail _ (.head _))) (.tail _ (.tail _ (.tail _ (.head _)))) (hp.mono fun q h => mem_l (ok.sub q h)))); (case k0 => omega); (case k1 => (have hcm : cstM 5 = 341 := rfl); omega))
  intro tl1 ot1 rs1 k1 h1 tk1 tl1' w11 w21 w31 w41 w51 F1 N1 ab1 ok1
  have hcm1 : cstM 5 = 341 := rfl
  rw [hcm1] at w51
  simp only [List.cons_append, List.nil_append] at N1
  k_unmd
  repeat' ((try k_unmd); (fail_if_success (with_reducible show wpAny _ _ (call (Value.ref 424) _) _ _ _)); (fail_if_success (with_reducible show wpAny _ _ (call (Value.ref 407) _) _ _ _)); (fail_if_success (with_reducible show wpAny _ _ (call (Value.ref 412) _) _ _ _)); (fail_if_success (with_reducible show wpAny _ _ (call (Value.ref 417) _) _ _ _)); first | (k_unfold; (try dsimp only)) | (k_end; wrow_close) | walk1 | (dsimp only; walk1) | (leave1; walk_say "STEP leave1"; try dsimp only) | fail "no step")
  refine ⟨_, _, _, rfl, by k_asm, drp (pre := [_, _, _, _]) N1, off3_own (own := [_, _, _, _, _, _, _]) (x := (pl, placeO k tk np)) (y := (tb, ot)) rfl rfl (fun q hq => ⟨Ne.symm (ab1 q hq (I10, oI10) (.tail _ (.tail _ (mem_r (.tail _ (.tail _ (.tail _ (.tail _ (.head _))))))))), Ne.symm (ab1 q hq (C10, oC10) (.tail _ (.tail _ (mem_r (.tail _ (.tail _ (.tail _ (.tail _ (.tail _ (.head _)))))))))), Ne.symm (ab1 q hq (D10, _) (.tail _ (.tail _ (mem_r (.tail _ (.tail _ (.tail _ (.tail _ (.tail _ (.tail _ (.head _)))))))))))⟩) off10, .head _, ?_⟩
  refine LCg.CompRest.succ ?_
  intro va20 I20 oI20 C20 oC20 D20 m20 hh20 tk20 E20 hv20 hC20 hx20 F20 N20 off20 ne20
  obtain rfl := Option.some.inj hv20
  try simp only [List.cons_append, List.nil_append] at N20
  have of20 := off20
  try simp only [LCg.Off3] at of20
  k_unmd
  repeat' ((try k_unmd); (fail_if_success (with_reducible show wpAny _ _ (call (Value.ref 424) _) _ _ _)); (fail_if_success (with_reducible show wpAny _ _ (call (Value.ref 407) _) _ _ _)); (fail_if_success (with_reducible show wpAny _ _ (call (Value.ref 412) _) _ _ _)); (fail_if_success (with_reducible show wpAny _ _ (call (Value.ref 417) _) _ _ _)); first | (k_unfold; (try dsimp only)) | (k_end; wrow_close) | walk1 | (dsimp only; walk1) | (leave1; walk_say "STEP leave1"; try dsimp only) | fail "no step")
  k_dflt (refine' truth_b (own := [_, _, _, _, _, _, _, _, _, _, _, _, _, _]) (P := _) (hTr 5 (by omega)) fO ?hA ?hf ?hke ?hh ?hd ?hu ?B ?F ?X ?T ?S ?N ?ow ?ow' ?ok ?ht ?hl ?hpre hgr (mem_l (ok1.sub _ hm4)) hst hslo ?hw ?hp ?k0 ?k1 ?_; (case hA => exact rfl); (case hf => exact rfl); (case hke => exact rfl); (case hh => exact rfl); (case hd => ktr_room); (case hu => ktr_units); (case B => k_asm); (case F => k_asm); (case X => k_asm); (case T => k_asm); (case S => k_asm); (case N => k_asm); (case ow => tb_rel); (case ow' => tb_rel); (case ok => assumption); (case ht => assumption); (case hl => omega); (case hpre => assumption); (case hw => exact wf_both (by omega) (by decide) (Wf.mono (by omega) (Nat.le_refl _) hw)); (case hp => exact plan_both (wd := .or) (.head _) (.tail _ (.head _)) (hp.mono fun q h => mem_l (ok1.sub q h)) (plan_not (.tail _ (.tail _ (.head _))) (.tail _ (.tail _ (.tail _ (.head _)))) (hp.mono fun q h => mem_l (ok1.sub q h)))); (case k0 => omega); (case k1 => (have hcm : cstM 5 = 341 := rfl); omega))
  intro tl2 ot2 rs2 k2 h2 tk2 tl2' w12 w22 w32 w42 w52 F2 N2 ab2 ok2
  have hcm2 : cstM 5 = 341 := rfl
  rw [hcm2] at w52
  simp only [List.cons_append, List.nil_append] at N2
  k_unmd
  repeat' ((try k_unmd); (fail_if_success (with_reducible show wpAny _ _ (call (Value.ref 424) _) _ _ _)); (fail_if_success (with_reducible show wpAny _ _ (call (Value.ref 407) _) _ _ _)); (fail_if_success (with_reducible show wpAny _ _ (call (Value.ref 412) _) _ _ _)); (fail_if_success (with_reducible show wpAny _ _ (call (Value.ref 417) _) _ _ _)); first | (k_unfold; (try dsimp only)) | (k_end; wrow_close) | walk1 | (dsimp only; walk1) | (leave1; walk_say "STEP leave1"; try dsimp only) | fail "no step")
  refine ⟨_, _, _, rfl, by k_asm, drp (pre := [_, _, _, _]) N2, off3_own (own := [_, _, _, _, _, _, _]) (x := (pl, placeO k1 tl1' np)) (y := (tb, ot1)) rfl rfl (fun q hq => ⟨Ne.symm (ab2 q hq (I20, oI20) (.tail _ (.tail _ (mem_r (.tail _ (.tail _ (.tail _ (.tail _ (.head _))))))))), Ne.symm (ab2 q hq (C20, oC20) (.tail _ (.tail _ (mem_r (.tail _ (.tail _ (.tail _ (.tail _ (.tail _ (.head _)))))))))), Ne.symm (ab2 q hq (D20, _) (.tail _ (.tail _ (mem_r (.tail _ (.tail _ (.tail _ (.tail _ (.tail _ (.tail _ (.head _)))))))))))⟩) off20, .head _, ?_⟩
  refine LCg.CompRest.zero ?_
  unfold LCg.FinA
  intro D9 h9 tk9 F9 N9 o9
  simp only [List.cons_append, List.nil_append] at N9
  k_unmd
  repeat' ((try k_unmd); (fail_if_success (with_reducible show wpAny _ _ (call (Value.ref 424) _) _ _ _)); (fail_if_success (with_reducible show wpAny _ _ (call (Value.ref 407) _) _ _ _)); (fail_if_success (with_reducible show wpAny _ _ (call (Value.ref 412) _) _ _ _)); (fail_if_success (with_reducible show wpAny _ _ (call (Value.ref 417) _) _ _ _)); first | (k_unfold; (try dsimp only)) | (k_end; wrow_close) | walk1 | (dsimp only; walk1) | (leave1; walk_say "STEP leave1"; try dsimp only) | fail "no step")
  have x1 := Ext.app hx hbs ab1 rfl rfl fun r hr => mem_l hr
  have x2 := Ext.app x1 hbs ab2 rfl rfl fun r hr => mem_l hr
  have om := off1_mem o9
  have lp9 : pl ≠ D9 := om (pl, _) (mem_l (x := [_, _, _, _, _, _, _]) (.head _))
  have lt9 : tb ≠ D9 := om (tb, _) (mem_l (x := [_, _, _, _, _, _, _]) (.tail _ (.head _)))
  have x4 := Ext.cons2 (o := lstO [.bool false, .bool true] 2) x2 hbs lp9 lt9 fun r hr => om r (mem_l (x := [_, _, _, _, _, _, _]) (.tail _ (.tail _ hr)))
  refine next D9 2 ((D9, lstO [.bool false, .bool true] 2) :: (tl2 ++ (tl1 ++ Z))) _ (fun q h => .tail _ (mem_l (mem_l h))) (.head _) ⟨k2, _, ot2, rs2, _, _, rfl, F9, mvh (pre := [_]) (cells := [_, _, _, _, _, _]) N9, x4, ?_, ?_, by assumption, by omega, by omega, by omega⟩
  · exact Ok.cons lp9.symm lt9.symm ok2
  · exact Tab.mono (fun q h => .tail _ h) w12
end
/-! ## part Ks9 -/
section
example : True := by (w_top off; trivial)
theorem kept_s9 {prog : Program} {w : World} {p : Program} {loose : List Str} {mean : ExcName → Option Value} {mg mb : Str → Option Value} {np : Nat} {pl tb tf : Addr} {I₀ : LL}
    {sh gl : Addr} {base g' : Heap} {L' : Addr} {s s₀ : Shared} {Q : Flow → Shared → Prop} {E : Value → Shared → Prop} {env : Env} {outer : List Env} {dp un : Nat} {gd : Option (List Code)}
    {R bs Z : LL} {k₀ : Int} {rs₀ : List Value} {st dF dO lh : Addr} {os oF oO po to : Obj} {σ τ : Nat → Bool} {v : Value} {P : Pl} {o1 o2 o3 o4 o5 o6 : Obj} {m0 : Str → Option Value} {rest : List Stmt} {b : Bool} {nh : Nat}
    (hd : dp + 160 < recursionLimit) (hu : un + 240 < cLine) (B' : Below ({ handled := none, depth := dp, frames := some (env :: outer), guards := gd, units := un } : Around) base (env :: outer) g') (X' : (K w.params).In g') (T' : Top p loose mean mg mb g') (S' : g'.NoSeer)
    (hTr : ∀ d, d ≤ 19 → TruthSpec prog w p loose mean mg mb np pl tb tf I₀ sh gl d)
    (hDen : ∀ d, MapSpec prog w p loose mean mg mb np pl tb I₀ 407 (fun v => [v]) (fun a b => b = denied a) 3 (fun _ => 0) d)
    (hMir : ∀ d, MapSpec prog w p loose mean mg mb np pl tb I₀ 417 (fun v => [v]) (fun a b => b = mirror a) 3 (fun _ => 0) d)
    (hTur : ∀ d, MapSpec prog w p loose mean mg mb np pl tb I₀ 412 (fun v => [.ref tf, v]) (TRel d) 3 cstT d)
    (d1 : o1.data = .cell (some (.ref tf))) (d2 : o2.data = .cell (some (.ref sh))) (d3 : o3.data = .cell (some (.ref gl))) (d4 : o4.data = .cell (some v)) (d5 : o5.data = .cell (some (.ref st))) (d6 : o6.data = .cell (some (.ref dF)))
    (hbs : bs = (pl, po) :: (tb, to) :: R) (lp : @LT.lt Nat _ pl L') (lt : @LT.lt Nat _ tb L')
    (hgr : ∀ i : Nat, i < 4 → ∃ x, rs₀[i]? = some (.ref x) ∧ GroupIn prog w I₀ x) (hm4 : (st, os) ∈ I₀) (hst : StIn prog w os σ) (hslo : (st == sysModules) = false)
    (mF : (dF, oF) ∈ Z) (hstF : StIn prog w oF σ) (hFlo : (dF == sysModules) = false) (mO : (dO, oO) ∈ Z) (hstO : StIn prog w oO τ) (hOlo : (dO == sysModules) = false) (hτ : ∀ i, i < 4 → τ i = !σ i)
    (hw : Wf 3 3 P) (hp : PlanIn I₀ v P) (hb : ev σ P = b) (hk0 : 0 ≤ k₀) (hk : k₀ + 200000 < 900000) {bl : Addr} {nb : Nat} (mB : (bl, lstO [.bool false, .bool true] nb) ∈ Z)
    (hK : KS prog w np pl tb I₀ R [(L' + 1 + 1 + 1 + 1 + 1 + 1, o6), (L' + 1 + 1 + 1 + 1 + 1, o5), (L' + 1 + 1 + 1 + 1, o4), (L' + 1 + 1 + 1, o3), (L' + 1 + 1, o2), (L' + 1, o1)] bs g' L' k₀ (k₀ + 60000) rs₀ s₀ (fun y => if y = Str.ofString "both" then some (.ref bl) else if y = Str.ofString "heard" then some (.ref lh) else if y = Str.ofString "other" then some (.ref dO) else if y = Str.ofString "is_so" then some (.bool b) else m0 y) Z s)
    (next : ∀ s', KS prog w np pl tb I₀ R [(L' + 1 + 1 + 1 + 1 + 1 + 1, o6), (L' + 1 + 1 + 1 + 1 + 1, o5), (L' + 1 + 1 + 1 + 1, o4), (L' + 1 + 1 + 1, o3), (L' + 1 + 1, o2), (L' + 1, o1)] bs g' L' k₀ (k₀ + 70000) rs₀ s₀ (fun y => if y = Str.ofString "both" then some (.ref bl) else if y = Str.ofString "heard" then some (.ref lh) else if y = Str.ofString "other" then some (.ref dO) else if y = Str.ofString "is_so" then some (.bool b) else m0 y) Z s' → Q (.ret (.bool true)) s') :
    wpAny (model prog w) (({ handled := none, depth := dp, frames := some (env :: outer), guards := gd, units := un } : Around).deeper (envOfC (Str.ofString "_law_kept") (stScope keptSt) L' 429 (Value.ref 428))) (execs (kS 8 :: rest) (envOfC (Str.ofString "_law_kept") (stScope keptSt) L' 429 (Value.ref 428))) Q E s := by
  have eS : stScope keptSt = stScope keptSt := rfl
  conv at eS => rhs; whnf
  have eK : kS 8 = kS 8 := rfl
  conv at eK => rhs; whnf
  simp only [eS] at ⊢
  rw [eK]
  clear eS eK
  obtain ⟨k, tk, ot, rs, h, tks, rfl, F', N', hx, ok, ht, hpre, hrl, hk1, hk2⟩ := hK
  simp only [List.cons_append, List.nil_append] at N'
  have hl0 : ∀ d, (cstM d : Nat) = cstM d := fun _ => rfl
  k_unmd
  repeat' ((try k_unmd); (fail_if_success (with_reducible show wpAny _ _ (call (Value.ref 424) _) _ _ _)); (fail_if_success (with_reducible show wpAny _ _ (call (Value.ref 407) _) _ _ _)); (fail_if_success (with_reducible show wpAny _ _ (call (Value.ref 412) _) _ _ _)); (fail_if_success (with_reducible show wpAny _ _ (call (Value.ref 417) _) _ _ _)); first | (k_unfold; (try dsimp only)) | (k_end; wrow_close) | walk1 | (dsimp only; walk1) | (leave1; walk_say "STEP leave1"; try dsimp only) | fail "no step")
  exact next _ ⟨k, _, ot, rs, _, _, rfl, Fw, drp (pre := [_]) Nw, hx, ok, ht, hpre, hrl, hk1, by omega⟩
end
end
/-! ## part Km -/
section
example : True := by (w_top off; trivial)
def KeptSpec (prog : Program) (w : World) (p : Program) (loose : List Str) (mean : ExcName → Option Value) (mg mb : Str → Option Value) (np : Nat) (pl tb tf : Addr) (I₀ : LL) (sh gl : Addr) : Prop :=
  ∀ (A A₀ : Around) (env : Env) (outer : List Env) (base h₀ : Heap) (L : Addr) (m : Str → Option Value) (s : Shared) (Q E : Value → Shared → Prop)
    (R : LL) (k : Int) (tk : Tok) (ot os : Obj) (st : Addr) (σ : Nat → Bool) (rs : List Value) (v : Value) (P : Pl) (skv : List (Int × Value)),
    A.frames = some (env :: outer) → env.frame = some L → env.scope.kind = .function → A.handled = none → A.depth + 160 < recursionLimit → A.units + 240 < cLine →
    Below A₀ base outer h₀ → Fr h₀ L s.heap m → (K w.params).In h₀ → Top p loose mean mg mb h₀ → h₀.NoSeer →
    News h₀ L s.heap ((pl, placeO k tk np) :: (tb, ot) :: R) → Ok pl tb I₀ R → Tab prog w R ot rs → (rs.length : Int) ≤ k + 4 → (∀ i : Nat, i < 4 → ∃ x, rs[i]? = some (.ref x) ∧ GroupIn prog w I₀ x) →
    (st, os) ∈ I₀ → os.IsDictOf (intKind prog w) skv → (∀ i : Nat, i < 4 → (valueAt skv ((i : Int) + 1)).getD (.bool true) = .bool (σ i)) → (st == sysModules) = false → Wf 3 3 P → PlanIn I₀ v P → 0 ≤ k → k + 200000 < 900000 →
    (∀ tl ot' rs' k' h' tks tk', Tab prog w (tl ++ R) ot' rs' → Pre rs rs' → (rs'.length : Int) ≤ k' + 4 → k ≤ k' → k' ≤ k + 100000 → Fr h₀ L h' m →
      News h₀ L h' ((pl, placeO k' tk' np) :: (tb, ot') :: (tl ++ R)) → Above tl ((pl, placeO k tk np) :: (tb, ot) :: R) → Q (.bool true) { s with heap := h', toks := tks }) →
    wpAny (model prog w) A (call (.ref 429) [.ref tf, .ref sh, .ref gl, v, .ref st]) Q E s
theorem kept_spec {prog : Program} {w : World} {p : Program} {loose : List Str} {mean : ExcName → Option Value} {mg mb : Str → Option Value} {np : Nat} {pl tb tf : Addr} {I₀ : LL} {sh gl : Addr}
    (hTr : ∀ d, d ≤ 19 → TruthSpec prog w p loose mean mg mb np pl tb tf I₀ sh gl d)
    (hDen : ∀ d, MapSpec prog w p loose mean mg mb np pl tb I₀ 407 (fun v => [v]) (fun a b => b = denied a) 3 (fun _ => 0) d)
    (hMir : ∀ d, MapSpec prog w p loose mean mg mb np pl tb I₀ 417 (fun v => [v]) (fun a b => b = mirror a) 3 (fun _ => 0) d)
    (hTur : ∀ d, MapSpec prog w p loose mean mg mb np pl tb I₀ 412 (fun v => [.ref tf, v]) (TRel d) 3 cstT d)
    {dsh tr : Addr} {t1 t2 : Tok} {ng : Nat} {r0 r1 r2 r3 g0 g1 g2 g3 : Addr} {a0 a1 a2 a3 b0 b1 b2 b3 c0 c1 c2 c3 e0 e1 e2 e3 : Tok} (std : Std w I₀ sh dsh tb tr gl t1 t2 [.ref r0, .ref r1, .ref r2, .ref r3] ng) (G0 : (r0, instObj 254 g0) ∈ I₀) (D0 : (g0, dictOf [{ hash := PyData.keyHash w.params (Str.ofString "number"), key := .str (Str.ofString "number") a0, val := .int 1 b0 }, { hash := PyData.keyHash w.params (Str.ofString "generation"), key := .str (Str.ofString "generation") c0, val := .int 0 e0 }] 2) ∈ I₀) (G1 : (r1, instObj 254 g1) ∈ I₀) (D1 : (g1, dictOf [{ hash := PyData.keyHash w.params (Str.ofString "number"), key := .str (Str.ofString "number") a1, val := .int 2 b1 }, { hash := PyData.keyHash w.params (Str.ofString "generation"), key := .str (Str.ofString "generation") c1, val := .int 0 e1 }] 2) ∈ I₀) (G2 : (r2, instObj 254 g2) ∈ I₀) (D2 : (g2, dictOf [{ hash := PyData.keyHash w.params (Str.ofString "number"), key := .str (Str.ofString "number") a2, val := .int 3 b2 }, { hash := PyData.keyHash w.params (Str.ofString "generation"), key := .str (Str.ofString "generation") c2, val := .int 0 e2 }] 2) ∈ I₀) (G3 : (r3, instObj 254 g3) ∈ I₀) (D3 : (g3, dictOf [{ hash := PyData.keyHash w.params (Str.ofString "number"), key := .str (Str.ofString "number") a3, val := .int 4 b3 }, { hash := PyData.keyHash w.params (Str.ofString "generation"), key := .str (Str.ofString "generation") c3, val := .int 0 e3 }] 2) ∈ I₀)  :
    KeptSpec prog w p loose mean mg mb np pl tb tf I₀ sh gl := by
  intro A A₀ env outer base h₀ L m s Q E R k tk ot os st σ rs v P skv hA hf hke hh hd hu B F X T S N ok ht hrl hgr hm4 hsk hq hslo hw hp hk0 hk ret
  have hst : StIn prog w os σ := ⟨skv, hsk, hq⟩
  obtain ⟨hd', dp, fr, gd, un⟩ := A
  dsimp only at hA hh hd hu
  subst hA hh
  refine wpAny_call ?_
  k_dflt (refine' code_defC B F X N T rfl hf hke ?k6 ?k7 ?k8 ?k9 ?kB ?kD ?_ ?c2 ?c3 ?c4; (case k6 => k_is); (case k7 => k_is); (case k8 => (simp only [recursionLimit] at *; omega)); (case k9 => first | exact BindsTo.of_eq rfl | exact binds_K (by k_in) rfl (by k_is) rfl rfl rfl); (case kB => exact rfl); (case kD => decide +kernel); (case c2 => exact rfl); (case c3 => exact rfl); (case c4 => exact rfl))
  k_dflt (intro g' L' h' tk' cells' FG' F' N' Y' B' X' T' l1; (have l0 := l1); (try k_lt l1); k_cells Y'; (try simp only [List.cons_append, List.nil_append] at N'); (try dsimp only))
  try (have S' := S.keeps FG'.keep; clear S)
  clear N F X T B
  rename_i qo1 qo2 qo3 qo4 qo5 qo6 qd1 qd2 qd3 qd4 qd5 qd6
  k_unmd
  k_fold
  have lp := l0 (pl, _) (.head _)
  have lt := l0 (tb, _) (.tail _ (.head _))
  have hz6 : ∀ q ∈ R, q.1 ≠ L' + 1 + 1 + 1 + 1 + 1 + 1 := fun q hq => Nat.ne_of_lt (Nat.lt_trans (l0 q (.tail _ (.tail _ hq))) (by omega))
  have hK : KS prog w np pl tb I₀ R [(L' + 1 + 1 + 1 + 1 + 1 + 1, qo1), (L' + 1 + 1 + 1 + 1 + 1, qo2), (L' + 1 + 1 + 1 + 1, qo3), (L' + 1 + 1 + 1, qo4), (L' + 1 + 1, qo5), (L' + 1, qo6)] ((pl, placeO k tk np) :: (tb, ot) :: R) g' L' k (k + 0) rs s _ R { s with heap := h', toks := tk' } :=
    ⟨k, tk, ot, rs, h', tk', rfl, F', N', ⟨[], rfl, .nil⟩, ok, ht, Pre.refl _, hrl, Int.le_refl _, by omega⟩
  k_dflt (refine kept_s1 (dF := st) (dO := st) (lh := st) (oF := os) (oO := os) (τ := σ) (nh := 0) hd hu B' X' T' S' hTr hDen hMir hTur qd6 qd5 qd4 qd3 qd2 rfl lp lt hgr hm4 hst hslo hw hp rfl hk0 hk hz6 hK fun Z1 s1 y1 hz1 hK1 => ?_)
  k_dflt (refine kept_s2 (dF := st) (dO := st) (lh := st) (oF := os) (oO := os) (τ := σ) (nh := 0) hd hu B' X' T' S' hTr hDen hMir hTur qd6 qd5 qd4 qd3 qd2 rfl lp lt hgr hm4 hst hslo hw hp rfl hk0 hk qd1 hz1 std G0 D0 G1 D1 G2 D2 G3 D3 hsk (hq 0 (by omega)) (hq 1 (by omega)) (hq 2 (by omega)) (hq 3 (by omega)) hK1 fun dF oF q6 Z2 s2 y2 mF hdF hFlo qd hK2 => ?_)
  k_dflt (refine kept_s3 (dO := st) (lh := st) (oO := os) (τ := σ) (nh := 0) hd hu B' X' T' S' hTr hDen hMir hTur qd6 qd5 qd4 qd3 qd2 qd rfl lp lt hgr hm4 hst hslo mF (stIn4 hdF) hFlo hw hp rfl hk0 hk hdF hK2 fun dO oO Z3 s3 y3 mO hstO hOlo hK3 => ?_)
  have mF3 := y3 _ mF
  k_dflt (refine kept_s4 (lh := st) (nh := 0) hd hu B' X' T' S' hTr hDen hMir hTur qd6 qd5 qd4 qd3 qd2 qd rfl lp lt hgr hm4 hst hslo mF3 (stIn4 hdF) hFlo mO hstO hOlo (fun _ _ => rfl) hw hp rfl hk0 hk hK3 fun lh nh Z4 s4 y4 mH hK4 => ?_)
  have mF4 := y4 _ mF3
  have mO4 := y4 _ mO
  k_dflt (refine kept_s5 hd hu B' X' T' S' hTr hDen hMir hTur qd6 qd5 qd4 qd3 qd2 qd rfl lp lt hgr hm4 hst hslo mF4 (stIn4 hdF) hFlo mO4 hstO hOlo (fun _ _ => rfl) hw hp rfl hk0 hk mH hK4 fun Z5 s5 y5 hK5 => ?_)
  have mF5 := y5 _ mF4
  have mO5 := y5 _ mO4
  k_dflt (refine kept_s6 (nh := 0) hd hu B' X' T' S' hTr hDen hMir hTur qd6 qd5 qd4 qd3 qd2 qd rfl lp lt hgr hm4 hst hslo mF5 (stIn4 hdF) hFlo mO5 hstO hOlo (fun _ _ => rfl) hw hp rfl hk0 hk hK5 fun Z6 s6 y6 hK6 => ?_)
  have mF6 := y6 _ mF5
  have mO6 := y6 _ mO5
  k_dflt (refine kept_s7 (nh := 0) hd hu B' X' T' S' hTr hDen hMir hTur qd6 qd5 qd4 qd3 qd2 qd rfl lp lt hgr hm4 hst hslo mF6 (stIn4 hdF) hFlo mO6 hstO hOlo (fun _ _ => rfl) hw hp rfl hk0 hk hK6 fun Z7 s7 y7 hK7 => ?_)
  have mF7 := y7 _ mF6
  have mO7 := y7 _ mO6
  k_dflt (refine kept_s8 (nh := 0) hd hu B' X' T' S' hTr hDen hMir hTur qd6 qd5 qd4 qd3 qd2 qd rfl lp lt hgr hm4 hst hslo mF7 (stIn4 hdF) hFlo mO7 hstO hOlo (fun _ _ => rfl) hw hp rfl hk0 hk hK7 fun bl nb Z8 s8 y8 mB hK8 => ?_)
  have mF8 := y8 _ mF7
  have mO8 := y8 _ mO7
  k_dflt (refine kept_s9 (nh := 0) hd hu B' X' T' S' hTr hDen hMir hTur qd6 qd5 qd4 qd3 qd2 qd rfl lp lt hgr hm4 hst hslo mF8 (stIn4 hdF) hFlo mO8 hstO hOlo (fun _ _ => rfl) hw hp rfl hk0 hk mB hK8 fun s9 hK9 => ?_)
  obtain ⟨k9, tk9, ot9, rs9, h9, tks9, rfl, F9, N9, ⟨tl, rfl, hab⟩, ok9, ht9, hpre9, hrl9, hk91, hk92⟩ := hK9
  simp only [List.cons_append, List.nil_append] at N9
  k_unmd
  repeat' ((try k_unmd); (fail_if_success (with_reducible show LeaveK h₀ L m _ _ _ _)); (fail_if_success (with_reducible show wpAny _ _ (call (Value.ref 424) _) _ _ _)); first | (k_unfold; (try dsimp only)) | (k_end; wrow_close) | walk1 | (dsimp only; walk1) | (leave1; walk_say "STEP leave1"; try dsimp only) | fail "no step")
  k_dflt (refine' leaveK_ ?k1 ?k2 ?_; (case k1 => k_asm); (case k2 => k_asm))
  intro kF kN
  exact ret tl ot9 rs9 k9 _ _ tk9 ht9 hpre9 hrl9 hk91 (by omega) kF (drp (pre := [_, _, _, _, _, _]) kN) hab
end
/-! ## part Base11 -/
section
example : True := by (w_top off; trivial)
local macro_rules | `(tactic| walk_at "none") => `(tactic| fail)
def lawSt : Stmt := PySem.Challenge.pw_og0163_01.main.body.getD 33 (.Pass default)
def lS (i : Nat) : Stmt := (stBody lawSt).getD i (.Pass default)
theorem TakeSpec.up {prog : Program} {w : World} {p : Program} {loose : List Str} {mean : ExcName → Option Value} {mg mb : Str → Option Value} {np : Nat} {pl tf : Addr} {I J : LL}
    (x : TakeSpec prog w p loose mean mg mb np pl tf I) (h : ∀ q ∈ I, q ∈ J) : TakeSpec prog w p loose mean mg mb np pl tf J :=
  fun A A₀ env outer base h₀ L m s Q E W k tk ltk lim a b c d e f g F X T S N hn hi => x A A₀ env outer base h₀ L m s Q E W k tk ltk lim a b c d e f g F X T S N hn fun q hq => hi q (h q hq)
theorem FnIn.up {I J : LL} {tf : Addr} (x : FnIn I tf) (h : ∀ q ∈ I, q ∈ J) : FnIn J tf :=
  let ⟨oc, od, fd, sl, hm⟩ := x; ⟨oc, od, fd, sl, h _ hm⟩
theorem Ok.self {pl tb : Addr} {I R : LL} (x : Ok pl tb I R) : Ok pl tb R R := ⟨fun _ h => h, x.np, x.nt, x.ne⟩
/-- the state between the law's statements -/
def LS (prog : Program) (w : World) (np : Nat) (pl tb : Addr) (h₀ : Heap) (L : Addr) (o1 : Obj) (kmax : Int) (rs₀ : List Value) (s₀ : Shared) (mf : (Str → Option Value) → Str → Option Value) (Z : LL) (s : Shared) : Prop :=
  ∃ k tk ot rs h tks m0, s = { s₀ with heap := h, toks := tks } ∧ Fr h₀ L h (mf m0) ∧ News h₀ L h ((L + 1, o1) :: (pl, placeO k tk np) :: (tb, ot) :: Z) ∧ Ok pl tb Z Z ∧ Tab prog w Z ot rs ∧ Pre rs₀ rs ∧
    (rs.length : Int) ≤ k + 4 ∧ 0 ≤ k ∧ k ≤ kmax
theorem ghost_seer {h₁ : Heap} {tabs : List (Addr × Addr)} (hT : TabsAt tabs h₁) (x : h₁.NoSeer) : (ghostOf h₁ tabs).NoSeer where
  statics := let ⟨mc, a, r⟩ := x.statics; ⟨mc, ghost_ns hT a, r⟩
  mods := let ⟨mc, a, r⟩ := x.mods; ⟨mc, ghost_ns hT a, r⟩
  imp := let ⟨mc, a, r⟩ := x.imp; ⟨mc, ghost_ns hT a, r⟩
  main := let ⟨mg, bm, ob, a, b, c, d, e⟩ := x.main; ⟨mg, bm, ob, ghost_ns hT a, b, ghost_get hT c (fun q => by rw [q] at d; cases d), d, e⟩
section
variable {prog : Program} {w : World} {p : Program} {loose : List Str} {mean : ExcName → Option Value} {mg mb : Str → Option Value} {np : Nat} {pl tb tf : Addr} {I₀ : LL}
  {A A₀ : Around} {env : Env} {outer : List Env} {base h₀ : Heap} {L : Addr} {m : Str → Option Value} {s : Shared} {Q E : Value → Shared → Prop}
theorem add_use2 {sh dsh tr : Addr} {t1 t2 : Tok} {own R RT : LL} {po : Obj} {ot : Obj} {rs : List Value} {v : Value}
    (m1 : (sh, instObj 363 dsh) ∈ R) (m2 : (dsh, dictOf [{ hash := PyData.keyHash w.params (Str.ofString "table"), key := .str (Str.ofString "table") t1, val := .ref tb },
      { hash := PyData.keyHash w.params (Str.ofString "trailer"), key := .str (Str.ofString "trailer") t2, val := .ref tr }] 2) ∈ R) (lo : (tb == sysModules) = false)
    (hA : A.frames = some (env :: outer)) (hf : env.frame = some L) (hke : env.scope.kind = .function) (hh : A.handled = none) (hd : A.depth + 60 < recursionLimit) (hu : A.units + 60 < cLine)
    (B : Below A₀ base outer h₀) (F : Fr h₀ L s.heap m) (X : (K w.params).In h₀) (T : Top p loose mean mg mb h₀)
    (N : News h₀ L s.heap (own ++ (pl, po) :: (tb, ot) :: R)) (hown' : ∀ q ∈ own, q.1 ≠ tb) (ok : Ok pl tb I₀ R) (ht : Tab prog w RT ot rs) (hl : rs.length < 1000000)
    (ret : ∀ a' tl ot' h' tks, RefIn w tl (.ref a') ((rs.length : Nat) + 1) → Tab prog w (tl ++ RT) ot' (rs ++ [v]) → Fr h₀ L h' m →
      News h₀ L h' (own ++ (pl, po) :: (tb, ot') :: (tl ++ R)) → Above tl ((pl, po) :: (tb, ot) :: (own ++ R)) → Ok pl tb I₀ (tl ++ R) → Q (.ref a') { s with heap := h', toks := tks }) :
    wpAny (model prog w) A (call (.ref 334) [.ref sh, v]) Q E s := by
  obtain ⟨kvs, h1, h2, h3, h4⟩ := ht
  refine add_core (W := own ++ (pl, po) :: R) (len := rs.length) (kvs := kvs) hA hf hke hh hd hu B F X T (front_tb N) (List.mem_append_right _ (.tail _ m1)) (List.mem_append_right _ (.tail _ m2)) h1 lo ?_ h2 h3 hl ?_
  · intro q hq
    rcases List.mem_append.mp hq with hq | hq
    · exact hown' q hq
    · rcases List.mem_cons.mp hq with rfl | hq
      · exact ok.ne.symm
      · exact ok.nt q hq
  · intro a' tup t n ot' h' tks tl hd' hr hm F' N' ab
    have ab' : Above tl ((pl, po) :: (tb, ot) :: (own ++ R)) := ab.sub fun r hr => by
      rcases List.mem_cons.mp hr with rfl | hr
      · exact ⟨_, .tail _ (List.mem_append_right _ (.head _)), rfl⟩
      · rcases List.mem_cons.mp hr with rfl | hr
        · exact ⟨_, .head _, rfl⟩
        · rcases List.mem_append.mp hr with hr | hr
          · exact ⟨r, .tail _ (List.mem_append_left _ hr), rfl⟩
          · exact ⟨r, .tail _ (List.mem_append_right _ (.tail _ hr)), rfl⟩
    exact ret a' tl ot' h' tks hr (Tab.snoc (R := RT) (n := n) hd' rfl h2 h3 h4 (fun q h => List.mem_append_right _ h) (List.mem_append_left _ hm)) F' (back_tb N') ab' (ok_of_above ok ab')
end
open LCg in
theorem grp_end {prog : Program} {w : World} {h₀ h' : Heap} {L It Ct Dt L1 pl tb x d g a' : Addr} {oI oC o1 po po' ot' ot9 og : Obj} {ys : List Value} {tl9 Y Z : LL} {rs : List Value} {u7 u8 : Tok} {i : Nat}
    (N : News h₀ L h' ((x, instObj 183 d) :: (d, dictOf [{ hash := PyData.keyHash w.params (Str.ofString "text"), key := .str (Str.ofString "text") u7, val := .str (Str.ofString "OCG") u8 }] 1) :: (g, og) :: (It, oI) :: (Ct, oC) :: (Dt, lst ys) :: (L1, o1) :: (pl, po) :: (tb, ot9) :: (tl9 ++ Y)))
    (hd : og.IsDictOf (strKind prog w) [(Str.ofString "Type", .ref x)]) (lo' : (g == sysModules) = false) (off : Off3 It Ct Dt ((L1, o1) :: (pl, po') :: (tb, ot') :: Y))
    (ab : Above tl9 ((pl, po') :: (tb, ot') :: ([(x, instObj 183 d), (d, dictOf [{ hash := PyData.keyHash w.params (Str.ofString "text"), key := .str (Str.ofString "text") u7, val := .str (Str.ofString "OCG") u8 }] 1), (g, og), (It, oI), (Ct, oC), (Dt, lst ys), (L1, o1)] ++ Y)))
    (ok9 : Ok pl tb Y (tl9 ++ Y)) (r9 : RefIn w tl9 (.ref a') ((rs.length : Nat) + 1)) (t9 : Tab prog w (tl9 ++ Y) ot9 (rs ++ [.ref g])) (hZY : ∀ q ∈ Z, q ∈ Y) (hrs : rs.length = i) (hys : ys.length = i)
    (hrf : ∀ (j : Nat) v, ys[j]? = some v → RefIn w Y v ((j : Int) + 1)) (hgr : ∀ j : Nat, j < i → ∃ x, rs[j]? = some (.ref x) ∧ GroupIn prog w Y x)
    (bg : @LT.lt Nat _ It g ∧ @LT.lt Nat _ Ct g ∧ @LT.lt Nat _ Dt g ∧ @LT.lt Nat _ pl g ∧ @LT.lt Nat _ tb g) (bx : @LT.lt Nat _ It x ∧ @LT.lt Nat _ Ct x ∧ @LT.lt Nat _ Dt x ∧ @LT.lt Nat _ pl x ∧ @LT.lt Nat _ tb x)
    (bd : @LT.lt Nat _ It d ∧ @LT.lt Nat _ Ct d ∧ @LT.lt Nat _ Dt d ∧ @LT.lt Nat _ pl d ∧ @LT.lt Nat _ tb d) :
    ∃ Y' : LL, News h₀ L h' ((It, oI) :: (Ct, oC) :: (Dt, lst ys) :: ((L1, o1) :: (pl, po) :: (tb, ot9) :: Y')) ∧ Off3 It Ct Dt ((L1, o1) :: (pl, po) :: (tb, ot9) :: Y') ∧ (∀ q ∈ Z, q ∈ Y') ∧ Ok pl tb Y' Y' ∧ Tab prog w Y' ot9 (rs ++ [.ref g]) ∧
      (rs ++ [Value.ref g]).length = i + 1 ∧ (ys ++ [Value.ref a']).length = i + 1 ∧ (∀ (j : Nat) v, (ys ++ [Value.ref a'])[j]? = some v → RefIn w Y' v ((j : Int) + 1)) ∧ (∀ j : Nat, j < i + 1 → ∃ x, (rs ++ [Value.ref g])[j]? = some (.ref x) ∧ GroupIn prog w Y' x) := by
  have up : ∀ q ∈ tl9 ++ Y, q ∈ (g, og) :: (x, instObj 183 d) :: (d, dictOf [{ hash := PyData.keyHash w.params (Str.ofString "text"), key := .str (Str.ofString "text") u7, val := .str (Str.ofString "OCG") u8 }] 1) :: (tl9 ++ Y) := fun q h => .tail _ (.tail _ (.tail _ h))
  have offm := off.mem
  refine ⟨(g, og) :: (x, instObj 183 d) :: (d, dictOf [{ hash := PyData.keyHash w.params (Str.ofString "text"), key := .str (Str.ofString "text") u7, val := .str (Str.ofString "OCG") u8 }] 1) :: (tl9 ++ Y), ?_, ?_, fun q h => up q (mem_l (hZY q h)), ?_, ?_, by simp [hrs], by simp [hys], ?_, ?_⟩
  · intro q hq
    refine N q ?_
    simp only [List.mem_cons] at hq ⊢
    rcases hq with h | h | h | h | h | h | h | h | h | h <;> simp [h]
  · refine Off3.of fun p hp => ?_
    rcases List.mem_cons.mp hp with rfl | hp
    · exact offm (L1, o1) (.head _)
    rcases List.mem_cons.mp hp with rfl | hp
    · exact offm (pl, po') (.tail _ (.head _))
    rcases List.mem_cons.mp hp with rfl | hp
    · exact offm (tb, ot') (.tail _ (.tail _ (.head _)))
    rcases List.mem_cons.mp hp with rfl | hp
    · exact ⟨Nat.ne_of_gt bg.1, Nat.ne_of_gt bg.2.1, Nat.ne_of_gt bg.2.2.1⟩
    rcases List.mem_cons.mp hp with rfl | hp
    · exact ⟨Nat.ne_of_gt bx.1, Nat.ne_of_gt bx.2.1, Nat.ne_of_gt bx.2.2.1⟩
    rcases List.mem_cons.mp hp with rfl | hp
    · exact ⟨Nat.ne_of_gt bd.1, Nat.ne_of_gt bd.2.1, Nat.ne_of_gt bd.2.2.1⟩
    rcases List.mem_append.mp hp with hp | hp
    · exact ⟨Ne.symm (ab p hp (It, oI) (by simp)), Ne.symm (ab p hp (Ct, oC) (by simp)), Ne.symm (ab p hp (Dt, lst ys) (by simp))⟩
    · exact offm p (.tail _ (.tail _ (.tail _ hp)))
  · exact (Ok.cons (Nat.ne_of_gt bg.2.2.2.1) (Nat.ne_of_gt bg.2.2.2.2) (Ok.cons (Nat.ne_of_gt bx.2.2.2.1) (Nat.ne_of_gt bx.2.2.2.2) (Ok.cons (Nat.ne_of_gt bd.2.2.2.1) (Nat.ne_of_gt bd.2.2.2.2) ok9))).self
  · exact Tab.mono up t9
  · intro j v hv
    rcases Nat.lt_or_ge j ys.length with hj | hj
    · rw [List.getElem?_append_left hj] at hv
      exact (hrf j v hv).mono fun q h => up q (mem_l h)
    · rw [List.getElem?_append_right hj] at hv
      have hj' : j - ys.length = 0 := by
        rcases Nat.eq_zero_or_pos (j - ys.length) with h | h
        · exact h
        · rw [List.getElem?_eq_none (by simp only [List.length_cons, List.length_nil]; omega)] at hv; exact nomatch hv
      rw [hj'] at hv
      simp only [List.getElem?_cons_zero, Option.some.injEq] at hv
      subst hv
      have e : j = rs.length := by omega
      rw [e]
      exact r9.mono fun q h => up q (mem_r h)
  · intro j hj
    rcases Nat.lt_or_ge j i with h | h
    · obtain ⟨y, y1, y2⟩ := hgr j h
      exact ⟨y, by rw [List.getElem?_append_left (by omega)]; exact y1, y2.mono fun q h => up q (mem_l h)⟩
    · have e : j = rs.length := by omega
      refine ⟨g, by rw [e]; simp, x, d, og, u7, u8, .head _, hd, lo', .tail _ (.head _), .tail _ (.tail _ (.head _))⟩
end
/-! ## part Ll2 -/
section
example : True := by (w_top off; trivial)
local macro_rules | `(tactic| walk_at "none") => `(tactic| fail)
local macro_rules | `(tactic| walk_at "exec Assign cons ListComp") => `(tactic| (k_here; k_dflt (refine LCg.Assign_ListComp_U (F₀ := by k_asm) (by rfl) (by with_unfolding_all rfl) (by with_unfolding_all rfl) (by decide) (by rfl) (by decide) (by rfl) (by rfl) (by rfl) ?_)))
theorem law_l2 {prog : Program} {w : World} {p : Program} {loose : List Str} {mean : ExcName → Option Value} {mg mb : Str → Option Value} {np : Nat} {pl tb tf : Addr}
    {sh dsh tr fa  : Addr} {t1 t2 : Tok} {cd : Value} {base h₀ : Heap} {L : Addr} {s s₀ : Shared} {Q : Flow → Shared → Prop} {E : Value → Shared → Prop} {outer : List Env} {dp un : Nat} {gd : Option (List Code)}
    {Z : LL} {rs₀ : List Value} {o1 : Obj} {rest : List Stmt}
    (hd : dp + 170 < recursionLimit) (hu : un + 270 < cLine) (B' : Below ({ handled := none, depth := dp, frames := some outer, guards := gd, units := un } : Around) base outer h₀) (X' : (K w.params).In h₀) (T' : Top p loose mean mg mb h₀) (S' : h₀.NoSeer)
    (hTake : TakeSpec prog w p loose mean mg mb np pl tf Z) (hFn : FnIn Z tf)
    (m1 : (sh, instObj 363 dsh) ∈ Z) (m2 : (dsh, dictOf [{ hash := PyData.keyHash w.params (Str.ofString "table"), key := .str (Str.ofString "table") t1, val := .ref tb }, { hash := PyData.keyHash w.params (Str.ofString "trailer"), key := .str (Str.ofString "trailer") t2, val := .ref tr }] 2) ∈ Z)
    (lo : (tb == sysModules) = false) (d1 : o1.data = .cell (some (.ref sh))) (lp : @LT.lt Nat _ (L + 1) pl) (lt : @LT.lt Nat _ (L + 1) tb) 
    (hK : ∃ tk ot h tks m0, s = { s₀ with heap := h, toks := tks } ∧ Fr h₀ L h ((fun (m0 : Str → Option Value) (y : Str) => if y = Str.ofString "take" then some (.ref tf) else m0 y) m0) ∧ News h₀ L h ((L + 1, o1) :: (pl, placeO 0 tk np) :: (tb, ot) :: Z) ∧ Ok pl tb Z Z ∧ Tab prog w Z ot [])
    (next : ∀ gl ng gvs rs' Z' s', (∀ q ∈ Z, q ∈ Z') → (gl, lstO gvs ng) ∈ Z' → gvs.length = 4 → (∀ (i : Nat) v, gvs[i]? = some v → RefIn w Z' v ((i : Int) + 1)) → (∀ i : Nat, i < 4 → ∃ x, rs'[i]? = some (.ref x) ∧ GroupIn prog w Z' x) → LS prog w np pl tb h₀ L o1 50000 rs' s₀ (fun (m0 : Str → Option Value) (y : Str) => if y = Str.ofString "groups" then some (.ref gl) else if y = Str.ofString "take" then some (.ref tf) else m0 y) Z' s' → wpAny (model prog w) (({ handled := none, depth := dp, frames := some outer, guards := gd, units := un } : Around).deeper (envOfC (Str.ofString "law") (stScope lawSt) L fa cd)) (execs rest (envOfC (Str.ofString "law") (stScope lawSt) L fa cd)) Q E s') :
    wpAny (model prog w) (({ handled := none, depth := dp, frames := some outer, guards := gd, units := un } : Around).deeper (envOfC (Str.ofString "law") (stScope lawSt) L fa cd)) (execs (lS 2 :: rest) (envOfC (Str.ofString "law") (stScope lawSt) L fa cd)) Q E s := by
  have eS : stScope lawSt = stScope lawSt := rfl
  conv at eS => rhs; whnf
  have eK : lS 2 = lS 2 := rfl
  conv at eK => rhs; whnf
  simp only [eS] at next ⊢
  rw [eK]
  clear eS eK
  obtain ⟨tk, ot, h, tks, m0, rfl, F', N', ok, ht⟩ := hK
  try dsimp only at F'
  k_unmd
  repeat' ((try k_unmd); (fail_if_success (with_reducible show wpAny _ _ (call (Value.ref 424) _) _ _ _)); (fail_if_success (with_reducible show wpAny _ _ (call (Value.ref 334) _) _ _ _)); (fail_if_success (with_reducible show wpAny _ _ (call (Value.ref 397) _) _ _ _)); (fail_if_success (with_reducible show wpAny _ _ (call (Value.ref 429) _) _ _ _)); (fail_if_success (with_reducible show Exists _)); (fail_if_success (with_reducible show LCg.CompSrc _ _ _ _ _ _ _ _ _ _ _ _ _ _)); first | (k_unfold; (try dsimp only)) | (k_end; wrow_close) | walk1 | (dsimp only; walk1) | (leave1; walk_say "STEP leave1"; try dsimp only) | fail "no step")
  refine LCg.CompSrc.range (n := 4) rfl (by k_asm) (by k_asm) (by assumption) (by decide) (by decide) (by decide) fun g9 => ?_
  refine comp_gen (n := 4) (fun i ys news => ∃ Y ot rs, news = (L + 1, o1) :: (pl, placeO 0 tk np) :: (tb, ot) :: Y ∧ (∀ q ∈ Z, q ∈ Y) ∧ Ok pl tb Y Y ∧ Tab prog w Y ot rs ∧ rs.length = i ∧ ys.length = i ∧ (∀ (j : Nat) v, ys[j]? = some v → RefIn w Y v ((j : Int) + 1)) ∧
    (∀ j : Nat, j < i → ∃ x, rs[j]? = some (.ref x) ∧ GroupIn prog w Y x)) ?step ?fin 4 0 [] _ rfl ⟨Z, ot, [], rfl, fun q h => h, ok, ht, rfl, rfl, fun j v h => by simp at h, fun j h => absurd h (Nat.not_lt_zero j)⟩
  case step =>
    rintro i ys news v It oI Ct oC Dt m₂ h9 tk9 E' hi ⟨Y, ot, rs, rfl, hZY, okY, htY, hrs, hys, hrf, hgr⟩ hv hNs hx F9 N9 off ne
    have m1' := hZY _ m1
    have m2' := hZY _ m2
    have off0 := off
    try simp only [LCg.Off3] at off
    k_unmd
    repeat' ((try k_unmd); (fail_if_success (with_reducible show wpAny _ _ (call (Value.ref 424) _) _ _ _)); (fail_if_success (with_reducible show wpAny _ _ (call (Value.ref 334) _) _ _ _)); (fail_if_success (with_reducible show wpAny _ _ (call (Value.ref 397) _) _ _ _)); (fail_if_success (with_reducible show wpAny _ _ (call (Value.ref 429) _) _ _ _)); (fail_if_success (with_reducible show Exists _)); (fail_if_success (with_reducible show LCg.CompSrc _ _ _ _ _ _ _ _ _ _ _ _ _ _)); first | (k_unfold; (try dsimp only)) | (k_end; wrow_close) | walk1 | (dsimp only; walk1) | (leave1; walk_say "STEP leave1"; try dsimp only) | fail "no step")
    k_dflt (refine' add_use2 (own := [_, _, _, _, _, _, _]) (I₀ := Y) (RT := Y) (rs := rs) m1' m2' lo ?hA ?hf ?hke ?hh ?hd ?hu ?B ?F ?X ?T ?N ?ow' ?ok ?ht ?hl ?_; (case hA => exact rfl); (case hf => exact rfl); (case hke => exact rfl); (case hh => exact rfl); (case hd => ktr_room); (case hu => ktr_units); (case B => k_asm); (case F => k_asm); (case X => k_asm); (case T => k_asm); (case N => k_asm); (case ow' => tb_rel); (case ok => exact okY); (case ht => exact htY); (case hl => omega))
    intro a8 tl8 ot8 h8 tk8 r8 t8 F8 N8 ab8 ok8
    simp only [List.cons_append, List.nil_append] at N8
    k_unmd
    repeat' ((try k_unmd); (fail_if_success (with_reducible show wpAny _ _ (call (Value.ref 424) _) _ _ _)); (fail_if_success (with_reducible show wpAny _ _ (call (Value.ref 334) _) _ _ _)); (fail_if_success (with_reducible show wpAny _ _ (call (Value.ref 397) _) _ _ _)); (fail_if_success (with_reducible show wpAny _ _ (call (Value.ref 429) _) _ _ _)); (fail_if_success (with_reducible show Exists _)); (fail_if_success (with_reducible show LCg.CompSrc _ _ _ _ _ _ _ _ _ _ _ _ _ _)); first | (k_unfold; (try dsimp only)) | (k_end; wrow_close) | walk1 | (dsimp only; walk1) | (leave1; walk_say "STEP leave1"; try dsimp only) | fail "no step")
    obtain ⟨Y', p1, p2, p3, p4, p5, p6, p7, p8, p9⟩ := grp_end (prog := prog) N8 (by assumption) (by assumption) off0 ab8 ok8 r8 t8 hZY hrs hys hrf hgr ⟨by omega, by omega, by omega, by omega, by omega⟩ ⟨by omega, by omega, by omega, by omega, by omega⟩ ⟨by omega, by omega, by omega, by omega, by omega⟩
    exact ⟨_, _, _, rfl, F8, p1, p2, trivial, Y', ot8, _, rfl, p3, p4, p5, p6, p7, p8, p9⟩
  case fin =>
    rintro ys news ⟨Y, ot, rs, rfl, hZY, okY, htY, hrs, hys, hrf, hgr⟩
    unfold LCg.FinA
    intro D9 h9 tk9 F9 N9 o9
    have om := off1_mem o9
    have np9 : pl ≠ D9 := om (pl, _) (.tail _ (.head _))
    have nt9 : tb ≠ D9 := om (tb, _) (.tail _ (.tail _ (.head _)))
    k_unmd
    repeat' ((try k_unmd); (fail_if_success (with_reducible show wpAny _ _ (call (Value.ref 424) _) _ _ _)); (fail_if_success (with_reducible show wpAny _ _ (call (Value.ref 334) _) _ _ _)); (fail_if_success (with_reducible show wpAny _ _ (call (Value.ref 397) _) _ _ _)); (fail_if_success (with_reducible show wpAny _ _ (call (Value.ref 429) _) _ _ _)); (fail_if_success (with_reducible show Exists _)); (fail_if_success (with_reducible show LCg.CompSrc _ _ _ _ _ _ _ _ _ _ _ _ _ _)); first | (k_unfold; (try dsimp only)) | (k_end; wrow_close) | walk1 | (dsimp only; walk1) | (leave1; walk_say "STEP leave1"; try dsimp only) | fail "no step")
    refine next D9 ys.length ys rs ((D9, lstO ys ys.length) :: Y) _ (fun q h => .tail _ (hZY q h)) (.head _) hys (fun i v h => (hrf i v h).mono fun q h => .tail _ h) (fun i hi => let ⟨x, y1, y2⟩ := hgr i hi; ⟨x, y1, y2.mono fun q h => .tail _ h⟩)
      ⟨0, tk, ot, rs, _, _, m0, rfl, F9, fun q hq => N9 q ?_, (Ok.cons np9.symm nt9.symm okY).self, Tab.mono (fun q h => .tail _ h) htY, Pre.refl _, by omega, Int.le_refl _, by omega⟩
    simp only [List.mem_cons] at hq ⊢
    rcases hq with h | h | h | h | h <;> simp [h]
end
/-! ## part Base12 -/
section
example : True := by (w_top off; trivial)
section
variable {prog : Program} {w : World} {A : Around} {E : Value → Shared → Prop} {s : Shared} {env : Env} {h₀ : Heap} {x : Str} {body : List Stmt} {Q : Flow → Shared → Prop}
theorem rest_gen {I : Addr} {lp : Addr × Obj} (Inv : Nat → (Str → Option Value) → LL → Prop) (vs : List Value)
    (step : ∀ i v m₁ news₁ it h tk, vs[i]? = some v → Inv i m₁ news₁ → it.cls = .type "list_iterator" → Fr h₀ env.locals h (fun y => if y = x then some v else m₁ y) → News h₀ env.locals h ((I, it) :: news₁) →
      wpAny (model prog w) A (execs body env) (UnrPost h₀ env.locals { s with heap := h, toks := tk } I it (fun m' n' => lp ∈ n' ∧ Inv (i + 1) m' n') Q) E { s with heap := h, toks := tk })
    (fin : ∀ m₁ news₁ h tk, Inv vs.length m₁ news₁ → Fr h₀ env.locals h m₁ → News h₀ env.locals h news₁ → Q .next { s with heap := h, toks := tk }) :
    ∀ r i m₁ news₁, i ≤ vs.length → vs.drop i = r → Inv i m₁ news₁ → ListRest prog w A E h₀ env x body Q s I lp r m₁ news₁ := by
  intro r
  induction r with
  | nil =>
    intro i m₁ news₁ hi hd hv
    have e : i = vs.length := by
      have := congrArg List.length hd
      rw [List.length_drop, List.length_nil] at this
      omega
    subst e
    exact ListRest.zero fun h tk F N => fin _ _ h tk hv F N
  | cons v r ih =>
    intro i m₁ news₁ hi hd hv
    have hlt : i < vs.length := by
      have := congrArg List.length hd
      rw [List.length_drop, List.length_cons] at this
      omega
    have h2 := List.drop_eq_getElem_cons hlt
    rw [hd] at h2
    injection h2 with e1 e2
    refine ListRest.succ fun it h tk hc F N => wpAny_mono (step i v m₁ news₁ it h tk (by rw [e1]; simp [hlt]) hv hc F N) (fun f s' hp => ?_) fun _ _ e => e
    cases f with
    | ret v => exact hp
    | brk => exact hp
    | next =>
      obtain ⟨h', tk', m', n', e, F', N', off, hm, hi'⟩ := hp
      exact ⟨h', tk', m', n', e, F', N', off, hm, ih (i + 1) m' n' hlt e2.symm hi'⟩
    | cont =>
      obtain ⟨h', tk', m', n', e, F', N', off, hm, hi'⟩ := hp
      exact ⟨h', tk', m', n', e, F', N', off, hm, ih (i + 1) m' n' hlt e2.symm hi'⟩
end
/-! ### the states' pairs -/
def SkOk (i : Nat) (skv : List (Int × Value)) : Prop := skv.length ≤ i ∧ (∀ p ∈ skv, 1 ≤ p.1 ∧ p.1 ≤ (i : Int) ∧ ∃ b, p.2 = .bool b) ∧ skv.Pairwise (fun p q => p.1 ≠ q.1)
theorem valueAt_none {skv : List (Int × Value)} {k : Int} (h : ∀ p ∈ skv, p.1 ≠ k) : valueAt skv k = none := by
  unfold valueAt
  rw [List.find?_eq_none.mpr (fun p hp => by simpa using h p hp)]
  rfl
theorem valueAt_some {skv : List (Int × Value)} {k : Int} {v : Value} (h : valueAt skv k = some v) : (k, v) ∈ skv := by
  unfold valueAt at h
  cases e : skv.find? (fun kv => decide (kv.1 = k)) with
  | none => rw [e] at h; cases h
  | some p =>
    rw [e] at h
    have h1 := List.find?_some e
    have h2 := List.mem_of_find?_eq_some e
    simp at h1 h
    obtain ⟨a, b⟩ := p
    simp only at h1 h
    subst h1 h
    exact h2
theorem SkOk.nil : SkOk 0 [] := ⟨Nat.le_refl _, (fun _ h => nomatch h), .nil⟩
theorem SkOk.same {i : Nat} {skv : List (Int × Value)} (x : SkOk i skv) : SkOk (i + 1) skv := ⟨by have := x.1; omega, fun p hp => let ⟨a, b, c⟩ := x.2.1 p hp; ⟨a, by omega, c⟩, x.2.2⟩
theorem SkOk.more {i : Nat} {skv : List (Int × Value)} {b : Bool} (x : SkOk i skv) : SkOk (i + 1) (stored skv ((i : Int) + 1) (.bool b)) := by
  have hn : valueAt skv ((i : Int) + 1) = none := valueAt_none fun p hp e => by have := (x.2.1 p hp).2.1; omega
  rw [stored_absent hn]
  refine ⟨by have := x.1; simp; omega, fun p hp => ?_, ?_⟩
  · rcases List.mem_append.mp hp with hp | hp
    · obtain ⟨a, b, c⟩ := x.2.1 p hp
      exact ⟨a, by omega, c⟩
    · rw [List.mem_singleton.mp hp]
      exact ⟨by simp; omega, by simp, b, rfl⟩
  · rw [List.pairwise_append]
    refine ⟨x.2.2, List.pairwise_singleton _ _, fun p hp q hq => ?_⟩
    rw [List.mem_singleton.mp hq]
    have := (x.2.1 p hp).2.1
    simp only [ne_eq]
    omega
def sgm (skv : List (Int × Value)) (i : Nat) : Bool := match valueAt skv ((i : Int) + 1) with
  | some (.bool b) => b
  | _ => true
theorem SkOk.st {n : Nat} {skv : List (Int × Value)} (x : SkOk n skv) (i : Nat) : (valueAt skv ((i : Int) + 1)).getD (.bool true) = .bool (sgm skv i) := by
  unfold sgm
  cases e : valueAt skv ((i : Int) + 1) with
  | none => rfl
  | some v =>
    obtain ⟨_, _, b, rfl⟩ := x.2.1 _ (valueAt_some e)
    rfl
theorem fold_stored {K : Type} [DecidableEq K] : ∀ (skv acc : List (K × Value)), skv.Pairwise (fun p q => p.1 ≠ q.1) → (∀ p ∈ skv, ∀ q ∈ acc, q.1 ≠ p.1) → skv.foldl (fun a p => stored a p.1 p.2) acc = acc ++ skv
  | [], acc, _, _ => by simp
  | p :: skv, acc, h1, h2 => by
    rw [List.foldl_cons]
    have hn : valueAt acc p.1 = none := by
      unfold valueAt
      rw [List.find?_eq_none.mpr (fun q hq => by simpa using h2 p (.head _) q hq)]
      rfl
    rw [stored_absent hn, fold_stored skv (acc ++ [(p.1, p.2)]) (List.pairwise_cons.mp h1).2 (fun q hq r hr => ?_)]
    · simp
    · rcases List.mem_append.mp hr with hr | hr
      · exact h2 q (.tail _ hq) r hr
      · rw [List.mem_singleton.mp hr]; exact (List.pairwise_cons.mp h1).1 q hq
theorem valueAt_cons {p : Int × Value} {skv : List (Int × Value)} {k : Int} : valueAt (p :: skv) k = if p.1 = k then some p.2 else valueAt skv k := by
  unfold valueAt
  by_cases h : p.1 = k <;> simp [List.find?_cons, h]
theorem valueAt_mapA {k k' : Int} {v : Value} (h : k ≠ k') : ∀ skv : List (Int × Value), valueAt (skv.map (fun kv => if kv.1 = k then (kv.1, v) else kv)) k' = valueAt skv k'
  | [] => rfl
  | p :: skv => by
    rw [List.map_cons, valueAt_cons, valueAt_cons, valueAt_mapA h skv]
    by_cases e : p.1 = k
    · have : ¬ p.1 = k' := fun q => h (e.symm.trans q)
      simp [e, h]
    · simp [e]
theorem valueAt_mapB {k : Int} {v : Value} : ∀ skv : List (Int × Value), skv.any (fun kv => kv.1 = k) = true → valueAt (skv.map (fun kv => if kv.1 = k then (kv.1, v) else kv)) k = some v
  | [], h => by simp at h
  | p :: skv, h => by
    rw [List.map_cons, valueAt_cons]
    by_cases e : p.1 = k
    · simp [e]
    · have : skv.any (fun kv => kv.1 = k) = true := by simpa [List.any_cons, e] using h
      simp [e, valueAt_mapB skv this]
theorem valueAt_stored {skv : List (Int × Value)} {k k' : Int} {v : Value} : valueAt (stored skv k v) k' = if k = k' then some v else valueAt skv k' := by
  by_cases hn : skv.any (fun kv => kv.1 = k) = true
  · rw [stored, if_pos hn]
    by_cases e : k = k'
    · subst e; rw [if_pos rfl, valueAt_mapB skv hn]
    · rw [if_neg e, valueAt_mapA e]
  · have h0 : valueAt skv k = none := valueAt_none fun p hp e => hn (List.any_eq_true.mpr ⟨p, hp, by simpa using e⟩)
    rw [stored_absent h0, valueAt_snoc]
    by_cases e : k = k'
    · subst e; simp [h0]
    · rw [if_neg e, if_neg e, Option.or_none]
theorem norm3 {m : Str → Option Value} {a b c : Str} {x y z : Option Value} (h1 : m a = x) (h2 : m b = y) (h3 : m c = z) : m = fun q => if q = a then x else if q = b then y else if q = c then z else m q := by
  funext q
  by_cases e1 : q = a
  · rw [if_pos e1, e1, h1]
  rw [if_neg e1]
  by_cases e2 : q = b
  · rw [if_pos e2, e2, h2]
  rw [if_neg e2]
  by_cases e3 : q = c
  · rw [if_pos e3, e3, h3]
  rw [if_neg e3]
theorem off4 {a b c d I : Addr} {oa ob oc od oa' ob' oc' od' : Obj} {Z : LL} (h : ∀ p ∈ (a, oa) :: (b, ob) :: (c, oc) :: (d, od) :: Z, p.1 < I) : ∀ p ∈ (a, oa') :: (b, ob') :: (c, oc') :: (d, od') :: Z, p.1 ≠ I := fun p hp => by
  rcases List.mem_cons.mp hp with rfl | hp
  · exact Nat.ne_of_lt (h (a, oa) (.head _))
  rcases List.mem_cons.mp hp with rfl | hp
  · exact Nat.ne_of_lt (h (b, ob) (.tail _ (.head _)))
  rcases List.mem_cons.mp hp with rfl | hp
  · exact Nat.ne_of_lt (h (c, oc) (.tail _ (.tail _ (.head _))))
  rcases List.mem_cons.mp hp with rfl | hp
  · exact Nat.ne_of_lt (h (d, od) (.tail _ (.tail _ (.tail _ (.head _)))))
  · exact Nat.ne_of_lt (h p (.tail _ (.tail _ (.tail _ (.tail _ hp)))))
theorem perm4 {h₀ h : Heap} {L : Addr} {x a b c : Addr × Obj} {Z : LL} (N : News h₀ L h (x :: a :: b :: c :: Z)) : News h₀ L h (a :: b :: c :: x :: Z) := fun q hq => N q (by
  simp only [List.mem_cons] at hq ⊢
  rcases hq with h | h | h | h | h <;> simp [h])
end
/-! ## part Ll4 -/
section
example : True := by (w_top off; trivial)
local macro_rules | `(tactic| walk_at "setItem ref int") => `(tactic| (k_here; k_dflt (refine' kda_set (knd := PySem.intKind _ _) ?F ?N ?U ?d (intKind_is _ _ _ _) ?z ?_; (case F | N => k_asm); (case U => k_updF); (case d => assumption); (case z => rw [sizeLine_eq]; omega)); intro h' o' F' N' hd'; (try dsimp only at N')))
theorem law_l4 {prog : Program} {w : World} {p : Program} {loose : List Str} {mean : ExcName → Option Value} {mg mb : Str → Option Value} {np : Nat} {pl tb tf : Addr}
    {sh dsh tr fa gl : Addr} {t1 t2 : Tok} {cd : Value} {base h₀ : Heap} {L : Addr} {s s₀ : Shared} {Q : Flow → Shared → Prop} {E : Value → Shared → Prop} {outer : List Env} {dp un : Nat} {gd : Option (List Code)}
    {Z : LL} {rs₀ : List Value} {o1 : Obj} {rest : List Stmt}
    (hd : dp + 170 < recursionLimit) (hu : un + 270 < cLine) (B' : Below ({ handled := none, depth := dp, frames := some outer, guards := gd, units := un } : Around) base outer h₀) (X' : (K w.params).In h₀) (T' : Top p loose mean mg mb h₀) (S' : h₀.NoSeer)
    (hTake : TakeSpec prog w p loose mean mg mb np pl tf Z) (hFn : FnIn Z tf)
    (m1 : (sh, instObj 363 dsh) ∈ Z) (m2 : (dsh, dictOf [{ hash := PyData.keyHash w.params (Str.ofString "table"), key := .str (Str.ofString "table") t1, val := .ref tb }, { hash := PyData.keyHash w.params (Str.ofString "trailer"), key := .str (Str.ofString "trailer") t2, val := .ref tr }] 2) ∈ Z)
    (lo : (tb == sysModules) = false) (d1 : o1.data = .cell (some (.ref sh))) (lp : @LT.lt Nat _ (L + 1) pl) (lt : @LT.lt Nat _ (L + 1) tb) {gvs : List Value} {ng : Nat} (hE : PassesOwn (model prog w) (({ handled := none, depth := dp, frames := some outer, guards := gd, units := un } : Around).deeper (envOfC (Str.ofString "law") (stScope lawSt) L fa cd)) (envOfC (Str.ofString "law") (stScope lawSt) L fa cd) E) (mg : (gl, lstO gvs ng) ∈ Z) (gl4 : gvs.length = 4) (grf : ∀ (i : Nat) v, gvs[i]? = some v → RefIn w Z v ((i : Int) + 1)) (ggr : ∀ i : Nat, i < 4 → ∃ x, rs₀[i]? = some (.ref x) ∧ GroupIn prog w Z x)
    (hK : LS prog w np pl tb h₀ L o1 50000 rs₀ s₀ (fun (m0 : Str → Option Value) (y : Str) => if y = Str.ofString "groups" then some (.ref gl) else if y = Str.ofString "take" then some (.ref tf) else m0 y) Z s)
    (next : ∀ st os skv Z' s', (∀ q ∈ Z, q ∈ Z') → (st, os) ∈ Z' → SkOk 4 skv → os.IsDictOf (intKind prog w) skv → (st == sysModules) = false → LS prog w np pl tb h₀ L o1 100000 rs₀ s₀ (fun (m0 : Str → Option Value) (y : Str) => if y = Str.ofString "states" then some (.ref st) else if y = Str.ofString "groups" then some (.ref gl) else if y = Str.ofString "take" then some (.ref tf) else m0 y) Z' s' → wpAny (model prog w) (({ handled := none, depth := dp, frames := some outer, guards := gd, units := un } : Around).deeper (envOfC (Str.ofString "law") (stScope lawSt) L fa cd)) (execs rest (envOfC (Str.ofString "law") (stScope lawSt) L fa cd)) Q E s') :
    wpAny (model prog w) (({ handled := none, depth := dp, frames := some outer, guards := gd, units := un } : Around).deeper (envOfC (Str.ofString "law") (stScope lawSt) L fa cd)) (execs (lS 3 :: lS 4 :: rest) (envOfC (Str.ofString "law") (stScope lawSt) L fa cd)) Q E s := by
  have eS : stScope lawSt = stScope lawSt := rfl
  conv at eS => rhs; whnf
  have eK : lS 3 = lS 3 := rfl
  conv at eK => rhs; whnf
  simp only [eS] at next hE ⊢
  rw [eK]
  have eK4 : lS 4 = lS 4 := rfl
  conv at eK4 => rhs; whnf
  rw [eK4]
  clear eS eK eK4
  obtain ⟨k, tk, ot, rs, h, tks, m0, rfl, F', N', ok, ht, hpre, hrl, hk1, hk2⟩ := hK
  try dsimp only at F'
  k_unmd
  repeat' ((try k_unmd); (fail_if_success (with_reducible show wpAny _ _ (call (Value.ref 424) _) _ _ _)); (fail_if_success (with_reducible show wpAny _ _ (call (Value.ref 334) _) _ _ _)); (fail_if_success (with_reducible show wpAny _ _ (call (Value.ref 397) _) _ _ _)); (fail_if_success (with_reducible show wpAny _ _ (call (Value.ref 429) _) _ _ _)); (fail_if_success (with_reducible show Exists _)); (fail_if_success (with_reducible show LCg.CompSrc _ _ _ _ _ _ _ _ _ _ _ _ _ _)); (fail_if_success (with_reducible show wpAny _ _ (pyIter _) _ _ _)); (fail_if_success (with_reducible show UnrEnd _ _ _ _ _ _ _)); first | (k_unfold; (try dsimp only)) | (k_end; wrow_close) | walk1 | (dsimp only; walk1) | (leave1; walk_say "STEP leave1"; try dsimp only) | fail "no step")
  rename_i dst hst0 ost lst hsst fsst hist fist ltst h5 F5 N5
  have hzs : ∀ q ∈ Z, q.1 ≠ dst := allLt_mem ltst.2.2.2
  k_unmd
  (with_unfolding_all refine' For_invVF F5 ?k1 ?k2 ?_ (hE := hE); (case k1 => exact rfl); (case k2 => exact rfl))
  repeat' ((try k_unmd); (fail_if_success (with_reducible show wpAny _ _ (call (Value.ref 424) _) _ _ _)); (fail_if_success (with_reducible show wpAny _ _ (call (Value.ref 334) _) _ _ _)); (fail_if_success (with_reducible show wpAny _ _ (call (Value.ref 397) _) _ _ _)); (fail_if_success (with_reducible show wpAny _ _ (call (Value.ref 429) _) _ _ _)); (fail_if_success (with_reducible show Exists _)); (fail_if_success (with_reducible show LCg.CompSrc _ _ _ _ _ _ _ _ _ _ _ _ _ _)); (fail_if_success (with_reducible show wpAny _ _ (pyIter _) _ _ _)); (fail_if_success (with_reducible show UnrEnd _ _ _ _ _ _ _)); first | (k_unfold; (try dsimp only)) | (k_end; wrow_close) | walk1 | (dsimp only; walk1) | (leave1; walk_say "STEP leave1"; try dsimp only) | fail "no step")
  refine iter_listUnr rfl F5 N5 (.tail _ (.tail _ (.tail _ (.tail _ mg)))) rfl rfl fun I0 lI => ?_
  have hrl4 : ∀ (i : Nat) v, gvs[i]? = some v → i < 4 := fun i v h => by
    rcases Nat.lt_or_ge i gvs.length with h' | h'
    · omega
    · rw [List.getElem?_eq_none h'] at h; exact nomatch h
  have sI := lI (dst, ost) (.head _)
  refine rest_gen (fun i m₁ news₁ => ∃ k9 tk9 os skv m9, m₁ = (fun (m0 : Str → Option Value) (y : Str) => if y = Str.ofString "states" then some (.ref dst) else if y = Str.ofString "groups" then some (.ref gl) else if y = Str.ofString "take" then some (.ref tf) else m0 y) m9 ∧ news₁ = (dst, os) :: (L + 1, o1) :: (pl, placeO k9 tk9 np) :: (tb, ot) :: Z ∧ k ≤ k9 ∧ k9 ≤ k + (i : Int) ∧ os.IsDictOf (intKind prog w) skv ∧ SkOk i skv) gvs ?step ?fin gvs 0 _ _ (Nat.zero_le _) rfl ⟨k, tk, ost, [], m0, rfl, rfl, Int.le_refl _, by omega, hist, SkOk.nil⟩
  case step =>
    rintro i v m₁ news₁ it h9 tk9 hv ⟨k9, tkk, os, skv, m9, rfl, rfl, j0, j1, hod, hok⟩ hc F9 N9
    have hi4 := hrl4 i v hv
    have hsl := hok.1
    obtain ⟨a, dx, u1, u2, u3, u4, rfl, r1, r2⟩ := grf i v hv
    have lI2 := allLt_of lI
    simp only [AllLt, and_true] at lI2
    change Fr h₀ L h9 _ at F9
    change News h₀ L h9 _ at N9
    try dsimp only at F9
    k_unmd
    repeat' ((try k_unmd); (fail_if_success (with_reducible show wpAny _ _ (call (Value.ref 424) _) _ _ _)); (fail_if_success (with_reducible show wpAny _ _ (call (Value.ref 334) _) _ _ _)); (fail_if_success (with_reducible show wpAny _ _ (call (Value.ref 397) _) _ _ _)); (fail_if_success (with_reducible show wpAny _ _ (call (Value.ref 429) _) _ _ _)); (fail_if_success (with_reducible show Exists _)); (fail_if_success (with_reducible show LCg.CompSrc _ _ _ _ _ _ _ _ _ _ _ _ _ _)); (fail_if_success (with_reducible show wpAny _ _ (pyIter _) _ _ _)); (fail_if_success (with_reducible show UnrEnd _ _ _ _ _ _ _)); first | (k_unfold; (try dsimp only)) | (k_end; wrow_close) | walk1 | (dsimp only; walk1) | (leave1; walk_say "STEP leave1"; try dsimp only) | fail "no step")
    · exact ⟨_, _, _, _, rfl, by k_asm, by k_asm, off4 lI, .tail _ (.tail _ (.tail _ (.tail _ mg))), _, _, _, _, _, by exact norm3 rfl rfl rfl, rfl, by omega, by omega, by assumption, hok.more⟩
    · exact ⟨_, _, _, _, rfl, by k_asm, by k_asm, off4 lI, .tail _ (.tail _ (.tail _ (.tail _ mg))), _, _, _, _, _, by exact norm3 rfl rfl rfl, rfl, by omega, by omega, hod, hok.same⟩
  case fin =>
    rintro m₁ news₁ h9 tk9 ⟨k9, tkk, os, skv, m9, rfl, rfl, j0, j1, hod, hok⟩ F9 N9
    rw [gl4] at hok j1
    change Fr h₀ L h9 _ at F9
    change News h₀ L h9 _ at N9
    k_unmd
    repeat' ((try k_unmd); (fail_if_success (with_reducible show wpAny _ _ (call (Value.ref 424) _) _ _ _)); (fail_if_success (with_reducible show wpAny _ _ (call (Value.ref 334) _) _ _ _)); (fail_if_success (with_reducible show wpAny _ _ (call (Value.ref 397) _) _ _ _)); (fail_if_success (with_reducible show wpAny _ _ (call (Value.ref 429) _) _ _ _)); (fail_if_success (with_reducible show Exists _)); (fail_if_success (with_reducible show LCg.CompSrc _ _ _ _ _ _ _ _ _ _ _ _ _ _)); (fail_if_success (with_reducible show wpAny _ _ (pyIter _) _ _ _)); (fail_if_success (with_reducible show UnrEnd _ _ _ _ _ _ _)); first | (k_unfold; (try dsimp only)) | (k_end; wrow_close) | walk1 | (dsimp only; walk1) | (leave1; walk_say "STEP leave1"; try dsimp only) | fail "no step")
    exact next dst os skv ((dst, os) :: Z) _ (fun q h => .tail _ h) (.head _) hok hod lst ⟨k9, tkk, ot, rs, _, _, m9, rfl, F9, perm4 N9, (Ok.cons (Nat.ne_of_gt ltst.2.1) (Nat.ne_of_gt ltst.2.2.1) ok).self, Tab.mono (fun q h => .tail _ h) ht, hpre, by omega, by omega, by omega⟩
end
/-! ## part Base13 -/
section
example : True := by (w_top off; trivial)
section
variable {prog : Program} {w : World} {p : Program} {loose : List Str} {mean : ExcName → Option Value} {mg mb : Str → Option Value} {np : Nat} {pl tb tf : Addr} {I₀ : LL}
  {A A₀ : Around} {env : Env} {outer : List Env} {base h₀ : Heap} {L : Addr} {m : Str → Option Value} {s : Shared} {Q E : Value → Shared → Prop}
theorem kept_all {sh dsh tr gl : Addr} {t1 t2 : Tok} {gvs : List Value} {ng : Nat} (hTake : TakeSpec prog w p loose mean mg mb np pl tf I₀) (hFn : FnIn I₀ tf) (std : Std w I₀ sh dsh tb tr gl t1 t2 gvs ng) :
    KeptSpec prog w p loose mean mg mb np pl tb tf I₀ sh gl := by
  have hM := made_spec std hTake hFn
  have hTr := fun d (h : d ≤ 19) => truth_spec std (hM d) h
  have hl := std.len
  match gvs, hl, std with
  | [v0, v1, v2, v3], _, std =>
    have g0 : RefIn w I₀ v0 1 := std.grp 0 v0 rfl
    have g1 : RefIn w I₀ v1 2 := std.grp 1 v1 rfl
    have g2 : RefIn w I₀ v2 3 := std.grp 2 v2 rfl
    have g3 : RefIn w I₀ v3 4 := std.grp 3 v3 rfl
    obtain ⟨r0, d0, a0, b0, c0, e0, rfl, G0, D0⟩ := g0
    obtain ⟨r1, d1, a1, b1, c1, e1, rfl, G1, D1⟩ := g1
    obtain ⟨r2, d2, a2, b2, c2, e2, rfl, G2, D2⟩ := g2
    obtain ⟨r3, d3, a3, b3, c3, e3, rfl, G3, D3⟩ := g3
    exact kept_spec hTr (denied_spec (by omega)) (mirror_spec (by omega)) (turned_spec hTake hFn) std G0 D0 G1 D1 G2 D2 G3 D3
theorem kept_use {sh gl st : Addr} (hK : KeptSpec prog w p loose mean mg mb np pl tb tf I₀ sh gl) {own R : LL} {k : Int} {tk : Tok} {ot os : Obj} {rs₀ rs : List Value} {v : Value} {P : Pl} {skv : List (Int × Value)}
    (hA : A.frames = some (env :: outer)) (hf : env.frame = some L) (hke : env.scope.kind = .function) (hh : A.handled = none) (hd : A.depth + 160 < recursionLimit) (hu : A.units + 240 < cLine)
    (B : Below A₀ base outer h₀) (F : Fr h₀ L s.heap m) (X : (K w.params).In h₀) (T : Top p loose mean mg mb h₀) (S : h₀.NoSeer)
    (N : News h₀ L s.heap (own ++ (pl, placeO k tk np) :: (tb, ot) :: R)) (hown : ∀ q ∈ own, q.1 ≠ pl) (hown' : ∀ q ∈ own, q.1 ≠ tb) (ok : Ok pl tb I₀ R) (ht : Tab prog w R ot rs) (hl : (rs.length : Int) ≤ k + 4)
    (hpre : Pre rs₀ rs) (hgr : ∀ i : Nat, i < 4 → ∃ x, rs₀[i]? = some (.ref x) ∧ GroupIn prog w I₀ x) (hm4 : (st, os) ∈ I₀) (hsk : os.IsDictOf (intKind prog w) skv) (hok : SkOk 4 skv) (hslo : (st == sysModules) = false)
    (hw : Wf 3 3 P) (hp : PlanIn I₀ v P) (hk0 : 0 ≤ k) (hk : k + 200000 < 900000)
    (ret : ∀ tl ot' rs' k' h' tks tk', Tab prog w (tl ++ (own ++ R)) ot' rs' → Pre rs₀ rs' → (rs'.length : Int) ≤ k' + 4 → k ≤ k' → k' ≤ k + 100000 → Fr h₀ L h' m →
      News h₀ L h' (own ++ (pl, placeO k' tk' np) :: (tb, ot') :: (tl ++ R)) → Above tl ((pl, placeO k tk np) :: (tb, ot) :: (own ++ R)) → Ok pl tb I₀ (tl ++ R) → Q (.bool true) { s with heap := h', toks := tks }) :
    wpAny (model prog w) A (call (.ref 429) [.ref tf, .ref sh, .ref gl, v, .ref st]) Q E s :=
  hK A A₀ env outer base h₀ L m s Q E (own ++ R) k tk ot os st (sgm skv) rs v P skv hA hf hke hh hd hu B F X T S (front2 N) (ok.own hown hown') (Tab.mono (fun q h => mem_l h) ht) hl (fun i hi => let ⟨x, y1, y2⟩ := hgr i hi; ⟨x, hpre _ _ y1, y2⟩) hm4 hsk (fun i _ => hok.st i) hslo hw hp hk0 hk
    fun tl ot' rs' k' h' tks tk' b c d' e f F' N' ab => ret tl ot' rs' k' h' tks tk' b (hpre.trans c) d' e f F' (back2 N') ab (ok_of_above ok ab)
end
theorem own_in {h₀ h : Heap} {L : Addr} {own tl R : LL} {x y : Addr × Obj} (N : News h₀ L h (own ++ x :: y :: (tl ++ R))) : News h₀ L h (own ++ x :: y :: (tl ++ (own ++ R))) := fun q hq => N q (by
  simp only [List.mem_append, List.mem_cons] at hq ⊢
  rcases hq with h | h | h | h | h | h <;> simp [h])
theorem Ok.mid {pl tb : Addr} {own tl R I : LL} (x : Ok pl tb I (tl ++ R)) (h : ∀ q ∈ own, q.1 ≠ pl) (h' : ∀ q ∈ own, q.1 ≠ tb) : Ok pl tb (tl ++ (own ++ R)) (tl ++ (own ++ R)) where
  sub := fun _ hq => hq
  np := fun q hq => by
    rcases List.mem_append.mp hq with hq | hq
    · exact x.np q (mem_r hq)
    · rcases List.mem_append.mp hq with hq | hq
      · exact h q hq
      · exact x.np q (mem_l hq)
  nt := fun q hq => by
    rcases List.mem_append.mp hq with hq | hq
    · exact x.nt q (mem_r hq)
    · rcases List.mem_append.mp hq with hq | hq
      · exact h' q hq
      · exact x.nt q (mem_l hq)
  ne := x.ne
end
/-! ## part Ll5 -/
section
example : True := by (w_top off; trivial)
local macro_rules | `(tactic| walk_at "none") => `(tactic| fail)
theorem law_l5 {prog : Program} {w : World} {p : Program} {loose : List Str} {mean : ExcName → Option Value} {mg mb : Str → Option Value} {np : Nat} {pl tb tf : Addr}
    {sh dsh tr fa gl : Addr} {t1 t2 : Tok} {cd : Value} {base h₀ : Heap} {L : Addr} {s s₀ : Shared} {Q : Flow → Shared → Prop} {E : Value → Shared → Prop} {outer : List Env} {dp un : Nat} {gd : Option (List Code)}
    {Z : LL} {rs₀ : List Value} {o1 : Obj} {rest : List Stmt}
    (hd : dp + 170 < recursionLimit) (hu : un + 270 < cLine) (B' : Below ({ handled := none, depth := dp, frames := some outer, guards := gd, units := un } : Around) base outer h₀) (X' : (K w.params).In h₀) (T' : Top p loose mean mg mb h₀) (S' : h₀.NoSeer)
    (hTake : TakeSpec prog w p loose mean mg mb np pl tf Z) (hFn : FnIn Z tf)
    (m1 : (sh, instObj 363 dsh) ∈ Z) (m2 : (dsh, dictOf [{ hash := PyData.keyHash w.params (Str.ofString "table"), key := .str (Str.ofString "table") t1, val := .ref tb }, { hash := PyData.keyHash w.params (Str.ofString "trailer"), key := .str (Str.ofString "trailer") t2, val := .ref tr }] 2) ∈ Z)
    (lo : (tb == sysModules) = false) (d1 : o1.data = .cell (some (.ref sh))) (lp : @LT.lt Nat _ (L + 1) pl) (lt : @LT.lt Nat _ (L + 1) tb) {gvs : List Value} {ng : Nat} (mg : (gl, lstO gvs ng) ∈ Z) (gl4 : gvs.length = 4) (grf : ∀ (i : Nat) v, gvs[i]? = some v → RefIn w Z v ((i : Int) + 1)) (ggr : ∀ i : Nat, i < 4 → ∃ x, rs₀[i]? = some (.ref x) ∧ GroupIn prog w Z x){st : Addr} {os : Obj} {skv : List (Int × Value)} (mst : (st, os) ∈ Z) (hok : SkOk 4 skv) (hsk : os.IsDictOf (intKind prog w) skv) (slo : (st == sysModules) = false) 
    (hK : LS prog w np pl tb h₀ L o1 100000 rs₀ s₀ (fun (m0 : Str → Option Value) (y : Str) => if y = Str.ofString "states" then some (.ref st) else if y = Str.ofString "groups" then some (.ref gl) else if y = Str.ofString "take" then some (.ref tf) else m0 y) Z s)
    (next : ∀  Z' s', (∀ q ∈ Z, q ∈ Z') → LS prog w np pl tb h₀ L o1 250000 rs₀ s₀ (fun (m0 : Str → Option Value) (y : Str) => if y = Str.ofString "states" then some (.ref st) else if y = Str.ofString "groups" then some (.ref gl) else if y = Str.ofString "take" then some (.ref tf) else m0 y) Z' s' → wpAny (model prog w) (({ handled := none, depth := dp, frames := some outer, guards := gd, units := un } : Around).deeper (envOfC (Str.ofString "law") (stScope lawSt) L fa cd)) (execs rest (envOfC (Str.ofString "law") (stScope lawSt) L fa cd)) Q E s') :
    wpAny (model prog w) (({ handled := none, depth := dp, frames := some outer, guards := gd, units := un } : Around).deeper (envOfC (Str.ofString "law") (stScope lawSt) L fa cd)) (execs (lS 5 :: rest) (envOfC (Str.ofString "law") (stScope lawSt) L fa cd)) Q E s := by
  have eS : stScope lawSt = stScope lawSt := rfl
  conv at eS => rhs; whnf
  have eK : lS 5 = lS 5 := rfl
  conv at eK => rhs; whnf
  simp only [eS] at next ⊢
  rw [eK]
  clear eS eK
  obtain ⟨k, tk, ot, rs, h, tks, m0, rfl, F', N', ok, ht, hpre, hrl, hk1, hk2⟩ := hK
  try dsimp only at F'
  k_unmd
  repeat' ((try k_unmd); (fail_if_success (with_reducible show wpAny _ _ (call (Value.ref 424) _) _ _ _)); (fail_if_success (with_reducible show wpAny _ _ (call (Value.ref 334) _) _ _ _)); (fail_if_success (with_reducible show wpAny _ _ (call (Value.ref 397) _) _ _ _)); (fail_if_success (with_reducible show wpAny _ _ (call (Value.ref 429) _) _ _ _)); (fail_if_success (with_reducible show Exists _)); (fail_if_success (with_reducible show LCg.CompSrc _ _ _ _ _ _ _ _ _ _ _ _ _ _)); first | (k_unfold; (try dsimp only)) | (k_end; wrow_close) | walk1 | (dsimp only; walk1) | (leave1; walk_say "STEP leave1"; try dsimp only) | fail "no step")
  k_dflt (refine' plan_use (own := [_]) (plan_spec hTake hFn 3) (by decide) ?hA ?hf ?hke ?hh ?hd ?hu ?B ?F ?X ?T ?S ?N ?ow ?ow' ?ok ?k0 ?k1 ?_; (case hA => exact rfl); (case hf => exact rfl); (case hke => exact rfl); (case hh => exact rfl); (case hd => ktr_room); (case hu => ktr_units); (case B => k_asm); (case F => k_asm); (case X => k_asm); (case T => k_asm); (case S => k_asm); (case N => k_asm); (case ow => tb_rel); (case ow' => tb_rel); (case ok => assumption); (case k0 => omega); (case k1 => (have hct : cst 3 = 93 := rfl); omega))
  intro vp P tl1 k1 h1 tk1 tl1' p1 e1 w41 w51 F1 N1 ab1 ok1
  have hct1 : cst 3 = 93 := rfl
  rw [hct1] at w51
  simp only [List.cons_append, List.nil_append] at N1
  have w11 := Tab.mono (fun q h => mem_l (x := tl1) h) ht
  k_unmd
  repeat' ((try k_unmd); (fail_if_success (with_reducible show wpAny _ _ (call (Value.ref 424) _) _ _ _)); (fail_if_success (with_reducible show wpAny _ _ (call (Value.ref 334) _) _ _ _)); (fail_if_success (with_reducible show wpAny _ _ (call (Value.ref 397) _) _ _ _)); (fail_if_success (with_reducible show wpAny _ _ (call (Value.ref 429) _) _ _ _)); (fail_if_success (with_reducible show Exists _)); (fail_if_success (with_reducible show LCg.CompSrc _ _ _ _ _ _ _ _ _ _ _ _ _ _)); first | (k_unfold; (try dsimp only)) | (k_end; wrow_close) | walk1 | (dsimp only; walk1) | (leave1; walk_say "STEP leave1"; try dsimp only) | fail "no step")
  have m1' := mem_l (x := tl1) m1
  have std : Std w (tl1 ++ Z) sh dsh tb tr gl t1 t2 gvs ng := ⟨mem_l m1, mem_l m2, lo, mem_l mg, gl4, fun i v h => (grf i v h).mono fun q h => mem_l h⟩
  have hKp := kept_all (hTake.up fun q h => mem_l h) (hFn.up fun q h => mem_l h) std
  k_dflt (refine' kept_use (own := [_]) (P := P) hKp ?hA ?hf ?hke ?hh ?hd ?hu ?B ?F ?X ?T ?S ?N ?ow ?ow' ?ok ?ht ?hl hpre ?hgr (mem_l mst) hsk hok slo e1.wf (p1.mono fun q h => mem_r h) ?k0 ?k1 ?_; (case hA => exact rfl); (case hf => exact rfl); (case hke => exact rfl); (case hh => exact rfl); (case hd => ktr_room); (case hu => ktr_units); (case B => k_asm); (case F => k_asm); (case X => k_asm); (case T => k_asm); (case S => k_asm); (case N => k_asm); (case ow => tb_rel); (case ow' => tb_rel); (case ok => exact ok1.self); (case ht => exact w11); (case hl => omega); (case hgr => exact fun i hi => let ⟨x, y1, y2⟩ := ggr i hi; ⟨x, y1, y2.mono fun q h => mem_l h⟩); (case k0 => omega); (case k1 => omega))
  intro tl2 ot2 rs2 k2 h2 tk2 tl2' w12 w22 w32 w42 w52 F2 N2 ab2 ok2
  k_unmd
  repeat' ((try k_unmd); (fail_if_success (with_reducible show wpAny _ _ (call (Value.ref 424) _) _ _ _)); (fail_if_success (with_reducible show wpAny _ _ (call (Value.ref 334) _) _ _ _)); (fail_if_success (with_reducible show wpAny _ _ (call (Value.ref 397) _) _ _ _)); (fail_if_success (with_reducible show wpAny _ _ (call (Value.ref 429) _) _ _ _)); (fail_if_success (with_reducible show Exists _)); (fail_if_success (with_reducible show LCg.CompSrc _ _ _ _ _ _ _ _ _ _ _ _ _ _)); first | (k_unfold; (try dsimp only)) | (k_end; wrow_close) | walk1 | (dsimp only; walk1) | (leave1; walk_say "STEP leave1"; try dsimp only) | fail "no step")
  exact next (tl2 ++ ([(L + 1, o1)] ++ (tl1 ++ Z))) _ (fun q h => mem_l (mem_l (mem_l h))) ⟨k2, _, ot2, rs2, _, _, m0, rfl, by k_asm, own_in N2, Ok.mid ok2 (by tb_rel) (by tb_rel), w12, w22, by omega, by omega, by omega⟩
end
/-! ## part Ll6 -/
section
example : True := by (w_top off; trivial)
theorem law_l6 {prog : Program} {w : World} {p : Program} {loose : List Str} {mean : ExcName → Option Value} {mg mb : Str → Option Value} {np : Nat} {pl tb tf : Addr}
    {sh dsh tr fa gl st : Addr} {t1 t2 : Tok} {cd : Value} {base h₀ : Heap} {L : Addr} {s s₀ : Shared} {Q : Flow → Shared → Prop} {E : Value → Shared → Prop} {outer : List Env} {dp un : Nat} {gd : Option (List Code)}
    {Z : LL} {rs₀ : List Value} {o1 : Obj} {rest : List Stmt}
    (hd : dp + 170 < recursionLimit) (hu : un + 270 < cLine) (B' : Below ({ handled := none, depth := dp, frames := some outer, guards := gd, units := un } : Around) base outer h₀) (X' : (K w.params).In h₀) (T' : Top p loose mean mg mb h₀) (S' : h₀.NoSeer)
    (hTake : TakeSpec prog w p loose mean mg mb np pl tf Z) (hFn : FnIn Z tf)
    (m1 : (sh, instObj 363 dsh) ∈ Z) (m2 : (dsh, dictOf [{ hash := PyData.keyHash w.params (Str.ofString "table"), key := .str (Str.ofString "table") t1, val := .ref tb }, { hash := PyData.keyHash w.params (Str.ofString "trailer"), key := .str (Str.ofString "trailer") t2, val := .ref tr }] 2) ∈ Z)
    (lo : (tb == sysModules) = false) (d1 : o1.data = .cell (some (.ref sh))) (lp : @LT.lt Nat _ (L + 1) pl) (lt : @LT.lt Nat _ (L + 1) tb) 
    (hK : LS prog w np pl tb h₀ L o1 250000 rs₀ s₀ (fun (m0 : Str → Option Value) (y : Str) => if y = Str.ofString "states" then some (.ref st) else if y = Str.ofString "groups" then some (.ref gl) else if y = Str.ofString "take" then some (.ref tf) else m0 y) Z s)
    (next : ∀ vp P Z' s', (∀ q ∈ Z, q ∈ Z') → PlanIn Z' vp P → PlOk 3 true P → LS prog w np pl tb h₀ L o1 300000 rs₀ s₀ (fun (m0 : Str → Option Value) (y : Str) => if y = Str.ofString "plain" then some (vp) else if y = Str.ofString "states" then some (.ref st) else if y = Str.ofString "groups" then some (.ref gl) else if y = Str.ofString "take" then some (.ref tf) else m0 y) Z' s' → wpAny (model prog w) (({ handled := none, depth := dp, frames := some outer, guards := gd, units := un } : Around).deeper (envOfC (Str.ofString "law") (stScope lawSt) L fa cd)) (execs rest (envOfC (Str.ofString "law") (stScope lawSt) L fa cd)) Q E s') :
    wpAny (model prog w) (({ handled := none, depth := dp, frames := some outer, guards := gd, units := un } : Around).deeper (envOfC (Str.ofString "law") (stScope lawSt) L fa cd)) (execs (lS 6 :: rest) (envOfC (Str.ofString "law") (stScope lawSt) L fa cd)) Q E s := by
  have eS : stScope lawSt = stScope lawSt := rfl
  conv at eS => rhs; whnf
  have eK : lS 6 = lS 6 := rfl
  conv at eK => rhs; whnf
  simp only [eS] at next ⊢
  rw [eK]
  clear eS eK
  obtain ⟨k, tk, ot, rs, h, tks, m0, rfl, F', N', ok, ht, hpre, hrl, hk1, hk2⟩ := hK
  try dsimp only at F'
  k_unmd
  repeat' ((try k_unmd); (fail_if_success (with_reducible show wpAny _ _ (call (Value.ref 424) _) _ _ _)); (fail_if_success (with_reducible show wpAny _ _ (call (Value.ref 334) _) _ _ _)); (fail_if_success (with_reducible show wpAny _ _ (call (Value.ref 397) _) _ _ _)); (fail_if_success (with_reducible show wpAny _ _ (call (Value.ref 429) _) _ _ _)); (fail_if_success (with_reducible show Exists _)); (fail_if_success (with_reducible show LCg.CompSrc _ _ _ _ _ _ _ _ _ _ _ _ _ _)); first | (k_unfold; (try dsimp only)) | (k_end; wrow_close) | walk1 | (dsimp only; walk1) | (leave1; walk_say "STEP leave1"; try dsimp only) | fail "no step")
  k_dflt (refine' plan_use (own := [_]) (plan_spec hTake hFn 3) (by decide) ?hA ?hf ?hke ?hh ?hd ?hu ?B ?F ?X ?T ?S ?N ?ow ?ow' ?ok ?k0 ?k1 ?_; (case hA => exact rfl); (case hf => exact rfl); (case hke => exact rfl); (case hh => exact rfl); (case hd => ktr_room); (case hu => ktr_units); (case B => k_asm); (case F => k_asm); (case X => k_asm); (case T => k_asm); (case S => k_asm); (case N => k_asm); (case ow => tb_rel); (case ow' => tb_rel); (case ok => assumption); (case k0 => omega); (case k1 => (have hct : cst 3 = 93 := rfl); omega))
  intro vp P tl1 k1 h1 tk1 tl1' p1 e1 w41 w51 F1 N1 ab1 ok1
  have hct1 : cst 3 = 93 := rfl
  rw [hct1] at w51
  simp only [List.cons_append, List.nil_append] at N1
  have w11 := Tab.mono (fun q h => mem_l (x := tl1) h) ht
  k_unmd
  repeat' ((try k_unmd); (fail_if_success (with_reducible show wpAny _ _ (call (Value.ref 424) _) _ _ _)); (fail_if_success (with_reducible show wpAny _ _ (call (Value.ref 334) _) _ _ _)); (fail_if_success (with_reducible show wpAny _ _ (call (Value.ref 397) _) _ _ _)); (fail_if_success (with_reducible show wpAny _ _ (call (Value.ref 429) _) _ _ _)); (fail_if_success (with_reducible show Exists _)); (fail_if_success (with_reducible show LCg.CompSrc _ _ _ _ _ _ _ _ _ _ _ _ _ _)); first | (k_unfold; (try dsimp only)) | (k_end; wrow_close) | walk1 | (dsimp only; walk1) | (leave1; walk_say "STEP leave1"; try dsimp only) | fail "no step")
  exact next vp P (tl1 ++ Z) _ (fun q h => mem_l h) (p1.mono fun q h => mem_r h) e1 ⟨k1, _, ot, rs, _, _, m0, rfl, by k_asm, by k_asm, ok1.self, w11, hpre, by omega, by omega, by omega⟩
end
/-! ## part Ll7 -/
section
example : True := by (w_top off; trivial)
local macro_rules | `(tactic| walk_at "none") => `(tactic| fail)
theorem law_l7 {prog : Program} {w : World} {p : Program} {loose : List Str} {mean : ExcName → Option Value} {mg mb : Str → Option Value} {np : Nat} {pl tb tf : Addr}
    {sh dsh tr fa gl st : Addr} {t1 t2 : Tok} {cd : Value} {base h₀ : Heap} {L : Addr} {s s₀ : Shared} {Q : Flow → Shared → Prop} {E : Value → Shared → Prop} {outer : List Env} {dp un : Nat} {gd : Option (List Code)}
    {Z : LL} {rs₀ : List Value} {o1 : Obj} {rest : List Stmt}
    (hd : dp + 170 < recursionLimit) (hu : un + 270 < cLine) (B' : Below ({ handled := none, depth := dp, frames := some outer, guards := gd, units := un } : Around) base outer h₀) (X' : (K w.params).In h₀) (T' : Top p loose mean mg mb h₀) (S' : h₀.NoSeer)
    (hTake : TakeSpec prog w p loose mean mg mb np pl tf Z) (hFn : FnIn Z tf)
    (m1 : (sh, instObj 363 dsh) ∈ Z) (m2 : (dsh, dictOf [{ hash := PyData.keyHash w.params (Str.ofString "table"), key := .str (Str.ofString "table") t1, val := .ref tb }, { hash := PyData.keyHash w.params (Str.ofString "trailer"), key := .str (Str.ofString "trailer") t2, val := .ref tr }] 2) ∈ Z)
    (lo : (tb == sysModules) = false) (d1 : o1.data = .cell (some (.ref sh))) (lp : @LT.lt Nat _ (L + 1) pl) (lt : @LT.lt Nat _ (L + 1) tb) {vp : Value} {gvs : List Value} {ng : Nat} (mg : (gl, lstO gvs ng) ∈ Z) (gl4 : gvs.length = 4) (grf : ∀ (i : Nat) v, gvs[i]? = some v → RefIn w Z v ((i : Int) + 1)) (ggr : ∀ i : Nat, i < 4 → ∃ x, rs₀[i]? = some (.ref x) ∧ GroupIn prog w Z x)
    (hK : LS prog w np pl tb h₀ L o1 300000 rs₀ s₀ (fun (m0 : Str → Option Value) (y : Str) => if y = Str.ofString "plain" then some (vp) else if y = Str.ofString "states" then some (.ref st) else if y = Str.ofString "groups" then some (.ref gl) else if y = Str.ofString "take" then some (.ref tf) else m0 y) Z s)
    (next : ∀ j stk Z' s', (∀ q ∈ Z, q ∈ Z') → j < 4 → LS prog w np pl tb h₀ L o1 350000 rs₀ s₀ (fun (m0 : Str → Option Value) (y : Str) => if y = Str.ofString "spot" then some (.int (((j : Nat) : Int) + 1) stk) else if y = Str.ofString "plain" then some (vp) else if y = Str.ofString "states" then some (.ref st) else if y = Str.ofString "groups" then some (.ref gl) else if y = Str.ofString "take" then some (.ref tf) else m0 y) Z' s' → wpAny (model prog w) (({ handled := none, depth := dp, frames := some outer, guards := gd, units := un } : Around).deeper (envOfC (Str.ofString "law") (stScope lawSt) L fa cd)) (execs rest (envOfC (Str.ofString "law") (stScope lawSt) L fa cd)) Q E s') :
    wpAny (model prog w) (({ handled := none, depth := dp, frames := some outer, guards := gd, units := un } : Around).deeper (envOfC (Str.ofString "law") (stScope lawSt) L fa cd)) (execs (lS 7 :: rest) (envOfC (Str.ofString "law") (stScope lawSt) L fa cd)) Q E s := by
  have eS : stScope lawSt = stScope lawSt := rfl
  conv at eS => rhs; whnf
  have eK : lS 7 = lS 7 := rfl
  conv at eK => rhs; whnf
  simp only [eS] at next ⊢
  rw [eK]
  clear eS eK
  obtain ⟨k, tk, ot, rs, h, tks, m0, rfl, F', N', ok, ht, hpre, hrl, hk1, hk2⟩ := hK
  try dsimp only at F'
  k_unmd
  repeat' ((try k_unmd); (fail_if_success (with_reducible show wpAny _ _ (call (Value.ref 424) _) _ _ _)); (fail_if_success (with_reducible show wpAny _ _ (call (Value.ref 334) _) _ _ _)); (fail_if_success (with_reducible show wpAny _ _ (call (Value.ref 397) _) _ _ _)); (fail_if_success (with_reducible show wpAny _ _ (call (Value.ref 429) _) _ _ _)); (fail_if_success (with_reducible show Exists _)); (fail_if_success (with_reducible show LCg.CompSrc _ _ _ _ _ _ _ _ _ _ _ _ _ _)); (fail_if_success (with_reducible show wpAny _ _ (subscriptTail _ _ _ _) _ _ _)); first | (k_unfold; (try dsimp only)) | (k_end; wrow_close) | walk1 | (dsimp only; walk1) | (leave1; walk_say "STEP leave1"; try dsimp only) | fail "no step")
  k_dflt (refine' itemE_N ?N ?m ?a ?b ?c ?_ ?hs; (case N => k_asm); (case m => exact .tail _ (.tail _ (.tail _ mg))); (case a => assumption); (case b => omega); (case c => omega); (case hs => with_unfolding_all rfl))
  intro ve hve
  rename_i i9 t9 h9 tk9 tk8 i90 i91 F9 N9
  have hj4 : i9.toNat < 4 := by omega
  obtain ⟨a, dx, u1, u2, u3, u4, rfl, r1, r2⟩ := grf _ _ hve
  k_unmd
  repeat' ((try k_unmd); (fail_if_success (with_reducible show wpAny _ _ (call (Value.ref 424) _) _ _ _)); (fail_if_success (with_reducible show wpAny _ _ (call (Value.ref 334) _) _ _ _)); (fail_if_success (with_reducible show wpAny _ _ (call (Value.ref 397) _) _ _ _)); (fail_if_success (with_reducible show wpAny _ _ (call (Value.ref 429) _) _ _ _)); (fail_if_success (with_reducible show Exists _)); (fail_if_success (with_reducible show LCg.CompSrc _ _ _ _ _ _ _ _ _ _ _ _ _ _)); first | (k_unfold; (try dsimp only)) | (k_end; wrow_close) | walk1 | (dsimp only; walk1) | (leave1; walk_say "STEP leave1"; try dsimp only) | fail "no step")
  exact next i9.toNat _ Z _ (fun q h => h) hj4 ⟨k + 1, _, ot, rs, _, _, m0, rfl, by k_asm, by k_asm, ok, ht, hpre, by omega, by omega, by omega⟩
end
end
/-! ## part Base14 -/
section
example : True := by (w_top off; trivial)
section
variable {prog : Program} {w : World} {A : Around} {E : Value → Shared → Prop} {s : Shared} {h₀ : Heap} {L : Addr} {m : Str → Option Value} {news : LL}
theorem list_items_N {v d : Addr} {od : Obj} {kvs : List (Int × Value)} {Q : Value → Shared → Prop} (hh : A.handled = none) (F : Fr h₀ L s.heap m) (N : News h₀ L s.heap news)
    (hvw : (v, ({ cls := .type "dict_items", data := .fields #[.ref d] } : Obj)) ∈ news) (hmd : (d, od) ∈ news) (hod : od.IsDictOf (intKind prog w) kvs) (hn : kvs.length ≤ 1000)
    (h : ∀ (D : Addr) (h' : Heap) (tk : Nat) (as : List Addr) (tl : LL) (c : Nat), Fr h₀ L h' m → News h₀ L h' ((D, lstO (as.map Value.ref) c) :: (tl ++ news)) → as.length = kvs.length → (∀ (i : Nat) p, kvs[i]? = some p → ∃ a t, as[i]? = some a ∧ (a, tupO [.int p.1 t, p.2] 0) ∈ tl) →
      (∀ q ∈ tl, ∀ r ∈ news, r.1 < q.1) → (∀ r ∈ news, r.1 < D) → (∀ q ∈ tl, D < q.1) → Q (.ref D) { s with heap := h', toks := tk }) :
    wpAny (model prog w) A (call (.type "list") [.ref v]) Q E s := by
  obtain ⟨ep, hat⟩ := KdkAt.of hod
  refine kdx_call (knd := intKind prog w) (kvs := kvs) (ep := ep) hh ⟨_, (N _ hvw).1, rfl, rfl⟩ (hat.dictAt (N _ hmd).1) (Nat.le_trans hn (by decide)) fun h' tk acc c as hk hS hl hG hacc => ?_
  have ea : acc = (as.map Value.ref).toArray := by rw [← hacc, Array.toArray_toList]
  have hmem : ∀ q ∈ as.filterMap (fun a => (h'.get? a).map (a, ·)), q.1 ∈ as ∧ h'.get? q.1 = some q.2 := fun q hq => by
    obtain ⟨a, ha, hq⟩ := List.mem_filterMap.mp hq
    cases e : h'.get? a with
    | none => rw [e] at hq; simp at hq
    | some o =>
      rw [e] at hq
      simp at hq
      subst hq
      exact ⟨ha, e⟩
  refine h s.heap.objs.size h' tk as (as.filterMap fun a => (h'.get? a).map (a, ·)) c (F.keeps hk) (fun q hq => ?_) hl (fun i p hp => ?_) (fun q hq r hr => Nat.lt_trans (Heap.lt_size (N r hr).1) (hG.above _ (hmem q hq).1)) (fun r hr => Heap.lt_size (N r hr).1) (fun q hq => hG.above _ (hmem q hq).1)
  · rcases List.mem_cons.mp hq with rfl | hq
    · exact ⟨by subst ea; exact hS, kdx_fresh F (Nat.le_refl _)⟩
    · rcases List.mem_append.mp hq with hq | hq
      · exact ⟨(hmem q hq).2, kdx_fresh F (Nat.le_of_lt (hG.above _ (hmem q hq).1))⟩
      · exact ⟨hk _ _ (N q hq).1, (N q hq).2⟩
  · have hj : i < as.length := by rw [hl]; exact (List.getElem?_eq_some_iff.mp hp).1
    obtain ⟨key, k, x, e1, e2, e3⟩ := hG.pairs i as[i] (List.getElem?_eq_getElem hj)
    rw [hp] at e1
    have e4 := Option.some.inj e1
    subst e4
    obtain ⟨t, rfl⟩ := int_is e2
    exact ⟨as[i], t, List.getElem?_eq_getElem hj, List.mem_filterMap.mpr ⟨as[i], List.getElem_mem hj, by rw [e3]; rfl⟩⟩
theorem dict_more_N {l tup : Addr} {as : List Addr} {n nt : Nat} {skv : List (Int × Value)} {k : Int} {b : Value} {t : Tok} {Q : Value → Shared → Prop} (hh : A.handled = none) (F : Fr h₀ L s.heap m) (N : News h₀ L s.heap news) (hbig : h₀.NoLimit)
    (hm : (l, lstO (as.map Value.ref ++ [.ref tup]) n) ∈ news) (hl : as.length = skv.length) (hsk : SkOk 4 skv)
    (htup : ∀ (i : Nat) p, skv[i]? = some p → ∃ a t, as[i]? = some a ∧ (a, tupO [.int p.1 t, p.2] 0) ∈ news) (hmt : (tup, tupO [.int k t, b] nt) ∈ news)
    (h : ∀ D h' o tk, Fr h₀ L h' m → News h₀ L h' ((D, o) :: news) → (∀ p ∈ news, p.1 < D) → (D == sysModules) = false → o.IsDictOf (intKind prog w) (stored skv k b) → Q (.ref D) { s with heap := h', toks := tk }) :
    wpAny (model prog w) A (call (.type "dict") [.ref l]) Q E s := by
  have h4 := hsk.1
  refine dict_pairs_N (skv ++ [(k, b)]) hh F N hbig hm (by simp [hl]) (by simp; omega) (fun i p hp => ?_) fun D h' o tk F' N' l' lo hd => ?_
  · rcases Nat.lt_or_ge i skv.length with hi | hi
    · rw [List.getElem?_append_left hi] at hp
      obtain ⟨a, t, y1, y2⟩ := htup i p hp
      exact ⟨a, t, 0, by rw [List.getElem?_append_left (by simp; omega), List.getElem?_map, y1]; rfl, y2⟩
    · have e : i = skv.length := by
        have := (List.getElem?_eq_some_iff.mp hp).1
        simp at this
        omega
      subst e
      simp at hp
      subst hp
      exact ⟨tup, t, nt, by rw [List.getElem?_append_right (by simp; omega)]; simp [hl], hmt⟩
  · refine h D h' o tk F' N' l' lo ?_
    rw [List.foldl_append, fold_stored skv [] hsk.2.2 (fun _ _ q hq => nomatch hq)] at hd
    exact hd
end
def sgu (skv : List (Int × Value)) (j : Nat) (b : Bool) (i : Nat) : Bool := if i = j then b else sgm skv i
theorem st_more {prog : Program} {w : World} {o : Obj} {skv : List (Int × Value)} {j : Nat} {b : Bool} (hsk : SkOk 4 skv) (hd : o.IsDictOf (intKind prog w) (stored skv ((j : Int) + 1) (.bool b))) : StIn prog w o (sgu skv j b) := by
  refine ⟨_, hd, fun i _ => ?_⟩
  rw [valueAt_stored]
  unfold sgu
  by_cases e : i = j
  · subst e; simp
  · rw [if_neg (fun h => e (by omega)), if_neg e]; exact hsk.st i
theorem sgu_up {skv : List (Int × Value)} {j : Nat} : ∀ i, i < 4 → sgu skv j false i = true → sgu skv j true i = true := fun i _ h => by
  unfold sgu at h ⊢
  by_cases e : i = j
  · simp [e]
  · rw [if_neg e] at h ⊢; exact h
end
/-! ## part Base15 -/
section
example : True := by (w_top off; trivial)
local macro_rules | `(tactic| walk_at "none") => `(tactic| fail)
def stFor : Stmt → List Stmt
  | .For _ _ b _ _ => b
  | _ => []
theorem upd_mid {D : Addr} {o o' : Obj} : ∀ {own R : LL}, (∀ q ∈ own, q.1 ≠ D) → (∀ q ∈ R, q.1 ≠ D) → Upd D o o' (own ++ (D, o) :: R) (own ++ (D, o') :: R)
  | [], _, _, h2 => .head h2
  | p :: own, _, h1, h2 => .tail (h1 p (.head _)) (upd_mid (fun q hq => h1 q (.tail _ hq)) h2)
theorem append_N {prog : Program} {w : World} {A : Around} {E : Value → Shared → Prop} {s : Shared} {h₀ : Heap} {L D : Addr} {m : Str → Option Value} {own R : LL} {vs : List Value} {n : Nat} {x : Value} {Q : Value → Shared → Prop}
    (F : Fr h₀ L s.heap m) (N : News h₀ L s.heap (own ++ (D, lstO vs n) :: R)) (h1 : ∀ q ∈ own, q.1 ≠ D) (h2 : ∀ q ∈ R, q.1 ≠ D) (h4 : vs.length ≤ 4)
    (h : ∀ h', Fr h₀ L h' m → News h₀ L h' (own ++ (D, lstO (vs ++ [x]) (n + 1)) :: R) → Q .none { s with heap := h' }) :
    wpAny (model prog w) A (call (.builtin "list.append") [.ref D, x]) Q E s := by
  refine append_K (its := vs.toArray) (n := n) (news' := own ++ (D, lstO (vs ++ [x]) (n + 1)) :: R) F N ?_ (fun h' F' N' => h h' F' N') (Nat.le_trans (show vs.toArray.size ≤ 4 by simpa using h4) (by decide))
  have e : listOf (vs.toArray.push x) (n + 1) = lstO (vs ++ [x]) (n + 1) := by simp
  rw [e]
  exact upd_mid h1 h2
theorem norm1 {m : Str → Option Value} {a : Str} {x : Option Value} {f : Str → Option Value} (h1 : m a = x) (h : m = f) : m = fun q => if q = a then x else f q := by
  funext q
  by_cases e1 : q = a
  · rw [if_pos e1, e1, h1]
  rw [if_neg e1, ← h]
theorem ref8 {h₀ h : Heap} {L : Addr} {a v b c d e f g : Addr × Obj} {tl Z : LL} (N : News h₀ L h (a :: (tl ++ (v :: b :: c :: d :: e :: f :: g :: Z)))) : News h₀ L h (a :: b :: c :: d :: e :: f :: g :: (tl ++ Z)) := fun q hq => N q (by
  simp only [List.mem_cons, List.mem_append] at hq ⊢
  rcases hq with h | h | h | h | h | h | h | h | h <;> simp [h])
theorem tl8_facts {pl tb I0 D rl V L1 : Addr} {oV it tup lr o1 po ot : Obj} {tl Z : LL} (ab : ∀ q ∈ tl, ∀ r ∈ (V, oV) :: (I0, it) :: (D, tup) :: (rl, lr) :: (L1, o1) :: (pl, po) :: (tb, ot) :: Z, r.1 < q.1) (ok : Ok pl tb Z Z)
    (qz : ∀ q ∈ Z, q.1 ≠ I0 ∧ q.1 ≠ D ∧ q.1 ≠ rl) : Ok pl tb Z (tl ++ Z) ∧ ∀ q ∈ tl ++ Z, q.1 ≠ I0 ∧ q.1 ≠ D ∧ q.1 ≠ rl := by
  refine ⟨Ok.app (po := po) (to := ot) ok fun q hq r hr => Nat.ne_of_lt (ab q hq r (.tail _ (.tail _ (.tail _ (.tail _ (.tail _ hr)))))), fun q hq => ?_⟩
  rcases List.mem_append.mp hq with hq | hq
  · exact ⟨Nat.ne_of_gt (ab q hq (I0, it) (.tail _ (.head _))), Nat.ne_of_gt (ab q hq (D, tup) (.tail _ (.tail _ (.head _)))), Nat.ne_of_gt (ab q hq (rl, lr) (.tail _ (.tail _ (.tail _ (.head _)))))⟩
  · exact qz q hq
theorem offI {I D rl L1 pl tb : Addr} {it tup lr o1 po ot : Obj} {Z : LL} (h1 : @LT.lt Nat _ D I) (h2 : @LT.lt Nat _ rl I) (h3 : @LT.lt Nat _ L1 I) (h4 : @LT.lt Nat _ pl I) (h5 : @LT.lt Nat _ tb I) (qz : ∀ q ∈ Z, q.1 ≠ I ∧ q.1 ≠ D ∧ q.1 ≠ rl) :
    ∀ p ∈ (D, tup) :: (rl, lr) :: (L1, o1) :: (pl, po) :: (tb, ot) :: Z, ∀ q ∈ [(I, it)], p.1 ≠ q.1 := fun p hp q hq => by
  rw [List.mem_singleton.mp hq]
  rcases List.mem_cons.mp hp with rfl | hp
  · exact Nat.ne_of_lt h1
  rcases List.mem_cons.mp hp with rfl | hp
  · exact Nat.ne_of_lt h2
  rcases List.mem_cons.mp hp with rfl | hp
  · exact Nat.ne_of_lt h3
  rcases List.mem_cons.mp hp with rfl | hp
  · exact Nat.ne_of_lt h4
  rcases List.mem_cons.mp hp with rfl | hp
  · exact Nat.ne_of_lt h5
  · exact (qz p hp).1
theorem allLt_lt {a : Addr} : ∀ {R : LL}, AllLt a R → ∀ r ∈ R, @LT.lt Nat _ r.1 a
  | [], _, _, h => nomatch h
  | q :: R, x, r, h => by
    rcases List.mem_cons.mp h with rfl | h
    · exact x.1
    · exact allLt_lt x.2 r h
theorem Std.up {w : World} {I J : LL} {sh dsh tb tr gl : Addr} {t1 t2 : Tok} {gvs : List Value} {ng : Nat} (x : Std w I sh dsh tb tr gl t1 t2 gvs ng) (h : ∀ q ∈ I, q ∈ J) : Std w J sh dsh tb tr gl t1 t2 gvs ng :=
  ⟨h _ x.m1, h _ x.m2, x.lo, h _ x.mg, x.len, fun i v e => (x.grp i v e).mono h⟩
end
/-! ## part Llt -/
section
example : True := by (w_top off; trivial)
theorem law_turn {prog : Program} {w : World} {p : Program} {loose : List Str} {mean : ExcName → Option Value} {mg mb : Str → Option Value} {np : Nat} {pl tb tf : Addr}
    {sh fa gl rl I0 D : Addr} {stk tk : Tok} {cd : Value} {base h₀ h : Heap} {L : Addr} {s₀ : Shared} {Q : Flow → Shared → Prop} {E : Value → Shared → Prop} {outer : List Env} {dp un tks : Nat} {gd : Option (List Code)}
    {Z : LL} {rs₀ rs : List Value} {o1 it tup ot : Obj} {vp : Value} {P : Pl} {j n : Nat} {b : Bool} {vs : List Value} {m0 : Str → Option Value} {k : Int}
    (hd : dp + 170 < recursionLimit) (hu : un + 270 < cLine) (B' : Below ({ handled := none, depth := dp, frames := some outer, guards := gd, units := un } : Around) base outer h₀) (X' : (K w.params).In h₀) (T' : Top p loose mean mg mb h₀) (S' : h₀.NoSeer)
    (hTr : TruthSpec prog w p loose mean mg mb np pl tb tf Z sh gl 4) (hFn : FnIn Z tf) (d1 : o1.data = .cell (some (.ref sh))) (lp : @LT.lt Nat _ (L + 1) pl) (lt : @LT.lt Nat _ (L + 1) tb)
    (hpl : PlanIn Z vp P) (hpo : PlOk 3 true P) (hj : j < 4) (ggr : ∀ i : Nat, i < 4 → ∃ x, rs₀[i]? = some (.ref x) ∧ GroupIn prog w Z x) {st : Addr} {os : Obj} {skv : List (Int × Value)} (mst : (st, os) ∈ Z) (hok : SkOk 4 skv) (hsk : os.IsDictOf (intKind prog w) skv) (slo : (st == sysModules) = false) 
    (F9 : Fr h₀ L h ((fun (m0 : Str → Option Value) (y : Str) => if y = Str.ofString "is_on" then some (.bool b) else if y = Str.ofString "rows" then some (.ref rl) else if y = Str.ofString "spot" then some (.int (((j : Nat) : Int) + 1) stk) else if y = Str.ofString "plain" then some (vp) else if y = Str.ofString "states" then some (.ref st) else if y = Str.ofString "groups" then some (.ref gl) else if y = Str.ofString "take" then some (.ref tf) else m0 y) m0)) (N9 : News h₀ L h ((I0, it) :: (D, tup) :: (rl, lstO vs n) :: (L + 1, o1) :: (pl, placeO k tk np) :: (tb, ot) :: Z))
    (ok : Ok pl tb Z Z) (ht : Tab prog w Z ot rs) (hpre : Pre rs₀ rs) (hrl : (rs.length : Int) ≤ k + 4) (hk1 : 0 ≤ k) (hk2 : k ≤ 360000) (h4 : vs.length ≤ 4)
    (q1 : @LT.lt Nat _ D I0 ∧ @LT.lt Nat _ rl D ∧ @LT.lt Nat _ (L + 1) rl ∧ @LT.lt Nat _ pl rl ∧ @LT.lt Nat _ tb rl) (qz : ∀ q ∈ Z, q.1 ≠ I0 ∧ q.1 ≠ D ∧ q.1 ≠ rl)
    (next : ∀ Z' k' tk' ot' rs' h' tks' H, (∀ q ∈ Z, q ∈ Z') → (∀ q ∈ Z', q.1 ≠ I0 ∧ q.1 ≠ D ∧ q.1 ≠ rl) → Fr h₀ L h' (fun y => if y = Str.ofString "heard" then some (.ref H) else (fun (m0 : Str → Option Value) (y : Str) => if y = Str.ofString "is_on" then some (.bool b) else if y = Str.ofString "rows" then some (.ref rl) else if y = Str.ofString "spot" then some (.int (((j : Nat) : Int) + 1) stk) else if y = Str.ofString "plain" then some (vp) else if y = Str.ofString "states" then some (.ref st) else if y = Str.ofString "groups" then some (.ref gl) else if y = Str.ofString "take" then some (.ref tf) else m0 y) m0 y) →
      News h₀ L h' ((I0, it) :: (D, tup) :: (rl, lstO (vs ++ [.bool (ev (sgu skv j b) P)]) (n + 1)) :: (L + 1, o1) :: (pl, placeO k' tk' np) :: (tb, ot') :: Z') → Ok pl tb Z' Z' → Tab prog w Z' ot' rs' → Pre rs₀ rs' → (rs'.length : Int) ≤ k' + 4 → k ≤ k' → k' ≤ k + 100 →
      Q .next { s₀ with heap := h', toks := tks' }) :
    wpAny (model prog w) (({ handled := none, depth := dp, frames := some outer, guards := gd, units := un } : Around).deeper (envOfC (Str.ofString "law") (stScope lawSt) L fa cd)) (execs (stFor (lS 9)) (envOfC (Str.ofString "law") (stScope lawSt) L fa cd)) Q E { s₀ with heap := h, toks := tks } := by
  have eS : stScope lawSt = stScope lawSt := rfl
  conv at eS => rhs; whnf
  have eK : stFor (lS 9) = stFor (lS 9) := rfl
  conv at eK => rhs; whnf
  simp only [eS]
  rw [eK]
  clear eS eK
  have hsl := hok.1
  dsimp only at F9
  k_unmd
  repeat' ((try k_unmd); (fail_if_success (with_reducible show wpAny _ _ (call (Value.ref 424) _) _ _ _)); (fail_if_success (with_reducible show wpAny _ _ (call (Value.ref 334) _) _ _ _)); (fail_if_success (with_reducible show wpAny _ _ (call (Value.ref 397) _) _ _ _)); (fail_if_success (with_reducible show wpAny _ _ (call (Value.ref 429) _) _ _ _)); (fail_if_success (with_reducible show Exists _)); (fail_if_success (with_reducible show LCg.CompSrc _ _ _ _ _ _ _ _ _ _ _ _ _ _)); (fail_if_success (with_reducible show wpAny _ _ (call (Value.type "dict") _) _ _ _)); (fail_if_success (with_reducible show wpAny _ _ (binaryOp Operator.Add (Value.ref _) _) _ _ _)); (fail_if_success (with_reducible show UnrEnd _ _ _ _ _ _ _)); (fail_if_success (with_reducible show wpAny _ _ (call (Value.type "list") _) _ _ _)); (fail_if_success (with_reducible show wpAny _ _ (call (Value.builtin "list.append") _) _ _ _)); first | ((with_reducible show wpAny _ _ (call (Value.builtin "dict.items") [Value.ref _]) _ _ _); k_here; k_dflt (refine' kdx_view ?F ?N ?p ?d ?lo ?_; (case F | N => k_asm); (case p => k_mem); (case d | lo => assumption)); intro Dz hz Fz Nz l1z; (try k_lt l1z)) | ((with_reducible show wpAny _ _ (getMethod (Value.ref _) (Str.ofString "items") _) _ _ _); k_here; k_dflt (refine kdl_method (knd := PySem.intKind _ _) PySem.F.slot_dict_items PySem.F.type_dict_items (by k_asm) (by k_mem) (by assumption) ?_)) | (k_unfold; (try dsimp only)) | (k_end; wrow_close) | walk1 | (dsimp only; walk1) | (leave1; walk_say "STEP leave1"; try dsimp only) | fail "no step")
  k_dflt (refine' list_items_N ?hh ?F ?N ?v ?d ?o ?n ?_; (case hh => exact rfl); (case F => k_asm); (case N => k_asm); (case v => exact .head _); (case d => exact .tail _ (.tail _ (.tail _ (.tail _ (.tail _ (.tail _ (.tail _ mst))))))); (case o => exact hsk); (case n => omega))
  intro D8 h8 tk8 as8 tl8 c8 F8 N8 hl8 ht8 ab8 lD8 lt8
  obtain ⟨ok8, qz8⟩ := tl8_facts ab8 ok qz
  have N8' := ref8 N8
  have lD9 := allLt_of lD8
  simp only [AllLt, and_true] at lD9
  clear N8 lD8 ab8 lt8
  k_unmd
  repeat' ((try k_unmd); (fail_if_success (with_reducible show wpAny _ _ (call (Value.ref 424) _) _ _ _)); (fail_if_success (with_reducible show wpAny _ _ (call (Value.ref 334) _) _ _ _)); (fail_if_success (with_reducible show wpAny _ _ (call (Value.ref 397) _) _ _ _)); (fail_if_success (with_reducible show wpAny _ _ (call (Value.ref 429) _) _ _ _)); (fail_if_success (with_reducible show Exists _)); (fail_if_success (with_reducible show LCg.CompSrc _ _ _ _ _ _ _ _ _ _ _ _ _ _)); (fail_if_success (with_reducible show wpAny _ _ (call (Value.type "dict") _) _ _ _)); (fail_if_success (with_reducible show wpAny _ _ (binaryOp Operator.Add (Value.ref _) _) _ _ _)); (fail_if_success (with_reducible show UnrEnd _ _ _ _ _ _ _)); (fail_if_success (with_reducible show wpAny _ _ (call (Value.type "list") _) _ _ _)); (fail_if_success (with_reducible show wpAny _ _ (call (Value.builtin "list.append") _) _ _ _)); first | ((with_reducible show wpAny _ _ (call (Value.builtin "dict.items") [Value.ref _]) _ _ _); k_here; k_dflt (refine' kdx_view ?F ?N ?p ?d ?lo ?_; (case F | N => k_asm); (case p => k_mem); (case d | lo => assumption)); intro Dz hz Fz Nz l1z; (try k_lt l1z)) | ((with_reducible show wpAny _ _ (getMethod (Value.ref _) (Str.ofString "items") _) _ _ _); k_here; k_dflt (refine kdl_method (knd := PySem.intKind _ _) PySem.F.slot_dict_items PySem.F.type_dict_items (by k_asm) (by k_mem) (by assumption) ?_)) | (k_unfold; (try dsimp only)) | (k_end; wrow_close) | walk1 | (dsimp only; walk1) | (leave1; walk_say "STEP leave1"; try dsimp only) | fail "no step")
  k_dflt (refine' add_N ?F ?N ?a ?b ?c ?_; (case F => k_asm); (case N => k_asm); (case a => exact .tail _ (.tail _ (.head _))); (case b => exact .head _); (case c => (simp only [List.length_map, List.length_cons, List.length_nil]; omega)))
  intro D10 h10 F10 N10 l10
  k_lt l10
  k_unmd
  repeat' ((try k_unmd); (fail_if_success (with_reducible show wpAny _ _ (call (Value.ref 424) _) _ _ _)); (fail_if_success (with_reducible show wpAny _ _ (call (Value.ref 334) _) _ _ _)); (fail_if_success (with_reducible show wpAny _ _ (call (Value.ref 397) _) _ _ _)); (fail_if_success (with_reducible show wpAny _ _ (call (Value.ref 429) _) _ _ _)); (fail_if_success (with_reducible show Exists _)); (fail_if_success (with_reducible show LCg.CompSrc _ _ _ _ _ _ _ _ _ _ _ _ _ _)); (fail_if_success (with_reducible show wpAny _ _ (call (Value.type "dict") _) _ _ _)); (fail_if_success (with_reducible show wpAny _ _ (binaryOp Operator.Add (Value.ref _) _) _ _ _)); (fail_if_success (with_reducible show UnrEnd _ _ _ _ _ _ _)); (fail_if_success (with_reducible show wpAny _ _ (call (Value.type "list") _) _ _ _)); (fail_if_success (with_reducible show wpAny _ _ (call (Value.builtin "list.append") _) _ _ _)); first | ((with_reducible show wpAny _ _ (call (Value.builtin "dict.items") [Value.ref _]) _ _ _); k_here; k_dflt (refine' kdx_view ?F ?N ?p ?d ?lo ?_; (case F | N => k_asm); (case p => k_mem); (case d | lo => assumption)); intro Dz hz Fz Nz l1z; (try k_lt l1z)) | ((with_reducible show wpAny _ _ (getMethod (Value.ref _) (Str.ofString "items") _) _ _ _); k_here; k_dflt (refine kdl_method (knd := PySem.intKind _ _) PySem.F.slot_dict_items PySem.F.type_dict_items (by k_asm) (by k_mem) (by assumption) ?_)) | (k_unfold; (try dsimp only)) | (k_end; wrow_close) | walk1 | (dsimp only; walk1) | (leave1; walk_say "STEP leave1"; try dsimp only) | fail "no step")
  k_dflt (refine' dict_more_N (as := as8) (skv := skv) (k := ((j : Nat) : Int) + 1) (b := .bool b) ?hh ?F ?N ?hb ?hm hl8 hok ?ht ?hmt ?_; (case hh => exact rfl); (case F => k_asm); (case N => k_asm); (case hb => exact Top.nolimit (by k_asm)); (case hm => exact .head _); (case ht => exact fun i p h => let ⟨a, t, y1, y2⟩ := ht8 i p h; ⟨a, t, y1, mem_l (x := [_, _, _, _, _, _, _, _, _, _]) (mem_r y2)⟩); (case hmt => exact .tail _ (.tail _ (.head _))))
  intro H h11 oH tk11 F11 N11 l11 lo11 hd11
  k_lt l11
  k_unmd
  repeat' ((try k_unmd); (fail_if_success (with_reducible show wpAny _ _ (call (Value.ref 424) _) _ _ _)); (fail_if_success (with_reducible show wpAny _ _ (call (Value.ref 334) _) _ _ _)); (fail_if_success (with_reducible show wpAny _ _ (call (Value.ref 397) _) _ _ _)); (fail_if_success (with_reducible show wpAny _ _ (call (Value.ref 429) _) _ _ _)); (fail_if_success (with_reducible show Exists _)); (fail_if_success (with_reducible show LCg.CompSrc _ _ _ _ _ _ _ _ _ _ _ _ _ _)); (fail_if_success (with_reducible show wpAny _ _ (call (Value.type "dict") _) _ _ _)); (fail_if_success (with_reducible show wpAny _ _ (binaryOp Operator.Add (Value.ref _) _) _ _ _)); (fail_if_success (with_reducible show UnrEnd _ _ _ _ _ _ _)); (fail_if_success (with_reducible show wpAny _ _ (call (Value.type "list") _) _ _ _)); (fail_if_success (with_reducible show wpAny _ _ (call (Value.builtin "list.append") _) _ _ _)); first | ((with_reducible show wpAny _ _ (call (Value.builtin "dict.items") [Value.ref _]) _ _ _); k_here; k_dflt (refine' kdx_view ?F ?N ?p ?d ?lo ?_; (case F | N => k_asm); (case p => k_mem); (case d | lo => assumption)); intro Dz hz Fz Nz l1z; (try k_lt l1z)) | ((with_reducible show wpAny _ _ (getMethod (Value.ref _) (Str.ofString "items") _) _ _ _); k_here; k_dflt (refine kdl_method (knd := PySem.intKind _ _) PySem.F.slot_dict_items PySem.F.type_dict_items (by k_asm) (by k_mem) (by assumption) ?_)) | (k_unfold; (try dsimp only)) | (k_end; wrow_close) | walk1 | (dsimp only; walk1) | (leave1; walk_say "STEP leave1"; try dsimp only) | fail "no step")
  k_dflt (refine' truth_b (own := [_, _, _, _, _, _, _, _, _]) (P := P) hTr (rfl) ?hA ?hf ?hke ?hh ?hd ?hu ?B ?F ?X ?T ?S ?N ?ow ?ow' ?ok ?ht ?hl hpre ggr (.head _) (st_more hok hd11) lo11 ?hw ?hp ?k0 ?k1 ?_; (case hA => exact rfl); (case hf => exact rfl); (case hke => exact rfl); (case hh => exact rfl); (case hd => ktr_room); (case hu => ktr_units); (case B => k_asm); (case F => k_asm); (case X => k_asm); (case T => k_asm); (case S => k_asm); (case N => k_asm); (case ow => tb_rel); (case ow' => tb_rel); (case ok => exact ok8); (case ht => exact Tab.mono (fun q h => mem_l h) ht); (case hl => omega); (case hw => exact Wf.mono (by omega) (by omega) hpo.wf); (case hp => exact hpl.mono fun q h => mem_l (mem_l h)); (case k0 => omega); (case k1 => (have hcm : cstM 4 = 85 := rfl); omega))
  intro tl1 ot1 rs1 k1 h1 tk1 tl1' w1 w2 w3 w4 w5 F1 N1 ab1 ok1
  have hcm : cstM 4 = 85 := rfl
  rw [hcm] at w5
  simp only [List.cons_append, List.nil_append] at N1
  have qz1 : ∀ q ∈ tl1 ++ (tl8 ++ Z), q.1 ≠ I0 ∧ q.1 ≠ D ∧ q.1 ≠ rl := fun q hq => (List.mem_append.mp hq).elim (fun hq => ⟨Ne.symm (ab1 q hq (I0, it) (by simp)), Ne.symm (ab1 q hq (D, tup) (by simp)), Ne.symm (ab1 q hq (rl, lstO vs n) (by simp))⟩) (qz8 q)
  k_unmd
  repeat' ((try k_unmd); (fail_if_success (with_reducible show wpAny _ _ (call (Value.ref 424) _) _ _ _)); (fail_if_success (with_reducible show wpAny _ _ (call (Value.ref 334) _) _ _ _)); (fail_if_success (with_reducible show wpAny _ _ (call (Value.ref 397) _) _ _ _)); (fail_if_success (with_reducible show wpAny _ _ (call (Value.ref 429) _) _ _ _)); (fail_if_success (with_reducible show Exists _)); (fail_if_success (with_reducible show LCg.CompSrc _ _ _ _ _ _ _ _ _ _ _ _ _ _)); (fail_if_success (with_reducible show wpAny _ _ (call (Value.type "dict") _) _ _ _)); (fail_if_success (with_reducible show wpAny _ _ (binaryOp Operator.Add (Value.ref _) _) _ _ _)); (fail_if_success (with_reducible show UnrEnd _ _ _ _ _ _ _)); (fail_if_success (with_reducible show wpAny _ _ (call (Value.type "list") _) _ _ _)); (fail_if_success (with_reducible show wpAny _ _ (call (Value.builtin "list.append") _) _ _ _)); first | ((with_reducible show wpAny _ _ (call (Value.builtin "dict.items") [Value.ref _]) _ _ _); k_here; k_dflt (refine' kdx_view ?F ?N ?p ?d ?lo ?_; (case F | N => k_asm); (case p => k_mem); (case d | lo => assumption)); intro Dz hz Fz Nz l1z; (try k_lt l1z)) | ((with_reducible show wpAny _ _ (getMethod (Value.ref _) (Str.ofString "items") _) _ _ _); k_here; k_dflt (refine kdl_method (knd := PySem.intKind _ _) PySem.F.slot_dict_items PySem.F.type_dict_items (by k_asm) (by k_mem) (by assumption) ?_)) | (k_unfold; (try dsimp only)) | (k_end; wrow_close) | walk1 | (dsimp only; walk1) | (leave1; walk_say "STEP leave1"; try dsimp only) | fail "no step")
  k_dflt (refine' append_N (own := [_, _, _, _, _, _, _]) (vs := vs) ?F ?N ?h1 ?h2 h4 ?_; (case F => k_asm); (case N => k_asm); (case h1 => tb_rel); (case h2 => exact List.forall_mem_cons.mpr ⟨by k_ne, List.forall_mem_cons.mpr ⟨by k_ne, List.forall_mem_cons.mpr ⟨by k_ne, fun q h => (qz1 q h).2.2⟩⟩⟩))
  intro h12 F12 N12
  simp only [List.cons_append, List.nil_append] at N12
  k_unmd
  repeat' ((try k_unmd); (fail_if_success (with_reducible show wpAny _ _ (call (Value.ref 424) _) _ _ _)); (fail_if_success (with_reducible show wpAny _ _ (call (Value.ref 334) _) _ _ _)); (fail_if_success (with_reducible show wpAny _ _ (call (Value.ref 397) _) _ _ _)); (fail_if_success (with_reducible show wpAny _ _ (call (Value.ref 429) _) _ _ _)); (fail_if_success (with_reducible show Exists _)); (fail_if_success (with_reducible show LCg.CompSrc _ _ _ _ _ _ _ _ _ _ _ _ _ _)); (fail_if_success (with_reducible show wpAny _ _ (call (Value.type "dict") _) _ _ _)); (fail_if_success (with_reducible show wpAny _ _ (binaryOp Operator.Add (Value.ref _) _) _ _ _)); (fail_if_success (with_reducible show UnrEnd _ _ _ _ _ _ _)); (fail_if_success (with_reducible show wpAny _ _ (call (Value.type "list") _) _ _ _)); (fail_if_success (with_reducible show wpAny _ _ (call (Value.builtin "list.append") _) _ _ _)); first | ((with_reducible show wpAny _ _ (call (Value.builtin "dict.items") [Value.ref _]) _ _ _); k_here; k_dflt (refine' kdx_view ?F ?N ?p ?d ?lo ?_; (case F | N => k_asm); (case p => k_mem); (case d | lo => assumption)); intro Dz hz Fz Nz l1z; (try k_lt l1z)) | ((with_reducible show wpAny _ _ (getMethod (Value.ref _) (Str.ofString "items") _) _ _ _); k_here; k_dflt (refine kdl_method (knd := PySem.intKind _ _) PySem.F.slot_dict_items PySem.F.type_dict_items (by k_asm) (by k_mem) (by assumption) ?_)) | (k_unfold; (try dsimp only)) | (k_end; wrow_close) | walk1 | (dsimp only; walk1) | (leave1; walk_say "STEP leave1"; try dsimp only) | fail "no step")
  exact next (tl1 ++ (tl8 ++ Z)) k1 _ ot1 rs1 _ _ H (fun q h => mem_l (mem_l h)) qz1 F12 (drp (pre := [_, _, _, _, _]) N12) ok1.self w1 w2 w3 w4 (by omega)
end
/-! ## part Ll8 -/
section
example : True := by (w_top off; trivial)
local macro_rules | `(tactic| walk_at "none") => `(tactic| fail)
theorem law_l8 {prog : Program} {w : World} {p : Program} {loose : List Str} {mean : ExcName → Option Value} {mg mb : Str → Option Value} {np : Nat} {pl tb tf : Addr}
    {sh dsh tr fa gl : Addr} {t1 t2 : Tok} {cd : Value} {base h₀ : Heap} {L : Addr} {s s₀ : Shared} {Q : Flow → Shared → Prop} {E : Value → Shared → Prop} {outer : List Env} {dp un : Nat} {gd : Option (List Code)}
    {Z : LL} {rs₀ : List Value} {o1 : Obj}
    (hd : dp + 170 < recursionLimit) (hu : un + 270 < cLine) (B' : Below ({ handled := none, depth := dp, frames := some outer, guards := gd, units := un } : Around) base outer h₀) (X' : (K w.params).In h₀) (T' : Top p loose mean mg mb h₀) (S' : h₀.NoSeer)
    (hTake : TakeSpec prog w p loose mean mg mb np pl tf Z) (hFn : FnIn Z tf)
    (m1 : (sh, instObj 363 dsh) ∈ Z) (m2 : (dsh, dictOf [{ hash := PyData.keyHash w.params (Str.ofString "table"), key := .str (Str.ofString "table") t1, val := .ref tb }, { hash := PyData.keyHash w.params (Str.ofString "trailer"), key := .str (Str.ofString "trailer") t2, val := .ref tr }] 2) ∈ Z)
    (lo : (tb == sysModules) = false) (d1 : o1.data = .cell (some (.ref sh))) (lp : @LT.lt Nat _ (L + 1) pl) (lt : @LT.lt Nat _ (L + 1) tb) {vp : Value} {P : Pl} {j : Nat} {stk : Tok} {gvs : List Value} {ng : Nat} (hpl : PlanIn Z vp P) (hpo : PlOk 3 true P) (hj : j < 4) (hE : PassesOwn (model prog w) (({ handled := none, depth := dp, frames := some outer, guards := gd, units := un } : Around).deeper (envOfC (Str.ofString "law") (stScope lawSt) L fa cd)) (envOfC (Str.ofString "law") (stScope lawSt) L fa cd) E) (mg : (gl, lstO gvs ng) ∈ Z) (gl4 : gvs.length = 4) (grf : ∀ (i : Nat) v, gvs[i]? = some v → RefIn w Z v ((i : Int) + 1)) (ggr : ∀ i : Nat, i < 4 → ∃ x, rs₀[i]? = some (.ref x) ∧ GroupIn prog w Z x){st : Addr} {os : Obj} {skv : List (Int × Value)} (mst : (st, os) ∈ Z) (hok : SkOk 4 skv) (hsk : os.IsDictOf (intKind prog w) skv) (slo : (st == sysModules) = false) 
    (hK : LS prog w np pl tb h₀ L o1 350000 rs₀ s₀ (fun (m0 : Str → Option Value) (y : Str) => if y = Str.ofString "spot" then some (.int (((j : Nat) : Int) + 1) stk) else if y = Str.ofString "plain" then some (vp) else if y = Str.ofString "states" then some (.ref st) else if y = Str.ofString "groups" then some (.ref gl) else if y = Str.ofString "take" then some (.ref tf) else m0 y) Z s)
    (next : ∀ h' tks' m' Z', Fr h₀ L h' m' → News h₀ L h' Z' → (∀ q ∈ Z, q ∈ Z') → Q (.ret (.bool true)) { s₀ with heap := h', toks := tks' }) :
    wpAny (model prog w) (({ handled := none, depth := dp, frames := some outer, guards := gd, units := un } : Around).deeper (envOfC (Str.ofString "law") (stScope lawSt) L fa cd)) (execs (lS 8 :: lS 9 :: lS 10 :: []) (envOfC (Str.ofString "law") (stScope lawSt) L fa cd)) Q E s := by
  have eS : stScope lawSt = stScope lawSt := rfl
  conv at eS => rhs; whnf
  have eK : lS 8 = lS 8 := rfl
  conv at eK => rhs; whnf
  simp only [eS] at hE ⊢
  rw [eK]
  have eK9 : lS 9 = lS 9 := rfl
  conv at eK9 => rhs; whnf
  rw [eK9]
  have eK10 : lS 10 = lS 10 := rfl
  conv at eK10 => rhs; whnf
  rw [eK10]
  clear eS eK eK9 eK10
  obtain ⟨k, tk, ot, rs, h, tks, m0, rfl, F', N', ok, ht, hpre, hrl, hk1, hk2⟩ := hK
  try dsimp only at F'
  have hsl := hok.1
  have std : Std w Z sh dsh tb tr gl t1 t2 gvs ng := ⟨m1, m2, lo, mg, gl4, grf⟩
  have hTr := truth_spec std (made_spec std hTake hFn 4) (by decide)
  k_unmd
  repeat' ((try k_unmd); (fail_if_success (with_reducible show wpAny _ _ (pyIter _) _ _ _)); (fail_if_success (with_reducible show wpAny _ _ (execs (Stmt.Assign [Expr.Name (Str.ofString "heard") _] _ _ :: _) _) _ _ _)); first | ((with_reducible show wpAny _ _ (newTuple [Value.bool _, Value.bool _]) _ _ _); k_here; k_dflt (refine' kup_newTuple ?F ?N ?_ ?z; (case F | N => k_asm); (case z => kmk_size)); intro td0 hd0 Fd0 Nd0 md0; (k_lt md0)) | ((with_reducible show wpAny _ _ (newList []) _ _ _); k_here; k_dflt (refine' newList_K ?F ?N ?_; (case F | N => k_asm)); intro rl0 hr0 Fr0 Nr0 mr0; (k_lt mr0)) | (k_unfold; (try dsimp only)) | (k_end; wrow_close) | walk1 | (dsimp only; walk1) | (leave1; walk_say "STEP leave1"; try dsimp only) | fail "no step")
  refine iter_tupTurns (vs := [.bool false, .bool true]) rfl Fd0 Nd0 (.head _) rfl rfl fun I0 lI => ?_
  k_lt lI
  simp only [List.map_cons, List.map_nil]
  refine ItemsRest.val (fun h91 tk91 F91 => ?_)
  refine AllObj.cons (fun it1 hc1 => ?_)
  refine AllObj.nil (fun N91 => ?_)
  simp only [List.cons_append, List.nil_append] at N91
  change Fr h₀ L h91 _ at F91
  change News h₀ L h91 _ at N91
  k_unmd
  repeat' ((try k_unmd); (fail_if_success (with_reducible show wpAny _ _ (pyIter _) _ _ _)); (fail_if_success (with_reducible show wpAny _ _ (execs (Stmt.Assign [Expr.Name (Str.ofString "heard") _] _ _ :: _) _) _ _ _)); first | ((with_reducible show wpAny _ _ (newTuple [Value.bool _, Value.bool _]) _ _ _); k_here; k_dflt (refine' kup_newTuple ?F ?N ?_ ?z; (case F | N => k_asm); (case z => kmk_size)); intro td0 hd0 Fd0 Nd0 md0; (k_lt md0)) | ((with_reducible show wpAny _ _ (newList []) _ _ _); k_here; k_dflt (refine' newList_K ?F ?N ?_; (case F | N => k_asm)); intro rl0 hr0 Fr0 Nr0 mr0; (k_lt mr0)) | (k_unfold; (try dsimp only)) | (k_end; wrow_close) | walk1 | (dsimp only; walk1) | (leave1; walk_say "STEP leave1"; try dsimp only) | fail "no step")
  rename Fr h₀ L _ _ => Fz1
  rename News h₀ L _ _ => Nz1
  k_dflt (refine law_turn (s₀ := s₀) (b := false) (j := j) (n := 0) (vs := []) (skv := skv) hd hu B' X' T' S' hTr hFn d1 lp lt hpl hpo hj ggr mst hok hsk slo Fz1 Nz1 ok ht hpre ?rl1 ?k1a ?k1b (by simp) ⟨by omega, by omega, by omega, by omega, by omega⟩ (fun q hq => ⟨Nat.ne_of_lt (Nat.lt_trans (allLt_lt mr0.2.2.2 q hq) (by omega)), Nat.ne_of_lt (Nat.lt_trans (allLt_lt mr0.2.2.2 q hq) (by omega)), Nat.ne_of_lt (allLt_lt mr0.2.2.2 q hq)⟩) fun Z1 k1 tk1 ot1 rs1 h1 tks1 H1 sub1 qz1 F1 N1 ok1 ht1 hpre1 hrl1 hk11 hk21 => ?_)
  case rl1 => omega
  case k1a => omega
  case k1b => omega
  refine ⟨h1, tks1, _, (td0, _) :: (rl0, _) :: (L + 1, o1) :: (pl, _) :: (tb, _) :: Z1, rfl, F1, N1, offI (by omega) (by omega) (by omega) (by omega) (by omega) qz1, ⟨.head _, trivial⟩, ?_⟩
  have hTr2 := truth_spec (std.up sub1) (made_spec (std.up sub1) (hTake.up sub1) (hFn.up sub1) 4) (by decide)
  refine ItemsRest.val (fun h92 tk92 F92 => ?_)
  refine AllObj.cons (fun it2 hc2 => ?_)
  refine AllObj.nil (fun N92 => ?_)
  simp only [List.cons_append, List.nil_append] at N92
  change Fr h₀ L h92 _ at F92
  change News h₀ L h92 _ at N92
  k_unmd
  repeat' ((try k_unmd); (fail_if_success (with_reducible show wpAny _ _ (pyIter _) _ _ _)); (fail_if_success (with_reducible show wpAny _ _ (execs (Stmt.Assign [Expr.Name (Str.ofString "heard") _] _ _ :: _) _) _ _ _)); first | ((with_reducible show wpAny _ _ (newTuple [Value.bool _, Value.bool _]) _ _ _); k_here; k_dflt (refine' kup_newTuple ?F ?N ?_ ?z; (case F | N => k_asm); (case z => kmk_size)); intro td0 hd0 Fd0 Nd0 md0; (k_lt md0)) | ((with_reducible show wpAny _ _ (newList []) _ _ _); k_here; k_dflt (refine' newList_K ?F ?N ?_; (case F | N => k_asm)); intro rl0 hr0 Fr0 Nr0 mr0; (k_lt mr0)) | (k_unfold; (try dsimp only)) | (k_end; wrow_close) | walk1 | (dsimp only; walk1) | (leave1; walk_say "STEP leave1"; try dsimp only) | fail "no step")
  rename Fr h₀ L _ _ => Fz2
  rename News h₀ L _ _ => Nz2
  rw [norm1 (m := fun y => _) (a := Str.ofString "is_on") rfl (norm1 (a := Str.ofString "rows") rfl (norm1 (a := Str.ofString "spot") rfl (norm1 (a := Str.ofString "plain") rfl (norm1 (a := Str.ofString "states") rfl (norm1 (a := Str.ofString "groups") rfl (norm1 (a := Str.ofString "take") rfl rfl))))))] at Fz2
  k_dflt (refine law_turn (s₀ := s₀) (b := true) (j := j) (n := 1) (vs := ([] ++ [.bool (ev (sgu skv j false) P)])) (skv := skv) hd hu B' X' T' S' hTr2 (hFn.up sub1) d1 lp lt (hpl.mono sub1) hpo hj (fun i hi => let ⟨x, y1, y2⟩ := ggr i hi; ⟨x, y1, y2.mono sub1⟩) (sub1 _ mst) hok hsk slo Fz2 Nz2 ok1 ht1 hpre1 ?rl2 ?k2a ?k2b (by simp) ⟨by omega, by omega, by omega, by omega, by omega⟩ qz1 fun Z2 k2 tk2 ot2 rs2 h2 tks2 H2 sub2 qz2 F2 N2 ok2 ht2 hpre2 hrl2 hk12 hk22 => ?_)
  case rl2 => omega
  case k2a => omega
  case k2b => omega
  refine ⟨h2, tks2, _, (td0, _) :: (rl0, _) :: (L + 1, o1) :: (pl, _) :: (tb, _) :: Z2, rfl, F2, N2, offI (by omega) (by omega) (by omega) (by omega) (by omega) qz2, ⟨.head _, trivial⟩, ?_⟩
  refine ItemsRest.zero (fun h3 tk3 F3 N3 => ?_)
  change Fr h₀ L h3 _ at F3
  change News h₀ L h3 _ at N3
  simp only [List.nil_append, List.cons_append] at N3
  have hb := ev_up (d := 0) (sgu skv j false) (sgu skv j true) sgu_up hpo
  generalize ev (sgu skv j false) P = b0 at hb N3
  generalize ev (sgu skv j true) P = b1 at hb N3
  try clear F2
  try clear N2
  k_unmd
  cases b0 <;> cases b1
  · repeat' ((try k_unmd); (fail_if_success (with_reducible show wpAny _ _ (pyIter _) _ _ _)); (fail_if_success (with_reducible show wpAny _ _ (execs (Stmt.Assign [Expr.Name (Str.ofString "heard") _] _ _ :: _) _) _ _ _)); first | ((with_reducible show wpAny _ _ (newTuple [Value.bool _, Value.bool _]) _ _ _); k_here; k_dflt (refine' kup_newTuple ?F ?N ?_ ?z; (case F | N => k_asm); (case z => kmk_size)); intro td0 hd0 Fd0 Nd0 md0; (k_lt md0)) | ((with_reducible show wpAny _ _ (newList []) _ _ _); k_here; k_dflt (refine' newList_K ?F ?N ?_; (case F | N => k_asm)); intro rl0 hr0 Fr0 Nr0 mr0; (k_lt mr0)) | (k_unfold; (try dsimp only)) | (k_end; wrow_close) | walk1 | (dsimp only; walk1) | (leave1; walk_say "STEP leave1"; try dsimp only) | fail "no step")
    exact next _ _ _ _ F3 N3 (fun q h => mem_l (x := [_, _, _, _, _]) (sub2 q (sub1 q h)))
  · repeat' ((try k_unmd); (fail_if_success (with_reducible show wpAny _ _ (pyIter _) _ _ _)); (fail_if_success (with_reducible show wpAny _ _ (execs (Stmt.Assign [Expr.Name (Str.ofString "heard") _] _ _ :: _) _) _ _ _)); first | ((with_reducible show wpAny _ _ (newTuple [Value.bool _, Value.bool _]) _ _ _); k_here; k_dflt (refine' kup_newTuple ?F ?N ?_ ?z; (case F | N => k_asm); (case z => kmk_size)); intro td0 hd0 Fd0 Nd0 md0; (k_lt md0)) | ((with_reducible show wpAny _ _ (newList []) _ _ _); k_here; k_dflt (refine' newList_K ?F ?N ?_; (case F | N => k_asm)); intro rl0 hr0 Fr0 Nr0 mr0; (k_lt mr0)) | (k_unfold; (try dsimp only)) | (k_end; wrow_close) | walk1 | (dsimp only; walk1) | (leave1; walk_say "STEP leave1"; try dsimp only) | fail "no step")
    exact next _ _ _ _ F3 N3 (fun q h => mem_l (x := [_, _, _, _, _]) (sub2 q (sub1 q h)))
  · exact absurd (hb rfl) (by decide)
  · repeat' ((try k_unmd); (fail_if_success (with_reducible show wpAny _ _ (pyIter _) _ _ _)); (fail_if_success (with_reducible show wpAny _ _ (execs (Stmt.Assign [Expr.Name (Str.ofString "heard") _] _ _ :: _) _) _ _ _)); first | ((with_reducible show wpAny _ _ (newTuple [Value.bool _, Value.bool _]) _ _ _); k_here; k_dflt (refine' kup_newTuple ?F ?N ?_ ?z; (case F | N => k_asm); (case z => kmk_size)); intro td0 hd0 Fd0 Nd0 md0; (k_lt md0)) | ((with_reducible show wpAny _ _ (newList []) _ _ _); k_here; k_dflt (refine' newList_K ?F ?N ?_; (case F | N => k_asm)); intro rl0 hr0 Fr0 Nr0 mr0; (k_lt mr0)) | (k_unfold; (try dsimp only)) | (k_end; wrow_close) | walk1 | (dsimp only; walk1) | (leave1; walk_say "STEP leave1"; try dsimp only) | fail "no step")
    exact next _ _ _ _ F3 N3 (fun q h => mem_l (x := [_, _, _, _, _]) (sub2 q (sub1 q h)))
end
end
/-! ## part Base16 -/
section
example : True := by (w_top off; trivial)
theorem take_spec {prog : Program} {w : World} {p : Program} {loose : List Str} {mean : ExcName → Option Value} {mg mb : Str → Option Value} {np nl : Nat} {I : LL} {pl tf c' cc cp cl : Addr} {nm qual : Str} {doc pm ctv : Value} {oc occ ocp : Obj} {vs : Array Value} {t : Tok} {items : List Value} {ns : List Int}
    (hg : prog.given.tree = none)
    (m1 : (tf, fnMade nm qual (stArgs takeSt) (stBody takeSt) (stScope takeSt) [(Str.ofString "place", cp), (Str.ofString "cells", cc)] doc pm c' ctv) ∈ I)
    (m2 : (c', oc) ∈ I) (d2 : oc.data = .fields vs) (d3 : vs[1]? = some (.str qual t))
    (m3 : (cc, occ) ∈ I) (d4 : occ.data = .cell (some (.ref cl))) (m4 : (cp, ocp) ∈ I) (d5 : ocp.data = .cell (some (.ref pl)))
    (m5 : (cl, ({ cls := .type "list", data := .seq items.toArray nl } : Obj)) ∈ I) (hI : IntsAre items ns) (hn0 : 0 < ns.length) (hn1 : ns.length ≤ 63) : TakeSpec prog w p loose mean mg mb np pl tf I :=
  fun A A₀ env outer base h₀ L m s Q E W k tk ltk lim hA hf hke hh hd hu B F X T S N hne hi hk0 hk hl0 hl1 ret =>
    take_core hA hf hke hh hd hg S hu B F X T N hne (hi _ m1) (hi _ m2) d2 d3 (hi _ m3) d4 (hi _ m4) d5 (hi _ m5) hI hn0 hn1 hk0 hk hl0 hl1 ret
theorem law_rest {prog : Program} {w : World} {p : Program} {loose : List Str} {mean : ExcName → Option Value} {mg mb : Str → Option Value} {np : Nat} {pl tb tf : Addr}
    {sh dsh tr fa : Addr} {t1 t2 : Tok} {cd : Value} {base h₀ : Heap} {L : Addr} {s s₀ : Shared} {Q : Flow → Shared → Prop} {E : Value → Shared → Prop} {outer : List Env} {dp un : Nat} {gd : Option (List Code)}
    {Z : LL} {o1 : Obj}
    (hd : dp + 170 < recursionLimit) (hu : un + 270 < cLine) (B' : Below ({ handled := none, depth := dp, frames := some outer, guards := gd, units := un } : Around) base outer h₀) (X' : (K w.params).In h₀) (T' : Top p loose mean mg mb h₀) (S' : h₀.NoSeer)
    (hTake : TakeSpec prog w p loose mean mg mb np pl tf Z) (hFn : FnIn Z tf)
    (m1 : (sh, instObj 363 dsh) ∈ Z) (m2 : (dsh, dictOf [{ hash := PyData.keyHash w.params (Str.ofString "table"), key := .str (Str.ofString "table") t1, val := .ref tb }, { hash := PyData.keyHash w.params (Str.ofString "trailer"), key := .str (Str.ofString "trailer") t2, val := .ref tr }] 2) ∈ Z)
    (lo : (tb == sysModules) = false) (d1 : o1.data = .cell (some (.ref sh))) (lp : @LT.lt Nat _ (L + 1) pl) (lt : @LT.lt Nat _ (L + 1) tb) (hE : PassesOwn (model prog w) (({ handled := none, depth := dp, frames := some outer, guards := gd, units := un } : Around).deeper (envOfC (Str.ofString "law") (stScope lawSt) L fa cd)) (envOfC (Str.ofString "law") (stScope lawSt) L fa cd) E)
    (hK : ∃ tk ot h tks m0, s = { s₀ with heap := h, toks := tks } ∧ Fr h₀ L h ((fun (m0 : Str → Option Value) (y : Str) => if y = Str.ofString "take" then some (.ref tf) else m0 y) m0) ∧ News h₀ L h ((L + 1, o1) :: (pl, placeO 0 tk np) :: (tb, ot) :: Z) ∧ Ok pl tb Z Z ∧ Tab prog w Z ot [])
    (fin : ∀ h' tks' m' Z', Fr h₀ L h' m' → News h₀ L h' Z' → (∀ q ∈ Z, q ∈ Z') → Q (.ret (.bool true)) { s₀ with heap := h', toks := tks' }) :
    wpAny (model prog w) (({ handled := none, depth := dp, frames := some outer, guards := gd, units := un } : Around).deeper (envOfC (Str.ofString "law") (stScope lawSt) L fa cd)) (execs (lS 2 :: lS 3 :: lS 4 :: lS 5 :: lS 6 :: lS 7 :: lS 8 :: lS 9 :: lS 10 :: []) (envOfC (Str.ofString "law") (stScope lawSt) L fa cd)) Q E s := by
  refine law_l2 (rs₀ := []) hd hu B' X' T' S' hTake hFn m1 m2 lo d1 lp lt hK fun gl ng gvs rs1 Z1 s1 sub1 mg1 gl4 grf ggr hK1 => ?_
  refine law_l4 (gl := gl) hd hu B' X' T' S' (hTake.up sub1) (hFn.up sub1) (sub1 _ m1) (sub1 _ m2) lo d1 lp lt hE mg1 gl4 grf ggr hK1 fun st os skv Z2 s2 sub2 mst hok hsk slo hK2 => ?_
  have sub2' := fun q h => sub2 q (sub1 q h)
  have grf2 := fun i v h => (grf i v h).mono sub2
  have ggr2 := fun i hi => let ⟨x, y1, y2⟩ := ggr i hi; (⟨x, y1, y2.mono sub2⟩ : ∃ x, rs1[i]? = some (Value.ref x) ∧ GroupIn prog w Z2 x)
  refine law_l5 (gl := gl) hd hu B' X' T' S' (hTake.up sub2') (hFn.up sub2') (sub2' _ m1) (sub2' _ m2) lo d1 lp lt (sub2 _ mg1) gl4 grf2 ggr2 mst hok hsk slo hK2 fun Z3 s3 sub3 hK3 => ?_
  have sub3' := fun q h => sub3 q (sub2' q h)
  refine law_l6 (gl := gl) (st := st) hd hu B' X' T' S' (hTake.up sub3') (hFn.up sub3') (sub3' _ m1) (sub3' _ m2) lo d1 lp lt hK3 fun vp P Z4 s4 sub4 hp4 hpo hK4 => ?_
  have sub4' := fun q h => sub4 q (sub3' q h)
  have s42 := fun q h => sub4 q (sub3 q h)
  have grf4 := fun i v h => (grf2 i v h).mono s42
  have ggr4 := fun i hi => let ⟨x, y1, y2⟩ := ggr2 i hi; (⟨x, y1, y2.mono s42⟩ : ∃ x, rs1[i]? = some (Value.ref x) ∧ GroupIn prog w Z4 x)
  refine law_l7 (gl := gl) (st := st) hd hu B' X' T' S' (hTake.up sub4') (hFn.up sub4') (sub4' _ m1) (sub4' _ m2) lo d1 lp lt (s42 _ (sub2 _ mg1)) gl4 grf4 ggr4 hK4 fun j stk Z5 s5 sub5 hj hK5 => ?_
  have sub5' := fun q h => sub5 q (sub4' q h)
  have s52 := fun q h => sub5 q (s42 q h)
  exact law_l8 (gl := gl) (j := j) hd hu B' X' T' S' (hTake.up sub5') (hFn.up sub5') (sub5' _ m1) (sub5' _ m2) lo d1 lp lt (hp4.mono sub5) hpo hj hE (s52 _ (sub2 _ mg1)) gl4 (fun i v h => (grf2 i v h).mono s52) (fun i hi => let ⟨x, y1, y2⟩ := ggr2 i hi; ⟨x, y1, y2.mono s52⟩) (s52 _ mst) hok hsk slo hK5 fun h' tks' m' Z' F N sub => fin h' tks' m' Z' F N fun q h => sub q (sub5' q h)
theorem tab_empty {prog : Program} {w : World} {R : LL} {ot : Obj} (h : ot.IsDictOf (intKind prog w) []) : Tab prog w R ot [] :=
  ⟨[], h, rfl, fun k => by simp [valueAt]; omega, fun j x e => by simp at e⟩
theorem law_go {prog : Program} {w : World} {p : Program} {loose : List Str} {mean : ExcName → Option Value} {mg mb : Str → Option Value} {npp nl : Nat} {pl tb tf : Addr}
    {sh dsh tr fa c' cc cp cl : Addr} {t1 t2 t tkp : Tok} {cd : Value} {base h₀ h : Heap} {L : Addr} {s₀ : Shared} {tks : Nat} {Q : Flow → Shared → Prop} {E : Value → Shared → Prop} {outer : List Env} {dp un : Nat} {gd : Option (List Code)}
    {W V : LL} {o1 otr ot oc occ ocp : Obj} {nm qual : Str} {doc pm ctv : Value} {vs : Array Value} {items : List Value} {ns : List Int} {m0 : Str → Option Value}
    (hd : dp + 170 < recursionLimit) (hu : un + 270 < cLine) (B' : Below ({ handled := none, depth := dp, frames := some outer, guards := gd, units := un } : Around) base outer h₀) (X' : (K w.params).In h₀) (T' : Top p loose mean mg mb h₀) (S' : h₀.NoSeer) (hg : prog.given.tree = none)
    (F : Fr h₀ L h ((fun (m0 : Str → Option Value) (y : Str) => if y = Str.ofString "take" then some (.ref tf) else m0 y) m0))
    (N : News h₀ L h ((sh, instObj 363 dsh) :: (dsh, dictOf [{ hash := PyData.keyHash w.params (Str.ofString "table"), key := .str (Str.ofString "table") t1, val := .ref tb }, { hash := PyData.keyHash w.params (Str.ofString "trailer"), key := .str (Str.ofString "trailer") t2, val := .ref tr }] 2) :: (tr, otr) :: (tb, ot) :: (tf, fnMade nm qual (stArgs takeSt) (stBody takeSt) (stScope takeSt) [(Str.ofString "place", cp), (Str.ofString "cells", cc)] doc pm c' ctv) :: (c', oc) :: (pl, placeO 0 tkp npp) :: (W ++ (L + 1, o1) :: V)))
    (d2 : oc.data = .fields vs) (d3 : vs[1]? = some (.str qual t)) (m3 : (cc, occ) ∈ W) (d4 : occ.data = .cell (some (.ref cl))) (m4 : (cp, ocp) ∈ W) (d5 : ocp.data = .cell (some (.ref pl)))
    (m5 : (cl, ({ cls := .type "list", data := .seq items.toArray nl } : Obj)) ∈ W) (hI : IntsAre items ns) (hn0 : 0 < ns.length) (hn1 : ns.length ≤ 63)
    (d1 : o1.data = .cell (some (.ref sh))) (lo : (tb == sysModules) = false) (hot : ot.IsDictOf (intKind prog w) []) (lp : @LT.lt Nat _ (L + 1) pl) (lt : @LT.lt Nat _ (L + 1) tb)
    (hp1 : ∀ q ∈ (sh, instObj 363 dsh) :: (dsh, dictOf [{ hash := PyData.keyHash w.params (Str.ofString "table"), key := .str (Str.ofString "table") t1, val := .ref tb }, { hash := PyData.keyHash w.params (Str.ofString "trailer"), key := .str (Str.ofString "trailer") t2, val := .ref tr }] 2) :: (tr, otr) :: (tf, fnMade nm qual (stArgs takeSt) (stBody takeSt) (stScope takeSt) [(Str.ofString "place", cp), (Str.ofString "cells", cc)] doc pm c' ctv) :: (c', oc) :: (W ++ V), q.1 ≠ pl) (hp2 : ∀ q ∈ (sh, instObj 363 dsh) :: (dsh, dictOf [{ hash := PyData.keyHash w.params (Str.ofString "table"), key := .str (Str.ofString "table") t1, val := .ref tb }, { hash := PyData.keyHash w.params (Str.ofString "trailer"), key := .str (Str.ofString "trailer") t2, val := .ref tr }] 2) :: (tr, otr) :: (tf, fnMade nm qual (stArgs takeSt) (stBody takeSt) (stScope takeSt) [(Str.ofString "place", cp), (Str.ofString "cells", cc)] doc pm c' ctv) :: (c', oc) :: (W ++ V), q.1 ≠ tb) (hpt : tb ≠ pl) (hE : PassesOwn (model prog w) (({ handled := none, depth := dp, frames := some outer, guards := gd, units := un } : Around).deeper (envOfC (Str.ofString "law") (stScope lawSt) L fa cd)) (envOfC (Str.ofString "law") (stScope lawSt) L fa cd) E)
    (fin : ∀ h' tks' m' Z', Fr h₀ L h' m' → News h₀ L h' Z' → (∀ q ∈ V, q ∈ Z') → Q (.ret (.bool true)) { s₀ with heap := h', toks := tks' }) :
    wpAny (model prog w) (({ handled := none, depth := dp, frames := some outer, guards := gd, units := un } : Around).deeper (envOfC (Str.ofString "law") (stScope lawSt) L fa cd)) (execs (lS 2 :: lS 3 :: lS 4 :: lS 5 :: lS 6 :: lS 7 :: lS 8 :: lS 9 :: lS 10 :: []) (envOfC (Str.ofString "law") (stScope lawSt) L fa cd)) Q E { s₀ with heap := h, toks := tks } := by
  have up : ∀ q ∈ W, q ∈ (sh, instObj 363 dsh) :: (dsh, dictOf [{ hash := PyData.keyHash w.params (Str.ofString "table"), key := .str (Str.ofString "table") t1, val := .ref tb }, { hash := PyData.keyHash w.params (Str.ofString "trailer"), key := .str (Str.ofString "trailer") t2, val := .ref tr }] 2) :: (tr, otr) :: (tf, fnMade nm qual (stArgs takeSt) (stBody takeSt) (stScope takeSt) [(Str.ofString "place", cp), (Str.ofString "cells", cc)] doc pm c' ctv) :: (c', oc) :: (W ++ V) := fun q hq => .tail _ (.tail _ (.tail _ (.tail _ (.tail _ (mem_r hq)))))
  refine law_rest (np := npp) (Z := (sh, instObj 363 dsh) :: (dsh, dictOf [{ hash := PyData.keyHash w.params (Str.ofString "table"), key := .str (Str.ofString "table") t1, val := .ref tb }, { hash := PyData.keyHash w.params (Str.ofString "trailer"), key := .str (Str.ofString "trailer") t2, val := .ref tr }] 2) :: (tr, otr) :: (tf, fnMade nm qual (stArgs takeSt) (stBody takeSt) (stScope takeSt) [(Str.ofString "place", cp), (Str.ofString "cells", cc)] doc pm c' ctv) :: (c', oc) :: (W ++ V)) hd hu B' X' T' S' (take_spec hg (.tail _ (.tail _ (.tail _ (.head _)))) (.tail _ (.tail _ (.tail _ (.tail _ (.head _))))) d2 d3 (up _ m3) d4 (up _ m4) d5 (up _ m5) hI hn0 hn1)
    ⟨_, _, _, _, .tail _ (.tail _ (.tail _ (.head _)))⟩ (.head _) (.tail _ (.head _)) lo d1 lp lt hE ⟨tkp, ot, h, tks, m0, rfl, F, fun q hq => N q ?_, ⟨fun _ h => h, hp1, hp2, hpt⟩, tab_empty hot⟩ fun h' tks' m' Z' F N sub => fin h' tks' m' Z' F N fun q h => sub q (.tail _ (.tail _ (.tail _ (.tail _ (.tail _ (mem_l h))))))
  simp only [List.mem_cons, List.mem_append] at hq ⊢
  rcases hq with h | h | h | h | h | h | h | h | h | h <;> simp [h]
end
/-! ## part main -/
section
example : True := by (w_top off; trivial)
local macro_rules | `(tactic| walk_at "none") => `(tactic| fail)
theorem law_x : WalkO V [Str.ofString "PaperError", Str.ofString "told_objects", Str.ofString "expression_state"] (XL V []) (kmHook K kAs (fun _ => by kernel_rfl) [387]).says PySem.Challenge.rw_og0163_01.row.toRowW lawRec [] (fun f vs => call f vs) := by
  have eA : stArgs (pT 33) = stArgs (pT 33) := rfl
  conv at eA => rhs; whnf
  have eB : stBody (pT 33) = stBody (pT 33) := rfl
  conv at eB => rhs; whnf
  have eS : stScope (pT 33) = stScope (pT 33) := rfl
  conv at eS => rhs; whnf
  have eP : stPos (pT 33) = stPos (pT 33) := rfl
  conv at eP => rhs; whnf
  unfold lawRec
  rw [eA, eB, eS, eP]
  clear eA eB eS eP
  k_go0
  all_goals try k_fold
  repeat' ((try k_unmd); (fail_if_success (with_reducible show wpAny _ _ (exec (Stmt.Assign [Expr.Name (Str.ofString "groups") _] _ _) _) _ _ _)); (fail_if_success (with_reducible show wpAny _ _ (execs (Stmt.Assign [Expr.Name (Str.ofString "groups") _] _ _ :: _) _) _ _ _)); first | (k_unfold; (try dsimp only)) | (k_end; wrow_close) | walk1 | (dsimp only; walk1) | (leave1; walk_say "STEP leave1"; try dsimp only) | fail "no step")
  · k_dflt (refine' law_go (W := [_, _, _, _, _]) (V := [_]) (npp := 0) ?hd ?hu ?B ?X ?T ?S ?hg ?F ?N ?d2 ?d3 ?m3 ?d4 ?m4 ?d5 ?m5 ?hI ?hn0 ?hn1 ?d1 ?lo ?hot ?lp ?lt ?hp1 ?hp2 ?hpt ?hE ?fin)
    case hd => decide
    case hu => decide
    case B => k_asm
    case X => k_asm
    case T => k_asm
    case S => exact ghost_seer (by assumption) (Top.seer (p := V) (by assumption) rfl)
    case hg => rfl
    case F => k_asm
    case N => k_asm
    case d2 => assumption
    case d3 => assumption
    case m3 => k_mem
    case d4 => assumption
    case m4 => k_mem
    case d5 => assumption
    case m5 => k_mem
    case hI => exact .cons 1 _ .nil
    case hn0 => decide
    case hn1 => decide
    case d1 => assumption
    case lo => assumption
    case hot => assumption
    case lp => (refine ltN ?_; omega)
    case lt => (refine ltN ?_; omega)
    case hp1 => (simp only [List.cons_append, List.nil_append]; tb_rel)
    case hp2 => (simp only [List.cons_append, List.nil_append]; tb_rel)
    case hpt => k_ne
    case hE => passes_own
    case fin =>
      intro h9 tk9 m9 Z9 F9 N9 sub9
      refine And.intro ?_ (And.intro (GrownAt.of N9 (sub9 _ (.head _))) trivial)
      repeat' (first | (k_unfold; (try dsimp only)) | (k_end; wrow_close) | walk1 | (dsimp only; walk1) | (leave1; walk_say "STEP leave1"; try dsimp only) | fail "no step")
  · k_dflt (refine' law_go (W := [_, _, _, _]) (V := [_]) (npp := 0) ?hd ?hu ?B ?X ?T ?S ?hg ?F ?N ?d2 ?d3 ?m3 ?d4 ?m4 ?d5 ?m5 ?hI ?hn0 ?hn1 ?d1 ?lo ?hot ?lp ?lt ?hp1 ?hp2 ?hpt ?hE ?fin)
    case hd => decide
    case hu => decide
    case B => k_asm
    case X => k_asm
    case T => k_asm
    case S => exact ghost_seer (by assumption) (Top.seer (p := V) (by assumption) rfl)
    case hg => rfl
    case F => k_asm
    case N => k_asm
    case d2 => assumption
    case d3 => assumption
    case m3 => k_mem
    case d4 => assumption
    case m4 => k_mem
    case d5 => assumption
    case m5 => k_mem
    case hI => assumption
    case hn0 => (have hne : List.take 63 _ ≠ [] := of_decide_eq_false (by assumption)); exact List.length_pos_iff.mpr hne
    case hn1 => exact List.length_take_le _ _
    case d1 => assumption
    case lo => assumption
    case hot => assumption
    case lp => (refine ltN ?_; omega)
    case lt => (refine ltN ?_; omega)
    case hp1 => (simp only [List.cons_append, List.nil_append]; tb_rel)
    case hp2 => (simp only [List.cons_append, List.nil_append]; tb_rel)
    case hpt => k_ne
    case hE => passes_own
    case fin =>
      intro h9 tk9 m9 Z9 F9 N9 sub9
      refine And.intro ?_ (And.intro (GrownAt.of N9 (sub9 _ (.head _))) trivial)
      repeat' (first | (k_unfold; (try dsimp only)) | (k_end; wrow_close) | walk1 | (dsimp only; walk1) | (leave1; walk_say "STEP leave1"; try dsimp only) | fail "no step")
end
theorem hA.tw1001673692942135953 : True := .intro
theorem hA.tw10034613797919558597 : True := .intro
theorem hA.tw10050228559878521630 : True := .intro
theorem hA.tw10143438864074048374 : True := .intro
theorem hA.tw10214444756502903571 : True := .intro
theorem hA.tw10243597615708535518 : True := .intro
theorem hA.tw10331380517768161155 : True := .intro
theorem hA.tw10403360765622003174 : True := .intro
theorem hA.tw10407012213150237314 : True := .intro
theorem hA.tw10434964152302014815 : True := .intro
theorem hA.tw10468280968373669347 : True := .intro
theorem hA.tw10516463000603616530 : True := .intro
theorem hA.tw10545425456360773452 : True := .intro
theorem hA.tw10608883467333705041 : True := .intro
theorem hA.tw10609885227126110799 : True := .intro
theorem hA.tw10725833575839432916 : True := .intro
theorem hA.tw10760333248432348341 : True := .intro
theorem hA.tw10895697339261223119 : True := .intro
theorem hA.tw11004429545532808623 : True := .intro
theorem hA.tw11009972253593875617 : True := .intro
theorem hA.tw11054482151664466720 : True := .intro
theorem hA.tw11072837256099719961 : True := .intro
theorem hA.tw11116477597034222378 : True := .intro
theorem hA.tw11141307898943748960 : True := .intro
theorem hA.tw11179515055813578373 : True := .intro
theorem hA.tw11284042253612949614 : True := .intro
theorem hA.tw11297119335164481733 : True := .intro
theorem hA.tw11375672049380813479 : True := .intro
theorem hA.tw1139152740827177467 : True := .intro
theorem hA.tw11412427546303449078 : True := .intro
theorem hA.tw11433450103524286181 : True := .intro
theorem hA.tw11465620283886130167 : True := .intro
theorem hA.tw11493503858287257574 : True := .intro
theorem hA.tw11570008456783554604 : True := .intro
theorem hA.tw11593689737488098592 : True := .intro
theorem hA.tw11597456634080024055 : True := .intro
theorem hA.tw11618913910778718807 : True := .intro
theorem hA.tw11623284716670205435 : True := .intro
theorem hA.tw11734467915766499116 : True := .intro
theorem hA.tw11938368495424172537 : True := .intro
theorem hA.tw11953666482559423448 : True := .intro
theorem hA.tw1197798398970953661 : True := .intro
theorem hA.tw11985003894834964254 : True := .intro
theorem hA.tw12032974134073936593 : True := .intro
theorem hA.tw12040495170345210865 : True := .intro
theorem hA.tw12064313194699579022 : True := .intro
theorem hA.tw12088430979705783752 : True := .intro
theorem hA.tw12099109031683724631 : True := .intro
theorem hA.tw1213796092792711912 : True := .intro
theorem hA.tw1214871990635370798 : True := .intro
theorem hA.tw12237094458829019958 : True := .intro
theorem hA.tw12251297396292976410 : True := .intro
theorem hA.tw12279676157577362278 : True := .intro
theorem hA.tw12335813882019030508 : True := .intro
theorem hA.tw12365890123060813175 : True := .intro
theorem hA.tw12435276343807083633 : True := .intro
theorem hA.tw12611847417336201915 : True := .intro
theorem hA.tw12683682464916481046 : True := .intro
theorem hA.tw12689706067691070979 : True := .intro
theorem hA.tw12764059695200775159 : True := .intro
theorem hA.tw12770746345669541474 : True := .intro
theorem hA.tw12802545559551161082 : True := .intro
theorem hA.tw1283670441784707761 : True := .intro
theorem hA.tw12950053208893763190 : True := .intro
theorem hA.tw12983693798480793868 : True := .intro
theorem hA.tw13046268724218649625 : True := .intro
theorem hA.tw13063780852419617486 : True := .intro
theorem hA.tw13130023790325968475 : True := .intro
theorem hA.tw13194187174478861276 : True := .intro
theorem hA.tw13232444934478446445 : True := .intro
theorem hA.tw13288729340704719424 : True := .intro
theorem hA.tw13305440034180053091 : True := .intro
theorem hA.tw13306218854784813244 : True := .intro
theorem hA.tw1333079719030890352 : True := .intro
theorem hA.tw13390447172896388984 : True := .intro
theorem hA.tw13410873990303242236 : True := .intro
theorem hA.tw13574501470422043245 : True := .intro
theorem hA.tw13578569512387608376 : True := .intro
theorem hA.tw13633056198955762306 : True := .intro
theorem hA.tw13665019935128694209 : True := .intro
theorem hA.tw13691830452316223088 : True := .intro
theorem hA.tw1372376306986296389 : True := .intro
theorem hA.tw13727781078649118655 : True := .intro
theorem hA.tw13789661589645334741 : True := .intro
theorem hA.tw13801501041211250644 : True := .intro
theorem hA.tw13825626142708276001 : True := .intro
theorem hA.tw13829205987020680582 : True := .intro
theorem hA.tw13849029410250208801 : True := .intro
theorem hA.tw13947128581336156874 : True := .intro
theorem hA.tw13999745414641886028 : True := .intro
theorem hA.tw14000131136078036067 : True := .intro
theorem hA.tw14022777505565206261 : True := .intro
theorem hA.tw1407007697835892962 : True := .intro
theorem hA.tw1414760244822999653 : True := .intro
theorem hA.tw14154771498964726114 : True := .intro
theorem hA.tw14181829525886778153 : True := .intro
theorem hA.tw14247657912411704181 : True := .intro
theorem hA.tw14276882171632645476 : True := .intro
theorem hA.tw1431831265952819346 : True := .intro
theorem hA.tw14347485078516299751 : True := .intro
theorem hA.tw14349443228330363484 : True := .intro
theorem hA.tw14359804953623769276 : True := .intro
theorem hA.tw1439186329227480813 : True := .intro
theorem hA.tw14398929510565901729 : True := .intro
theorem hA.tw14414260554143524918 : True := .intro
theorem hA.tw14444927278901405442 : True := .intro
theorem hA.tw14598941287614514657 : True := .intro
theorem hA.tw14686804042380317610 : True := .intro
theorem hA.tw14732608638009777671 : True := .intro
theorem hA.tw14802836784778780425 : True := .intro
theorem hA.tw14821919788016373619 : True := .intro
theorem hA.tw14840263366323963015 : True := .intro
theorem hA.tw14904994285005962308 : True := .intro
theorem hA.tw14986483185677669858 : True := .intro
theorem hA.tw15035770124528884631 : True := .intro
theorem hA.tw15108903859989436656 : True := .intro
theorem hA.tw15115724618689299559 : True := .intro
theorem hA.tw15118156906031823241 : True := .intro
theorem hA.tw15132081561337789355 : True := .intro
theorem hA.tw15217785573798819149 : True := .intro
theorem hA.tw15220543457134898542 : True := .intro
theorem hA.tw15228756952469554388 : True := .intro
theorem hA.tw15277400280716017994 : True := .intro
theorem hA.tw15303550292932292751 : True := .intro
theorem hA.tw15387307323762711259 : True := .intro
theorem hA.tw15395858264559752680 : True := .intro
theorem hA.tw15570428607874344991 : True := .intro
theorem hA.tw15580392348410807715 : True := .intro
theorem hA.tw15656415768456791007 : True := .intro
theorem hA.tw15693009420256516482 : True := .intro
theorem hA.tw1571136585401159107 : True := .intro
theorem hA.tw15735625479509222121 : True := .intro
theorem hA.tw15766107772417830240 : True := .intro
theorem hA.tw15784908945063805390 : True := .intro
theorem hA.tw15854011010998139770 : True := .intro
theorem hA.tw15896712701117562469 : True := .intro
theorem hA.tw15927499780129579329 : True := .intro
theorem hA.tw15935757629868664813 : True := .intro
theorem hA.tw15958744615184625161 : True := .intro
theorem hA.tw16074779182142586960 : True := .intro
theorem hA.tw16075689976963587279 : True := .intro
theorem hA.tw16108989058755260688 : True := .intro
theorem hA.tw16124572372030119811 : True := .intro
theorem hA.tw16135564113113900909 : True := .intro
theorem hA.tw16152222104854550896 : True := .intro
theorem hA.tw16176593623613019458 : True := .intro
theorem hA.tw16321646582208452777 : True := .intro
theorem hA.tw16328771869525267497 : True := .intro
theorem hA.tw16361552611130217932 : True := .intro
theorem hA.tw16402604778385274956 : True := .intro
theorem hA.tw16439899868117011830 : True := .intro
theorem hA.tw1644210684909162489 : True := .intro
theorem hA.tw164788396930304980 : True := .intro
theorem hA.tw16478979634735720910 : True := .intro
theorem hA.tw1649204154535536534 : True := .intro
theorem hA.tw1651446708783139955 : True := .intro
theorem hA.tw16532232621562243900 : True := .intro
theorem hA.tw16533066276950327347 : True := .intro
theorem hA.tw16539957151658295417 : True := .intro
theorem hA.tw16606494505486864106 : True := .intro
theorem hA.tw16651384478379327823 : True := .intro
theorem hA.tw16754598727395690661 : True := .intro
theorem hA.tw1679212895472133490 : True := .intro
theorem hA.tw16794325814043138417 : True := .intro
theorem hA.tw16802079846361583467 : True := .intro
theorem hA.tw16811175668280819732 : True := .intro
theorem hA.tw16846222962475109938 : True := .intro
theorem hA.tw16921991820740761635 : True := .intro
theorem hA.tw16971737319559671435 : True := .intro
theorem hA.tw17020816727248340841 : True := .intro
theorem hA.tw1705987934947009582 : True := .intro
theorem hA.tw17107278256874881041 : True := .intro
theorem hA.tw17148573252934502670 : True := .intro
theorem hA.tw17191342338260971952 : True := .intro
theorem hA.tw17272271950055741836 : True := .intro
theorem hA.tw1731361425856663945 : True := .intro
theorem hA.tw17501506152368757457 : True := .intro
theorem hA.tw17506637265508035070 : True := .intro
theorem hA.tw1756661382073684872 : True := .intro
theorem hA.tw17661906869374715264 : True := .intro
theorem hA.tw17673679205074087050 : True := .intro
theorem hA.tw17732913624160235677 : True := .intro
theorem hA.tw17748695240863206201 : True := .intro
theorem hA.tw17771136297934764759 : True := .intro
theorem hA.tw17802146344102672859 : True := .intro
theorem hA.tw17850645914134433861 : True := .intro
theorem hA.tw17868895520886369753 : True := .intro
theorem hA.tw18042320845042206252 : True := .intro
theorem hA.tw18051979563532571530 : True := .intro
theorem hA.tw18111039878286523213 : True := .intro
theorem hA.tw18160031528232729614 : True := .intro
theorem hA.tw18199200833307092993 : True := .intro
theorem hA.tw18228616119053265226 : True := .intro
theorem hA.tw18235704045390837003 : True := .intro
theorem hA.tw18283051233237520545 : True := .intro
theorem hA.tw18299183827046802925 : True := .intro
theorem hA.tw18318176464002441503 : True := .intro
theorem hA.tw1834768218781270339 : True := .intro
theorem hA.tw18350328434212978962 : True := .intro
theorem hA.tw18364662640221957375 : True := .intro
theorem hA.tw18369172819424710956 : True := .intro
theorem hA.tw1844548174761191160 : True := .intro
theorem hA.tw1883758279516089957 : True := .intro
theorem hA.tw1910126426137277080 : True := .intro
theorem hA.tw1971766635005493910 : True := .intro
theorem hA.tw1983939383418802693 : True := .intro
theorem hA.tw2029232248077960830 : True := .intro
theorem hA.tw205848242614004460 : True := .intro
theorem hA.tw2067886242344465871 : True := .intro
theorem hA.tw2071820204790246615 : True := .intro
theorem hA.tw2123019419771131336 : True := .intro
theorem hA.tw2123377184446629835 : True := .intro
theorem hA.tw2181028242229349428 : True := .intro
theorem hA.tw2202916299931366513 : True := .intro
theorem hA.tw223339757297094326 : True := .intro
theorem hA.tw2297904631193441609 : True := .intro
theorem hA.tw2404165690884248886 : True := .intro
theorem hA.tw2431928110843878056 : True := .intro
theorem hA.tw2449428566766666623 : True := .intro
theorem hA.tw2510482765415825185 : True := .intro
theorem hA.tw2561506579296434102 : True := .intro
theorem hA.tw2605039291317371235 : True := .intro
theorem hA.tw2683384782305147166 : True := .intro
theorem hA.tw2721724384893183981 : True := .intro
theorem hA.tw2744334085749960545 : True := .intro
theorem hA.tw2799520894666002710 : True := .intro
theorem hA.tw2802378329725890151 : True := .intro
theorem hA.tw2861528689939672832 : True := .intro
theorem hA.tw292449683533943807 : True := .intro
theorem hA.tw2943415069330388333 : True := .intro
theorem hA.tw2975149780319119922 : True := .intro
theorem hA.tw3011166915737104916 : True := .intro
theorem hA.tw3040871821730396775 : True := .intro
theorem hA.tw3107588058784813786 : True := .intro
theorem hA.tw3135290427031442068 : True := .intro
theorem hA.tw3206085335011375968 : True := .intro
theorem hA.tw322586751118972276 : True := .intro
theorem hA.tw3241118607594566603 : True := .intro
theorem hA.tw3305119612077541999 : True := .intro
theorem hA.tw3330860763420640628 : True := .intro
theorem hA.tw3365248531385225527 : True := .intro
theorem hA.tw3379651621042508997 : True := .intro
theorem hA.tw3460416608627129604 : True := .intro
theorem hA.tw3539846471961794526 : True := .intro
theorem hA.tw354519630376526607 : True := .intro
theorem hA.tw3615637956591079758 : True := .intro
theorem hA.tw3656919825192030466 : True := .intro
theorem hA.tw3672657353651370101 : True := .intro
theorem hA.tw3691845658664854161 : True := .intro
theorem hA.tw3708961740268690889 : True := .intro
theorem hA.tw371589195588660266 : True := .intro
theorem hA.tw3717600640663546332 : True := .intro
theorem hA.tw3740493938936972553 : True := .intro
theorem hA.tw3790004399360186619 : True := .intro
theorem hA.tw3797654777656357583 : True := .intro
theorem hA.tw3826968630172038118 : True := .intro
theorem hA.tw3829767039036541148 : True := .intro
theorem hA.tw3831018531951878681 : True := .intro
theorem hA.tw3837246567538662927 : True := .intro
theorem hA.tw3844850506709453891 : True := .intro
theorem hA.tw3966285893584898994 : True := .intro
theorem hA.tw3970551467989051778 : True := .intro
theorem hA.tw397114932510353676 : True := .intro
theorem hA.tw4009963732653331043 : True := .intro
theorem hA.tw4062441014973234022 : True := .intro
theorem hA.tw414114132235367153 : True := .intro
theorem hA.tw4163205104510093339 : True := .intro
theorem hA.tw4205104819156496907 : True := .intro
theorem hA.tw4225391471621165819 : True := .intro
theorem hA.tw4315807868196102307 : True := .intro
theorem hA.tw4376554276294245798 : True := .intro
theorem hA.tw438971404525826032 : True := .intro
theorem hA.tw4395029647729101499 : True := .intro
theorem hA.tw441760933854023108 : True := .intro
theorem hA.tw4459085726066896505 : True := .intro
theorem hA.tw4470574844394960830 : True := .intro
theorem hA.tw4573390095533390443 : True := .intro
theorem hA.tw4606700799559199010 : True := .intro
theorem hA.tw462677247863135824 : True := .intro
theorem hA.tw464404439832851677 : True := .intro
theorem hA.tw4646528067784828028 : True := .intro
theorem hA.tw4760437398706360437 : True := .intro
theorem hA.tw4785015013086825854 : True := .intro
theorem hA.tw4853655530011023075 : True := .intro
theorem hA.tw487999210570975772 : True := .intro
theorem hA.tw4881892495421087748 : True := .intro
theorem hA.tw4961243736027390430 : True := .intro
theorem hA.tw499055051775645591 : True := .intro
theorem hA.tw4995338548189325833 : True := .intro
theorem hA.tw5036533113250579807 : True := .intro
theorem hA.tw5074419331098083313 : True := .intro
theorem hA.tw5099685931692865352 : True := .intro
theorem hA.tw5138221677967821698 : True := .intro
theorem hA.tw5141698495325460390 : True := .intro
theorem hA.tw5175661741456084299 : True := .intro
theorem hA.tw5195775926375158793 : True := .intro
theorem hA.tw5304557608941922465 : True := .intro
theorem hA.tw5330853550511812777 : True := .intro
theorem hA.tw5358227775396099358 : True := .intro
theorem hA.tw5373660379776936874 : True := .intro
theorem hA.tw5375902051012247457 : True := .intro
theorem hA.tw5389555644309713989 : True := .intro
theorem hA.tw5489240266334782614 : True := .intro
theorem hA.tw5534458044662914687 : True := .intro
theorem hA.tw5604646930579792454 : True := .intro
theorem hA.tw567006654786658373 : True := .intro
theorem hA.tw5702093568251300861 : True := .intro
theorem hA.tw5710595774909037950 : True := .intro
theorem hA.tw5731237752901873158 : True := .intro
theorem hA.tw5750448488578101812 : True := .intro
theorem hA.tw5831959069318691099 : True := .intro
theorem hA.tw588300283513463686 : True := .intro
theorem hA.tw5888271612381928320 : True := .intro
theorem hA.tw5935932555986842745 : True := .intro
theorem hA.tw5944521660856273732 : True := .intro
theorem hA.tw5955249245183008744 : True := .intro
theorem hA.tw6014273703098039460 : True := .intro
theorem hA.tw6096314600360449594 : True := .intro
theorem hA.tw6129818726965008982 : True := .intro
theorem hA.tw6154854587287693410 : True := .intro
theorem hA.tw6189191558778180852 : True := .intro
theorem hA.tw6192219116878163910 : True := .intro
theorem hA.tw6194050130777494999 : True := .intro
theorem hA.tw6248138171031209859 : True := .intro
theorem hA.tw6274072133524778604 : True := .intro
theorem hA.tw6349184473363321203 : True := .intro
theorem hA.tw6360194636107538171 : True := .intro
theorem hA.tw6386699925713402484 : True := .intro
theorem hA.tw6428770644646761419 : True := .intro
theorem hA.tw6445338069592099238 : True := .intro
theorem hA.tw6508412518436533936 : True := .intro
theorem hA.tw6551245390361217125 : True := .intro
theorem hA.tw6672625983262386363 : True := .intro
theorem hA.tw6686649222504479776 : True := .intro
theorem hA.tw6714863563759392443 : True := .intro
theorem hA.tw6739320292411161798 : True := .intro
theorem hA.tw6759848349642357327 : True := .intro
theorem hA.tw6823486646741960742 : True := .intro
theorem hA.tw687048023667841205 : True := .intro
theorem hA.tw6897657875522161255 : True := .intro
theorem hA.tw6961056996553264702 : True := .intro
theorem hA.tw6974284737921073215 : True := .intro
theorem hA.tw6988904376707187238 : True := .intro
theorem hA.tw6990813719823832865 : True := .intro
theorem hA.tw7012054920594517989 : True := .intro
theorem hA.tw7040160933283947134 : True := .intro
theorem hA.tw7056256707324547723 : True := .intro
theorem hA.tw7164666852093548293 : True := .intro
theorem hA.tw7199905790030213503 : True := .intro
theorem hA.tw7295516817939372523 : True := .intro
theorem hA.tw731569886163527022 : True := .intro
theorem hA.tw7320610450552546784 : True := .intro
theorem hA.tw7334932475390117270 : True := .intro
theorem hA.tw7356160509718322131 : True := .intro
theorem hA.tw7360221776068106635 : True := .intro
theorem hA.tw7442474174137323301 : True := .intro
theorem hA.tw7506284830183452288 : True := .intro
theorem hA.tw7566865270972725606 : True := .intro
theorem hA.tw7603393585417099822 : True := .intro
theorem hA.tw7636782203139219911 : True := .intro
theorem hA.tw767207099731521037 : True := .intro
theorem hA.tw7710981962818744394 : True := .intro
theorem hA.tw7821361960523482326 : True := .intro
theorem hA.tw782299933655030115 : True := .intro
theorem hA.tw7855590719548776186 : True := .intro
theorem hA.tw7896837427191650641 : True := .intro
theorem hA.tw7905764698378229149 : True := .intro
theorem hA.tw7933829950780544765 : True := .intro
theorem hA.tw8008640106091000898 : True := .intro
theorem hA.tw8133890498518006020 : True := .intro
theorem hA.tw8138415163207586346 : True := .intro
theorem hA.tw8182847274190314909 : True := .intro
theorem hA.tw8193145272338370993 : True := .intro
theorem hA.tw824712933757307435 : True := .intro
theorem hA.tw8304497612779165338 : True := .intro
theorem hA.tw8499702632211230616 : True := .intro
theorem hA.tw8630959604375344721 : True := .intro
theorem hA.tw8670555728477358097 : True := .intro
theorem hA.tw8677257534099969183 : True := .intro
theorem hA.tw877125304588806659 : True := .intro
theorem hA.tw8850860150469845090 : True := .intro
theorem hA.tw889676158768071991 : True := .intro
theorem hA.tw8917670495524164202 : True := .intro
theorem hA.tw894445226513310437 : True := .intro
theorem hA.tw8956636453260661141 : True := .intro
theorem hA.tw8976649662458627470 : True := .intro
theorem hA.tw9062968986260615669 : True := .intro
theorem hA.tw9073443465513471426 : True := .intro
theorem hA.tw9157521609858074877 : True := .intro
theorem hA.tw9197289558929342580 : True := .intro
theorem hA.tw9248237190355486538 : True := .intro
theorem hA.tw9333391850242254744 : True := .intro
theorem hA.tw9341603162125843977 : True := .intro
theorem hA.tw935549795439815532 : True := .intro
theorem hA.tw9375984762361729559 : True := .intro
theorem hA.tw9431183310248172555 : True := .intro
theorem hA.tw9443270960214449193 : True := .intro
theorem hA.tw945162474344918845 : True := .intro
theorem hA.tw9454560904069935651 : True := .intro
theorem hA.tw949500529502426187 : True := .intro
theorem hA.tw9536548958682485250 : True := .intro
theorem hA.tw9598749110641010585 : True := .intro
theorem hA.tw9649224374309144423 : True := .intro
theorem hA.tw973167811459111769 : True := .intro
theorem hA.tw9748964963362424925 : True := .intro
theorem hA.tw9814808570749287531 : True := .intro
theorem hA.tw9819551037570294055 : True := .intro
theorem hA.tw9886175619389601733 : True := .intro
theorem hA.tw988928556424733041 : True := .intro
theorem hA.tw9952074999485139212 : True := .intro
theorem hA.tw9984077888766177991 : True := .intro
theorem hA.tw9984298065964452544 : True := .intro
theorem hA.tw9987638292752749434 : True := .intro
set_option Elab.async true in
theorem hA : PySem.Challenge.rw_og0163_01.Holds := by
  w_on
  o_law
  o_head (kmHook K kAs (fun _ => by kernel_rfl) [387])
  case hw => w_witness2
  exact law_x
end Mine
end
theorem PySem.Challenge.cw_og0163_01_holds : PySem.Challenge.rw_og0163_01.Holds := by
  exact Mine.hA
