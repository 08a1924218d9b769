import PyProof.Rows.All
import Wide.All
import OpenK.AllK
import Wide.FinOn
import PySem.Challenge.RW_nt0106_01
open PySem PySem.W PySem.Calls PyProof.Rows
set_option Elab.async false
set_option maxRecDepth 100000
set_option maxHeartbeats 8000000
set_option linter.all false

namespace Mine
/-- the statements of the text, by their place -/
noncomputable def nth : List Stmt → Nat → Stmt
  | [], _ => .Pass default
  | s :: _, 0 => s
  | _ :: r, n + 1 => nth r n
noncomputable def inner : Stmt → List Stmt
  | .ClassDef _ _ _ b .. => b
  | _ => []
noncomputable abbrev body : List Stmt := PySem.Challenge.pw_nt0106_01.main.body
abbrev Fn (l : List Stmt) (i : Nat) : Type := ∀ {nm : Str} {ps : Arguments} {a : Stmt} {b : List Stmt} {ds : List PySem.Expr} {rt : Option PySem.Expr} {tp : List TypeParam} {sc : Scope} {ts : Option Scope} {bd : Str} {pos : Pos}, nth l i = .FunctionDef nm ps (a :: b) ds rt tp sc ts bd pos → FuncData
/-- the objects of the top that the law can come to -/
noncomputable def K (P : Params) : Frag :=
  (nat_lit 2, { cls := Value.none, data := Data.dict #[⟨PyData.keyHash P (Str.ofString "type.__subclasses__.Exception.0"), .str (Str.ofString "type.__subclasses__.Exception.0") 214, Value.int 31 0⟩, ⟨PyData.keyHash P (Str.ofString "type.__subclasses__.Exception.n"), .str (Str.ofString "type.__subclasses__.Exception.n") 215, Value.int 1 0⟩] 2 }) ::
  (nat_lit 3, { cls := Value.type "dict", data := Data.dict #[⟨PyData.keyHash P (Str.ofString "__name__"), .str (Str.ofString "__name__") 165, Value.str (Str.ofString "law_nt0106_01") 990⟩, ⟨PyData.keyHash P (Str.ofString "__doc__"), .str (Str.ofString "__doc__") 166, Value.none⟩, ⟨PyData.keyHash P (Str.ofString "__package__"), .str (Str.ofString "__package__") 167, Value.none⟩, ⟨PyData.keyHash P (Str.ofString "__loader__"), .str (Str.ofString "__loader__") 168, Value.builtin "__main__.__loader__#opaque"⟩, ⟨PyData.keyHash P (Str.ofString "__spec__"), .str (Str.ofString "__spec__") 169, Value.none⟩, ⟨PyData.keyHash P (Str.ofString "__annotations__"), .str (Str.ofString "__annotations__") 170, Value.ref 6⟩, ⟨PyData.keyHash P (Str.ofString "__builtins__"), .str (Str.ofString "__builtins__") 171, Value.ref 4⟩, ⟨PyData.keyHash P (Str.ofString "__file__"), .str (Str.ofString "__file__") 173, Value.str (Str.ofString "/claim/cut.py") 172⟩, ⟨PyData.keyHash P (Str.ofString "__cached__"), .str (Str.ofString "__cached__") 174, Value.none⟩, ⟨PyData.keyHash P (Str.ofString "PagebaseError"), .str (Str.ofString "PagebaseError") 217, Value.ref 31⟩, ⟨PyData.keyHash P (Str.ofString "SqlError"), .str (Str.ofString "SqlError") 233, Value.ref 44⟩, ⟨PyData.keyHash P (Str.ofString "SCALARS"), .str (Str.ofString "SCALARS") 340, Value.ref 47⟩, ⟨PyData.keyHash P (Str.ofString "AGGREGATES"), .str (Str.ofString "AGGREGATES") 365, Value.ref 76⟩, ⟨PyData.keyHash P (Str.ofString "fits"), .str (Str.ofString "fits") 373, Value.ref 89⟩, ⟨PyData.keyHash P (Str.ofString "is_aggregate"), .str (Str.ofString "is_aggregate") 383, Value.ref 97⟩, ⟨PyData.keyHash P (Str.ofString "check_call"), .str (Str.ofString "check_call") 393, Value.ref 105⟩, ⟨PyData.keyHash P (Str.ofString "row_of"), .str (Str.ofString "row_of") 402, Value.ref 112⟩, ⟨PyData.keyHash P (Str.ofString "rows_of"), .str (Str.ofString "rows_of") 408, Value.ref 117⟩, ⟨PyData.keyHash P (Str.ofString "Node"), .str (Str.ofString "Node") 435, Value.ref 134⟩, ⟨PyData.keyHash P (Str.ofString "Expr"), .str (Str.ofString "Expr") 451, Value.ref 148⟩, ⟨PyData.keyHash P (Str.ofString "Literal"), .str (Str.ofString "Literal") 483, Value.ref 174⟩, ⟨PyData.keyHash P (Str.ofString "Name"), .str (Str.ofString "Name") 520, Value.ref 200⟩, ⟨PyData.keyHash P (Str.ofString "Unary"), .str (Str.ofString "Unary") 554, Value.ref 226⟩, ⟨PyData.keyHash P (Str.ofString "Binary"), .str (Str.ofString "Binary") 590, Value.ref 252⟩, ⟨PyData.keyHash P (Str.ofString "Between"), .str (Str.ofString "Between") 628, Value.ref 278⟩, ⟨PyData.keyHash P (Str.ofString "InList"), .str (Str.ofString "InList") 664, Value.ref 304⟩, ⟨PyData.keyHash P (Str.ofString "InSelect"), .str (Str.ofString "InSelect") 700, Value.ref 330⟩, ⟨PyData.keyHash P (Str.ofString "Case"), .str (Str.ofString "Case") 735, Value.ref 354⟩, ⟨PyData.keyHash P (Str.ofString "Call"), .str (Str.ofString "Call") 773, Value.ref 380⟩, ⟨PyData.keyHash P (Str.ofString "Cast"), .str (Str.ofString "Cast") 807, Value.ref 406⟩, ⟨PyData.keyHash P (Str.ofString "Collate"), .str (Str.ofString "Collate") 841, Value.ref 432⟩, ⟨PyData.keyHash P (Str.ofString "IsNull"), .str (Str.ofString "IsNull") 875, Value.ref 458⟩, ⟨PyData.keyHash P (Str.ofString "Match"), .str (Str.ofString "Match") 916, Value.ref 484⟩, ⟨PyData.keyHash P (Str.ofString "fold"), .str (Str.ofString "fold") 924, Value.ref 491⟩, ⟨PyData.keyHash P (Str.ofString "children"), .str (Str.ofString "children") 934, Value.ref 498⟩, ⟨PyData.keyHash P (Str.ofString "is_aggregate_call"), .str (Str.ofString "is_aggregate_call") 941, Value.ref 505⟩, ⟨PyData.keyHash P (Str.ofString "aggregates_in"), .str (Str.ofString "aggregates_in") 950, Value.ref 512⟩, ⟨PyData.keyHash P (Str.ofString "refuse_aggregates"), .str (Str.ofString "refuse_aggregates") 959, Value.ref 520⟩, ⟨PyData.keyHash P (Str.ofString "COLLATIONS"), .str (Str.ofString "COLLATIONS") 965, Value.ref 521⟩, ⟨PyData.keyHash P (Str.ofString "check_collation"), .str (Str.ofString "check_collation") 972, Value.ref 528⟩, ⟨PyData.keyHash P (Str.ofString "look_at_call"), .str (Str.ofString "look_at_call") 982, Value.ref 535⟩, ⟨PyData.keyHash P (Str.ofString "look_at"), .str (Str.ofString "look_at") 989, Value.ref 542⟩, ⟨PyData.keyHash P (Str.ofString "_law_pool"), .str (Str.ofString "_law_pool") 1002, Value.ref 549⟩, ⟨PyData.keyHash P (Str.ofString "_law_take"), .str (Str.ofString "_law_take") 1011, Value.ref 556⟩, ⟨PyData.keyHash P (Str.ofString "_law_bounds"), .str (Str.ofString "_law_bounds") 1020, Value.ref 563⟩, ⟨PyData.keyHash P (Str.ofString "_law_fits"), .str (Str.ofString "_law_fits") 1028, Value.ref 570⟩, ⟨PyData.keyHash P (Str.ofString "_law_argument"), .str (Str.ofString "_law_argument") 1036, Value.ref 577⟩, ⟨PyData.keyHash P (Str.ofString "_law_call_due"), .str (Str.ofString "_law_call_due") 1042, Value.ref 582⟩, ⟨PyData.keyHash P (Str.ofString "_law_is_let"), .str (Str.ofString "_law_is_let") 1049, Value.ref 589⟩, ⟨PyData.keyHash P (Str.ofString "_law_call_right"), .str (Str.ofString "_law_call_right") 1055, Value.ref 594⟩, ⟨PyData.keyHash P (Str.ofString "law"), .str (Str.ofString "law") 1066, Value.ref 601⟩] 51 }) ::
  (nat_lit 15, { cls := Value.type "tuple", data := Data.seq #[Value.type "Exception"] }) ::
  (nat_lit 22, { cls := Value.type "tuple", data := Data.seq #[] }) ::
  (nat_lit 24, { cls := Value.type "tuple", data := Data.seq #[Value.str (Str.ofString "self") 204, Value.str (Str.ofString "message") 205] }) ::
  (nat_lit 25, { cls := Value.type "tuple", data := Data.seq #[] }) ::
  (nat_lit 27, { cls := Value.type "code", data := Data.fields #[Value.str (Str.ofString "__init__") 201, Value.str (Str.ofString "PagebaseError.__init__") 202, Value.str (Str.ofString "/claim/cut.py") 203, Value.int 4 0, Value.int 2 0, Value.int 0 0, Value.int 0 0, Value.int 3 0, Value.ref 22, Value.bool true, Value.int 181 0, Value.ref 23, Value.none, Value.ref 24, Value.ref 25, Value.ref 26, Value.int 206 0, Value.int 4 0, Value.str (Str.ofString "/claim/cut.py") 207] }) ::
  (nat_lit 28, { cls := Value.type "function", dict := none, data := .func (by refine (?finnernthbody10 : Fn (inner (nth body 1)) 0) rfl; exact fun {nm ps a b ds rt tp sc ts bd pos} _ => fnOf nm (Str.ofString "PagebaseError.__init__") ps (a :: b) sc (Value.none) (Value.none) (Value.none) (Value.str (Str.ofString "pagebase.errors") 187) (none) (Value.ref 27) (Value.none)), slots := #[] }) ::
  (nat_lit 29, { cls := Value.type "tuple", data := Data.seq #[Value.str (Str.ofString "message") 209] }) ::
  (nat_lit 30, { cls := Value.type "dict", data := Data.dict #[⟨PyData.keyHash P (Str.ofString "__module__"), .str (Str.ofString "__module__") 196, Value.str (Str.ofString "pagebase.errors") 187⟩, ⟨PyData.keyHash P (Str.ofString "__firstlineno__"), .str (Str.ofString "__firstlineno__") 200, Value.int 2 199⟩, ⟨PyData.keyHash P (Str.ofString "__init__"), .str (Str.ofString "__init__") 208, Value.ref 28⟩, ⟨PyData.keyHash P (Str.ofString "__static_attributes__"), .str (Str.ofString "__static_attributes__") 210, Value.ref 29⟩, ⟨PyData.keyHash P (Str.ofString "__weakref__"), .str (Str.ofString "__weakref__") 212, Value.ref 32⟩, ⟨PyData.keyHash P (Str.ofString "__doc__"), .str (Str.ofString "__doc__") 213, Value.none⟩] 3 }) ::
  (nat_lit 31, { cls := Value.type "type", data := Data.cls { name := Str.ofString "PagebaseError", bases := [Value.type "Exception"], mro := [Value.ref 31, Value.type "Exception", Value.type "BaseException", Value.type "object"], ns := 30, qualname := Str.ofString "PagebaseError", subclasses := [Value.ref 44] }, slots := #[some (Value.ref 15), none, some (Value.str (Str.ofString "PagebaseError") 189), some (Value.str (Str.ofString "PagebaseError") 197), some (Value.builtin "Exception.__new__"), some (Value.bool true)] }) ::
  (nat_lit 32, { cls := Value.type "getset_descriptor", data := Data.fields #[Value.str (Str.ofString "__weakref__") 211, Value.ref 31, Value.builtin "ExceptionGroup.__weakref__", Value.none] }) ::
  (nat_lit 35, { cls := Value.type "tuple", data := Data.seq #[Value.ref 31] }) ::
  (nat_lit 42, { cls := Value.type "tuple", data := Data.seq #[] }) ::
  (nat_lit 43, { cls := Value.type "dict", data := Data.dict #[⟨PyData.keyHash P (Str.ofString "__module__"), .str (Str.ofString "__module__") 225, Value.str (Str.ofString "pagebase.errors") 187⟩, ⟨PyData.keyHash P (Str.ofString "__firstlineno__"), .str (Str.ofString "__firstlineno__") 229, Value.int 6 228⟩, ⟨PyData.keyHash P (Str.ofString "__static_attributes__"), .str (Str.ofString "__static_attributes__") 230, Value.ref 42⟩, ⟨PyData.keyHash P (Str.ofString "__doc__"), .str (Str.ofString "__doc__") 231, Value.none⟩] 2 }) ::
  (nat_lit 44, { cls := Value.type "type", data := Data.cls { name := Str.ofString "SqlError", bases := [Value.ref 31], mro := [Value.ref 44, Value.ref 31, Value.type "Exception", Value.type "BaseException", Value.type "object"], ns := 43, qualname := Str.ofString "SqlError" }, slots := #[some (Value.ref 35), none, some (Value.str (Str.ofString "SqlError") 218), some (Value.str (Str.ofString "SqlError") 226), some (Value.builtin "Exception.__new__"), some (Value.bool true)] }) ::
  (nat_lit 47, { cls := Value.type "dict", data := Data.dict #[⟨PyData.keyHash P (Str.ofString "abs"), .str (Str.ofString "abs") 236, Value.ref 48⟩, ⟨PyData.keyHash P (Str.ofString "changes"), .str (Str.ofString "changes") 240, Value.ref 49⟩, ⟨PyData.keyHash P (Str.ofString "char"), .str (Str.ofString "char") 244, Value.ref 50⟩, ⟨PyData.keyHash P (Str.ofString "coalesce"), .str (Str.ofString "coalesce") 247, Value.ref 51⟩, ⟨PyData.keyHash P (Str.ofString "glob"), .str (Str.ofString "glob") 250, Value.ref 52⟩, ⟨PyData.keyHash P (Str.ofString "hex"), .str (Str.ofString "hex") 254, Value.ref 53⟩, ⟨PyData.keyHash P (Str.ofString "ifnull"), .str (Str.ofString "ifnull") 258, Value.ref 54⟩, ⟨PyData.keyHash P (Str.ofString "iif"), .str (Str.ofString "iif") 262, Value.ref 55⟩, ⟨PyData.keyHash P (Str.ofString "instr"), .str (Str.ofString "instr") 266, Value.ref 56⟩, ⟨PyData.keyHash P (Str.ofString "last_insert_rowid"), .str (Str.ofString "last_insert_rowid") 270, Value.ref 57⟩, ⟨PyData.keyHash P (Str.ofString "length"), .str (Str.ofString "length") 274, Value.ref 58⟩, ⟨PyData.keyHash P (Str.ofString "like"), .str (Str.ofString "like") 278, Value.ref 59⟩, ⟨PyData.keyHash P (Str.ofString "lower"), .str (Str.ofString "lower") 282, Value.ref 60⟩, ⟨PyData.keyHash P (Str.ofString "ltrim"), .str (Str.ofString "ltrim") 286, Value.ref 61⟩, ⟨PyData.keyHash P (Str.ofString "max"), .str (Str.ofString "max") 290, Value.ref 62⟩, ⟨PyData.keyHash P (Str.ofString "min"), .str (Str.ofString "min") 293, Value.ref 63⟩, ⟨PyData.keyHash P (Str.ofString "nullif"), .str (Str.ofString "nullif") 296, Value.ref 64⟩, ⟨PyData.keyHash P (Str.ofString "quote"), .str (Str.ofString "quote") 300, Value.ref 66⟩, ⟨PyData.keyHash P (Str.ofString "replace"), .str (Str.ofString "replace") 303, Value.ref 67⟩, ⟨PyData.keyHash P (Str.ofString "rtrim"), .str (Str.ofString "rtrim") 306, Value.ref 68⟩, ⟨PyData.keyHash P (Str.ofString "substr"), .str (Str.ofString "substr") 309, Value.ref 69⟩, ⟨PyData.keyHash P (Str.ofString "substring"), .str (Str.ofString "substring") 312, Value.ref 70⟩, ⟨PyData.keyHash P (Str.ofString "trim"), .str (Str.ofString "trim") 315, Value.ref 71⟩, ⟨PyData.keyHash P (Str.ofString "typeof"), .str (Str.ofString "typeof") 318, Value.ref 72⟩, ⟨PyData.keyHash P (Str.ofString "unicode"), .str (Str.ofString "unicode") 321, Value.ref 73⟩, ⟨PyData.keyHash P (Str.ofString "upper"), .str (Str.ofString "upper") 324, Value.ref 74⟩, ⟨PyData.keyHash P (Str.ofString "zeroblob"), .str (Str.ofString "zeroblob") 327, Value.ref 75⟩] 27 }) ::
  (nat_lit 48, { cls := Value.type "tuple", data := Data.seq #[Value.int 1 237, Value.int 1 238] }) ::
  (nat_lit 49, { cls := Value.type "tuple", data := Data.seq #[Value.int 0 241, Value.int 0 242] }) ::
  (nat_lit 50, { cls := Value.type "tuple", data := Data.seq #[Value.int 0 245, Value.none] }) ::
  (nat_lit 51, { cls := Value.type "tuple", data := Data.seq #[Value.int 2 248, Value.none] }) ::
  (nat_lit 52, { cls := Value.type "tuple", data := Data.seq #[Value.int 2 251, Value.int 2 252] }) ::
  (nat_lit 53, { cls := Value.type "tuple", data := Data.seq #[Value.int 1 255, Value.int 1 256] }) ::
  (nat_lit 54, { cls := Value.type "tuple", data := Data.seq #[Value.int 2 259, Value.int 2 260] }) ::
  (nat_lit 55, { cls := Value.type "tuple", data := Data.seq #[Value.int 3 263, Value.int 3 264] }) ::
  (nat_lit 56, { cls := Value.type "tuple", data := Data.seq #[Value.int 2 267, Value.int 2 268] }) ::
  (nat_lit 57, { cls := Value.type "tuple", data := Data.seq #[Value.int 0 271, Value.int 0 272] }) ::
  (nat_lit 58, { cls := Value.type "tuple", data := Data.seq #[Value.int 1 275, Value.int 1 276] }) ::
  (nat_lit 59, { cls := Value.type "tuple", data := Data.seq #[Value.int 2 279, Value.int 3 280] }) ::
  (nat_lit 60, { cls := Value.type "tuple", data := Data.seq #[Value.int 1 283, Value.int 1 284] }) ::
  (nat_lit 61, { cls := Value.type "tuple", data := Data.seq #[Value.int 1 287, Value.int 2 288] }) ::
  (nat_lit 62, { cls := Value.type "tuple", data := Data.seq #[Value.int 2 291, Value.none] }) ::
  (nat_lit 63, { cls := Value.type "tuple", data := Data.seq #[Value.int 2 294, Value.none] }) ::
  (nat_lit 64, { cls := Value.type "tuple", data := Data.seq #[Value.int 2 297, Value.int 2 298] }) ::
  (nat_lit 66, { cls := Value.type "tuple", data := Data.seq #[Value.int 1 301, Value.int 1 302] }) ::
  (nat_lit 67, { cls := Value.type "tuple", data := Data.seq #[Value.int 3 304, Value.int 3 305] }) ::
  (nat_lit 68, { cls := Value.type "tuple", data := Data.seq #[Value.int 1 307, Value.int 2 308] }) ::
  (nat_lit 69, { cls := Value.type "tuple", data := Data.seq #[Value.int 2 310, Value.int 3 311] }) ::
  (nat_lit 70, { cls := Value.type "tuple", data := Data.seq #[Value.int 2 313, Value.int 3 314] }) ::
  (nat_lit 71, { cls := Value.type "tuple", data := Data.seq #[Value.int 1 316, Value.int 2 317] }) ::
  (nat_lit 72, { cls := Value.type "tuple", data := Data.seq #[Value.int 1 319, Value.int 1 320] }) ::
  (nat_lit 73, { cls := Value.type "tuple", data := Data.seq #[Value.int 1 322, Value.int 1 323] }) ::
  (nat_lit 74, { cls := Value.type "tuple", data := Data.seq #[Value.int 1 325, Value.int 1 326] }) ::
  (nat_lit 75, { cls := Value.type "tuple", data := Data.seq #[Value.int 1 328, Value.int 1 329] }) ::
  (nat_lit 76, { cls := Value.type "dict", data := Data.dict #[⟨PyData.keyHash P (Str.ofString "count"), .str (Str.ofString "count") 341, Value.ref 77⟩, ⟨PyData.keyHash P (Str.ofString "group_concat"), .str (Str.ofString "group_concat") 344, Value.ref 78⟩, ⟨PyData.keyHash P (Str.ofString "max"), .str (Str.ofString "max") 347, Value.ref 79⟩, ⟨PyData.keyHash P (Str.ofString "min"), .str (Str.ofString "min") 350, Value.ref 80⟩, ⟨PyData.keyHash P (Str.ofString "sum"), .str (Str.ofString "sum") 353, Value.ref 81⟩, ⟨PyData.keyHash P (Str.ofString "total"), .str (Str.ofString "total") 356, Value.ref 82⟩] 6 }) ::
  (nat_lit 77, { cls := Value.type "tuple", data := Data.seq #[Value.int 0 342, Value.int 1 343] }) ::
  (nat_lit 78, { cls := Value.type "tuple", data := Data.seq #[Value.int 1 345, Value.int 2 346] }) ::
  (nat_lit 79, { cls := Value.type "tuple", data := Data.seq #[Value.int 1 348, Value.int 1 349] }) ::
  (nat_lit 80, { cls := Value.type "tuple", data := Data.seq #[Value.int 1 351, Value.int 1 352] }) ::
  (nat_lit 81, { cls := Value.type "tuple", data := Data.seq #[Value.int 1 354, Value.int 1 355] }) ::
  (nat_lit 82, { cls := Value.type "tuple", data := Data.seq #[Value.int 1 357, Value.int 1 358] }) ::
  (nat_lit 83, { cls := Value.type "tuple", data := Data.seq #[] }) ::
  (nat_lit 85, { cls := Value.type "tuple", data := Data.seq #[Value.str (Str.ofString "bounds") 369, Value.str (Str.ofString "many") 370] }) ::
  (nat_lit 86, { cls := Value.type "tuple", data := Data.seq #[] }) ::
  (nat_lit 88, { cls := Value.type "code", data := Data.fields #[Value.str (Str.ofString "fits") 366, Value.str (Str.ofString "fits") 367, Value.str (Str.ofString "/claim/cut.py") 368, Value.int 11 0, Value.int 2 0, Value.int 0 0, Value.int 0 0, Value.int 3 0, Value.ref 83, Value.bool true, Value.int 181 0, Value.ref 84, Value.none, Value.ref 85, Value.ref 86, Value.ref 87, Value.int 371 0, Value.int 11 0, Value.str (Str.ofString "/claim/cut.py") 372] }) ::
  (nat_lit 89, { cls := Value.type "function", dict := none, data := .func (by refine (?fbody6 : Fn body 6) rfl; exact fun {nm ps a b ds rt tp sc ts bd pos} _ => fnOf nm (Str.ofString "fits") ps (a :: b) sc (Value.none) (Value.none) (Value.none) (Value.str (Str.ofString "pagebase.functions") 234) (none) (Value.ref 88) (Value.none)), slots := #[] }) ::
  (nat_lit 90, { cls := Value.type "tuple", data := Data.seq #[Value.bool false] }) ::
  (nat_lit 91, { cls := Value.type "tuple", data := Data.seq #[] }) ::
  (nat_lit 93, { cls := Value.type "tuple", data := Data.seq #[Value.str (Str.ofString "name") 377, Value.str (Str.ofString "many") 378, Value.str (Str.ofString "star") 379, Value.str (Str.ofString "word") 380] }) ::
  (nat_lit 94, { cls := Value.type "tuple", data := Data.seq #[] }) ::
  (nat_lit 96, { cls := Value.type "code", data := Data.fields #[Value.str (Str.ofString "is_aggregate") 374, Value.str (Str.ofString "is_aggregate") 375, Value.str (Str.ofString "/claim/cut.py") 376, Value.int 13 0, Value.int 3 0, Value.int 0 0, Value.int 0 0, Value.int 3 0, Value.ref 91, Value.bool true, Value.int 181 0, Value.ref 92, Value.none, Value.ref 93, Value.ref 94, Value.ref 95, Value.int 381 0, Value.int 13 0, Value.str (Str.ofString "/claim/cut.py") 382] }) ::
  (nat_lit 97, { cls := Value.type "function", dict := none, data := .func (by refine (?fbody7 : Fn body 7) rfl; exact fun {nm ps a b ds rt tp sc ts bd pos} _ => fnOf nm (Str.ofString "is_aggregate") ps (a :: b) sc (Value.ref 90) (Value.none) (Value.none) (Value.str (Str.ofString "pagebase.functions") 234) (none) (Value.ref 96) (Value.none)), slots := #[] }) ::
  (nat_lit 98, { cls := Value.type "tuple", data := Data.seq #[Value.bool false] }) ::
  (nat_lit 99, { cls := Value.type "tuple", data := Data.seq #[] }) ::
  (nat_lit 101, { cls := Value.type "tuple", data := Data.seq #[Value.str (Str.ofString "name") 387, Value.str (Str.ofString "many") 388, Value.str (Str.ofString "star") 389, Value.str (Str.ofString "word") 390] }) ::
  (nat_lit 102, { cls := Value.type "tuple", data := Data.seq #[] }) ::
  (nat_lit 104, { cls := Value.type "code", data := Data.fields #[Value.str (Str.ofString "check_call") 384, Value.str (Str.ofString "check_call") 385, Value.str (Str.ofString "/claim/cut.py") 386, Value.int 18 0, Value.int 3 0, Value.int 0 0, Value.int 0 0, Value.int 3 0, Value.ref 99, Value.bool true, Value.int 181 0, Value.ref 100, Value.none, Value.ref 101, Value.ref 102, Value.ref 103, Value.int 391 0, Value.int 18 0, Value.str (Str.ofString "/claim/cut.py") 392] }) ::
  (nat_lit 105, { cls := Value.type "function", dict := none, data := .func (by refine (?fbody8 : Fn body 8) rfl; exact fun {nm ps a b ds rt tp sc ts bd pos} _ => fnOf nm (Str.ofString "check_call") ps (a :: b) sc (Value.ref 98) (Value.none) (Value.none) (Value.str (Str.ofString "pagebase.functions") 234) (none) (Value.ref 104) (Value.none)), slots := #[] }) ::
  (nat_lit 106, { cls := Value.type "tuple", data := Data.seq #[] }) ::
  (nat_lit 108, { cls := Value.type "tuple", data := Data.seq #[Value.str (Str.ofString "node") 399] }) ::
  (nat_lit 109, { cls := Value.type "tuple", data := Data.seq #[] }) ::
  (nat_lit 111, { cls := Value.type "code", data := Data.fields #[Value.str (Str.ofString "row_of") 396, Value.str (Str.ofString "row_of") 397, Value.str (Str.ofString "/claim/cut.py") 398, Value.int 29 0, Value.int 1 0, Value.int 0 0, Value.int 0 0, Value.int 3 0, Value.ref 106, Value.bool true, Value.int 181 0, Value.ref 107, Value.none, Value.ref 108, Value.ref 109, Value.ref 110, Value.int 400 0, Value.int 29 0, Value.str (Str.ofString "/claim/cut.py") 401] }) ::
  (nat_lit 112, { cls := Value.type "function", dict := none, data := .func (by refine (?fbody10 : Fn body 10) rfl; exact fun {nm ps a b ds rt tp sc ts bd pos} _ => fnOf nm (Str.ofString "row_of") ps (a :: b) sc (Value.none) (Value.none) (Value.none) (Value.str (Str.ofString "pagebase.nodes") 394) (none) (Value.ref 111) (Value.none)), slots := #[] }) ::
  (nat_lit 113, { cls := Value.type "tuple", data := Data.seq #[] }) ::
  (nat_lit 116, { cls := Value.type "code", data := Data.fields #[Value.str (Str.ofString "rows_of") 403, Value.str (Str.ofString "rows_of") 404, Value.str (Str.ofString "/claim/cut.py") 405, Value.int 31 0, Value.int 1 0, Value.int 0 0, Value.int 0 0, Value.int 3 0, Value.ref 113, Value.bool true, Value.int 181 0, Value.ref 114, Value.none, Value.none, Value.none, Value.ref 115, Value.int 406 0, Value.int 31 0, Value.str (Str.ofString "/claim/cut.py") 407] }) ::
  (nat_lit 117, { cls := Value.type "function", dict := none, data := .func (by refine (?fbody11 : Fn body 11) rfl; exact fun {nm ps a b ds rt tp sc ts bd pos} _ => fnOf nm (Str.ofString "rows_of") ps (a :: b) sc (Value.none) (Value.none) (Value.none) (Value.str (Str.ofString "pagebase.nodes") 394) (none) (Value.ref 116) (Value.none)), slots := #[] }) ::
  (nat_lit 125, { cls := Value.type "tuple", data := Data.seq #[] }) ::
  (nat_lit 127, { cls := Value.type "tuple", data := Data.seq #[Value.str (Str.ofString "self") 424] }) ::
  (nat_lit 128, { cls := Value.type "tuple", data := Data.seq #[] }) ::
  (nat_lit 130, { cls := Value.type "code", data := Data.fields #[Value.str (Str.ofString "row") 421, Value.str (Str.ofString "Node.row") 422, Value.str (Str.ofString "/claim/cut.py") 423, Value.int 35 0, Value.int 1 0, Value.int 0 0, Value.int 0 0, Value.int 3 0, Value.ref 125, Value.bool true, Value.int 181 0, Value.ref 126, Value.none, Value.ref 127, Value.ref 128, Value.ref 129, Value.int 425 0, Value.int 35 0, Value.str (Str.ofString "/claim/cut.py") 426] }) ::
  (nat_lit 131, { cls := Value.type "function", dict := none, data := .func (by refine (?finnernthbody120 : Fn (inner (nth body 12)) 0) rfl; exact fun {nm ps a b ds rt tp sc ts bd pos} _ => fnOf nm (Str.ofString "Node.row") ps (a :: b) sc (Value.none) (Value.none) (Value.none) (Value.str (Str.ofString "pagebase.nodes") 394) (none) (Value.ref 130) (Value.none)), slots := #[] }) ::
  (nat_lit 132, { cls := Value.type "tuple", data := Data.seq #[] }) ::
  (nat_lit 133, { cls := Value.type "dict", data := Data.dict #[⟨PyData.keyHash P (Str.ofString "__module__"), .str (Str.ofString "__module__") 416, Value.str (Str.ofString "pagebase.nodes") 394⟩, ⟨PyData.keyHash P (Str.ofString "__firstlineno__"), .str (Str.ofString "__firstlineno__") 420, Value.int 33 419⟩, ⟨PyData.keyHash P (Str.ofString "row"), .str (Str.ofString "row") 427, Value.ref 131⟩, ⟨PyData.keyHash P (Str.ofString "__static_attributes__"), .str (Str.ofString "__static_attributes__") 428, Value.ref 132⟩, ⟨PyData.keyHash P (Str.ofString "__dict__"), .str (Str.ofString "__dict__") 430, Value.ref 135⟩, ⟨PyData.keyHash P (Str.ofString "__weakref__"), .str (Str.ofString "__weakref__") 432, Value.ref 136⟩, ⟨PyData.keyHash P (Str.ofString "__doc__"), .str (Str.ofString "__doc__") 433, Value.none⟩] 4 }) ::
  (nat_lit 134, { cls := Value.type "type", data := Data.cls { name := Str.ofString "Node", bases := [Value.type "object"], mro := [Value.ref 134, Value.type "object"], ns := 133, qualname := Str.ofString "Node", subclasses := [Value.ref 148] }, slots := #[none, none, some (Value.str (Str.ofString "Node") 409), some (Value.str (Str.ofString "Node") 417), some (Value.builtin "object.__new__"), some (Value.bool true)] }) ::
  (nat_lit 135, { cls := Value.type "getset_descriptor", data := Data.fields #[Value.str (Str.ofString "__dict__") 429, Value.ref 134, Value.builtin "function.__dict__", Value.builtin "function.__dict__#set"] }) ::
  (nat_lit 136, { cls := Value.type "getset_descriptor", data := Data.fields #[Value.str (Str.ofString "__weakref__") 431, Value.ref 134, Value.builtin "ExceptionGroup.__weakref__", Value.none] }) ::
  (nat_lit 139, { cls := Value.type "tuple", data := Data.seq #[Value.ref 134] }) ::
  (nat_lit 146, { cls := Value.type "tuple", data := Data.seq #[] }) ::
  (nat_lit 147, { cls := Value.type "dict", data := Data.dict #[⟨PyData.keyHash P (Str.ofString "__module__"), .str (Str.ofString "__module__") 443, Value.str (Str.ofString "pagebase.nodes") 394⟩, ⟨PyData.keyHash P (Str.ofString "__firstlineno__"), .str (Str.ofString "__firstlineno__") 447, Value.int 37 446⟩, ⟨PyData.keyHash P (Str.ofString "__static_attributes__"), .str (Str.ofString "__static_attributes__") 448, Value.ref 146⟩, ⟨PyData.keyHash P (Str.ofString "__doc__"), .str (Str.ofString "__doc__") 449, Value.none⟩] 2 }) ::
  (nat_lit 148, { cls := Value.type "type", data := Data.cls { name := Str.ofString "Expr", bases := [Value.ref 134], mro := [Value.ref 148, Value.ref 134, Value.type "object"], ns := 147, qualname := Str.ofString "Expr", subclasses := [Value.ref 174, Value.ref 200, Value.ref 226, Value.ref 252, Value.ref 278, Value.ref 304, Value.ref 330, Value.ref 354, Value.ref 380, Value.ref 406, Value.ref 432, Value.ref 458, Value.ref 484] }, slots := #[some (Value.ref 139), none, some (Value.str (Str.ofString "Expr") 436), some (Value.str (Str.ofString "Expr") 444), some (Value.builtin "object.__new__"), some (Value.bool true)] }) ::
  (nat_lit 151, { cls := Value.type "tuple", data := Data.seq #[Value.ref 148] }) ::
  (nat_lit 158, { cls := Value.type "tuple", data := Data.seq #[] }) ::
  (nat_lit 160, { cls := Value.type "tuple", data := Data.seq #[Value.str (Str.ofString "self") 467, Value.str (Str.ofString "value") 468] }) ::
  (nat_lit 161, { cls := Value.type "tuple", data := Data.seq #[] }) ::
  (nat_lit 163, { cls := Value.type "code", data := Data.fields #[Value.str (Str.ofString "__init__") 464, Value.str (Str.ofString "Literal.__init__") 465, Value.str (Str.ofString "/claim/cut.py") 466, Value.int 41 0, Value.int 2 0, Value.int 0 0, Value.int 0 0, Value.int 3 0, Value.ref 158, Value.bool true, Value.int 181 0, Value.ref 159, Value.none, Value.ref 160, Value.ref 161, Value.ref 162, Value.int 469 0, Value.int 41 0, Value.str (Str.ofString "/claim/cut.py") 470] }) ::
  (nat_lit 164, { cls := Value.type "function", dict := none, data := .func (by refine (?finnernthbody140 : Fn (inner (nth body 14)) 0) rfl; exact fun {nm ps a b ds rt tp sc ts bd pos} _ => fnOf nm (Str.ofString "Literal.__init__") ps (a :: b) sc (Value.none) (Value.none) (Value.none) (Value.str (Str.ofString "pagebase.nodes") 394) (none) (Value.ref 163) (Value.none)), slots := #[] }) ::
  (nat_lit 165, { cls := Value.type "tuple", data := Data.seq #[] }) ::
  (nat_lit 167, { cls := Value.type "tuple", data := Data.seq #[Value.str (Str.ofString "self") 475] }) ::
  (nat_lit 168, { cls := Value.type "tuple", data := Data.seq #[] }) ::
  (nat_lit 170, { cls := Value.type "code", data := Data.fields #[Value.str (Str.ofString "row") 472, Value.str (Str.ofString "Literal.row") 473, Value.str (Str.ofString "/claim/cut.py") 474, Value.int 44 0, Value.int 1 0, Value.int 0 0, Value.int 0 0, Value.int 3 0, Value.ref 165, Value.bool true, Value.int 181 0, Value.ref 166, Value.none, Value.ref 167, Value.ref 168, Value.ref 169, Value.int 476 0, Value.int 44 0, Value.str (Str.ofString "/claim/cut.py") 477] }) ::
  (nat_lit 171, { cls := Value.type "function", dict := none, data := .func (by refine (?finnernthbody141 : Fn (inner (nth body 14)) 1) rfl; exact fun {nm ps a b ds rt tp sc ts bd pos} _ => fnOf nm (Str.ofString "Literal.row") ps (a :: b) sc (Value.none) (Value.none) (Value.none) (Value.str (Str.ofString "pagebase.nodes") 394) (none) (Value.ref 170) (Value.none)), slots := #[] }) ::
  (nat_lit 172, { cls := Value.type "tuple", data := Data.seq #[Value.str (Str.ofString "value") 479] }) ::
  (nat_lit 173, { cls := Value.type "dict", data := Data.dict #[⟨PyData.keyHash P (Str.ofString "__module__"), .str (Str.ofString "__module__") 459, Value.str (Str.ofString "pagebase.nodes") 394⟩, ⟨PyData.keyHash P (Str.ofString "__firstlineno__"), .str (Str.ofString "__firstlineno__") 463, Value.int 39 462⟩, ⟨PyData.keyHash P (Str.ofString "__init__"), .str (Str.ofString "__init__") 471, Value.ref 164⟩, ⟨PyData.keyHash P (Str.ofString "row"), .str (Str.ofString "row") 478, Value.ref 171⟩, ⟨PyData.keyHash P (Str.ofString "__static_attributes__"), .str (Str.ofString "__static_attributes__") 480, Value.ref 172⟩, ⟨PyData.keyHash P (Str.ofString "__doc__"), .str (Str.ofString "__doc__") 481, Value.none⟩] 2 }) ::
  (nat_lit 174, { cls := Value.type "type", data := Data.cls { name := Str.ofString "Literal", bases := [Value.ref 148], mro := [Value.ref 174, Value.ref 148, Value.ref 134, Value.type "object"], ns := 173, qualname := Str.ofString "Literal" }, slots := #[some (Value.ref 151), none, some (Value.str (Str.ofString "Literal") 452), some (Value.str (Str.ofString "Literal") 460), some (Value.builtin "object.__new__"), some (Value.bool true)] }) ::
  (nat_lit 177, { cls := Value.type "tuple", data := Data.seq #[Value.ref 148] }) ::
  (nat_lit 184, { cls := Value.type "tuple", data := Data.seq #[] }) ::
  (nat_lit 186, { cls := Value.type "tuple", data := Data.seq #[Value.str (Str.ofString "self") 499, Value.str (Str.ofString "table") 500, Value.str (Str.ofString "column") 501] }) ::
  (nat_lit 187, { cls := Value.type "tuple", data := Data.seq #[] }) ::
  (nat_lit 189, { cls := Value.type "code", data := Data.fields #[Value.str (Str.ofString "__init__") 496, Value.str (Str.ofString "Name.__init__") 497, Value.str (Str.ofString "/claim/cut.py") 498, Value.int 52 0, Value.int 3 0, Value.int 0 0, Value.int 0 0, Value.int 3 0, Value.ref 184, Value.bool true, Value.int 181 0, Value.ref 185, Value.none, Value.ref 186, Value.ref 187, Value.ref 188, Value.int 502 0, Value.int 52 0, Value.str (Str.ofString "/claim/cut.py") 503] }) ::
  (nat_lit 190, { cls := Value.type "function", dict := none, data := .func (by refine (?finnernthbody150 : Fn (inner (nth body 15)) 0) rfl; exact fun {nm ps a b ds rt tp sc ts bd pos} _ => fnOf nm (Str.ofString "Name.__init__") ps (a :: b) sc (Value.none) (Value.none) (Value.none) (Value.str (Str.ofString "pagebase.nodes") 394) (none) (Value.ref 189) (Value.none)), slots := #[] }) ::
  (nat_lit 191, { cls := Value.type "tuple", data := Data.seq #[] }) ::
  (nat_lit 193, { cls := Value.type "tuple", data := Data.seq #[Value.str (Str.ofString "self") 508] }) ::
  (nat_lit 194, { cls := Value.type "tuple", data := Data.seq #[] }) ::
  (nat_lit 196, { cls := Value.type "code", data := Data.fields #[Value.str (Str.ofString "row") 505, Value.str (Str.ofString "Name.row") 506, Value.str (Str.ofString "/claim/cut.py") 507, Value.int 59 0, Value.int 1 0, Value.int 0 0, Value.int 0 0, Value.int 3 0, Value.ref 191, Value.bool true, Value.int 181 0, Value.ref 192, Value.none, Value.ref 193, Value.ref 194, Value.ref 195, Value.int 509 0, Value.int 59 0, Value.str (Str.ofString "/claim/cut.py") 510] }) ::
  (nat_lit 197, { cls := Value.type "function", dict := none, data := .func (by refine (?finnernthbody151 : Fn (inner (nth body 15)) 1) rfl; exact fun {nm ps a b ds rt tp sc ts bd pos} _ => fnOf nm (Str.ofString "Name.row") ps (a :: b) sc (Value.none) (Value.none) (Value.none) (Value.str (Str.ofString "pagebase.nodes") 394) (none) (Value.ref 196) (Value.none)), slots := #[] }) ::
  (nat_lit 198, { cls := Value.type "tuple", data := Data.seq #[Value.str (Str.ofString "column") 512, Value.str (Str.ofString "depth") 513, Value.str (Str.ofString "place") 514, Value.str (Str.ofString "source") 515, Value.str (Str.ofString "table") 516] }) ::
  (nat_lit 199, { cls := Value.type "dict", data := Data.dict #[⟨PyData.keyHash P (Str.ofString "__module__"), .str (Str.ofString "__module__") 491, Value.str (Str.ofString "pagebase.nodes") 394⟩, ⟨PyData.keyHash P (Str.ofString "__firstlineno__"), .str (Str.ofString "__firstlineno__") 495, Value.int 50 494⟩, ⟨PyData.keyHash P (Str.ofString "__init__"), .str (Str.ofString "__init__") 504, Value.ref 190⟩, ⟨PyData.keyHash P (Str.ofString "row"), .str (Str.ofString "row") 511, Value.ref 197⟩, ⟨PyData.keyHash P (Str.ofString "__static_attributes__"), .str (Str.ofString "__static_attributes__") 517, Value.ref 198⟩, ⟨PyData.keyHash P (Str.ofString "__doc__"), .str (Str.ofString "__doc__") 518, Value.none⟩] 2 }) ::
  (nat_lit 200, { cls := Value.type "type", data := Data.cls { name := Str.ofString "Name", bases := [Value.ref 148], mro := [Value.ref 200, Value.ref 148, Value.ref 134, Value.type "object"], ns := 199, qualname := Str.ofString "Name" }, slots := #[some (Value.ref 177), none, some (Value.str (Str.ofString "Name") 484), some (Value.str (Str.ofString "Name") 492), some (Value.builtin "object.__new__"), some (Value.bool true)] }) ::
  (nat_lit 203, { cls := Value.type "tuple", data := Data.seq #[Value.ref 148] }) ::
  (nat_lit 210, { cls := Value.type "tuple", data := Data.seq #[] }) ::
  (nat_lit 212, { cls := Value.type "tuple", data := Data.seq #[Value.str (Str.ofString "self") 536, Value.str (Str.ofString "op") 537, Value.str (Str.ofString "operand") 538] }) ::
  (nat_lit 213, { cls := Value.type "tuple", data := Data.seq #[] }) ::
  (nat_lit 215, { cls := Value.type "code", data := Data.fields #[Value.str (Str.ofString "__init__") 533, Value.str (Str.ofString "Unary.__init__") 534, Value.str (Str.ofString "/claim/cut.py") 535, Value.int 63 0, Value.int 3 0, Value.int 0 0, Value.int 0 0, Value.int 3 0, Value.ref 210, Value.bool true, Value.int 181 0, Value.ref 211, Value.none, Value.ref 212, Value.ref 213, Value.ref 214, Value.int 539 0, Value.int 63 0, Value.str (Str.ofString "/claim/cut.py") 540] }) ::
  (nat_lit 216, { cls := Value.type "function", dict := none, data := .func (by refine (?finnernthbody160 : Fn (inner (nth body 16)) 0) rfl; exact fun {nm ps a b ds rt tp sc ts bd pos} _ => fnOf nm (Str.ofString "Unary.__init__") ps (a :: b) sc (Value.none) (Value.none) (Value.none) (Value.str (Str.ofString "pagebase.nodes") 394) (none) (Value.ref 215) (Value.none)), slots := #[] }) ::
  (nat_lit 217, { cls := Value.type "tuple", data := Data.seq #[] }) ::
  (nat_lit 219, { cls := Value.type "tuple", data := Data.seq #[Value.str (Str.ofString "self") 545] }) ::
  (nat_lit 220, { cls := Value.type "tuple", data := Data.seq #[] }) ::
  (nat_lit 222, { cls := Value.type "code", data := Data.fields #[Value.str (Str.ofString "row") 542, Value.str (Str.ofString "Unary.row") 543, Value.str (Str.ofString "/claim/cut.py") 544, Value.int 67 0, Value.int 1 0, Value.int 0 0, Value.int 0 0, Value.int 3 0, Value.ref 217, Value.bool true, Value.int 181 0, Value.ref 218, Value.none, Value.ref 219, Value.ref 220, Value.ref 221, Value.int 546 0, Value.int 67 0, Value.str (Str.ofString "/claim/cut.py") 547] }) ::
  (nat_lit 223, { cls := Value.type "function", dict := none, data := .func (by refine (?finnernthbody161 : Fn (inner (nth body 16)) 1) rfl; exact fun {nm ps a b ds rt tp sc ts bd pos} _ => fnOf nm (Str.ofString "Unary.row") ps (a :: b) sc (Value.none) (Value.none) (Value.none) (Value.str (Str.ofString "pagebase.nodes") 394) (none) (Value.ref 222) (Value.none)), slots := #[] }) ::
  (nat_lit 224, { cls := Value.type "tuple", data := Data.seq #[Value.str (Str.ofString "op") 549, Value.str (Str.ofString "operand") 550] }) ::
  (nat_lit 225, { cls := Value.type "dict", data := Data.dict #[⟨PyData.keyHash P (Str.ofString "__module__"), .str (Str.ofString "__module__") 528, Value.str (Str.ofString "pagebase.nodes") 394⟩, ⟨PyData.keyHash P (Str.ofString "__firstlineno__"), .str (Str.ofString "__firstlineno__") 532, Value.int 61 531⟩, ⟨PyData.keyHash P (Str.ofString "__init__"), .str (Str.ofString "__init__") 541, Value.ref 216⟩, ⟨PyData.keyHash P (Str.ofString "row"), .str (Str.ofString "row") 548, Value.ref 223⟩, ⟨PyData.keyHash P (Str.ofString "__static_attributes__"), .str (Str.ofString "__static_attributes__") 551, Value.ref 224⟩, ⟨PyData.keyHash P (Str.ofString "__doc__"), .str (Str.ofString "__doc__") 552, Value.none⟩] 2 }) ::
  (nat_lit 226, { cls := Value.type "type", data := Data.cls { name := Str.ofString "Unary", bases := [Value.ref 148], mro := [Value.ref 226, Value.ref 148, Value.ref 134, Value.type "object"], ns := 225, qualname := Str.ofString "Unary" }, slots := #[some (Value.ref 203), none, some (Value.str (Str.ofString "Unary") 521), some (Value.str (Str.ofString "Unary") 529), some (Value.builtin "object.__new__"), some (Value.bool true)] }) ::
  (nat_lit 229, { cls := Value.type "tuple", data := Data.seq #[Value.ref 148] }) ::
  (nat_lit 236, { cls := Value.type "tuple", data := Data.seq #[] }) ::
  (nat_lit 238, { cls := Value.type "tuple", data := Data.seq #[Value.str (Str.ofString "self") 570, Value.str (Str.ofString "op") 571, Value.str (Str.ofString "left") 572, Value.str (Str.ofString "right") 573] }) ::
  (nat_lit 239, { cls := Value.type "tuple", data := Data.seq #[] }) ::
  (nat_lit 241, { cls := Value.type "code", data := Data.fields #[Value.str (Str.ofString "__init__") 567, Value.str (Str.ofString "Binary.__init__") 568, Value.str (Str.ofString "/claim/cut.py") 569, Value.int 71 0, Value.int 4 0, Value.int 0 0, Value.int 0 0, Value.int 3 0, Value.ref 236, Value.bool true, Value.int 181 0, Value.ref 237, Value.none, Value.ref 238, Value.ref 239, Value.ref 240, Value.int 574 0, Value.int 71 0, Value.str (Str.ofString "/claim/cut.py") 575] }) ::
  (nat_lit 242, { cls := Value.type "function", dict := none, data := .func (by refine (?finnernthbody170 : Fn (inner (nth body 17)) 0) rfl; exact fun {nm ps a b ds rt tp sc ts bd pos} _ => fnOf nm (Str.ofString "Binary.__init__") ps (a :: b) sc (Value.none) (Value.none) (Value.none) (Value.str (Str.ofString "pagebase.nodes") 394) (none) (Value.ref 241) (Value.none)), slots := #[] }) ::
  (nat_lit 243, { cls := Value.type "tuple", data := Data.seq #[] }) ::
  (nat_lit 245, { cls := Value.type "tuple", data := Data.seq #[Value.str (Str.ofString "self") 580] }) ::
  (nat_lit 246, { cls := Value.type "tuple", data := Data.seq #[] }) ::
  (nat_lit 248, { cls := Value.type "code", data := Data.fields #[Value.str (Str.ofString "row") 577, Value.str (Str.ofString "Binary.row") 578, Value.str (Str.ofString "/claim/cut.py") 579, Value.int 76 0, Value.int 1 0, Value.int 0 0, Value.int 0 0, Value.int 3 0, Value.ref 243, Value.bool true, Value.int 181 0, Value.ref 244, Value.none, Value.ref 245, Value.ref 246, Value.ref 247, Value.int 581 0, Value.int 76 0, Value.str (Str.ofString "/claim/cut.py") 582] }) ::
  (nat_lit 249, { cls := Value.type "function", dict := none, data := .func (by refine (?finnernthbody171 : Fn (inner (nth body 17)) 1) rfl; exact fun {nm ps a b ds rt tp sc ts bd pos} _ => fnOf nm (Str.ofString "Binary.row") ps (a :: b) sc (Value.none) (Value.none) (Value.none) (Value.str (Str.ofString "pagebase.nodes") 394) (none) (Value.ref 248) (Value.none)), slots := #[] }) ::
  (nat_lit 250, { cls := Value.type "tuple", data := Data.seq #[Value.str (Str.ofString "left") 584, Value.str (Str.ofString "op") 585, Value.str (Str.ofString "right") 586] }) ::
  (nat_lit 251, { cls := Value.type "dict", data := Data.dict #[⟨PyData.keyHash P (Str.ofString "__module__"), .str (Str.ofString "__module__") 562, Value.str (Str.ofString "pagebase.nodes") 394⟩, ⟨PyData.keyHash P (Str.ofString "__firstlineno__"), .str (Str.ofString "__firstlineno__") 566, Value.int 69 565⟩, ⟨PyData.keyHash P (Str.ofString "__init__"), .str (Str.ofString "__init__") 576, Value.ref 242⟩, ⟨PyData.keyHash P (Str.ofString "row"), .str (Str.ofString "row") 583, Value.ref 249⟩, ⟨PyData.keyHash P (Str.ofString "__static_attributes__"), .str (Str.ofString "__static_attributes__") 587, Value.ref 250⟩, ⟨PyData.keyHash P (Str.ofString "__doc__"), .str (Str.ofString "__doc__") 588, Value.none⟩] 2 }) ::
  (nat_lit 252, { cls := Value.type "type", data := Data.cls { name := Str.ofString "Binary", bases := [Value.ref 148], mro := [Value.ref 252, Value.ref 148, Value.ref 134, Value.type "object"], ns := 251, qualname := Str.ofString "Binary" }, slots := #[some (Value.ref 229), none, some (Value.str (Str.ofString "Binary") 555), some (Value.str (Str.ofString "Binary") 563), some (Value.builtin "object.__new__"), some (Value.bool true)] }) ::
  (nat_lit 255, { cls := Value.type "tuple", data := Data.seq #[Value.ref 148] }) ::
  (nat_lit 262, { cls := Value.type "tuple", data := Data.seq #[] }) ::
  (nat_lit 264, { cls := Value.type "tuple", data := Data.seq #[Value.str (Str.ofString "self") 606, Value.str (Str.ofString "value") 607, Value.str (Str.ofString "low") 608, Value.str (Str.ofString "high") 609, Value.str (Str.ofString "negated") 610] }) ::
  (nat_lit 265, { cls := Value.type "tuple", data := Data.seq #[] }) ::
  (nat_lit 267, { cls := Value.type "code", data := Data.fields #[Value.str (Str.ofString "__init__") 603, Value.str (Str.ofString "Between.__init__") 604, Value.str (Str.ofString "/claim/cut.py") 605, Value.int 80 0, Value.int 5 0, Value.int 0 0, Value.int 0 0, Value.int 3 0, Value.ref 262, Value.bool true, Value.int 181 0, Value.ref 263, Value.none, Value.ref 264, Value.ref 265, Value.ref 266, Value.int 611 0, Value.int 80 0, Value.str (Str.ofString "/claim/cut.py") 612] }) ::
  (nat_lit 268, { cls := Value.type "function", dict := none, data := .func (by refine (?finnernthbody180 : Fn (inner (nth body 18)) 0) rfl; exact fun {nm ps a b ds rt tp sc ts bd pos} _ => fnOf nm (Str.ofString "Between.__init__") ps (a :: b) sc (Value.none) (Value.none) (Value.none) (Value.str (Str.ofString "pagebase.nodes") 394) (none) (Value.ref 267) (Value.none)), slots := #[] }) ::
  (nat_lit 269, { cls := Value.type "tuple", data := Data.seq #[] }) ::
  (nat_lit 271, { cls := Value.type "tuple", data := Data.seq #[Value.str (Str.ofString "self") 617] }) ::
  (nat_lit 272, { cls := Value.type "tuple", data := Data.seq #[] }) ::
  (nat_lit 274, { cls := Value.type "code", data := Data.fields #[Value.str (Str.ofString "row") 614, Value.str (Str.ofString "Between.row") 615, Value.str (Str.ofString "/claim/cut.py") 616, Value.int 86 0, Value.int 1 0, Value.int 0 0, Value.int 0 0, Value.int 3 0, Value.ref 269, Value.bool true, Value.int 181 0, Value.ref 270, Value.none, Value.ref 271, Value.ref 272, Value.ref 273, Value.int 618 0, Value.int 86 0, Value.str (Str.ofString "/claim/cut.py") 619] }) ::
  (nat_lit 275, { cls := Value.type "function", dict := none, data := .func (by refine (?finnernthbody181 : Fn (inner (nth body 18)) 1) rfl; exact fun {nm ps a b ds rt tp sc ts bd pos} _ => fnOf nm (Str.ofString "Between.row") ps (a :: b) sc (Value.none) (Value.none) (Value.none) (Value.str (Str.ofString "pagebase.nodes") 394) (none) (Value.ref 274) (Value.none)), slots := #[] }) ::
  (nat_lit 276, { cls := Value.type "tuple", data := Data.seq #[Value.str (Str.ofString "high") 621, Value.str (Str.ofString "low") 622, Value.str (Str.ofString "negated") 623, Value.str (Str.ofString "value") 624] }) ::
  (nat_lit 277, { cls := Value.type "dict", data := Data.dict #[⟨PyData.keyHash P (Str.ofString "__module__"), .str (Str.ofString "__module__") 598, Value.str (Str.ofString "pagebase.nodes") 394⟩, ⟨PyData.keyHash P (Str.ofString "__firstlineno__"), .str (Str.ofString "__firstlineno__") 602, Value.int 78 601⟩, ⟨PyData.keyHash P (Str.ofString "__init__"), .str (Str.ofString "__init__") 613, Value.ref 268⟩, ⟨PyData.keyHash P (Str.ofString "row"), .str (Str.ofString "row") 620, Value.ref 275⟩, ⟨PyData.keyHash P (Str.ofString "__static_attributes__"), .str (Str.ofString "__static_attributes__") 625, Value.ref 276⟩, ⟨PyData.keyHash P (Str.ofString "__doc__"), .str (Str.ofString "__doc__") 626, Value.none⟩] 2 }) ::
  (nat_lit 278, { cls := Value.type "type", data := Data.cls { name := Str.ofString "Between", bases := [Value.ref 148], mro := [Value.ref 278, Value.ref 148, Value.ref 134, Value.type "object"], ns := 277, qualname := Str.ofString "Between" }, slots := #[some (Value.ref 255), none, some (Value.str (Str.ofString "Between") 591), some (Value.str (Str.ofString "Between") 599), some (Value.builtin "object.__new__"), some (Value.bool true)] }) ::
  (nat_lit 281, { cls := Value.type "tuple", data := Data.seq #[Value.ref 148] }) ::
  (nat_lit 288, { cls := Value.type "tuple", data := Data.seq #[] }) ::
  (nat_lit 290, { cls := Value.type "tuple", data := Data.seq #[Value.str (Str.ofString "self") 644, Value.str (Str.ofString "value") 645, Value.str (Str.ofString "items") 646, Value.str (Str.ofString "negated") 647] }) ::
  (nat_lit 291, { cls := Value.type "tuple", data := Data.seq #[] }) ::
  (nat_lit 293, { cls := Value.type "code", data := Data.fields #[Value.str (Str.ofString "__init__") 641, Value.str (Str.ofString "InList.__init__") 642, Value.str (Str.ofString "/claim/cut.py") 643, Value.int 90 0, Value.int 4 0, Value.int 0 0, Value.int 0 0, Value.int 3 0, Value.ref 288, Value.bool true, Value.int 181 0, Value.ref 289, Value.none, Value.ref 290, Value.ref 291, Value.ref 292, Value.int 648 0, Value.int 90 0, Value.str (Str.ofString "/claim/cut.py") 649] }) ::
  (nat_lit 294, { cls := Value.type "function", dict := none, data := .func (by refine (?finnernthbody190 : Fn (inner (nth body 19)) 0) rfl; exact fun {nm ps a b ds rt tp sc ts bd pos} _ => fnOf nm (Str.ofString "InList.__init__") ps (a :: b) sc (Value.none) (Value.none) (Value.none) (Value.str (Str.ofString "pagebase.nodes") 394) (none) (Value.ref 293) (Value.none)), slots := #[] }) ::
  (nat_lit 295, { cls := Value.type "tuple", data := Data.seq #[] }) ::
  (nat_lit 297, { cls := Value.type "tuple", data := Data.seq #[Value.str (Str.ofString "self") 654] }) ::
  (nat_lit 298, { cls := Value.type "tuple", data := Data.seq #[] }) ::
  (nat_lit 300, { cls := Value.type "code", data := Data.fields #[Value.str (Str.ofString "row") 651, Value.str (Str.ofString "InList.row") 652, Value.str (Str.ofString "/claim/cut.py") 653, Value.int 95 0, Value.int 1 0, Value.int 0 0, Value.int 0 0, Value.int 3 0, Value.ref 295, Value.bool true, Value.int 181 0, Value.ref 296, Value.none, Value.ref 297, Value.ref 298, Value.ref 299, Value.int 655 0, Value.int 95 0, Value.str (Str.ofString "/claim/cut.py") 656] }) ::
  (nat_lit 301, { cls := Value.type "function", dict := none, data := .func (by refine (?finnernthbody191 : Fn (inner (nth body 19)) 1) rfl; exact fun {nm ps a b ds rt tp sc ts bd pos} _ => fnOf nm (Str.ofString "InList.row") ps (a :: b) sc (Value.none) (Value.none) (Value.none) (Value.str (Str.ofString "pagebase.nodes") 394) (none) (Value.ref 300) (Value.none)), slots := #[] }) ::
  (nat_lit 302, { cls := Value.type "tuple", data := Data.seq #[Value.str (Str.ofString "items") 658, Value.str (Str.ofString "negated") 659, Value.str (Str.ofString "value") 660] }) ::
  (nat_lit 303, { cls := Value.type "dict", data := Data.dict #[⟨PyData.keyHash P (Str.ofString "__module__"), .str (Str.ofString "__module__") 636, Value.str (Str.ofString "pagebase.nodes") 394⟩, ⟨PyData.keyHash P (Str.ofString "__firstlineno__"), .str (Str.ofString "__firstlineno__") 640, Value.int 88 639⟩, ⟨PyData.keyHash P (Str.ofString "__init__"), .str (Str.ofString "__init__") 650, Value.ref 294⟩, ⟨PyData.keyHash P (Str.ofString "row"), .str (Str.ofString "row") 657, Value.ref 301⟩, ⟨PyData.keyHash P (Str.ofString "__static_attributes__"), .str (Str.ofString "__static_attributes__") 661, Value.ref 302⟩, ⟨PyData.keyHash P (Str.ofString "__doc__"), .str (Str.ofString "__doc__") 662, Value.none⟩] 2 }) ::
  (nat_lit 304, { cls := Value.type "type", data := Data.cls { name := Str.ofString "InList", bases := [Value.ref 148], mro := [Value.ref 304, Value.ref 148, Value.ref 134, Value.type "object"], ns := 303, qualname := Str.ofString "InList" }, slots := #[some (Value.ref 281), none, some (Value.str (Str.ofString "InList") 629), some (Value.str (Str.ofString "InList") 637), some (Value.builtin "object.__new__"), some (Value.bool true)] }) ::
  (nat_lit 307, { cls := Value.type "tuple", data := Data.seq #[Value.ref 148] }) ::
  (nat_lit 314, { cls := Value.type "tuple", data := Data.seq #[] }) ::
  (nat_lit 316, { cls := Value.type "tuple", data := Data.seq #[Value.str (Str.ofString "self") 680, Value.str (Str.ofString "value") 681, Value.str (Str.ofString "select") 682, Value.str (Str.ofString "negated") 683] }) ::
  (nat_lit 317, { cls := Value.type "tuple", data := Data.seq #[] }) ::
  (nat_lit 319, { cls := Value.type "code", data := Data.fields #[Value.str (Str.ofString "__init__") 677, Value.str (Str.ofString "InSelect.__init__") 678, Value.str (Str.ofString "/claim/cut.py") 679, Value.int 99 0, Value.int 4 0, Value.int 0 0, Value.int 0 0, Value.int 3 0, Value.ref 314, Value.bool true, Value.int 181 0, Value.ref 315, Value.none, Value.ref 316, Value.ref 317, Value.ref 318, Value.int 684 0, Value.int 99 0, Value.str (Str.ofString "/claim/cut.py") 685] }) ::
  (nat_lit 320, { cls := Value.type "function", dict := none, data := .func (by refine (?finnernthbody200 : Fn (inner (nth body 20)) 0) rfl; exact fun {nm ps a b ds rt tp sc ts bd pos} _ => fnOf nm (Str.ofString "InSelect.__init__") ps (a :: b) sc (Value.none) (Value.none) (Value.none) (Value.str (Str.ofString "pagebase.nodes") 394) (none) (Value.ref 319) (Value.none)), slots := #[] }) ::
  (nat_lit 321, { cls := Value.type "tuple", data := Data.seq #[] }) ::
  (nat_lit 323, { cls := Value.type "tuple", data := Data.seq #[Value.str (Str.ofString "self") 690] }) ::
  (nat_lit 324, { cls := Value.type "tuple", data := Data.seq #[] }) ::
  (nat_lit 326, { cls := Value.type "code", data := Data.fields #[Value.str (Str.ofString "row") 687, Value.str (Str.ofString "InSelect.row") 688, Value.str (Str.ofString "/claim/cut.py") 689, Value.int 104 0, Value.int 1 0, Value.int 0 0, Value.int 0 0, Value.int 3 0, Value.ref 321, Value.bool true, Value.int 181 0, Value.ref 322, Value.none, Value.ref 323, Value.ref 324, Value.ref 325, Value.int 691 0, Value.int 104 0, Value.str (Str.ofString "/claim/cut.py") 692] }) ::
  (nat_lit 327, { cls := Value.type "function", dict := none, data := .func (by refine (?finnernthbody201 : Fn (inner (nth body 20)) 1) rfl; exact fun {nm ps a b ds rt tp sc ts bd pos} _ => fnOf nm (Str.ofString "InSelect.row") ps (a :: b) sc (Value.none) (Value.none) (Value.none) (Value.str (Str.ofString "pagebase.nodes") 394) (none) (Value.ref 326) (Value.none)), slots := #[] }) ::
  (nat_lit 328, { cls := Value.type "tuple", data := Data.seq #[Value.str (Str.ofString "negated") 694, Value.str (Str.ofString "select") 695, Value.str (Str.ofString "value") 696] }) ::
  (nat_lit 329, { cls := Value.type "dict", data := Data.dict #[⟨PyData.keyHash P (Str.ofString "__module__"), .str (Str.ofString "__module__") 672, Value.str (Str.ofString "pagebase.nodes") 394⟩, ⟨PyData.keyHash P (Str.ofString "__firstlineno__"), .str (Str.ofString "__firstlineno__") 676, Value.int 97 675⟩, ⟨PyData.keyHash P (Str.ofString "__init__"), .str (Str.ofString "__init__") 686, Value.ref 320⟩, ⟨PyData.keyHash P (Str.ofString "row"), .str (Str.ofString "row") 693, Value.ref 327⟩, ⟨PyData.keyHash P (Str.ofString "__static_attributes__"), .str (Str.ofString "__static_attributes__") 697, Value.ref 328⟩, ⟨PyData.keyHash P (Str.ofString "__doc__"), .str (Str.ofString "__doc__") 698, Value.none⟩] 2 }) ::
  (nat_lit 330, { cls := Value.type "type", data := Data.cls { name := Str.ofString "InSelect", bases := [Value.ref 148], mro := [Value.ref 330, Value.ref 148, Value.ref 134, Value.type "object"], ns := 329, qualname := Str.ofString "InSelect" }, slots := #[some (Value.ref 307), none, some (Value.str (Str.ofString "InSelect") 665), some (Value.str (Str.ofString "InSelect") 673), some (Value.builtin "object.__new__"), some (Value.bool true)] }) ::
  (nat_lit 333, { cls := Value.type "tuple", data := Data.seq #[Value.ref 148] }) ::
  (nat_lit 340, { cls := Value.type "tuple", data := Data.seq #[] }) ::
  (nat_lit 342, { cls := Value.type "tuple", data := Data.seq #[Value.str (Str.ofString "self") 716, Value.str (Str.ofString "base") 717, Value.str (Str.ofString "whens") 718, Value.str (Str.ofString "other") 719] }) ::
  (nat_lit 343, { cls := Value.type "tuple", data := Data.seq #[] }) ::
  (nat_lit 345, { cls := Value.type "code", data := Data.fields #[Value.str (Str.ofString "__init__") 713, Value.str (Str.ofString "Case.__init__") 714, Value.str (Str.ofString "/claim/cut.py") 715, Value.int 108 0, Value.int 4 0, Value.int 0 0, Value.int 0 0, Value.int 3 0, Value.ref 340, Value.bool true, Value.int 181 0, Value.ref 341, Value.none, Value.ref 342, Value.ref 343, Value.ref 344, Value.int 720 0, Value.int 108 0, Value.str (Str.ofString "/claim/cut.py") 721] }) ::
  (nat_lit 346, { cls := Value.type "function", dict := none, data := .func (by refine (?finnernthbody210 : Fn (inner (nth body 21)) 0) rfl; exact fun {nm ps a b ds rt tp sc ts bd pos} _ => fnOf nm (Str.ofString "Case.__init__") ps (a :: b) sc (Value.none) (Value.none) (Value.none) (Value.str (Str.ofString "pagebase.nodes") 394) (none) (Value.ref 345) (Value.none)), slots := #[] }) ::
  (nat_lit 347, { cls := Value.type "tuple", data := Data.seq #[] }) ::
  (nat_lit 350, { cls := Value.type "code", data := Data.fields #[Value.str (Str.ofString "row") 723, Value.str (Str.ofString "Case.row") 724, Value.str (Str.ofString "/claim/cut.py") 725, Value.int 113 0, Value.int 1 0, Value.int 0 0, Value.int 0 0, Value.int 3 0, Value.ref 347, Value.bool true, Value.int 181 0, Value.ref 348, Value.none, Value.none, Value.none, Value.ref 349, Value.int 726 0, Value.int 113 0, Value.str (Str.ofString "/claim/cut.py") 727] }) ::
  (nat_lit 351, { cls := Value.type "function", dict := none, data := .func (by refine (?finnernthbody211 : Fn (inner (nth body 21)) 1) rfl; exact fun {nm ps a b ds rt tp sc ts bd pos} _ => fnOf nm (Str.ofString "Case.row") ps (a :: b) sc (Value.none) (Value.none) (Value.none) (Value.str (Str.ofString "pagebase.nodes") 394) (none) (Value.ref 350) (Value.none)), slots := #[] }) ::
  (nat_lit 352, { cls := Value.type "tuple", data := Data.seq #[Value.str (Str.ofString "base") 729, Value.str (Str.ofString "other") 730, Value.str (Str.ofString "whens") 731] }) ::
  (nat_lit 353, { cls := Value.type "dict", data := Data.dict #[⟨PyData.keyHash P (Str.ofString "__module__"), .str (Str.ofString "__module__") 708, Value.str (Str.ofString "pagebase.nodes") 394⟩, ⟨PyData.keyHash P (Str.ofString "__firstlineno__"), .str (Str.ofString "__firstlineno__") 712, Value.int 106 711⟩, ⟨PyData.keyHash P (Str.ofString "__init__"), .str (Str.ofString "__init__") 722, Value.ref 346⟩, ⟨PyData.keyHash P (Str.ofString "row"), .str (Str.ofString "row") 728, Value.ref 351⟩, ⟨PyData.keyHash P (Str.ofString "__static_attributes__"), .str (Str.ofString "__static_attributes__") 732, Value.ref 352⟩, ⟨PyData.keyHash P (Str.ofString "__doc__"), .str (Str.ofString "__doc__") 733, Value.none⟩] 2 }) ::
  (nat_lit 354, { cls := Value.type "type", data := Data.cls { name := Str.ofString "Case", bases := [Value.ref 148], mro := [Value.ref 354, Value.ref 148, Value.ref 134, Value.type "object"], ns := 353, qualname := Str.ofString "Case" }, slots := #[some (Value.ref 333), none, some (Value.str (Str.ofString "Case") 701), some (Value.str (Str.ofString "Case") 709), some (Value.builtin "object.__new__"), some (Value.bool true)] }) ::
  (nat_lit 357, { cls := Value.type "tuple", data := Data.seq #[Value.ref 148] }) ::
  (nat_lit 364, { cls := Value.type "tuple", data := Data.seq #[] }) ::
  (nat_lit 366, { cls := Value.type "tuple", data := Data.seq #[Value.str (Str.ofString "self") 751, Value.str (Str.ofString "name") 752, Value.str (Str.ofString "arguments") 753, Value.str (Str.ofString "distinct") 754, Value.str (Str.ofString "star") 755] }) ::
  (nat_lit 367, { cls := Value.type "tuple", data := Data.seq #[] }) ::
  (nat_lit 369, { cls := Value.type "code", data := Data.fields #[Value.str (Str.ofString "__init__") 748, Value.str (Str.ofString "Call.__init__") 749, Value.str (Str.ofString "/claim/cut.py") 750, Value.int 118 0, Value.int 5 0, Value.int 0 0, Value.int 0 0, Value.int 3 0, Value.ref 364, Value.bool true, Value.int 181 0, Value.ref 365, Value.none, Value.ref 366, Value.ref 367, Value.ref 368, Value.int 756 0, Value.int 118 0, Value.str (Str.ofString "/claim/cut.py") 757] }) ::
  (nat_lit 370, { cls := Value.type "function", dict := none, data := .func (by refine (?finnernthbody220 : Fn (inner (nth body 22)) 0) rfl; exact fun {nm ps a b ds rt tp sc ts bd pos} _ => fnOf nm (Str.ofString "Call.__init__") ps (a :: b) sc (Value.none) (Value.none) (Value.none) (Value.str (Str.ofString "pagebase.nodes") 394) (none) (Value.ref 369) (Value.none)), slots := #[] }) ::
  (nat_lit 371, { cls := Value.type "tuple", data := Data.seq #[] }) ::
  (nat_lit 373, { cls := Value.type "tuple", data := Data.seq #[Value.str (Str.ofString "self") 762] }) ::
  (nat_lit 374, { cls := Value.type "tuple", data := Data.seq #[] }) ::
  (nat_lit 376, { cls := Value.type "code", data := Data.fields #[Value.str (Str.ofString "row") 759, Value.str (Str.ofString "Call.row") 760, Value.str (Str.ofString "/claim/cut.py") 761, Value.int 124 0, Value.int 1 0, Value.int 0 0, Value.int 0 0, Value.int 3 0, Value.ref 371, Value.bool true, Value.int 181 0, Value.ref 372, Value.none, Value.ref 373, Value.ref 374, Value.ref 375, Value.int 763 0, Value.int 124 0, Value.str (Str.ofString "/claim/cut.py") 764] }) ::
  (nat_lit 377, { cls := Value.type "function", dict := none, data := .func (by refine (?finnernthbody221 : Fn (inner (nth body 22)) 1) rfl; exact fun {nm ps a b ds rt tp sc ts bd pos} _ => fnOf nm (Str.ofString "Call.row") ps (a :: b) sc (Value.none) (Value.none) (Value.none) (Value.str (Str.ofString "pagebase.nodes") 394) (none) (Value.ref 376) (Value.none)), slots := #[] }) ::
  (nat_lit 378, { cls := Value.type "tuple", data := Data.seq #[Value.str (Str.ofString "arguments") 766, Value.str (Str.ofString "distinct") 767, Value.str (Str.ofString "name") 768, Value.str (Str.ofString "star") 769] }) ::
  (nat_lit 379, { cls := Value.type "dict", data := Data.dict #[⟨PyData.keyHash P (Str.ofString "__module__"), .str (Str.ofString "__module__") 743, Value.str (Str.ofString "pagebase.nodes") 394⟩, ⟨PyData.keyHash P (Str.ofString "__firstlineno__"), .str (Str.ofString "__firstlineno__") 747, Value.int 116 746⟩, ⟨PyData.keyHash P (Str.ofString "__init__"), .str (Str.ofString "__init__") 758, Value.ref 370⟩, ⟨PyData.keyHash P (Str.ofString "row"), .str (Str.ofString "row") 765, Value.ref 377⟩, ⟨PyData.keyHash P (Str.ofString "__static_attributes__"), .str (Str.ofString "__static_attributes__") 770, Value.ref 378⟩, ⟨PyData.keyHash P (Str.ofString "__doc__"), .str (Str.ofString "__doc__") 771, Value.none⟩] 2 }) ::
  (nat_lit 380, { cls := Value.type "type", data := Data.cls { name := Str.ofString "Call", bases := [Value.ref 148], mro := [Value.ref 380, Value.ref 148, Value.ref 134, Value.type "object"], ns := 379, qualname := Str.ofString "Call" }, slots := #[some (Value.ref 357), none, some (Value.str (Str.ofString "Call") 736), some (Value.str (Str.ofString "Call") 744), some (Value.builtin "object.__new__"), some (Value.bool true)] }) ::
  (nat_lit 383, { cls := Value.type "tuple", data := Data.seq #[Value.ref 148] }) ::
  (nat_lit 390, { cls := Value.type "tuple", data := Data.seq #[] }) ::
  (nat_lit 392, { cls := Value.type "tuple", data := Data.seq #[Value.str (Str.ofString "self") 789, Value.str (Str.ofString "value") 790, Value.str (Str.ofString "type_name") 791] }) ::
  (nat_lit 393, { cls := Value.type "tuple", data := Data.seq #[] }) ::
  (nat_lit 395, { cls := Value.type "code", data := Data.fields #[Value.str (Str.ofString "__init__") 786, Value.str (Str.ofString "Cast.__init__") 787, Value.str (Str.ofString "/claim/cut.py") 788, Value.int 128 0, Value.int 3 0, Value.int 0 0, Value.int 0 0, Value.int 3 0, Value.ref 390, Value.bool true, Value.int 181 0, Value.ref 391, Value.none, Value.ref 392, Value.ref 393, Value.ref 394, Value.int 792 0, Value.int 128 0, Value.str (Str.ofString "/claim/cut.py") 793] }) ::
  (nat_lit 396, { cls := Value.type "function", dict := none, data := .func (by refine (?finnernthbody230 : Fn (inner (nth body 23)) 0) rfl; exact fun {nm ps a b ds rt tp sc ts bd pos} _ => fnOf nm (Str.ofString "Cast.__init__") ps (a :: b) sc (Value.none) (Value.none) (Value.none) (Value.str (Str.ofString "pagebase.nodes") 394) (none) (Value.ref 395) (Value.none)), slots := #[] }) ::
  (nat_lit 397, { cls := Value.type "tuple", data := Data.seq #[] }) ::
  (nat_lit 399, { cls := Value.type "tuple", data := Data.seq #[Value.str (Str.ofString "self") 798] }) ::
  (nat_lit 400, { cls := Value.type "tuple", data := Data.seq #[] }) ::
  (nat_lit 402, { cls := Value.type "code", data := Data.fields #[Value.str (Str.ofString "row") 795, Value.str (Str.ofString "Cast.row") 796, Value.str (Str.ofString "/claim/cut.py") 797, Value.int 132 0, Value.int 1 0, Value.int 0 0, Value.int 0 0, Value.int 3 0, Value.ref 397, Value.bool true, Value.int 181 0, Value.ref 398, Value.none, Value.ref 399, Value.ref 400, Value.ref 401, Value.int 799 0, Value.int 132 0, Value.str (Str.ofString "/claim/cut.py") 800] }) ::
  (nat_lit 403, { cls := Value.type "function", dict := none, data := .func (by refine (?finnernthbody231 : Fn (inner (nth body 23)) 1) rfl; exact fun {nm ps a b ds rt tp sc ts bd pos} _ => fnOf nm (Str.ofString "Cast.row") ps (a :: b) sc (Value.none) (Value.none) (Value.none) (Value.str (Str.ofString "pagebase.nodes") 394) (none) (Value.ref 402) (Value.none)), slots := #[] }) ::
  (nat_lit 404, { cls := Value.type "tuple", data := Data.seq #[Value.str (Str.ofString "type_name") 802, Value.str (Str.ofString "value") 803] }) ::
  (nat_lit 405, { cls := Value.type "dict", data := Data.dict #[⟨PyData.keyHash P (Str.ofString "__module__"), .str (Str.ofString "__module__") 781, Value.str (Str.ofString "pagebase.nodes") 394⟩, ⟨PyData.keyHash P (Str.ofString "__firstlineno__"), .str (Str.ofString "__firstlineno__") 785, Value.int 126 784⟩, ⟨PyData.keyHash P (Str.ofString "__init__"), .str (Str.ofString "__init__") 794, Value.ref 396⟩, ⟨PyData.keyHash P (Str.ofString "row"), .str (Str.ofString "row") 801, Value.ref 403⟩, ⟨PyData.keyHash P (Str.ofString "__static_attributes__"), .str (Str.ofString "__static_attributes__") 804, Value.ref 404⟩, ⟨PyData.keyHash P (Str.ofString "__doc__"), .str (Str.ofString "__doc__") 805, Value.none⟩] 2 }) ::
  (nat_lit 406, { cls := Value.type "type", data := Data.cls { name := Str.ofString "Cast", bases := [Value.ref 148], mro := [Value.ref 406, Value.ref 148, Value.ref 134, Value.type "object"], ns := 405, qualname := Str.ofString "Cast" }, slots := #[some (Value.ref 383), none, some (Value.str (Str.ofString "Cast") 774), some (Value.str (Str.ofString "Cast") 782), some (Value.builtin "object.__new__"), some (Value.bool true)] }) ::
  (nat_lit 409, { cls := Value.type "tuple", data := Data.seq #[Value.ref 148] }) ::
  (nat_lit 416, { cls := Value.type "tuple", data := Data.seq #[] }) ::
  (nat_lit 418, { cls := Value.type "tuple", data := Data.seq #[Value.str (Str.ofString "self") 823, Value.str (Str.ofString "value") 824, Value.str (Str.ofString "collation") 825] }) ::
  (nat_lit 419, { cls := Value.type "tuple", data := Data.seq #[] }) ::
  (nat_lit 421, { cls := Value.type "code", data := Data.fields #[Value.str (Str.ofString "__init__") 820, Value.str (Str.ofString "Collate.__init__") 821, Value.str (Str.ofString "/claim/cut.py") 822, Value.int 136 0, Value.int 3 0, Value.int 0 0, Value.int 0 0, Value.int 3 0, Value.ref 416, Value.bool true, Value.int 181 0, Value.ref 417, Value.none, Value.ref 418, Value.ref 419, Value.ref 420, Value.int 826 0, Value.int 136 0, Value.str (Str.ofString "/claim/cut.py") 827] }) ::
  (nat_lit 422, { cls := Value.type "function", dict := none, data := .func (by refine (?finnernthbody240 : Fn (inner (nth body 24)) 0) rfl; exact fun {nm ps a b ds rt tp sc ts bd pos} _ => fnOf nm (Str.ofString "Collate.__init__") ps (a :: b) sc (Value.none) (Value.none) (Value.none) (Value.str (Str.ofString "pagebase.nodes") 394) (none) (Value.ref 421) (Value.none)), slots := #[] }) ::
  (nat_lit 423, { cls := Value.type "tuple", data := Data.seq #[] }) ::
  (nat_lit 425, { cls := Value.type "tuple", data := Data.seq #[Value.str (Str.ofString "self") 832] }) ::
  (nat_lit 426, { cls := Value.type "tuple", data := Data.seq #[] }) ::
  (nat_lit 428, { cls := Value.type "code", data := Data.fields #[Value.str (Str.ofString "row") 829, Value.str (Str.ofString "Collate.row") 830, Value.str (Str.ofString "/claim/cut.py") 831, Value.int 140 0, Value.int 1 0, Value.int 0 0, Value.int 0 0, Value.int 3 0, Value.ref 423, Value.bool true, Value.int 181 0, Value.ref 424, Value.none, Value.ref 425, Value.ref 426, Value.ref 427, Value.int 833 0, Value.int 140 0, Value.str (Str.ofString "/claim/cut.py") 834] }) ::
  (nat_lit 429, { cls := Value.type "function", dict := none, data := .func (by refine (?finnernthbody241 : Fn (inner (nth body 24)) 1) rfl; exact fun {nm ps a b ds rt tp sc ts bd pos} _ => fnOf nm (Str.ofString "Collate.row") ps (a :: b) sc (Value.none) (Value.none) (Value.none) (Value.str (Str.ofString "pagebase.nodes") 394) (none) (Value.ref 428) (Value.none)), slots := #[] }) ::
  (nat_lit 430, { cls := Value.type "tuple", data := Data.seq #[Value.str (Str.ofString "collation") 836, Value.str (Str.ofString "value") 837] }) ::
  (nat_lit 431, { cls := Value.type "dict", data := Data.dict #[⟨PyData.keyHash P (Str.ofString "__module__"), .str (Str.ofString "__module__") 815, Value.str (Str.ofString "pagebase.nodes") 394⟩, ⟨PyData.keyHash P (Str.ofString "__firstlineno__"), .str (Str.ofString "__firstlineno__") 819, Value.int 134 818⟩, ⟨PyData.keyHash P (Str.ofString "__init__"), .str (Str.ofString "__init__") 828, Value.ref 422⟩, ⟨PyData.keyHash P (Str.ofString "row"), .str (Str.ofString "row") 835, Value.ref 429⟩, ⟨PyData.keyHash P (Str.ofString "__static_attributes__"), .str (Str.ofString "__static_attributes__") 838, Value.ref 430⟩, ⟨PyData.keyHash P (Str.ofString "__doc__"), .str (Str.ofString "__doc__") 839, Value.none⟩] 2 }) ::
  (nat_lit 432, { cls := Value.type "type", data := Data.cls { name := Str.ofString "Collate", bases := [Value.ref 148], mro := [Value.ref 432, Value.ref 148, Value.ref 134, Value.type "object"], ns := 431, qualname := Str.ofString "Collate" }, slots := #[some (Value.ref 409), none, some (Value.str (Str.ofString "Collate") 808), some (Value.str (Str.ofString "Collate") 816), some (Value.builtin "object.__new__"), some (Value.bool true)] }) ::
  (nat_lit 435, { cls := Value.type "tuple", data := Data.seq #[Value.ref 148] }) ::
  (nat_lit 442, { cls := Value.type "tuple", data := Data.seq #[] }) ::
  (nat_lit 444, { cls := Value.type "tuple", data := Data.seq #[Value.str (Str.ofString "self") 857, Value.str (Str.ofString "value") 858, Value.str (Str.ofString "negated") 859] }) ::
  (nat_lit 445, { cls := Value.type "tuple", data := Data.seq #[] }) ::
  (nat_lit 447, { cls := Value.type "code", data := Data.fields #[Value.str (Str.ofString "__init__") 854, Value.str (Str.ofString "IsNull.__init__") 855, Value.str (Str.ofString "/claim/cut.py") 856, Value.int 144 0, Value.int 3 0, Value.int 0 0, Value.int 0 0, Value.int 3 0, Value.ref 442, Value.bool true, Value.int 181 0, Value.ref 443, Value.none, Value.ref 444, Value.ref 445, Value.ref 446, Value.int 860 0, Value.int 144 0, Value.str (Str.ofString "/claim/cut.py") 861] }) ::
  (nat_lit 448, { cls := Value.type "function", dict := none, data := .func (by refine (?finnernthbody250 : Fn (inner (nth body 25)) 0) rfl; exact fun {nm ps a b ds rt tp sc ts bd pos} _ => fnOf nm (Str.ofString "IsNull.__init__") ps (a :: b) sc (Value.none) (Value.none) (Value.none) (Value.str (Str.ofString "pagebase.nodes") 394) (none) (Value.ref 447) (Value.none)), slots := #[] }) ::
  (nat_lit 449, { cls := Value.type "tuple", data := Data.seq #[] }) ::
  (nat_lit 451, { cls := Value.type "tuple", data := Data.seq #[Value.str (Str.ofString "self") 866] }) ::
  (nat_lit 452, { cls := Value.type "tuple", data := Data.seq #[] }) ::
  (nat_lit 454, { cls := Value.type "code", data := Data.fields #[Value.str (Str.ofString "row") 863, Value.str (Str.ofString "IsNull.row") 864, Value.str (Str.ofString "/claim/cut.py") 865, Value.int 148 0, Value.int 1 0, Value.int 0 0, Value.int 0 0, Value.int 3 0, Value.ref 449, Value.bool true, Value.int 181 0, Value.ref 450, Value.none, Value.ref 451, Value.ref 452, Value.ref 453, Value.int 867 0, Value.int 148 0, Value.str (Str.ofString "/claim/cut.py") 868] }) ::
  (nat_lit 455, { cls := Value.type "function", dict := none, data := .func (by refine (?finnernthbody251 : Fn (inner (nth body 25)) 1) rfl; exact fun {nm ps a b ds rt tp sc ts bd pos} _ => fnOf nm (Str.ofString "IsNull.row") ps (a :: b) sc (Value.none) (Value.none) (Value.none) (Value.str (Str.ofString "pagebase.nodes") 394) (none) (Value.ref 454) (Value.none)), slots := #[] }) ::
  (nat_lit 456, { cls := Value.type "tuple", data := Data.seq #[Value.str (Str.ofString "negated") 870, Value.str (Str.ofString "value") 871] }) ::
  (nat_lit 457, { cls := Value.type "dict", data := Data.dict #[⟨PyData.keyHash P (Str.ofString "__module__"), .str (Str.ofString "__module__") 849, Value.str (Str.ofString "pagebase.nodes") 394⟩, ⟨PyData.keyHash P (Str.ofString "__firstlineno__"), .str (Str.ofString "__firstlineno__") 853, Value.int 142 852⟩, ⟨PyData.keyHash P (Str.ofString "__init__"), .str (Str.ofString "__init__") 862, Value.ref 448⟩, ⟨PyData.keyHash P (Str.ofString "row"), .str (Str.ofString "row") 869, Value.ref 455⟩, ⟨PyData.keyHash P (Str.ofString "__static_attributes__"), .str (Str.ofString "__static_attributes__") 872, Value.ref 456⟩, ⟨PyData.keyHash P (Str.ofString "__doc__"), .str (Str.ofString "__doc__") 873, Value.none⟩] 2 }) ::
  (nat_lit 458, { cls := Value.type "type", data := Data.cls { name := Str.ofString "IsNull", bases := [Value.ref 148], mro := [Value.ref 458, Value.ref 148, Value.ref 134, Value.type "object"], ns := 457, qualname := Str.ofString "IsNull" }, slots := #[some (Value.ref 435), none, some (Value.str (Str.ofString "IsNull") 842), some (Value.str (Str.ofString "IsNull") 850), some (Value.builtin "object.__new__"), some (Value.bool true)] }) ::
  (nat_lit 461, { cls := Value.type "tuple", data := Data.seq #[Value.ref 148] }) ::
  (nat_lit 468, { cls := Value.type "tuple", data := Data.seq #[] }) ::
  (nat_lit 470, { cls := Value.type "tuple", data := Data.seq #[Value.str (Str.ofString "self") 891, Value.str (Str.ofString "word") 892, Value.str (Str.ofString "value") 893, Value.str (Str.ofString "pattern") 894, Value.str (Str.ofString "escape") 895, Value.str (Str.ofString "negated") 896] }) ::
  (nat_lit 471, { cls := Value.type "tuple", data := Data.seq #[] }) ::
  (nat_lit 473, { cls := Value.type "code", data := Data.fields #[Value.str (Str.ofString "__init__") 888, Value.str (Str.ofString "Match.__init__") 889, Value.str (Str.ofString "/claim/cut.py") 890, Value.int 152 0, Value.int 6 0, Value.int 0 0, Value.int 0 0, Value.int 3 0, Value.ref 468, Value.bool true, Value.int 181 0, Value.ref 469, Value.none, Value.ref 470, Value.ref 471, Value.ref 472, Value.int 897 0, Value.int 152 0, Value.str (Str.ofString "/claim/cut.py") 898] }) ::
  (nat_lit 474, { cls := Value.type "function", dict := none, data := .func (by refine (?finnernthbody260 : Fn (inner (nth body 26)) 0) rfl; exact fun {nm ps a b ds rt tp sc ts bd pos} _ => fnOf nm (Str.ofString "Match.__init__") ps (a :: b) sc (Value.none) (Value.none) (Value.none) (Value.str (Str.ofString "pagebase.nodes") 394) (none) (Value.ref 473) (Value.none)), slots := #[] }) ::
  (nat_lit 475, { cls := Value.type "tuple", data := Data.seq #[] }) ::
  (nat_lit 477, { cls := Value.type "tuple", data := Data.seq #[Value.str (Str.ofString "self") 903, Value.str (Str.ofString "told") 904] }) ::
  (nat_lit 478, { cls := Value.type "tuple", data := Data.seq #[] }) ::
  (nat_lit 480, { cls := Value.type "code", data := Data.fields #[Value.str (Str.ofString "row") 900, Value.str (Str.ofString "Match.row") 901, Value.str (Str.ofString "/claim/cut.py") 902, Value.int 159 0, Value.int 1 0, Value.int 0 0, Value.int 0 0, Value.int 3 0, Value.ref 475, Value.bool true, Value.int 181 0, Value.ref 476, Value.none, Value.ref 477, Value.ref 478, Value.ref 479, Value.int 905 0, Value.int 159 0, Value.str (Str.ofString "/claim/cut.py") 906] }) ::
  (nat_lit 481, { cls := Value.type "function", dict := none, data := .func (by refine (?finnernthbody261 : Fn (inner (nth body 26)) 1) rfl; exact fun {nm ps a b ds rt tp sc ts bd pos} _ => fnOf nm (Str.ofString "Match.row") ps (a :: b) sc (Value.none) (Value.none) (Value.none) (Value.str (Str.ofString "pagebase.nodes") 394) (none) (Value.ref 480) (Value.none)), slots := #[] }) ::
  (nat_lit 482, { cls := Value.type "tuple", data := Data.seq #[Value.str (Str.ofString "escape") 908, Value.str (Str.ofString "negated") 909, Value.str (Str.ofString "pattern") 910, Value.str (Str.ofString "value") 911, Value.str (Str.ofString "word") 912] }) ::
  (nat_lit 483, { cls := Value.type "dict", data := Data.dict #[⟨PyData.keyHash P (Str.ofString "__module__"), .str (Str.ofString "__module__") 883, Value.str (Str.ofString "pagebase.nodes") 394⟩, ⟨PyData.keyHash P (Str.ofString "__firstlineno__"), .str (Str.ofString "__firstlineno__") 887, Value.int 150 886⟩, ⟨PyData.keyHash P (Str.ofString "__init__"), .str (Str.ofString "__init__") 899, Value.ref 474⟩, ⟨PyData.keyHash P (Str.ofString "row"), .str (Str.ofString "row") 907, Value.ref 481⟩, ⟨PyData.keyHash P (Str.ofString "__static_attributes__"), .str (Str.ofString "__static_attributes__") 913, Value.ref 482⟩, ⟨PyData.keyHash P (Str.ofString "__doc__"), .str (Str.ofString "__doc__") 914, Value.none⟩] 2 }) ::
  (nat_lit 484, { cls := Value.type "type", data := Data.cls { name := Str.ofString "Match", bases := [Value.ref 148], mro := [Value.ref 484, Value.ref 148, Value.ref 134, Value.type "object"], ns := 483, qualname := Str.ofString "Match" }, slots := #[some (Value.ref 461), none, some (Value.str (Str.ofString "Match") 876), some (Value.str (Str.ofString "Match") 884), some (Value.builtin "object.__new__"), some (Value.bool true)] }) ::
  (nat_lit 487, { cls := Value.type "tuple", data := Data.seq #[] }) ::
  (nat_lit 490, { cls := Value.type "code", data := Data.fields #[Value.str (Str.ofString "fold") 919, Value.str (Str.ofString "fold") 920, Value.str (Str.ofString "/claim/cut.py") 921, Value.int 163 0, Value.int 1 0, Value.int 0 0, Value.int 0 0, Value.int 3 0, Value.ref 487, Value.bool true, Value.int 181 0, Value.ref 488, Value.none, Value.none, Value.none, Value.ref 489, Value.int 922 0, Value.int 163 0, Value.str (Str.ofString "/claim/cut.py") 923] }) ::
  (nat_lit 491, { cls := Value.type "function", dict := none, data := .func (by refine (?fbody28 : Fn body 28) rfl; exact fun {nm ps a b ds rt tp sc ts bd pos} _ => fnOf nm (Str.ofString "fold") ps (a :: b) sc (Value.none) (Value.none) (Value.none) (Value.str (Str.ofString "pagebase.expr_tools") 917) (none) (Value.ref 490) (Value.none)), slots := #[] }) ::
  (nat_lit 492, { cls := Value.type "tuple", data := Data.seq #[] }) ::
  (nat_lit 494, { cls := Value.type "tuple", data := Data.seq #[Value.str (Str.ofString "expr") 928, Value.str (Str.ofString "found") 929, Value.str (Str.ofString "when") 930, Value.str (Str.ofString "then") 931] }) ::
  (nat_lit 495, { cls := Value.type "tuple", data := Data.seq #[] }) ::
  (nat_lit 497, { cls := Value.type "code", data := Data.fields #[Value.str (Str.ofString "children") 925, Value.str (Str.ofString "children") 926, Value.str (Str.ofString "/claim/cut.py") 927, Value.int 165 0, Value.int 1 0, Value.int 0 0, Value.int 0 0, Value.int 3 0, Value.ref 492, Value.bool true, Value.int 181 0, Value.ref 493, Value.none, Value.ref 494, Value.ref 495, Value.ref 496, Value.int 932 0, Value.int 165 0, Value.str (Str.ofString "/claim/cut.py") 933] }) ::
  (nat_lit 498, { cls := Value.type "function", dict := none, data := .func (by refine (?fbody29 : Fn body 29) rfl; exact fun {nm ps a b ds rt tp sc ts bd pos} _ => fnOf nm (Str.ofString "children") ps (a :: b) sc (Value.none) (Value.none) (Value.none) (Value.str (Str.ofString "pagebase.expr_tools") 917) (none) (Value.ref 497) (Value.none)), slots := #[] }) ::
  (nat_lit 499, { cls := Value.type "tuple", data := Data.seq #[] }) ::
  (nat_lit 501, { cls := Value.type "tuple", data := Data.seq #[Value.str (Str.ofString "expr") 938] }) ::
  (nat_lit 502, { cls := Value.type "tuple", data := Data.seq #[] }) ::
  (nat_lit 504, { cls := Value.type "code", data := Data.fields #[Value.str (Str.ofString "is_aggregate_call") 935, Value.str (Str.ofString "is_aggregate_call") 936, Value.str (Str.ofString "/claim/cut.py") 937, Value.int 188 0, Value.int 1 0, Value.int 0 0, Value.int 0 0, Value.int 3 0, Value.ref 499, Value.bool true, Value.int 181 0, Value.ref 500, Value.none, Value.ref 501, Value.ref 502, Value.ref 503, Value.int 939 0, Value.int 188 0, Value.str (Str.ofString "/claim/cut.py") 940] }) ::
  (nat_lit 505, { cls := Value.type "function", dict := none, data := .func (by refine (?fbody30 : Fn body 30) rfl; exact fun {nm ps a b ds rt tp sc ts bd pos} _ => fnOf nm (Str.ofString "is_aggregate_call") ps (a :: b) sc (Value.none) (Value.none) (Value.none) (Value.str (Str.ofString "pagebase.expr_tools") 917) (none) (Value.ref 504) (Value.none)), slots := #[] }) ::
  (nat_lit 506, { cls := Value.type "tuple", data := Data.seq #[] }) ::
  (nat_lit 508, { cls := Value.type "tuple", data := Data.seq #[Value.str (Str.ofString "expr") 945, Value.str (Str.ofString "found") 946, Value.str (Str.ofString "child") 947] }) ::
  (nat_lit 509, { cls := Value.type "tuple", data := Data.seq #[] }) ::
  (nat_lit 511, { cls := Value.type "code", data := Data.fields #[Value.str (Str.ofString "aggregates_in") 942, Value.str (Str.ofString "aggregates_in") 943, Value.str (Str.ofString "/claim/cut.py") 944, Value.int 190 0, Value.int 1 0, Value.int 0 0, Value.int 0 0, Value.int 3 0, Value.ref 506, Value.bool true, Value.int 181 0, Value.ref 507, Value.none, Value.ref 508, Value.ref 509, Value.ref 510, Value.int 948 0, Value.int 190 0, Value.str (Str.ofString "/claim/cut.py") 949] }) ::
  (nat_lit 512, { cls := Value.type "function", dict := none, data := .func (by refine (?fbody31 : Fn body 31) rfl; exact fun {nm ps a b ds rt tp sc ts bd pos} _ => fnOf nm (Str.ofString "aggregates_in") ps (a :: b) sc (Value.none) (Value.none) (Value.none) (Value.str (Str.ofString "pagebase.expr_tools") 917) (none) (Value.ref 511) (Value.none)), slots := #[] }) ::
  (nat_lit 513, { cls := Value.type "tuple", data := Data.seq #[Value.none] }) ::
  (nat_lit 514, { cls := Value.type "tuple", data := Data.seq #[] }) ::
  (nat_lit 516, { cls := Value.type "tuple", data := Data.seq #[Value.str (Str.ofString "expr") 954, Value.str (Str.ofString "message") 955, Value.str (Str.ofString "call") 956] }) ::
  (nat_lit 517, { cls := Value.type "tuple", data := Data.seq #[] }) ::
  (nat_lit 519, { cls := Value.type "code", data := Data.fields #[Value.str (Str.ofString "refuse_aggregates") 951, Value.str (Str.ofString "refuse_aggregates") 952, Value.str (Str.ofString "/claim/cut.py") 953, Value.int 199 0, Value.int 2 0, Value.int 0 0, Value.int 0 0, Value.int 3 0, Value.ref 514, Value.bool true, Value.int 181 0, Value.ref 515, Value.none, Value.ref 516, Value.ref 517, Value.ref 518, Value.int 957 0, Value.int 199 0, Value.str (Str.ofString "/claim/cut.py") 958] }) ::
  (nat_lit 520, { cls := Value.type "function", dict := none, data := .func (by refine (?fbody32 : Fn body 32) rfl; exact fun {nm ps a b ds rt tp sc ts bd pos} _ => fnOf nm (Str.ofString "refuse_aggregates") ps (a :: b) sc (Value.ref 513) (Value.none) (Value.none) (Value.str (Str.ofString "pagebase.expr_tools") 917) (none) (Value.ref 519) (Value.none)), slots := #[] }) ::
  (nat_lit 521, { cls := Value.type "tuple", data := Data.seq #[Value.str (Str.ofString "binary") 962, Value.str (Str.ofString "nocase") 963, Value.str (Str.ofString "rtrim") 964] }) ::
  (nat_lit 522, { cls := Value.type "tuple", data := Data.seq #[] }) ::
  (nat_lit 524, { cls := Value.type "tuple", data := Data.seq #[Value.str (Str.ofString "name") 969] }) ::
  (nat_lit 525, { cls := Value.type "tuple", data := Data.seq #[] }) ::
  (nat_lit 527, { cls := Value.type "code", data := Data.fields #[Value.str (Str.ofString "check_collation") 966, Value.str (Str.ofString "check_collation") 967, Value.str (Str.ofString "/claim/cut.py") 968, Value.int 204 0, Value.int 1 0, Value.int 0 0, Value.int 0 0, Value.int 3 0, Value.ref 522, Value.bool true, Value.int 181 0, Value.ref 523, Value.none, Value.ref 524, Value.ref 525, Value.ref 526, Value.int 970 0, Value.int 204 0, Value.str (Str.ofString "/claim/cut.py") 971] }) ::
  (nat_lit 528, { cls := Value.type "function", dict := none, data := .func (by refine (?fbody35 : Fn body 35) rfl; exact fun {nm ps a b ds rt tp sc ts bd pos} _ => fnOf nm (Str.ofString "check_collation") ps (a :: b) sc (Value.none) (Value.none) (Value.none) (Value.str (Str.ofString "pagebase.tables") 960) (none) (Value.ref 527) (Value.none)), slots := #[] }) ::
  (nat_lit 529, { cls := Value.type "tuple", data := Data.seq #[] }) ::
  (nat_lit 531, { cls := Value.type "tuple", data := Data.seq #[Value.str (Str.ofString "expr") 978, Value.str (Str.ofString "argument") 979] }) ::
  (nat_lit 532, { cls := Value.type "tuple", data := Data.seq #[] }) ::
  (nat_lit 534, { cls := Value.type "code", data := Data.fields #[Value.str (Str.ofString "look_at_call") 975, Value.str (Str.ofString "look_at_call") 976, Value.str (Str.ofString "/claim/cut.py") 977, Value.int 209 0, Value.int 1 0, Value.int 0 0, Value.int 0 0, Value.int 3 0, Value.ref 529, Value.bool true, Value.int 181 0, Value.ref 530, Value.none, Value.ref 531, Value.ref 532, Value.ref 533, Value.int 980 0, Value.int 209 0, Value.str (Str.ofString "/claim/cut.py") 981] }) ::
  (nat_lit 535, { cls := Value.type "function", dict := none, data := .func (by refine (?fbody37 : Fn body 37) rfl; exact fun {nm ps a b ds rt tp sc ts bd pos} _ => fnOf nm (Str.ofString "look_at_call") ps (a :: b) sc (Value.none) (Value.none) (Value.none) (Value.str (Str.ofString "pagebase.resolve") 973) (none) (Value.ref 534) (Value.none)), slots := #[] }) ::
  (nat_lit 536, { cls := Value.type "tuple", data := Data.seq #[] }) ::
  (nat_lit 538, { cls := Value.type "tuple", data := Data.seq #[Value.str (Str.ofString "expr") 986] }) ::
  (nat_lit 539, { cls := Value.type "tuple", data := Data.seq #[] }) ::
  (nat_lit 541, { cls := Value.type "code", data := Data.fields #[Value.str (Str.ofString "look_at") 983, Value.str (Str.ofString "look_at") 984, Value.str (Str.ofString "/claim/cut.py") 985, Value.int 219 0, Value.int 1 0, Value.int 0 0, Value.int 0 0, Value.int 3 0, Value.ref 536, Value.bool true, Value.int 181 0, Value.ref 537, Value.none, Value.ref 538, Value.ref 539, Value.ref 540, Value.int 987 0, Value.int 219 0, Value.str (Str.ofString "/claim/cut.py") 988] }) ::
  (nat_lit 542, { cls := Value.type "function", dict := none, data := .func (by refine (?fbody38 : Fn body 38) rfl; exact fun {nm ps a b ds rt tp sc ts bd pos} _ => fnOf nm (Str.ofString "look_at") ps (a :: b) sc (Value.none) (Value.none) (Value.none) (Value.str (Str.ofString "pagebase.resolve") 973) (none) (Value.ref 541) (Value.none)), slots := #[] }) ::
  (nat_lit 543, { cls := Value.type "tuple", data := Data.seq #[] }) ::
  (nat_lit 545, { cls := Value.type "tuple", data := Data.seq #[Value.str (Str.ofString "script") 995, Value.str (Str.ofString "k") 996, Value.str (Str.ofString "cell") 997, Value.str (Str.ofString "big") 998, Value.str (Str.ofString "mixed") 999] }) ::
  (nat_lit 546, { cls := Value.type "tuple", data := Data.seq #[] }) ::
  (nat_lit 548, { cls := Value.type "code", data := Data.fields #[Value.str (Str.ofString "_law_pool") 992, Value.str (Str.ofString "_law_pool") 993, Value.str (Str.ofString "/claim/cut.py") 994, Value.int 225 0, Value.int 2 0, Value.int 0 0, Value.int 0 0, Value.int 3 0, Value.ref 543, Value.bool true, Value.int 181 0, Value.ref 544, Value.none, Value.ref 545, Value.ref 546, Value.ref 547, Value.int 1000 0, Value.int 225 0, Value.str (Str.ofString "/claim/cut.py") 1001] }) ::
  (nat_lit 549, { cls := Value.type "function", dict := none, data := .func (by refine (?fbody40 : Fn body 40) rfl; exact fun {nm ps a b ds rt tp sc ts bd pos} _ => fnOf nm (Str.ofString "_law_pool") ps (a :: b) sc (Value.none) (Value.none) (Value.none) (Value.str (Str.ofString "law_nt0106_01") 990) (none) (Value.ref 548) (Value.none)), slots := #[] }) ::
  (nat_lit 550, { cls := Value.type "tuple", data := Data.seq #[] }) ::
  (nat_lit 552, { cls := Value.type "tuple", data := Data.seq #[Value.str (Str.ofString "source") 1006, Value.str (Str.ofString "top") 1007, Value.str (Str.ofString "drawn") 1008] }) ::
  (nat_lit 553, { cls := Value.type "tuple", data := Data.seq #[] }) ::
  (nat_lit 555, { cls := Value.type "code", data := Data.fields #[Value.str (Str.ofString "_law_take") 1003, Value.str (Str.ofString "_law_take") 1004, Value.str (Str.ofString "/claim/cut.py") 1005, Value.int 230 0, Value.int 2 0, Value.int 0 0, Value.int 0 0, Value.int 3 0, Value.ref 550, Value.bool true, Value.int 181 0, Value.ref 551, Value.none, Value.ref 552, Value.ref 553, Value.ref 554, Value.int 1009 0, Value.int 230 0, Value.str (Str.ofString "/claim/cut.py") 1010] }) ::
  (nat_lit 556, { cls := Value.type "function", dict := none, data := .func (by refine (?fbody41 : Fn body 41) rfl; exact fun {nm ps a b ds rt tp sc ts bd pos} _ => fnOf nm (Str.ofString "_law_take") ps (a :: b) sc (Value.none) (Value.none) (Value.none) (Value.str (Str.ofString "law_nt0106_01") 990) (none) (Value.ref 555) (Value.none)), slots := #[] }) ::
  (nat_lit 557, { cls := Value.type "tuple", data := Data.seq #[] }) ::
  (nat_lit 559, { cls := Value.type "tuple", data := Data.seq #[Value.str (Str.ofString "word") 1015, Value.str (Str.ofString "plain") 1016, Value.str (Str.ofString "gathered") 1017] }) ::
  (nat_lit 560, { cls := Value.type "tuple", data := Data.seq #[] }) ::
  (nat_lit 562, { cls := Value.type "code", data := Data.fields #[Value.str (Str.ofString "_law_bounds") 1012, Value.str (Str.ofString "_law_bounds") 1013, Value.str (Str.ofString "/claim/cut.py") 1014, Value.int 237 0, Value.int 1 0, Value.int 0 0, Value.int 0 0, Value.int 3 0, Value.ref 557, Value.bool true, Value.int 181 0, Value.ref 558, Value.none, Value.ref 559, Value.ref 560, Value.ref 561, Value.int 1018 0, Value.int 237 0, Value.str (Str.ofString "/claim/cut.py") 1019] }) ::
  (nat_lit 563, { cls := Value.type "function", dict := none, data := .func (by refine (?fbody42 : Fn body 42) rfl; exact fun {nm ps a b ds rt tp sc ts bd pos} _ => fnOf nm (Str.ofString "_law_bounds") ps (a :: b) sc (Value.none) (Value.none) (Value.none) (Value.str (Str.ofString "law_nt0106_01") 990) (none) (Value.ref 562) (Value.none)), slots := #[] }) ::
  (nat_lit 564, { cls := Value.type "tuple", data := Data.seq #[] }) ::
  (nat_lit 566, { cls := Value.type "tuple", data := Data.seq #[Value.str (Str.ofString "bounds") 1024, Value.str (Str.ofString "many") 1025] }) ::
  (nat_lit 567, { cls := Value.type "tuple", data := Data.seq #[] }) ::
  (nat_lit 569, { cls := Value.type "code", data := Data.fields #[Value.str (Str.ofString "_law_fits") 1021, Value.str (Str.ofString "_law_fits") 1022, Value.str (Str.ofString "/claim/cut.py") 1023, Value.int 241 0, Value.int 2 0, Value.int 0 0, Value.int 0 0, Value.int 3 0, Value.ref 564, Value.bool true, Value.int 181 0, Value.ref 565, Value.none, Value.ref 566, Value.ref 567, Value.ref 568, Value.int 1026 0, Value.int 241 0, Value.str (Str.ofString "/claim/cut.py") 1027] }) ::
  (nat_lit 570, { cls := Value.type "function", dict := none, data := .func (by refine (?fbody43 : Fn body 43) rfl; exact fun {nm ps a b ds rt tp sc ts bd pos} _ => fnOf nm (Str.ofString "_law_fits") ps (a :: b) sc (Value.none) (Value.none) (Value.none) (Value.str (Str.ofString "law_nt0106_01") 990) (none) (Value.ref 569) (Value.none)), slots := #[] }) ::
  (nat_lit 571, { cls := Value.type "tuple", data := Data.seq #[] }) ::
  (nat_lit 573, { cls := Value.type "tuple", data := Data.seq #[Value.str (Str.ofString "source") 1032, Value.str (Str.ofString "way") 1033] }) ::
  (nat_lit 574, { cls := Value.type "tuple", data := Data.seq #[] }) ::
  (nat_lit 576, { cls := Value.type "code", data := Data.fields #[Value.str (Str.ofString "_law_argument") 1029, Value.str (Str.ofString "_law_argument") 1030, Value.str (Str.ofString "/claim/cut.py") 1031, Value.int 243 0, Value.int 1 0, Value.int 0 0, Value.int 0 0, Value.int 3 0, Value.ref 571, Value.bool true, Value.int 181 0, Value.ref 572, Value.none, Value.ref 573, Value.ref 574, Value.ref 575, Value.int 1034 0, Value.int 243 0, Value.str (Str.ofString "/claim/cut.py") 1035] }) ::
  (nat_lit 577, { cls := Value.type "function", dict := none, data := .func (by refine (?fbody44 : Fn body 44) rfl; exact fun {nm ps a b ds rt tp sc ts bd pos} _ => fnOf nm (Str.ofString "_law_argument") ps (a :: b) sc (Value.none) (Value.none) (Value.none) (Value.str (Str.ofString "law_nt0106_01") 990) (none) (Value.ref 576) (Value.none)), slots := #[] }) ::
  (nat_lit 578, { cls := Value.type "tuple", data := Data.seq #[] }) ::
  (nat_lit 581, { cls := Value.type "code", data := Data.fields #[Value.str (Str.ofString "_law_call_due") 1037, Value.str (Str.ofString "_law_call_due") 1038, Value.str (Str.ofString "/claim/cut.py") 1039, Value.int 250 0, Value.int 4 0, Value.int 0 0, Value.int 0 0, Value.int 3 0, Value.ref 578, Value.bool true, Value.int 181 0, Value.ref 579, Value.none, Value.none, Value.none, Value.ref 580, Value.int 1040 0, Value.int 250 0, Value.str (Str.ofString "/claim/cut.py") 1041] }) ::
  (nat_lit 582, { cls := Value.type "function", dict := none, data := .func (by refine (?fbody45 : Fn body 45) rfl; exact fun {nm ps a b ds rt tp sc ts bd pos} _ => fnOf nm (Str.ofString "_law_call_due") ps (a :: b) sc (Value.none) (Value.none) (Value.none) (Value.str (Str.ofString "law_nt0106_01") 990) (none) (Value.ref 581) (Value.none)), slots := #[] }) ::
  (nat_lit 583, { cls := Value.type "tuple", data := Data.seq #[] }) ::
  (nat_lit 585, { cls := Value.type "tuple", data := Data.seq #[Value.str (Str.ofString "expr") 1046] }) ::
  (nat_lit 586, { cls := Value.type "tuple", data := Data.seq #[] }) ::
  (nat_lit 588, { cls := Value.type "code", data := Data.fields #[Value.str (Str.ofString "_law_is_let") 1043, Value.str (Str.ofString "_law_is_let") 1044, Value.str (Str.ofString "/claim/cut.py") 1045, Value.int 260 0, Value.int 1 0, Value.int 0 0, Value.int 0 0, Value.int 3 0, Value.ref 583, Value.bool true, Value.int 181 0, Value.ref 584, Value.none, Value.ref 585, Value.ref 586, Value.ref 587, Value.int 1047 0, Value.int 260 0, Value.str (Str.ofString "/claim/cut.py") 1048] }) ::
  (nat_lit 589, { cls := Value.type "function", dict := none, data := .func (by refine (?fbody46 : Fn body 46) rfl; exact fun {nm ps a b ds rt tp sc ts bd pos} _ => fnOf nm (Str.ofString "_law_is_let") ps (a :: b) sc (Value.none) (Value.none) (Value.none) (Value.str (Str.ofString "law_nt0106_01") 990) (none) (Value.ref 588) (Value.none)), slots := #[] }) ::
  (nat_lit 590, { cls := Value.type "tuple", data := Data.seq #[] }) ::
  (nat_lit 593, { cls := Value.type "code", data := Data.fields #[Value.str (Str.ofString "_law_call_right") 1050, Value.str (Str.ofString "_law_call_right") 1051, Value.str (Str.ofString "/claim/cut.py") 1052, Value.int 266 0, Value.int 1 0, Value.int 0 0, Value.int 0 0, Value.int 3 0, Value.ref 590, Value.bool true, Value.int 181 0, Value.ref 591, Value.none, Value.none, Value.none, Value.ref 592, Value.int 1053 0, Value.int 266 0, Value.str (Str.ofString "/claim/cut.py") 1054] }) ::
  (nat_lit 594, { cls := Value.type "function", dict := none, data := .func (by refine (?fbody47 : Fn body 47) rfl; exact fun {nm ps a b ds rt tp sc ts bd pos} _ => fnOf nm (Str.ofString "_law_call_right") ps (a :: b) sc (Value.none) (Value.none) (Value.none) (Value.str (Str.ofString "law_nt0106_01") 990) (none) (Value.ref 593) (Value.none)), slots := #[] }) ::
  (nat_lit 595, { cls := Value.type "tuple", data := Data.seq #[] }) ::
  (nat_lit 597, { cls := Value.type "tuple", data := Data.seq #[Value.str (Str.ofString "script") 1059, Value.str (Str.ofString "k") 1060, Value.str (Str.ofString "source") 1061, Value.str (Str.ofString "turn") 1062, Value.str (Str.ofString "word") 1063] }) ::
  (nat_lit 598, { cls := Value.type "tuple", data := Data.seq #[] }) ::
  (nat_lit 600, { cls := Value.type "code", data := Data.fields #[Value.str (Str.ofString "law") 1056, Value.str (Str.ofString "law") 1057, Value.str (Str.ofString "/claim/cut.py") 1058, Value.int 273 0, Value.int 1 0, Value.int 0 0, Value.int 0 0, Value.int 3 0, Value.ref 595, Value.bool true, Value.int 181 0, Value.ref 596, Value.none, Value.ref 597, Value.ref 598, Value.ref 599, Value.int 1064 0, Value.int 273 0, Value.str (Str.ofString "/claim/cut.py") 1065] }) ::
  (nat_lit 601, { cls := Value.type "function", dict := none, data := .func (by refine (?fbody48 : Fn body 48) rfl; exact fun {nm ps a b ds rt tp sc ts bd pos} _ => fnOf nm (Str.ofString "law") ps (a :: b) sc (Value.none) (Value.none) (Value.none) (Value.str (Str.ofString "law_nt0106_01") 990) (none) (Value.ref 600) (Value.none)), slots := #[] }) :: []
end Mine
theorem Mine.fill_all : (fun (_ : OpenLaw) (_ : Params → Frag) => True) PySem.Challenge.rw_nt0106_01 Mine.K := by
  k_fill
  trivial
local macro_rules | `(tactic| walk_at $s:str) => `(tactic| k_extra $s)
theorem Mine.word1 : True := by (k_with "enter" => ((case hA => exact rfl); (case hf => exact rfl); (case hke => first | exact rfl | assumption); (case B => k_asm); (case F => k_asm); (case X₀ => k_asm); (case N => k_asm); (case T => k_asm); (case ho => k_is); (case hcd => k_is); (case hroom => ktr_room); (case hbind => first | exact BindsTo.of_eq rfl | exact binds_K (by k_in) rfl (by k_is) rfl rfl rfl); (case hcell => decide); (case hloc => exact locs rfl); (case hco => exact rfl); (case hgen => exact rfl); (case hk => exact rfl); k_whole; intro g' L' h' FG' F' N' B' X' T'; (try dsimp only [List.reverse_cons, List.reverse_nil, List.nil_append, List.cons_append] at F'); (try k_lift B'); (try k_fold))); trivial
local macro_rules | `(tactic| k_room) => `(tactic| ktr_room)
theorem Mine.word2 : True := by (k_with "MNEWS" => first | k_asm | (apply cb_drop; (case N => assumption); (case hs => kcj_all))); trivial
local macro_rules | `(tactic| k_mem) => `(tactic| ((repeat (refine' List.mem_cons_of_mem _ ?_)); ktr_member))
local macro_rules | `(tactic| k_mem) => `(tactic| ((repeat (first | exact List.mem_cons_self | refine List.mem_cons_of_mem _ ?_)); done))
namespace Mine
noncomputable abbrev prg := PySem.Challenge.rw_nt0106_01.prog
theorem retB {h₀ h' : Heap} {L : Addr} {m : Str → Option Value} {news : List (Addr × Obj)} {s : Shared} {Q : Value → Shared → Prop} {tk' : Nat} {x y : Bool} (hret : ∀ (h' : Heap) (tk' : Nat), Fr h₀ L h' m → News h₀ L h' news → Q (.bool x) { s with heap := h', toks := tk' }) (e : y = x) (F : Fr h₀ L h' m) (N : News h₀ L h' news) : Q (.bool y) { s with heap := h', toks := tk' } := by
  subst e
  exact hret h' tk' F N
def fitsB (many lo : Int) : Option Int → Bool
  | some hi => decide (lo ≤ many) && decide (many ≤ hi)
  | none => decide (lo ≤ many)
def boundV (t : Tok) : Option Int → Value
  | some hi => .int hi t
  | none => .none
/-- the drawn words, in small letters -/
@[irreducible] def lw : Nat → Str
  | 0 => "abs" | 1 => "coalesce" | 2 => "substr" | 3 => "max" | 4 => "iif" | 5 => "changes"
  | 6 => "count" | 7 => "sum" | 8 => "max" | 9 => "group_concat" | 10 => "nosuch" | _ => ""
/-- as they are written -/
@[irreducible] def wd : Nat → Str
  | 0 => "abs" | 1 => "Coalesce" | 2 => "SUBSTR" | 3 => "max" | 4 => "iif" | 5 => "changes"
  | 6 => "count" | 7 => "Sum" | 8 => "MAX" | 9 => "group_concat" | 10 => "nosuch" | _ => ""
/-- where the bounds of the word lie: the gathering ones, the plain ones -/
def aggAt : Nat → Option (Addr × Int × Option Int)
  | 3 => some (79, 1, some 1) | 6 => some (77, 0, some 1) | 7 => some (81, 1, some 1) | 8 => some (79, 1, some 1) | 9 => some (78, 1, some 2) | _ => none
def sclAt : Nat → Option (Addr × Int × Option Int)
  | 0 => some (48, 1, some 1) | 1 => some (51, 2, none) | 2 => some (69, 2, some 3) | 3 => some (62, 2, none) | 4 => some (55, 3, some 3) | 5 => some (49, 0, some 0) | 8 => some (62, 2, none) | _ => none
theorem twelve {P : Nat → Prop} (h0 : P 0) (h1 : P 1) (h2 : P 2) (h3 : P 3) (h4 : P 4) (h5 : P 5) (h6 : P 6) (h7 : P 7) (h8 : P 8) (h9 : P 9) (h10 : P 10) (h11 : P 11) {i : Nat} (hi : i < 12) : P i := by
  match i, hi with
  | 0, _ => exact h0
  | 1, _ => exact h1
  | 2, _ => exact h2
  | 3, _ => exact h3
  | 4, _ => exact h4
  | 5, _ => exact h5
  | 6, _ => exact h6
  | 7, _ => exact h7
  | 8, _ => exact h8
  | 9, _ => exact h9
  | 10, _ => exact h10
  | 11, _ => exact h11
theorem lw_0 : lw 0 = Str.ofString "abs" := by unfold lw; rfl
theorem lw_1 : lw 1 = Str.ofString "coalesce" := by unfold lw; rfl
theorem lw_2 : lw 2 = Str.ofString "substr" := by unfold lw; rfl
theorem lw_3 : lw 3 = Str.ofString "max" := by unfold lw; rfl
theorem lw_4 : lw 4 = Str.ofString "iif" := by unfold lw; rfl
theorem lw_5 : lw 5 = Str.ofString "changes" := by unfold lw; rfl
theorem lw_6 : lw 6 = Str.ofString "count" := by unfold lw; rfl
theorem lw_7 : lw 7 = Str.ofString "sum" := by unfold lw; rfl
theorem lw_8 : lw 8 = Str.ofString "max" := by unfold lw; rfl
theorem lw_9 : lw 9 = Str.ofString "group_concat" := by unfold lw; rfl
theorem lw_10 : lw 10 = Str.ofString "nosuch" := by unfold lw; rfl
theorem lw_11 : lw 11 = Str.ofString "" := by unfold lw; rfl
theorem lower_lw {i : Nat} (hi : i < 12) : Txt.lower (lw i) = lw i := by
  revert i
  refine fun hi => twelve (P := fun i => Txt.lower (lw i) = lw i) ?_ ?_ ?_ ?_ ?_ ?_ ?_ ?_ ?_ ?_ ?_ ?_ hi <;> (with_unfolding_all decide +kernel)
theorem lower_wd {i : Nat} (hi : i < 12) : Txt.lower (wd i) = lw i := by
  revert i
  refine fun hi => twelve (P := fun i => Txt.lower (wd i) = lw i) ?_ ?_ ?_ ?_ ?_ ?_ ?_ ?_ ?_ ?_ ?_ ?_ hi <;> (with_unfolding_all decide +kernel)
theorem len_lw {i : Nat} (hi : i < 12) : (lw i).length ≤ 12 := by
  revert i
  refine fun hi => twelve (P := fun i => (lw i).length ≤ 12) ?_ ?_ ?_ ?_ ?_ ?_ ?_ ?_ ?_ ?_ ?_ ?_ hi <;> (with_unfolding_all decide +kernel)
theorem len_wd {i : Nat} (hi : i < 12) : (wd i).length ≤ 12 := by
  revert i
  refine fun hi => twelve (P := fun i => (wd i).length ≤ 12) ?_ ?_ ?_ ?_ ?_ ?_ ?_ ?_ ?_ ?_ ?_ ?_ hi <;> (with_unfolding_all decide +kernel)
theorem lw_count {i : Nat} (hi : i < 12) : (lw i == Str.ofString "count") = decide (i = 6) := by
  revert i
  refine fun hi => twelve (P := fun i => (lw i == Str.ofString "count") = decide (i = 6)) ?_ ?_ ?_ ?_ ?_ ?_ ?_ ?_ ?_ ?_ ?_ ?_ hi <;> (with_unfolding_all decide +kernel)
section
variable {w : World} {vw : Program} {lo : List Str} {mean : ExcName → Option Value} {mg mb : Str → Option Value} {dp un : Nat} {gd : Option (List Code)} {cn : Str} {cs : Scope} {a : Addr} {ccd : Value} {cl : List (Str × Addr)} {outer : List Env} {A₀ : Around} {base h₀ : Heap} {L : Addr} {m : Str → Option Value} {news : List (Addr × Obj)} {s : Shared} {Q E : Value → Shared → Prop}
theorem lower_c {A : Around} {x y : Str} {t : Tok} (h : Txt.lower x = y) (hx : x.length ≤ 12) (hq : Q (.str y s.toks) { s with toks := s.toks + 1 }) : wpAny (model prg w) A (call (.builtin "str.lower") [.str x t]) Q E s := by
  subst h
  exact SCL.lower (by omega) fun _ => hq
variable (F : Fr h₀ L s.heap m) (X : (Mine.K w.params).In h₀)
include F X
theorem in_agg_t {A : Around} {i : Nat} {t : Tok} {b : Addr × Int × Option Int} (hi : i < 12) (h : aggAt i = some b) (hq : Q (.bool true) { s with toks := s.toks + 1 }) : wpAny (model prg w) A (compareOp .In (.str (lw i) t) (.ref 76)) Q E s := by
  refine twelve (P := fun i => ∀ b, aggAt i = some b → wpAny (model prg w) A (compareOp .In (.str (lw i) t) (.ref 76)) Q E s) ?_ ?_ ?_ ?_ ?_ ?_ ?_ ?_ ?_ ?_ ?_ ?_ hi b h <;> intro b h <;> first | (cases h; done) | (simp only [lw_0, lw_1, lw_2, lw_3, lw_4, lw_5, lw_6, lw_7, lw_8, lw_9, lw_10, lw_11]; k_steps; exact hq)
theorem in_agg_f {A : Around} {i : Nat} {t : Tok} (hi : i < 12) (h : aggAt i = none) (hq : Q (.bool false) { s with toks := s.toks + 1 }) : wpAny (model prg w) A (compareOp .In (.str (lw i) t) (.ref 76)) Q E s := by
  refine twelve (P := fun i => aggAt i = none → wpAny (model prg w) A (compareOp .In (.str (lw i) t) (.ref 76)) Q E s) ?_ ?_ ?_ ?_ ?_ ?_ ?_ ?_ ?_ ?_ ?_ ?_ hi h <;> intro h <;> first | (cases h; done) | (simp only [lw_0, lw_1, lw_2, lw_3, lw_4, lw_5, lw_6, lw_7, lw_8, lw_9, lw_10, lw_11]; k_steps; exact hq)
theorem get_agg {A : Around} {i : Nat} {t : Tok} {b : Addr × Int × Option Int} {p1 p2 : Pos} (hi : i < 12) (h : aggAt i = some b) (hq : Q (.ref b.1) { s with toks := s.toks + 1 }) : wpAny (model prg w) A (subscriptTail (.Name (Str.ofString "AGGREGATES") p1) (.Name (Str.ofString "word") p2) (.ref 76) (.str (lw i) t)) Q E s := by
  refine twelve (P := fun i => ∀ b, aggAt i = some b → Q (.ref b.1) { s with toks := s.toks + 1 } → wpAny (model prg w) A (subscriptTail (.Name (Str.ofString "AGGREGATES") p1) (.Name (Str.ofString "word") p2) (.ref 76) (.str (lw i) t)) Q E s) ?_ ?_ ?_ ?_ ?_ ?_ ?_ ?_ ?_ ?_ ?_ ?_ hi b h hq <;> intro b h hq <;> first | (cases h; done) | (cases h; simp only [lw_0, lw_1, lw_2, lw_3, lw_4, lw_5, lw_6, lw_7, lw_8, lw_9, lw_10, lw_11]; k_steps; exact hq)
omit F in
theorem tup_agg {i : Nat} {b : Addr × Int × Option Int} (hi : i < 12) (h : aggAt i = some b) : ∃ t1 t2, IsTup h₀ b.1 #[.int b.2.1 t1, boundV t2 b.2.2] := by
  refine twelve (P := fun i => ∀ b, aggAt i = some b → ∃ t1 t2, IsTup h₀ b.1 #[.int b.2.1 t1, boundV t2 b.2.2]) ?_ ?_ ?_ ?_ ?_ ?_ ?_ ?_ ?_ ?_ ?_ ?_ hi b h <;> intro b h <;> first | (cases h; done) | (cases h; exact ⟨_, _, _, X _ _ (by k_is), rfl, _, rfl⟩)
end
end Mine
namespace Mine
section
variable {w : World} {vw : Program} {lo : List Str} {mean : ExcName → Option Value} {mg mb : Str → Option Value} {dp un : Nat} {gd : Option (List Code)} {cn : Str} {cs : Scope} {a : Addr} {ccd : Value} {cl : List (Str × Addr)} {outer : List Env} {A₀ : Around} {base h₀ : Heap} {L : Addr} {m : Str → Option Value} {news : List (Addr × Obj)} {s : Shared} {Q E : Value → Shared → Prop}
variable (B : Below A₀ base outer h₀) (F : Fr h₀ L s.heap m) (X : (Mine.K w.params).In h₀) (N : News h₀ L s.heap news) (T : Top vw lo mean mg mb h₀) (hk : cs.kind = .function)
include B F X N T hk
theorem fits_c (hdp : dp + 3 < recursionLimit) (hu : un + 30 < cLine) {lo many : Int} {t t1 t2 : Tok} {hi : Option Int} {b : Addr}
    (hb : IsTup h₀ b #[.int lo t1, boundV t2 hi])
    (hret : ∀ h' tk', Fr h₀ L h' m → News h₀ L h' news → Q (.bool (fitsB many lo hi)) { s with heap := h', toks := tk' }) :
    wpAny (model prg w) (ktrTop dp un gd cn cs L a ccd cl outer) (call (.ref 89) [.ref b, .int many t]) Q E s := by
  cases hi with
  | none =>
    simp only [boundV] at hb
    refine wpAny_call ?_
    (apply code_def (binds := [(Str.ofString "bounds", .ref b), (Str.ofString "many", .int many t)]); walk_at "enter")
    have hb' := stays_tup (Fr.keep (m := m) (by assumption)) hb
    k_steps
    all_goals (refine retB hret ?_ (by k_asm) (by k_asm); (try simp [fitsB]); (try omega))
  | some hi =>
    simp only [boundV] at hb
    refine wpAny_call ?_
    (apply code_def (binds := [(Str.ofString "bounds", .ref b), (Str.ofString "many", .int many t)]); walk_at "enter")
    have hb' := stays_tup (Fr.keep (m := m) (by assumption)) hb
    k_steps
    all_goals (refine retB hret ?_ (by k_asm) (by k_asm); (try simp [fitsB]); (try omega))
end
def isAgg (i : Nat) (many : Int) (st : Bool) : Bool := if st then decide (i = 6) else match aggAt i with
  | some b => fitsB many b.2.1 b.2.2
  | none => false
end Mine
theorem Mine.word3 : True := by (k_with "call builtin:str.lower" => (k_here; (with_reducible show wpAny _ _ (call (Value.builtin "str.lower") [Value.str _ _]) _ _ _); (apply Mine.lower_c; (case h => assumption); (case hx => assumption); k_whole))); trivial
theorem Mine.word4 : True := by (k_with "compareOp In str ref" => (k_here; (with_reducible show wpAny _ _ (compareOp CmpOp.In (Value.str (Mine.lw _) _) (Value.ref 76)) _ _ _); first | (apply Mine.in_agg_t; (case F => k_asm); (case X => k_asm); (case hi => assumption); (case h => assumption); k_whole) | (apply Mine.in_agg_f; (case F => k_asm); (case X => k_asm); (case hi => assumption); (case h => assumption); k_whole))); trivial
theorem Mine.word5 : True := by (k_with "subscriptTail" => (k_here; (with_reducible show wpAny _ _ (subscriptTail _ _ (Value.ref 76) (Value.str (Mine.lw _) _)) _ _ _); (apply Mine.get_agg; (case F => k_asm); (case X => k_asm); (case hi => assumption); (case h => assumption); k_whole))); trivial
theorem Mine.word6 : True := by (k_with "call ref" => (k_here; (with_reducible show wpAny _ _ (call (Value.ref 89) [Value.ref _, Value.int _ _]) _ _ _); k_dflt (apply Mine.fits_c; (case B => k_asm); (case F => k_asm); (case X => k_asm); (case N => k_asm); (case T => k_asm); (case hk => first | exact rfl | assumption); (case hb => assumption); (case hdp => ktr_room); (case hu => ktr_units); k_whole); intro h' tk' F' N'; (try dsimp only); (try k_fold))); trivial
namespace Mine
section
variable {w : World} {vw : Program} {lo : List Str} {mean : ExcName → Option Value} {mg mb : Str → Option Value} {dp un : Nat} {gd : Option (List Code)} {cn : Str} {cs : Scope} {a : Addr} {ccd : Value} {cl : List (Str × Addr)} {outer : List Env} {A₀ : Around} {base h₀ : Heap} {L : Addr} {m : Str → Option Value} {news : List (Addr × Obj)} {s : Shared} {Q E : Value → Shared → Prop}
variable (B : Below A₀ base outer h₀) (F : Fr h₀ L s.heap m) (X : (Mine.K w.params).In h₀) (N : News h₀ L s.heap news) (T : Top vw lo mean mg mb h₀) (hk : cs.kind = .function)
include B F X N T hk
theorem isagg_c (hdp : dp + 6 < recursionLimit) (hu : un + 60 < cLine) {many : Int} {t t1 : Tok} {st : Bool} {i : Nat} (hi : i < 12)
    (hret : ∀ h' tk', Fr h₀ L h' m → News h₀ L h' news → Q (.bool (isAgg i many st)) { s with heap := h', toks := tk' }) :
    wpAny (model prg w) (ktrTop dp un gd cn cs L a ccd cl outer) (call (.ref 97) [.str (lw i) t, .int many t1, .bool st]) Q E s := by
  have hlo := lower_lw hi
  have hln := len_lw hi
  cases st with
  | true =>
    refine wpAny_call ?_
    (apply code_def (binds := [(Str.ofString "name", .str (lw i) t), (Str.ofString "many", .int many t1), (Str.ofString "star", .bool true)]); walk_at "enter")
    k_steps
    all_goals (refine retB hret ?_ (by k_asm) (by k_asm); simp only [isAgg, if_true]; exact lw_count hi)
  | false =>
    cases hA : aggAt i with
    | none =>
      refine wpAny_call ?_
      (apply code_def (binds := [(Str.ofString "name", .str (lw i) t), (Str.ofString "many", .int many t1), (Str.ofString "star", .bool false)]); walk_at "enter")
      k_steps
      all_goals (refine retB hret ?_ (by k_asm) (by k_asm); simp [isAgg, hA])
    | some b =>
      refine wpAny_call ?_
      (apply code_def (binds := [(Str.ofString "name", .str (lw i) t), (Str.ofString "many", .int many t1), (Str.ofString "star", .bool false)]); walk_at "enter")
      obtain ⟨t1, t2, hT⟩ := tup_agg (by assumption) hi hA
      k_steps
      all_goals (refine retB hret ?_ (by k_asm) (by k_asm); simp only [isAgg, hA]; rfl)
end
end Mine
namespace Mine
open LCg in
def TxSrc (prog : Program) (w : World) (A : Around) (h₀ : Heap) (L : Addr) (m : Str → Option Value) (env : Env) (elt : PySem.Expr) (x : Str) (scope : Scope) (cl : List (Str × Addr)) (Q : Value → Shared → Prop) (xv : Value) (s₁ : Shared) : Prop :=
  ∃ tx t news, xv = .str tx t ∧ tx.cps.all (· < 128) = true ∧ tx.cps.size ≤ sizeLine ∧ A.handled = none ∧ Fr h₀ L s₁.heap m ∧ News h₀ L s₁.heap news ∧
      ∀ s₂ : Shared, (∃ h, s₂ = { s₁ with heap := h }) → CompRest prog w A h₀ L m env elt x scope cl s₂ (fun _ => True) (SignAt tx) (FinE h₀ L m s₂ Q) tx.cps.size 0 [] news
open LCg in
theorem ListComp_T {prog : Program} {w : World} {A : Around} {E : Value → Shared → Prop} {s : Shared} {h₀ : Heap} {L : Addr} {m : Str → Option Value} {env : Env} {elt iter : PySem.Expr} {x : Str} {px : Pos} {scope : Scope} {cl : List (Str × Addr)} {pos : Pos} {Q : Value → Shared → Prop} (F₀ : Fr h₀ L s.heap m)
    (hclos : closureFor scope env = pure cl) (hcell : ∀ y ∈ scope.names, y.2 ≠ .cell) (hkind : scope.kind = .function)
    (hnames : ∀ y ∈ scope.names, y.2 = .local → scope.names.lookup y.1 = some .local) (hx : scope.names.lookup x = some .local)
    (h : wpAny (model prog w) A (eval iter env) (fun xv s₁ => TxSrc prog w A h₀ L m env elt x scope cl Q xv s₁) E s)
    (hs : ∀ x, foldedSetIterable iter env x = pure x := by intro _; rfl) :
    wpAny (model prog w) A (eval (.ListComp elt [⟨.Name x px, iter, [], 0⟩] scope pos) env) Q E s := by
  rw [eval_ListComp]
  refine wpAny_comprehension_free (use := none) rfl hs hclos hkind hnames (wpAny_mono h (fun xv s₁ h₁ => ?_) fun _ _ e => e)
  obtain ⟨tx, t, news, rfl, ha, hsz, hh, F, N, R⟩ := h₁
  refine wpAny_pyIter_ascii ha ?_
  refine block_U (Walks.strAscii hh s₁.heap.objs.size tx t) hsz (fun i h st => by obtain ⟨o, e, _⟩ := st; exact ⟨o, e⟩)
    (fun i h h' o nw st e e' _ _ _ => by obtain ⟨o', q, r⟩ := st; rw [e] at q; cases q; exact ⟨o, e', r⟩) hcell hkind hx ⟨_, Heap.get?_push_size _ rfl, rfl, rfl⟩ (fun b hb => ?_)
    (F.keeps fun _ _ e => Heap.get?_push_of_some _ e) (N.grown fun _ _ e => Heap.get?_push_of_some _ e) (Nat.ne_of_lt F.ns.lt) (next_is_new F) (fun p hp => Nat.ne_of_lt (Heap.lt_size (N p hp).1)) trivial (R _ ⟨_, rfl⟩) ?_
  · rw [List.mem_singleton.mp hb]
    show s₁.heap.objs.size < (s₁.heap.push _).objs.size
    rw [Heap.size_push]; exact Nat.lt_succ_self _
  · intro D C h tk m' ys news' F' N' o1 hn hC₀ hD₀ hCL hDL hCD offC fin
    refine ⟨m', hn, fun h'' hs'' => fin D h'' tk (F'.change hs'' hCL hC₀) (fun p hp => ?_) o1⟩
    refine ⟨hs''.extBut _ _ ?_ (N' p hp).1, (N' p hp).2⟩
    rcases List.mem_cons.mp hp with rfl | hp
    · exact Ne.symm hCD
    · exact offC p hp
def foldC (c : Nat) : Str := ⟨#[if 65 ≤ c ∧ c ≤ 90 then c + 32 else c]⟩
def foldT (x : Str) : Str := Txt.join (Str.ofString "") (x.cps.toList.map foldC)
theorem sa_snoc {y : PySem.Str} {t : Tok} : ∀ {vs : List Value} {ys : List PySem.Str}, StrsAre vs ys → StrsAre (vs ++ [.str y t]) (ys ++ [y])
  | _, _, .nil => .cons y t .nil
  | _, _, .cons z u r => .cons z u (sa_snoc r)
def SignEnd (h₀ : Heap) (L : Addr) (m : Str → Option Value) (s : Shared) (news : List (Addr × Obj)) (r : Str) (y : Value) (s₂ : Shared) : Prop :=
  ∃ h' tk' t', s₂ = { s with heap := h', toks := tk' } ∧ y = .str r t' ∧ Fr h₀ L h' m ∧ News h₀ L h' news
theorem signEnd {h₀ h' : Heap} {L : Addr} {m : Str → Option Value} {s : Shared} {news : List (Addr × Obj)} {r r' : Str} {t' tk' : Tok} (e : r' = r) (F : Fr h₀ L h' m) (N : News h₀ L h' news) : SignEnd h₀ L m s news r (.str r' t') { s with heap := h', toks := tk' } := ⟨h', tk', t', rfl, e ▸ rfl, F, N⟩
theorem sum_foldC (l : List Nat) : ((l.map foldC).map (·.length)).sum = l.length := by
  induction l with
  | nil => rfl
  | cons c r ih => rw [List.map_cons, List.map_cons, List.sum_cons, ih, List.length_cons]; show 1 + r.length = _; omega
theorem foldT_wd {i : Nat} (hi : i < 12) : foldT (wd i) = lw i := by
  revert i
  refine fun hi => twelve (P := fun i => foldT (wd i) = lw i) ?_ ?_ ?_ ?_ ?_ ?_ ?_ ?_ ?_ ?_ ?_ ?_ hi <;> (with_unfolding_all decide +kernel)
theorem ascii_wd {i : Nat} (hi : i < 12) : (wd i).cps.all (· < 128) = true := by
  revert i
  refine fun hi => twelve (P := fun i => (wd i).cps.all (· < 128) = true) ?_ ?_ ?_ ?_ ?_ ?_ ?_ ?_ ?_ ?_ ?_ ?_ hi <;> (with_unfolding_all decide +kernel)
theorem cpsA : (Str.ofString "A").cps.toList = [65] := by decide +kernel
theorem cpsZ : (Str.ofString "Z").cps.toList = [90] := by decide +kernel
theorem one_lt {a b : Nat} : ([a] : List Nat) < [b] ↔ a < b := by simp [List.cons_lt_cons_iff]
theorem sg_lo {c : Nat} (h : (⟨#[c]⟩ : Str).cps.toList < (Str.ofString "A").cps.toList) : c < 65 := by rw [cpsA] at h; exact one_lt.mp h
theorem sg_hi {c : Nat} (h : (Str.ofString "Z").cps.toList < (⟨#[c]⟩ : Str).cps.toList) : 90 < c := by rw [cpsZ] at h; exact one_lt.mp h
theorem sg_in {c : Nat} (h : ¬ (⟨#[c]⟩ : Str).cps.toList < (Str.ofString "A").cps.toList) (h' : ¬ (Str.ofString "Z").cps.toList < (⟨#[c]⟩ : Str).cps.toList) : 65 ≤ c ∧ c ≤ 90 := by
  rw [cpsA] at h
  rw [cpsZ] at h'
  exact ⟨Nat.not_lt.mp fun q => h (one_lt.mpr q), Nat.not_lt.mp fun q => h' (one_lt.mpr q)⟩
theorem foldC_out {c : Nat} (h : c < 65 ∨ 90 < c) : (⟨#[c]⟩ : Str) = foldC c := by unfold foldC; rw [if_neg (by omega)]
theorem foldC_in {c : Nat} (h : 65 ≤ c ∧ c ≤ 90) : (⟨#[((c : Int) + 32).toNat]⟩ : Str) = foldC c := by unfold foldC; rw [if_pos h]; congr 2
section
variable {prog : Program} {w : World} {A : Around} {h₀ : Heap} {L : Addr} {m : Str → Option Value} {env : Env} {elt : PySem.Expr} {x : Str} {scope : Scope} {cl : List (Str × Addr)} {s : Shared} {Fin : List Value → List (Addr × Obj) → Prop} {news : List (Addr × Obj)}
theorem signs_rest {tx : Str} (g : Nat → Str)
    (turn : ∀ c t I oI C oC D m₂ ys h tk (E' : Value → Shared → Prop), LCg.NsObj oC m₂ → m₂ x = some (.str ⟨#[c]⟩ t) → Fr h₀ L h m → News h₀ L h ((I, oI) :: (C, oC) :: (D, LCg.lst ys) :: news) →
      wpAny (model prog w) A (eval elt (compEnvC scope cl C env)) (SignEnd h₀ L m s ((I, oI) :: (C, oC) :: (D, LCg.lst ys) :: news) (g c)) E' { s with heap := h, toks := tk })
    (fin : ∀ ys, StrsAre ys (tx.cps.toList.map g) → Fin ys news) : LCg.CompRest prog w A h₀ L m env elt x scope cl s (fun _ => True) (SignAt tx) Fin tx.cps.size 0 [] news := by
  have key : ∀ (j i : Nat) (ys : List Value), i + j = tx.cps.size → StrsAre ys ((tx.cps.toList.take i).map g) → LCg.CompRest prog w A h₀ L m env elt x scope cl s (fun _ => True) (SignAt tx) Fin j i ys news := by
    intro j
    induction j with
    | zero =>
      intro i ys hi hy
      have e : i = tx.cps.toList.length := by rw [Array.length_toList]; omega
      subst e
      rw [List.take_length] at hy
      exact LCg.CompRest.zero (fin ys hy)
    | succ j ih =>
      intro i ys hi hy
      refine LCg.CompRest.succ ?_
      intro v I oI C oC D m₂ h tk E' hv hC hx F N off ne
      obtain ⟨c, t, hc, rfl⟩ := hv
      refine wpAny_mono (turn c t I oI C oC D m₂ ys h tk E' hC hx F N) (fun y s₂ hq => ?_) fun _ _ e => e
      obtain ⟨h', tk', t', e, rfl, F', N'⟩ := hq
      refine ⟨h', tk', news, e, F', N', off, trivial, ?_⟩
      refine ih (i + 1) _ (by omega) ?_
      rw [List.take_add_one, show tx.cps.toList[i]? = some c by rw [Array.getElem?_toList]; exact hc]
      simpa using sa_snoc hy
  exact key _ 0 [] (by omega) (by simp only [List.take_zero, List.map_nil]; exact .nil)
end
end Mine
theorem Mine.word7 : True := by (k_with "eval ListComp" => (k_here; k_dflt (refine Mine.ListComp_T (F₀ := by k_asm) (by rfl) (by decide) (by rfl) (by decide) (by rfl) ?_))); trivial
namespace Mine
section
variable {w : World} {vw : Program} {lo : List Str} {mean : ExcName → Option Value} {mg mb : Str → Option Value} {dp un : Nat} {gd : Option (List Code)} {cn : Str} {cs : Scope} {a : Addr} {ccd : Value} {cl : List (Str × Addr)} {outer : List Env} {A₀ : Around} {base h₀ : Heap} {L : Addr} {m : Str → Option Value} {news : List (Addr × Obj)} {s : Shared} {Q E : Value → Shared → Prop}
variable (B : Below A₀ base outer h₀) (F : Fr h₀ L s.heap m) (X : (Mine.K w.params).In h₀) (N : News h₀ L s.heap news) (T : Top vw lo mean mg mb h₀) (hk : cs.kind = .function)
include B F X N T hk
theorem fold_c (hdp : dp + 3 < recursionLimit) (hu : un + 40 < cLine) {x : Str} {t : Tok} (ha : x.cps.all (· < 128) = true) (hx : x.length ≤ 12)
    (hret : ∀ t' h' tk', Fr h₀ L h' m → News h₀ L h' news → Q (.str (foldT x) t') { s with heap := h', toks := tk' }) :
    wpAny (model prg w) (ktrTop dp un gd cn cs L a ccd cl outer) (call (.ref 491) [.str x t]) Q E s := by
  refine wpAny_call ?_
  (apply code_def (binds := [(Str.ofString "name", .str x t)]); walk_at "enter")
  k_steps
  refine ⟨x, t, news, rfl, ha, ?_, rfl, by k_asm, by k_asm, ?_⟩
  · show x.length ≤ _
    rw [sizeLine_eq]; omega
  rintro s₂ ⟨h2, rfl⟩
  refine signs_rest foldC ?_ ?_
  · intro c t I oI C oC D m₂ ys h tk E' hC hx F' N'
    k_steps
    · exact signEnd (foldC_out (.inl (sg_lo (by assumption)))) (by k_asm) (by k_asm)
    · exact signEnd (foldC_out (.inr (sg_hi (by assumption)))) (by k_asm) (by k_asm)
    · have hc := sg_in (by assumption) (by assumption)
      k_steps
      exact signEnd (foldC_in hc) (by k_asm) (by k_asm)
  · intro ys hys
    k_steps
    refine join_list (News.isList (by k_asm) (by k_mem)) hys ?_ fun t' k => ?_
    · have h1 : x.cps.toList.length ≤ 12 := by rw [Array.length_toList]; exact hx
      have h2 := sum_foldC x.cps.toList
      have h3 : (Str.ofString "").length = 0 := by decide +kernel
      rw [h2, h3]
      omega
    · k_steps
      exact hret _ _ _ (by k_asm) (by walk_at "MNEWS")
end
end Mine
namespace Mine
structure MadeX (h h' : Heap) (e : Addr) (cls : Value) (t : Addr) (vs : List Value) : Prop where
  keeps : ∀ b o, h.get? b = some o → h'.get? b = some o
  new : h.get? e = none
  there : ∃ oe, h'.get? e = some oe ∧ oe.cls = cls ∧ oe.data = .fields #[.ref t, .none, .none, .none, .bool false, .none]
  tnew : h.get? t = none
  tup : h'.TupAt t vs
theorem wide {α : Type} {M : Model} {A : Around} {t : Sem α} {Q : α → Shared → Prop} {E : Value → Shared → Prop} {s : Shared} (hh : A.handled = none) (hdp : A.depth ≤ 600) (hu : A.units ≤ 5000)
    (h : wpAny M { depth := 600, frames := none, guards := none, units := 5000 } t Q E s) : wpAny M A t Q E s := by
  intro Γ p hΓ
  obtain ⟨h1, h2, h3, h4, h5⟩ := hΓ
  exact h Γ p ⟨h1.trans hh, Nat.le_trans h2 hdp, (fun _ q => nomatch q), (fun _ q => nomatch q), Nat.le_trans h5 hu⟩
theorem madeX_of {h h' : Heap} {p1 p2 : Addr × Obj} {e t : Addr} {x : Str} {tk : Tok} {d : Option Addr} {sl sl' : Array (Option Value)} {Q : Value → Shared → Prop} {g : Array GenState} {dr : Drawn} {tk' : Nat} {os : OsState}
    (D : PySem.W.X.Mem h h' [] [p1, p2, (e, ⟨.ref 44, d, .fields #[.ref t, .none, .none, .none, .bool false, .none], sl⟩), (t, ⟨.type "tuple", none, .seq #[.str x tk] 0, sl'⟩)])
    (hq : ∀ h' e t tk', MadeX h h' e (.ref 44) t [.str x tk] → Q (.ref e) ⟨h', g, dr, tk', os⟩) : Q (.ref e) ⟨h', g, dr, tk', os⟩ := by
  refine hq h' e t tk' ⟨fun b o q => D.keep b o q (by simp [PySem.W.X.away]), (D.nw _ (.tail _ (.tail _ (.head _)))).2, ⟨_, (D.nw _ (.tail _ (.tail _ (.head _)))).1, rfl, rfl⟩, (D.nw _ (.tail _ (.tail _ (.tail _ (.head _))))).2, ⟨_, _, (D.nw _ (.tail _ (.tail _ (.tail _ (.head _))))).1, rfl, rfl⟩⟩
end Mine
local macro_rules | `(tactic| x_close) => `(tactic| exact Mine.madeX_of (by assumption) (by assumption))
namespace Mine
open PySem.W.X in
theorem mk_sqlerror0 {w : World} {s : Shared} (KX : (Mine.K w.params).In s.heap) {Q E : Value → Shared → Prop} {x : Str} {tk : Tok}
    (hq : ∀ h' e t tk', MadeX s.heap h' e (.ref 44) t [.str x tk] → Q (.ref e) { s with heap := h', toks := tk' }) :
    wpAny (model prg w) { depth := 600, frames := none, guards := none, units := 5000 } (call (.ref 44) [.str x tk]) Q E s := by
  x_run
theorem mk_sqlerror {w : World} {A : Around} {s : Shared} (KX : (Mine.K w.params).In s.heap) {Q E : Value → Shared → Prop} {x : Str} {tk : Tok} (hh : A.handled = none) (hdp : A.depth ≤ 600) (hu : A.units ≤ 5000)
    (hq : ∀ h' e t tk', MadeX s.heap h' e (.ref 44) t [.str x tk] → Q (.ref e) { s with heap := h', toks := tk' }) :
    wpAny (model prg w) A (call (.ref 44) [.str x tk]) Q E s := wide hh hdp hu (mk_sqlerror0 KX hq)
end Mine
namespace Mine
theorem raiseStmt_made {M : Model} {A : Around} {E : Value → Shared → Prop} {env : Env} {C : Addr} {s : Shared} {x : Sem Value} {Q : Flow → Shared → Prop} (hh : A.handled = none)
    (h : wpAny M A x (fun v s₁ => ∃ e t d sl, v = .ref e ∧ (∃ nm q N bs bm hdct sn sub ab col dd k0 k1 k2 k3 k5 newId, s₁.heap.get? C = some (excClassObj nm q C N bs bm hdct sn sub ab col dd k0 k1 k2 k3 k5 newId) ∧ bm.contains (.type "BaseException") = true ∧ bm.contains (.type "BaseException") = true) ∧
      s₁.heap.get? e = some { cls := .ref C, dict := d, data := .fields #[.ref t, .none, .none, .none, .bool false, .none], slots := sl } ∧ E (.ref e) s₁) E s) :
    wpAny M A (raiseStmt env (some x) none) Q E s := by
  unfold raiseStmt
  refine wpAny_bind (wpAny_mono h (fun v s₁ h₁ => ?_) fun _ _ x => x)
  obtain ⟨e, t, d, sl, rfl, ⟨nm, q, N, bs, bm, hdct, sn, sub, ab, col, dd, k0, k1, k2, k3, k5, newId, hC, hbase, _⟩, he, hE⟩ := h₁
  have hcB : (Value.ref C :: bm).contains (.type "BaseException") = true := by rw [List.contains_cons, hbase, Bool.or_true]
  obtain ⟨hp, g, dr, tk, os⟩ := s₁
  repeat (first | with_reducible refine wpAny_loadPart_at he ?_ | with_reducible refine wpAny_loadPart_at hC ?_ | (with_reducible refine wpAny_isSubtype_exc hC ?_; rw [hcB]) | wp_step)
  exact wpAny_raiseNew_none hh hE
def RaisePost (w : World) (E : Value → Shared → Prop) (v : Value) (s₁ : Shared) : Prop :=
  ∃ e oe t, v = .ref e ∧ s₁.heap.get? e = some oe ∧ oe.cls = .ref 44 ∧ oe.data = .fields #[.ref t, .none, .none, .none, .bool false, .none] ∧ (Mine.K w.params).In s₁.heap ∧ E (.ref e) s₁
theorem raisePost {w : World} {E : Value → Shared → Prop} {h h' : Heap} {g : Array GenState} {dr : Drawn} {tk : Nat} {os : OsState} {e t : Addr} {vs : List Value} (hm : MadeX h h' e (.ref 44) t vs) (X : (Mine.K w.params).In h) (hE : E (.ref e) ⟨h', g, dr, tk, os⟩) : RaisePost w E (.ref e) ⟨h', g, dr, tk, os⟩ := by
  obtain ⟨oe, h1, h2, h3⟩ := hm.there
  exact ⟨e, oe, t, rfl, h1, h2, h3, X.keeps hm.keeps, hE⟩
theorem sql_is (w : World) : ktsIn (Mine.K w.params) 44 "BaseException" = true := by
  k_dflt kts_isx
theorem Raise_sql {w : World} {A : Around} {E : Value → Shared → Prop} {s : Shared} {env : Env} {x : Str} {np cpos pos : Pos} {args : List PySem.Expr} {Q : Flow → Shared → Prop} (hh : A.handled = none)
    (h : wpAny (model prg w) A (eval (.Call (.Name x np) args [] cpos) env) (RaisePost w E) E s) : wpAny (model prg w) A (exec (.Raise (some (.Call (.Name x np) args [] cpos)) none pos) env) Q E s := by
  rw [arm_exec_Raise]
  refine wpAny_bind (wpAny_standAt ?_)
  show wpAny (model prg w) A (raiseStmt env (some (do let v ← eval (.Call (.Name x np) args [] cpos) env; standAt pos; pure v)) none) Q E s
  have key : wpAny (model prg w) A (do let v ← eval (.Call (.Name x np) args [] cpos) env; standAt pos; pure v) (RaisePost w E) E s :=
    wpAny_bind (wpAny_mono h (fun v s₃ h₃ => wpAny_bind (wpAny_standAt (wpAny_pure h₃))) fun _ _ x => x)
  refine raiseStmt_made (C := 44) hh (wpAny_mono key (fun v s₁ hp => ?_) fun _ _ x => x)
  obtain ⟨e, ⟨c, d, dt, sl⟩, t, rfl, h1, h2, h3, hX, hE⟩ := hp
  dsimp only at h2 h3
  subst h2 h3
  exact ⟨e, t, d, sl, rfl, kts_cls hX (sql_is w), h1, hE⟩
section
variable {M : Model} {A : Around} {E : Value → Shared → Prop} {s s' : Shared} {base g g₂ h : Heap} {outer : List Env} {L a e t : Addr} {m : Str → Option Value} {name : Str} {scope : Scope} {cd : Value} {Q : Unit → Shared → Prop} {news : List (Addr × Obj)}
theorem hide_none {h : Heap} {l : List Addr} {b : Addr} (x : h.get? b = none) : (hideAll h l).get? b = none := by
  cases q : (hideAll h l).get? b with
  | none => rfl
  | some o =>
    have := of_hideAll _ q
    rw [x] at this
    cases this
theorem leave_raiseX {cls : Value} {vs : List Value} (K : Below A base outer g) (hx : MadeX h s'.heap e cls t vs) (F : Fr g L h m) (N : News g L h news)
    (hQ : ∀ h', RaisedS base g outer e cls t vs news h' → RaisedK base outer e cls t vs news h' → g.UpToSlots h' → Q () { s' with heap := h' }) (hk : scope.kind = .function := by rfl) :
    wpAny M (A.deeper (envOf name scope L a cd)) (leaving (envOf name scope L a cd) (.ref e)) Q E s' := by
  have K' := K.push (name := name) (a := a) (cd := cd) F hk
  have hin : ∀ env ∈ (envOf name scope L a cd :: outer), ∀ b, env.frame = some b → b ∈ (envOf name scope L a cd :: outer).filterMap (·.frame) := fun env he b hb => List.mem_filterMap.mpr ⟨env, he, hb⟩
  have st : base.StaysIn (hideAll h ((envOf name scope L a cd :: outer).filterMap (·.frame))) := fun b o q => hideAll_get _ (K'.stays b o q) fun hm => by
    rw [(K'.frames.mem hm).1] at q; cases q
  have sg : ∀ b o, g.get? b = some o → b ∉ outer.filterMap (·.frame) → (hideAll h ((envOf name scope L a cd :: outer).filterMap (·.frame))).get? b = some o := fun b o q nm => hideAll_get _ (F.keep b o q) fun hm => by
    rcases kts_mem hm with z | z
    · rw [z, kts_self F] at q
      cases q
    · exact nm z
  have hl : ∀ q ∈ news, (hideAll h ((envOf name scope L a cd :: outer).filterMap (·.frame))).get? q.1 = some q.2 ∧ g.get? q.1 = none ∧ base.get? q.1 = none := fun q hq => by
    refine ⟨hideAll_get _ (N q hq).1 fun hm => ?_, (N q hq).2.2, fresh_of_stays K.stays (N q hq).2.2⟩
    obtain ⟨env, he, hf⟩ := List.mem_filterMap.mp hm
    rcases List.mem_cons.mp he with rfl | he
    · exact (N q hq).2.1 (Option.some.inj hf).symm
    · obtain ⟨o, ho, _⟩ := (K.frames.mem (List.mem_filterMap.mpr ⟨env, he, hf⟩)).2
      rw [(N q hq).2.2] at ho; cases ho
  have hx' : MadeX (hideAll h ((envOf name scope L a cd :: outer).filterMap (·.frame))) s'.heap e cls t vs := ⟨fun b o q => hx.keeps b o (of_hideAll _ q), hide_none hx.new, hx.there, hide_none hx.tnew, hx.tup⟩
  obtain ⟨oe, he, hc, hd⟩ := hx.there
  subst hc
  have fr' : s'.heap.FunFrames (hideAll h ((envOf name scope L a cd :: outer).filterMap (·.frame))) (envOf name scope L a cd :: outer) :=
    (funFrames_hide K'.frames hin).of_keeps fun b o hb _ => ⟨o, hx.keeps b o hb, rfl⟩
  refine wpAny_leaving_firstW (a0 := .ref t) K'.stack fr' rfl he (fun b o q => hx'.keeps b o q) hx'.new hd rfl rfl fun h' hL => ?_
  obtain ⟨k1, ⟨_, _, k2⟩, k3, k4⟩ := hL
  have R : RaisedS base g outer e oe.cls t vs news h' := ⟨⟨_, st, sg, hl, ⟨k1, hx'.new, k2, k3⟩, hx'.tnew⟩, Heap.TupAt.of_slots hx.tup k4⟩
  exact hQ h' R R.toK (((Heap.UpToSlots.of_keeps F.keep).trans (Heap.UpToSlots.of_keeps hx.keeps)).trans k4)
end
end Mine
namespace Mine
def colls : List Str := [Str.ofString "binary", Str.ofString "nocase", Str.ofString "rtrim"]
def colB (y : Str) : Bool := colls.any (· == foldT y)
theorem notin_colls {w : World} {A : Around} {s : Shared} {h₀ : Heap} {L : Addr} {m : Str → Option Value} {Q E : Value → Shared → Prop} {y : Str} {t : Tok} (F : Fr h₀ L s.heap m) (X : (Mine.K w.params).In h₀) (hq : Q (.bool (!colB y)) s) : wpAny (model prg w) A (compareOp .NotIn (.str (foldT y) t) (.ref 521)) Q E s :=
  notin_tuple_strs (ys := colls) ⟨_, F.keep _ _ (X _ _ (by k_is)), rfl, _, rfl⟩ (.cons _ _ (.cons _ _ (.cons _ _ .nil))) hq
end Mine
theorem Mine.word8 : True := by (k_with "compareOp NotIn str ref" => (k_here; (with_reducible show wpAny _ _ (compareOp CmpOp.NotIn (Value.str (Mine.foldT _) _) (Value.ref 521)) _ _ _); k_dflt (apply Mine.notin_colls; (case F => k_asm); (case X => k_asm); k_whole))); trivial
theorem Mine.word9 : True := by (k_with "exec Raise some none" => (k_here; (with_reducible show wpAny _ _ (exec (Stmt.Raise (some (Expr.Call (Expr.Name _ _) _ [] _)) none _) _) _ _ _); k_dflt (apply Mine.Raise_sql; (case hh => first | rfl | assumption); k_whole))); trivial
theorem Mine.word10 : True := by (k_with "RaisePost" => (k_here; k_dflt (apply Mine.raisePost; (case hm => assumption); (case X => k_in); k_whole))); trivial
theorem Mine.word11 : True := by (k_with "call ref" => (k_here; (with_reducible show wpAny _ _ (call (Value.ref 44) [Value.str _ _]) _ _ _); k_dflt (apply Mine.mk_sqlerror; (case KX => k_in); (case hh => rfl); (case hdp => (have hcL9 := cLine_is; (try simp only [recursionLimit] at *); (try simp only [depth_under_make, depth_under_kw, depth_in1, depth_deeper, depth_caller] at *); (try dsimp only [ktrTop] at *); omega)); (case hu => (have hcL9 := cLine_is; (try simp only [units_in1, units_deeper, Around.mark_units, units_caller] at *); (try dsimp only [ktrTop] at *); omega)); k_whole); intro h' e' t' tk' M'; (try dsimp only); (try k_fold))); trivial
theorem Mine.word12 : True := by (k_with "leaving ref" => (k_here; (with_reducible rename Mine.MadeX _ _ _ _ _ _ => mxX); (apply Mine.leave_raiseX (hx := mxX); (case F => assumption); (case K => assumption); (case N => k_asm); k_whole; intro h' S' R' U'; clear mxX; (try dsimp only at S' R' U' ⊢)))); trivial
theorem Mine.word13 : True := by (k_with "call ref" => (k_here; (with_reducible show wpAny _ _ (call (Value.ref 491) [Value.str _ _]) _ _ _); k_dflt (apply Mine.fold_c; (case B => k_asm); (case F => k_asm); (case X => k_asm); (case N => k_asm); (case T => k_asm); (case hk => first | exact rfl | assumption); (case ha => assumption); (case hx => assumption); (case hdp => ktr_room); (case hu => ktr_units); k_whole); intro t' h' tk' F' N'; (try dsimp only); (try k_fold))); trivial
theorem Mine.word14 : True := by (k_with "enterS" => ((case hA => exact rfl); (case F => k_asm); (case B => k_asm); (case XB => assumption); (case TB => assumption); (case D => assumption); (case T0 => exact KtsTurn.refl); (case X₀ => k_asm); (case N => k_asm); (case T => k_asm); (case ho => k_is); (case hcd => k_is); (case hroom => k_room); (case hbind => first | exact BindsTo.of_eq rfl | exact binds_K (by k_in) rfl (by k_is) rfl rfl rfl); (case hloc => exact locs rfl); (case hck => first | exact rfl | assumption); (case hco => exact rfl); (case hgen => exact rfl); (case hk => exact rfl); (case hcell => decide); k_whole; intro g' L' h' FG' F' N' B' X' T' D'; (try dsimp only); (try k_lift B'); (try k_fold))); trivial
namespace Mine
theorem retS {K : Frag} {p : Program} {loose : List Str} {mean : ExcName → Option Value} {mg mb : Str → Option Value} {A₀ : Around} {base h₀ kg h' : Heap} {outer : List Env} {L : Addr} {m : Str → Option Value} {news : List (Addr × Obj)} {s : Shared} {Q : Value → Shared → Prop} {tk' : Nat} {fs : List Addr} {x y : Bool}
    (hret : ∀ kg h' tk', KtsTurn fs h₀ kg → Fr kg L h' m → News kg L h' news → Below A₀ base outer kg → K.In kg → Top p loose mean mg mb kg → KtsDicts fs kg → Q (.bool x) { s with heap := h', toks := tk' })
    (e : y = x) (F : Fr kg L h' m) (T : KtsTurn fs h₀ kg) (N : News kg L h' news) (B : Below A₀ base outer kg) (X : K.In kg) (P : Top p loose mean mg mb kg) (D : KtsDicts fs kg) : Q (.bool y) { s with heap := h', toks := tk' } := by
  subst e
  exact hret kg h' tk' T F N B X P D
end Mine
theorem Mine.word15 : True := by (k_with "retS" => ((case F => assumption); (case T => first | assumption | exact KtsTurn.refl); (case N => walk_at "MNEWS"); (case B => assumption); (case X => assumption); (case P => assumption); (case D => assumption))); trivial
namespace Mine
section
variable {w : World} {vw : Program} {lo : List Str} {mean : ExcName → Option Value} {mg mb : Str → Option Value} {dp un : Nat} {gd : Option (List Code)} {cn : Str} {cs : Scope} {a : Addr} {ccd : Value} {outer : List Env} {A₀ : Around} {base h₀ : Heap} {L : Addr} {m : Str → Option Value} {news : List (Addr × Obj)} {s : Shared} {Q E : Value → Shared → Prop}
variable (B : Below A₀ base outer h₀) (F : Fr h₀ L s.heap m) (X : (Mine.K w.params).In h₀) (T : Top vw lo mean mg mb h₀) (hk : cs.kind = .function)
variable (XB : (Mine.K w.params).In base) (TB : Top vw lo mean mg mb base) (D : KtsDicts (outer.filterMap (·.frame)) h₀)
include B F X T hk XB TB D
theorem isletc (hdp : dp + 20 < 600) (hu : un + 200 < 5000) {x dx : Addr} {n : Nat} {h1 h2 : Int} {t1 t2 t3 : Tok} {v : Value} {y : Str} (ha : y.cps.all (· < 128) = true) (hy : y.length ≤ 12) (N : News h₀ L s.heap ((x, instObj 432 dx) :: (dx, dictOf [⟨h1, .str (Str.ofString "value") t1, v⟩, ⟨h2, .str (Str.ofString "collation") t2, .str y t3⟩] n) :: news))
    (hret : ∀ kg h' tk', KtsTurn (outer.filterMap (·.frame)) h₀ kg → Fr kg L h' m → News kg L h' news → Below A₀ base outer kg → (Mine.K w.params).In kg → Top vw lo mean mg mb kg → KtsDicts (outer.filterMap (·.frame)) kg → Q (.bool (colB y)) { s with heap := h', toks := tk' }) :
    wpAny (model prg w) (ktrTop dp un gd cn cs L a ccd [] outer) (call (.ref 589) [.ref x]) Q E s := by
    refine wpAny_call ?_
    (apply code_defS (binds := [(Str.ofString "expr", .ref x)]); walk_at "enterS")
    k_steps
    all_goals ((apply Mine.retS hret; walk_at "retS"); (simp_all; done))
end
end Mine
namespace Mine
def LeaveO (h₀ : Heap) (L : Addr) (m : Str → Option Value) (news own : List (Addr × Obj)) (g : Heap) (R : Result → Shared → Prop) (v : Value) (s' : Shared) : Prop :=
  ∃ L' m' news', Fr g L' s'.heap m' ∧ News g L' s'.heap news' ∧ (∀ p ∈ own, p ∈ news') ∧ (Fr h₀ L s'.heap m → News h₀ L s'.heap (news' ++ news) → R (.ok (.ret v)) s')
theorem leaveO {h₀ g : Heap} {L L' : Addr} {m m' : Str → Option Value} {news own news' : List (Addr × Obj)} {R : Result → Shared → Prop} {v : Value} {s' : Shared} (F' : Fr g L' s'.heap m') (N' : News g L' s'.heap news') (hs : ∀ p ∈ own, p ∈ news')
    (k : Fr h₀ L s'.heap m → News h₀ L s'.heap (news' ++ news) → R (.ok (.ret v)) s') : LeaveO h₀ L m news own g R v s' := ⟨L', m', news', F', N', hs, k⟩
/-- what the def's ledger holds at its end, and all that was hidden from it -/
theorem news_back {h₀ g h h' : Heap} {L L' : Addr} {m' : Str → Option Value} {news own news' : List (Addr × Obj)} (N : News h₀ L h news) (hown : ∀ p ∈ own, p ∈ news) (hg : ∀ b o, h.get? b = some o → b ∉ own.map (·.1) → g.get? b = some o) (F' : Fr g L' h' m') (N' : News g L' h' news') (hs : ∀ p ∈ own, p ∈ news')
    (N₀ : News h₀ L h' news') : News h₀ L h' (news' ++ news) := by
  intro p hp
  rcases List.mem_append.mp hp with hp | hp
  · exact N₀ p hp
  · refine ⟨?_, (N p hp).2⟩
    by_cases hm : p.1 ∈ own.map (·.1)
    · obtain ⟨q, hq, e⟩ := List.mem_map.mp hm
      have h1 := (N q (hown q hq)).1
      rw [e, (N p hp).1] at h1
      have h2 := (N' q (hs q hq)).1
      rw [e] at h2
      rw [h2]; exact h1.symm
    · exact F'.keep _ _ (hg _ _ (N p hp).1 hm)
section
variable {prog : Program} {w : World} {A₀ A : Around} {s : Shared} {base h₀ g₀ : Heap} {outer : List Env} {L a : Addr} {m : Str → Option Value} {env0 : Env} {news own : List (Addr × Obj)} {K : Frag} {p : Program} {loose : List Str} {mean : ExcName → Option Value} {mg mb : Str → Option Value}
    {R : Result → Shared → Prop} {name qual : Str} {params : Arguments} {body : List Stmt} {scope : Scope} {dV kV doc pm cdv ct oc : Value} {an od : Option Addr} {osl : Array (Option Value)} {f : Addr} {args : Args} {binds : List (Str × Value)}
/-- a def entered with a written part of the ledger alone -/
theorem code_defO (B : Below A₀ base outer h₀) (F : Fr h₀ L s.heap m) (X₀ : K.In h₀) (N : News h₀ L s.heap news) (hown : ∀ p ∈ own, p ∈ news) (T : Top p loose mean mg mb h₀) (hA : A.frames = some (env0 :: outer)) (hF0 : env0.frame = some L) (hke : env0.scope.kind = .function)
    (ho : K.lookup f = some ⟨oc, od, .func (fnOf name qual params body scope dV kV doc pm an cdv ct), osl⟩) (hcd : codeIn K cdv qual = true) (hroom : A.depth < recursionLimit)
    (hbind : BindsTo s (fnOf name qual params body scope dV kV doc pm an cdv ct) args binds) (hloc : ∀ y ∈ binds, scope.names.lookup y.1 = some .local)
    (h : ∀ g L' h₁, Fr h₀ L g m → Fr g L' h₁ (fun y => binds.reverse.lookup y) → News g L' h₁ own → Below A base (env0 :: outer) g → K.In g → Top p loose mean mg mb g → (∀ b o, s.heap.get? b = some o → b ∉ own.map (·.1) → g.get? b = some o) →
      wpAny (model prog w) (A.deeper (envOf qual scope L' f cdv)) (execs body (envOf qual scope L' f cdv))
        (fun fl s' => LeaveO h₀ L m news own g R (match fl with | .ret v => v | _ => .none) s')
        (fun e s' => wpAny (model prog w) (A.deeper (envOf qual scope L' f cdv)) (leaving (envOf qual scope L' f cdv) e) (fun _ s'' => R (.error e) s'') (fun e' s'' => R (.error e') s'') s')
        { s with heap := h₁, toks := s.toks + binds.length })
    (hco : scope.isCoroutine = false) (hgen : scope.isGenerator = false) (hk : scope.kind = .function)
    (hcell : ∀ x ∈ scope.names, x.2 ≠ .cell) : codeAny (model prog w) A (.call (.ref f) args) R s := by
  have No : News h₀ L s.heap own := fun p hp => N p (hown p hp)
  obtain ⟨FG, BG, st, lv⟩ := groundX (R := R) B F No hA hF0 hke
  refine codeAny_call_def (fd := fnOf name qual params body scope dV kV doc pm an cdv ct) (body := body) (binds := binds) hroom ((X₀.keeps F.keep) _ _ ho) rfl (T.nolimit.keeps F.keep) (codeRec_of (X₀.keeps F.keep) hcd) rfl hbind hcell hloc (fun h₁ hns hk₁ => ?_) hco hgen hk
  have hg : ∀ b o, s.heap.get? b = some o → b ∉ own.map (·.1) → (hideAll s.heap (own.map (·.1))).get? b = some o := fun b o e n => hideAll_get _ e n
  refine wpAny_mono (h _ s.heap.objs.size h₁ FG ⟨hns, fun b o e => hk₁ b o (of_hideAll _ e), Nat.le_of_eq (hideAll_size _ _)⟩
    (fun p hp => ⟨hk₁ _ _ (No p hp).1, Nat.ne_of_lt (Heap.lt_size (No p hp).1), hideAll_none _ (List.mem_map_of_mem hp)⟩) BG (X₀.keeps st) (T.keeps st) hg) (fun fl s' hl => lv _ _ ?_) fun _ _ y => y
  obtain ⟨L', m', news', F', N', hs, k⟩ := hl
  exact ⟨L', m', news', F', N', fun F₀ N₀ => k F₀ (news_back N hown hg F' N' hs N₀)⟩
end
end Mine
theorem Mine.word16 : True := by (k_with "call ref" => (k_here; (with_reducible show wpAny _ _ (call (Value.ref 97) [Value.str (Mine.lw _) _, Value.int _ _, Value.bool _]) _ _ _); k_dflt (apply Mine.isagg_c; (case B => k_asm); (case F => k_asm); (case X => k_asm); (case N => k_asm); (case T => k_asm); (case hk => first | exact rfl | assumption); (case hi => first | assumption | decide); (case hdp => ktr_room); (case hu => ktr_units); k_whole); intro h' tk' F' N'; (try dsimp only); (try k_fold))); trivial
theorem Mine.word17 : True := by (k_with "enterO" => ((case hA => exact rfl); (case hF0 => exact rfl); (case hke => first | exact rfl | assumption); (case B => k_asm); (case F => k_asm); (case X₀ => k_asm); (case N => k_asm); (case hown => assumption); (case T => k_asm); (case ho => k_is); (case hcd => k_is); (case hroom => k_room); (case hbind => first | exact BindsTo.of_eq rfl | exact binds_K (by k_in) rfl (by k_is) rfl rfl rfl); (case hcell => decide); (case hloc => exact locs rfl); (case hco => exact rfl); (case hgen => exact rfl); (case hk => exact rfl); k_whole; intro g' L' h' FG' F' N' B' X' T' G'; clear G'; (try dsimp only); (try k_lift B'); (try k_fold))); trivial
theorem Mine.word18 : True := by (k_with "LeaveO" => (apply Mine.leaveO; (case F' => k_asm); (case N' => k_asm); (case hs => kcj_all); k_whole; intro kF kN; (try dsimp only [List.cons_append, List.nil_append] at kF kN); (try dsimp only))); trivial
namespace Mine
section
variable {w : World} {vw : Program} {lo : List Str} {mean : ExcName → Option Value} {mg mb : Str → Option Value} {dp un : Nat} {gd : Option (List Code)} {cn : Str} {cs : Scope} {a : Addr} {ccd : Value} {cl : List (Str × Addr)} {outer : List Env} {A₀ : Around} {base h₀ : Heap} {L : Addr} {m : Str → Option Value} {news : List (Addr × Obj)} {s : Shared} {Q E : Value → Shared → Prop}
variable (B : Below A₀ base outer h₀) (F : Fr h₀ L s.heap m) (X : (Mine.K w.params).In h₀) (N : News h₀ L s.heap news) (T : Top vw lo mean mg mb h₀) (hk : cs.kind = .function)
include B F X N T hk
theorem fold_w (hdp : dp + 3 < recursionLimit) (hu : un + 40 < cLine) {x : Str} {i : Nat} {t : Tok} (hf : foldT x = lw i) (ha : x.cps.all (· < 128) = true) (hx : x.length ≤ 12)
    (hret : ∀ t' h' tk', Fr h₀ L h' m → News h₀ L h' news → Q (.str (lw i) t') { s with heap := h', toks := tk' }) :
    wpAny (model prg w) (ktrTop dp un gd cn cs L a ccd cl outer) (call (.ref 491) [.str x t]) Q E s := fold_c B F X N T hk hdp hu ha hx (hf ▸ hret)
end
end Mine
theorem Mine.word19 : True := by (k_with "call ref" => (k_here; (with_reducible show wpAny _ _ (call (Value.ref 491) [Value.str _ _]) _ _ _); k_dflt (apply Mine.fold_w; (case hf => assumption); (case B => k_asm); (case F => k_asm); (case X => k_asm); (case N => k_asm); (case T => k_asm); (case hk => first | exact rfl | assumption); (case ha => assumption); (case hx => assumption); (case hdp => ktr_room); (case hu => ktr_units); k_whole); intro t' h' tk' F' N'; (try dsimp only); (try k_fold))); trivial
namespace Mine
/-- the objects of an argument, by its kind: [a literal; max(1, 2); 1 + Sum(a)] -/
inductive ArgShape : List (Addr × Obj) → Value → Bool → Prop
  | lit {x dx : Addr} {h : Int} {t : Tok} {v : Value} {n : Nat} : ArgShape [(x, instObj 174 dx), (dx, dictOf [⟨h, .str (Str.ofString "value") t, v⟩] n), (x, instObj 174 dx), (x, instObj 174 dx), (x, instObj 174 dx), (x, instObj 174 dx), (x, instObj 174 dx)] (.ref x) false
  | max {x dx la a1 d1 a2 d2 : Addr} {h1 h2 h3 h4 h5 h6 : Int} {t1 t2 t3 t4 t5 t6 t7 : Tok} {v1 v2 : Value} {n k n1 n2 : Nat} : ArgShape [(x, instObj 380 dx), (dx, dictOf [⟨h1, .str (Str.ofString "name") t1, .str (Str.ofString "max") t2⟩, ⟨h2, .str (Str.ofString "arguments") t3, .ref la⟩, ⟨h3, .str (Str.ofString "distinct") t4, .bool false⟩, ⟨h4, .str (Str.ofString "star") t5, .bool false⟩] n),
      (la, listOf #[.ref a1, .ref a2] k), (a1, instObj 174 d1), (d1, dictOf [⟨h5, .str (Str.ofString "value") t6, v1⟩] n1), (a2, instObj 174 d2), (d2, dictOf [⟨h6, .str (Str.ofString "value") t7, v2⟩] n2)] (.ref x) false
  | agg {x dx a1 d1 c dc la : Addr} {h1 h2 h3 h4 h5 h6 h7 h8 : Int} {t1 t2 t3 t4 t5 t6 t7 t8 t9 t10 : Tok} {v1 v2 : Value} {n n1 n2 k : Nat} : ArgShape [(x, instObj 252 dx), (dx, dictOf [⟨h1, .str (Str.ofString "op") t1, .str (Str.ofString "+") t2⟩, ⟨h2, .str (Str.ofString "left") t3, .ref a1⟩, ⟨h3, .str (Str.ofString "right") t4, .ref c⟩] n),
      (a1, instObj 174 d1), (d1, dictOf [⟨h4, .str (Str.ofString "value") t5, v1⟩] n1),
      (c, instObj 380 dc), (dc, dictOf [⟨h5, .str (Str.ofString "name") t6, .str (Str.ofString "Sum") t7⟩, ⟨h6, .str (Str.ofString "arguments") t8, .ref la⟩, ⟨h7, .str (Str.ofString "distinct") t9, .bool false⟩, ⟨h8, .str (Str.ofString "star") t10, .bool false⟩] n2), (la, listOf #[v2] k)] (.ref x) true
section
variable {w : World} {vw : Program} {lo : List Str} {mean : ExcName → Option Value} {mg mb : Str → Option Value} {dp un : Nat} {gd : Option (List Code)} {cn : Str} {cs : Scope} {a : Addr} {ccd : Value} {cl : List (Str × Addr)} {outer : List Env} {A₀ : Around} {base h₀ : Heap} {L : Addr} {m : Str → Option Value} {news : List (Addr × Obj)} {s : Shared} {Q E : Value → Shared → Prop}
variable (B : Below A₀ base outer h₀) (F : Fr h₀ L s.heap m) (X : (Mine.K w.params).In h₀) (N : News h₀ L s.heap news) (T : Top vw lo mean mg mb h₀) (hk : cs.kind = .function)
include B F X N T hk
theorem agg_lit (hdp : dp + 10 < recursionLimit) (hu : un + 80 < cLine) {x dx : Addr} {h : Int} {t : Tok} {v : Value} {n : Nat} (n1 : (x, instObj 174 dx) ∈ news) (n2 : (dx, dictOf [⟨h, .str (Str.ofString "value") t, v⟩] n) ∈ news)
    (hret : ∀ r k h' tk', Fr h₀ L h' m → News h₀ L h' ((r, listOf #[] k) :: news) → Q (.ref r) { s with heap := h', toks := tk' }) :
    wpAny (model prg w) (ktrTop dp un gd cn cs L a ccd cl outer) (call (.ref 512) [.ref x]) Q E s := by
  have hown : ∀ p ∈ [(x, instObj 174 dx), (dx, dictOf [⟨h, .str (Str.ofString "value") t, v⟩] n)], p ∈ news := by
    intro p hp
    rcases List.mem_cons.mp hp with rfl | hp
    · exact n1
    · rcases List.mem_cons.mp hp with rfl | hp
      · exact n2
      · cases hp
  refine wpAny_call ?_
  (apply Mine.code_defO (binds := [(Str.ofString "expr", .ref x)]); walk_at "enterO")
  k_steps
  all_goals exact hret _ _ _ _ (by assumption) (by walk_at "MNEWS")
end
section
variable {w : World} {vw : Program} {lo : List Str} {mean : ExcName → Option Value} {mg mb : Str → Option Value} {dp un : Nat} {gd : Option (List Code)} {cn : Str} {cs : Scope} {a : Addr} {ccd : Value} {cl : List (Str × Addr)} {outer : List Env} {A₀ : Around} {base h₀ : Heap} {L : Addr} {m : Str → Option Value} {news : List (Addr × Obj)} {s : Shared} {Q E : Value → Shared → Prop}
variable (B : Below A₀ base outer h₀) (F : Fr h₀ L s.heap m) (X : (Mine.K w.params).In h₀) (N : News h₀ L s.heap news) (T : Top vw lo mean mg mb h₀) (hk : cs.kind = .function)
include B F X N T hk
theorem agg_sum (hdp : dp + 10 < recursionLimit) (hu : un + 80 < cLine) {c dc la : Addr} {h1 h2 h3 h4 : Int} {t1 t2 t3 t4 t5 : Tok} {v1 : Value} {n k : Nat} (n1 : (c, instObj 380 dc) ∈ news) (n2 : (dc, dictOf [⟨h1, .str (Str.ofString "name") t1, .str (Str.ofString "Sum") t2⟩, ⟨h2, .str (Str.ofString "arguments") t3, .ref la⟩, ⟨h3, .str (Str.ofString "distinct") t4, .bool false⟩, ⟨h4, .str (Str.ofString "star") t5, .bool false⟩] n) ∈ news) (n3 : (la, listOf #[v1] k) ∈ news)
    (hret : ∀ r k h' tk', Fr h₀ L h' m → News h₀ L h' ((r, listOf #[.ref c] k) :: news) → Q (.ref r) { s with heap := h', toks := tk' }) :
    wpAny (model prg w) (ktrTop dp un gd cn cs L a ccd cl outer) (call (.ref 512) [.ref c]) Q E s := by
  have hf : foldT (Str.ofString "Sum") = lw 7 := by rw [lw_7]; with_unfolding_all decide +kernel
  have ha : (Str.ofString "Sum").cps.all (· < 128) = true := by with_unfolding_all decide +kernel
  have hx : (Str.ofString "Sum").length ≤ 12 := by with_unfolding_all decide +kernel
  have h7 : 7 < 12 := by decide
  have hown : ∀ p ∈ [(c, instObj 380 dc), (dc, dictOf [⟨h1, .str (Str.ofString "name") t1, .str (Str.ofString "Sum") t2⟩, ⟨h2, .str (Str.ofString "arguments") t3, .ref la⟩, ⟨h3, .str (Str.ofString "distinct") t4, .bool false⟩, ⟨h4, .str (Str.ofString "star") t5, .bool false⟩] n), (la, listOf #[v1] k)], p ∈ news := by
    intro p hp
    rcases List.mem_cons.mp hp with rfl | hp
    · exact n1
    · rcases List.mem_cons.mp hp with rfl | hp
      · exact n2
      · rcases List.mem_cons.mp hp with rfl | hp
        · exact n3
        · cases hp
  refine wpAny_call ?_
  (apply Mine.code_defO (binds := [(Str.ofString "expr", .ref c)]); walk_at "enterO")
  k_steps
  all_goals exact hret _ _ _ _ (by assumption) (by walk_at "MNEWS")
end
end Mine
theorem Mine.word20 : True := by (k_with "call ref" => (k_here; (with_reducible show wpAny _ _ (call (Value.ref 512) [Value.ref _]) _ _ _); k_dflt (first | (apply Mine.agg_lit; (case B => k_asm); (case F => k_asm); (case X => k_asm); (case N => k_asm); (case n1 => k_mem); (case n2 => k_mem); (case T => k_asm); (case hk => first | exact rfl | assumption); (case hdp => ktr_room); (case hu => ktr_units); k_whole) | (apply Mine.agg_sum; (case B => k_asm); (case F => k_asm); (case X => k_asm); (case N => k_asm); (case n1 => k_mem); (case n2 => k_mem); (case n3 => k_mem); (case T => k_asm); (case hk => first | exact rfl | assumption); (case hdp => ktr_room); (case hu => ktr_units); k_whole)); intro r' k' h' tk' F' N'; (try dsimp only); (try k_fold))); trivial
namespace Mine
section
variable {w : World} {vw : Program} {lo : List Str} {mean : ExcName → Option Value} {mg mb : Str → Option Value} {dp un : Nat} {gd : Option (List Code)} {cn : Str} {cs : Scope} {a : Addr} {ccd : Value} {cl : List (Str × Addr)} {outer : List Env} {A₀ : Around} {base h₀ : Heap} {L : Addr} {m : Str → Option Value} {news own : List (Addr × Obj)} {s : Shared} {Q E : Value → Shared → Prop}
variable (B : Below A₀ base outer h₀) (F : Fr h₀ L s.heap m) (X : (Mine.K w.params).In h₀) (N : News h₀ L s.heap news) (T : Top vw lo mean mg mb h₀) (hk : cs.kind = .function)
include B F X N T hk
theorem agg_c (hdp : dp + 12 < recursionLimit) (hu : un + 100 < cLine) {v : Value} {f : Bool} (hs : ArgShape own v f) (hown : ∀ p ∈ own, p ∈ news)
    (h0 : f = false → ∀ r k h' tk', Fr h₀ L h' m → News h₀ L h' ((r, listOf #[] k) :: news) → Q (.ref r) { s with heap := h', toks := tk' })
    (h1 : f = true → ∀ c r k h' tk', Fr h₀ L h' m → News h₀ L h' ((r, listOf #[c] k) :: news) → Q (.ref r) { s with heap := h', toks := tk' }) :
    wpAny (model prg w) (ktrTop dp un gd cn cs L a ccd cl outer) (call (.ref 512) [v]) Q E s := by
  cases hs with
  | @lit x dx h t v n =>
    have hret := h0 rfl
    clear h0 h1
    exact agg_lit B F X N T hk (by omega) (by omega) (hown _ (.head _)) (hown _ (.tail _ (.head _))) hret
  | @max x dx la a1 d1 a2 d2 =>
    have hret := h0 rfl
    clear h0 h1
    have hf : foldT (Str.ofString "max") = lw 3 := by rw [lw_3]; with_unfolding_all decide +kernel
    have ha : (Str.ofString "max").cps.all (· < 128) = true := by with_unfolding_all decide +kernel
    have hx : (Str.ofString "max").length ≤ 12 := by with_unfolding_all decide +kernel
    have h3 : 3 < 12 := by decide
    refine wpAny_call ?_
    (apply Mine.code_defO (binds := [(Str.ofString "expr", .ref x)]); walk_at "enterO")
    k_steps
    all_goals exact hret _ _ _ _ (by assumption) (by walk_at "MNEWS")
  | @agg x dx a1 d1 c dc la =>
    have hret := h1 rfl
    clear h0 h1
    have hf : foldT (Str.ofString "Sum") = lw 7 := by rw [lw_7]; with_unfolding_all decide +kernel
    have ha : (Str.ofString "Sum").cps.all (· < 128) = true := by with_unfolding_all decide +kernel
    have hx : (Str.ofString "Sum").length ≤ 12 := by with_unfolding_all decide +kernel
    have h7 : 7 < 12 := by decide
    refine wpAny_call ?_
    (apply Mine.code_defO (binds := [(Str.ofString "expr", .ref x)]); walk_at "enterO")
    k_steps
    all_goals exact hret _ _ _ _ _ (by assumption) (by walk_at "MNEWS")
end
end Mine
namespace Mine
/-- a def with a try entered with a written part of the ledger alone: how it is left -/
def LeaveSO (fs : List Addr) (A₀ : Around) (base : Heap) (outer : List Env) (K : Frag) (p : Program) (loose : List Str) (mean : ExcName → Option Value) (mg mb : Str → Option Value) (h₀ : Heap) (L : Addr) (m : Str → Option Value) (news own : List (Addr × Obj)) (g : Heap) (R : Result → Shared → Prop) (v : Value) (s' : Shared) : Prop :=
  ∃ g' L' m' news', KtsTurn fs g g' ∧ Fr g' L' s'.heap m' ∧ News g' L' s'.heap news' ∧ (∀ p ∈ own, p ∈ news') ∧ ∀ h₀', KtsTurn (outer.filterMap (·.frame)) h₀ h₀' → Fr h₀' L s'.heap m → News h₀' L s'.heap (news' ++ news) → Below A₀ base outer h₀' → K.In h₀' → Top p loose mean mg mb h₀' →
    KtsDicts (outer.filterMap (·.frame)) h₀' → R (.ok (.ret v)) s'
theorem leaveSO {fs : List Addr} {A₀ : Around} {base : Heap} {outer : List Env} {K : Frag} {p : Program} {loose : List Str} {mean : ExcName → Option Value} {mg mb : Str → Option Value} {h₀ g g' : Heap} {L L' : Addr} {m m' : Str → Option Value} {news own news' : List (Addr × Obj)} {R : Result → Shared → Prop} {v : Value} {s' : Shared}
    (F' : Fr g' L' s'.heap m') (N' : News g' L' s'.heap news') (T : KtsTurn fs g g') (hs : ∀ p ∈ own, p ∈ news')
    (k : ∀ h₀', KtsTurn (outer.filterMap (·.frame)) h₀ h₀' → Fr h₀' L s'.heap m → News h₀' L s'.heap (news' ++ news) → Below A₀ base outer h₀' → K.In h₀' → Top p loose mean mg mb h₀' → KtsDicts (outer.filterMap (·.frame)) h₀' → R (.ok (.ret v)) s') :
    LeaveSO fs A₀ base outer K p loose mean mg mb h₀ L m news own g R v s' := ⟨g', L', m', news', T, F', N', hs, k⟩
section
variable {prog : Program} {w : World} {A₀ A : Around} {s : Shared} {base h₀ : Heap} {outer : List Env} {L a : Addr} {m : Str → Option Value} {env0 : Env} {news own : List (Addr × Obj)} {K : Frag} {p : Program} {loose : List Str} {mean : ExcName → Option Value} {mg mb : Str → Option Value}
    {R : Result → Shared → Prop} {name qual : Str} {params : Arguments} {body : List Stmt} {scope : Scope} {dV kV doc pm cdv ct oc : Value} {an od : Option Addr} {osl : Array (Option Value)} {f : Addr} {args : Args} {binds : List (Str × Value)}
theorem kts_memX {env0 : Env} {b : Addr} (hF0 : env0.frame = some L) (hm : b ∈ (env0 :: outer).filterMap (·.frame)) : b = L ∨ b ∈ outer.filterMap (·.frame) := by
  obtain ⟨env, he, hf⟩ := List.mem_filterMap.mp hm
  rcases List.mem_cons.mp he with rfl | he
  · rw [hF0] at hf; exact .inl (Option.some.inj hf).symm
  · exact .inr (List.mem_filterMap.mpr ⟨env, he, hf⟩)
theorem kts_enterX (B : Below A₀ base outer h₀) (F : Fr h₀ L s.heap m) (N : News h₀ L s.heap news) (hA : A.frames = some (env0 :: outer)) (hF0 : env0.frame = some L) (hck : env0.scope.kind = .function) :
    ∃ oL es ep, (hideAll s.heap (news.map (·.1))).get? L = some oL ∧ oL.data = .dict es ep ∧ (∀ h', h'.get? L = some oL → Heap.Ns h' L m) ∧ (∀ (sl : Array (Option Value)) h', h'.get? L = some { oL with slots := sl } → Heap.Ns h' L m) ∧
      h₀.StaysIn (hideAll s.heap (news.map (·.1))) ∧ Below A base (env0 :: outer) (hideAll s.heap (news.map (·.1))) := by
  have nm : ∀ b o, h₀.get? b = some o → b ∉ news.map (·.1) := fun b o e q => by
    obtain ⟨p, hp, rfl⟩ := List.mem_map.mp q
    rw [(N p hp).2.2] at e; cases e
  have st : h₀.StaysIn (hideAll s.heap (news.map (·.1))) := fun b o e => hideAll_get _ (F.keep b o e) (nm b o e)
  obtain ⟨oL, es, ep, hL, hLd, hLk, hLf⟩ := F.ns
  have nL : L ∉ news.map (·.1) := fun q => by
    obtain ⟨p, hp, e⟩ := List.mem_map.mp q
    exact (N p hp).2.1 e
  obtain ⟨_, BG, _, _⟩ := groundX (R := fun _ _ => True) B F N hA hF0 hck
  exact ⟨oL, es, ep, hideAll_get _ hL nL, hLd, fun h' e => ⟨oL, es, ep, e, hLd, hLk, hLf⟩, fun sl h' e => ⟨_, es, ep, e, hLd, hLk, hLf⟩, st, BG⟩
theorem code_defSO (B : Below A₀ base outer h₀) (F : Fr h₀ L s.heap m) (X₀ : K.In h₀) (N : News h₀ L s.heap news) (hown : ∀ p ∈ own, p ∈ news) (T : Top p loose mean mg mb h₀) (XB : K.In base) (TB : Top p loose mean mg mb base) (D : KtsDicts (outer.filterMap (·.frame)) h₀)
    (hA : A.frames = some (env0 :: outer)) (hF0 : env0.frame = some L) (hck : env0.scope.kind = .function)
    (ho : K.lookup f = some ⟨oc, od, .func (fnOf name qual params body scope dV kV doc pm an cdv ct), osl⟩) (hcd : codeIn K cdv qual = true) (hroom : A.depth < recursionLimit)
    (hbind : BindsTo s (fnOf name qual params body scope dV kV doc pm an cdv ct) args binds) (hloc : ∀ y ∈ binds, scope.names.lookup y.1 = some .local)
    (h : ∀ g L' h₁, Fr h₀ L g m → Fr g L' h₁ (fun y => binds.reverse.lookup y) → News g L' h₁ own → Below A base (env0 :: outer) g → K.In g → Top p loose mean mg mb g → KtsDicts ((env0 :: outer).filterMap (·.frame)) g →
      wpAny (model prog w) (A.deeper (envOf qual scope L' f cdv)) (execs body (envOf qual scope L' f cdv))
        (fun fl s' => LeaveSO ((env0 :: outer).filterMap (·.frame)) A₀ base outer K p loose mean mg mb h₀ L m news own g R (match fl with | .ret v => v | _ => .none) s')
        (fun e s' => wpAny (model prog w) (A.deeper (envOf qual scope L' f cdv)) (leaving (envOf qual scope L' f cdv) e) (fun _ s'' => R (.error e) s'') (fun e' s'' => R (.error e') s'') s')
        { s with heap := h₁, toks := s.toks + binds.length })
    (hco : scope.isCoroutine = false) (hgen : scope.isGenerator = false) (hk : scope.kind = .function)
    (hcell : ∀ x ∈ scope.names, x.2 ≠ .cell) : codeAny (model prog w) A (.call (.ref f) args) R s := by
  have X := X₀.keeps F.keep
  have No : News h₀ L s.heap own := fun p hp => N p (hown p hp)
  refine codeAny_call_def (fd := fnOf name qual params body scope dV kV doc pm an cdv ct) (body := body) (binds := binds) hroom (X _ _ ho) rfl (T.nolimit.keeps F.keep) (codeRec_of X hcd) rfl hbind hcell hloc (fun h₁ hns hk₁ => ?_) hco hgen hk
  obtain ⟨oL, es, ep, hLg, hLd, hN, hNs, st, B₂⟩ := kts_enterX B F No hA hF0 hck
  refine wpAny_mono (h _ s.heap.objs.size h₁ ⟨hN _ hLg, st, F.above⟩ ⟨hns, fun b o e => hk₁ b o (of_hideAll _ e), Nat.le_of_eq (hideAll_size _ _)⟩
    (fun p hp => ⟨hk₁ _ _ (No p hp).1, Nat.ne_of_lt (Heap.lt_size (No p hp).1), hideAll_none _ (List.mem_map_of_mem hp)⟩) B₂ (X₀.keeps st) (T.keeps st) (fun b hb => by
      rcases kts_memX hF0 hb with rfl | hb
      · exact ⟨oL, es, ep, hLg, hLd⟩
      · obtain ⟨o, es', n', ho', hd'⟩ := D b hb
        exact ⟨o, es', n', st b o ho', hd'⟩)) (fun fl s' hl => ?_) fun _ _ y => y
  have nL₀ : h₀.get? L = none := kts_self F
  obtain ⟨g', L', m', news', T', F', N', hs', k⟩ := hl
  obtain ⟨sl, hs⟩ := T'.up hLg
  obtain ⟨T₁, S₁⟩ := kts_turn_at (h := s'.heap) (fs := outer.filterMap (·.frame)) (g := h₀)
    (fun b hb => by
      obtain ⟨_, o, ho', _⟩ := B.frames.mem hb
      exact ⟨o, ho'⟩)
    (fun b o e nmem => F'.keep b o (T'.other b o (st b o e) (fun q => by
      rcases kts_memX hF0 q with z | z
      · rw [z, nL₀] at e
        cases e
      · exact nmem z)))
    (fun b o e hm => by
      obtain ⟨sl', hs'⟩ := T'.up (st b o e)
      exact ⟨sl', F'.keep _ _ hs'⟩)
  have B₃ : Below A₀ base outer (ktsHeap s'.heap (outer.filterMap (·.frame)) h₀) := ⟨B.stack, fun b o e => T₁.other b o (B.stays b o e) (fun hm => by
    rw [(B.frames.mem hm).1] at e
    cases e), B.frames.of_keeps fun b o e _ => by
    obtain ⟨sl', hs'⟩ := T₁.up e
    exact ⟨_, hs', rfl⟩⟩
  have N₃ : News (ktsHeap s'.heap (outer.filterMap (·.frame)) h₀) L s'.heap news' := fun p hp => by
    refine ⟨(N' p hp).1, fun q => ?_, ?_⟩
    · have := (N' p hp).2.2; rw [q, hs] at this; cases this
    · refine T₁.none_ _ ?_
      cases q : h₀.get? p.1 with
      | none => rfl
      | some o =>
        obtain ⟨sl', hs'⟩ := T'.up (st _ _ q)
        have := (N' p hp).2.2
        rw [hs'] at this
        cases this
  refine k _ T₁ ⟨hNs sl _ (F'.keep _ _ hs), S₁, by rw [T₁.size]; exact F.above⟩ (fun p hp => ?_) B₃ (XB.keeps B₃.stays) (TB.keeps B₃.stays) (D.turn T₁)
  rcases List.mem_append.mp hp with hp | hp
  · exact N₃ p hp
  · refine ⟨?_, (N p hp).2.1, T₁.none_ _ (N p hp).2.2⟩
    by_cases hm : p.1 ∈ own.map (·.1)
    · obtain ⟨q, hq, e⟩ := List.mem_map.mp hm
      have h1 := (N q (hown q hq)).1
      rw [e, (N p hp).1] at h1
      have h2 := (N' q (hs' q hq)).1
      rw [e] at h2
      rw [h2]; exact h1.symm
    · refine F'.keep _ _ (T'.other _ _ (hideAll_get _ (N p hp).1 hm) fun q => ?_)
      rcases kts_memX hF0 q with z | z
      · exact (N p hp).2.1 z
      · obtain ⟨_, o, ho', _⟩ := B.frames.mem z
        rw [(N p hp).2.2] at ho'
        cases ho'
end
end Mine
theorem Mine.word21 : True := by (k_with "LeaveSO" => (k_dflt (apply Mine.leaveSO; (case F' => k_asm); (case N' => k_asm); (case T => first | assumption | exact KtsTurn.refl); (case hs => kcj_all); k_whole); intro kg kT kF kN kB kX₀ kP kD; (try dsimp only [List.cons_append, List.nil_append] at kF kN); (try dsimp only))); trivial
theorem Mine.word22 : True := by (k_with "enterSO" => ((case hA => exact rfl); (case hF0 => exact rfl); (case hck => first | exact rfl | assumption); (case F => k_asm); (case B => k_asm); (case XB => assumption); (case TB => assumption); (case D => assumption); (case X₀ => k_asm); (case N => k_asm); (case hown => assumption); (case T => k_asm); (case ho => k_is); (case hcd => k_is); (case hroom => k_room); (case hbind => first | exact BindsTo.of_eq rfl | exact binds_K (by k_in) rfl (by k_is) rfl rfl rfl); (case hloc => exact locs rfl); (case hco => exact rfl); (case hgen => exact rfl); (case hk => exact rfl); (case hcell => decide); k_whole; intro g' L' h' FG' F' N' B' X' T' D'; (try dsimp only); (try k_lift B'); (try k_fold))); trivial
namespace Mine
theorem topNotIn_K {w : World} {prog : Program} {A : Around} {K : Frag} {a : Addr} {es : Array DictEntry} {n : Nat} {s : Shared} {h₀ : Heap} {L : Addr} {m : Str → Option Value} {x : Str} {t : Tok} {E : Value → Shared → Prop} {r : Option Value} {Q : Value → Shared → Prop} (F : Fr h₀ L s.heap m) (X₀ : K.In h₀) (hl : K.lookup a = some ⟨.type "dict", none, .dict es n, #[]⟩) (hk : KeysLit w.params es.toList) (e : nsIn K a x = some r) (lo : (a == sysModules) = false)
    (h : Q (.bool (!r.isSome)) { s with toks := s.toks + 1 }) : wpAny (model prog w) A (compareOp .NotIn (.str x t) (.ref a)) Q E s :=
  wpAny_notIn_of (strKind_is prog w x t) lo (mapOf_K (prog := prog) (X₀.keeps F.keep) hl hk) (by rw [find_K hl e]; exact h)
end Mine
theorem Mine.word23 : True := by (k_with "compareOp NotIn str ref" => (k_here; k_dflt (apply Mine.topNotIn_K; (case F => k_asm); (case X₀ => k_asm); (case hl => k_is); (case hk => k_keys); (case e => k_is); (case lo => decide)))); trivial
namespace Mine
section
variable {w : World} {h₀ : Heap} {L : Addr} {m : Str → Option Value} {s : Shared} {Q E : Value → Shared → Prop}
variable (F : Fr h₀ L s.heap m) (X : (Mine.K w.params).In h₀)
include F X
theorem in_scl_t {A : Around} {i : Nat} {t : Tok} {b : Addr × Int × Option Int} (hi : i < 12) (h : sclAt i = some b) (hq : Q (.bool false) { s with toks := s.toks + 1 }) : wpAny (model prg w) A (compareOp .NotIn (.str (lw i) t) (.ref 47)) Q E s := by
  refine twelve (P := fun i => ∀ b, sclAt i = some b → wpAny (model prg w) A (compareOp .NotIn (.str (lw i) t) (.ref 47)) Q E s) ?_ ?_ ?_ ?_ ?_ ?_ ?_ ?_ ?_ ?_ ?_ ?_ hi b h <;> intro b h <;> first | (cases h; done) | (simp only [lw_0, lw_1, lw_2, lw_3, lw_4, lw_5, lw_6, lw_7, lw_8, lw_9, lw_10, lw_11]; k_steps; exact hq)
theorem in_scl_f {A : Around} {i : Nat} {t : Tok} (hi : i < 12) (h : sclAt i = none) (hq : Q (.bool true) { s with toks := s.toks + 1 }) : wpAny (model prg w) A (compareOp .NotIn (.str (lw i) t) (.ref 47)) Q E s := by
  refine twelve (P := fun i => sclAt i = none → wpAny (model prg w) A (compareOp .NotIn (.str (lw i) t) (.ref 47)) Q E s) ?_ ?_ ?_ ?_ ?_ ?_ ?_ ?_ ?_ ?_ ?_ ?_ hi h <;> intro h <;> first | (cases h; done) | (simp only [lw_0, lw_1, lw_2, lw_3, lw_4, lw_5, lw_6, lw_7, lw_8, lw_9, lw_10, lw_11]; k_steps; exact hq)
theorem get_scl {A : Around} {i : Nat} {t : Tok} {b : Addr × Int × Option Int} {p1 p2 : Pos} (hi : i < 12) (h : sclAt i = some b) (hq : Q (.ref b.1) { s with toks := s.toks + 1 }) : wpAny (model prg w) A (subscriptTail (.Name (Str.ofString "SCALARS") p1) (.Name (Str.ofString "word") p2) (.ref 47) (.str (lw i) t)) Q E s := by
  refine twelve (P := fun i => ∀ b, sclAt i = some b → Q (.ref b.1) { s with toks := s.toks + 1 } → wpAny (model prg w) A (subscriptTail (.Name (Str.ofString "SCALARS") p1) (.Name (Str.ofString "word") p2) (.ref 47) (.str (lw i) t)) Q E s) ?_ ?_ ?_ ?_ ?_ ?_ ?_ ?_ ?_ ?_ ?_ ?_ hi b h hq <;> intro b h hq <;> first | (cases h; done) | (cases h; simp only [lw_0, lw_1, lw_2, lw_3, lw_4, lw_5, lw_6, lw_7, lw_8, lw_9, lw_10, lw_11]; k_steps; exact hq)
omit F in
theorem tup_scl {i : Nat} {b : Addr × Int × Option Int} (hi : i < 12) (h : sclAt i = some b) : ∃ t1 t2, IsTup h₀ b.1 #[.int b.2.1 t1, boundV t2 b.2.2] := by
  refine twelve (P := fun i => ∀ b, sclAt i = some b → ∃ t1 t2, IsTup h₀ b.1 #[.int b.2.1 t1, boundV t2 b.2.2]) ?_ ?_ ?_ ?_ ?_ ?_ ?_ ?_ ?_ ?_ ?_ ?_ hi b h <;> intro b h <;> first | (cases h; done) | (cases h; first | exact ⟨_, 0, _, X _ _ (by k_is), rfl, _, rfl⟩ | exact ⟨_, _, _, X _ _ (by k_is), rfl, _, rfl⟩)
end
def sclB (i : Nat) (n : Int) : Bool := match sclAt i with
  | some b => fitsB n b.2.1 b.2.2
  | none => false
section
variable {w : World} {vw : Program} {lo : List Str} {mean : ExcName → Option Value} {mg mb : Str → Option Value} {dp un : Nat} {gd : Option (List Code)} {cn : Str} {cs : Scope} {a : Addr} {ccd : Value} {cl : List (Str × Addr)} {outer : List Env} {A₀ : Around} {base h₀ : Heap} {L : Addr} {m : Str → Option Value} {news : List (Addr × Obj)} {s : Shared} {Q E : Value → Shared → Prop}
variable (B : Below A₀ base outer h₀) (F : Fr h₀ L s.heap m) (X : (Mine.K w.params).In h₀) (N : News h₀ L s.heap news) (T : Top vw lo mean mg mb h₀) (hk : cs.kind = .function)
include B F X N T hk
theorem isagg_b (hdp : dp + 6 < recursionLimit) (hu : un + 60 < cLine) {many : Int} {t t1 : Tok} {st r : Bool} {i : Nat} (hA : isAgg i many st = r) (hi : i < 12)
    (hret : ∀ h' tk', Fr h₀ L h' m → News h₀ L h' news → Q (.bool r) { s with heap := h', toks := tk' }) :
    wpAny (model prg w) (ktrTop dp un gd cn cs L a ccd cl outer) (call (.ref 97) [.str (lw i) t, .int many t1, .bool st]) Q E s := isagg_c B F X N T hk hdp hu hi (hA ▸ hret)
end
end Mine
theorem Mine.word24 : True := by (k_with "compareOp NotIn str ref" => (k_here; (with_reducible show wpAny _ _ (compareOp CmpOp.NotIn (Value.str (Mine.lw _) _) (Value.ref 47)) _ _ _); first | (apply Mine.in_scl_t; (case F => k_asm); (case X => k_asm); (case hi => assumption); (case h => assumption); k_whole) | (apply Mine.in_scl_f; (case F => k_asm); (case X => k_asm); (case hi => assumption); (case h => assumption); k_whole))); trivial
theorem Mine.word25 : True := by (k_with "subscriptTail" => (k_here; (with_reducible show wpAny _ _ (subscriptTail _ _ (Value.ref 47) (Value.str (Mine.lw _) _)) _ _ _); (apply Mine.get_scl; (case F => k_asm); (case X => k_asm); (case hi => assumption); (case h => assumption); k_whole))); trivial
theorem Mine.word26 : True := by (k_with "call ref" => (k_here; (with_reducible show wpAny _ _ (call (Value.ref 97) [Value.str (Mine.lw _) _, Value.int _ _, Value.bool _]) _ _ _); k_dflt (apply Mine.isagg_b; (case hA => assumption); (case B => k_asm); (case F => k_asm); (case X => k_asm); (case N => k_asm); (case T => k_asm); (case hk => first | exact rfl | assumption); (case hi => first | assumption | decide); (case hdp => ktr_room); (case hu => ktr_units); k_whole); intro h' tk' F' N'; (try dsimp only); (try k_fold))); trivial
namespace Mine
section
variable {w : World} {vw : Program} {lo : List Str} {mean : ExcName → Option Value} {mg mb : Str → Option Value} {dp un : Nat} {gd : Option (List Code)} {cn : Str} {cs : Scope} {a : Addr} {ccd : Value} {cl : List (Str × Addr)} {outer : List Env} {A₀ : Around} {base h₀ : Heap} {L : Addr} {m : Str → Option Value} {news : List (Addr × Obj)} {s : Shared} {Q E : Value → Shared → Prop}
variable (B : Below A₀ base outer h₀) (F : Fr h₀ L s.heap m) (X : (Mine.K w.params).In h₀) (N : News h₀ L s.heap news) (T : Top vw lo mean mg mb h₀) (hk : cs.kind = .function)
include B F X N T hk
/-- check_call lets a name that gathers -/
theorem check_agg (hdp : dp + 12 < recursionLimit) (hu : un + 100 < cLine) {i : Nat} (hi : i < 12) {t t1 : Tok} {many : Int} {st : Bool} (hA : isAgg i many st = true)
    (hret : ∀ h' tk', Fr h₀ L h' m → News h₀ L h' news → Q .none { s with heap := h', toks := tk' }) :
    wpAny (model prg w) (ktrTop dp un gd cn cs L a ccd cl outer) (call (.ref 105) [.str (wd i) t, .int many t1, .bool st]) Q E s := by
  have hl := lower_wd hi
  have hn := len_wd hi
  have hl2 := lower_lw hi
  have hn2 := len_lw hi
  refine wpAny_call ?_
  (apply code_def (binds := [(Str.ofString "name", .str (wd i) t), (Str.ofString "many", .int many t1), (Str.ofString "star", .bool st)]); walk_at "enter")
  k_steps
  all_goals exact hret _ _ (by assumption) (by assumption)
/-- a plain one -/
theorem check_scl (hdp : dp + 12 < recursionLimit) (hu : un + 100 < cLine) {i : Nat} (hi : i < 12) {t t1 : Tok} {many : Int} (hA : isAgg i many false = false) {b : Addr × Int × Option Int} (hS : sclAt i = some b) (hf : fitsB many b.2.1 b.2.2 = true)
    (hret : ∀ h' tk', Fr h₀ L h' m → News h₀ L h' news → Q .none { s with heap := h', toks := tk' }) :
    wpAny (model prg w) (ktrTop dp un gd cn cs L a ccd cl outer) (call (.ref 105) [.str (wd i) t, .int many t1, .bool false]) Q E s := by
  have hl := lower_wd hi
  have hn := len_wd hi
  have hl2 := lower_lw hi
  have hn2 := len_lw hi
  refine wpAny_call ?_
  (apply code_def (binds := [(Str.ofString "name", .str (wd i) t), (Str.ofString "many", .int many t1), (Str.ofString "star", .bool false)]); walk_at "enter")
  obtain ⟨t1, t2, hT⟩ := tup_scl (by assumption) hi hS
  k_steps
  all_goals exact hret _ _ (by assumption) (by assumption)
end
end Mine
theorem Mine.word27 : True := by (k_with "call ref" => (k_here; (with_reducible show wpAny _ _ (call (Value.ref 105) [Value.str (Mine.wd _) _, Value.int _ _, Value.bool _]) _ _ _); k_dflt (first | (apply Mine.check_agg; (case hA => assumption); (case B => k_asm); (case F => k_asm); (case X => k_asm); (case N => k_asm); (case T => k_asm); (case hk => first | exact rfl | assumption); (case hi => first | assumption | decide); (case hdp => ktr_room); (case hu => ktr_units); k_whole) | (apply Mine.check_scl; (case hA => assumption); (case hS => assumption); (case hf => assumption); (case B => k_asm); (case F => k_asm); (case X => k_asm); (case N => k_asm); (case T => k_asm); (case hk => first | exact rfl | assumption); (case hi => first | assumption | decide); (case hdp => ktr_room); (case hu => ktr_units); k_whole)); intro h' tk' F' N'; (try dsimp only); (try k_fold))); trivial
namespace Mine
theorem own3 {news : List (Addr × Obj)} {a b c : Addr × Obj} (h1 : a ∈ news) (h2 : b ∈ news) (h3 : c ∈ news) : ∀ p ∈ [a, b, c], p ∈ news := by
  intro p hp
  rcases List.mem_cons.mp hp with rfl | hp
  · exact h1
  · rcases List.mem_cons.mp hp with rfl | hp
    · exact h2
    · rcases List.mem_cons.mp hp with rfl | hp
      · exact h3
      · cases hp
section
variable {w : World} {vw : Program} {lo : List Str} {mean : ExcName → Option Value} {mg mb : Str → Option Value} {dp un : Nat} {gd : Option (List Code)} {cn : Str} {cs : Scope} {a : Addr} {ccd : Value} {cl : List (Str × Addr)} {outer : List Env} {A₀ : Around} {base h₀ : Heap} {L : Addr} {m : Str → Option Value} {news : List (Addr × Obj)} {s : Shared} {Q E : Value → Shared → Prop}
variable (B : Below A₀ base outer h₀) (F : Fr h₀ L s.heap m) (X : (Mine.K w.params).In h₀) (N : News h₀ L s.heap news) (T : Top vw lo mean mg mb h₀) (hk : cs.kind = .function)
include B F X N T hk
theorem fits_s (hdp : dp + 3 < recursionLimit) (hu : un + 30 < cLine) {many : Int} {t : Tok} {i : Nat} {b : Addr × Int × Option Int} {r : Bool} (hS : sclAt i = some b) (hi : i < 12) (hr : fitsB many b.2.1 b.2.2 = r)
    (hret : ∀ h' tk', Fr h₀ L h' m → News h₀ L h' news → Q (.bool r) { s with heap := h', toks := tk' }) :
    wpAny (model prg w) (ktrTop dp un gd cn cs L a ccd cl outer) (call (.ref 89) [.ref b.1, .int many t]) Q E s := by
  obtain ⟨t1, t2, hT⟩ := tup_scl X hi hS
  exact fits_c B F X N T hk hdp hu hT (hr ▸ hret)
end
end Mine
theorem Mine.word28 : True := by (k_with "call ref" => (k_here; (with_reducible show wpAny _ _ (call (Value.ref 89) [Value.ref _, Value.int _ _]) _ _ _); k_dflt (apply Mine.fits_s; (case hS => assumption); (case hr => assumption); (case B => k_asm); (case F => k_asm); (case X => k_asm); (case N => k_asm); (case T => k_asm); (case hk => first | exact rfl | assumption); (case hi => assumption); (case hdp => ktr_room); (case hu => ktr_units); k_whole); intro h' tk' F' N'; (try dsimp only); (try k_fold))); trivial
namespace Mine
section
variable {w : World} {vw : Program} {lo : List Str} {mean : ExcName → Option Value} {mg mb : Str → Option Value} {dp un : Nat} {gd : Option (List Code)} {cn : Str} {cs : Scope} {a : Addr} {ccd : Value} {cl : List (Str × Addr)} {outer : List Env} {A₀ : Around} {base h₀ : Heap} {L : Addr} {m : Str → Option Value} {news : List (Addr × Obj)} {s : Shared} {Q E : Value → Shared → Prop}
variable (B : Below A₀ base outer h₀) (F : Fr h₀ L s.heap m) (X : (Mine.K w.params).In h₀) (N : News h₀ L s.heap news) (T : Top vw lo mean mg mb h₀) (hk : cs.kind = .function)
variable (XB : (Mine.K w.params).In base) (TB : Top vw lo mean mg mb base) (D : KtsDicts (outer.filterMap (·.frame)) h₀)
include B F X N T hk XB TB D
/-- a call with a star by a name that is not count -/
theorem islet_star (hdp : dp + 30 < 600) (hu : un + 300 < 5000) {i : Nat} (hi : i < 12) {x dx la : Addr} {h1 h2 h3 h4 : Int} {t1 t2 t3 t4 t5 : Tok} {its : Array Value} {n k : Nat} {d : Bool}
    (n1 : (x, instObj 380 dx) ∈ news) (n2 : (dx, dictOf [⟨h1, .str (Str.ofString "name") t1, .str (wd i) t2⟩, ⟨h2, .str (Str.ofString "arguments") t3, .ref la⟩, ⟨h3, .str (Str.ofString "distinct") t4, .bool d⟩, ⟨h4, .str (Str.ofString "star") t5, .bool true⟩] n) ∈ news) (n3 : (la, listOf its k) ∈ news)
    (hA : isAgg i (its.size : Int) true = false) (hz : its.size < 9)
    (hret : ∀ kg h' tk', KtsTurn (outer.filterMap (·.frame)) h₀ kg → Fr kg L h' m → News kg L h' news → Below A₀ base outer kg → (Mine.K w.params).In kg → Top vw lo mean mg mb kg → KtsDicts (outer.filterMap (·.frame)) kg → Q (.bool false) { s with heap := h', toks := tk' }) :
    wpAny (model prg w) (ktrTop dp un gd cn cs L a ccd cl outer) (call (.ref 589) [.ref x]) Q E s := by
  have hl := lower_wd hi
  have hn := len_wd hi
  have hl2 := lower_lw hi
  have hn2 := len_lw hi
  have hown := own3 n1 n2 n3
  clear n1 n2 n3
  cases hG : aggAt i with
  | none =>
    refine wpAny_call ?_
    (apply Mine.code_defSO (binds := [(Str.ofString "expr", .ref x)]); walk_at "enterSO")
    k_steps
    all_goals ((apply Mine.retS hret; walk_at "retS"); rfl)
  | some b =>
    refine wpAny_call ?_
    (apply Mine.code_defSO (binds := [(Str.ofString "expr", .ref x)]); walk_at "enterSO")
    k_steps
    all_goals ((apply Mine.retS hret; walk_at "retS"); rfl)
/-- a call by a name that does not gather so many arguments -/
theorem islet_plain (hdp : dp + 30 < 600) (hu : un + 300 < 5000) {i : Nat} (hi : i < 12) {x dx la : Addr} {h1 h2 h3 h4 : Int} {t1 t2 t3 t4 t5 : Tok} {its : Array Value} {n k : Nat} {d : Bool}
    (n1 : (x, instObj 380 dx) ∈ news) (n2 : (dx, dictOf [⟨h1, .str (Str.ofString "name") t1, .str (wd i) t2⟩, ⟨h2, .str (Str.ofString "arguments") t3, .ref la⟩, ⟨h3, .str (Str.ofString "distinct") t4, .bool d⟩, ⟨h4, .str (Str.ofString "star") t5, .bool false⟩] n) ∈ news) (n3 : (la, listOf its k) ∈ news)
    (hA : isAgg i (its.size : Int) false = false) (hz : its.size < 9)
    (hret : ∀ kg h' tk', KtsTurn (outer.filterMap (·.frame)) h₀ kg → Fr kg L h' m → News kg L h' news → Below A₀ base outer kg → (Mine.K w.params).In kg → Top vw lo mean mg mb kg → KtsDicts (outer.filterMap (·.frame)) kg → Q (.bool (sclB i its.size && !d)) { s with heap := h', toks := tk' }) :
    wpAny (model prg w) (ktrTop dp un gd cn cs L a ccd cl outer) (call (.ref 589) [.ref x]) Q E s := by
  have hl := lower_wd hi
  have hn := len_wd hi
  have hl2 := lower_lw hi
  have hn2 := len_lw hi
  have hf := foldT_wd hi
  have ha := ascii_wd hi
  have hown := own3 n1 n2 n3
  clear n1 n2 n3
  cases hS : sclAt i with
  | none =>
    have hb : sclB i its.size = false := by simp only [sclB, hS]
    cases hG : aggAt i with
    | none =>
      refine wpAny_call ?_
      (apply Mine.code_defSO (binds := [(Str.ofString "expr", .ref x)]); walk_at "enterSO")
      k_steps
      all_goals ((apply Mine.retS hret; walk_at "retS"); rw [hb]; rfl)
    | some b =>
      refine wpAny_call ?_
      (apply Mine.code_defSO (binds := [(Str.ofString "expr", .ref x)]); walk_at "enterSO")
      k_steps
      all_goals ((apply Mine.retS hret; walk_at "retS"); rw [hb]; rfl)
  | some b =>
    cases hr : fitsB (its.size : Int) b.2.1 b.2.2 with
    | false =>
      have hb : sclB i its.size = false := by simp only [sclB, hS]; exact hr
      refine wpAny_call ?_
      (apply Mine.code_defSO (binds := [(Str.ofString "expr", .ref x)]); walk_at "enterSO")
      k_steps
      all_goals ((apply Mine.retS hret; walk_at "retS"); rw [hb]; rfl)
    | true =>
      have hb : sclB i its.size = true := by simp only [sclB, hS]; exact hr
      refine wpAny_call ?_
      (apply Mine.code_defSO (binds := [(Str.ofString "expr", .ref x)]); walk_at "enterSO")
      k_steps
      all_goals ((apply Mine.retS hret; walk_at "retS"); rw [hb]; (simp_all; done))
/-- DISTINCT with a number of arguments other than one -/
theorem islet_twice (hdp : dp + 30 < 600) (hu : un + 300 < 5000) {i : Nat} (hi : i < 12) {x dx la : Addr} {h1 h2 h3 h4 : Int} {t1 t2 t3 t4 t5 : Tok} {its : Array Value} {n k : Nat} {st : Bool}
    (n1 : (x, instObj 380 dx) ∈ news) (n2 : (dx, dictOf [⟨h1, .str (Str.ofString "name") t1, .str (wd i) t2⟩, ⟨h2, .str (Str.ofString "arguments") t3, .ref la⟩, ⟨h3, .str (Str.ofString "distinct") t4, .bool true⟩, ⟨h4, .str (Str.ofString "star") t5, .bool st⟩] n) ∈ news) (n3 : (la, listOf its k) ∈ news)
    (hA : isAgg i (its.size : Int) st = true) (hz : its.size < 9) (hz1 : its.size ≠ 1)
    (hret : ∀ kg h' tk', KtsTurn (outer.filterMap (·.frame)) h₀ kg → Fr kg L h' m → News kg L h' news → Below A₀ base outer kg → (Mine.K w.params).In kg → Top vw lo mean mg mb kg → KtsDicts (outer.filterMap (·.frame)) kg → Q (.bool false) { s with heap := h', toks := tk' }) :
    wpAny (model prg w) (ktrTop dp un gd cn cs L a ccd cl outer) (call (.ref 589) [.ref x]) Q E s := by
  have hl := lower_wd hi
  have hn := len_wd hi
  have hl2 := lower_lw hi
  have hn2 := len_lw hi
  have hf := foldT_wd hi
  have ha := ascii_wd hi
  have hown := own3 n1 n2 n3
  clear n1 n2 n3
  refine wpAny_call ?_
  (apply Mine.code_defSO (binds := [(Str.ofString "expr", .ref x)]); walk_at "enterSO")
  k_steps
  all_goals first | (exfalso; omega) | ((apply Mine.retS hret; walk_at "retS"); rfl)
end
end Mine
namespace Mine
section
variable {w : World} {vw : Program} {lo : List Str} {mean : ExcName → Option Value} {mg mb : Str → Option Value} {dp un : Nat} {gd : Option (List Code)} {cn : Str} {cs : Scope} {a : Addr} {ccd : Value} {cl : List (Str × Addr)} {outer : List Env} {A₀ : Around} {base h₀ : Heap} {L : Addr} {m : Str → Option Value} {news own : List (Addr × Obj)} {s : Shared} {Q E : Value → Shared → Prop}
variable (B : Below A₀ base outer h₀) (F : Fr h₀ L s.heap m) (X : (Mine.K w.params).In h₀) (N : News h₀ L s.heap news) (T : Top vw lo mean mg mb h₀) (hk : cs.kind = .function)
include B F X N T hk
theorem agg_c0 (hdp : dp + 12 < recursionLimit) (hu : un + 100 < cLine) {v : Value} (hs : ArgShape own v false) (hown : ∀ p ∈ own, p ∈ news)
    (hret : ∀ r k h' tk', Fr h₀ L h' m → News h₀ L h' ((r, listOf #[] k) :: news) → Q (.ref r) { s with heap := h', toks := tk' }) :
    wpAny (model prg w) (ktrTop dp un gd cn cs L a ccd cl outer) (call (.ref 512) [v]) Q E s := agg_c B F X N T hk hdp hu hs hown (fun _ => hret) (fun h => nomatch h)
theorem agg_c1 (hdp : dp + 12 < recursionLimit) (hu : un + 100 < cLine) {v : Value} (hs : ArgShape own v true) (hown : ∀ p ∈ own, p ∈ news)
    (hret : ∀ c r k h' tk', Fr h₀ L h' m → News h₀ L h' ((r, listOf #[c] k) :: news) → Q (.ref r) { s with heap := h', toks := tk' }) :
    wpAny (model prg w) (ktrTop dp un gd cn cs L a ccd cl outer) (call (.ref 512) [v]) Q E s := agg_c B F X N T hk hdp hu hs hown (fun h => nomatch h) (fun _ => hret)
end
end Mine
theorem Mine.word29 : True := by (k_with "call ref" => (k_here; (with_reducible show wpAny _ _ (call (Value.ref 512) [_]) _ _ _); k_dflt (first | (apply Mine.agg_c0; (case hs => assumption); (case B => k_asm); (case F => k_asm); (case X => k_asm); (case N => k_asm); (case hown => kcj_all); (case T => k_asm); (case hk => first | exact rfl | assumption); (case hdp => ktr_room); (case hu => ktr_units); k_whole; intro r' k' h' tk' F' N') | (apply Mine.agg_c1; (case hs => assumption); (case B => k_asm); (case F => k_asm); (case X => k_asm); (case N => k_asm); (case hown => kcj_all); (case T => k_asm); (case hk => first | exact rfl | assumption); (case hdp => ktr_room); (case hu => ktr_units); k_whole; intro c' r' k' h' tk' F' N')); (try dsimp only); (try k_fold))); trivial
namespace Mine
section
variable {w : World} {vw : Program} {lo : List Str} {mean : ExcName → Option Value} {mg mb : Str → Option Value} {dp un : Nat} {gd : Option (List Code)} {cn : Str} {cs : Scope} {a : Addr} {ccd : Value} {cl : List (Str × Addr)} {outer : List Env} {A₀ : Around} {base h₀ : Heap} {L : Addr} {m : Str → Option Value} {news : List (Addr × Obj)} {s : Shared} {Q E : Value → Shared → Prop}
variable (B : Below A₀ base outer h₀) (F : Fr h₀ L s.heap m) (X : (Mine.K w.params).In h₀) (N : News h₀ L s.heap news) (T : Top vw lo mean mg mb h₀) (hk : cs.kind = .function)
section
include B F X N T hk
/-- refuse_aggregates lets an argument in which nothing gathers -/
theorem refuse0 (hdp : dp + 16 < recursionLimit) (hu : un + 130 < cLine) {e1 e2 e3 e4 e5 e6 e7 : Addr × Obj} {v : Value} (hs : ArgShape [e1, e2, e3, e4, e5, e6, e7] v false) (hown : ∀ p ∈ [e1, e2, e3, e4, e5, e6, e7], p ∈ news) {y : Str} {t : Tok}
    (hret : ∀ r k h' tk', Fr h₀ L h' m → News h₀ L h' ((r, listOf #[] k) :: news) → Q .none { s with heap := h', toks := tk' }) :
    wpAny (model prg w) (ktrTop dp un gd cn cs L a ccd cl outer) (call (.ref 520) [v, .str y t]) Q E s := by
  refine wpAny_call ?_
  (apply Mine.code_defO (binds := [(Str.ofString "expr", v), (Str.ofString "message", .str y t)]); walk_at "enterO")
  k_steps
  all_goals (trace_state; exact hret _ _ _ _ (by assumption) (by walk_at "MNEWS"))
end
end
end Mine
theorem Mine.word30 : True := by (k_with "call ref" => (k_here; (with_reducible show wpAny _ _ (call (Value.ref 520) [_, Value.str _ _]) _ _ _); k_dflt (apply Mine.refuse0; (case hs => assumption); (case B => k_asm); (case F => k_asm); (case X => k_asm); (case N => k_asm); (case hown => kcj_all); (case T => k_asm); (case hk => first | exact rfl | assumption); (case hdp => ktr_room); (case hu => ktr_units); k_whole); intro r' k' h' tk' F' N'; (try dsimp only); (try k_fold))); trivial
local macro_rules | `(tactic| k_offL) => `(tactic| ktu_offI)
namespace Mine
section
variable {w : World} {vw : Program} {lo : List Str} {mean : ExcName → Option Value} {mg mb : Str → Option Value} {dp un : Nat} {gd : Option (List Code)} {cn : Str} {cs : Scope} {a : Addr} {ccd : Value} {cl : List (Str × Addr)} {outer : List Env} {A₀ : Around} {base h₀ : Heap} {L : Addr} {m : Str → Option Value} {news : List (Addr × Obj)} {s : Shared} {Q E : Value → Shared → Prop}
variable (B : Below A₀ base outer h₀) (F : Fr h₀ L s.heap m) (X : (Mine.K w.params).In h₀) (N : News h₀ L s.heap news) (T : Top vw lo mean mg mb h₀) (hk : cs.kind = .function)
variable (XB : (Mine.K w.params).In base) (TB : Top vw lo mean mg mb base) (D : KtsDicts (outer.filterMap (·.frame)) h₀)
include B F X N T hk XB TB D
theorem islet_one1 (hdp : dp + 40 < 600) (hu : un + 400 < 5000) {i : Nat} (hi : i < 12) {x dx la : Addr} {h1 h2 h3 h4 : Int} {t1 t2 t3 t4 t5 : Tok} {v : Value} {n k : Nat} {d st : Bool} {b1 b2 b3 b4 b5 b6 b7 : Addr} {o1 o2 o3 o4 o5 o6 o7 : Obj} (hs : ArgShape [(b1, o1), (b2, o2), (b3, o3), (b4, o4), (b5, o5), (b6, o6), (b7, o7)] v true)
    (hown : ∀ p ∈ [(x, instObj 380 dx), (dx, dictOf [⟨h1, .str (Str.ofString "name") t1, .str (wd i) t2⟩, ⟨h2, .str (Str.ofString "arguments") t3, .ref la⟩, ⟨h3, .str (Str.ofString "distinct") t4, .bool d⟩, ⟨h4, .str (Str.ofString "star") t5, .bool st⟩] n), (la, listOf #[v] k), (b1, o1), (b2, o2), (b3, o3), (b4, o4), (b5, o5), (b6, o6), (b7, o7)], p ∈ news)
    (hA : isAgg i 1 st = true)
    (hret : ∀ kg h' tk', KtsTurn (outer.filterMap (·.frame)) h₀ kg → Fr kg L h' m → News kg L h' news → Below A₀ base outer kg → (Mine.K w.params).In kg → Top vw lo mean mg mb kg → KtsDicts (outer.filterMap (·.frame)) kg → Q (.bool false) { s with heap := h', toks := tk' }) :
    wpAny (model prg w) (ktrTop dp un gd cn cs L a ccd cl outer) (call (.ref 589) [.ref x]) Q E s := by
  have hl := lower_wd hi
  have hn := len_wd hi
  have hl2 := lower_lw hi
  have hn2 := len_lw hi
  have hf := foldT_wd hi
  have ha := ascii_wd hi
  refine wpAny_call ?_
  (apply Mine.code_defSO (binds := [(Str.ofString "expr", .ref x)]); walk_at "enterSO")
  k_steps
  all_goals ((apply Mine.retS hret; walk_at "retS"); rfl)
theorem islet_one0 (hdp : dp + 40 < 600) (hu : un + 400 < 5000) {i : Nat} (hi : i < 12) {x dx la : Addr} {h1 h2 h3 h4 : Int} {t1 t2 t3 t4 t5 : Tok} {v : Value} {n k : Nat} {d st : Bool} {b1 b2 b3 b4 b5 b6 b7 : Addr} {o1 o2 o3 o4 o5 o6 o7 : Obj} (hs : ArgShape [(b1, o1), (b2, o2), (b3, o3), (b4, o4), (b5, o5), (b6, o6), (b7, o7)] v false)
    (hown : ∀ p ∈ [(x, instObj 380 dx), (dx, dictOf [⟨h1, .str (Str.ofString "name") t1, .str (wd i) t2⟩, ⟨h2, .str (Str.ofString "arguments") t3, .ref la⟩, ⟨h3, .str (Str.ofString "distinct") t4, .bool d⟩, ⟨h4, .str (Str.ofString "star") t5, .bool st⟩] n), (la, listOf #[v] k), (b1, o1), (b2, o2), (b3, o3), (b4, o4), (b5, o5), (b6, o6), (b7, o7)], p ∈ news)
    (hA : isAgg i 1 st = true)
    (hret : ∀ kg h' tk', KtsTurn (outer.filterMap (·.frame)) h₀ kg → Fr kg L h' m → News kg L h' news → Below A₀ base outer kg → (Mine.K w.params).In kg → Top vw lo mean mg mb kg → KtsDicts (outer.filterMap (·.frame)) kg → Q (.bool true) { s with heap := h', toks := tk' }) :
    wpAny (model prg w) (ktrTop dp un gd cn cs L a ccd cl outer) (call (.ref 589) [.ref x]) Q E s := by
  have hl := lower_wd hi
  have hn := len_wd hi
  have hl2 := lower_lw hi
  have hn2 := len_lw hi
  have hf := foldT_wd hi
  have ha := ascii_wd hi
  refine wpAny_call ?_
  (apply Mine.code_defSO (binds := [(Str.ofString "expr", .ref x)]); walk_at "enterSO")
  k_steps
  all_goals ((apply Mine.retS hret; walk_at "retS"); rfl)
theorem islet_none (hdp : dp + 40 < 600) (hu : un + 400 < 5000) {i : Nat} (hi : i < 12) {x dx la : Addr} {h1 h2 h3 h4 : Int} {t1 t2 t3 t4 t5 : Tok} {n k : Nat} {st : Bool}
    (hown : ∀ p ∈ [(x, instObj 380 dx), (dx, dictOf [⟨h1, .str (Str.ofString "name") t1, .str (wd i) t2⟩, ⟨h2, .str (Str.ofString "arguments") t3, .ref la⟩, ⟨h3, .str (Str.ofString "distinct") t4, .bool false⟩, ⟨h4, .str (Str.ofString "star") t5, .bool st⟩] n), (la, listOf #[] k)], p ∈ news)
    (hA : isAgg i 0 st = true)
    (hret : ∀ kg h' tk', KtsTurn (outer.filterMap (·.frame)) h₀ kg → Fr kg L h' m → News kg L h' news → Below A₀ base outer kg → (Mine.K w.params).In kg → Top vw lo mean mg mb kg → KtsDicts (outer.filterMap (·.frame)) kg → Q (.bool true) { s with heap := h', toks := tk' }) :
    wpAny (model prg w) (ktrTop dp un gd cn cs L a ccd cl outer) (call (.ref 589) [.ref x]) Q E s := by
  have hl := lower_wd hi
  have hn := len_wd hi
  have hl2 := lower_lw hi
  have hn2 := len_lw hi
  have hf := foldT_wd hi
  have ha := ascii_wd hi
  refine wpAny_call ?_
  (apply Mine.code_defSO (binds := [(Str.ofString "expr", .ref x)]); walk_at "enterSO")
  k_steps
  all_goals ((apply Mine.retS hret; walk_at "retS"); rfl)
theorem islet_two1 (hdp : dp + 40 < 600) (hu : un + 400 < 5000) {i : Nat} (hi : i < 12) {x dx la : Addr} {h1 h2 h3 h4 : Int} {t1 t2 t3 t4 t5 : Tok} {v u : Value} {n k : Nat} {st : Bool} {b1 b2 b3 b4 b5 b6 b7 : Addr} {o1 o2 o3 o4 o5 o6 o7 : Obj} {c1 c2 c3 c4 c5 c6 c7 : Addr} {p1 p2 p3 p4 p5 p6 p7 : Obj} (hs : ArgShape [(b1, o1), (b2, o2), (b3, o3), (b4, o4), (b5, o5), (b6, o6), (b7, o7)] v true)
    (hown : ∀ p ∈ [(x, instObj 380 dx), (dx, dictOf [⟨h1, .str (Str.ofString "name") t1, .str (wd i) t2⟩, ⟨h2, .str (Str.ofString "arguments") t3, .ref la⟩, ⟨h3, .str (Str.ofString "distinct") t4, .bool false⟩, ⟨h4, .str (Str.ofString "star") t5, .bool st⟩] n), (la, listOf #[v, u] k), (b1, o1), (b2, o2), (b3, o3), (b4, o4), (b5, o5), (b6, o6), (b7, o7), (c1, p1), (c2, p2), (c3, p3), (c4, p4), (c5, p5), (c6, p6), (c7, p7)], p ∈ news)
    (hA : isAgg i 2 st = true)
    (hret : ∀ kg h' tk', KtsTurn (outer.filterMap (·.frame)) h₀ kg → Fr kg L h' m → News kg L h' news → Below A₀ base outer kg → (Mine.K w.params).In kg → Top vw lo mean mg mb kg → KtsDicts (outer.filterMap (·.frame)) kg → Q (.bool false) { s with heap := h', toks := tk' }) :
    wpAny (model prg w) (ktrTop dp un gd cn cs L a ccd cl outer) (call (.ref 589) [.ref x]) Q E s := by
  have hl := lower_wd hi
  have hn := len_wd hi
  have hl2 := lower_lw hi
  have hn2 := len_lw hi
  have hf := foldT_wd hi
  have ha := ascii_wd hi
  refine wpAny_call ?_
  (apply Mine.code_defSO (binds := [(Str.ofString "expr", .ref x)]); walk_at "enterSO")
  k_steps
  all_goals ((apply Mine.retS hret; walk_at "retS"); rfl)
theorem islet_two01 (hdp : dp + 40 < 600) (hu : un + 400 < 5000) {i : Nat} (hi : i < 12) {x dx la : Addr} {h1 h2 h3 h4 : Int} {t1 t2 t3 t4 t5 : Tok} {v u : Value} {n k : Nat} {st : Bool} {b1 b2 b3 b4 b5 b6 b7 : Addr} {o1 o2 o3 o4 o5 o6 o7 : Obj} {c1 c2 c3 c4 c5 c6 c7 : Addr} {p1 p2 p3 p4 p5 p6 p7 : Obj} (hs : ArgShape [(b1, o1), (b2, o2), (b3, o3), (b4, o4), (b5, o5), (b6, o6), (b7, o7)] v false) (hs2 : ArgShape [(c1, p1), (c2, p2), (c3, p3), (c4, p4), (c5, p5), (c6, p6), (c7, p7)] u true)
    (hown : ∀ p ∈ [(x, instObj 380 dx), (dx, dictOf [⟨h1, .str (Str.ofString "name") t1, .str (wd i) t2⟩, ⟨h2, .str (Str.ofString "arguments") t3, .ref la⟩, ⟨h3, .str (Str.ofString "distinct") t4, .bool false⟩, ⟨h4, .str (Str.ofString "star") t5, .bool st⟩] n), (la, listOf #[v, u] k), (b1, o1), (b2, o2), (b3, o3), (b4, o4), (b5, o5), (b6, o6), (b7, o7), (c1, p1), (c2, p2), (c3, p3), (c4, p4), (c5, p5), (c6, p6), (c7, p7)], p ∈ news)
    (hA : isAgg i 2 st = true)
    (hret : ∀ kg h' tk', KtsTurn (outer.filterMap (·.frame)) h₀ kg → Fr kg L h' m → News kg L h' news → Below A₀ base outer kg → (Mine.K w.params).In kg → Top vw lo mean mg mb kg → KtsDicts (outer.filterMap (·.frame)) kg → Q (.bool false) { s with heap := h', toks := tk' }) :
    wpAny (model prg w) (ktrTop dp un gd cn cs L a ccd cl outer) (call (.ref 589) [.ref x]) Q E s := by
  have hl := lower_wd hi
  have hn := len_wd hi
  have hl2 := lower_lw hi
  have hn2 := len_lw hi
  have hf := foldT_wd hi
  have ha := ascii_wd hi
  refine wpAny_call ?_
  (apply Mine.code_defSO (binds := [(Str.ofString "expr", .ref x)]); walk_at "enterSO")
  k_steps
  all_goals ((apply Mine.retS hret; walk_at "retS"); rfl)
theorem islet_two00 (hdp : dp + 40 < 600) (hu : un + 400 < 5000) {i : Nat} (hi : i < 12) {x dx la : Addr} {h1 h2 h3 h4 : Int} {t1 t2 t3 t4 t5 : Tok} {v u : Value} {n k : Nat} {st : Bool} {b1 b2 b3 b4 b5 b6 b7 : Addr} {o1 o2 o3 o4 o5 o6 o7 : Obj} {c1 c2 c3 c4 c5 c6 c7 : Addr} {p1 p2 p3 p4 p5 p6 p7 : Obj} (hs : ArgShape [(b1, o1), (b2, o2), (b3, o3), (b4, o4), (b5, o5), (b6, o6), (b7, o7)] v false) (hs2 : ArgShape [(c1, p1), (c2, p2), (c3, p3), (c4, p4), (c5, p5), (c6, p6), (c7, p7)] u false)
    (hown : ∀ p ∈ [(x, instObj 380 dx), (dx, dictOf [⟨h1, .str (Str.ofString "name") t1, .str (wd i) t2⟩, ⟨h2, .str (Str.ofString "arguments") t3, .ref la⟩, ⟨h3, .str (Str.ofString "distinct") t4, .bool false⟩, ⟨h4, .str (Str.ofString "star") t5, .bool st⟩] n), (la, listOf #[v, u] k), (b1, o1), (b2, o2), (b3, o3), (b4, o4), (b5, o5), (b6, o6), (b7, o7), (c1, p1), (c2, p2), (c3, p3), (c4, p4), (c5, p5), (c6, p6), (c7, p7)], p ∈ news)
    (hA : isAgg i 2 st = true)
    (hret : ∀ kg h' tk', KtsTurn (outer.filterMap (·.frame)) h₀ kg → Fr kg L h' m → News kg L h' news → Below A₀ base outer kg → (Mine.K w.params).In kg → Top vw lo mean mg mb kg → KtsDicts (outer.filterMap (·.frame)) kg → Q (.bool true) { s with heap := h', toks := tk' }) :
    wpAny (model prg w) (ktrTop dp un gd cn cs L a ccd cl outer) (call (.ref 589) [.ref x]) Q E s := by
  have hl := lower_wd hi
  have hn := len_wd hi
  have hl2 := lower_lw hi
  have hn2 := len_lw hi
  have hf := foldT_wd hi
  have ha := ascii_wd hi
  refine wpAny_call ?_
  (apply Mine.code_defSO (binds := [(Str.ofString "expr", .ref x)]); walk_at "enterSO")
  k_steps
  all_goals ((apply Mine.retS hret; walk_at "retS"); rfl)
end
end Mine
local macro_rules | `(tactic| walk_at "eval Dict") => `(tactic| (k_here; k_dflt (refine' kdn_str ?q ?F ?N ?b ?a ?l ?e ?n ?_; (case q => rfl); (case F => k_asm); (case N => first | k_asm | exact News.nil); (case b => exact Top.nolimit (by k_asm)); (case a => rfl); (case l => rfl); (case e => exact List.cons_ne_nil _ _); (case n => exact Nat.le_of_ble_eq_true rfl)); intro d' h' o' F' N' l1 lo' hd'; (try k_lt l1)))
namespace Mine
/-- the law's own bounds -/
def plainB : Nat → Option (Int × Int)
  | 0 => some (1, 1) | 1 => some (2, 99) | 2 => some (2, 3) | 3 => some (2, 99) | 4 => some (3, 3) | 5 => some (0, 0) | 8 => some (2, 99) | _ => none
def gathB : Nat → Option (Int × Int)
  | 3 => some (1, 1) | 6 => some (0, 1) | 7 => some (1, 1) | 8 => some (1, 1) | 9 => some (1, 2) | _ => none
def pickP (i : Nat) (v0 v1 v2 v3 v4 v5 : Value) : Option Value := match i with
  | 0 => some v0 | 1 => some v1 | 2 => some v2 | 3 => some v3 | 4 => some v4 | 5 => some v5 | 8 => some v3 | _ => none
def pickG (i : Nat) (v0 v1 v2 v3 : Value) : Option Value := match i with
  | 3 => some v2 | 6 => some v0 | 7 => some v1 | 8 => some v2 | 9 => some v3 | _ => none
theorem at_plain {i : Nat} (hi : i < 12) {v0 v1 v2 v3 v4 v5 : Value} {t0 t1 t2 t3 t4 t5 : Tok} :
    valueAt (strPairs [(.str (Str.ofString "abs") t0, v0), (.str (Str.ofString "coalesce") t1, v1), (.str (Str.ofString "substr") t2, v2), (.str (Str.ofString "max") t3, v3), (.str (Str.ofString "iif") t4, v4), (.str (Str.ofString "changes") t5, v5)]) (lw i) = pickP i v0 v1 v2 v3 v4 v5 := by
  revert i
  refine fun hi => twelve (P := fun i => valueAt (strPairs [(.str (Str.ofString "abs") t0, v0), (.str (Str.ofString "coalesce") t1, v1), (.str (Str.ofString "substr") t2, v2), (.str (Str.ofString "max") t3, v3), (.str (Str.ofString "iif") t4, v4), (.str (Str.ofString "changes") t5, v5)]) (lw i) = pickP i v0 v1 v2 v3 v4 v5) ?_ ?_ ?_ ?_ ?_ ?_ ?_ ?_ ?_ ?_ ?_ ?_ hi <;> simp only [lw_0, lw_1, lw_2, lw_3, lw_4, lw_5, lw_6, lw_7, lw_8, lw_9, lw_10, lw_11] <;> rfl
theorem at_gath {i : Nat} (hi : i < 12) {v0 v1 v2 v3 : Value} {t0 t1 t2 t3 : Tok} :
    valueAt (strPairs [(.str (Str.ofString "count") t0, v0), (.str (Str.ofString "sum") t1, v1), (.str (Str.ofString "max") t2, v2), (.str (Str.ofString "group_concat") t3, v3)]) (lw i) = pickG i v0 v1 v2 v3 := by
  revert i
  refine fun hi => twelve (P := fun i => valueAt (strPairs [(.str (Str.ofString "count") t0, v0), (.str (Str.ofString "sum") t1, v1), (.str (Str.ofString "max") t2, v2), (.str (Str.ofString "group_concat") t3, v3)]) (lw i) = pickG i v0 v1 v2 v3) ?_ ?_ ?_ ?_ ?_ ?_ ?_ ?_ ?_ ?_ ?_ ?_ hi <;> simp only [lw_0, lw_1, lw_2, lw_3, lw_4, lw_5, lw_6, lw_7, lw_8, lw_9, lw_10, lw_11] <;> rfl
inductive BndV : Option (Int × Int) → Value → Addr × Obj → Prop
  | none {e : Addr × Obj} : BndV Option.none .none e
  | some {lo hi : Int} {p : Addr} {t1 t2 : Tok} : BndV (Option.some (lo, hi)) (.ref p) (p, { cls := Value.type "tuple", data := Data.seq #[.int lo t1, .int hi t2] })
end Mine
theorem Mine.word31 : True := by (k_with "call builtin:dict.get" => (k_here; (with_reducible show wpAny _ _ (call (Value.builtin "dict.get") [Value.ref _, Value.str (Mine.lw _) _]) _ _ _); k_dflt (first | refine kdg_get1 (knd := PySem.strKind _ _) (by k_asm) (by k_mem) (by k_asm) (by k_asm) (strKind_is _ _ _ _) _ (Mine.at_plain (by assumption)) ?_ | refine kdg_get1 (knd := PySem.strKind _ _) (by k_asm) (by k_mem) (by k_asm) (by k_asm) (strKind_is _ _ _ _) _ (Mine.at_gath (by assumption)) ?_))); trivial
namespace Mine
theorem bounds_end {h₀ h' : Heap} {L r : Addr} {m : Str → Option Value} {K news : List (Addr × Obj)} {s : Shared} {Q : Value → Shared → Prop} {tk' k i : Nat} {d0 d1 d2 d3 d4 d5 c0 c1 c2 c3 : Addr} {p0a p0b p1a p1b p2a p2b p3a p3b p4a p4b p5a p5b g0a g0b g1a g1b g2a g2b g3a g3b : Tok}
    (hret : ∀ r k P G e1 e2 h' tk', Fr h₀ L h' m → News h₀ L h' ((r, listOf #[P, G] k) :: e1 :: e2 :: news) → BndV (plainB i) P e1 → BndV (gathB i) G e2 → Q (.ref r) { s with heap := h', toks := tk' })
    (hi : i < 12) (F : Fr h₀ L h' m) (N : News h₀ L h' K) (hr : (r, listOf #[(pickP i (.ref d0) (.ref d1) (.ref d2) (.ref d3) (.ref d4) (.ref d5)).getD .none, (pickG i (.ref c0) (.ref c1) (.ref c2) (.ref c3)).getD .none] k) ∈ K)
    (hp0 : (d0, { cls := Value.type "tuple", data := Data.seq #[.int 1 p0a, .int 1 p0b] }) ∈ K) (hp1 : (d1, { cls := Value.type "tuple", data := Data.seq #[.int 2 p1a, .int 99 p1b] }) ∈ K) (hp2 : (d2, { cls := Value.type "tuple", data := Data.seq #[.int 2 p2a, .int 3 p2b] }) ∈ K) (hp3 : (d3, { cls := Value.type "tuple", data := Data.seq #[.int 2 p3a, .int 99 p3b] }) ∈ K) (hp4 : (d4, { cls := Value.type "tuple", data := Data.seq #[.int 3 p4a, .int 3 p4b] }) ∈ K) (hp5 : (d5, { cls := Value.type "tuple", data := Data.seq #[.int 0 p5a, .int 0 p5b] }) ∈ K) (hg0 : (c0, { cls := Value.type "tuple", data := Data.seq #[.int 0 g0a, .int 1 g0b] }) ∈ K) (hg1 : (c1, { cls := Value.type "tuple", data := Data.seq #[.int 1 g1a, .int 1 g1b] }) ∈ K) (hg2 : (c2, { cls := Value.type "tuple", data := Data.seq #[.int 1 g2a, .int 1 g2b] }) ∈ K) (hg3 : (c3, { cls := Value.type "tuple", data := Data.seq #[.int 1 g3a, .int 2 g3b] }) ∈ K) (hn : ∀ p ∈ news, p ∈ K) : Q (.ref r) { s with heap := h', toks := tk' } := by
  have a1 : ∃ e ∈ K, BndV (plainB i) ((pickP i (.ref d0) (.ref d1) (.ref d2) (.ref d3) (.ref d4) (.ref d5)).getD .none) e := by
    refine twelve (P := fun i => ∃ e ∈ K, BndV (plainB i) ((pickP i (.ref d0) (.ref d1) (.ref d2) (.ref d3) (.ref d4) (.ref d5)).getD .none) e) ?_ ?_ ?_ ?_ ?_ ?_ ?_ ?_ ?_ ?_ ?_ ?_ hi <;> first | exact ⟨_, hp0, .some⟩ | exact ⟨_, hp1, .some⟩ | exact ⟨_, hp2, .some⟩ | exact ⟨_, hp3, .some⟩ | exact ⟨_, hp4, .some⟩ | exact ⟨_, hp5, .some⟩ | exact ⟨_, hr, .none⟩
  have a2 : ∃ e ∈ K, BndV (gathB i) ((pickG i (.ref c0) (.ref c1) (.ref c2) (.ref c3)).getD .none) e := by
    refine twelve (P := fun i => ∃ e ∈ K, BndV (gathB i) ((pickG i (.ref c0) (.ref c1) (.ref c2) (.ref c3)).getD .none) e) ?_ ?_ ?_ ?_ ?_ ?_ ?_ ?_ ?_ ?_ ?_ ?_ hi <;> first | exact ⟨_, hg0, .some⟩ | exact ⟨_, hg1, .some⟩ | exact ⟨_, hg2, .some⟩ | exact ⟨_, hg3, .some⟩ | exact ⟨_, hr, .none⟩
  obtain ⟨e1, m1, b1⟩ := a1
  obtain ⟨e2, m2, b2⟩ := a2
  refine hret _ k _ _ e1 e2 _ _ F ?_ b1 b2
  intro p hp
  refine N p ?_
  rcases List.mem_cons.mp hp with rfl | hp
  · exact hr
  · rcases List.mem_cons.mp hp with rfl | hp
    · exact m1
    · rcases List.mem_cons.mp hp with rfl | hp
      · exact m2
      · exact hn p hp
end Mine
namespace Mine
section
variable {w : World} {vw : Program} {lo : List Str} {mean : ExcName → Option Value} {mg mb : Str → Option Value} {dp un : Nat} {gd : Option (List Code)} {cn : Str} {cs : Scope} {a : Addr} {ccd : Value} {cl : List (Str × Addr)} {outer : List Env} {A₀ : Around} {base h₀ : Heap} {L : Addr} {m : Str → Option Value} {news own : List (Addr × Obj)} {s : Shared} {Q E : Value → Shared → Prop}
variable (B : Below A₀ base outer h₀) (F : Fr h₀ L s.heap m) (X : (Mine.K w.params).In h₀) (N : News h₀ L s.heap news) (T : Top vw lo mean mg mb h₀) (hk : cs.kind = .function)
include B F X N T hk
theorem bounds_c (hdp : dp + 10 < recursionLimit) (hu : un + 80 < cLine) {t : Tok} {i : Nat} (hi : i < 12)
    (hret : ∀ r k P G e1 e2 h' tk', Fr h₀ L h' m → News h₀ L h' ((r, listOf #[P, G] k) :: e1 :: e2 :: news) → BndV (plainB i) P e1 → BndV (gathB i) G e2 → Q (.ref r) { s with heap := h', toks := tk' }) :
    wpAny (model prg w) (ktrTop dp un gd cn cs L a ccd cl outer) (call (.ref 563) [.str (lw i) t]) Q E s := by
  have hown : ∀ p ∈ ([] : List (Addr × Obj)), p ∈ news := by intro p hp; cases hp
  refine wpAny_call ?_
  (apply Mine.code_defO (binds := [(Str.ofString "word", .str (lw i) t)]); walk_at "enterO")
  k_steps
  all_goals exact bounds_end hret hi (by assumption) (by assumption) (by k_mem) (by k_mem) (by k_mem) (by k_mem) (by k_mem) (by k_mem) (by k_mem) (by k_mem) (by k_mem) (by k_mem) (by k_mem) (by kcj_all)
end
end Mine
namespace Mine
section
variable {w : World} {vw : Program} {lo : List Str} {mean : ExcName → Option Value} {mg mb : Str → Option Value} {dp un : Nat} {gd : Option (List Code)} {cn : Str} {cs : Scope} {a : Addr} {ccd : Value} {cl : List (Str × Addr)} {outer : List Env} {A₀ : Around} {base h₀ : Heap} {L : Addr} {m : Str → Option Value} {news own : List (Addr × Obj)} {s : Shared} {Q E : Value → Shared → Prop}
variable (B : Below A₀ base outer h₀) (F : Fr h₀ L s.heap m) (X : (Mine.K w.params).In h₀) (N : News h₀ L s.heap news) (T : Top vw lo mean mg mb h₀) (hk : cs.kind = .function)
include B F X N T hk
def fitsL (n : Int) : Option (Int × Int) → Bool
  | some b => decide (b.1 ≤ n) && decide (n ≤ b.2)
  | none => false
theorem lfits_c (hdp : dp + 10 < recursionLimit) (hu : un + 80 < cLine) {t : Tok} {V : Value} {e : Addr × Obj} {o : Option (Int × Int)} {n : Int} {r : Bool} (hb : BndV o V e) (he : e ∈ news) (hr : fitsL n o = r)
    (hret : ∀ h' tk', Fr h₀ L h' m → News h₀ L h' news → Q (.bool r) { s with heap := h', toks := tk' }) :
    wpAny (model prg w) (ktrTop dp un gd cn cs L a ccd cl outer) (call (.ref 570) [V, .int n t]) Q E s := by
  subst hr
  have hown : ∀ p ∈ [e], p ∈ news := by
    intro p hp
    rcases List.mem_cons.mp hp with rfl | hp
    · exact he
    · cases hp
  cases hb with
  | none =>
    clear he hown
    refine wpAny_call ?_
    (apply code_def (binds := [(Str.ofString "bounds", .none), (Str.ofString "many", .int n t)]); walk_at "enter")
    k_steps
    all_goals exact hret _ _ (by assumption) (by assumption)
  | @some lo hi p t1 t2 =>
    refine wpAny_call ?_
    (apply Mine.code_defO (binds := [(Str.ofString "bounds", .ref p), (Str.ofString "many", .int n t)]); walk_at "enterO")
    k_steps
    all_goals (refine retB hret ?_ (by assumption) (by walk_at "MNEWS"); simp only [fitsL]; (try simp_all); (try omega))
end
end Mine
namespace Mine
open PyProof.Rows.LCg in
/-- what stands while the pairs are gone through: the iterator I, the names of the block C, the new list D -/
structure Midst (h₀ : Heap) (L : Addr) (m : Str → Option Value) (news : List (Addr × Obj)) (I la C D : Addr) (i : Nat) (ys : List Value) (h : Heap) : Prop where
  it : h.IsListIter I la i
  fr : Fr h₀ L h m
  ns : ∃ m', h.Ns C m'
  nw : News h₀ L h ((D, lst ys) :: news)
structure Apart (h₀ : Heap) (L : Addr) (news : List (Addr × Obj)) (I C D : Addr) : Prop where
  il : I ≠ L
  cl : C ≠ L
  dl : D ≠ L
  i0 : h₀.get? I = none
  c0 : h₀.get? C = none
  d0 : h₀.get? D = none
  ic : I ≠ C
  id : I ≠ D
  cd : C ≠ D
  off : ∀ p ∈ news, p.1 ≠ I ∧ p.1 ≠ C ∧ p.1 ≠ D
section
open PyProof.Rows.LCg
variable {prog : Program} {w : World} {A : Around} {h₀ : Heap} {L : Addr} {m : Str → Option Value} {env : Env} {news : List (Addr × Obj)} {scope : Scope} {cl : List (Str × Addr)} {I la C D : Addr} {i : Nat} {ys : List Value} {its : Array Value} {s : Shared} {k : Nat}
theorem Midst.list {h : Heap} (M : Midst h₀ L m news I la C D i ys h) (hla : (la, listOf its k) ∈ news) : h.IsList la its :=
  ⟨_, (M.nw _ (List.mem_cons_of_mem _ hla)).1, rfl, _, rfl⟩
/-- the next pair and its two names -/
theorem pair_turn {x y : Str} {px py tp : Pos} {tk : Nat} {q : Addr} {v b : Value} {kq : Nat} {R : Option Value → Shared → Prop} {K : Shared → Prop} {E₀ E₁ E₂ : Value → Shared → Prop} (hla : (la, listOf its k) ∈ news) (AP : Apart h₀ L news I C D) (hh : A.handled = none) (hi : i < its.size) (hq : its[i]? = some (.ref q)) (hm : (q, listOf #[v, b] kq) ∈ news)
    (hkind : scope.kind = .function) (hx : scope.names.lookup x = some .local) (hy : scope.names.lookup y = some .local) (hxy : x ≠ y) (M : Midst h₀ L m news I la C D i ys s.heap)
    (hR : ∀ v' s₁, R (some v') s₁ = wpAny (model prog w) A (letOwnedTupleGo (.Tuple [.Name x px, .Name y py] tk tp) (.ref I) v') (fun _ s₂ => wpAny (model prog w) A (assign (.Tuple [.Name x px, .Name y py] tk tp) (compEnvC scope cl C env) v') (fun _ s₃ => K s₃) E₂ s₂) E₁ s₁)
    (hK : ∀ h' tk' m', Midst h₀ L m news I la C D (i + 1) ys h' → h'.Ns C m' → m' x = some v → m' y = some b → K { s with heap := h', toks := tk' }) :
    wpAny (model prog w) A (pyNext (.ref I)) R E₀ s := by
  have hlI : la ≠ I := (AP.off _ hla).1
  refine (Walks.list hh I la hlI its).item i s R E₀ hi ⟨M.it, M.list hla⟩ fun v' h₂ tk₂ hv hst hk₂ => ?_
  rw [hq] at hv
  cases hv
  rw [hR]
  have hkI : ∀ b o, b ≠ I → s.heap.get? b = some o → h₂.get? b = some o := fun b o hb e => hk₂ b o (fun z => hb (List.mem_singleton.mp z)) e
  obtain ⟨mC, hC⟩ := M.ns
  obtain ⟨oC, heC, hoC⟩ := ns_obj (hC.at' fun o e => hkI _ o AP.ic.symm e)
  obtain ⟨oI, heI, hcI, hdI⟩ := hst.1
  have F₂ : Fr h₀ L h₂ m := fr_but M.fr hk₂ AP.il.symm AP.i0
  have N₂ : News h₀ L h₂ ((I, oI) :: (C, oC) :: (D, lst ys) :: news) := fun p hp => by
    rcases List.mem_cons.mp hp with rfl | hp
    · exact ⟨heI, AP.il, AP.i0⟩
    · rcases List.mem_cons.mp hp with rfl | hp
      · exact ⟨heC, AP.cl, AP.c0⟩
      · have z := M.nw p hp
        refine ⟨hkI _ _ ?_ z.1, z.2⟩
        rcases List.mem_cons.mp hp with rfl | hp
        · exact AP.id.symm
        · exact (AP.off p hp).1
  refine wpAny_letOwnedTupleGo_listiter hst.1 ?_
  have hl : h₂.IsList q #[v, b] := ⟨_, (N₂ _ (.tail _ (.tail _ (.tail _ hm)))).1, rfl, _, rfl⟩
  refine kun_list F₂ N₂ hl hh rfl rfl fun h₅ F₅ N₅ => ?_
  have hCn : h₅.Ns C mC := hoC.ns (N₅ (C, oC) (.tail _ (.head _))).1
  refine assignInOrder_cons (wpAny_assign_Name (wpAny_storeName_local (lookup_relabel_local hx) hCn (fun h₆ hn₆ hs₆ => ?_) (by simp [compEnvC, relabel, hkind])))
  refine assignInOrder_cons (wpAny_assign_Name (wpAny_storeName_local (lookup_relabel_local hy) hn₆ (fun h₇ hn₇ hs₇ => ?_) (by simp [compEnvC, relabel, hkind])))
  refine assignInOrder_nil ?_
  have old : ∀ b o, b ≠ C → h₅.get? b = some o → h₇.get? b = some o := fun b o hb e => hs₇.extBut b o hb (hs₆.extBut b o hb e)
  refine hK h₇ _ _ ⟨⟨oI, old _ _ AP.ic (N₅ (I, oI) (.head _)).1, hcI, hdI⟩, (F₅.change hs₆ AP.cl AP.c0).change hs₇ AP.cl AP.c0, ⟨_, hn₇⟩, fun p hp => ?_⟩ hn₇ (by simp [hxy]) (by simp)
  have z := N₅ p (.tail _ (.tail _ hp))
  refine ⟨old _ _ ?_ z.1, z.2⟩
  rcases List.mem_cons.mp hp with rfl | hp
  · exact AP.cd.symm
  · exact (AP.off p hp).2.1
/-- something is put at the end -/
theorem pair_append {y : Value} {Q E : Value → Shared → Prop} (AP : Apart h₀ L news I C D) (hsz : ys.length ≤ sizeLine) (M : Midst h₀ L m news I la C D i ys s.heap)
    (hQ : ∀ h', Midst h₀ L m news I la C D i (ys ++ [y]) h' → Q .none { s with heap := h' }) :
    wpAny (model prog w) A (call (.builtin "list.append") [.ref D, y]) Q E s := by
  have zD := (M.nw (D, lst ys) (.head _)).1
  refine append_at (hsz := by show ys.toArray.size ≤ sizeLine; rw [List.size_toArray]; exact hsz) zD fun h₅ hs₅ hD₅ => hQ h₅ ⟨?_, M.fr.change hs₅ AP.dl AP.d0, ?_, fun p hp => ?_⟩
  · obtain ⟨o, e, r⟩ := M.it
    exact ⟨o, hs₅.extBut _ _ AP.id e, r⟩
  · obtain ⟨m', e⟩ := M.ns
    exact ⟨m', e.sameBut hs₅ AP.cd⟩
  · rcases List.mem_cons.mp hp with rfl | hp
    · exact ⟨hD₅.trans (congrArg some (lst_snoc ys y)), AP.dl, AP.d0⟩
    · have z := M.nw p (.tail _ hp)
      exact ⟨hs₅.extBut _ _ (AP.off p hp).2.2 z.1, z.2⟩
/-- the end of the pairs -/
theorem pair_done {R : Option Value → Shared → Prop} {E : Value → Shared → Prop} (hla : (la, listOf its k) ∈ news) (AP : Apart h₀ L news I C D) (hh : A.handled = none) (M : Midst h₀ L m news I la C D its.size ys s.heap)
    (hR : ∀ h' tk', Fr h₀ L h' m → (∃ m', h'.Ns C m') → News h₀ L h' ((D, lst ys) :: news) → R none { s with heap := h', toks := tk' }) :
    wpAny (model prog w) A (pyNext (.ref I)) R E s := by
  refine (Walks.list hh I la (AP.off _ hla).1 its).done s R E ⟨M.it, M.list hla⟩ fun h₂ tk₂ hk₂ => ?_
  have hkI : ∀ b o, b ≠ I → s.heap.get? b = some o → h₂.get? b = some o := fun b o hb e => hk₂ b o (fun z => hb (List.mem_singleton.mp z)) e
  obtain ⟨mC, hC⟩ := M.ns
  refine hR h₂ tk₂ (fr_but M.fr hk₂ AP.il.symm AP.i0) ⟨mC, hC.at' fun o e => hkI _ o AP.ic.symm e⟩ fun p hp => ?_
  have z := M.nw p hp
  refine ⟨hkI _ _ ?_ z.1, z.2⟩
  rcases List.mem_cons.mp hp with rfl | hp
  · exact AP.id.symm
  · exact (AP.off p hp).1
/-- the block is entered: a list comprehension over a list of the ledger -/
theorem pair_enter {elt tgt iter : PySem.Expr} {ifs : List PySem.Expr} {pos : Pos} {Q E : Value → Shared → Prop} {s : Shared}
    (hclos : closureFor scope env = pure cl) (hcell : ∀ y ∈ scope.names, y.2 ≠ .cell) (hkind : scope.kind = .function) (hnames : ∀ y ∈ scope.names, y.2 = .local → scope.names.lookup y.1 = some .local) (hh : A.handled = none)
    (h : wpAny (model prog w) A (eval iter env) (fun xv s₁ => ∃ la its k news, xv = .ref la ∧ Fr h₀ L s₁.heap m ∧ News h₀ L s₁.heap news ∧ (la, listOf its k) ∈ news ∧
      ∀ I C D s₂ (R : Result → Shared → Prop), (∃ h tk, s₂ = { s₁ with heap := h, toks := tk }) → Apart h₀ L news I C D → Midst h₀ L m news I la C D 0 [] s₂.heap →
        (∀ ys h' tk', Fr h₀ L h' m → (∃ m', h'.Ns C m') → News h₀ L h' ((D, lst ys) :: news) → (∀ h'' , Fr h₀ L h'' m → News h₀ L h'' ((D, lst ys) :: news) → Q (.ref D) { s₁ with heap := h'', toks := tk' }) → R (.ok .next) { s₂ with heap := h', toks := tk' }) →
        codeAny (model prog w) A (.compLoop (.ListComp elt [⟨tgt, iter, ifs, 0⟩] scope pos) 0 (.ref I) (.ref D) (compEnvC scope cl C env)) R s₂) E s)
    (hs : ∀ x, foldedSetIterable iter env x = pure x := by intro _; rfl) :
    wpAny (model prog w) A (eval (.ListComp elt [⟨tgt, iter, ifs, 0⟩] scope pos) env) Q E s := by
  rw [eval_ListComp]
  refine wpAny_comprehension_free (use := none) rfl hs hclos hkind hnames (wpAny_mono h (fun xv s₁ h₁ => ?_) fun _ _ e => e)
  obtain ⟨la, its, k, news, rfl, F, N, hla, H⟩ := h₁
  have hl : s₁.heap.IsList la its := ⟨_, (N _ hla).1, rfl, _, rfl⟩
  refine wpAny_pyIter_list hl ?_
  refine wpAny_newObj_type (wpAny_newFunctionEnv hcell (by intro y hy; simp at hy) (fun h₃ hns hsb => ?_) hkind)
  dsimp only at hns hsb ⊢
  generalize hH1 : s₁.heap.push { cls := .type "list_iterator", data := .fields #[.ref la, .int 0 0] } = H1 at hns hsb ⊢
  have z1 : H1.objs.size = s₁.heap.objs.size + 1 := by rw [← hH1, Heap.size_push]
  generalize hH2 : H1.push { cls := .type "list", dict := none, data := .seq ([] : List Value).toArray } = H2 at hns hsb ⊢
  have z2 : H2.objs.size = s₁.heap.objs.size + 1 + 1 := by rw [← hH2, Heap.size_push, z1]
  have hLs : @LT.lt Nat _ L s₁.heap.objs.size := F.ns.lt
  have n0 : ∀ a, s₁.heap.objs.size ≤ a → h₀.get? a = none := fun a ha => Heap.get?_none_of_le (Nat.le_trans F.above (Nat.le_trans (Nat.le_of_lt hLs) ha))
  have old : ∀ b o, s₁.heap.get? b = some o → h₃.get? b = some o := fun b o e =>
    hsb.extBut b o (by have := Heap.lt_size e; intro q; rw [q, z2] at this; exact absurd this (Nat.not_lt.mpr (Nat.le_trans (Nat.le_succ _) (Nat.le_succ _)))) (Heap.get?_push_of_some _ (hH2 ▸ Heap.get?_push_of_some _ (hH1 ▸ Heap.get?_push_of_some _ e)))
  have gI : h₃.get? s₁.heap.objs.size = some { cls := .type "list_iterator", data := .fields #[.ref la, .int 0 0] } :=
    hsb.extBut _ _ (by intro q; have q' : (s₁.heap.objs.size : Nat) = H2.objs.size := q; omega) (Heap.get?_push_of_some _ (hH2 ▸ Heap.get?_push_of_some _ (hH1 ▸ Heap.get?_push_size _ rfl)))
  have gD : h₃.get? H1.objs.size = some (lst []) :=
    hsb.extBut _ _ (by intro q; have q' : (H1.objs.size : Nat) = H2.objs.size := q; omega) (Heap.get?_push_of_some _ (hH2 ▸ Heap.get?_push_size _ rfl))
  have AP : Apart h₀ L news s₁.heap.objs.size H2.objs.size H1.objs.size := by
    refine ⟨Nat.ne_of_gt hLs, Nat.ne_of_gt (by omega), Nat.ne_of_gt (by omega), n0 _ (Nat.le_refl _), n0 _ (by omega), n0 _ (by omega), Nat.ne_of_lt (by omega), Nat.ne_of_lt (by omega), Nat.ne_of_gt (by omega), fun p hp => ?_⟩
    have hp' : @LT.lt Nat _ p.1 s₁.heap.objs.size := Heap.lt_size (N p hp).1
    exact ⟨Nat.ne_of_lt hp', Nat.ne_of_lt (by omega), Nat.ne_of_lt (by omega)⟩
  have M : Midst h₀ L m news s₁.heap.objs.size la H2.objs.size H1.objs.size 0 [] h₃ := by
    refine ⟨⟨_, gI, rfl, rfl⟩, F.keeps old, ⟨_, hns⟩, fun p hp => ?_⟩
    rcases List.mem_cons.mp hp with rfl | hp
    · exact ⟨gD, AP.dl, AP.d0⟩
    · exact ⟨old _ _ (N p hp).1, (N p hp).2⟩
  have fin : ∀ ys h' tk', Fr h₀ L h' m → (∃ m', h'.Ns H2.objs.size m') → News h₀ L h' ((H1.objs.size, lst ys) :: news) → (∀ h'' , Fr h₀ L h'' m → News h₀ L h'' ((H1.objs.size, lst ys) :: news) → Q (.ref H1.objs.size) { s₁ with heap := h'', toks := tk' }) →
      compPost (model prog w) A E none Q (.ref H1.objs.size) H2.objs.size (.ok .next) { s₁ with heap := h', toks := tk' } := fun ys h' tk' F' hn N' q => by
    obtain ⟨m', hn⟩ := hn
    refine ⟨m', hn, fun h'' hs'' => q h'' (F'.change hs'' AP.cl AP.c0) fun p hp => ?_⟩
    refine ⟨hs''.extBut _ _ ?_ (N' p hp).1, (N' p hp).2⟩
    rcases List.mem_cons.mp hp with rfl | hp
    · exact AP.cd.symm
    · exact (AP.off p hp).2.1
  have loop := H s₁.heap.objs.size H2.objs.size H1.objs.size { s₁ with heap := h₃, toks := s₁.toks + ([] : List (Str × Value)).length } _ ⟨_, _, rfl⟩ AP M fin
  exact codeAny_compStart_list loop ((Walks.list hh s₁.heap.objs.size la (AP.off _ hla).1 its).self 0 _ _ _ ⟨M.it, M.list hla⟩ loop)
/-- [1 for x, y in .. if y] -/
theorem ones_loop {iter : PySem.Expr} {x y : Str} {px py pz pe pos tp : Pos} {tk u : Nat} {R : Result → Shared → Prop} {fs : Nat → Bool} (hla : (la, listOf its k) ∈ news) (AP : Apart h₀ L news I C D) (hh : A.handled = none) (hsz : its.size ≤ sizeLine)
    (hkind : scope.kind = .function) (hx : scope.names.lookup x = some .local) (hy : scope.names.lookup y = some .local) (hxy : x ≠ y) (hyd : (y == ("__debug__" : Str)) = false) (M : Midst h₀ L m news I la C D 0 [] s.heap)
    (hf : ∀ i, i < its.size → ∃ q v kq, its[i]? = some (.ref q) ∧ (q, listOf #[v, .bool (fs i)] kq) ∈ news)
    (fin : ∀ ys h' tk', (∀ v ∈ ys, ∃ t, v = .int 1 t) → (ys = [] ↔ ∀ i, i < its.size → fs i = false) → ys.length ≤ its.size → Fr h₀ L h' m → (∃ m', h'.Ns C m') → News h₀ L h' ((D, lst ys) :: news) → R (.ok .next) { s with heap := h', toks := tk' }) :
    codeAny (model prog w) A (.compLoop (.ListComp (.Constant (.int 1) u pe) [⟨.Tuple [.Name x px, .Name y py] tk tp, iter, [.Name y pz], 0⟩] scope pos) 0 (.ref I) (.ref D) (compEnvC scope cl C env)) R s := by
  refine kct_loop (fun n s' => ∃ h' tk' i ys, s' = { s with heap := h', toks := tk' } ∧ i ≤ its.size ∧ n = its.size + 1 - i ∧ ys.length ≤ i ∧ (∀ v ∈ ys, ∃ t, v = .int 1 t) ∧ (ys = [] ↔ ∀ j, j < i → fs j = false) ∧ Midst h₀ L m news I la C D i ys h') ?_ (its.size + 1)
    ⟨s.heap, s.toks, 0, [], rfl, Nat.zero_le _, rfl, Nat.le_refl _, fun _ h => (nomatch h), ⟨fun _ _ h => absurd h (Nat.not_lt_zero _), fun _ => rfl⟩, M⟩
  rintro n s' ⟨h', tk', i, ys, rfl, hi, rfl, hl, ho, he, M⟩
  by_cases hlt : i < its.size
  · obtain ⟨q, v, kq, hq, hm⟩ := hf i hlt
    refine pair_turn hla AP hh hlt hq hm hkind hx hy hxy M (fun _ _ => rfl) fun h' tk' m' M' hn hxv hyv => ?_
    refine wpAny_isTrue_value (ldVarK hn hyv ?_ (by simp [compEnvC, relabel, hkind]) (lookup_relabel_local hy) hyd) rfl
    refine wpAny_truthy_bool ?_
    cases hb : fs i with
    | false =>
      simp only [Bool.false_eq_true, if_false]
      refine ⟨its.size + 1 - (i + 1), by omega, h', _, i + 1, ys, rfl, hlt, rfl, Nat.le_succ_of_le hl, ho, he.trans ⟨fun a j hj => ?_, fun a j hj => a j (Nat.lt_succ_of_lt hj)⟩, M'⟩
      rcases Nat.lt_succ_iff_lt_or_eq.mp hj with z | rfl
      · exact a j z
      · exact hb
    | true =>
      simp only [if_true]
      refine wpAny_Constant_int ?_
      refine pair_append AP (Nat.le_trans (Nat.le_trans hl hi) hsz) M' fun h'' M'' => ?_
      refine ⟨its.size + 1 - (i + 1), by omega, h'', _, i + 1, _, rfl, hlt, rfl, by rw [List.length_append, List.length_singleton]; exact Nat.succ_le_succ hl, fun v hv => ?_, ⟨fun a => ?_, fun a => ?_⟩, M''⟩
      · rcases List.mem_append.mp hv with hv | hv
        · exact ho v hv
        · exact ⟨_, List.mem_singleton.mp hv⟩
      · exact absurd a (by simp)
      · have := a i (Nat.lt_succ_self _)
        rw [hb] at this
        cases this
  · obtain rfl : i = its.size := Nat.le_antisymm hi (Nat.not_lt.mp hlt)
    exact pair_done hla AP hh M fun h₂ tk₂ F₂ n₂ N₂ => fin ys h₂ tk₂ ho he hl F₂ n₂ N₂
/-- [x for x, y in ..] -/
theorem firsts_loop {iter : PySem.Expr} {x y : Str} {px py pe pos tp : Pos} {tk : Nat} {R : Result → Shared → Prop} {vs : List Value} (hla : (la, listOf its k) ∈ news) (AP : Apart h₀ L news I C D) (hh : A.handled = none) (hsz : its.size ≤ sizeLine)
    (hkind : scope.kind = .function) (hx : scope.names.lookup x = some .local) (hy : scope.names.lookup y = some .local) (hxy : x ≠ y) (hxd : (x == ("__debug__" : Str)) = false) (M : Midst h₀ L m news I la C D 0 [] s.heap)
    (hf : ∀ i, i < its.size → ∃ q v b kq, its[i]? = some (.ref q) ∧ (q, listOf #[v, b] kq) ∈ news ∧ vs[i]? = some v) (hvs : vs.length = its.size)
    (fin : ∀ h' tk', Fr h₀ L h' m → (∃ m', h'.Ns C m') → News h₀ L h' ((D, lst vs) :: news) → R (.ok .next) { s with heap := h', toks := tk' }) :
    codeAny (model prog w) A (.compLoop (.ListComp (.Name x pe) [⟨.Tuple [.Name x px, .Name y py] tk tp, iter, [], 0⟩] scope pos) 0 (.ref I) (.ref D) (compEnvC scope cl C env)) R s := by
  refine LCp.codeAny_compLoop_pair (fun n s' => ∃ h' tk' i, s' = { s with heap := h', toks := tk' } ∧ i ≤ its.size ∧ n = its.size + 1 - i ∧ Midst h₀ L m news I la C D i (vs.take i) h') ?_ (its.size + 1)
    ⟨s.heap, s.toks, 0, rfl, Nat.zero_le _, rfl, by rw [List.take_zero]; exact M⟩
  rintro n s' ⟨h', tk', i, rfl, hi, rfl, M⟩
  by_cases hlt : i < its.size
  · obtain ⟨q, v, b, kq, hq, hm, hv⟩ := hf i hlt
    refine pair_turn hla AP hh hlt hq hm hkind hx hy hxy M (fun _ _ => rfl) fun h' tk' m' M' hn hxv hyv => ?_
    refine ldVarK hn hxv ?_ (by simp [compEnvC, relabel, hkind]) (lookup_relabel_local hx) hxd
    refine pair_append AP (by rw [List.length_take]; omega) M' fun h'' M'' => ?_
    refine ⟨its.size + 1 - (i + 1), by omega, h'', _, i + 1, rfl, hlt, rfl, ?_⟩
    rw [List.take_succ, hv]
    exact M''
  · obtain rfl : i = its.size := Nat.le_antisymm hi (Nat.not_lt.mp hlt)
    rw [← hvs, List.take_length] at M
    rw [hvs] at M
    exact pair_done hla AP hh M fun h₂ tk₂ F₂ n₂ N₂ => fin h₂ tk₂ F₂ n₂ N₂
def OnesSrc (h₀ : Heap) (L : Addr) (m : Str → Option Value) (Q : Value → Shared → Prop) (xv : Value) (s₁ : Shared) : Prop :=
  ∃ (la : Addr) (its : Array Value) (k : Nat) (news : List (Addr × Obj)) (fs : Nat → Bool), xv = .ref la ∧ Fr h₀ L s₁.heap m ∧ News h₀ L s₁.heap news ∧ (la, listOf its k) ∈ news ∧ its.size ≤ sizeLine ∧ (∀ i, i < its.size → ∃ q v kq, its[i]? = some (.ref q) ∧ (q, listOf #[v, .bool (fs i)] kq) ∈ news) ∧
    ∀ D ys h tk, (∀ v ∈ ys, ∃ t, v = .int 1 t) → (ys = [] ↔ ∀ i, i < its.size → fs i = false) → Fr h₀ L h m → News h₀ L h ((D, lst ys) :: news) → Q (.ref D) { s₁ with heap := h, toks := tk }
theorem onesSrc {h₀ : Heap} {L la : Addr} {m : Str → Option Value} {its : Array Value} {k : Nat} {news ext : List (Addr × Obj)} {fs : Nat → Bool} {Q : Value → Shared → Prop} {s₁ : Shared} (F : Fr h₀ L s₁.heap m) (N : News h₀ L s₁.heap news) (hla : (la, listOf its k) ∈ news) (hz : its.size ≤ sizeLine)
    (hf : ∀ i, i < its.size → ∃ q v kq, its[i]? = some (.ref q) ∧ (q, listOf #[v, .bool (fs i)] kq) ∈ ext) (hsub : ∀ p ∈ ext, p ∈ news)
    (h : ∀ D ys h tk, (∀ v ∈ ys, ∃ t, v = .int 1 t) → (ys = [] ↔ ∀ i, i < its.size → fs i = false) → Fr h₀ L h m → News h₀ L h ((D, lst ys) :: news) → Q (.ref D) { s₁ with heap := h, toks := tk }) : OnesSrc h₀ L m Q (.ref la) s₁ :=
  ⟨la, its, k, news, fs, rfl, F, N, hla, hz, fun i hi => let ⟨q, v, kq, a, b⟩ := hf i hi; ⟨q, v, kq, a, hsub _ b⟩, h⟩
theorem comp_ones {iter : PySem.Expr} {x y : Str} {px py pz pe pos tp : Pos} {tk u : Nat} {Q E : Value → Shared → Prop} {s : Shared} (_F₀ : Fr h₀ L s.heap m)
    (hclos : closureFor scope env = pure cl) (hcell : ∀ y ∈ scope.names, y.2 ≠ .cell) (hkind : scope.kind = .function) (hnames : ∀ y ∈ scope.names, y.2 = .local → scope.names.lookup y.1 = some .local) (hh : A.handled = none)
    (hx : scope.names.lookup x = some .local) (hy : scope.names.lookup y = some .local) (hxy : x ≠ y) (hyd : (y == ("__debug__" : Str)) = false)
    (h : wpAny (model prog w) A (eval iter env) (OnesSrc h₀ L m Q) E s) (hs : ∀ x, foldedSetIterable iter env x = pure x := by intro _; rfl) :
    wpAny (model prog w) A (eval (.ListComp (.Constant (.int 1) u pe) [⟨.Tuple [.Name x px, .Name y py] tk tp, iter, [.Name y pz], 0⟩] scope pos) env) Q E s := by
  refine pair_enter (h₀ := h₀) (L := L) (m := m) hclos hcell hkind hnames hh (wpAny_mono h (fun xv s₁ h₁ => ?_) fun _ _ e => e) hs
  obtain ⟨la, its, k, news, fs, rfl, F, N, hla, hz, hf, H⟩ := h₁
  refine ⟨la, its, k, news, rfl, F, N, hla, fun I C D s₂ R hs₂ AP M fin => ?_⟩
  obtain ⟨h₂, tk₂, rfl⟩ := hs₂
  exact ones_loop hla AP hh hz hkind hx hy hxy hyd M hf fun ys h' tk' ho he _ F' n' N' => fin ys h' tk' F' n' N' fun h'' F'' N'' => H D ys h'' tk' ho he F'' N''
theorem ints_ones : ∀ {ys : List Value}, (∀ v ∈ ys, ∃ t, v = .int 1 t) → IntsAre ys (ys.map fun _ => (1 : Int))
  | [], _ => .nil
  | v :: r, h => by
    obtain ⟨t, rfl⟩ := h v (.head _)
    exact .cons 1 t (ints_ones fun z hz => h z (.tail _ hz))
theorem eq_ones {a b : Addr} {kb : Nat} {Q E : Value → Shared → Prop} {s : Shared} (hall : ∀ v ∈ ys, ∃ t, v = .int 1 t) (N : News h₀ L s.heap news) (ha : (a, lst ys) ∈ news) (hb : (b, listOf #[] kb) ∈ news) (hu : A.units + 64 < cLine)
    (h : Q (.bool ys.isEmpty) s) : wpAny (model prog w) A (compareOp .Eq (.ref a) (.ref b)) Q E s := by
  refine eq_intsK (vs := ys) (us := []) (ns := ys.map fun _ => (1 : Int)) (ms := []) ⟨_, (N _ ha).1, rfl, _, rfl⟩ (ints_ones hall) ⟨_, (N _ hb).1, rfl, _, rfl⟩ .nil hu ?_
  have e : decide (ys.map (fun _ => (1 : Int)) = []) = ys.isEmpty := by cases ys <;> simp
  rw [e]; exact h
end
end Mine
theorem Mine.word32 : True := by (k_with "call ref" => (k_here; (with_reducible show wpAny _ _ (call (Value.ref 563) [Value.str (Mine.lw _) _]) _ _ _); k_dflt (apply Mine.bounds_c; (case B => k_asm); (case F => k_asm); (case X => k_asm); (case N => k_asm); (case T => k_asm); (case hk => first | exact rfl | assumption); (case hi => assumption); (case hdp => ktr_room); (case hu => ktr_units); k_whole); intro r' k' P' G' e1' e2' h' tk' F' N' hb1' hb2'; (try dsimp only); (try k_fold))); trivial
theorem Mine.word33 : True := by (k_with "call ref" => (k_here; (with_reducible show wpAny _ _ (call (Value.ref 570) [_, Value.int _ _]) _ _ _); k_dflt (apply Mine.lfits_c; (case hb => assumption); (case hr => assumption); (case B => k_asm); (case F => k_asm); (case X => k_asm); (case N => k_asm); (case he => k_mem); (case T => k_asm); (case hk => first | exact rfl | assumption); (case hdp => ktr_room); (case hu => ktr_units); k_whole); intro h' tk' F' N'; (try dsimp only); (try k_fold))); trivial
theorem Mine.word34 : True := by (k_with "eval ListComp" => (k_here; (with_reducible show wpAny _ _ (eval (Expr.ListComp (Expr.Constant _ _ _) _ _ _) _) _ _ _); k_dflt (refine Mine.comp_ones (by k_asm) (by with_unfolding_all rfl) (by decide) (by rfl) (by decide) (by rfl) (by rfl) (by rfl) (by decide) (by decide) ?_))); trivial
theorem Mine.word35 : True := by (k_with "OnesSrc" => (k_here; k_dflt (apply Mine.onesSrc; (case F => k_asm); (case N => k_asm); (case hla => k_mem); (case hz => size_fits); (case hf => assumption); (case hsub => kcj_all); k_whole); intro D' ys' h' tk' ho' he' F' N'; (try dsimp only); (try k_fold))); trivial
theorem Mine.word36 : True := by (k_with "compareOp Eq ref ref" => (k_here; k_dflt (apply Mine.eq_ones; (case hall => assumption); (case N => k_asm); (case ha => k_mem); (case hb => k_mem); (case hu => units_room); k_whole))); trivial
namespace Mine
theorem and_r {b c : Bool} (h : b = true) : c = (b && c) := by subst h; rfl
theorem and_l {b c : Bool} (h : b = false) : b = (b && c) := by subst h; rfl
theorem and_f {b c : Bool} (h : b = false) : false = (b && c) := by subst h; rfl
theorem not_f {b : Bool} (h : b = false) : true = !b := by subst h; rfl
theorem not_t {b : Bool} (h : b = true) : false = !b := by subst h; rfl
theorem due_f {d r : Bool} {n : Int} {P : Prop} (hr : r = true ↔ (d = true → n = 1) ∧ P) (h1 : d = true) (h2 : n ≠ 1) : false = r := by
  cases r with
  | false => rfl
  | true => exact absurd ((hr.mp rfl).1 h1) h2
theorem due_o {d r : Bool} {n : Int} {P : Prop} {ys : List Value} (he : ys = [] ↔ P) (hr : r = true ↔ (d = true → n = 1) ∧ P) (h : d = true → n = 1) : ys.isEmpty = r := by
  rw [Bool.eq_iff_iff, List.isEmpty_iff, he, hr]
  exact ⟨fun p => ⟨h, p⟩, fun p => p.2⟩
theorem own1 {news : List (Addr × Obj)} {a : Addr × Obj} (h1 : a ∈ news) : ∀ p ∈ [a], p ∈ news := by
  intro p hp
  rcases List.mem_cons.mp hp with rfl | hp
  · exact h1
  · cases hp
section
variable {w : World} {vw : Program} {lo : List Str} {mean : ExcName → Option Value} {mg mb : Str → Option Value} {dp un : Nat} {gd : Option (List Code)} {cn : Str} {cs : Scope} {a : Addr} {ccd : Value} {cl : List (Str × Addr)} {outer : List Env} {A₀ : Around} {base h₀ : Heap} {L : Addr} {m : Str → Option Value} {news own : List (Addr × Obj)} {s : Shared} {Q E : Value → Shared → Prop}
variable (B : Below A₀ base outer h₀) (F : Fr h₀ L s.heap m) (X : (Mine.K w.params).In h₀) (N : News h₀ L s.heap news) (T : Top vw lo mean mg mb h₀) (hk : cs.kind = .function)
include B F X N T hk
theorem due_star (hdp : dp + 20 < recursionLimit) (hu : un + 150 < cLine) {i : Nat} (hi : i < 12) {la : Addr} {its : Array Value} {k : Nat} {t : Tok} {d : Bool} (n1 : (la, listOf its k) ∈ news) (hz : its.size < 9)
    (hret : ∀ h' tk', Fr h₀ L h' m → News h₀ L h' news → Q (.bool (decide (i = 6) && !d)) { s with heap := h', toks := tk' }) :
    wpAny (model prg w) (ktrTop dp un gd cn cs L a ccd cl outer) (call (.ref 582) [.str (lw i) t, .ref la, .bool d, .bool true]) Q E s := by
  have hown := own1 n1
  refine wpAny_call ?_
  (apply Mine.code_defO (binds := [(Str.ofString "word", .str (lw i) t), (Str.ofString "arguments", .ref la), (Str.ofString "is_distinct", .bool d), (Str.ofString "has_star", .bool true)]); walk_at "enterO")
  k_steps
  all_goals (refine retB hret ?_ (by assumption) (by walk_at "MNEWS"); rw [← lw_count hi]; first | exact and_r (by assumption) | exact and_l (by assumption))
theorem due_plain (hdp : dp + 20 < recursionLimit) (hu : un + 150 < cLine) {i : Nat} (hi : i < 12) {la : Addr} {its : Array Value} {k : Nat} {t : Tok} {d r : Bool} (n1 : (la, listOf its k) ∈ news) (hz : its.size < 9)
    (hG : fitsL its.size (gathB i) = false) (hP : fitsL its.size (plainB i) = r)
    (hret : ∀ h' tk', Fr h₀ L h' m → News h₀ L h' news → Q (.bool (r && !d)) { s with heap := h', toks := tk' }) :
    wpAny (model prg w) (ktrTop dp un gd cn cs L a ccd cl outer) (call (.ref 582) [.str (lw i) t, .ref la, .bool d, .bool false]) Q E s := by
  have hown := own1 n1
  refine wpAny_call ?_
  (apply Mine.code_defO (binds := [(Str.ofString "word", .str (lw i) t), (Str.ofString "arguments", .ref la), (Str.ofString "is_distinct", .bool d), (Str.ofString "has_star", .bool false)]); walk_at "enterO")
  k_steps
  all_goals (refine retB hret ?_ (by assumption) (by walk_at "MNEWS"); first | exact and_r (by assumption) | exact and_l (by assumption) | exact and_f (by assumption) | exact not_f (by assumption) | exact not_t (by assumption))
theorem due_gath (hdp : dp + 20 < recursionLimit) (hu : un + 150 < cLine) {i : Nat} (hi : i < 12) {la : Addr} {its : Array Value} {k : Nat} {t : Tok} {d r : Bool} {ext : List (Addr × Obj)} {fs : Nat → Bool} (hown : ∀ p ∈ (la, listOf its k) :: ext, p ∈ news) (hz : its.size < 9)
    (hf : ∀ i, i < its.size → ∃ q v kq, its[i]? = some (.ref q) ∧ (q, listOf #[v, .bool (fs i)] kq) ∈ ext) (hG : fitsL its.size (gathB i) = true) (hr : r = true ↔ (d = true → (its.size : Int) = 1) ∧ ∀ i, i < its.size → fs i = false)
    (hret : ∀ h' tk', Fr h₀ L h' m → News h₀ L h' news → Q (.bool r) { s with heap := h', toks := tk' }) :
    wpAny (model prg w) (ktrTop dp un gd cn cs L a ccd cl outer) (call (.ref 582) [.str (lw i) t, .ref la, .bool d, .bool false]) Q E s := by
  refine wpAny_call ?_
  (apply Mine.code_defO (binds := [(Str.ofString "word", .str (lw i) t), (Str.ofString "arguments", .ref la), (Str.ofString "is_distinct", .bool d), (Str.ofString "has_star", .bool false)]); walk_at "enterO")
  k_steps
  all_goals (refine retB hret ?_ (by assumption) (by walk_at "MNEWS"); first | exact due_f hr (by assumption) (by assumption) | exact due_o (by assumption) hr (fun h => absurd (h.symm.trans (show d = false by assumption)) (by decide)) | exact due_o (by assumption) hr (fun _ => by assumption) | exact due_o (by assumption) hr (fun _ => by omega))
end
end Mine
namespace Mine
def LeaveM (h₀ : Heap) (L : Addr) (m : Str → Option Value) (rest : List (Addr × Obj)) (g : Heap) (R : Result → Shared → Prop) (v : Value) (s' : Shared) : Prop :=
  ∃ L' m' news', Fr g L' s'.heap m' ∧ News g L' s'.heap news' ∧ (Fr h₀ L s'.heap m → News h₀ L s'.heap (news' ++ rest) → (∀ p ∈ news', ∀ q ∈ rest, p.1 ≠ q.1) → R (.ok (.ret v)) s')
theorem leaveM {h₀ g : Heap} {L L' : Addr} {m m' : Str → Option Value} {rest news' : List (Addr × Obj)} {R : Result → Shared → Prop} {v : Value} {s' : Shared} (F' : Fr g L' s'.heap m') (N' : News g L' s'.heap news')
    (k : Fr h₀ L s'.heap m → News h₀ L s'.heap (news' ++ rest) → (∀ p ∈ news', ∀ q ∈ rest, p.1 ≠ q.1) → R (.ok (.ret v)) s') : LeaveM h₀ L m rest g R v s' := ⟨L', m', news', F', N', k⟩
section
variable {prog : Program} {w : World} {A₀ A : Around} {s : Shared} {base h₀ : Heap} {outer : List Env} {L a : Addr} {m : Str → Option Value} {env0 : Env} {rest own : List (Addr × Obj)} {K : Frag} {p : Program} {loose : List Str} {mean : ExcName → Option Value} {mg mb : Str → Option Value}
    {R : Result → Shared → Prop} {name qual : Str} {params : Arguments} {body : List Stmt} {scope : Scope} {dV kV doc pm cdv ct oc : Value} {an od : Option Addr} {osl : Array (Option Value)} {f : Addr} {args : Args} {binds : List (Str × Value)}
/-- a def entered with a written part of the ledger alone, which it may change -/
theorem code_defM (B : Below A₀ base outer h₀) (F : Fr h₀ L s.heap m) (X₀ : K.In h₀) (N : News h₀ L s.heap (own ++ rest)) (hdis : ∀ q ∈ rest, q.1 ∉ own.map (·.1)) (T : Top p loose mean mg mb h₀) (hA : A.frames = some (env0 :: outer)) (hF0 : env0.frame = some L) (hke : env0.scope.kind = .function)
    (ho : K.lookup f = some ⟨oc, od, .func (fnOf name qual params body scope dV kV doc pm an cdv ct), osl⟩) (hcd : codeIn K cdv qual = true) (hroom : A.depth < recursionLimit)
    (hbind : BindsTo s (fnOf name qual params body scope dV kV doc pm an cdv ct) args binds) (hloc : ∀ y ∈ binds, scope.names.lookup y.1 = some .local)
    (h : ∀ g L' h₁, Fr h₀ L g m → Fr g L' h₁ (fun y => binds.reverse.lookup y) → News g L' h₁ own → Below A base (env0 :: outer) g → K.In g → Top p loose mean mg mb g →
      wpAny (model prog w) (A.deeper (envOf qual scope L' f cdv)) (execs body (envOf qual scope L' f cdv))
        (fun fl s' => LeaveM h₀ L m rest g R (match fl with | .ret v => v | _ => .none) s')
        (fun e s' => wpAny (model prog w) (A.deeper (envOf qual scope L' f cdv)) (leaving (envOf qual scope L' f cdv) e) (fun _ s'' => R (.error e) s'') (fun e' s'' => R (.error e') s'') s')
        { s with heap := h₁, toks := s.toks + binds.length })
    (hco : scope.isCoroutine = false) (hgen : scope.isGenerator = false) (hk : scope.kind = .function)
    (hcell : ∀ x ∈ scope.names, x.2 ≠ .cell) : codeAny (model prog w) A (.call (.ref f) args) R s := by
  have No : News h₀ L s.heap own := fun p hp => N p (List.mem_append_left _ hp)
  obtain ⟨FG, BG, st, lv⟩ := groundX (R := R) B F No hA hF0 hke
  refine codeAny_call_def (fd := fnOf name qual params body scope dV kV doc pm an cdv ct) (body := body) (binds := binds) hroom ((X₀.keeps F.keep) _ _ ho) rfl (T.nolimit.keeps F.keep) (codeRec_of (X₀.keeps F.keep) hcd) rfl hbind hcell hloc (fun h₁ hns hk₁ => ?_) hco hgen hk
  refine wpAny_mono (h _ s.heap.objs.size h₁ FG ⟨hns, fun b o e => hk₁ b o (of_hideAll _ e), Nat.le_of_eq (hideAll_size _ _)⟩
    (fun p hp => ⟨hk₁ _ _ (No p hp).1, Nat.ne_of_lt (Heap.lt_size (No p hp).1), hideAll_none _ (List.mem_map_of_mem hp)⟩) BG (X₀.keeps st) (T.keeps st)) (fun fl s' hl => lv _ _ ?_) fun _ _ y => y
  obtain ⟨L', m', news', F', N', k⟩ := hl
  refine ⟨L', m', news', F', N', fun F₀ N₀ => k F₀ (fun p hp => ?_) fun p hp q hq e => ?_⟩
  · rcases List.mem_append.mp hp with hp | hp
    · exact N₀ p hp
    · have z := N p (List.mem_append_right _ hp)
      exact ⟨F'.keep _ _ (hideAll_get _ z.1 (hdis p hp)), z.2⟩
  · have z := hideAll_get (own.map (·.1)) (N q (List.mem_append_right _ hq)).1 (hdis q hq)
    rw [← e, (N' p hp).2.2] at z
    cases z
end
end Mine
theorem Mine.word37 : True := by (k_with "enterM" => ((case hA => exact rfl); (case hF0 => exact rfl); (case hke => first | exact rfl | assumption); (case B => k_asm); (case F => k_asm); (case X₀ => k_asm); (case N => assumption); (case hdis => assumption); (case T => k_asm); (case ho => k_is); (case hcd => k_is); (case hroom => k_room); (case hbind => first | exact BindsTo.of_eq rfl | exact binds_K (by k_in) rfl (by k_is) rfl rfl rfl); (case hcell => decide); (case hloc => exact locs rfl); (case hco => exact rfl); (case hgen => exact rfl); (case hk => exact rfl); k_whole; intro g' L' h' FG' F' N' B' X' T'; (try dsimp only); (try k_lift B'); (try k_fold))); trivial
theorem Mine.word38 : True := by (k_with "LeaveM" => (apply Mine.leaveM; (case F' => k_asm); (case N' => k_asm); k_whole; intro kF kN kO; (try dsimp only [List.cons_append, List.nil_append] at kF kN); (try dsimp only))); trivial
namespace Mine
theorem fmod_lo (x : Int) : 0 ≤ x.fmod 2147483647 := Int.fmod_nonneg_of_pos x (by decide)
theorem fmod_hi (x : Int) : x.fmod 2147483647 < 2147483647 := Int.fmod_lt_of_pos x (by decide)
theorem mulOk (x y : Int) : IntMulOk (x.fmod 2147483647) y := by
  have h1 := fmod_lo x
  have h2 := fmod_hi x
  exact PySem.IntMulOk.of_left (PySem.intBits_le_64 (by omega) (by omega))
end Mine
local macro_rules | `(tactic| mul_fits) => `(tactic| (k_dflt exact Mine.mulOk _ _))
namespace Mine
section
variable {w : World} {vw : Program} {lo : List Str} {mean : ExcName → Option Value} {mg mb : Str → Option Value} {dp un : Nat} {gd : Option (List Code)} {cn : Str} {cs : Scope} {a : Addr} {ccd : Value} {cl : List (Str × Addr)} {outer : List Env} {A₀ : Around} {base h₀ : Heap} {L : Addr} {m : Str → Option Value} {rest : List (Addr × Obj)} {s : Shared} {Q E : Value → Shared → Prop}
/-- the source as it lies on the heap -/
def Src (src : Addr) (b c : Int) (t1 t2 : Tok) (k : Nat) : Addr × Obj := (src, listOf #[.int b t1, .int c t2] k)
theorem take_c (B : Below A₀ base outer h₀) (F : Fr h₀ L s.heap m) (X : (Mine.K w.params).In h₀) (T : Top vw lo mean mg mb h₀) (hk : cs.kind = .function) (hdp : dp + 10 < recursionLimit) (hu : un + 80 < cLine)
    {src : Addr} {b c top : Int} {t t1 t2 : Tok} {k : Nat} (hb : 0 ≤ b) (hc : 0 ≤ c) (ht : 0 < top) (ht2 : top < 100) (N : News h₀ L s.heap ([(src, listOf #[.int b t1, .int c t2] k)] ++ rest)) (hdis : ∀ q ∈ rest, q.1 ∉ [(src, listOf #[.int b t1, .int c t2] k)].map (·.1))
    (hret : ∀ d b' c' t t1 t2 k h' tk', 0 ≤ d → d < top → 0 ≤ b' → 0 ≤ c' → Fr h₀ L h' m → News h₀ L h' ((src, listOf #[.int b' t1, .int c' t2] k) :: rest) → Q (.int d t) { s with heap := h', toks := tk' }) :
    wpAny (model prg w) (ktrTop dp un gd cn cs L a ccd cl outer) (call (.ref 556) [.ref src, .int top t]) Q E s := by
  refine wpAny_call ?_
  (apply Mine.code_defM (binds := [(Str.ofString "source", .ref src), (Str.ofString "top", .int top t)]); walk_at "enterM")
  k_steps
  all_goals (refine hret _ _ _ _ _ _ _ _ _ (Int.fmod_nonneg_of_pos _ ht) (Int.fmod_lt_of_pos _ ht) ?_ ?_ (by assumption) (by assumption) <;> first | exact hb | exact hc | exact Int.fdiv_nonneg hb (Int.le_of_lt ht) | exact fmod_lo _)
end
end Mine
namespace Mine
section
variable {w : World} {vw : Program} {lo : List Str} {mean : ExcName → Option Value} {mg mb : Str → Option Value} {dp un : Nat} {gd : Option (List Code)} {cn : Str} {cs : Scope} {a : Addr} {ccd : Value} {cl : List (Str × Addr)} {outer : List Env} {A₀ : Around} {base h₀ : Heap} {L : Addr} {m : Str → Option Value} {news : List (Addr × Obj)} {s : Shared} {Q E : Value → Shared → Prop}
theorem take_u {g : Obj → List (Addr × Obj)} (B : Below A₀ base outer h₀) (F : Fr h₀ L s.heap m) (X : (Mine.K w.params).In h₀) (N : News h₀ L s.heap news) (T : Top vw lo mean mg mb h₀) (hk : cs.kind = .function) (hdp : dp + 10 < recursionLimit) (hu : un + 80 < cLine)
    {src : Addr} {b c top : Int} {t t1 t2 : Tok} {k : Nat} (U : UpdF src (listOf #[.int b t1, .int c t2] k) news g) (hb : 0 ≤ b) (hc : 0 ≤ c) (ht : 0 < top) (ht2 : top < 100)
    (hret : ∀ d b' c' t t1 t2 k h' tk', 0 ≤ d → d < top → 0 ≤ b' → 0 ≤ c' → Fr h₀ L h' m → News h₀ L h' (g (listOf #[.int b' t1, .int c' t2] k)) → Q (.int d t) { s with heap := h', toks := tk' }) :
    wpAny (model prg w) (ktrTop dp un gd cn cs L a ccd cl outer) (call (.ref 556) [.ref src, .int top t]) Q E s := by
  obtain ⟨pre, post, rfl, hg, h1, h2⟩ := U.split
  refine take_c (rest := pre ++ post) (t1 := t1) (t2 := t2) (k := k) B F X T hk hdp hu hb hc ht ht2 (fun (p : Addr × Obj) hp => N p ?_) (fun q hq => ?_) fun d b' c' t t1 t2 k h' tk' e1 e2 e3 e4 F' N' => hret d b' c' t t1 t2 k h' tk' e1 e2 e3 e4 F' (fun (p : Addr × Obj) hp => N' p ?_)
  · have hp : p ∈ (src, listOf #[.int b t1, .int c t2] k) :: (pre ++ post) := hp
    rcases List.mem_cons.mp hp with rfl | hp
    · exact List.mem_append_right _ (.head _)
    · rcases List.mem_append.mp hp with hp | hp
      · exact List.mem_append_left _ hp
      · exact List.mem_append_right _ (.tail _ hp)
  · intro hm
    have e : q.1 = src := by simpa using hm
    rcases List.mem_append.mp hq with hq | hq
    · exact h1 q hq e
    · exact h2 q hq e
  · rw [hg] at hp
    rcases List.mem_append.mp hp with hp | hp
    · exact .tail _ (List.mem_append_left _ hp)
    · rcases List.mem_cons.mp hp with rfl | hp
      · exact .head _
      · exact .tail _ (List.mem_append_right _ hp)
end
end Mine
theorem Mine.word39 : True := by (k_with "call ref" => (k_here; (with_reducible show wpAny _ _ (call (Value.ref 556) [Value.ref _, Value.int _ _]) _ _ _); k_dflt (apply Mine.take_u; (case B => k_asm); (case F => k_asm); (case X => k_asm); (case N => k_asm); (case T => k_asm); (case hk => first | exact rfl | assumption); (case U => k_updF); (case hb => assumption); (case hc => assumption); (case ht => decide); (case ht2 => decide); (case hdp => ktr_room); (case hu => ktr_units); k_whole); intro d' b' c' t' t1' t2' k' h' tk' hd0' hd1' hb' hc' F' N'; (try dsimp only at N'); (try dsimp only); (try k_fold))); trivial
namespace Mine
section
variable {h₀ h' : Heap} {L src q : Addr} {m : Str → Option Value} {K rest own : List (Addr × Obj)} {s : Shared} {Q : Value → Shared → Prop} {tk' kq k : Nat} {b' c' : Int} {t1 t2 : Tok} {v : Value} {f : Bool}
def FreshIn (src : Addr) (rest new : List (Addr × Obj)) : Prop := ∀ p ∈ new, p.1 ≠ src ∧ ∀ r ∈ rest, p.1 ≠ r.1
abbrev ArgRet (h₀ : Heap) (L : Addr) (m : Str → Option Value) (rest : List (Addr × Obj)) (src : Addr) (s : Shared) (Q : Value → Shared → Prop) : Prop :=
  ∀ q kq v f own b' c' t1 t2 k h' tk', ArgShape own v f → FreshIn src rest ((q, listOf #[v, .bool f] kq) :: own) → 0 ≤ b' → 0 ≤ c' → Fr h₀ L h' m → News h₀ L h' ((src, listOf #[.int b' t1, .int c' t2] k) :: (q, listOf #[v, .bool f] kq) :: (own ++ rest)) → Q (.ref q) { s with heap := h', toks := tk' }
theorem end_arg (hret : ArgRet h₀ L m rest src s Q)
    (hb : 0 ≤ b') (hc : 0 ≤ c') (F : Fr h₀ L h' m) (hO : ∀ p ∈ K, ∀ q ∈ rest, p.1 ≠ q.1) (N : News h₀ L h' (K ++ rest)) (hq : (q, listOf #[v, .bool f] kq) ∈ K) (hs : (src, listOf #[.int b' t1, .int c' t2] k) ∈ K) (nq : q ≠ src) (S : ArgShape own v f) (ho : ∀ p ∈ own, p ∈ K ∧ p.1 ≠ src) : Q (.ref q) { s with heap := h', toks := tk' } := by
  refine hret q kq v f own b' c' t1 t2 k h' tk' S (fun p hp => ?_) hb hc F ?_
  · rcases List.mem_cons.mp hp with rfl | hp
    · exact ⟨nq, hO _ hq⟩
    · exact ⟨(ho p hp).2, hO p (ho p hp).1⟩
  · intro p hp
    refine N p ?_
    rcases List.mem_cons.mp hp with rfl | hp
    · exact List.mem_append_left _ hs
    · rcases List.mem_cons.mp hp with rfl | hp
      · exact List.mem_append_left _ hq
      · rcases List.mem_append.mp hp with hp | hp
        · exact List.mem_append_left _ (ho p hp).1
        · exact List.mem_append_right _ hp
theorem seven {P : Addr × Obj → Prop} {e1 e2 e3 e4 e5 e6 e7 : Addr × Obj} (h1 : P e1) (h2 : P e2) (h3 : P e3) (h4 : P e4) (h5 : P e5) (h6 : P e6) (h7 : P e7) : ∀ p ∈ [e1, e2, e3, e4, e5, e6, e7], P p := by
  intro p hp
  simp only [List.mem_cons, List.not_mem_nil, or_false] at hp
  rcases hp with rfl | rfl | rfl | rfl | rfl | rfl | rfl <;> assumption
theorem end_lit {x dx : Addr} {h : Int} {t : Tok} {u : Value} {n : Nat} (hret : ArgRet h₀ L m rest src s Q)
    (hb : 0 ≤ b') (hc : 0 ≤ c') (F : Fr h₀ L h' m) (hO : ∀ p ∈ K, ∀ q ∈ rest, p.1 ≠ q.1) (N : News h₀ L h' (K ++ rest)) (hq : (q, listOf #[.ref x, .bool false] kq) ∈ K) (hs : (src, listOf #[.int b' t1, .int c' t2] k) ∈ K) (nq : q ≠ src)
    (m1 : (x, instObj 174 dx) ∈ K) (m2 : (dx, dictOf [⟨h, .str (Str.ofString "value") t, u⟩] n) ∈ K) (n1 : x ≠ src) (n2 : dx ≠ src) : Q (.ref q) { s with heap := h', toks := tk' } :=
  end_arg hret hb hc F hO N hq hs nq .lit (seven ⟨m1, n1⟩ ⟨m2, n2⟩ ⟨m1, n1⟩ ⟨m1, n1⟩ ⟨m1, n1⟩ ⟨m1, n1⟩ ⟨m1, n1⟩)
theorem end_max {x dx la a1 d1 a2 d2 : Addr} {h1 h2 h3 h4 h5 h6 : Int} {u1 u2 u3 u4 u5 u6 u7 : Tok} {v1 v2 : Value} {n kk n1 n2 : Nat} (hret : ArgRet h₀ L m rest src s Q)
    (hb : 0 ≤ b') (hc : 0 ≤ c') (F : Fr h₀ L h' m) (hO : ∀ p ∈ K, ∀ q ∈ rest, p.1 ≠ q.1) (N : News h₀ L h' (K ++ rest)) (hq : (q, listOf #[.ref x, .bool false] kq) ∈ K) (hs : (src, listOf #[.int b' t1, .int c' t2] k) ∈ K) (nq : q ≠ src)
    (m1 : (x, instObj 380 dx) ∈ K) (m2 : (dx, dictOf [⟨h1, .str (Str.ofString "name") u1, .str (Str.ofString "max") u2⟩, ⟨h2, .str (Str.ofString "arguments") u3, .ref la⟩, ⟨h3, .str (Str.ofString "distinct") u4, .bool false⟩, ⟨h4, .str (Str.ofString "star") u5, .bool false⟩] n) ∈ K)
    (m3 : (la, listOf #[.ref a1, .ref a2] kk) ∈ K) (m4 : (a1, instObj 174 d1) ∈ K) (m5 : (d1, dictOf [⟨h5, .str (Str.ofString "value") u6, v1⟩] n1) ∈ K) (m6 : (a2, instObj 174 d2) ∈ K) (m7 : (d2, dictOf [⟨h6, .str (Str.ofString "value") u7, v2⟩] n2) ∈ K)
    (o1 : x ≠ src) (o2 : dx ≠ src) (o3 : la ≠ src) (o4 : a1 ≠ src) (o5 : d1 ≠ src) (o6 : a2 ≠ src) (o7 : d2 ≠ src) : Q (.ref q) { s with heap := h', toks := tk' } :=
  end_arg hret hb hc F hO N hq hs nq .max (seven ⟨m1, o1⟩ ⟨m2, o2⟩ ⟨m3, o3⟩ ⟨m4, o4⟩ ⟨m5, o5⟩ ⟨m6, o6⟩ ⟨m7, o7⟩)
theorem end_agg {x dx a1 d1 c dc la : Addr} {h1 h2 h3 h4 h5 h6 h7 h8 : Int} {u1 u2 u3 u4 u5 u6 u7 u8 u9 u10 : Tok} {v1 v2 : Value} {n n1 n2 kk : Nat} (hret : ArgRet h₀ L m rest src s Q)
    (hb : 0 ≤ b') (hc : 0 ≤ c') (F : Fr h₀ L h' m) (hO : ∀ p ∈ K, ∀ q ∈ rest, p.1 ≠ q.1) (N : News h₀ L h' (K ++ rest)) (hq : (q, listOf #[.ref x, .bool true] kq) ∈ K) (hs : (src, listOf #[.int b' t1, .int c' t2] k) ∈ K) (nq : q ≠ src)
    (m1 : (x, instObj 252 dx) ∈ K) (m2 : (dx, dictOf [⟨h1, .str (Str.ofString "op") u1, .str (Str.ofString "+") u2⟩, ⟨h2, .str (Str.ofString "left") u3, .ref a1⟩, ⟨h3, .str (Str.ofString "right") u4, .ref c⟩] n) ∈ K)
    (m3 : (a1, instObj 174 d1) ∈ K) (m4 : (d1, dictOf [⟨h4, .str (Str.ofString "value") u5, v1⟩] n1) ∈ K) (m5 : (c, instObj 380 dc) ∈ K) (m6 : (dc, dictOf [⟨h5, .str (Str.ofString "name") u6, .str (Str.ofString "Sum") u7⟩, ⟨h6, .str (Str.ofString "arguments") u8, .ref la⟩, ⟨h7, .str (Str.ofString "distinct") u9, .bool false⟩, ⟨h8, .str (Str.ofString "star") u10, .bool false⟩] n2) ∈ K) (m7 : (la, listOf #[v2] kk) ∈ K)
    (o1 : x ≠ src) (o2 : dx ≠ src) (o3 : a1 ≠ src) (o4 : d1 ≠ src) (o5 : c ≠ src) (o6 : dc ≠ src) (o7 : la ≠ src) : Q (.ref q) { s with heap := h', toks := tk' } :=
  end_arg hret hb hc F hO N hq hs nq .agg (seven ⟨m1, o1⟩ ⟨m2, o2⟩ ⟨m3, o3⟩ ⟨m4, o4⟩ ⟨m5, o5⟩ ⟨m6, o6⟩ ⟨m7, o7⟩)
end
end Mine
namespace Mine
section
variable {w : World} {vw : Program} {lo : List Str} {mean : ExcName → Option Value} {mg mb : Str → Option Value} {dp un : Nat} {gd : Option (List Code)} {cn : Str} {cs : Scope} {a : Addr} {ccd : Value} {cl : List (Str × Addr)} {outer : List Env} {A₀ : Around} {base h₀ : Heap} {L : Addr} {m : Str → Option Value} {rest : List (Addr × Obj)} {s : Shared} {Q E : Value → Shared → Prop}
theorem argument_c (B : Below A₀ base outer h₀) (F : Fr h₀ L s.heap m) (X : (Mine.K w.params).In h₀) (T : Top vw lo mean mg mb h₀) (hk : cs.kind = .function) (hdp : dp + 20 < recursionLimit) (hu : un + 150 < cLine)
    {src : Addr} {b c : Int} {t1 t2 : Tok} {k : Nat} (hb : 0 ≤ b) (hc : 0 ≤ c) (N : News h₀ L s.heap ([(src, listOf #[.int b t1, .int c t2] k)] ++ rest)) (hdis : ∀ q ∈ rest, q.1 ∉ [(src, listOf #[.int b t1, .int c t2] k)].map (·.1))
    (hret : ArgRet h₀ L m rest src s Q) :
    wpAny (model prg w) (ktrTop dp un gd cn cs L a ccd cl outer) (call (.ref 577) [.ref src]) Q E s := by
  refine wpAny_call ?_
  (apply Mine.code_defM (binds := [(Str.ofString "source", .ref src)]); walk_at "enterM")
  k_steps
  all_goals (first | (apply Mine.end_lit hret; (case F => assumption); (case hO => assumption); (case N => assumption); (case hq => k_mem); (case hs => k_mem); (case hb => assumption); (case hc => assumption); (case m1 => k_mem); (case m2 => k_mem); (case nq => k_ne); (case n1 => k_ne); (case n2 => k_ne)) | (apply Mine.end_max hret; (case F => assumption); (case hO => assumption); (case N => assumption); (case hq => k_mem); (case hs => k_mem); (case hb => assumption); (case hc => assumption); (case m1 => k_mem); (case m2 => k_mem); (case m3 => k_mem); (case m4 => k_mem); (case m5 => k_mem); (case m6 => k_mem); (case m7 => k_mem); (case nq => k_ne); (case o1 => k_ne); (case o2 => k_ne); (case o3 => k_ne); (case o4 => k_ne); (case o5 => k_ne); (case o6 => k_ne); (case o7 => k_ne)) | (apply Mine.end_agg hret; (case F => assumption); (case hO => assumption); (case N => assumption); (case hq => k_mem); (case hs => k_mem); (case hb => assumption); (case hc => assumption); (case m1 => k_mem); (case m2 => k_mem); (case m3 => k_mem); (case m4 => k_mem); (case m5 => k_mem); (case m6 => k_mem); (case m7 => k_mem); (case nq => k_ne); (case o1 => k_ne); (case o2 => k_ne); (case o3 => k_ne); (case o4 => k_ne); (case o5 => k_ne); (case o6 => k_ne); (case o7 => k_ne)))
end
end Mine
namespace Mine
/-- what the law asks of a call: it is let -/
def Due (i n : Nat) (d st : Bool) (fs : Nat → Bool) (r : Bool) : Prop :=
  (st = true → (r = true ↔ i = 6 ∧ d = false)) ∧ (st = false → fitsL n (gathB i) = true → (r = true ↔ (d = true → (n : Int) = 1) ∧ ∀ j, j < n → fs j = false)) ∧
    (st = false → fitsL n (gathB i) = false → r = (fitsL n (plainB i) && !d))
def Args (news : List (Addr × Obj)) (its : Array Value) (vs : List Value) (fs : Nat → Bool) : Prop :=
  vs.length = its.size ∧ ∀ i, i < its.size → ∃ q v k own, its[i]? = some (.ref q) ∧ vs[i]? = some v ∧ (q, listOf #[v, .bool (fs i)] k) ∈ news ∧ ArgShape own v (fs i) ∧ ∀ p ∈ own, p ∈ news
theorem Args.mono {news news' : List (Addr × Obj)} {its : Array Value} {vs : List Value} {fs : Nat → Bool} (A : Args news its vs fs) (h : ∀ p ∈ news, p ∈ news') : Args news' its vs fs :=
  ⟨A.1, fun i hi => let ⟨q, v, k, own, a, b, c, d, e⟩ := A.2 i hi; ⟨q, v, k, own, a, b, h _ c, d, fun p hp => h p (e p hp)⟩⟩
theorem due_ex (i n : Nat) (d st : Bool) (fs : Nat → Bool) : ∃ r, Due i n d st fs r := by
  cases st with
  | true => exact ⟨decide (i = 6) && !d, fun _ => by cases d <;> simp, fun h => (nomatch h), fun h => (nomatch h)⟩
  | false =>
    cases hG : fitsL n (gathB i) with
    | true =>
      by_cases hp : (d = true → (n : Int) = 1) ∧ ∀ j, j < n → fs j = false
      · exact ⟨true, fun h => (nomatch h), fun _ _ => ⟨fun _ => hp, fun _ => rfl⟩, fun _ h => (nomatch h.symm.trans hG)⟩
      · exact ⟨false, fun h => (nomatch h), fun _ _ => ⟨fun h => (nomatch h), fun h => absurd h hp⟩, fun _ h => (nomatch h.symm.trans hG)⟩
    | false => exact ⟨_, fun h => (nomatch h), fun _ h => (nomatch h.symm.trans hG), fun _ _ => rfl⟩
theorem isAgg_gath {i : Nat} (hi : i < 12) (n : Nat) : isAgg i n false = fitsL n (gathB i) := by
  refine twelve (P := fun i => isAgg i n false = fitsL n (gathB i)) ?_ ?_ ?_ ?_ ?_ ?_ ?_ ?_ ?_ ?_ ?_ ?_ hi <;> simp [isAgg, aggAt, gathB, fitsL, fitsB]
theorem scl_plain {i : Nat} (hi : i < 12) {n : Nat} (hn : n ≤ 4) : sclB i n = fitsL n (plainB i) := by
  refine twelve (P := fun i => sclB i n = fitsL n (plainB i)) ?_ ?_ ?_ ?_ ?_ ?_ ?_ ?_ ?_ ?_ ?_ ?_ hi <;> simp [sclB, sclAt, plainB, fitsL, fitsB] <;> omega
theorem gath_two {i : Nat} (hi : i < 12) {n : Nat} : fitsL n (gathB i) = true → n ≤ 2 := by
  refine twelve (P := fun i => fitsL n (gathB i) = true → n ≤ 2) ?_ ?_ ?_ ?_ ?_ ?_ ?_ ?_ ?_ ?_ ?_ ?_ hi <;> simp [gathB, fitsL] <;> omega
theorem seven_of {own : List (Addr × Obj)} {v : Value} {f : Bool} (S : ArgShape own v f) : ∃ b1 o1 b2 o2 b3 o3 b4 o4 b5 o5 b6 o6 b7 o7, own = [(b1, o1), (b2, o2), (b3, o3), (b4, o4), (b5, o5), (b6, o6), (b7, o7)] := by
  cases S <;> exact ⟨_, _, _, _, _, _, _, _, _, _, _, _, _, _, rfl⟩
section
variable {w : World} {vw : Program} {lo : List Str} {mean : ExcName → Option Value} {mg mb : Str → Option Value} {dp un : Nat} {gd : Option (List Code)} {cn : Str} {cs : Scope} {a : Addr} {ccd : Value} {cl : List (Str × Addr)} {outer : List Env} {A₀ : Around} {base h₀ : Heap} {L : Addr} {m : Str → Option Value} {news : List (Addr × Obj)} {s : Shared} {Q E : Value → Shared → Prop}
variable (B : Below A₀ base outer h₀) (F : Fr h₀ L s.heap m) (X : (Mine.K w.params).In h₀) (N : News h₀ L s.heap news) (T : Top vw lo mean mg mb h₀) (hk : cs.kind = .function)
variable (XB : (Mine.K w.params).In base) (TB : Top vw lo mean mg mb base) (D : KtsDicts (outer.filterMap (·.frame)) h₀)
include B F X N T hk in
theorem due_all (hdp : dp + 20 < recursionLimit) (hu : un + 150 < cLine) {i : Nat} (hi : i < 12) {la : Addr} {its : Array Value} {vs : List Value} {fs : Nat → Bool} {k : Nat} {t : Tok} {d st r : Bool} (n1 : (la, listOf its k) ∈ news) (A : Args news its vs fs) (hz : its.size ≤ 4) (hr : Due i its.size d st fs r)
    (hret : ∀ h' tk', Fr h₀ L h' m → News h₀ L h' news → Q (.bool r) { s with heap := h', toks := tk' }) :
    wpAny (model prg w) (ktrTop dp un gd cn cs L a ccd cl outer) (call (.ref 582) [.str (lw i) t, .ref la, .bool d, .bool st]) Q E s := by
  cases st with
  | true =>
    have e : (decide (i = 6) && !d) = r := by rw [Bool.eq_iff_iff, hr.1 rfl]; simp
    exact due_star B F X N T hk hdp hu hi n1 (by omega) (e ▸ hret)
  | false =>
    cases hG : fitsL its.size (gathB i) with
    | true =>
      exact due_gath B F X N T hk hdp hu hi (ext := news) (fs := fs) (fun p hp => by rcases List.mem_cons.mp hp with rfl | hp; exact n1; exact hp) (by omega) (fun i hi => let ⟨q, v, k, own, a, b, c, d, e⟩ := A.2 i hi; ⟨q, v, k, a, c⟩) hG (hr.2.1 rfl hG) hret
    | false =>
      have e := hr.2.2 rfl hG
      exact due_plain B F X N T hk hdp hu hi n1 (by omega) hG rfl (e ▸ hret)
omit B F X N T hk XB TB D in
theorem own_app {news own : List (Addr × Obj)} {a b c : Addr × Obj} (h1 : a ∈ news) (h2 : b ∈ news) (h3 : c ∈ news) (h : ∀ p ∈ own, p ∈ news) : ∀ p ∈ a :: b :: c :: own, p ∈ news := by
  intro p hp
  rcases List.mem_cons.mp hp with rfl | hp
  · exact h1
  · rcases List.mem_cons.mp hp with rfl | hp
    · exact h2
    · rcases List.mem_cons.mp hp with rfl | hp
      · exact h3
      · exact h p hp
include B F X N T hk XB TB D in
theorem islet_all (hdp : dp + 40 < 600) (hu : un + 400 < 5000) {i : Nat} (hi : i < 12) {x dx la : Addr} {h1 h2 h3 h4 : Int} {t1 t2 t3 t4 t5 : Tok} {its : Array Value} {vs : List Value} {fs : Nat → Bool} {n k : Nat} {d st r : Bool}
    (n1 : (x, instObj 380 dx) ∈ news) (n2 : (dx, dictOf [⟨h1, .str (Str.ofString "name") t1, .str (wd i) t2⟩, ⟨h2, .str (Str.ofString "arguments") t3, .ref la⟩, ⟨h3, .str (Str.ofString "distinct") t4, .bool d⟩, ⟨h4, .str (Str.ofString "star") t5, .bool st⟩] n) ∈ news) (n3 : (la, listOf vs.toArray k) ∈ news)
    (A : Args news its vs fs) (hz : its.size ≤ 4) (hst : st = true → its.size = 0) (hr : Due i its.size d st fs r)
    (hret : ∀ kg h' tk', KtsTurn (outer.filterMap (·.frame)) h₀ kg → Fr kg L h' m → News kg L h' news → Below A₀ base outer kg → (Mine.K w.params).In kg → Top vw lo mean mg mb kg → KtsDicts (outer.filterMap (·.frame)) kg → Q (.bool r) { s with heap := h', toks := tk' }) :
    wpAny (model prg w) (ktrTop dp un gd cn cs L a ccd cl outer) (call (.ref 589) [.ref x]) Q E s := by
  obtain ⟨hl, H⟩ := A
  have hsz : vs.toArray.size = its.size := by rw [List.size_toArray, hl]
  have hval : r = true ∨ r = false := by cases r <;> simp
  -- nothing, one, two of them
  have zero : its.size = 0 → vs = [] := fun h => List.eq_nil_of_length_eq_zero (hl.trans h)
  cases st with
  | true =>
    have h0 := hst rfl
    have hv := zero h0
    subst hv
    by_cases h6 : i = 6
    · subst h6
      cases d with
      | true =>
        have e : false = r := by
          cases r with
          | false => rfl
          | true => exact absurd ((hr.1 rfl).mp rfl).2 (by decide)
        exact islet_twice B F X N T hk XB TB D (by omega) (by omega) hi n1 n2 n3 (by rfl) (by simp) (by simp) (e ▸ hret)
      | false =>
        have e : true = r := ((hr.1 rfl).mpr ⟨rfl, rfl⟩).symm
        exact islet_none B F X N T hk XB TB D (by omega) (by omega) hi (own3 n1 n2 n3) (by rfl) (e ▸ hret)
    · have e : false = r := by
        cases r with
        | false => rfl
        | true => exact absurd ((hr.1 rfl).mp rfl).1 h6
      exact islet_star B F X N T hk XB TB D (by omega) (by omega) hi n1 n2 n3 (by simp [isAgg, h6]) (by simp) (e ▸ hret)
  | false =>
    have hag := isAgg_gath hi its.size
    cases hG : fitsL its.size (gathB i) with
    | false =>
      have e := hr.2.2 rfl hG
      rw [hG] at hag
      rw [← scl_plain hi hz, ← hsz] at e
      exact islet_plain B F X N T hk XB TB D (by omega) (by omega) hi n1 n2 n3 (by rw [hsz]; exact hag) (by rw [hsz]; omega) (e ▸ hret)
    | true =>
      have hr2 := hr.2.1 rfl hG
      have h2 := gath_two hi hG
      rw [hG] at hag
      by_cases hd1 : d = true ∧ its.size ≠ 1
      · obtain ⟨rfl, h1⟩ := hd1
        have e : false = r := by
          cases r with
          | false => rfl
          | true => have := (hr2.mp rfl).1 rfl; omega
        exact islet_twice B F X N T hk XB TB D (by omega) (by omega) hi n1 n2 n3 (by rw [hsz]; exact hag) (by rw [hsz]; omega) (by rw [hsz]; exact h1) (e ▸ hret)
      · have hd2 : d = true → (its.size : Int) = 1 := fun h => by
          by_cases h1 : its.size = 1
          · omega
          · exact absurd ⟨h, h1⟩ hd1
        have hd0 : its.size ≠ 1 → d = false := fun h => by
          cases d with
          | false => rfl
          | true => have := hd2 rfl; omega
        rcases (show its.size = 0 ∨ its.size = 1 ∨ its.size = 2 by omega) with h0 | h1 | h2
        · have hv := zero h0
          subst hv
          have hdf := hd0 (by omega)
          subst hdf
          have e : true = r := (hr2.mpr ⟨hd2, fun j hj => by omega⟩).symm
          rw [h0] at hag
          exact islet_none B F X N T hk XB TB D (by omega) (by omega) hi (own3 n1 n2 n3) hag (e ▸ hret)
        · obtain ⟨q, v, kq, own, a1, a2, a3, a4, a5⟩ := H 0 (by omega)
          have hv : vs = [v] := by
            match vs, hl, a2 with
            | [u], _, a2 => simp at a2; rw [a2]
            | [], hl, _ => simp at hl; omega
            | _ :: _ :: _, hl, _ => simp at hl; omega
          subst hv
          obtain ⟨b1, o1, b2, o2, b3, o3, b4, o4, b5, o5, b6, o6, b7, o7, rfl⟩ := seven_of a4
          rw [h1] at hag
          cases hf : fs 0 with
          | true =>
            rw [hf] at a4
            have e : false = r := by
              cases r with
              | false => rfl
              | true => have := (hr2.mp rfl).2 0 (by omega); rw [hf] at this; cases this
            exact islet_one1 B F X N T hk XB TB D (by omega) (by omega) hi a4 (own_app n1 n2 n3 a5) hag (e ▸ hret)
          | false =>
            rw [hf] at a4
            have e : true = r := (hr2.mpr ⟨hd2, fun j hj => by
              have hj0 : j = 0 := by omega
              subst hj0
              exact hf⟩).symm
            exact islet_one0 B F X N T hk XB TB D (by omega) (by omega) hi a4 (own_app n1 n2 n3 a5) hag (e ▸ hret)
        · obtain ⟨q, v, kq, own, a1, a2, a3, a4, a5⟩ := H 0 (by omega)
          obtain ⟨q', v', kq', own', a1', a2', a3', a4', a5'⟩ := H 1 (by omega)
          have hv : vs = [v, v'] := by
            match vs, hl, a2, a2' with
            | [u, u'], _, a2, a2' => simp at a2 a2'; rw [a2, a2']
            | [], hl, _, _ => simp at hl; omega
            | [_], hl, _, _ => simp at hl; omega
            | _ :: _ :: _ :: _, hl, _, _ => simp at hl; omega
          subst hv
          have hdf := hd0 (by omega)
          subst hdf
          obtain ⟨b1, o1, b2, o2, b3, o3, b4, o4, b5, o5, b6, o6, b7, o7, rfl⟩ := seven_of a4
          obtain ⟨c1, p1, c2, p2, c3, p3, c4, p4, c5, p5, c6, p6, c7, p7, rfl⟩ := seven_of a4'
          rw [h2] at hag
          have hown := own_app n1 n2 n3 (own := [(b1, o1), (b2, o2), (b3, o3), (b4, o4), (b5, o5), (b6, o6), (b7, o7)] ++ [(c1, p1), (c2, p2), (c3, p3), (c4, p4), (c5, p5), (c6, p6), (c7, p7)]) (fun p hp => (List.mem_append.mp hp).elim (a5 p) (a5' p))
          cases hf : fs 0 with
          | true =>
            rw [hf] at a4
            have e : false = r := by
              cases r with
              | false => rfl
              | true => have := (hr2.mp rfl).2 0 (by omega); rw [hf] at this; cases this
            exact islet_two1 B F X N T hk XB TB D (by omega) (by omega) hi a4 hown hag (e ▸ hret)
          | false =>
            rw [hf] at a4
            cases hf' : fs 1 with
            | true =>
              rw [hf'] at a4'
              have e : false = r := by
                cases r with
                | false => rfl
                | true => have := (hr2.mp rfl).2 1 (by omega); rw [hf'] at this; cases this
              exact islet_two01 B F X N T hk XB TB D (by omega) (by omega) hi a4 a4' hown hag (e ▸ hret)
            | false =>
              rw [hf'] at a4'
              have e : true = r := (hr2.mpr ⟨hd2, fun j hj => by
                rcases (show j = 0 ∨ j = 1 by omega) with rfl | rfl
                · exact hf
                · exact hf'⟩).symm
              exact islet_two00 B F X N T hk XB TB D (by omega) (by omega) hi a4 a4' hown hag (e ▸ hret)
end
end Mine
namespace Mine
section
open PyProof.Rows.LCg
variable {prog : Program} {w : World} {A : Around} {h₀ : Heap} {L : Addr} {m : Str → Option Value} {env : Env} {scope : Scope} {cl : List (Str × Addr)}
def FirstsSrc (h₀ : Heap) (L : Addr) (m : Str → Option Value) (Q : Value → Shared → Prop) (xv : Value) (s₁ : Shared) : Prop :=
  ∃ (la : Addr) (its : Array Value) (k : Nat) (news : List (Addr × Obj)) (vs : List Value) (fs : Nat → Bool), xv = .ref la ∧ Fr h₀ L s₁.heap m ∧ News h₀ L s₁.heap news ∧ (la, listOf its k) ∈ news ∧ its.size ≤ sizeLine ∧ Args news its vs fs ∧
    ∀ D h tk, Fr h₀ L h m → News h₀ L h ((D, lst vs) :: news) → Q (.ref D) { s₁ with heap := h, toks := tk }
theorem firstsSrc {la : Addr} {its : Array Value} {k : Nat} {news ext : List (Addr × Obj)} {vs : List Value} {fs : Nat → Bool} {Q : Value → Shared → Prop} {s₁ : Shared} (F : Fr h₀ L s₁.heap m) (N : News h₀ L s₁.heap news) (hla : (la, listOf its k) ∈ news) (hz : its.size ≤ 4) (A : Args ext its vs fs) (hsub : ∀ p ∈ ext, p ∈ news)
    (h : ∀ D h tk, Fr h₀ L h m → News h₀ L h ((D, lst vs) :: news) → Q (.ref D) { s₁ with heap := h, toks := tk }) : FirstsSrc h₀ L m Q (.ref la) s₁ :=
  ⟨la, its, k, news, vs, fs, rfl, F, N, hla, Nat.le_trans hz (by decide), A.mono hsub, h⟩
theorem comp_firsts {iter : PySem.Expr} {x y : Str} {px py pe pos tp : Pos} {tk : Nat} {Q E : Value → Shared → Prop} {s : Shared} (_F₀ : Fr h₀ L s.heap m)
    (hclos : closureFor scope env = pure cl) (hcell : ∀ y ∈ scope.names, y.2 ≠ .cell) (hkind : scope.kind = .function) (hnames : ∀ y ∈ scope.names, y.2 = .local → scope.names.lookup y.1 = some .local) (hh : A.handled = none)
    (hx : scope.names.lookup x = some .local) (hy : scope.names.lookup y = some .local) (hxy : x ≠ y) (hxd : (x == ("__debug__" : Str)) = false)
    (h : wpAny (model prog w) A (eval iter env) (FirstsSrc h₀ L m Q) E s) (hs : ∀ x, foldedSetIterable iter env x = pure x := by intro _; rfl) :
    wpAny (model prog w) A (eval (.ListComp (.Name x pe) [⟨.Tuple [.Name x px, .Name y py] tk tp, iter, [], 0⟩] scope pos) env) Q E s := by
  refine pair_enter (h₀ := h₀) (L := L) (m := m) hclos hcell hkind hnames hh (wpAny_mono h (fun xv s₁ h₁ => ?_) fun _ _ e => e) hs
  obtain ⟨la, its, k, news, vs, fs, rfl, F, N, hla, hz, hA, H⟩ := h₁
  refine ⟨la, its, k, news, rfl, F, N, hla, fun I C D s₂ R hs₂ AP M fin => ?_⟩
  obtain ⟨h₂, tk₂, rfl⟩ := hs₂
  exact firsts_loop hla AP hh hz hkind hx hy hxy hxd M (fun i hi => let ⟨q, v, k, own, a, b, c, d, e⟩ := hA.2 i hi; ⟨q, v, _, k, a, c, b⟩) hA.1 fun h' tk' F' n' N' => fin vs h' tk' F' n' N' fun h'' F'' N'' => H D h'' tk' F'' N''
end
end Mine
theorem Mine.word40 : True := by (k_with "eval ListComp" => (k_here; (with_reducible show wpAny _ _ (eval (Expr.ListComp (Expr.Name _ _) _ _ _) _) _ _ _); k_dflt (refine Mine.comp_firsts (by k_asm) (by with_unfolding_all rfl) (by decide) (by rfl) (by decide) (by rfl) (by rfl) (by rfl) (by decide) (by decide) ?_))); trivial
theorem Mine.word41 : True := by (k_with "FirstsSrc" => (k_here; k_dflt (apply Mine.firstsSrc; (case F => k_asm); (case N => k_asm); (case hla => k_mem); (case hz => assumption); (case A => assumption); (case hsub => kcj_all); k_whole); intro D' h' tk' F' N'; (try dsimp only); (try k_fold))); trivial
namespace Mine
section
open PyProof.Rows.LCg
variable {w : World} {vw : Program} {lo : List Str} {mean : ExcName → Option Value} {mg mb : Str → Option Value} {dp un : Nat} {gd : Option (List Code)} {cn : Str} {cs : Scope} {a : Addr} {ccd : Value} {cl cl' : List (Str × Addr)} {outer : List Env} {A₀ : Around} {base h₀ : Heap} {L c src : Addr} {m : Str → Option Value} {rest : List (Addr × Obj)} {s : Shared} {Q E : Value → Shared → Prop}
theorem Args.nil {ext : List (Addr × Obj)} {vs : List Value} {fs : Nat → Bool} (h : vs = []) : Args ext #[] vs fs := ⟨by rw [h]; rfl, fun i hi => absurd hi (Nat.not_lt_zero _)⟩
theorem Args.nil0 : Args [] #[] [] (fun _ => false) := .nil rfl
theorem Args.snoc {ext own : List (Addr × Obj)} {ys vs : List Value} {fs : Nat → Bool} {q : Addr} {v : Value} {f : Bool} {kq : Nat} (A : Args ext ys.toArray vs fs) (S : ArgShape own v f) :
    Args ((q, listOf #[v, .bool f] kq) :: (own ++ ext)) (ys ++ [Value.ref q]).toArray (vs ++ [v]) (fun i => if i = ys.length then f else fs i) := by
  have hl : vs.length = ys.length := by rw [A.1, List.size_toArray]
  refine ⟨by simp [hl], fun i hi => ?_⟩
  by_cases h : i = ys.length
  · subst h
    exact ⟨q, v, kq, own, by simp, by simp [← hl], by simp, by simpa using S, fun p hp => .tail _ (List.mem_append_left _ hp)⟩
  · have hi' : i < ys.length := by simp at hi; omega
    obtain ⟨q', v', k', own', a1, a2, a3, a4, a5⟩ := A.2 i (by simpa using hi')
    refine ⟨q', v', k', own', ?_, ?_, ?_, ?_, fun p hp => .tail _ (List.mem_append_right _ (a5 p hp))⟩
    · simp at a1 ⊢; rw [List.getElem?_append_left hi']; exact a1
    · rw [List.getElem?_append_left (by omega)]; exact a2
    · simp only [h, if_false]; exact .tail _ (List.mem_append_right _ a3)
    · simp only [h, if_false]; exact a4
/-- the ledger between two turns: the source, what stays, what the arguments own -/
def TurnLedger (src : Addr) (rest : List (Addr × Obj)) (ys : List Value) (news : List (Addr × Obj)) : Prop :=
  ∃ (b c : Int) (t1 t2 : Tok) (k : Nat) (ext : List (Addr × Obj)) (vs : List Value) (fs : Nat → Bool), 0 ≤ b ∧ 0 ≤ c ∧ news = (src, listOf #[.int b t1, .int c t2] k) :: (rest ++ ext) ∧ Args ext ys.toArray vs fs ∧ ∀ p ∈ rest ++ ext, p.1 ≠ src
theorem args_turns (B : Below A₀ base outer h₀) (X : (Mine.K w.params).In h₀) (T : Top vw lo mean mg mb h₀) (hk : cs.kind = .function) (hdp : dp + 30 < recursionLimit) (hu : un + 200 < cLine)
    {scope : Scope} {x : Str} {pe pf pn : Pos} {P : Nat → Value → Prop} {Fin : List Value → List (Addr × Obj) → Prop} {oc : Obj}
    (hkind : scope.kind = .function) (hg : ∀ C, (compEnvC scope cl' C (envX cn cs L a ccd cl)).kindOf (Str.ofString "_law_argument") = some .globalImplicit) (hs : ∀ C, (compEnvC scope cl' C (envX cn cs L a ccd cl)).kindOf (Str.ofString "source") = some .cell)
    (hcl : cl'.lookup (Str.ofString "source") = some c) (hc : (c, oc) ∈ rest) (hoc : oc.data = .cell (some (.ref src))) :
    ∀ (n i : Nat) (ys : List Value) (news : List (Addr × Obj)), TurnLedger src rest ys news → (∀ ys' news', ys'.length = ys.length + n → TurnLedger src rest ys' news' → Fin ys' news') →
      CompRest prg w (ktrTop dp un gd cn cs L a ccd cl outer) h₀ L m (envX cn cs L a ccd cl) (.Call (.Name (Str.ofString "_law_argument") pf) [.Name (Str.ofString "source") pn] [] pe) x scope cl' s (fun _ => True) P Fin n i ys news
  | 0, i, ys, news, Z, fin => .zero (fin ys news rfl Z)
  | n + 1, i, ys, news, Z, fin => by
    refine .succ fun v I oI C oC D m₂ h tk E' hP hoC hx F N off ne => ?_
    obtain ⟨b, c', t1, t2, k, ext, vs, fs, hb, hc', rfl, hA, hne⟩ := Z
    have off3 := off.mem
    have hkc : (compEnvC scope cl' C (envX cn cs L a ccd cl)).scope.kind = .function := by simp [compEnvC, relabel, hkind]
    have N' : News h₀ L h ([(src, listOf #[.int b t1, .int c' t2] k)] ++ ((I, oI) :: (C, oC) :: (D, lst ys) :: (rest ++ ext))) := fun p hp => N p (by
      rcases List.mem_append.mp hp with hp | hp
      · rw [List.mem_singleton.mp hp]; exact .tail _ (.tail _ (.tail _ (.head _)))
      · rcases List.mem_cons.mp hp with rfl | hp
        · exact .head _
        · rcases List.mem_cons.mp hp with rfl | hp
          · exact .tail _ (.head _)
          · rcases List.mem_cons.mp hp with rfl | hp
            · exact .tail _ (.tail _ (.head _))
            · exact .tail _ (.tail _ (.tail _ (.tail _ hp))))
    have hcm : (c, oc) ∈ [(src, listOf #[.int b t1, .int c' t2] k)] ++ ((I, oI) :: (C, oC) :: (D, lst ys) :: (rest ++ ext)) := .tail _ (.tail _ (.tail _ (.tail _ (List.mem_append_left _ hc))))
    have hsrc := off3 (src, listOf #[.int b t1, .int c' t2] k) (.head _)
    have hdis : ∀ q ∈ ((I, oI) :: (C, oC) :: (D, lst ys) :: (rest ++ ext)), q.1 ∉ [(src, listOf #[.int b t1, .int c' t2] k)].map (·.1) := fun q hq hm => by
      have e : q.1 = src := by simpa using hm
      rcases List.mem_cons.mp hq with rfl | hq
      · exact hsrc.1 e.symm
      · rcases List.mem_cons.mp hq with rfl | hq
        · exact hsrc.2.1 e.symm
        · rcases List.mem_cons.mp hq with rfl | hq
          · exact hsrc.2.2 e.symm
          · exact hne q hq e
    clear N
    refine Call_ ?_
    refine LCgL.ld_global F X T (by k_is) ?_ rfl hkc (hg C)
    walk1
    walk1
    refine lcf_cell N' hcl hcm hoc ?_ hkc (hs C)
    walk1
    refine ⟨X.keeps F.keep, ?_⟩
    refine argument_c (dp := dp) (un := un) (s := { s with heap := h, toks := tk }) (t1 := t1) (t2 := t2) (k := k) B F X T hk (by omega) (by omega) hb hc' N' hdis fun q kq v f own b₂ c₂ t₁ t₂ k₂ h₂ tk₂ S Fr₂ hb₂ hc₂ F₂ N₂ => ?_
    have fq := Fr₂ (q, listOf #[v, .bool f] kq) (.head _)
    refine .intro (all := _) F₂ N₂ ((src, listOf #[.int b₂ t₁, .int c₂ t₂] k₂) :: (rest ++ ((q, listOf #[v, .bool f] kq) :: (own ++ ext)))) (fun p hp => ?_) (Off3.of fun p hp => ?_) trivial ?_
    · simp only [List.mem_cons, List.mem_append] at hp ⊢
      rcases hp with h | h | h | h | h | h | h | h <;> simp [h]
    · rcases List.mem_cons.mp hp with rfl | hp
      · exact hsrc
      · rcases List.mem_append.mp hp with hp | hp
        · exact off3 p (.tail _ (List.mem_append_left _ hp))
        · rcases List.mem_cons.mp hp with rfl | hp
          · exact ⟨fq.2 (I, oI) (.head _), fq.2 (C, oC) (.tail _ (.head _)), fq.2 (D, lst ys) (.tail _ (.tail _ (.head _)))⟩
          · rcases List.mem_append.mp hp with hp | hp
            · have z := (Fr₂ p (.tail _ hp)).2
              exact ⟨z (I, oI) (.head _), z (C, oC) (.tail _ (.head _)), z (D, lst ys) (.tail _ (.tail _ (.head _)))⟩
            · exact off3 p (.tail _ (List.mem_append_right _ hp))
    · refine args_turns B X T hk hdp hu hkind hg hs hcl hc hoc n (i + 1) (ys ++ [Value.ref q]) _ ⟨b₂, c₂, t₁, t₂, k₂, (q, listOf #[v, .bool f] kq) :: (own ++ ext), vs ++ [v], _, hb₂, hc₂, rfl, hA.snoc S, fun p hp => ?_⟩ fun ys' news' hl Z => fin ys' news' (by simp at hl ⊢; omega) Z
      rcases List.mem_append.mp hp with hp | hp
      · exact hne p (List.mem_append_left _ hp)
      · rcases List.mem_cons.mp hp with rfl | hp
        · exact fq.1
        · rcases List.mem_append.mp hp with hp | hp
          · exact (Fr₂ p (.tail _ hp)).1
          · exact hne p (List.mem_append_right _ hp)
/-- the arguments are drawn -/
def ArgsSrc (h₀ : Heap) (L : Addr) (m : Str → Option Value) (c : Addr) (Q : Value → Shared → Prop) (xv : Value) (s₁ : Shared) : Prop :=
  ∃ (r src : Addr) (n : Int) (t u v : Tok) (b c' : Int) (t1 t2 : Tok) (k : Nat) (oc : Obj) (rest : List (Addr × Obj)), xv = .ref r ∧ Fr h₀ L s₁.heap m ∧ News h₀ L s₁.heap ((src, listOf #[.int b t1, .int c' t2] k) :: rest) ∧ IsRange s₁.heap r 0 n 1 t u v ∧ 0 ≤ n ∧ n ≤ 4 ∧ 0 ≤ b ∧ 0 ≤ c' ∧ (c, oc) ∈ rest ∧ oc.data = .cell (some (.ref src)) ∧ (∀ p ∈ rest, p.1 ≠ src) ∧
    ∀ D b c t1 t2 k ys ext vs fs h tk, 0 ≤ b → 0 ≤ c → Args ext ys.toArray vs fs → ys.toArray.size ≤ 4 → Fr h₀ L h m → News h₀ L h ((D, lst ys) :: (src, listOf #[.int b t1, .int c t2] k) :: (rest ++ ext)) → Q (.ref D) { s₁ with heap := h, toks := tk }
theorem argsSrc {r : Addr} {n b c' : Int} {t u v t1 t2 : Tok} {k : Nat} {oc : Obj} {news : List (Addr × Obj)} {g : Obj → List (Addr × Obj)} {s₁ : Shared} (F : Fr h₀ L s₁.heap m) (N : News h₀ L s₁.heap news) (U : UpdF src (listOf #[.int b t1, .int c' t2] k) news g) (hr : IsRange s₁.heap r 0 n 1 t u v) (h0 : 0 ≤ n) (h4 : n < 5) (hb : 0 ≤ b) (hc : 0 ≤ c')
    (hm : (c, oc) ∈ news) (hcs : c ≠ src) (hoc : oc.data = .cell (some (.ref src)))
    (h : ∀ D b c t1 t2 k ys ext vs fs h tk, 0 ≤ b → 0 ≤ c → Args ext ys.toArray vs fs → ys.toArray.size ≤ 4 → Fr h₀ L h m → News h₀ L h ((D, lst ys) :: (g (listOf #[.int b t1, .int c t2] k) ++ ext)) → Q (.ref D) { s₁ with heap := h, toks := tk }) : ArgsSrc h₀ L m c Q (.ref r) s₁ := by
  obtain ⟨pre, post, rfl, hg, h1, h2⟩ := U.split
  refine ⟨r, src, n, t, u, v, b, c', t1, t2, k, oc, pre ++ post, rfl, F, fun (p : Addr × Obj) hp => N p ?_, hr, h0, by omega, hb, hc, ?_, hoc, fun p hp => (List.mem_append.mp hp).elim (h1 p) (h2 p), fun D b c t1 t2 k ys ext vs fs h₂ tk hb hc A hz F' N' => h D b c t1 t2 k ys ext vs fs h₂ tk hb hc A hz F' fun (p : Addr × Obj) hp => N' p ?_⟩
  · have hp : p ∈ (src, listOf #[.int b t1, .int c' t2] k) :: (pre ++ post) := hp
    simp only [List.mem_cons, List.mem_append] at hp ⊢
    rcases hp with h | h | h <;> simp [h]
  · simp only [List.mem_cons, List.mem_append] at hm ⊢
    rcases hm with h | h | h
    · exact .inl h
    · exact absurd (congrArg Prod.fst h) hcs
    · exact .inr h
  · rw [hg] at hp
    have hp : p ∈ (D, lst ys) :: ((pre ++ (src, listOf #[.int b t1, .int c t2] k) :: post) ++ ext) := hp
    simp only [List.mem_cons, List.mem_append] at hp ⊢
    rcases hp with h | (h | h | h) | h <;> simp [h]
theorem comp_args (B : Below A₀ base outer h₀) (F₀ : Fr h₀ L s.heap m) (X : (Mine.K w.params).In h₀) (T : Top vw lo mean mg mb h₀) (hk : cs.kind = .function) (hdp : dp + 30 < recursionLimit) (hu : un + 200 < cLine)
    {scope : Scope} {x : Str} {px pe pf pn pos : Pos} {iter : PySem.Expr} (hclos : closureFor scope (envX cn cs L a ccd cl) = pure cl') (hcell : ∀ z ∈ scope.names, z.2 ≠ .cell) (hkind : scope.kind = .function)
    (hnames : ∀ z ∈ scope.names, z.2 = .local → scope.names.lookup z.1 = some .local) (hx : scope.names.lookup x = some .local)
    (hg : ∀ C, (compEnvC scope cl' C (envX cn cs L a ccd cl)).kindOf (Str.ofString "_law_argument") = some .globalImplicit) (hs : ∀ C, (compEnvC scope cl' C (envX cn cs L a ccd cl)).kindOf (Str.ofString "source") = some .cell)
    (hcl : cl'.lookup (Str.ofString "source") = some c)
    (h : wpAny (model prg w) (ktrTop dp un gd cn cs L a ccd cl outer) (eval iter (envX cn cs L a ccd cl)) (ArgsSrc h₀ L m c Q) E s) (hfs : ∀ x, foldedSetIterable iter (envX cn cs L a ccd cl) x = pure x := by intro _; rfl) :
    wpAny (model prg w) (ktrTop dp un gd cn cs L a ccd cl outer) (eval (.ListComp (.Call (.Name (Str.ofString "_law_argument") pf) [.Name (Str.ofString "source") pn] [] pe) [⟨.Name x px, iter, [], 0⟩] scope pos) (envX cn cs L a ccd cl)) Q E s := by
  refine ListComp_U (h₀ := h₀) (L := L) (m := m) F₀ hclos hcell hkind hnames hx (wpAny_mono h (fun xv s₁ h₁ => ?_) fun _ _ e => e) hfs
  obtain ⟨r, src, n, t, u, v, b, c', t1, t2, k, oc, rest, rfl, F, N, hr, h0, h4, hb, hc, hm, hoc, hne, H⟩ := h₁
  refine .range (n := (n - 0).toNat) rfl F N hr (small_one (by omega) (by omega) (by omega) (by omega)) (rangeSize_nat _ _) (by rw [sizeLine_eq]; omega) fun g => ?_
  refine args_turns B X T hk hdp hu hkind hg hs hcl hm hoc _ 0 [] _ ⟨b, c', t1, t2, k, [], [], fun _ => false, hb, hc, by rw [List.append_nil], Args.nil rfl, by rw [List.append_nil]; exact hne⟩ fun ys' news' hl Z => ?_
  obtain ⟨b, c', t1, t2, k, ext, vs, fs, hb, hc', rfl, hA, hne⟩ := Z
  intro D h tk F' N' _
  exact H D b c' t1 t2 k ys' ext vs fs h tk hb hc' hA (by rw [List.size_toArray, hl]; simp; omega) F' N'
end
end Mine
namespace Mine
/-- a def with cells and a try, entered with a written part of the ledger alone, which it may change: how it is left -/
def LeaveCS (fs : List Addr) (A₀ : Around) (base : Heap) (outer : List Env) (K : Frag) (p : Program) (loose : List Str) (mean : ExcName → Option Value) (mg mb : Str → Option Value) (h₀ : Heap) (L : Addr) (m : Str → Option Value) (rest : List (Addr × Obj)) (g : Heap) (R : Result → Shared → Prop) (v : Value) (s' : Shared) : Prop :=
  ∃ g' L' m' news', KtsTurn fs g g' ∧ Fr g' L' s'.heap m' ∧ News g' L' s'.heap news' ∧ ∀ h₀', KtsTurn (outer.filterMap (·.frame)) h₀ h₀' → Fr h₀' L s'.heap m → News h₀' L s'.heap (news' ++ rest) → Below A₀ base outer h₀' → K.In h₀' → Top p loose mean mg mb h₀' →
    KtsDicts (outer.filterMap (·.frame)) h₀' → R (.ok (.ret v)) s'
theorem leaveCS {fs : List Addr} {A₀ : Around} {base : Heap} {outer : List Env} {K : Frag} {p : Program} {loose : List Str} {mean : ExcName → Option Value} {mg mb : Str → Option Value} {h₀ g g' : Heap} {L L' : Addr} {m m' : Str → Option Value} {rest news' : List (Addr × Obj)} {R : Result → Shared → Prop} {v : Value} {s' : Shared}
    (F' : Fr g' L' s'.heap m') (N' : News g' L' s'.heap news') (T : KtsTurn fs g g')
    (k : ∀ h₀', KtsTurn (outer.filterMap (·.frame)) h₀ h₀' → Fr h₀' L s'.heap m → News h₀' L s'.heap (news' ++ rest) → Below A₀ base outer h₀' → K.In h₀' → Top p loose mean mg mb h₀' → KtsDicts (outer.filterMap (·.frame)) h₀' → R (.ok (.ret v)) s') :
    LeaveCS fs A₀ base outer K p loose mean mg mb h₀ L m rest g R v s' := ⟨g', L', m', news', T, F', N', k⟩
section
variable {prog : Program} {w : World} {A₀ A : Around} {s : Shared} {base h₀ : Heap} {outer : List Env} {L a : Addr} {m : Str → Option Value} {env0 : Env} {rest own : List (Addr × Obj)} {K : Frag} {p : Program} {loose : List Str} {mean : ExcName → Option Value} {mg mb : Str → Option Value}
    {R : Result → Shared → Prop} {name qual : Str} {params : Arguments} {body : List Stmt} {scope : Scope} {dV kV doc pm cdv ct oc : Value} {an od : Option Addr} {osl : Array (Option Value)} {f : Addr} {args : PySem.Args} {binds : List (Str × Value)}
theorem code_defCS (B : Below A₀ base outer h₀) (F : Fr h₀ L s.heap m) (X₀ : K.In h₀) (N : News h₀ L s.heap (own ++ rest)) (hdis : ∀ q ∈ rest, q.1 ∉ own.map (·.1)) (T : Top p loose mean mg mb h₀) (XB : K.In base) (TB : Top p loose mean mg mb base) (D : KtsDicts (outer.filterMap (·.frame)) h₀)
    (hA : A.frames = some (env0 :: outer)) (hF0 : env0.frame = some L) (hck : env0.scope.kind = .function)
    (ho : K.lookup f = some ⟨oc, od, .func (fnOf name qual params body scope dV kV doc pm an cdv ct), osl⟩) (hcd : codeIn K cdv qual = true) (hroom : A.depth < recursionLimit)
    (hbind : BindsTo s (fnOf name qual params body scope dV kV doc pm an cdv ct) args binds) (hkind : (binds.all fun y => scope.names.lookup y.1 == some .local || scope.names.lookup y.1 == some .cell) = true)
    (hnd : ((cellsFrom 0 scope.names []).map (·.1)).Nodup)
    (h : ∀ g L' h₁ tk cells, Fr h₀ L g m → Fr g L' h₁ (bindL (envOfC qual scope L' f cdv).kindOf binds fun _ => none) → News g L' h₁ (cells ++ own) →
      CellsAre (bindC (envOfC qual scope L' f cdv).kindOf binds fun _ => none) (cellsFrom (L' + 1) scope.names []) cells → Below A base (env0 :: outer) g → K.In g → Top p loose mean mg mb g → KtsDicts ((env0 :: outer).filterMap (·.frame)) g → (∀ p ∈ own, p.1 < L') →
      wpAny (model prog w) (A.deeper (envOfC qual scope L' f cdv)) (execs body (envOfC qual scope L' f cdv))
        (fun fl s' => LeaveCS ((env0 :: outer).filterMap (·.frame)) A₀ base outer K p loose mean mg mb h₀ L m rest g R (match fl with | .ret v => v | _ => .none) s')
        (fun e s' => wpAny (model prog w) (A.deeper (envOfC qual scope L' f cdv)) (leaving (envOfC qual scope L' f cdv) e) (fun _ s'' => R (.error e) s'') (fun e' s'' => R (.error e') s'') s')
        { s with heap := h₁, toks := tk })
    (hco : scope.isCoroutine = false) (hgen : scope.isGenerator = false) (hk : scope.kind = .function) : codeAny (model prog w) A (.call (.ref f) args) R s := by
  have X := X₀.keeps F.keep
  have No : News h₀ L s.heap own := fun p hp => N p (List.mem_append_left _ hp)
  obtain ⟨oL, es, ep, hLg, hLd, hN, hNs, st, B₂⟩ := kts_enterX B F No hA hF0 hck
  refine codeAny_call_function hroom (X _ _ ho) rfl hco hgen rfl (codeRec_of X hcd) (hbind _ _ _ _ ?_)
  refine wpAny_newFunctionEnv_cells hk (kindsX hkind _) fun env' he s' x => ?_
  subst he
  refine ⟨(T.nolimit.keeps F.keep).keeps x.toInCall.keep, codeAny_func ?_⟩
  obtain ⟨h₁, tk, rfl, _⟩ := x.done
  have hk₁ := x.toInCall.keep
  obtain ⟨cells, NC, Y⟩ := Cl.news (h₀ := s.heap) (Nat.le_refl _) fun n c hm => ⟨x.cell n c (lookup_of_mem_nodup (cellsFrom_names scope.names 0 (s.heap.objs.size + 1) [] [] rfl ▸ hnd) hm), x.above n c hm⟩
  refine wpAny_mono (h _ s.heap.objs.size h₁ tk cells ⟨hN _ hLg, st, F.above⟩ ⟨x.toInCall.ns, fun b o e => hk₁ b o (of_hideAll _ e), Nat.le_of_eq (hideAll_size _ _)⟩ (fun p hp => ?_) Y B₂ (X₀.keeps st) (T.keeps st) (fun b hb => by
      rcases kts_memX hF0 hb with rfl | hb
      · exact ⟨oL, es, ep, hLg, hLd⟩
      · obtain ⟨o, es', n', ho', hd'⟩ := D b hb
        exact ⟨o, es', n', st b o ho', hd'⟩) (fun p hp => Heap.lt_size (No p hp).1)) (fun fl s' hl => ?_) fun _ _ y => y
  · rcases List.mem_append.mp hp with hp | hp
    · refine ⟨(NC p hp).1, (NC p hp).2.1, ?_⟩
      cases q : (hideAll s.heap (own.map (·.1))).get? p.1 with
      | none => rfl
      | some o => have := of_hideAll _ q; rw [(NC p hp).2.2] at this; cases this
    · exact ⟨hk₁ _ _ (No p hp).1, Nat.ne_of_lt (Heap.lt_size (No p hp).1), hideAll_none _ (List.mem_map_of_mem hp)⟩
  have nL₀ : h₀.get? L = none := kts_self F
  obtain ⟨g', L', m', news', T', F', N', k⟩ := hl
  obtain ⟨sl, hs⟩ := T'.up hLg
  obtain ⟨T₁, S₁⟩ := kts_turn_at (h := s'.heap) (fs := outer.filterMap (·.frame)) (g := h₀)
    (fun b hb => by
      obtain ⟨_, o, ho', _⟩ := B.frames.mem hb
      exact ⟨o, ho'⟩)
    (fun b o e nmem => F'.keep b o (T'.other b o (st b o e) (fun q => by
      rcases kts_memX hF0 q with z | z
      · rw [z, nL₀] at e
        cases e
      · exact nmem z)))
    (fun b o e hm => by
      obtain ⟨sl', hs'⟩ := T'.up (st b o e)
      exact ⟨sl', F'.keep _ _ hs'⟩)
  have B₃ : Below A₀ base outer (ktsHeap s'.heap (outer.filterMap (·.frame)) h₀) := ⟨B.stack, fun b o e => T₁.other b o (B.stays b o e) (fun hm => by
    rw [(B.frames.mem hm).1] at e
    cases e), B.frames.of_keeps fun b o e _ => by
    obtain ⟨sl', hs'⟩ := T₁.up e
    exact ⟨_, hs', rfl⟩⟩
  have N₃ : News (ktsHeap s'.heap (outer.filterMap (·.frame)) h₀) L s'.heap news' := fun p hp => by
    refine ⟨(N' p hp).1, fun q => ?_, ?_⟩
    · have := (N' p hp).2.2; rw [q, hs] at this; cases this
    · refine T₁.none_ _ ?_
      cases q : h₀.get? p.1 with
      | none => rfl
      | some o =>
        obtain ⟨sl', hs'⟩ := T'.up (st _ _ q)
        have := (N' p hp).2.2
        rw [hs'] at this
        cases this
  refine k _ T₁ ⟨hNs sl _ (F'.keep _ _ hs), S₁, by rw [T₁.size]; exact F.above⟩ (fun p hp => ?_) B₃ (XB.keeps B₃.stays) (TB.keeps B₃.stays) (D.turn T₁)
  rcases List.mem_append.mp hp with hp | hp
  · exact N₃ p hp
  · have z := N p (List.mem_append_right _ hp)
    refine ⟨?_, z.2.1, T₁.none_ _ z.2.2⟩
    refine F'.keep _ _ (T'.other _ _ (hideAll_get _ z.1 (hdis p hp)) fun q => ?_)
    rcases kts_memX hF0 q with y | y
    · exact z.2.1 y
    · obtain ⟨_, o, ho', _⟩ := B.frames.mem y
      rw [z.2.2] at ho'
      cases ho'
end
end Mine
theorem Mine.word42 : True := by (k_with "LeaveCS" => (k_dflt (apply Mine.leaveCS; (case F' => k_asm); (case N' => k_asm); (case T => first | assumption | exact KtsTurn.refl); k_whole); intro kg kT kF kN kB kX₀ kP kD; (try dsimp only [List.cons_append, List.nil_append] at kF kN); (try dsimp only))); trivial
theorem Mine.word43 : True := by (k_with "enterCS" => ((case hA => exact rfl); (case hF0 => exact rfl); (case hck => first | exact rfl | assumption); (case B => k_asm); (case F => k_asm); (case XB => assumption); (case TB => assumption); (case D => assumption); (case X₀ => k_asm); (case N => assumption); (case hdis => assumption); (case T => k_asm); (case ho => k_is); (case hcd => k_is); (case hroom => k_room); (case hbind => first | exact BindsTo.of_eq rfl | exact binds_K (by k_in) rfl (by k_is) rfl rfl rfl); (case hkind => exact rfl); (case hnd => decide +kernel); (case hco => exact rfl); (case hgen => exact rfl); (case hk => exact rfl); k_whole; intro g' L' h' tk' cells' FG' F' N' Y' B' X' T' D' l1; (try k_lt l1); k_cells Y'; (try simp only [List.cons_append, List.nil_append] at N'); (try dsimp only); (try k_lift B'); (try k_fold))); trivial
namespace Mine
section
variable {w : World} {A : Around} {h₀ : Heap} {L : Addr} {news : List (Addr × Obj)} {s : Shared} {Q E : Value → Shared → Prop}
def wordList (t0 t1 t2 t3 t4 t5 t6 t7 t8 t9 t10 t11 : Tok) : Array Value := #[.str (Str.ofString "abs") t0, .str (Str.ofString "Coalesce") t1, .str (Str.ofString "SUBSTR") t2, .str (Str.ofString "max") t3, .str (Str.ofString "iif") t4, .str (Str.ofString "changes") t5, .str (Str.ofString "count") t6, .str (Str.ofString "Sum") t7, .str (Str.ofString "MAX") t8, .str (Str.ofString "group_concat") t9, .str (Str.ofString "nosuch") t10, .str (Str.ofString "") t11]
theorem wordList_at {t0 t1 t2 t3 t4 t5 t6 t7 t8 t9 t10 t11 : Tok} {i : Nat} (hi : i < 12) : ∃ t, (wordList t0 t1 t2 t3 t4 t5 t6 t7 t8 t9 t10 t11)[i]? = some (.str (wd i) t) := by
  exact twelve (P := fun i => ∃ t, (wordList t0 t1 t2 t3 t4 t5 t6 t7 t8 t9 t10 t11)[i]? = some (.str (wd i) t)) ⟨t0, by unfold wordList wd; rfl⟩ ⟨t1, by unfold wordList wd; rfl⟩ ⟨t2, by unfold wordList wd; rfl⟩ ⟨t3, by unfold wordList wd; rfl⟩ ⟨t4, by unfold wordList wd; rfl⟩ ⟨t5, by unfold wordList wd; rfl⟩ ⟨t6, by unfold wordList wd; rfl⟩ ⟨t7, by unfold wordList wd; rfl⟩ ⟨t8, by unfold wordList wd; rfl⟩ ⟨t9, by unfold wordList wd; rfl⟩ ⟨t10, by unfold wordList wd; rfl⟩ ⟨t11, by unfold wordList wd; rfl⟩ hi
theorem word_at {value slice : PySem.Expr} {l : Addr} {t0 t1 t2 t3 t4 t5 t6 t7 t8 t9 t10 t11 : Tok} {k : Nat} {d : Int} {u : Tok} (N : News h₀ L s.heap news) (hm : (l, listOf (wordList t0 t1 t2 t3 t4 t5 t6 t7 t8 t9 t10 t11) k) ∈ news) (h0 : 0 ≤ d) (h1 : d < 12) (h : ∀ i t, i < 12 → Txt.lower (wd i) = lw i → (wd i).length ≤ 12 → Q (.str (wd i) t) s)
    (hs : subscripted slice false (.ref l) (.int d u) = operate [.ref l, .int d u] (getItem (.ref l) (.int d u)) := by with_unfolding_all rfl) :
    wpAny (model prg w) A (subscriptTail value slice (.ref l) (.int d u)) Q E s := by
  have hl : s.heap.IsList l (wordList t0 t1 t2 t3 t4 t5 t6 t7 t8 t9 t10 t11) := ⟨_, (N _ hm).1, rfl, _, rfl⟩
  have hi : d.toNat < 12 := by omega
  obtain ⟨t, e⟩ := wordList_at (t0 := t0) (t1 := t1) (t2 := t2) (t3 := t3) (t4 := t4) (t5 := t5) (t6 := t6) (t7 := t7) (t8 := t8) (t9 := t9) (t10 := t10) (t11 := t11) hi
  exact PyProof.Rows.tail_any hl.typeIs slot_list_getitem.lookup (wpAny_getItem_list hl h0 (by omega) (x := .str (wd d.toNat) t) e (h _ t hi (lower_wd hi) (len_wd hi))) hs
/-- the drawn collations, as they are written, and whether they are let -/
@[irreducible] def cw : Nat → Str
  | 0 => "binary" | 1 => "NoCase" | 2 => "RTRIM" | 3 => "ltrim" | 4 => "" | _ => "nocase "
@[irreducible] def clw : Nat → Str
  | 0 => "binary" | 1 => "nocase" | 2 => "rtrim" | 3 => "ltrim" | 4 => "" | _ => "nocase "
theorem six {P : Nat → Prop} (h0 : P 0) (h1 : P 1) (h2 : P 2) (h3 : P 3) (h4 : P 4) (h5 : P 5) {i : Nat} (hi : i < 6) : P i := by
  match i, hi with
  | 0, _ => exact h0
  | 1, _ => exact h1
  | 2, _ => exact h2
  | 3, _ => exact h3
  | 4, _ => exact h4
  | 5, _ => exact h5
theorem lower_cw {i : Nat} (hi : i < 6) : Txt.lower (cw i) = clw i :=
  six (P := fun i => Txt.lower (cw i) = clw i) (by with_unfolding_all decide +kernel) (by with_unfolding_all decide +kernel) (by with_unfolding_all decide +kernel) (by with_unfolding_all decide +kernel) (by with_unfolding_all decide +kernel) (by with_unfolding_all decide +kernel) hi
theorem len_cw {i : Nat} (hi : i < 6) : (cw i).length ≤ 12 :=
  six (P := fun i => (cw i).length ≤ 12) (by with_unfolding_all decide +kernel) (by with_unfolding_all decide +kernel) (by with_unfolding_all decide +kernel) (by with_unfolding_all decide +kernel) (by with_unfolding_all decide +kernel) (by with_unfolding_all decide +kernel) hi
theorem ascii_cw {i : Nat} (hi : i < 6) : (cw i).cps.all (· < 128) = true :=
  six (P := fun i => (cw i).cps.all (· < 128) = true) (by with_unfolding_all decide +kernel) (by with_unfolding_all decide +kernel) (by with_unfolding_all decide +kernel) (by with_unfolding_all decide +kernel) (by with_unfolding_all decide +kernel) (by with_unfolding_all decide +kernel) hi
def cwList (t0 t1 t2 t3 t4 t5 : Tok) : Array Value := #[.str (Str.ofString "binary") t0, .str (Str.ofString "NoCase") t1, .str (Str.ofString "RTRIM") t2, .str (Str.ofString "ltrim") t3, .str (Str.ofString "") t4, .str (Str.ofString "nocase ") t5]
theorem cwList_at {t0 t1 t2 t3 t4 t5 : Tok} {i : Nat} (hi : i < 6) : ∃ t, (cwList t0 t1 t2 t3 t4 t5)[i]? = some (.str (cw i) t) := by
  exact six (P := fun i => ∃ t, (cwList t0 t1 t2 t3 t4 t5)[i]? = some (.str (cw i) t)) ⟨t0, by unfold cwList cw; rfl⟩ ⟨t1, by unfold cwList cw; rfl⟩ ⟨t2, by unfold cwList cw; rfl⟩ ⟨t3, by unfold cwList cw; rfl⟩ ⟨t4, by unfold cwList cw; rfl⟩ ⟨t5, by unfold cwList cw; rfl⟩ hi
theorem cword_at {value slice : PySem.Expr} {l : Addr} {t0 t1 t2 t3 t4 t5 : Tok} {k : Nat} {d : Int} {u : Tok} (N : News h₀ L s.heap news) (hm : (l, listOf (cwList t0 t1 t2 t3 t4 t5) k) ∈ news) (h0 : 0 ≤ d) (h1 : d < 6) (h : ∀ i t, i < 6 → Txt.lower (cw i) = clw i → (cw i).length ≤ 12 → (cw i).cps.all (· < 128) = true → Q (.str (cw i) t) s)
    (hs : subscripted slice false (.ref l) (.int d u) = operate [.ref l, .int d u] (getItem (.ref l) (.int d u)) := by with_unfolding_all rfl) :
    wpAny (model prg w) A (subscriptTail value slice (.ref l) (.int d u)) Q E s := by
  have hl : s.heap.IsList l (cwList t0 t1 t2 t3 t4 t5) := ⟨_, (N _ hm).1, rfl, _, rfl⟩
  have hi : d.toNat < 6 := by omega
  obtain ⟨t, e⟩ := cwList_at (t0 := t0) (t1 := t1) (t2 := t2) (t3 := t3) (t4 := t4) (t5 := t5) hi
  exact PyProof.Rows.tail_any hl.typeIs slot_list_getitem.lookup (wpAny_getItem_list hl h0 (by omega) (x := .str (cw d.toNat) t) e (h _ t hi (lower_cw hi) (len_cw hi) (ascii_cw hi))) hs
end
end Mine
namespace Mine
section
variable {w : World} {vw : Program} {lo : List Str} {mean : ExcName → Option Value} {mg mb : Str → Option Value} {dp un : Nat} {gd : Option (List Code)} {cn : Str} {cs : Scope} {a : Addr} {ccd : Value} {cl : List (Str × Addr)} {outer : List Env} {A₀ : Around} {base h₀ : Heap} {L : Addr} {m : Str → Option Value} {news : List (Addr × Obj)} {s : Shared} {Q E : Value → Shared → Prop}
theorem end_pool {h' : Heap} {K : List (Addr × Obj)} {q : Addr} {b c : Int} {t1 t2 : Tok} {k tk' : Nat} (hret : ∀ q b c t1 t2 k h' tk', 0 ≤ b → 0 ≤ c → Fr h₀ L h' m → News h₀ L h' ((q, listOf #[.int b t1, .int c t2] k) :: news) → Q (.ref q) { s with heap := h', toks := tk' })
    (hb : 0 ≤ b) (hc : 0 ≤ c) (F : Fr h₀ L h' m) (N : News h₀ L h' K) (hs : ∀ p ∈ (q, listOf #[.int b t1, .int c t2] k) :: news, p ∈ K) : Q (.ref q) { s with heap := h', toks := tk' } :=
  hret q b c t1 t2 k h' tk' hb hc F (cb_drop N hs)
theorem pool_c (B : Below A₀ base outer h₀) (F : Fr h₀ L s.heap m) (X : (Mine.K w.params).In h₀) (N : News h₀ L s.heap news) (T : Top vw lo mean mg mb h₀) (hk : cs.kind = .function) (hdp : dp + 10 < recursionLimit) (hu : un + 80 < cLine)
    {sc : Addr} {vs : List Value} {ns : List Int} {k : Int} {t : Tok} (hl : base.IsList sc vs.toArray) (hi : IntsAre vs ns) (hlen : ns.length ≤ 63) (hk0 : 0 ≤ k) (hk1 : k < 3)
    (hret : ∀ q b c t1 t2 k h' tk', 0 ≤ b → 0 ≤ c → Fr h₀ L h' m → News h₀ L h' ((q, listOf #[.int b t1, .int c t2] k) :: news) → Q (.ref q) { s with heap := h', toks := tk' }) :
    wpAny (model prg w) (ktrTop dp un gd cn cs L a ccd cl outer) (call (.ref 549) [.ref sc, .int k t]) Q E s := by
  refine wpAny_call ?_
  (apply code_def (binds := [(Str.ofString "script", .ref sc), (Str.ofString "k", .int k t)]); walk_at "enter")
  k_steps
  all_goals (refine end_pool hret ?_ ?_ (by assumption) (by assumption) (fun p hp => hp))
  all_goals first | exact Int.fmod_nonneg_of_pos _ (by decide) | exact Int.le_refl _ | (split <;> omega) | omega
end
end Mine
namespace Mine
section
variable {w : World} {vw : Program} {lo : List Str} {mean : ExcName → Option Value} {mg mb : Str → Option Value} {dp un : Nat} {gd : Option (List Code)} {cn : Str} {cs : Scope} {a : Addr} {ccd : Value} {cl : List (Str × Addr)} {outer : List Env} {A₀ : Around} {base h₀ : Heap} {L : Addr} {m : Str → Option Value} {news : List (Addr × Obj)} {s : Shared} {Q E : Value → Shared → Prop}
theorem made_call (B : Below A₀ base outer h₀) (F : Fr h₀ L s.heap m) (X : (Mine.K w.params).In h₀) (N : News h₀ L s.heap news) (T : Top vw lo mean mg mb h₀) (hk : cs.kind = .function) (hdp : dp + 10 < recursionLimit) (hu : un + 80 < cLine)
    {y : Str} {t : Tok} {la : Addr} {d st : Bool}
    (hret : ∀ x dx h1 h2 h3 h4 t1 t3 t4 t5 n h' tk', Fr h₀ L h' m → News h₀ L h' ((x, instObj 380 dx) :: (dx, dictOf [⟨h1, .str (Str.ofString "name") t1, .str y t⟩, ⟨h2, .str (Str.ofString "arguments") t3, .ref la⟩, ⟨h3, .str (Str.ofString "distinct") t4, .bool d⟩, ⟨h4, .str (Str.ofString "star") t5, .bool st⟩] n) :: news) → Q (.ref x) { s with heap := h', toks := tk' }) :
    wpAny (model prg w) (ktrTop dp un gd cn cs L a ccd cl outer) (call (.ref 380) [.str y t, .ref la, .bool d, .bool st]) Q E s := by
  refine call_cls F X N (by k_is) (by k_is) (by k_is) fun x dx h' F' N' l1 l2 => ?_
  have N₂ : News h₀ L h' ([(x, instObj 380 dx), (dx, dictOf [] 0)] ++ news) := N'
  have hdis : ∀ q ∈ news, q.1 ∉ [(x, instObj 380 dx), (dx, dictOf [] 0)].map (·.1) := fun q hq hm => by
    have z : @LT.lt Nat _ q.1 dx := l1 q hq
    have z2 : @LT.lt Nat _ dx x := l2
    simp only [List.map_cons, List.map_nil, List.mem_cons, List.not_mem_nil, or_false] at hm
    rcases hm with h | h
    · have h : @Eq Nat q.1 x := h
      omega
    · have h : @Eq Nat q.1 dx := h
      omega
  clear N' l1
  k_lt2 l2
  (apply Mine.code_defM (binds := [(Str.ofString "self", .ref x), (Str.ofString "name", .str y t), (Str.ofString "arguments", .ref la), (Str.ofString "distinct", .bool d), (Str.ofString "star", .bool st)]); walk_at "enterM")
  k_steps
  all_goals (refine ⟨rfl, ?_⟩; exact hret _ _ _ _ _ _ _ _ _ _ _ _ _ (by assumption) (by assumption))
end
end Mine
theorem Mine.word44 : True := by (k_with "call ref" => (k_here; (with_reducible show wpAny _ _ (call (Value.ref 380) [Value.str (Mine.wd _) _, Value.ref _, Value.bool _, Value.bool _]) _ _ _); k_dflt (apply Mine.made_call; (case B => k_asm); (case F => k_asm); (case X => k_asm); (case N => k_asm); (case T => k_asm); (case hk => first | exact rfl | assumption); (case hdp => ktr_room); (case hu => ktr_units); k_whole); intro x' dx' g1 g2 g3 g4 u1 u3 u4 u5 n' h' tk' F' N'; (try dsimp only); (try k_fold))); trivial
theorem Mine.word45 : True := by (k_with "subscriptTail" => (k_here; (with_reducible show wpAny _ _ (subscriptTail _ _ (Value.ref _) (Value.int _ _)) _ _ _); k_dflt (apply Mine.word_at; (case N => k_asm); (case hm => k_mem); (case h0 => assumption); (case h1 => assumption); (case hs => with_unfolding_all rfl); k_whole); intro i' t' hi' hlo' hle'; (try dsimp only))); trivial
theorem Mine.word46 : True := by (k_with "SUBTAIL" => (intro p hp; (repeat (first | exact hp | exact List.mem_append_left _ hp | exact List.mem_append_right _ hp | refine List.mem_cons_of_mem _ ?_)); done)); trivial
theorem Mine.word47 : True := by (k_with "eval ListComp" => (k_here; (with_reducible show wpAny _ _ (eval (Expr.ListComp (Expr.Call _ _ _ _) _ _ _) _) _ _ _); k_dflt (apply Mine.comp_args; (case B => k_asm); (case F₀ => k_asm); (case X => k_asm); (case T => k_asm); (case hk => first | exact rfl | assumption); (case hclos => with_unfolding_all rfl); (case hcell => decide); (case hkind => rfl); (case hnames => decide); (case hx => rfl); (case hg => exact fun _ => rfl); (case hs => exact fun _ => rfl); (case hcl => rfl); (case hfs => exact fun _ => rfl); (case hdp => ktr_room); (case hu => ktr_units); k_whole))); trivial
theorem Mine.word48 : True := by (k_with "ArgsSrc" => (k_here; k_dflt (apply Mine.argsSrc; (case F => k_asm); (case N => k_asm); (case hr => assumption); (case hoc => assumption); (case hm => k_mem); (case U => k_updF); (case h0 => assumption); (case h4 => assumption); (case hb => assumption); (case hc => assumption); (case hcs => k_ne); k_whole); intro D' b' c' t1' t2' k' ys' ext' vs' fs' h' tk' hb' hc' hA' hz' F' N'; (try dsimp only [List.cons_append, List.nil_append] at N'); (try dsimp only); (try k_fold))); trivial
theorem Mine.word49 : True := by (k_with "FirstsSrc" => (k_here; k_dflt (apply Mine.firstsSrc; (case F => k_asm); (case N => k_asm); (case hla => k_mem); (case A => first | assumption | exact Mine.Args.nil0); (case hz => first | assumption | exact Nat.zero_le _); (case hsub => first | exact List.forall_mem_nil _ | walk_at "SUBTAIL"); k_whole); intro D' h' tk' F' N'; (try dsimp only); (try k_fold))); trivial
namespace Mine
section
variable {w : World} {vw : Program} {lo : List Str} {mean : ExcName → Option Value} {mg mb : Str → Option Value} {dp un : Nat} {gd : Option (List Code)} {cn : Str} {cs : Scope} {a : Addr} {ccd : Value} {cl : List (Str × Addr)} {outer : List Env} {A₀ : Around} {base h₀ : Heap} {L : Addr} {m : Str → Option Value} {news : List (Addr × Obj)} {s : Shared} {Q E : Value → Shared → Prop}
theorem islet_ex (B : Below A₀ base outer h₀) (F : Fr h₀ L s.heap m) (X : (Mine.K w.params).In h₀) (N : News h₀ L s.heap news) (T : Top vw lo mean mg mb h₀) (hk : cs.kind = .function) (XB : (Mine.K w.params).In base) (TB : Top vw lo mean mg mb base) (D : KtsDicts (outer.filterMap (·.frame)) h₀)
    (hdp : dp + 40 < 600) (hu : un + 400 < 5000) {i : Nat} (hi : i < 12) {x dx la : Addr} {h1 h2 h3 h4 : Int} {t1 t2 t3 t4 t5 : Tok} {ext : List (Addr × Obj)} {its : Array Value} {vs : List Value} {fs : Nat → Bool} {n k : Nat} {d st : Bool}
    (n1 : (x, instObj 380 dx) ∈ news) (n2 : (dx, dictOf [⟨h1, .str (Str.ofString "name") t1, .str (wd i) t2⟩, ⟨h2, .str (Str.ofString "arguments") t3, .ref la⟩, ⟨h3, .str (Str.ofString "distinct") t4, .bool d⟩, ⟨h4, .str (Str.ofString "star") t5, .bool st⟩] n) ∈ news) (n3 : (la, listOf vs.toArray k) ∈ news)
    (A : Args ext its vs fs) (hsub : ∀ p ∈ ext, p ∈ news) (hz : its.size ≤ 4) (hst : st = true → its.size = 0)
    (hret : ∀ r kg h' tk', Due i its.size d st fs r → KtsTurn (outer.filterMap (·.frame)) h₀ kg → Fr kg L h' m → News kg L h' news → Below A₀ base outer kg → (Mine.K w.params).In kg → Top vw lo mean mg mb kg → KtsDicts (outer.filterMap (·.frame)) kg → Q (.bool r) { s with heap := h', toks := tk' }) :
    wpAny (model prg w) (ktrTop dp un gd cn cs L a ccd cl outer) (call (.ref 589) [.ref x]) Q E s := by
  obtain ⟨r, hr⟩ := due_ex i its.size d st fs
  exact islet_all B F X N T hk XB TB D hdp hu hi n1 n2 n3 (A.mono hsub) hz hst hr fun kg h' tk' => hret r kg h' tk' hr
theorem end_right {base kg h' : Heap} {rest K : List (Addr × Obj)} {src : Addr} {b c : Int} {t1 t2 : Tok} {k tk' : Nat} {x : Bool}
    (hret : ∀ kg b' c' t1 t2 k h' tk', KtsTurn (outer.filterMap (·.frame)) h₀ kg → 0 ≤ b' → 0 ≤ c' → Fr kg L h' m → News kg L h' ((src, listOf #[.int b' t1, .int c' t2] k) :: rest) → Below A₀ base outer kg → (Mine.K w.params).In kg → Top vw lo mean mg mb kg → KtsDicts (outer.filterMap (·.frame)) kg → Q (.bool true) { s with heap := h', toks := tk' })
    (e : x = true) (T : KtsTurn (outer.filterMap (·.frame)) h₀ kg) (hb : 0 ≤ b) (hc : 0 ≤ c) (F : Fr kg L h' m) (N : News kg L h' K) (hs : (src, listOf #[.int b t1, .int c t2] k) ∈ K) (hr : ∀ p ∈ rest, p ∈ K) (B : Below A₀ base outer kg) (X : (Mine.K w.params).In kg) (P : Top vw lo mean mg mb kg) (D : KtsDicts (outer.filterMap (·.frame)) kg) : Q (.bool x) { s with heap := h', toks := tk' } := by
  subst e
  refine hret kg b c t1 t2 k h' tk' T hb hc F (fun p hp => N p ?_) B X P D
  rcases List.mem_cons.mp hp with rfl | hp
  · exact hs
  · exact hr p hp
end
end Mine
theorem Mine.word50 : True := by (k_with "call ref" => (k_here; (with_reducible show wpAny _ _ (call (Value.ref 589) [Value.ref _]) _ _ _); k_dflt (apply Mine.islet_ex; (case F => k_asm); (case B => k_asm); (case XB => assumption); (case TB => assumption); (case D => assumption); (case X => k_asm); (case N => k_asm); (case T => k_asm); (case hk => first | exact rfl | assumption); (case n1 => k_mem); (case n2 => k_mem); (case n3 => k_mem); (case A => first | assumption | exact Mine.Args.nil0); (case hi => assumption); (case hsub => first | exact List.forall_mem_nil _ | walk_at "SUBTAIL"); (case hz => first | assumption | exact Nat.zero_le _); (case hst => first | exact fun _ => rfl | simp_all); (case hdp => ktr_room); (case hu => ktr_units); k_whole); intro r' kg' h' tk' hr' kT' F' N' B' X' T' D'; (try dsimp only); (try k_fold))); trivial
theorem Mine.word51 : True := by (k_with "call ref" => (k_here; (with_reducible show wpAny _ _ (call (Value.ref 582) [Value.str (Mine.lw _) _, Value.ref _, Value.bool _, Value.bool _]) _ _ _); k_dflt (apply Mine.due_all; (case F => k_asm); (case B => k_asm); (case X => k_asm); (case N => k_asm); (case T => k_asm); (case hk => first | exact rfl | assumption); (case n1 => k_mem); (case hr => assumption); (case A => first | exact Mine.Args.mono (by assumption) (by walk_at "SUBTAIL") | exact Mine.Args.nil rfl); (case hi => assumption); (case hz => first | assumption | exact Nat.zero_le _); (case hdp => ktr_room); (case hu => ktr_units); k_whole); intro h' tk' F' N'; (try dsimp only); (try k_fold))); trivial
namespace Mine
section
variable {w : World} {vw : Program} {lo : List Str} {mean : ExcName → Option Value} {mg mb : Str → Option Value} {dp un : Nat} {gd : Option (List Code)} {cn : Str} {cs : Scope} {a : Addr} {ccd : Value} {cl : List (Str × Addr)} {outer : List Env} {A₀ : Around} {base h₀ : Heap} {L : Addr} {m : Str → Option Value} {rest : List (Addr × Obj)} {s : Shared} {Q E : Value → Shared → Prop}
theorem callright (B : Below A₀ base outer h₀) (F : Fr h₀ L s.heap m) (X : (Mine.K w.params).In h₀) (T : Top vw lo mean mg mb h₀) (hk : cs.kind = .function) (XB : (Mine.K w.params).In base) (TB : Top vw lo mean mg mb base) (D : KtsDicts (outer.filterMap (·.frame)) h₀)
    (hdp : dp + 60 < 600) (hu : un + 600 < 5000) {src : Addr} {b c : Int} {t1 t2 : Tok} {k : Nat} (hb : 0 ≤ b) (hc : 0 ≤ c) (N : News h₀ L s.heap ([(src, listOf #[.int b t1, .int c t2] k)] ++ rest)) (hdis : ∀ q ∈ rest, q.1 ∉ [(src, listOf #[.int b t1, .int c t2] k)].map (·.1))
    (hret : ∀ kg b' c' t1 t2 k h' tk', KtsTurn (outer.filterMap (·.frame)) h₀ kg → 0 ≤ b' → 0 ≤ c' → Fr kg L h' m → News kg L h' ((src, listOf #[.int b' t1, .int c' t2] k) :: rest) → Below A₀ base outer kg → (Mine.K w.params).In kg → Top vw lo mean mg mb kg → KtsDicts (outer.filterMap (·.frame)) kg → Q (.bool true) { s with heap := h', toks := tk' }) :
    wpAny (model prg w) (ktrTop dp un gd cn cs L a ccd cl outer) (call (.ref 594) [.ref src]) Q E s := by
  refine wpAny_call ?_
  (apply Mine.code_defCS (binds := [(Str.ofString "source", .ref src)]); walk_at "enterCS")
  k_steps
  all_goals (apply Mine.end_right hret; (case e => simp); (case F => assumption); (case N => assumption); (case T => assumption); (case hs => k_mem); (case hb => assumption); (case hc => assumption); (case hr => walk_at "SUBTAIL"); (case B => assumption); (case X => assumption); (case P => assumption); (case D => assumption))
end
end Mine
namespace Mine
section
variable {w : World} {vw : Program} {lo : List Str} {mean : ExcName → Option Value} {mg mb : Str → Option Value} {dp un : Nat} {gd : Option (List Code)} {cn : Str} {cs : Scope} {a : Addr} {ccd : Value} {cl : List (Str × Addr)} {outer : List Env} {A₀ : Around} {base h₀ : Heap} {L : Addr} {m : Str → Option Value} {news : List (Addr × Obj)} {s : Shared} {Q E : Value → Shared → Prop}
theorem fr_turn {kg h : Heap} (K : KtsTurn [] h₀ kg) (F : Fr kg L h m) : Fr h₀ L h m := ⟨F.ns, fun b o e => F.keep b o (K.other b o e (nomatch ·)), by rw [← K.size]; exact F.above⟩
theorem news_turn {kg h : Heap} (K : KtsTurn [] h₀ kg) (N : News kg L h news) : News h₀ L h news := fun p hp => ⟨(N p hp).1, (N p hp).2.1, kts_none (fun b o e => K.other b o e (nomatch ·)) (N p hp).2.2⟩
/-- a turn's question, asked from the law -/
theorem callright_u {g : Obj → List (Addr × Obj)} (B : Below A₀ h₀ [] h₀) (F : Fr h₀ L s.heap m) (X : (Mine.K w.params).In h₀) (N : News h₀ L s.heap news) (T : Top vw lo mean mg mb h₀) (hk : cs.kind = .function) (hdp : dp + 60 < 600) (hu : un + 600 < 5000)
    {src : Addr} {b c : Int} {t1 t2 : Tok} {k : Nat} (U : UpdF src (listOf #[.int b t1, .int c t2] k) news g) (hb : 0 ≤ b) (hc : 0 ≤ c)
    (hret : ∀ b' c' t1 t2 k h' tk', 0 ≤ b' → 0 ≤ c' → Fr h₀ L h' m → News h₀ L h' (g (listOf #[.int b' t1, .int c' t2] k)) → Q (.bool true) { s with heap := h', toks := tk' }) :
    wpAny (model prg w) (ktrTop dp un gd cn cs L a ccd cl []) (call (.ref 594) [.ref src]) Q E s := by
  obtain ⟨pre, post, rfl, hg, h1, h2⟩ := U.split
  refine callright (outer := []) (base := h₀) (rest := pre ++ post) (t1 := t1) (t2 := t2) (k := k) B F X T hk X T ktsDicts_nil hdp hu hb hc (fun (p : Addr × Obj) hp => N p ?_) (fun q hq => ?_) fun kg b' c' t1 t2 k h' tk' KT e1 e2 F' N' _ _ _ _ => hret b' c' t1 t2 k h' tk' e1 e2 (fr_turn KT F') (fun (p : Addr × Obj) hp => news_turn KT N' p ?_)
  · have hp : p ∈ (src, listOf #[.int b t1, .int c t2] k) :: (pre ++ post) := hp
    simp only [List.mem_cons, List.mem_append] at hp ⊢
    rcases hp with h | h | h <;> simp [h]
  · intro hm
    have e : q.1 = src := by simpa using hm
    rcases List.mem_append.mp hq with hq | hq
    · exact h1 q hq e
    · exact h2 q hq e
  · rw [hg] at hp
    simp only [List.mem_cons, List.mem_append] at hp ⊢
    rcases hp with h | h | h <;> simp [h]
/-- a collation's -/
theorem islet_coll (B : Below A₀ h₀ [] h₀) (F : Fr h₀ L s.heap m) (X : (Mine.K w.params).In h₀) (N : News h₀ L s.heap news) (T : Top vw lo mean mg mb h₀) (hk : cs.kind = .function) (hdp : dp + 20 < 600) (hu : un + 200 < 5000)
    {x dx : Addr} {n : Nat} {h1 h2 : Int} {t1 t2 t3 : Tok} {v : Value} {y : Str} (ha : y.cps.all (· < 128) = true) (hy : y.length ≤ 12) (n1 : (x, instObj 432 dx) ∈ news) (n2 : (dx, dictOf [⟨h1, .str (Str.ofString "value") t1, v⟩, ⟨h2, .str (Str.ofString "collation") t2, .str y t3⟩] n) ∈ news)
    (hret : ∀ h' tk', Fr h₀ L h' m → News h₀ L h' news → Q (.bool (colB y)) { s with heap := h', toks := tk' }) :
    wpAny (model prg w) (ktrTop dp un gd cn cs L a ccd [] []) (call (.ref 589) [.ref x]) Q E s :=
  isletc (outer := []) (base := h₀) (news := news) B F X T hk X T ktsDicts_nil hdp hu ha hy (fun p hp => N p (by
    rcases List.mem_cons.mp hp with rfl | hp
    · exact n1
    · rcases List.mem_cons.mp hp with rfl | hp
      · exact n2
      · exact hp)) fun kg h' tk' KT F' N' _ _ _ _ => hret h' tk' (fr_turn KT F') (news_turn KT N')
section
variable (B : Below A₀ base outer h₀) (F : Fr h₀ L s.heap m) (X : (Mine.K w.params).In h₀) (N : News h₀ L s.heap news) (T : Top vw lo mean mg mb h₀) (hk : cs.kind = .function)
variable (XB : (Mine.K w.params).In base) (TB : Top vw lo mean mg mb base) (D : KtsDicts (outer.filterMap (·.frame)) h₀)
include B F X N T hk XB TB D
theorem islet_lit (hdp : dp + 40 < 600) (hu : un + 400 < 5000) {x dx : Addr} {n : Nat} {h1 : Int} {t1 : Tok} {v : Value} (hown : ∀ p ∈ [(x, instObj 174 dx), (dx, dictOf [⟨h1, .str (Str.ofString "value") t1, v⟩] n)], p ∈ news)
    (hret : ∀ kg h' tk', KtsTurn (outer.filterMap (·.frame)) h₀ kg → Fr kg L h' m → News kg L h' news → Below A₀ base outer kg → (Mine.K w.params).In kg → Top vw lo mean mg mb kg → KtsDicts (outer.filterMap (·.frame)) kg → Q (.bool true) { s with heap := h', toks := tk' }) :
    wpAny (model prg w) (ktrTop dp un gd cn cs L a ccd cl outer) (call (.ref 589) [.ref x]) Q E s := by
  refine wpAny_call ?_
  (apply Mine.code_defSO (binds := [(Str.ofString "expr", .ref x)]); walk_at "enterSO")
  k_steps
  all_goals ((apply Mine.retS hret; walk_at "retS"); rfl)
theorem islet_bin (hdp : dp + 40 < 600) (hu : un + 400 < 5000) {x dx : Addr} {n : Nat} {h1 h2 h3 : Int} {t1 t2 t3 : Tok} {v1 v2 v3 : Value} (hown : ∀ p ∈ [(x, instObj 252 dx), (dx, dictOf [⟨h1, .str (Str.ofString "op") t1, v1⟩, ⟨h2, .str (Str.ofString "left") t2, v2⟩, ⟨h3, .str (Str.ofString "right") t3, v3⟩] n)], p ∈ news)
    (hret : ∀ kg h' tk', KtsTurn (outer.filterMap (·.frame)) h₀ kg → Fr kg L h' m → News kg L h' news → Below A₀ base outer kg → (Mine.K w.params).In kg → Top vw lo mean mg mb kg → KtsDicts (outer.filterMap (·.frame)) kg → Q (.bool true) { s with heap := h', toks := tk' }) :
    wpAny (model prg w) (ktrTop dp un gd cn cs L a ccd cl outer) (call (.ref 589) [.ref x]) Q E s := by
  refine wpAny_call ?_
  (apply Mine.code_defSO (binds := [(Str.ofString "expr", .ref x)]); walk_at "enterSO")
  k_steps
  all_goals ((apply Mine.retS hret; walk_at "retS"); rfl)
end
theorem two_in {p q : Addr × Obj} (h1 : p ∈ news) (h2 : q ∈ news) : ∀ z ∈ [p, q], z ∈ news := by
  intro z hz
  simp only [List.mem_cons, List.not_mem_nil, or_false] at hz
  rcases hz with rfl | rfl <;> assumption
theorem islet_lit0 (B : Below A₀ h₀ [] h₀) (F : Fr h₀ L s.heap m) (X : (Mine.K w.params).In h₀) (N : News h₀ L s.heap news) (T : Top vw lo mean mg mb h₀) (hk : cs.kind = .function) (hdp : dp + 40 < 600) (hu : un + 400 < 5000)
    {x dx : Addr} {n : Nat} {h1 : Int} {t1 : Tok} {v : Value} (n1 : (x, instObj 174 dx) ∈ news) (n2 : (dx, dictOf [⟨h1, .str (Str.ofString "value") t1, v⟩] n) ∈ news) (hret : ∀ h' tk', Fr h₀ L h' m → News h₀ L h' news → Q (.bool true) { s with heap := h', toks := tk' }) :
    wpAny (model prg w) (ktrTop dp un gd cn cs L a ccd cl []) (call (.ref 589) [.ref x]) Q E s :=
  islet_lit (outer := []) (base := h₀) B F X N T hk X T ktsDicts_nil hdp hu (two_in n1 n2) fun kg h' tk' KT F' N' _ _ _ _ => hret h' tk' (fr_turn KT F') (news_turn KT N')
theorem islet_bin0 (B : Below A₀ h₀ [] h₀) (F : Fr h₀ L s.heap m) (X : (Mine.K w.params).In h₀) (N : News h₀ L s.heap news) (T : Top vw lo mean mg mb h₀) (hk : cs.kind = .function) (hdp : dp + 40 < 600) (hu : un + 400 < 5000)
    {x dx : Addr} {n : Nat} {h1 h2 h3 : Int} {t1 t2 t3 : Tok} {v1 v2 v3 : Value} (n1 : (x, instObj 252 dx) ∈ news) (n2 : (dx, dictOf [⟨h1, .str (Str.ofString "op") t1, v1⟩, ⟨h2, .str (Str.ofString "left") t2, v2⟩, ⟨h3, .str (Str.ofString "right") t3, v3⟩] n) ∈ news) (hret : ∀ h' tk', Fr h₀ L h' m → News h₀ L h' news → Q (.bool true) { s with heap := h', toks := tk' }) :
    wpAny (model prg w) (ktrTop dp un gd cn cs L a ccd cl []) (call (.ref 589) [.ref x]) Q E s :=
  islet_bin (outer := []) (base := h₀) B F X N T hk X T ktsDicts_nil hdp hu (two_in n1 n2) fun kg h' tk' KT F' N' _ _ _ _ => hret h' tk' (fr_turn KT F') (news_turn KT N')
end
theorem no_parting {i : Nat} (hi : i < 6) : ¬ (colB (cw i) != [Str.ofString "binary", Str.ofString "nocase", Str.ofString "rtrim"].any fun x => x == Txt.lower (cw i)) = true :=
  six (P := fun i => ¬ (colB (cw i) != [Str.ofString "binary", Str.ofString "nocase", Str.ofString "rtrim"].any fun x => x == Txt.lower (cw i)) = true) (by with_unfolding_all decide +kernel) (by with_unfolding_all decide +kernel) (by with_unfolding_all decide +kernel) (by with_unfolding_all decide +kernel) (by with_unfolding_all decide +kernel) (by with_unfolding_all decide +kernel) hi
section
variable {prog : Program} {w : World} {A : Around} {E : Value → Shared → Prop} {s : Shared} {env : Env} {h₀ : Heap} {x y : Str} {v : Value} {body : List Stmt} {Q : Flow → Shared → Prop}
theorem iter_turns {L r : Addr} {e : Int} {t₀ u₀ v₀ : Tok} {m₀ : Str → Option Value} (hL : env.locals = L) (hh : A.handled = none) (hr : IsRange s.heap r 0 e 1 t₀ u₀ v₀) (h0 : 0 ≤ e) (h3 : e ≤ 3) (F : Fr h₀ L s.heap m₀) (hy : m₀ y = some v) (hyx : y ≠ x)
    (turn : ∀ (I : Addr) (a b k : Int) t (u : Str → Option Value) h tk, 0 ≤ k → k < 3 → Fr h₀ L h (fun z => if z = x then some (.int k t) else if z = y then some v else u z) → News h₀ L h [(I, krsIt a b 1)] →
      wpAny (model prog w) A (execs body env) (UnrPost h₀ L { s with heap := h, toks := tk } I (krsIt a b 1) (fun m _ => m y = some v) Q) E { s with heap := h, toks := tk })
    (done : ∀ (u : Str → Option Value) h tk, Fr h₀ L h u → News h₀ L h [] → Q .next { s with heap := h, toks := tk }) :
    wpAny (model prog w) A (pyIter (.ref r)) (fun it s₂ => LoopAtV prog w A h₀ env x body Q E it s₂) E s := by
  subst hL
  have hn : Builtin.Range.rangeSize 0 e 1 = ((e - 0).toNat : Int) := rangeSize_nat _ _
  refine wpAny_pyIter_range hr (small_one (by omega) (by omega) (by omega) (by omega)) ?_
  have W : Walks prog w A s.heap.objs.size [s.heap.objs.size] [s.heap.objs.size] (e - 0).toNat (fun i v => i < (e - 0).toNat ∧ ∃ t, v = .int (0 + i * 1) t)
      (fun i h => IsRangeIter h s.heap.objs.size (0 + (i : Nat) * 1) (((e - 0).toNat : Int) - (i : Nat)) 1) := (Walks.range hh _ 0 1 (e - 0).toNat).bound
  have hnew := next_is_new F
  let J : Nat → (Str → Option Value) → List (Addr × Obj) → Prop := fun _ m _ => m y = some v
  refine ⟨_, _, _, (e - 0).toNat, _, _, m₀, [], J, rfl, W, ?_, ?_, (fun p hp => (nomatch hp)), (by show IsRangeIter _ _ _ _ _; rw [hn]; simpa using Heap.get?_push_size _ rfl), F.push _, (fun p hp => (nomatch hp)), hy, ?_, ?_⟩
  · intro hm
    exact absurd F.ns.lt ((List.mem_singleton.mp hm) ▸ Nat.lt_irrefl _)
  · intro b hb
    rw [List.mem_singleton.mp hb]
    exact hnew
  · rintro i v' m₁ news₁ s₁ own ⟨hh', tk', rfl⟩ hin ⟨_, t, rfl⟩ hv hoff hown hget hall hst F₁ N₁
    have hst' : hh'.get? s.heap.objs.size = some (krsIt (0 + ((i + 1 : Nat) : Int) * 1) (((e - 0).toNat : Int) - ((i + 1 : Nat) : Int)) 1) := hst
    have hmem := hall s.heap.objs.size (List.mem_singleton.mpr rfl) hnew _ hst'
    have N₂ : News h₀ env.locals hh' [(s.heap.objs.size, krsIt (0 + ((i + 1 : Nat) : Int) * 1) (((e - 0).toNat : Int) - ((i + 1 : Nat) : Int)) 1)] := fun p hp => by
      rw [List.mem_singleton.mp hp]; exact N₁ _ (List.mem_append_left _ hmem)
    have e1 : (0 : Int) + (i : Int) * 1 = (i : Int) := by omega
    rw [e1] at F₁
    have hv : m₁ y = some v := hv
    have e2 : (fun z => if z = x then some (Value.int (i : Int) t) else m₁ z) = fun z => if z = x then some (Value.int (i : Int) t) else if z = y then some v else m₁ z := by
      funext z
      by_cases h1 : z = x
      · simp [h1]
      · simp only [if_neg h1]
        by_cases h2 : z = y
        · subst h2; simp [hv]
        · simp only [if_neg h2]
    rw [e2] at F₁
    refine wpAny_mono (turn _ _ _ i t m₁ hh' tk' (by omega) (by omega) F₁ N₂) (fun f s₂ p => ?_) fun _ _ e => e
    have fin : UnrEnd h₀ env.locals { s with heap := hh', toks := tk' } s.heap.objs.size (krsIt (0 + ((i + 1 : Nat) : Int) * 1) (((e - 0).toNat : Int) - ((i + 1 : Nat) : Int)) 1) (fun m _ => m y = some v) s₂ →
        LoopStepU h₀ env.locals [s.heap.objs.size] own (J (i + 1)) { s with heap := hh', toks := tk' } .next s₂ := by
      rintro ⟨h', tk, m', news', eq', F', N', ho, r⟩
      refine ⟨rfl, h', tk, m', news', eq', F', fun p hp => ?_, fun p hp hI => ho p hp (List.mem_singleton.mp hI), r⟩
      rcases List.mem_append.mp hp with hp | hp
      · have h1 : p.1 = s.heap.objs.size := List.mem_singleton.mp (hown p hp)
        have h2 : hh'.get? p.1 = some p.2 := hget p hp
        have h3 : p = (s.heap.objs.size, krsIt (0 + ((i + 1 : Nat) : Int) * 1) (((e - 0).toNat : Int) - ((i + 1 : Nat) : Int)) 1) := by
          rw [h1, hst'] at h2
          exact Prod.ext h1 (Option.some.inj h2).symm
        rw [h3]; exact N' _ (List.mem_cons_self ..)
      · exact N' _ (List.mem_cons_of_mem _ hp)
    cases f with
    | ret v => exact .ret p
    | brk => exact .brk p
    | next => exact .next (fin p)
    | cont => exact .cont (fin p)
  · rintro h' tk m' news' F' N' _ hJ
    exact done m' h' tk F' (fun p hp => (nomatch hp))
theorem end_turns {L I : Addr} {it : Obj} {s₁ : Shared} {h' : Heap} {tk : Nat} {m' : Str → Option Value} {all : List (Addr × Obj)} (F : Fr h₀ L h' m') (N : News h₀ L h' all) (hI : (I, it) ∈ all) (hm : m' y = some v) :
    UnrEnd h₀ L s₁ I it (fun m _ => m y = some v) { s₁ with heap := h', toks := tk } :=
  UnrEnd.intro F N [] (fun p hp => by rw [List.mem_singleton.mp hp]; exact hI) (fun p hp => (nomatch hp)) hm
theorem off_iter {L q I : Addr} {xs : Array Value} {k : Nat} {a b : Int} {h : Heap} (N : News h₀ L h [(q, listOf xs k), (I, krsIt a b 1)]) : @Ne Nat q I := fun e => by
  have h1 := (N _ (.head _)).1
  have h2 := (N _ (.tail _ (.head _))).1
  have e : q = I := e
  rw [e] at h1
  exact absurd (congrArg Obj.cls (Option.some.inj (h1.symm.trans h2))) (fun e => absurd (Value.type.inj e) (by decide))
end
end Mine
theorem Mine.word52 : True := by (k_with "call ref" => (k_here; (with_reducible show wpAny _ _ (call (Value.ref 549) [Value.ref _, Value.int _ _]) _ _ _); k_dflt (apply Mine.pool_c; (case B => k_asm); (case F => k_asm); (case X => k_asm); (case N => k_asm); (case T => k_asm); (case hk => first | exact rfl | assumption); (case hl => assumption); (case hi => assumption); (case hlen => omega); (case hk0 => assumption); (case hk1 => assumption); (case hdp => ktr_room); (case hu => ktr_units); k_whole); intro q' b' c' t1' t2' k' h' tk' hb' hc' F' N'; (have hqI := Mine.off_iter N'); (try dsimp only); (try k_fold))); trivial
theorem Mine.word53 : True := by (k_with "call ref" => (k_here; (with_reducible show wpAny _ _ (call (Value.ref 594) [Value.ref _]) _ _ _); k_dflt (apply Mine.callright_u; (case B => k_asm); (case F => k_asm); (case X => k_asm); (case N => k_asm); (case T => k_asm); (case hk => first | exact rfl | assumption); (case U => k_updF); (case hb => assumption); (case hc => assumption); (case hdp => ktr_room); (case hu => ktr_units); k_whole); intro b' c' t1' t2' k' h' tk' hb' hc' F' N'; (try dsimp only at N'); (try dsimp only); (try k_fold))); trivial
theorem Mine.word54 : True := by (k_with "call ref" => (k_here; (with_reducible show wpAny _ _ (call (Value.ref 589) [Value.ref _]) _ _ _); k_dflt (apply Mine.islet_coll; (case B => k_asm); (case F => k_asm); (case X => k_asm); (case N => k_asm); (case n1 => k_mem); (case n2 => k_mem); (case ha => assumption); (case hy => assumption); (case T => k_asm); (case hk => first | exact rfl | assumption); (case hdp => ktr_room); (case hu => ktr_units); k_whole); intro h' tk' F' N'; (try dsimp only); (try k_fold))); trivial
theorem Mine.word55 : True := by (k_with "call ref" => (k_here; (with_reducible show wpAny _ _ (call (Value.ref 589) [Value.ref _]) _ _ _); k_dflt (apply Mine.islet_lit0; (case B => k_asm); (case F => k_asm); (case X => k_asm); (case N => k_asm); (case n1 => k_mem); (case n2 => k_mem); (case T => k_asm); (case hk => first | exact rfl | assumption); (case hdp => ktr_room); (case hu => ktr_units); k_whole); intro h' tk' F' N'; (try dsimp only); (try k_fold))); trivial
theorem Mine.word56 : True := by (k_with "call ref" => (k_here; (with_reducible show wpAny _ _ (call (Value.ref 589) [Value.ref _]) _ _ _); k_dflt (apply Mine.islet_bin0; (case B => k_asm); (case F => k_asm); (case X => k_asm); (case N => k_asm); (case n1 => k_mem); (case n2 => k_mem); (case T => k_asm); (case hk => first | exact rfl | assumption); (case hdp => ktr_room); (case hu => ktr_units); k_whole); intro h' tk' F' N'; (try dsimp only); (try k_fold))); trivial
theorem Mine.word57 : True := by (k_with "subscriptTail" => (k_here; (with_reducible show wpAny _ _ (subscriptTail _ _ (Value.ref _) (Value.int _ _)) _ _ _); k_dflt (apply Mine.cword_at; (case N => k_asm); (case hm => k_mem); (case h0 => assumption); (case h1 => assumption); (case hs => with_unfolding_all rfl); k_whole); intro i' t' hi' hlo' hle' has'; (try dsimp only))); trivial
theorem Mine.word58 : True := by (k_with "pyIter ref" => (k_here; (with_reducible show wpAny _ _ (pyIter (Value.ref _)) (fun it s₂ => LoopAtV _ _ _ _ _ (PySem.Str.ofString "k") _ _ _ it s₂) _ _); k_dflt (focus ((apply Mine.iter_turns (y := Str.ofString "script") rfl; (case hh => exact rfl); (case hr => assumption); (case F => k_asm); (case hy => exact rfl); (case hyx => decide); (case h0 => omega); (case h3 => omega)); (intro I' a' b' k' t' u' h' tk' hk0' hk1' F' N'; (try dsimp only); (try k_fold)); rotate_left; (intro u' h' tk' F' N'; (try dsimp only); (try k_fold)); rotate_left)))); trivial
theorem Mine.word59 : True := by (k_with "UnrEnd" => ((with_reducible show UnrEnd _ _ _ _ (krsIt _ _ _) _ _); k_dflt (apply Mine.end_turns; (case F => assumption); (case N => assumption); (case hI => k_mem); (case hm => exact rfl)))); trivial
namespace Mine
theorem kin {K' : Params → Frag} {w : World} {h : Heap} (e : Mine.K = K') (x : (K' w.params).In h) : (Mine.K w.params).In h := e ▸ x
end Mine
theorem Mine.main.tw10082525699882495855 : True := trivial
theorem Mine.main.tw10094358506670053839 : True := trivial
theorem Mine.main.tw1011638736862655943 : True := trivial
theorem Mine.main.tw10123989817122485451 : True := trivial
theorem Mine.main.tw10149618387772673413 : True := trivial
theorem Mine.main.tw10169072693733980587 : True := trivial
theorem Mine.main.tw10234815189450012239 : True := trivial
theorem Mine.main.tw10450603732522932521 : True := trivial
theorem Mine.main.tw10463206416058312583 : True := trivial
theorem Mine.main.tw10479146157273794792 : True := trivial
theorem Mine.main.tw10541821337518525447 : True := trivial
theorem Mine.main.tw10609540516017602915 : True := trivial
theorem Mine.main.tw10642606787283503386 : True := trivial
theorem Mine.main.tw10665089971535097683 : True := trivial
theorem Mine.main.tw10669944970481658594 : True := trivial
theorem Mine.main.tw10750994468655217958 : True := trivial
theorem Mine.main.tw10755775206947875856 : True := trivial
theorem Mine.main.tw10825838108423173272 : True := trivial
theorem Mine.main.tw10877679251791092727 : True := trivial
theorem Mine.main.tw10953687544409504101 : True := trivial
theorem Mine.main.tw1099256609624015869 : True := trivial
theorem Mine.main.tw11003572833241299968 : True := trivial
theorem Mine.main.tw11135027115929721415 : True := trivial
theorem Mine.main.tw11156056980113079860 : True := trivial
theorem Mine.main.tw1118068078248606362 : True := trivial
theorem Mine.main.tw11250434567554071705 : True := trivial
theorem Mine.main.tw11388154006635350966 : True := trivial
theorem Mine.main.tw11399646045708457374 : True := trivial
theorem Mine.main.tw11403851563620829512 : True := trivial
theorem Mine.main.tw11409991511011244131 : True := trivial
theorem Mine.main.tw11410963132546700228 : True := trivial
theorem Mine.main.tw11476092923266045095 : True := trivial
theorem Mine.main.tw1150287232629052791 : True := trivial
theorem Mine.main.tw1156462466702112376 : True := trivial
theorem Mine.main.tw11710404883906591787 : True := trivial
theorem Mine.main.tw11857135199678951331 : True := trivial
theorem Mine.main.tw11962923498438245051 : True := trivial
theorem Mine.main.tw12205347405646519318 : True := trivial
theorem Mine.main.tw12222963475772708484 : True := trivial
theorem Mine.main.tw12361340156312767134 : True := trivial
theorem Mine.main.tw12431561837914552411 : True := trivial
theorem Mine.main.tw12431731261707249289 : True := trivial
theorem Mine.main.tw12463224122652932544 : True := trivial
theorem Mine.main.tw12470004780890421668 : True := trivial
theorem Mine.main.tw12543713266681445118 : True := trivial
theorem Mine.main.tw12590340796369385619 : True := trivial
theorem Mine.main.tw12646911602827044314 : True := trivial
theorem Mine.main.tw12748397558918655664 : True := trivial
theorem Mine.main.tw1277820614484962519 : True := trivial
theorem Mine.main.tw12839114828313443825 : True := trivial
theorem Mine.main.tw12909650291622432550 : True := trivial
theorem Mine.main.tw12915833801598196605 : True := trivial
theorem Mine.main.tw12922898485456448571 : True := trivial
theorem Mine.main.tw12927740378394474205 : True := trivial
theorem Mine.main.tw12941917028564957548 : True := trivial
theorem Mine.main.tw13110577991587790113 : True := trivial
theorem Mine.main.tw13113777628852026922 : True := trivial
theorem Mine.main.tw13132915859168520264 : True := trivial
theorem Mine.main.tw13142821769077397030 : True := trivial
theorem Mine.main.tw1319676515408343850 : True := trivial
theorem Mine.main.tw13219505800766818778 : True := trivial
theorem Mine.main.tw13227692790652741651 : True := trivial
theorem Mine.main.tw13270728482189477470 : True := trivial
theorem Mine.main.tw13313126695403321540 : True := trivial
theorem Mine.main.tw13348322127785295214 : True := trivial
theorem Mine.main.tw13604576548381177240 : True := trivial
theorem Mine.main.tw13612491273024933556 : True := trivial
theorem Mine.main.tw13693970394777133609 : True := trivial
theorem Mine.main.tw1372806426800153423 : True := trivial
theorem Mine.main.tw13777938177461255882 : True := trivial
theorem Mine.main.tw13876859957761632879 : True := trivial
theorem Mine.main.tw13972245371655741198 : True := trivial
theorem Mine.main.tw14009396871252706886 : True := trivial
theorem Mine.main.tw14060465935940456498 : True := trivial
theorem Mine.main.tw14061640607465278742 : True := trivial
theorem Mine.main.tw14064073609400967072 : True := trivial
theorem Mine.main.tw14097447854668400296 : True := trivial
theorem Mine.main.tw14106445559736802775 : True := trivial
theorem Mine.main.tw14137733554486855543 : True := trivial
theorem Mine.main.tw14161005256144132680 : True := trivial
theorem Mine.main.tw14247123612743402574 : True := trivial
theorem Mine.main.tw1429040668314091153 : True := trivial
theorem Mine.main.tw14311760430882083916 : True := trivial
theorem Mine.main.tw14313061170024940013 : True := trivial
theorem Mine.main.tw14364048958407549093 : True := trivial
theorem Mine.main.tw14492832472218066102 : True := trivial
theorem Mine.main.tw14539993770535171780 : True := trivial
theorem Mine.main.tw1454224541498743561 : True := trivial
theorem Mine.main.tw14646587721710459877 : True := trivial
theorem Mine.main.tw1469836325065767749 : True := trivial
theorem Mine.main.tw14798791472264738832 : True := trivial
theorem Mine.main.tw14819616344575170669 : True := trivial
theorem Mine.main.tw1496695287857109588 : True := trivial
theorem Mine.main.tw15029214791101857389 : True := trivial
theorem Mine.main.tw15079240505294077160 : True := trivial
theorem Mine.main.tw15083514112713526041 : True := trivial
theorem Mine.main.tw1519927702969063271 : True := trivial
theorem Mine.main.tw15270170921892066516 : True := trivial
theorem Mine.main.tw15277975159832343749 : True := trivial
theorem Mine.main.tw15350898050860989542 : True := trivial
theorem Mine.main.tw15356762974548107741 : True := trivial
theorem Mine.main.tw15410482203810522393 : True := trivial
theorem Mine.main.tw15467891735981029475 : True := trivial
theorem Mine.main.tw15485851114877660061 : True := trivial
theorem Mine.main.tw15510692781650021527 : True := trivial
theorem Mine.main.tw15554039934745177238 : True := trivial
theorem Mine.main.tw15558288988949320067 : True := trivial
theorem Mine.main.tw15595112118272840620 : True := trivial
theorem Mine.main.tw15624239662980076321 : True := trivial
theorem Mine.main.tw15632155201295862456 : True := trivial
theorem Mine.main.tw15643365686152983790 : True := trivial
theorem Mine.main.tw15806524323241146399 : True := trivial
theorem Mine.main.tw1587290215689348708 : True := trivial
theorem Mine.main.tw15928290008803537013 : True := trivial
theorem Mine.main.tw15955573374722617477 : True := trivial
theorem Mine.main.tw16008252555379753968 : True := trivial
theorem Mine.main.tw16008457594558532635 : True := trivial
theorem Mine.main.tw16026485685270457870 : True := trivial
theorem Mine.main.tw16046730324260685337 : True := trivial
theorem Mine.main.tw1615045767204293396 : True := trivial
theorem Mine.main.tw16193401482309157537 : True := trivial
theorem Mine.main.tw1628013610222277130 : True := trivial
theorem Mine.main.tw16305672181175384284 : True := trivial
theorem Mine.main.tw16411370214107742406 : True := trivial
theorem Mine.main.tw16452447596832230105 : True := trivial
theorem Mine.main.tw16560978015359730151 : True := trivial
theorem Mine.main.tw16689149305811164139 : True := trivial
theorem Mine.main.tw16778611742570070204 : True := trivial
theorem Mine.main.tw1678875084529416142 : True := trivial
theorem Mine.main.tw16826212616301561204 : True := trivial
theorem Mine.main.tw16832360635688203351 : True := trivial
theorem Mine.main.tw16922381011570985944 : True := trivial
theorem Mine.main.tw16923884221124529275 : True := trivial
theorem Mine.main.tw16950194794029067938 : True := trivial
theorem Mine.main.tw17091655785135471103 : True := trivial
theorem Mine.main.tw17118054049896295152 : True := trivial
theorem Mine.main.tw17146568849442343683 : True := trivial
theorem Mine.main.tw17264900360498390715 : True := trivial
theorem Mine.main.tw17268439761433841065 : True := trivial
theorem Mine.main.tw17336282652733537790 : True := trivial
theorem Mine.main.tw17353955331779342651 : True := trivial
theorem Mine.main.tw17402982504261768225 : True := trivial
theorem Mine.main.tw17453503289922162039 : True := trivial
theorem Mine.main.tw17510229520200029679 : True := trivial
theorem Mine.main.tw17699438841360665129 : True := trivial
theorem Mine.main.tw17725498274588495791 : True := trivial
theorem Mine.main.tw17871620999419790863 : True := trivial
theorem Mine.main.tw18031918436515192882 : True := trivial
theorem Mine.main.tw18063282731904131703 : True := trivial
theorem Mine.main.tw18165044119631177899 : True := trivial
theorem Mine.main.tw18190005008629794160 : True := trivial
theorem Mine.main.tw1826329307503635854 : True := trivial
theorem Mine.main.tw18315214858253571532 : True := trivial
theorem Mine.main.tw1835790016534125760 : True := trivial
theorem Mine.main.tw18392154025008590481 : True := trivial
theorem Mine.main.tw18403998269306519403 : True := trivial
theorem Mine.main.tw18418235949754561950 : True := trivial
theorem Mine.main.tw18442785490491869365 : True := trivial
theorem Mine.main.tw1850612553970854742 : True := trivial
theorem Mine.main.tw2019394398466159022 : True := trivial
theorem Mine.main.tw2039954845988140816 : True := trivial
theorem Mine.main.tw2217372664714993069 : True := trivial
theorem Mine.main.tw221909299271738847 : True := trivial
theorem Mine.main.tw2287757881348798766 : True := trivial
theorem Mine.main.tw2341703837736514645 : True := trivial
theorem Mine.main.tw2388630428582439864 : True := trivial
theorem Mine.main.tw2433702464844828792 : True := trivial
theorem Mine.main.tw2496676261509829067 : True := trivial
theorem Mine.main.tw2544328076492683441 : True := trivial
theorem Mine.main.tw2555861160798251974 : True := trivial
theorem Mine.main.tw2647654807098235363 : True := trivial
theorem Mine.main.tw2702614204127132176 : True := trivial
theorem Mine.main.tw2714283472998740243 : True := trivial
theorem Mine.main.tw2744014450722944760 : True := trivial
theorem Mine.main.tw2821470743931037460 : True := trivial
theorem Mine.main.tw2852251193174398662 : True := trivial
theorem Mine.main.tw2895952525429962455 : True := trivial
theorem Mine.main.tw302440914744352476 : True := trivial
theorem Mine.main.tw3160845607165458772 : True := trivial
theorem Mine.main.tw31828345220925962 : True := trivial
theorem Mine.main.tw3299218664060906527 : True := trivial
theorem Mine.main.tw330327031418712150 : True := trivial
theorem Mine.main.tw3314904115985164895 : True := trivial
theorem Mine.main.tw33456957511925785 : True := trivial
theorem Mine.main.tw3370190323706015969 : True := trivial
theorem Mine.main.tw3394367416137920725 : True := trivial
theorem Mine.main.tw341453280667917650 : True := trivial
theorem Mine.main.tw3549514262204291990 : True := trivial
theorem Mine.main.tw3576459086531584784 : True := trivial
theorem Mine.main.tw3583811862363856187 : True := trivial
theorem Mine.main.tw3829396358689915599 : True := trivial
theorem Mine.main.tw3958507339218470045 : True := trivial
theorem Mine.main.tw4044139247061151142 : True := trivial
theorem Mine.main.tw4104948283222511711 : True := trivial
theorem Mine.main.tw4126091431370883743 : True := trivial
theorem Mine.main.tw4297412468100583042 : True := trivial
theorem Mine.main.tw4573282807186111410 : True := trivial
theorem Mine.main.tw4585930131862741453 : True := trivial
theorem Mine.main.tw4651154628705390771 : True := trivial
theorem Mine.main.tw4681395471914393968 : True := trivial
theorem Mine.main.tw471287901995484742 : True := trivial
theorem Mine.main.tw4812270449578504274 : True := trivial
theorem Mine.main.tw4948327476702027199 : True := trivial
theorem Mine.main.tw5084117380071580128 : True := trivial
theorem Mine.main.tw5160751907100791332 : True := trivial
theorem Mine.main.tw5203219222101121401 : True := trivial
theorem Mine.main.tw5234446048077146213 : True := trivial
theorem Mine.main.tw5240536507193477226 : True := trivial
theorem Mine.main.tw5240779543111244032 : True := trivial
theorem Mine.main.tw5259387161420218263 : True := trivial
theorem Mine.main.tw5287059835090251167 : True := trivial
theorem Mine.main.tw5309058905264134205 : True := trivial
theorem Mine.main.tw5363903885879670357 : True := trivial
theorem Mine.main.tw5378808338967829844 : True := trivial
theorem Mine.main.tw5379422719853557906 : True := trivial
theorem Mine.main.tw5396361742852586263 : True := trivial
theorem Mine.main.tw5401703158475992631 : True := trivial
theorem Mine.main.tw5418533224930618480 : True := trivial
theorem Mine.main.tw5436221411167023694 : True := trivial
theorem Mine.main.tw5450094653865882931 : True := trivial
theorem Mine.main.tw545269030811804461 : True := trivial
theorem Mine.main.tw5473700226181020891 : True := trivial
theorem Mine.main.tw5548943743634857327 : True := trivial
theorem Mine.main.tw5571399437266216444 : True := trivial
theorem Mine.main.tw5585478044538960755 : True := trivial
theorem Mine.main.tw5638201095994319732 : True := trivial
theorem Mine.main.tw5921134243170700561 : True := trivial
theorem Mine.main.tw6019089244302038806 : True := trivial
theorem Mine.main.tw6044114016751833949 : True := trivial
theorem Mine.main.tw6075091234017535682 : True := trivial
theorem Mine.main.tw6112859857366181021 : True := trivial
theorem Mine.main.tw6334894449686545209 : True := trivial
theorem Mine.main.tw645136716886899192 : True := trivial
theorem Mine.main.tw6508729118710982530 : True := trivial
theorem Mine.main.tw6511744376749373798 : True := trivial
theorem Mine.main.tw6541472054586571296 : True := trivial
theorem Mine.main.tw6542085627976250192 : True := trivial
theorem Mine.main.tw6557543464795787104 : True := trivial
theorem Mine.main.tw656089360051881306 : True := trivial
theorem Mine.main.tw6596593509180878263 : True := trivial
theorem Mine.main.tw6611068267950478117 : True := trivial
theorem Mine.main.tw6722501755855997836 : True := trivial
theorem Mine.main.tw6855474311058116810 : True := trivial
theorem Mine.main.tw6862492499505807319 : True := trivial
theorem Mine.main.tw6912675738884088206 : True := trivial
theorem Mine.main.tw6915769261274880522 : True := trivial
theorem Mine.main.tw7074144079889050967 : True := trivial
theorem Mine.main.tw7097326431059999717 : True := trivial
theorem Mine.main.tw7113585516715319716 : True := trivial
theorem Mine.main.tw7153082081811710619 : True := trivial
theorem Mine.main.tw716429049611869786 : True := trivial
theorem Mine.main.tw7165207203227711834 : True := trivial
theorem Mine.main.tw7173623326730630234 : True := trivial
theorem Mine.main.tw7221758910455160077 : True := trivial
theorem Mine.main.tw7237411587787531456 : True := trivial
theorem Mine.main.tw7273056430967151046 : True := trivial
theorem Mine.main.tw7308723440029596264 : True := trivial
theorem Mine.main.tw7332330508316399935 : True := trivial
theorem Mine.main.tw7390433537060152086 : True := trivial
theorem Mine.main.tw7439787175107056256 : True := trivial
theorem Mine.main.tw750237026923860459 : True := trivial
theorem Mine.main.tw7590696779544312186 : True := trivial
theorem Mine.main.tw7623511443260959870 : True := trivial
theorem Mine.main.tw765107192605250810 : True := trivial
theorem Mine.main.tw7699798408344515789 : True := trivial
theorem Mine.main.tw7761410557224570781 : True := trivial
theorem Mine.main.tw7846812961960373227 : True := trivial
theorem Mine.main.tw7974275031393228247 : True := trivial
theorem Mine.main.tw799486724532869496 : True := trivial
theorem Mine.main.tw8046773169563483271 : True := trivial
theorem Mine.main.tw8118072479153026202 : True := trivial
theorem Mine.main.tw8260724100714396741 : True := trivial
theorem Mine.main.tw8436210846270712021 : True := trivial
theorem Mine.main.tw8466321980469482115 : True := trivial
theorem Mine.main.tw8557395850702784662 : True := trivial
theorem Mine.main.tw8627561154394265716 : True := trivial
theorem Mine.main.tw8652556701797213591 : True := trivial
theorem Mine.main.tw8656565356469306998 : True := trivial
theorem Mine.main.tw8663697691656813868 : True := trivial
theorem Mine.main.tw8707812797481193996 : True := trivial
theorem Mine.main.tw8778399796184198408 : True := trivial
theorem Mine.main.tw8834365191522931223 : True := trivial
theorem Mine.main.tw8844999433837080629 : True := trivial
theorem Mine.main.tw8930851030842425676 : True := trivial
theorem Mine.main.tw9155575984036265788 : True := trivial
theorem Mine.main.tw9189880136782149556 : True := trivial
theorem Mine.main.tw9274054859765456524 : True := trivial
theorem Mine.main.tw9369988214560726041 : True := trivial
theorem Mine.main.tw9381277316556691805 : True := trivial
theorem Mine.main.tw9406782406253462049 : True := trivial
theorem Mine.main.tw9417822746687237092 : True := trivial
theorem Mine.main.tw9465382623814180490 : True := trivial
theorem Mine.main.tw9508770018378322450 : True := trivial
theorem Mine.main.tw962193829226610041 : True := trivial
theorem Mine.main.tw9643095132205631929 : True := trivial
theorem Mine.main.tw9717229181210271784 : True := trivial
theorem Mine.main.tw9897820754763898449 : True := trivial
theorem Mine.main.tw9925469786538053656 : True := trivial
theorem Mine.main.tw9942282790977331292 : True := trivial
theorem Mine.main.tw9944874541596985741 : True := trivial
set_option Elab.async true in
theorem Mine.main : PySem.Challenge.rw_nt0106_01.Holds := by
  w_on
  o_law
  k_head
  case hw => w_witness2
  k_go0
  (rename Frag.In _ _ => kx)
  replace kx := Mine.kin rfl kx
  (all_goals try k_fold)
  k_steps
  (all_goals (try k_data))
  all_goals (refine' absurd ?h (Mine.no_parting ?hi); (case h => assumption); (case hi => assumption))
theorem PySem.Challenge.cw_nt0106_01_holds : PySem.Challenge.rw_nt0106_01.Holds :=
  Mine.main
