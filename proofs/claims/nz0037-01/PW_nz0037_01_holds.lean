import PyProof.Rows.All
import Wide.All
import OpenK.AllK
import Wide.FinOn
import PySem.Challenge.RW_nz0037_01
section
open PySem PySem.W PyProof.Rows
set_option Elab.async false
set_option maxRecDepth 100000
set_option maxHeartbeats 8000000
namespace Mine
abbrev st (x : String) : Str := Str.ofString x
def topSt (i : Nat) : Stmt := (PySem.Challenge.pw_nz0037_01.main.body[i]?).getD default
def clsBody : Stmt → List Stmt | .ClassDef _ _ _ b _ _ _ _ _ _ _ => b | _ => []
def clsSt (i j : Nat) : Stmt := ((clsBody (topSt i))[j]?).getD default
def fArgs : Stmt → Arguments | .FunctionDef _ a _ _ _ _ _ _ _ _ => a | _ => default
def fBody : Stmt → List Stmt | .FunctionDef _ _ b _ _ _ _ _ _ _ => b | _ => []
def fScope : Stmt → Scope | .FunctionDef _ _ _ _ _ _ s _ _ _ => s | _ => default
def s0 : Stmt := topSt 0
def s1 : Stmt := topSt 1
def s2 : Stmt := topSt 2
def s3 : Stmt := topSt 3
def s4 : Stmt := topSt 4
def s5 : Stmt := topSt 5
def s6 : Stmt := topSt 6
def s7 : Stmt := topSt 7
def s8 : Stmt := topSt 8
def s9 : Stmt := topSt 9
def s10 : Stmt := topSt 10
def s11 : Stmt := topSt 11
def s12 : Stmt := topSt 12
def s13 : Stmt := topSt 13
def s14 : Stmt := topSt 14
def s15 : Stmt := topSt 15
def s16 : Stmt := topSt 16
def s17 : Stmt := topSt 17
def s18 : Stmt := topSt 18
def s19 : Stmt := topSt 19
def s20 : Stmt := topSt 20
def s21 : Stmt := topSt 21
def s22 : Stmt := topSt 22
def s23 : Stmt := topSt 23
def PP : Program := { PySem.Challenge.pw_nz0037_01 with main := { PySem.Challenge.pw_nz0037_01.main with body := [s0, s1, s2, s3, s4, s5, s6, s7, s8, s9, s10, s11, s12, s13, s14, s15, s16, s17, s18, s19, s20, s21, s22, s23] } }
def LL : OpenLaw := { PySem.Challenge.rw_nz0037_01 with prog := PP }
theorem pw_eq : PySem.Challenge.pw_nz0037_01 = PP := by rfl
theorem rw_eq : PySem.Challenge.rw_nz0037_01 = LL := congrArg (fun p => ({ PySem.Challenge.rw_nz0037_01 with prog := p } : OpenLaw)) pw_eq
noncomputable def k2 : Obj := ⟨.none, none, .dict #[] 0, #[]⟩
noncomputable def k3 (P : Params) : Obj := ⟨.type "dict", none, .dict #[⟨PyData.keyHash P (st "__name__"), .str (st "__name__") 165, .str (st "law_nz0037_01") 585⟩, ⟨PyData.keyHash P (st "__doc__"), .str (st "__doc__") 166, .none⟩, ⟨PyData.keyHash P (st "__package__"), .str (st "__package__") 167, .none⟩, ⟨PyData.keyHash P (st "__loader__"), .str (st "__loader__") 168, .builtin "__main__.__loader__#opaque"⟩, ⟨PyData.keyHash P (st "__spec__"), .str (st "__spec__") 169, .none⟩, ⟨PyData.keyHash P (st "__annotations__"), .str (st "__annotations__") 170, .ref 6⟩, ⟨PyData.keyHash P (st "__builtins__"), .str (st "__builtins__") 171, .ref 4⟩, ⟨PyData.keyHash P (st "__file__"), .str (st "__file__") 173, .str (st "/claim/cut.py") 172⟩, ⟨PyData.keyHash P (st "__cached__"), .str (st "__cached__") 174, .none⟩, ⟨PyData.keyHash P (st "GemError"), .str (st "GemError") 216, .ref 32⟩, ⟨PyData.keyHash P (st "BadArgument"), .str (st "BadArgument") 232, .ref 45⟩, ⟨PyData.keyHash P (st "FIELDS"), .str (st "FIELDS") 464, .ref 48⟩, ⟨PyData.keyHash P (st "Node"), .str (st "Node") 507, .ref 140⟩, ⟨PyData.keyHash P (st "Params"), .str (st "Params") 551, .ref 172⟩, ⟨PyData.keyHash P (st "same_tree"), .str (st "same_tree") 561, .ref 183⟩, ⟨PyData.keyHash P (st "nodes_in"), .str (st "nodes_in") 572, .ref 190⟩, ⟨PyData.keyHash P (st "walk_nodes"), .str (st "walk_nodes") 584, .ref 197⟩, ⟨PyData.keyHash P (st "_law_shapes"), .str (st "_law_shapes") 592, .ref 204⟩, ⟨PyData.keyHash P (st "_law_leaves"), .str (st "_law_leaves") 598, .ref 211⟩, ⟨PyData.keyHash P (st "_law_box"), .str (st "_law_box") 607, .ref 218⟩, ⟨PyData.keyHash P (st "_law_take"), .str (st "_law_take") 616, .ref 225⟩, ⟨PyData.keyHash P (st "_law_plan"), .str (st "_law_plan") 622, .ref 230⟩, ⟨PyData.keyHash P (st "_law_some"), .str (st "_law_some") 628, .ref 235⟩, ⟨PyData.keyHash P (st "_law_part"), .str (st "_law_part") 637, .ref 242⟩, ⟨PyData.keyHash P (st "_law_params"), .str (st "_law_params") 643, .ref 247⟩, ⟨PyData.keyHash P (st "_law_made"), .str (st "_law_made") 649, .ref 252⟩, ⟨PyData.keyHash P (st "_law_spots"), .str (st "_law_spots") 655, .ref 257⟩, ⟨PyData.keyHash P (st "_law_bent"), .str (st "_law_bent") 668, .ref 264⟩, ⟨PyData.keyHash P (st "_law_refuses"), .str (st "_law_refuses") 676, .ref 271⟩, ⟨PyData.keyHash P (st "law"), .str (st "law") 682, .ref 276⟩] 30, #[]⟩
noncomputable def k15 : Obj := ⟨.type "tuple", none, .seq #[.type "ValueError"] 0, #[]⟩
noncomputable def k22 : Obj := ⟨.type "tuple", none, .seq #[.str (st "") 201] 0, #[]⟩
noncomputable def k28 : Obj := ⟨.type "code", none, .fields #[.str (st "__init__") 202, .str (st "GemError.__init__") 203, .str (st "/claim/cut.py") 204, .int 4 0, .int 2 0, .int 0 0, .int 0 0, .int 3 0, .ref 23, .bool true, .int 181 0, .ref 24, .none, .ref 25, .ref 26, .ref 27, .int 207 0, .int 4 0, .str (st "/claim/cut.py") 208], #[]⟩
noncomputable def k29 : Obj := ⟨.type "function", none, .func (fnOf (st "__init__") (st "GemError.__init__") (fArgs (clsSt 1 0)) (fBody (clsSt 1 0)) (fScope (clsSt 1 0)) (.ref 22) (.none) (.none) (.str (st "gemrows.errors") 187) none (.ref 28) (.none)), #[]⟩
noncomputable def k31 (P : Params) : Obj := ⟨.type "dict", none, .dict #[⟨PyData.keyHash P (st "__module__"), .str (st "__module__") 196, .str (st "gemrows.errors") 187⟩, ⟨PyData.keyHash P (st "__firstlineno__"), .str (st "__firstlineno__") 200, .int 2 199⟩, ⟨PyData.keyHash P (st "__init__"), .str (st "__init__") 209, .ref 29⟩, ⟨PyData.keyHash P (st "__static_attributes__"), .str (st "__static_attributes__") 211, .ref 30⟩, ⟨PyData.keyHash P (st "__weakref__"), .str (st "__weakref__") 213, .ref 33⟩, ⟨PyData.keyHash P (st "__doc__"), .str (st "__doc__") 214, .none⟩] 3, #[]⟩
noncomputable def k32 : Obj := ⟨.type "type", none, .cls { name := (st "GemError"), bases := [.type "ValueError"], mro := [.ref 32, .type "ValueError", .type "Exception", .type "BaseException", .type "object"], ns := 31, qualname := (st "GemError"), hasDict := true, slotNames := [], subclasses := [.ref 45], abstract := false, collection := none, hasDel := false }, #[some (.ref 15), none, some (.str (st "GemError") 189), some (.str (st "GemError") 197), some (.builtin "ValueError.__new__"), some (.bool true)]⟩
noncomputable def k33 : Obj := ⟨.type "getset_descriptor", none, .fields #[.str (st "__weakref__") 212, .ref 32, .builtin "ExceptionGroup.__weakref__", .none], #[]⟩
noncomputable def k36 : Obj := ⟨.type "tuple", none, .seq #[.ref 32] 0, #[]⟩
noncomputable def k44 (P : Params) : Obj := ⟨.type "dict", none, .dict #[⟨PyData.keyHash P (st "__module__"), .str (st "__module__") 224, .str (st "gemrows.errors") 187⟩, ⟨PyData.keyHash P (st "__firstlineno__"), .str (st "__firstlineno__") 228, .int 7 227⟩, ⟨PyData.keyHash P (st "__static_attributes__"), .str (st "__static_attributes__") 229, .ref 43⟩, ⟨PyData.keyHash P (st "__doc__"), .str (st "__doc__") 230, .none⟩] 2, #[]⟩
noncomputable def k45 : Obj := ⟨.type "type", none, .cls { name := (st "BadArgument"), bases := [.ref 32], mro := [.ref 45, .ref 32, .type "ValueError", .type "Exception", .type "BaseException", .type "object"], ns := 44, qualname := (st "BadArgument"), hasDict := true, slotNames := [], subclasses := [], abstract := false, collection := none, hasDel := false }, #[some (.ref 36), none, some (.str (st "BadArgument") 217), some (.str (st "BadArgument") 225), some (.builtin "ValueError.__new__"), some (.bool true)]⟩
noncomputable def k48 (P : Params) : Obj := ⟨.type "dict", none, .dict #[⟨PyData.keyHash P (st "nil"), .str (st "nil") 235, .ref 49⟩, ⟨PyData.keyHash P (st "true"), .str (st "true") 237, .ref 50⟩, ⟨PyData.keyHash P (st "false"), .str (st "false") 239, .ref 51⟩, ⟨PyData.keyHash P (st "self"), .str (st "self") 241, .ref 52⟩, ⟨PyData.keyHash P (st "retry"), .str (st "retry") 243, .ref 53⟩, ⟨PyData.keyHash P (st "int"), .str (st "int") 245, .ref 54⟩, ⟨PyData.keyHash P (st "sym"), .str (st "sym") 248, .ref 55⟩, ⟨PyData.keyHash P (st "str"), .str (st "str") 251, .ref 56⟩, ⟨PyData.keyHash P (st "dstr"), .str (st "dstr") 254, .ref 57⟩, ⟨PyData.keyHash P (st "array"), .str (st "array") 257, .ref 58⟩, ⟨PyData.keyHash P (st "hash"), .str (st "hash") 260, .ref 59⟩, ⟨PyData.keyHash P (st "range"), .str (st "range") 263, .ref 60⟩, ⟨PyData.keyHash P (st "splat"), .str (st "splat") 268, .ref 61⟩, ⟨PyData.keyHash P (st "lvar"), .str (st "lvar") 271, .ref 62⟩, ⟨PyData.keyHash P (st "ivar"), .str (st "ivar") 274, .ref 63⟩, ⟨PyData.keyHash P (st "gvar"), .str (st "gvar") 277, .ref 64⟩, ⟨PyData.keyHash P (st "const"), .str (st "const") 280, .ref 65⟩, ⟨PyData.keyHash P (st "t_local"), .str (st "t_local") 284, .ref 67⟩, ⟨PyData.keyHash P (st "t_ivar"), .str (st "t_ivar") 287, .ref 68⟩, ⟨PyData.keyHash P (st "t_gvar"), .str (st "t_gvar") 290, .ref 69⟩, ⟨PyData.keyHash P (st "t_const"), .str (st "t_const") 293, .ref 70⟩, ⟨PyData.keyHash P (st "t_index"), .str (st "t_index") 296, .ref 71⟩, ⟨PyData.keyHash P (st "t_attr"), .str (st "t_attr") 300, .ref 72⟩, ⟨PyData.keyHash P (st "t_splat"), .str (st "t_splat") 304, .ref 73⟩, ⟨PyData.keyHash P (st "t_group"), .str (st "t_group") 307, .ref 74⟩, ⟨PyData.keyHash P (st "assign"), .str (st "assign") 310, .ref 75⟩, ⟨PyData.keyHash P (st "masgn"), .str (st "masgn") 314, .ref 76⟩, ⟨PyData.keyHash P (st "opasgn"), .str (st "opasgn") 318, .ref 77⟩, ⟨PyData.keyHash P (st "call"), .str (st "call") 323, .ref 78⟩, ⟨PyData.keyHash P (st "vcall"), .str (st "vcall") 330, .ref 79⟩, ⟨PyData.keyHash P (st "block"), .str (st "block") 333, .ref 80⟩, ⟨PyData.keyHash P (st "blockpass"), .str (st "blockpass") 337, .ref 81⟩, ⟨PyData.keyHash P (st "and"), .str (st "and") 340, .ref 82⟩, ⟨PyData.keyHash P (st "or"), .str (st "or") 344, .ref 83⟩, ⟨PyData.keyHash P (st "not"), .str (st "not") 348, .ref 85⟩, ⟨PyData.keyHash P (st "super"), .str (st "super") 351, .ref 86⟩, ⟨PyData.keyHash P (st "yield"), .str (st "yield") 355, .ref 87⟩, ⟨PyData.keyHash P (st "lambda"), .str (st "lambda") 358, .ref 88⟩, ⟨PyData.keyHash P (st "defined"), .str (st "defined") 362, .ref 89⟩, ⟨PyData.keyHash P (st "seq"), .str (st "seq") 365, .ref 90⟩, ⟨PyData.keyHash P (st "if"), .str (st "if") 368, .ref 91⟩, ⟨PyData.keyHash P (st "while"), .str (st "while") 373, .ref 92⟩, ⟨PyData.keyHash P (st "case"), .str (st "case") 378, .ref 93⟩, ⟨PyData.keyHash P (st "casein"), .str (st "casein") 383, .ref 94⟩, ⟨PyData.keyHash P (st "matchp"), .str (st "matchp") 388, .ref 95⟩, ⟨PyData.keyHash P (st "matchq"), .str (st "matchq") 392, .ref 96⟩, ⟨PyData.keyHash P (st "begin"), .str (st "begin") 396, .ref 97⟩, ⟨PyData.keyHash P (st "break"), .str (st "break") 402, .ref 98⟩, ⟨PyData.keyHash P (st "next"), .str (st "next") 405, .ref 99⟩, ⟨PyData.keyHash P (st "return"), .str (st "return") 408, .ref 100⟩, ⟨PyData.keyHash P (st "def"), .str (st "def") 411, .ref 101⟩, ⟨PyData.keyHash P (st "class"), .str (st "class") 417, .ref 103⟩, ⟨PyData.keyHash P (st "module"), .str (st "module") 421, .ref 104⟩, ⟨PyData.keyHash P (st "sclass"), .str (st "sclass") 424, .ref 105⟩, ⟨PyData.keyHash P (st "alias"), .str (st "alias") 427, .ref 106⟩, ⟨PyData.keyHash P (st "undef"), .str (st "undef") 430, .ref 107⟩, ⟨PyData.keyHash P (st "p_value"), .str (st "p_value") 432, .ref 108⟩, ⟨PyData.keyHash P (st "p_bind"), .str (st "p_bind") 434, .ref 109⟩, ⟨PyData.keyHash P (st "p_pin"), .str (st "p_pin") 436, .ref 110⟩, ⟨PyData.keyHash P (st "p_alt"), .str (st "p_alt") 438, .ref 111⟩, ⟨PyData.keyHash P (st "p_as"), .str (st "p_as") 440, .ref 112⟩, ⟨PyData.keyHash P (st "p_array"), .str (st "p_array") 443, .ref 113⟩, ⟨PyData.keyHash P (st "p_hash"), .str (st "p_hash") 448, .ref 114⟩] 63, #[]⟩
noncomputable def k49 : Obj := ⟨.type "tuple", none, .seq #[] 0, #[]⟩
noncomputable def k50 : Obj := ⟨.type "tuple", none, .seq #[] 0, #[]⟩
noncomputable def k51 : Obj := ⟨.type "tuple", none, .seq #[] 0, #[]⟩
noncomputable def k52 : Obj := ⟨.type "tuple", none, .seq #[] 0, #[]⟩
noncomputable def k53 : Obj := ⟨.type "tuple", none, .seq #[] 0, #[]⟩
noncomputable def k54 : Obj := ⟨.type "tuple", none, .seq #[.str (st "value") 246] 0, #[]⟩
noncomputable def k55 : Obj := ⟨.type "tuple", none, .seq #[.str (st "name") 249] 0, #[]⟩
noncomputable def k56 : Obj := ⟨.type "tuple", none, .seq #[.str (st "text") 252] 0, #[]⟩
noncomputable def k57 : Obj := ⟨.type "tuple", none, .seq #[.str (st "parts") 255] 0, #[]⟩
noncomputable def k58 : Obj := ⟨.type "tuple", none, .seq #[.str (st "items") 258] 0, #[]⟩
noncomputable def k59 : Obj := ⟨.type "tuple", none, .seq #[.str (st "pairs") 261] 0, #[]⟩
noncomputable def k60 : Obj := ⟨.type "tuple", none, .seq #[.str (st "first") 264, .str (st "last") 265, .str (st "open") 266] 0, #[]⟩
noncomputable def k61 : Obj := ⟨.type "tuple", none, .seq #[.str (st "value") 269] 0, #[]⟩
noncomputable def k62 : Obj := ⟨.type "tuple", none, .seq #[.str (st "name") 272] 0, #[]⟩
noncomputable def k63 : Obj := ⟨.type "tuple", none, .seq #[.str (st "name") 275] 0, #[]⟩
noncomputable def k64 : Obj := ⟨.type "tuple", none, .seq #[.str (st "name") 278] 0, #[]⟩
noncomputable def k65 : Obj := ⟨.type "tuple", none, .seq #[.str (st "scope") 281, .str (st "name") 282] 0, #[]⟩
noncomputable def k67 : Obj := ⟨.type "tuple", none, .seq #[.str (st "name") 285] 0, #[]⟩
noncomputable def k68 : Obj := ⟨.type "tuple", none, .seq #[.str (st "name") 288] 0, #[]⟩
noncomputable def k69 : Obj := ⟨.type "tuple", none, .seq #[.str (st "name") 291] 0, #[]⟩
noncomputable def k70 : Obj := ⟨.type "tuple", none, .seq #[.str (st "name") 294] 0, #[]⟩
noncomputable def k71 : Obj := ⟨.type "tuple", none, .seq #[.str (st "receiver") 297, .str (st "args") 298] 0, #[]⟩
noncomputable def k72 : Obj := ⟨.type "tuple", none, .seq #[.str (st "receiver") 301, .str (st "name") 302] 0, #[]⟩
noncomputable def k73 : Obj := ⟨.type "tuple", none, .seq #[.str (st "target") 305] 0, #[]⟩
noncomputable def k74 : Obj := ⟨.type "tuple", none, .seq #[.str (st "targets") 308] 0, #[]⟩
noncomputable def k75 : Obj := ⟨.type "tuple", none, .seq #[.str (st "target") 311, .str (st "value") 312] 0, #[]⟩
noncomputable def k76 : Obj := ⟨.type "tuple", none, .seq #[.str (st "targets") 315, .str (st "value") 316] 0, #[]⟩
noncomputable def k77 : Obj := ⟨.type "tuple", none, .seq #[.str (st "target") 319, .str (st "op") 320, .str (st "value") 321] 0, #[]⟩
noncomputable def k78 : Obj := ⟨.type "tuple", none, .seq #[.str (st "receiver") 324, .str (st "name") 325, .str (st "args") 326, .str (st "block") 327, .str (st "safe") 328] 0, #[]⟩
noncomputable def k79 : Obj := ⟨.type "tuple", none, .seq #[.str (st "name") 331] 0, #[]⟩
noncomputable def k80 : Obj := ⟨.type "tuple", none, .seq #[.str (st "params") 334, .str (st "body") 335] 0, #[]⟩
noncomputable def k81 : Obj := ⟨.type "tuple", none, .seq #[.str (st "value") 338] 0, #[]⟩
noncomputable def k82 : Obj := ⟨.type "tuple", none, .seq #[.str (st "left") 341, .str (st "right") 342] 0, #[]⟩
noncomputable def k83 : Obj := ⟨.type "tuple", none, .seq #[.str (st "left") 345, .str (st "right") 346] 0, #[]⟩
noncomputable def k85 : Obj := ⟨.type "tuple", none, .seq #[.str (st "value") 349] 0, #[]⟩
noncomputable def k86 : Obj := ⟨.type "tuple", none, .seq #[.str (st "args") 352, .str (st "block") 353] 0, #[]⟩
noncomputable def k87 : Obj := ⟨.type "tuple", none, .seq #[.str (st "args") 356] 0, #[]⟩
noncomputable def k88 : Obj := ⟨.type "tuple", none, .seq #[.str (st "params") 359, .str (st "body") 360] 0, #[]⟩
noncomputable def k89 : Obj := ⟨.type "tuple", none, .seq #[.str (st "value") 363] 0, #[]⟩
noncomputable def k90 : Obj := ⟨.type "tuple", none, .seq #[.str (st "items") 366] 0, #[]⟩
noncomputable def k91 : Obj := ⟨.type "tuple", none, .seq #[.str (st "test") 369, .str (st "yes") 370, .str (st "no") 371] 0, #[]⟩
noncomputable def k92 : Obj := ⟨.type "tuple", none, .seq #[.str (st "test") 374, .str (st "body") 375, .str (st "negate") 376] 0, #[]⟩
noncomputable def k93 : Obj := ⟨.type "tuple", none, .seq #[.str (st "subject") 379, .str (st "whens") 380, .str (st "other") 381] 0, #[]⟩
noncomputable def k94 : Obj := ⟨.type "tuple", none, .seq #[.str (st "subject") 384, .str (st "arms") 385, .str (st "other") 386] 0, #[]⟩
noncomputable def k95 : Obj := ⟨.type "tuple", none, .seq #[.str (st "value") 389, .str (st "pattern") 390] 0, #[]⟩
noncomputable def k96 : Obj := ⟨.type "tuple", none, .seq #[.str (st "value") 393, .str (st "pattern") 394] 0, #[]⟩
noncomputable def k97 : Obj := ⟨.type "tuple", none, .seq #[.str (st "body") 397, .str (st "rescues") 398, .str (st "other") 399, .str (st "ensure") 400] 0, #[]⟩
noncomputable def k98 : Obj := ⟨.type "tuple", none, .seq #[.str (st "value") 403] 0, #[]⟩
noncomputable def k99 : Obj := ⟨.type "tuple", none, .seq #[.str (st "value") 406] 0, #[]⟩
noncomputable def k100 : Obj := ⟨.type "tuple", none, .seq #[.str (st "value") 409] 0, #[]⟩
noncomputable def k101 : Obj := ⟨.type "tuple", none, .seq #[.str (st "singleton") 412, .str (st "name") 413, .str (st "params") 414, .str (st "body") 415] 0, #[]⟩
noncomputable def k103 : Obj := ⟨.type "tuple", none, .seq #[.str (st "name") 418, .str (st "superclass") 419, .str (st "body") 420] 0, #[]⟩
noncomputable def k104 : Obj := ⟨.type "tuple", none, .seq #[.str (st "name") 422, .str (st "body") 423] 0, #[]⟩
noncomputable def k105 : Obj := ⟨.type "tuple", none, .seq #[.str (st "value") 425, .str (st "body") 426] 0, #[]⟩
noncomputable def k106 : Obj := ⟨.type "tuple", none, .seq #[.str (st "new") 428, .str (st "old") 429] 0, #[]⟩
noncomputable def k107 : Obj := ⟨.type "tuple", none, .seq #[.str (st "name") 431] 0, #[]⟩
noncomputable def k108 : Obj := ⟨.type "tuple", none, .seq #[.str (st "value") 433] 0, #[]⟩
noncomputable def k109 : Obj := ⟨.type "tuple", none, .seq #[.str (st "name") 435] 0, #[]⟩
noncomputable def k110 : Obj := ⟨.type "tuple", none, .seq #[.str (st "value") 437] 0, #[]⟩
noncomputable def k111 : Obj := ⟨.type "tuple", none, .seq #[.str (st "patterns") 439] 0, #[]⟩
noncomputable def k112 : Obj := ⟨.type "tuple", none, .seq #[.str (st "pattern") 441, .str (st "name") 442] 0, #[]⟩
noncomputable def k113 : Obj := ⟨.type "tuple", none, .seq #[.str (st "const") 444, .str (st "pre") 445, .str (st "rest") 446, .str (st "post") 447] 0, #[]⟩
noncomputable def k114 : Obj := ⟨.type "tuple", none, .seq #[.str (st "const") 449, .str (st "pairs") 450, .str (st "rest") 451] 0, #[]⟩
noncomputable def k122 : Obj := ⟨.type "tuple", none, .seq #[] 0, #[]⟩
noncomputable def k123 : Obj := ⟨.type "tuple", none, .seq #[.ref 122, .int 0 477] 0, #[]⟩
noncomputable def k129 : Obj := ⟨.type "code", none, .fields #[.str (st "__init__") 478, .str (st "Node.__init__") 479, .str (st "/claim/cut.py") 480, .int 13 0, .int 4 0, .int 0 0, .int 0 0, .int 3 0, .ref 124, .bool true, .int 181 0, .ref 125, .none, .ref 126, .ref 127, .ref 128, .int 485 0, .int 13 0, .str (st "/claim/cut.py") 486], #[]⟩
noncomputable def k130 : Obj := ⟨.type "function", none, .func (fnOf (st "__init__") (st "Node.__init__") (fArgs (clsSt 5 0)) (fBody (clsSt 5 0)) (fScope (clsSt 5 0)) (.ref 123) (.none) (.none) (.str (st "gemrows.nodes") 233) none (.ref 129) (.none)), #[]⟩
noncomputable def k136 : Obj := ⟨.type "code", none, .fields #[.str (st "part") 488, .str (st "Node.part") 489, .str (st "/claim/cut.py") 490, .int 21 0, .int 2 0, .int 0 0, .int 0 0, .int 3 0, .ref 131, .bool true, .int 181 0, .ref 132, .none, .ref 133, .ref 134, .ref 135, .int 493 0, .int 21 0, .str (st "/claim/cut.py") 494], #[]⟩
noncomputable def k137 : Obj := ⟨.type "function", none, .func (fnOf (st "part") (st "Node.part") (fArgs (clsSt 5 1)) (fBody (clsSt 5 1)) (fScope (clsSt 5 1)) (.none) (.none) (.none) (.str (st "gemrows.nodes") 233) none (.ref 136) (.none)), #[]⟩
noncomputable def k139 (P : Params) : Obj := ⟨.type "dict", none, .dict #[⟨PyData.keyHash P (st "__module__"), .str (st "__module__") 472, .str (st "gemrows.nodes") 233⟩, ⟨PyData.keyHash P (st "__firstlineno__"), .str (st "__firstlineno__") 476, .int 11 475⟩, ⟨PyData.keyHash P (st "__init__"), .str (st "__init__") 487, .ref 130⟩, ⟨PyData.keyHash P (st "part"), .str (st "part") 495, .ref 137⟩, ⟨PyData.keyHash P (st "__static_attributes__"), .str (st "__static_attributes__") 500, .ref 138⟩, ⟨PyData.keyHash P (st "__dict__"), .str (st "__dict__") 502, .ref 141⟩, ⟨PyData.keyHash P (st "__weakref__"), .str (st "__weakref__") 504, .ref 142⟩, ⟨PyData.keyHash P (st "__doc__"), .str (st "__doc__") 505, .none⟩] 4, #[]⟩
noncomputable def k140 : Obj := ⟨.type "type", none, .cls { name := (st "Node"), bases := [.type "object"], mro := [.ref 140, .type "object"], ns := 139, qualname := (st "Node"), hasDict := true, slotNames := [], subclasses := [], abstract := false, collection := none, hasDel := false }, #[none, none, some (.str (st "Node") 465), some (.str (st "Node") 473), some (.builtin "object.__new__"), some (.bool true)]⟩
noncomputable def k141 : Obj := ⟨.type "getset_descriptor", none, .fields #[.str (st "__dict__") 501, .ref 140, .builtin "function.__dict__", .builtin "function.__dict__#set"], #[]⟩
noncomputable def k142 : Obj := ⟨.type "getset_descriptor", none, .fields #[.str (st "__weakref__") 503, .ref 140, .builtin "ExceptionGroup.__weakref__", .none], #[]⟩
noncomputable def k152 : Obj := ⟨.type "tuple", none, .seq #[] 0, #[]⟩
noncomputable def k153 : Obj := ⟨.type "tuple", none, .seq #[] 0, #[]⟩
noncomputable def k154 : Obj := ⟨.type "tuple", none, .seq #[] 0, #[]⟩
noncomputable def k155 : Obj := ⟨.type "tuple", none, .seq #[.ref 152, .ref 153, .none, .ref 154, .none] 0, #[]⟩
noncomputable def k161 : Obj := ⟨.type "code", none, .fields #[.str (st "__init__") 520, .str (st "Params.__init__") 521, .str (st "/claim/cut.py") 522, .int 25 0, .int 6 0, .int 0 0, .int 0 0, .int 3 0, .ref 156, .bool true, .int 181 0, .ref 157, .none, .ref 158, .ref 159, .ref 160, .int 529 0, .int 25 0, .str (st "/claim/cut.py") 530], #[]⟩
noncomputable def k162 : Obj := ⟨.type "function", none, .func (fnOf (st "__init__") (st "Params.__init__") (fArgs (clsSt 6 0)) (fBody (clsSt 6 0)) (fScope (clsSt 6 0)) (.ref 155) (.none) (.none) (.str (st "gemrows.nodes") 233) none (.ref 161) (.none)), #[]⟩
noncomputable def k168 : Obj := ⟨.type "code", none, .fields #[.str (st "plain") 532, .str (st "Params.plain") 533, .str (st "/claim/cut.py") 534, .int 32 0, .int 1 0, .int 0 0, .int 0 0, .int 3 0, .ref 163, .bool true, .int 181 0, .ref 164, .none, .ref 165, .ref 166, .ref 167, .int 536 0, .int 32 0, .str (st "/claim/cut.py") 537], #[]⟩
noncomputable def k169 : Obj := ⟨.type "function", none, .func (fnOf (st "plain") (st "Params.plain") (fArgs (clsSt 6 1)) (fBody (clsSt 6 1)) (fScope (clsSt 6 1)) (.none) (.none) (.none) (.str (st "gemrows.nodes") 233) none (.ref 168) (.none)), #[]⟩
noncomputable def k171 (P : Params) : Obj := ⟨.type "dict", none, .dict #[⟨PyData.keyHash P (st "__module__"), .str (st "__module__") 515, .str (st "gemrows.nodes") 233⟩, ⟨PyData.keyHash P (st "__firstlineno__"), .str (st "__firstlineno__") 519, .int 23 518⟩, ⟨PyData.keyHash P (st "__init__"), .str (st "__init__") 531, .ref 162⟩, ⟨PyData.keyHash P (st "plain"), .str (st "plain") 538, .ref 169⟩, ⟨PyData.keyHash P (st "__static_attributes__"), .str (st "__static_attributes__") 544, .ref 170⟩, ⟨PyData.keyHash P (st "__dict__"), .str (st "__dict__") 546, .ref 173⟩, ⟨PyData.keyHash P (st "__weakref__"), .str (st "__weakref__") 548, .ref 174⟩, ⟨PyData.keyHash P (st "__doc__"), .str (st "__doc__") 549, .none⟩] 4, #[]⟩
noncomputable def k172 : Obj := ⟨.type "type", none, .cls { name := (st "Params"), bases := [.type "object"], mro := [.ref 172, .type "object"], ns := 171, qualname := (st "Params"), hasDict := true, slotNames := [], subclasses := [], abstract := false, collection := none, hasDel := false }, #[none, none, some (.str (st "Params") 508), some (.str (st "Params") 516), some (.builtin "object.__new__"), some (.bool true)]⟩
noncomputable def k173 : Obj := ⟨.type "getset_descriptor", none, .fields #[.str (st "__dict__") 545, .ref 172, .builtin "function.__dict__", .builtin "function.__dict__#set"], #[]⟩
noncomputable def k174 : Obj := ⟨.type "getset_descriptor", none, .fields #[.str (st "__weakref__") 547, .ref 172, .builtin "ExceptionGroup.__weakref__", .none], #[]⟩
noncomputable def k182 : Obj := ⟨.type "code", none, .fields #[.str (st "same_tree") 552, .str (st "same_tree") 553, .str (st "/claim/cut.py") 554, .int 34 0, .int 2 0, .int 0 0, .int 0 0, .int 3 0, .ref 177, .bool true, .int 181 0, .ref 178, .none, .ref 179, .ref 180, .ref 181, .int 559 0, .int 34 0, .str (st "/claim/cut.py") 560], #[]⟩
noncomputable def k183 : Obj := ⟨.type "function", none, .func (fnOf (st "same_tree") (st "same_tree") (fArgs s7) (fBody s7) (fScope s7) (.none) (.none) (.none) (.str (st "gemrows.nodes") 233) none (.ref 182) (.none)), #[]⟩
noncomputable def k189 : Obj := ⟨.type "code", none, .fields #[.str (st "nodes_in") 562, .str (st "nodes_in") 563, .str (st "/claim/cut.py") 564, .int 47 0, .int 1 0, .int 0 0, .int 0 0, .int 3 0, .ref 184, .bool true, .int 181 0, .ref 185, .none, .ref 186, .ref 187, .ref 188, .int 570 0, .int 47 0, .str (st "/claim/cut.py") 571], #[]⟩
noncomputable def k190 : Obj := ⟨.type "function", none, .func (fnOf (st "nodes_in") (st "nodes_in") (fArgs s8) (fBody s8) (fScope s8) (.none) (.none) (.none) (.str (st "gemrows.nodes") 233) none (.ref 189) (.none)), #[]⟩
noncomputable def k196 : Obj := ⟨.type "code", none, .fields #[.str (st "walk_nodes") 573, .str (st "walk_nodes") 574, .str (st "/claim/cut.py") 575, .int 61 0, .int 1 0, .int 0 0, .int 0 0, .int 3 0, .ref 191, .bool true, .int 181 0, .ref 192, .none, .ref 193, .ref 194, .ref 195, .int 582 0, .int 61 0, .str (st "/claim/cut.py") 583], #[]⟩
noncomputable def k197 : Obj := ⟨.type "function", none, .func (fnOf (st "walk_nodes") (st "walk_nodes") (fArgs s9) (fBody s9) (fScope s9) (.none) (.none) (.none) (.str (st "gemrows.nodes") 233) none (.ref 196) (.none)), #[]⟩
noncomputable def k203 : Obj := ⟨.type "code", none, .fields #[.str (st "_law_shapes") 587, .str (st "_law_shapes") 588, .str (st "/claim/cut.py") 589, .int 72 0, .int 0 0, .int 0 0, .int 0 0, .int 3 0, .ref 198, .bool true, .int 181 0, .ref 199, .none, .ref 200, .ref 201, .ref 202, .int 590 0, .int 72 0, .str (st "/claim/cut.py") 591], #[]⟩
noncomputable def k204 : Obj := ⟨.type "function", none, .func (fnOf (st "_law_shapes") (st "_law_shapes") (fArgs s11) (fBody s11) (fScope s11) (.none) (.none) (.none) (.str (st "law_nz0037_01") 585) none (.ref 203) (.none)), #[]⟩
noncomputable def k210 : Obj := ⟨.type "code", none, .fields #[.str (st "_law_leaves") 593, .str (st "_law_leaves") 594, .str (st "/claim/cut.py") 595, .int 74 0, .int 0 0, .int 0 0, .int 0 0, .int 3 0, .ref 205, .bool true, .int 181 0, .ref 206, .none, .ref 207, .ref 208, .ref 209, .int 596 0, .int 74 0, .str (st "/claim/cut.py") 597], #[]⟩
noncomputable def k211 : Obj := ⟨.type "function", none, .func (fnOf (st "_law_leaves") (st "_law_leaves") (fArgs s12) (fBody s12) (fScope s12) (.none) (.none) (.none) (.str (st "law_nz0037_01") 585) none (.ref 210) (.none)), #[]⟩
noncomputable def k217 : Obj := ⟨.type "code", none, .fields #[.str (st "_law_box") 599, .str (st "_law_box") 600, .str (st "/claim/cut.py") 601, .int 76 0, .int 1 0, .int 0 0, .int 0 0, .int 3 0, .ref 212, .bool true, .int 181 0, .ref 213, .none, .ref 214, .ref 215, .ref 216, .int 605 0, .int 76 0, .str (st "/claim/cut.py") 606], #[]⟩
noncomputable def k218 : Obj := ⟨.type "function", none, .func (fnOf (st "_law_box") (st "_law_box") (fArgs s13) (fBody s13) (fScope s13) (.none) (.none) (.none) (.str (st "law_nz0037_01") 585) none (.ref 217) (.none)), #[]⟩
noncomputable def k224 : Obj := ⟨.type "code", none, .fields #[.str (st "_law_take") 608, .str (st "_law_take") 609, .str (st "/claim/cut.py") 610, .int 81 0, .int 2 0, .int 0 0, .int 0 0, .int 3 0, .ref 219, .bool true, .int 181 0, .ref 220, .none, .ref 221, .ref 222, .ref 223, .int 614 0, .int 81 0, .str (st "/claim/cut.py") 615], #[]⟩
noncomputable def k225 : Obj := ⟨.type "function", none, .func (fnOf (st "_law_take") (st "_law_take") (fArgs s14) (fBody s14) (fScope s14) (.none) (.none) (.none) (.str (st "law_nz0037_01") 585) none (.ref 224) (.none)), #[]⟩
noncomputable def k229 : Obj := ⟨.type "code", none, .fields #[.str (st "_law_plan") 617, .str (st "_law_plan") 618, .str (st "/claim/cut.py") 619, .int 88 0, .int 2 0, .int 0 0, .int 0 0, .int 3 0, .ref 226, .bool true, .int 181 0, .ref 227, .none, .none, .none, .ref 228, .int 620 0, .int 88 0, .str (st "/claim/cut.py") 621], #[]⟩
noncomputable def k230 : Obj := ⟨.type "function", none, .func (fnOf (st "_law_plan") (st "_law_plan") (fArgs s15) (fBody s15) (fScope s15) (.none) (.none) (.none) (.str (st "law_nz0037_01") 585) none (.ref 229) (.none)), #[]⟩
noncomputable def k234 : Obj := ⟨.type "code", none, .fields #[.str (st "_law_some") 623, .str (st "_law_some") 624, .str (st "/claim/cut.py") 625, .int 95 0, .int 3 0, .int 0 0, .int 0 0, .int 3 0, .ref 231, .bool true, .int 181 0, .ref 232, .none, .none, .none, .ref 233, .int 626 0, .int 95 0, .str (st "/claim/cut.py") 627], #[]⟩
noncomputable def k235 : Obj := ⟨.type "function", none, .func (fnOf (st "_law_some") (st "_law_some") (fArgs s16) (fBody s16) (fScope s16) (.none) (.none) (.none) (.str (st "law_nz0037_01") 585) none (.ref 234) (.none)), #[]⟩
noncomputable def k241 : Obj := ⟨.type "code", none, .fields #[.str (st "_law_part") 629, .str (st "_law_part") 630, .str (st "/claim/cut.py") 631, .int 97 0, .int 3 0, .int 0 0, .int 0 0, .int 3 0, .ref 236, .bool true, .int 181 0, .ref 237, .none, .ref 238, .ref 239, .ref 240, .int 635 0, .int 97 0, .str (st "/claim/cut.py") 636], #[]⟩
noncomputable def k242 : Obj := ⟨.type "function", none, .func (fnOf (st "_law_part") (st "_law_part") (fArgs s17) (fBody s17) (fScope s17) (.none) (.none) (.none) (.str (st "law_nz0037_01") 585) none (.ref 241) (.none)), #[]⟩
noncomputable def k246 : Obj := ⟨.type "code", none, .fields #[.str (st "_law_params") 638, .str (st "_law_params") 639, .str (st "/claim/cut.py") 640, .int 119 0, .int 2 0, .int 0 0, .int 0 0, .int 3 0, .ref 243, .bool true, .int 181 0, .ref 244, .none, .none, .none, .ref 245, .int 641 0, .int 119 0, .str (st "/claim/cut.py") 642], #[]⟩
noncomputable def k247 : Obj := ⟨.type "function", none, .func (fnOf (st "_law_params") (st "_law_params") (fArgs s18) (fBody s18) (fScope s18) (.none) (.none) (.none) (.str (st "law_nz0037_01") 585) none (.ref 246) (.none)), #[]⟩
noncomputable def k251 : Obj := ⟨.type "code", none, .fields #[.str (st "_law_made") 644, .str (st "_law_made") 645, .str (st "/claim/cut.py") 646, .int 126 0, .int 3 0, .int 0 0, .int 0 0, .int 3 0, .ref 248, .bool true, .int 181 0, .ref 249, .none, .none, .none, .ref 250, .int 647 0, .int 126 0, .str (st "/claim/cut.py") 648], #[]⟩
noncomputable def k252 : Obj := ⟨.type "function", none, .func (fnOf (st "_law_made") (st "_law_made") (fArgs s19) (fBody s19) (fScope s19) (.none) (.none) (.none) (.str (st "law_nz0037_01") 585) none (.ref 251) (.none)), #[]⟩
noncomputable def k256 : Obj := ⟨.type "code", none, .fields #[.str (st "_law_spots") 650, .str (st "_law_spots") 651, .str (st "/claim/cut.py") 652, .int 138 0, .int 1 0, .int 0 0, .int 0 0, .int 3 0, .ref 253, .bool true, .int 181 0, .ref 254, .none, .none, .none, .ref 255, .int 653 0, .int 138 0, .str (st "/claim/cut.py") 654], #[]⟩
noncomputable def k257 : Obj := ⟨.type "function", none, .func (fnOf (st "_law_spots") (st "_law_spots") (fArgs s20) (fBody s20) (fScope s20) (.none) (.none) (.none) (.str (st "law_nz0037_01") 585) none (.ref 256) (.none)), #[]⟩
noncomputable def k263 : Obj := ⟨.type "code", none, .fields #[.str (st "_law_bent") 656, .str (st "_law_bent") 657, .str (st "/claim/cut.py") 658, .int 142 0, .int 2 0, .int 0 0, .int 0 0, .int 3 0, .ref 258, .bool true, .int 181 0, .ref 259, .none, .ref 260, .ref 261, .ref 262, .int 666 0, .int 142 0, .str (st "/claim/cut.py") 667], #[]⟩
noncomputable def k264 : Obj := ⟨.type "function", none, .func (fnOf (st "_law_bent") (st "_law_bent") (fArgs s21) (fBody s21) (fScope s21) (.none) (.none) (.none) (.str (st "law_nz0037_01") 585) none (.ref 263) (.none)), #[]⟩
noncomputable def k270 : Obj := ⟨.type "code", none, .fields #[.str (st "_law_refuses") 669, .str (st "_law_refuses") 670, .str (st "/claim/cut.py") 671, .int 158 0, .int 2 0, .int 0 0, .int 0 0, .int 3 0, .ref 265, .bool true, .int 181 0, .ref 266, .none, .ref 267, .ref 268, .ref 269, .int 674 0, .int 158 0, .str (st "/claim/cut.py") 675], #[]⟩
noncomputable def k271 : Obj := ⟨.type "function", none, .func (fnOf (st "_law_refuses") (st "_law_refuses") (fArgs s22) (fBody s22) (fScope s22) (.none) (.none) (.none) (.str (st "law_nz0037_01") 585) none (.ref 270) (.none)), #[]⟩
noncomputable def k275 : Obj := ⟨.type "code", none, .fields #[.str (st "law") 677, .str (st "law") 678, .str (st "/claim/cut.py") 679, .int 164 0, .int 1 0, .int 0 0, .int 0 0, .int 3 0, .ref 272, .bool true, .int 181 0, .ref 273, .none, .none, .none, .ref 274, .int 680 0, .int 164 0, .str (st "/claim/cut.py") 681], #[]⟩
noncomputable def k276 : Obj := ⟨.type "function", none, .func (fnOf (st "law") (st "law") (fArgs s23) (fBody s23) (fScope s23) (.none) (.none) (.none) (.str (st "law_nz0037_01") 585) none (.ref 275) (.none)), #[]⟩
noncomputable def KK : Params → Frag := fun P =>
  (nat_lit 2, k2) ::
  (nat_lit 3, k3 P) ::
  (nat_lit 15, k15) ::
  (nat_lit 22, k22) ::
  (nat_lit 28, k28) ::
  (nat_lit 29, k29) ::
  (nat_lit 31, k31 P) ::
  (nat_lit 32, k32) ::
  (nat_lit 33, k33) ::
  (nat_lit 36, k36) ::
  (nat_lit 44, k44 P) ::
  (nat_lit 45, k45) ::
  (nat_lit 48, k48 P) ::
  (nat_lit 49, k49) ::
  (nat_lit 50, k50) ::
  (nat_lit 51, k51) ::
  (nat_lit 52, k52) ::
  (nat_lit 53, k53) ::
  (nat_lit 54, k54) ::
  (nat_lit 55, k55) ::
  (nat_lit 56, k56) ::
  (nat_lit 57, k57) ::
  (nat_lit 58, k58) ::
  (nat_lit 59, k59) ::
  (nat_lit 60, k60) ::
  (nat_lit 61, k61) ::
  (nat_lit 62, k62) ::
  (nat_lit 63, k63) ::
  (nat_lit 64, k64) ::
  (nat_lit 65, k65) ::
  (nat_lit 67, k67) ::
  (nat_lit 68, k68) ::
  (nat_lit 69, k69) ::
  (nat_lit 70, k70) ::
  (nat_lit 71, k71) ::
  (nat_lit 72, k72) ::
  (nat_lit 73, k73) ::
  (nat_lit 74, k74) ::
  (nat_lit 75, k75) ::
  (nat_lit 76, k76) ::
  (nat_lit 77, k77) ::
  (nat_lit 78, k78) ::
  (nat_lit 79, k79) ::
  (nat_lit 80, k80) ::
  (nat_lit 81, k81) ::
  (nat_lit 82, k82) ::
  (nat_lit 83, k83) ::
  (nat_lit 85, k85) ::
  (nat_lit 86, k86) ::
  (nat_lit 87, k87) ::
  (nat_lit 88, k88) ::
  (nat_lit 89, k89) ::
  (nat_lit 90, k90) ::
  (nat_lit 91, k91) ::
  (nat_lit 92, k92) ::
  (nat_lit 93, k93) ::
  (nat_lit 94, k94) ::
  (nat_lit 95, k95) ::
  (nat_lit 96, k96) ::
  (nat_lit 97, k97) ::
  (nat_lit 98, k98) ::
  (nat_lit 99, k99) ::
  (nat_lit 100, k100) ::
  (nat_lit 101, k101) ::
  (nat_lit 103, k103) ::
  (nat_lit 104, k104) ::
  (nat_lit 105, k105) ::
  (nat_lit 106, k106) ::
  (nat_lit 107, k107) ::
  (nat_lit 108, k108) ::
  (nat_lit 109, k109) ::
  (nat_lit 110, k110) ::
  (nat_lit 111, k111) ::
  (nat_lit 112, k112) ::
  (nat_lit 113, k113) ::
  (nat_lit 114, k114) ::
  (nat_lit 122, k122) ::
  (nat_lit 123, k123) ::
  (nat_lit 129, k129) ::
  (nat_lit 130, k130) ::
  (nat_lit 136, k136) ::
  (nat_lit 137, k137) ::
  (nat_lit 139, k139 P) ::
  (nat_lit 140, k140) ::
  (nat_lit 141, k141) ::
  (nat_lit 142, k142) ::
  (nat_lit 152, k152) ::
  (nat_lit 153, k153) ::
  (nat_lit 154, k154) ::
  (nat_lit 155, k155) ::
  (nat_lit 161, k161) ::
  (nat_lit 162, k162) ::
  (nat_lit 168, k168) ::
  (nat_lit 169, k169) ::
  (nat_lit 171, k171 P) ::
  (nat_lit 172, k172) ::
  (nat_lit 173, k173) ::
  (nat_lit 174, k174) ::
  (nat_lit 182, k182) ::
  (nat_lit 183, k183) ::
  (nat_lit 189, k189) ::
  (nat_lit 190, k190) ::
  (nat_lit 196, k196) ::
  (nat_lit 197, k197) ::
  (nat_lit 203, k203) ::
  (nat_lit 204, k204) ::
  (nat_lit 210, k210) ::
  (nat_lit 211, k211) ::
  (nat_lit 217, k217) ::
  (nat_lit 218, k218) ::
  (nat_lit 224, k224) ::
  (nat_lit 225, k225) ::
  (nat_lit 229, k229) ::
  (nat_lit 230, k230) ::
  (nat_lit 234, k234) ::
  (nat_lit 235, k235) ::
  (nat_lit 241, k241) ::
  (nat_lit 242, k242) ::
  (nat_lit 246, k246) ::
  (nat_lit 247, k247) ::
  (nat_lit 251, k251) ::
  (nat_lit 252, k252) ::
  (nat_lit 256, k256) ::
  (nat_lit 257, k257) ::
  (nat_lit 263, k263) ::
  (nat_lit 264, k264) ::
  (nat_lit 270, k270) ::
  (nat_lit 271, k271) ::
  (nat_lit 275, k275) ::
  (nat_lit 276, k276) :: []
def KKas : List Nat := nat_lit 2 :: nat_lit 3 :: nat_lit 15 :: nat_lit 22 :: nat_lit 28 :: nat_lit 29 :: nat_lit 31 :: nat_lit 32 :: nat_lit 33 :: nat_lit 36 :: nat_lit 44 :: nat_lit 45 :: nat_lit 48 :: nat_lit 49 :: nat_lit 50 :: nat_lit 51 :: nat_lit 52 :: nat_lit 53 :: nat_lit 54 :: nat_lit 55 :: nat_lit 56 :: nat_lit 57 :: nat_lit 58 :: nat_lit 59 :: nat_lit 60 :: nat_lit 61 :: nat_lit 62 :: nat_lit 63 :: nat_lit 64 :: nat_lit 65 :: nat_lit 67 :: nat_lit 68 :: nat_lit 69 :: nat_lit 70 :: nat_lit 71 :: nat_lit 72 :: nat_lit 73 :: nat_lit 74 :: nat_lit 75 :: nat_lit 76 :: nat_lit 77 :: nat_lit 78 :: nat_lit 79 :: nat_lit 80 :: nat_lit 81 :: nat_lit 82 :: nat_lit 83 :: nat_lit 85 :: nat_lit 86 :: nat_lit 87 :: nat_lit 88 :: nat_lit 89 :: nat_lit 90 :: nat_lit 91 :: nat_lit 92 :: nat_lit 93 :: nat_lit 94 :: nat_lit 95 :: nat_lit 96 :: nat_lit 97 :: nat_lit 98 :: nat_lit 99 :: nat_lit 100 :: nat_lit 101 :: nat_lit 103 :: nat_lit 104 :: nat_lit 105 :: nat_lit 106 :: nat_lit 107 :: nat_lit 108 :: nat_lit 109 :: nat_lit 110 :: nat_lit 111 :: nat_lit 112 :: nat_lit 113 :: nat_lit 114 :: nat_lit 122 :: nat_lit 123 :: nat_lit 129 :: nat_lit 130 :: nat_lit 136 :: nat_lit 137 :: nat_lit 139 :: nat_lit 140 :: nat_lit 141 :: nat_lit 142 :: nat_lit 152 :: nat_lit 153 :: nat_lit 154 :: nat_lit 155 :: nat_lit 161 :: nat_lit 162 :: nat_lit 168 :: nat_lit 169 :: nat_lit 171 :: nat_lit 172 :: nat_lit 173 :: nat_lit 174 :: nat_lit 182 :: nat_lit 183 :: nat_lit 189 :: nat_lit 190 :: nat_lit 196 :: nat_lit 197 :: nat_lit 203 :: nat_lit 204 :: nat_lit 210 :: nat_lit 211 :: nat_lit 217 :: nat_lit 218 :: nat_lit 224 :: nat_lit 225 :: nat_lit 229 :: nat_lit 230 :: nat_lit 234 :: nat_lit 235 :: nat_lit 241 :: nat_lit 242 :: nat_lit 246 :: nat_lit 247 :: nat_lit 251 :: nat_lit 252 :: nat_lit 256 :: nat_lit 257 :: nat_lit 263 :: nat_lit 264 :: nat_lit 270 :: nat_lit 271 :: nat_lit 275 :: nat_lit 276 :: []
end Mine

end

section
open PySem PySem.W PyProof.Rows PySem.Calls
set_option Elab.async false
set_option maxRecDepth 100000
set_option maxHeartbeats 1000000
namespace Mine

structure At (w : World) (p : Program) (loose : List Str) (mean : ExcName → Option Value) (mg mb : Str → Option Value) (A : Around) (h : Heap) : Prop where
  K : (KK w.params).In h
  T : Top p loose mean mg mb h
  B : ∃ base outer, Below A base outer h

abbrev Ext (h h' : Heap) : Prop := ∀ b o, h.get? b = some o → h'.get? b = some o

theorem At.ext {w : World} {p : Program} {loose : List Str} {mean : ExcName → Option Value} {mg mb : Str → Option Value} {A : Around} {h h' : Heap} (H : At w p loose mean mg mb A h) (e : Ext h h') : At w p loose mean mg mb A h' :=
  ⟨H.K.keeps e, H.T.keeps e, by
    obtain ⟨base, outer, B⟩ := H.B
    exact ⟨base, outer, B.stack, fun b o q => e _ _ (B.stays b o q), B.frames.of_keeps fun b o q _ => ⟨o, e _ _ q, rfl⟩⟩⟩

section
variable {prog : Program} {w : World} {p : Program} {loose : List Str} {mean : ExcName → Option Value} {mg mb : Str → Option Value} {A : Around} {s : Shared} {g : Heap} {news : List (Addr × Obj)}
  {R : Result → Shared → Prop} {name qual : Str} {params : Arguments} {body : List Stmt} {scope : Scope} {dV kV doc pm cdv ct oc : Value} {an od : Option Addr} {osl : Array (Option Value)} {f : Addr} {args : Args} {binds : List (Str × Value)}

theorem enterL (H : At w p loose mean mg mb A g) (hsub : Ext g s.heap) (hsz : g.objs.size ≤ s.heap.objs.size) (N₀ : ∀ q ∈ news, s.heap.get? q.1 = some q.2 ∧ g.get? q.1 = none)
    (ho : (KK w.params).lookup f = some ⟨oc, od, .func (fnOf name qual params body scope dV kV doc pm an cdv ct), osl⟩) (hcd : codeIn (KK w.params) cdv qual = true) (hroom : A.depth < recursionLimit)
    (hbind : BindsTo s (fnOf name qual params body scope dV kV doc pm an cdv ct) args binds) (hloc : ∀ y ∈ binds, scope.names.lookup y.1 = some .local)
    (h : ∀ L' h₁ base outer, A.frames = some outer → Fr g L' h₁ (fun y => binds.reverse.lookup y) → News g L' h₁ news → Below A base outer g → Ext s.heap h₁ → L' = s.heap.objs.size →
      wpAny (model prog w) (A.deeper (envOf qual scope L' f cdv)) (execs body (envOf qual scope L' f cdv))
        (fun fl s' => R (.ok (.ret (match fl with | .ret v => v | _ => .none))) s')
        (fun e s' => wpAny (model prog w) (A.deeper (envOf qual scope L' f cdv)) (leaving (envOf qual scope L' f cdv) e) (fun _ s'' => R (.error e) s'') (fun e' s'' => R (.error e') s'') s')
        { s with heap := h₁, toks := s.toks + binds.length })
    (hco : scope.isCoroutine = false := by rfl) (hgen : scope.isGenerator = false := by rfl) (hk : scope.kind = .function := by rfl)
    (hcell : ∀ x ∈ scope.names, x.2 ≠ .cell := by decide) : codeAny (model prog w) A (.call (.ref f) args) R s := by
  obtain ⟨base, outer, B⟩ := H.B
  have X := H.K.keeps hsub
  refine codeAny_call_def (fd := fnOf name qual params body scope dV kV doc pm an cdv ct) (body := body) (binds := binds) hroom (X _ _ ho) rfl (H.T.nolimit.keeps hsub) (codeRec_of X hcd) rfl hbind hcell hloc (fun h₁ hns hk₁ => ?_) hco hgen hk
  exact h s.heap.objs.size h₁ base outer B.stack ⟨hns, fun b o e => hk₁ b o (hsub _ _ e), hsz⟩
    (fun q hq => ⟨hk₁ _ _ (N₀ q hq).1, Nat.ne_of_lt (Heap.lt_size (N₀ q hq).1), (N₀ q hq).2⟩) B hk₁ rfl

theorem enterC (H : At w p loose mean mg mb A g) (hsub : Ext g s.heap) (hsz : g.objs.size ≤ s.heap.objs.size) (N₀ : ∀ q ∈ news, s.heap.get? q.1 = some q.2 ∧ g.get? q.1 = none)
    (ho : (KK w.params).lookup f = some ⟨oc, od, .func (fnOf name qual params body scope dV kV doc pm an cdv ct), osl⟩) (hcd : codeIn (KK w.params) cdv qual = true) (hroom : A.depth < recursionLimit)
    (hbind : BindsTo s (fnOf name qual params body scope dV kV doc pm an cdv ct) args binds)
    (hkind : (binds.all fun y => scope.names.lookup y.1 == some .local || scope.names.lookup y.1 == some .cell) = true)
    (hnd : ((cellsFrom 0 scope.names []).map (·.1)).Nodup)
    (h : ∀ L' h₁ tk cells base outer, A.frames = some outer → Fr g L' h₁ (bindL (envOfC qual scope L' f cdv).kindOf binds fun _ => none) → News g L' h₁ (cells ++ news) →
      CellsAre (bindC (envOfC qual scope L' f cdv).kindOf binds fun _ => none) (cellsFrom (L' + 1) scope.names []) cells → Below A base outer g → Ext s.heap h₁ → (∀ q ∈ news, q.1 < L') → L' = s.heap.objs.size →
      wpAny (model prog w) (A.deeper (envOfC qual scope L' f cdv)) (execs body (envOfC qual scope L' f cdv))
        (fun fl s' => R (.ok (.ret (match fl with | .ret v => v | _ => .none))) s')
        (fun e s' => wpAny (model prog w) (A.deeper (envOfC qual scope L' f cdv)) (leaving (envOfC qual scope L' f cdv) e) (fun _ s'' => R (.error e) s'') (fun e' s'' => R (.error e') s'') s')
        { s with heap := h₁, toks := tk })
    (hco : scope.isCoroutine = false := by rfl) (hgen : scope.isGenerator = false := by rfl) (hk : scope.kind = .function := by rfl) : codeAny (model prog w) A (.call (.ref f) args) R s := by
  obtain ⟨base, outer, B⟩ := H.B
  have X := H.K.keeps hsub
  refine codeAny_call_function (fd := fnOf name qual params body scope dV kV doc pm an cdv ct) hroom (X _ _ ho) rfl hco hgen rfl (codeRec_of X hcd) (hbind _ _ _ _ ?_)
  refine wpAny_newFunctionEnv_cells hk (kindsX hkind _) fun env' he s' x => ?_
  subst he
  refine ⟨(H.T.nolimit.keeps hsub).keeps x.toInCall.keep, codeAny_func ?_⟩
  obtain ⟨h₁, tk, rfl, _⟩ := x.done
  have hk₁ := x.toInCall.keep
  obtain ⟨cells, NC, Y⟩ := Cl.news (h₀ := s.heap) (Nat.le_refl _) fun n c hm => ⟨x.cell n c (lookup_of_mem_nodup (cellsFrom_names scope.names 0 (s.heap.objs.size + 1) [] [] rfl ▸ hnd) hm), x.above n c hm⟩
  refine h s.heap.objs.size h₁ tk cells base outer B.stack ⟨x.toInCall.ns, fun b o e => hk₁ b o (hsub _ _ e), hsz⟩ (fun q hq => ?_) Y B hk₁ (fun q hq => Heap.lt_size (N₀ q hq).1) rfl
  rcases List.mem_append.mp hq with hq | hq
  · refine ⟨(NC q hq).1, (NC q hq).2.1, ?_⟩
    cases e : g.get? q.1 with
    | none => rfl
    | some o => have := hsub _ _ e; rw [(NC q hq).2.2] at this; cases this
  · exact ⟨hk₁ _ _ (N₀ q hq).1, Nat.ne_of_lt (Heap.lt_size (N₀ q hq).1), (N₀ q hq).2⟩

theorem At.here {base h : Heap} {outer : List Env} {L : Addr} {m : Str → Option Value} {env : Env} (X : (KK w.params).In g) (T : Top p loose mean mg mb g) (B : Below A base outer g) (F : Fr g L h m) (hf : env.frame = some L) (hk : env.scope.kind = .function) :
    At w p loose mean mg mb (A.deeper env) h :=
  ⟨X.keeps F.keep, T.keeps F.keep, _, _, pushX B F hf hk⟩
theorem fr_hide {h : Heap} {L b : Addr} {m : Str → Option Value} (F : Fr g L h m) (hb : g.get? b = none) (hL : b ≠ L) : Fr g L (h.hide b) m := by
  obtain ⟨oL, es, ep, hL', r⟩ := F.ns
  refine ⟨⟨oL, es, ep, (Heap.hide_ne _ (Ne.symm hL)).trans hL', r⟩, fun x o e => ?_, F.above⟩
  by_cases q : x = b
  · rw [q, hb] at e; cases e
  · exact (Heap.hide_ne _ q).trans (F.keep x o e)
theorem fr_after {h h' : Heap} {L b : Addr} {m : Str → Option Value} (F : Fr g L h m) (hb : g.get? b = none) (hL : b ≠ L) (e : Ext (h.hide b) h') : Fr g L h' m := (fr_hide F hb hL).keeps e
end
end Mine

end

section
open PySem PySem.W PyProof.Rows PySem.Calls
set_option Elab.async false
set_option maxRecDepth 100000
set_option maxHeartbeats 1000000
namespace Mine
abbrev NoE : Value → Shared → Prop := fun _ _ => False

section
variable {prog : Program} {w : World} {A : Around} {s : Shared} {env : Env}

def CompAt (prog : Program) (w : World) (A : Around) (env : Env) (scope : Scope) (cl : List (Str × Addr)) (x : Str) (elt : Expr) (Fin : Value → Addr → Shared → Prop) (it : Value) (s₂ : Shared) : Prop :=
  ∃ (I : Addr) (fp wr : List Addr) (n : Nat) (P : Nat → Value → Prop) (St : Nat → Heap → Prop) (Mx : Addr → Prop) (J : Nat → List Value → Heap → Prop),
    it = .ref I ∧ Walks prog w A I fp wr n P St ∧ n ≤ sizeLine ∧ St 0 s₂.heap ∧ (∀ b ∈ fp, b < s₂.heap.objs.size ∧ ¬ Mx b) ∧ (∀ b, Mx b → b < s₂.heap.objs.size) ∧
    (∀ i ys h h', J i ys h → (∀ y o, y ≠ s₂.heap.objs.size → y ≠ s₂.heap.objs.size + 1 → y ∉ wr → h.get? y = some o → h'.get? y = some o) → J i ys h') ∧
    (∀ h', (∀ y o, s₂.heap.get? y = some o → h'.get? y = some o) → J 0 [] h') ∧
    (∀ i v ys s₃ m, i < n → P i v → ys.length = i → J i ys s₃.heap → s₃.heap.Ns (s₂.heap.objs.size + 1) m → m x = some v → (∀ y o, ¬ Mx y → y ∉ wr → s₂.heap.get? y = some o → s₃.heap.get? y = some o) →
      s₂.heap.objs.size + 2 ≤ s₃.heap.objs.size → (∃ h tk, s₃ = { s₂ with heap := h, toks := tk }) →
      wpAny (model prog w) A (eval elt (compEnvC scope cl (s₂.heap.objs.size + 1) env)) (fun y s₄ => J (i + 1) (ys ++ [y]) s₄.heap ∧ (∃ h tk, s₄ = { s₂ with heap := h, toks := tk }) ∧
        ∀ z o, ¬ Mx z → s₃.heap.get? z = some o → s₄.heap.get? z = some o) NoE s₃) ∧
    (∀ h' tk ys m', ys.length = n → h'.Ns (s₂.heap.objs.size + 1) m' → J n ys h' → h'.PlainList s₂.heap.objs.size ys.toArray → (∀ y o, ¬ Mx y → y ∉ wr → s₂.heap.get? y = some o → h'.get? y = some o) → Fin (.ref s₂.heap.objs.size) (s₂.heap.objs.size + 1) { s₂ with heap := h', toks := tk })

theorem size_of_ns {h : Heap} {C : Addr} {m : Str → Option Value} (hn : h.Ns C m) : C < h.objs.size := by
  obtain ⟨o, _, _, ho, _⟩ := hn
  exact Heap.lt_size ho

theorem comp_loopJ {elt iter : Expr} {x : Str} {px : Pos} {scope : Scope} {pos : Pos} {I D : Addr} {fp wr : List Addr} {n : Nat} {P : Nat → Value → Prop} {St : Nat → Heap → Prop} {R : Result → Shared → Prop}
    {cenv : Env} {m : Str → Option Value} (W : Walks prog w A I fp wr n P St) (hsz : n ≤ sizeLine) (Mx : Addr → Prop) (J : Nat → List Value → Heap → Prop)
    (hx : cenv.kindOf x = some .local) (hp : (cenv.scope.kind == .class || (cenv.scope.kind == .module && cenv.locals != cenv.globals)) = false)
    (hDC : D ≠ cenv.locals) (hDf : D ∉ fp) (hCf : cenv.locals ∉ fp) (hfM : ∀ b ∈ fp, ¬ Mx b) (hDM : ¬ Mx D) (hCM : ¬ Mx cenv.locals)
    (hst : St 0 s.heap) (hacc : s.heap.PlainList D #[]) (hn : s.heap.Ns cenv.locals m) (h0 : J 0 [] s.heap)
    (hJ : ∀ i ys h h', J i ys h → (∀ y o, y ≠ D → y ≠ cenv.locals → y ∉ wr → h.get? y = some o → h'.get? y = some o) → J i ys h')
    (step : ∀ i v ys s₃ m, i < n → P i v → ys.length = i → J i ys s₃.heap → s₃.heap.Ns cenv.locals m → m x = some v → (∀ y o, ¬ Mx y → y ≠ D → y ≠ cenv.locals → y ∉ wr → s.heap.get? y = some o → s₃.heap.get? y = some o) →
      (∃ h tk, s₃ = { s with heap := h, toks := tk }) →
      wpAny (model prog w) A (eval elt cenv) (fun y s₄ => J (i + 1) (ys ++ [y]) s₄.heap ∧ (∃ h tk, s₄ = { s with heap := h, toks := tk }) ∧
        ∀ z o, ¬ Mx z → s₃.heap.get? z = some o → s₄.heap.get? z = some o) NoE s₃)
    (hR : ∀ h' tk m' ys, ys.length = n → h'.Ns cenv.locals m' → J n ys h' → h'.PlainList D ys.toArray → (∀ y o, ¬ Mx y → y ≠ D → y ≠ cenv.locals → y ∉ wr → s.heap.get? y = some o → h'.get? y = some o) → R (.ok .next) { s with heap := h', toks := tk }) :
    codeAny (model prog w) A (.compLoop (.ListComp elt [⟨.Name x px, iter, [], 0⟩] scope pos) 0 (.ref I) (.ref D) cenv) R s := by
  have hCw : cenv.locals ∉ wr := fun h => hCf (W.sub _ h)
  have hDw : D ∉ wr := fun h => hDf (W.sub _ h)
  refine codeAny_compLoop_list
    (fun k s' => ∃ h' tk m' ys, s' = { s with heap := h', toks := tk } ∧ St ys.length h' ∧ h'.PlainList D ys.toArray ∧ h'.Ns cenv.locals m' ∧ J ys.length ys h' ∧ ys.length ≤ n ∧ k = n + 1 - ys.length ∧
      (∀ y o, ¬ Mx y → y ≠ D → y ≠ cenv.locals → y ∉ wr → s.heap.get? y = some o → h'.get? y = some o)) ?_ (n + 1)
    ⟨s.heap, s.toks, m, [], rfl, hst, hacc, hn, h0, Nat.zero_le _, rfl, fun _ _ _ _ _ _ e => e⟩
  rintro k s' ⟨H, tk, m', ys, rfl, hst', hacc', hn', hJ', hi, rfl, hk⟩
  by_cases hlt : ys.length < n
  · refine W.item ys.length _ _ _ hlt hst' fun v h₁ tk₁ hPv hst₁ hk₁ => ?_
    refine wpAny_assign_Name (wpAny_storeName_local hx (hn'.at' fun o e => hk₁ _ o hCw e) (fun h₂ hn₂ hs₂ => ?_) hp)
    have up₂ : ∀ b o, b ≠ cenv.locals → b ∉ wr → H.get? b = some o → h₂.get? b = some o := fun b o hbC hbf e => hs₂.extBut b o hbC (hk₁ b o hbf e)
    have hst₂ : St (ys.length + 1) h₂ := W.frame _ _ _ hst₁ fun b hb o e => hs₂.extBut b o (fun h => hCf (h ▸ hb)) e
    have hJ₂ : J ys.length ys h₂ := hJ _ _ _ _ hJ' fun y o _ hC hw e => up₂ y o hC hw e
    refine wpAny_mono (step ys.length v ys { s with heap := h₂, toks := tk₁ + 1 } _ hlt hPv rfl hJ₂ hn₂ (by simp) (fun y o hM hD hC hw e => up₂ y o hC hw (hk y o hM hD hC hw e)) ⟨_, _, rfl⟩) (fun y s₄ h₄ => ?_) fun _ _ e => e.elim
    obtain ⟨hJ₄, ⟨h₄, tk₄, rfl⟩, hk₄⟩ := h₄
    have hys : ys.toArray.size ≤ sizeLine := by
      have : ys.toArray.size = ys.length := by simp
      omega
    refine wpAny_list_append_plain (hsz := hys) ((hacc'.at fun o e => up₂ D o hDC hDw e).at fun o e => hk₄ _ o hDM e) fun h₅ hl₅ hs₅ => ?_
    refine ⟨n + 1 - (ys.length + 1), by omega, h₅, tk₄, _, ys ++ [y], rfl, ?_, by simpa using hl₅, (hn₂.at' fun o e => hk₄ _ o hCM e).sameBut hs₅ (Ne.symm hDC), ?_, by simp; omega, by simp, ?_⟩
    · have := W.frame _ _ h₅ hst₂ fun b hb o e => hs₅.extBut b o (fun h => hDf (h ▸ hb)) (hk₄ b o (hfM b hb) e)
      simpa using this
    · have := hJ _ _ h₄ h₅ hJ₄ fun y o hD _ _ e => hs₅.extBut y o hD e
      simpa using this
    · exact fun b o hM hD hC hw e => hs₅.extBut b o hD (hk₄ b o hM (up₂ b o hC hw (hk b o hM hD hC hw e)))
  · have hin : ys.length = n := by omega
    refine W.done _ _ _ (hin ▸ hst') fun h₁ tk₁ hk₁ => ?_
    refine hR h₁ tk₁ m' ys hin (hn'.at' fun o e => hk₁ _ o hCw e) (hin ▸ hJ _ _ _ _ hJ' fun y o _ _ hw e => hk₁ y o hw e) (hacc'.at fun o e => hk₁ _ o hDw e) fun b o hM hD hC hw e => hk₁ b o hw (hk b o hM hD hC hw e)

theorem comp_J {use : Option (Value → Sem Unit)} {elt iter : Expr} {x : Str} {px : Pos} {scope : Scope} {cl : List (Str × Addr)} {pos pos' : Pos} {Q : Value → Shared → Prop}
    (hclos : closureFor scope env = pure cl) (hcell : ∀ y ∈ scope.names, y.2 ≠ .cell) (hkind : scope.kind = .function)
    (hnames : ∀ y ∈ scope.names, y.2 = .local → scope.names.lookup y.1 = some .local) (hx : scope.names.lookup x = some .local)
    (h : wpAny (model prog w) A (eval iter env) (fun xv s₁ => wpAny (model prog w) A (pyIter xv) (fun it s₂ => CompAt prog w A env scope cl x elt (fun v C s' => compPost (model prog w) A NoE use Q v C (.ok .next) s') it s₂) NoE s₁) NoE s)
    (hs : ∀ x, foldedSetIterable iter env x = pure x := by intro _; rfl) :
    wpAny (model prog w) A (comprehension (.ListComp elt [⟨.Name x px, iter, [], 0⟩] scope pos) scope env pos' (newList []) false (eval iter env) use) Q NoE s := by
  refine wpAny_comprehension_free (use := use) rfl hs hclos hkind hnames (wpAny_mono h (fun xv s₁ h₁ => wpAny_mono h₁ (fun it s₂ h₂ => ?_) fun _ _ e => e) fun _ _ e => e)
  obtain ⟨I, fp, wr, n, P, St, Mx, J, rfl, W, hsz, hst, hfp, hM, hJ, hJ0, step, fin⟩ := h₂
  refine wpAny_newObj_type (wpAny_newFunctionEnv hcell (by intro y hy; simp at hy) (fun h₁ hns₁ hsb₁ => ?_) hkind)
  dsimp only at hns₁ hsb₁ ⊢
  generalize hH2 : s₂.heap.push { cls := .type "list", dict := none, data := .seq ([] : List Value).toArray } = H2 at hns₁ hsb₁ ⊢
  have hC : H2.objs.size = s₂.heap.objs.size + 1 := by rw [← hH2, Heap.size_push]
  have below : ∀ b, b < s₂.heap.objs.size → b ≠ H2.objs.size ∧ b ≠ s₂.heap.objs.size := fun b hb => ⟨by rw [hC]; exact Nat.ne_of_lt (Nat.lt_succ_of_lt hb), Nat.ne_of_lt hb⟩
  have hDC : s₂.heap.objs.size ≠ H2.objs.size := by rw [hC]; exact Nat.ne_of_lt (Nat.lt_succ_self _)
  have hDf : s₂.heap.objs.size ∉ fp := fun hm => Nat.lt_irrefl _ (hfp _ hm).1
  have hCf : H2.objs.size ∉ fp := fun hm => by have := (hfp _ hm).1; rw [hC] at this; exact Nat.lt_irrefl _ (Nat.lt_of_succ_lt this)
  have old : ∀ b o, s₂.heap.get? b = some o → h₁.get? b = some o := fun b o e => hsb₁.extBut b o (below b (Heap.lt_size e)).1 (Heap.get?_push_of_some _ (hH2 ▸ Heap.get?_push_of_some _ e))
  have hacc : h₁.PlainList s₂.heap.objs.size #[] := ⟨_, hsb₁.extBut _ _ hDC (Heap.get?_push_of_some _ (hH2 ▸ Heap.get?_push_size _ rfl))⟩
  have hst₁ : St 0 h₁ := W.frame _ _ _ hst fun b _ o e => old b o e
  have loop : ∀ s₃ : Shared, s₃ = { s₂ with heap := h₁, toks := s₂.toks + ([] : List (Str × Value)).length } →
      codeAny (model prog w) A (.compLoop (.ListComp elt [⟨.Name x px, iter, [], 0⟩] scope pos) 0 (.ref I) (.ref s₂.heap.objs.size) (compEnvC scope cl H2.objs.size env))
        (compPost (model prog w) A NoE use Q (.ref s₂.heap.objs.size) H2.objs.size) s₃ := by
    rintro s₃ rfl
    refine comp_loopJ (s := { s₂ with heap := h₁, toks := s₂.toks + ([] : List (Str × Value)).length }) (cenv := compEnvC scope cl H2.objs.size env) W hsz Mx J (lookup_relabel_local hx) (by simp [compEnvC, relabel, hkind]) hDC hDf hCf (fun b hb => (hfp b hb).2)
      (fun hm => Nat.lt_irrefl _ (hM _ hm)) (fun hm => by have := hM _ hm; simp only [compEnvC] at this; rw [hC] at this; exact Nat.lt_irrefl _ (Nat.lt_of_succ_lt this)) hst₁ hacc hns₁ (hJ0 _ old)
      (fun i ys h h' j k => hJ i ys h h' j fun y o a b c => k y o a (by simpa [compEnvC, hC] using b) c) ?_ ?_
    · intro i v ys s₃ m hi hP hl hj hn hm hk hs
      have hk' : ∀ y o, ¬ Mx y → y ∉ wr → s₂.heap.get? y = some o → s₃.heap.get? y = some o := fun y o hM' hw e =>
        hk y o hM' (below y (Heap.lt_size e)).2 (by simpa [compEnvC] using (below y (Heap.lt_size e)).1) hw (old y o e)
      have hn' : s₃.heap.Ns (s₂.heap.objs.size + 1) m := by rw [← hC]; exact hn
      obtain ⟨h, tk, rfl⟩ := hs
      have := step i v ys _ m hi hP hl hj hn' hm hk' (size_of_ns hn') ⟨_, _, rfl⟩
      rw [← hC] at this
      exact this
    · intro h' tk m' ys hl hn hj hpl hk
      have hk' : ∀ y o, ¬ Mx y → y ∉ wr → s₂.heap.get? y = some o → h'.get? y = some o := fun y o hM' hw e =>
        hk y o hM' (below y (Heap.lt_size e)).2 (by simpa [compEnvC] using (below y (Heap.lt_size e)).1) hw (old y o e)
      have := fin h' tk ys m' hl (by rw [← hC]; exact hn) hj hpl hk'
      rw [← hC] at this
      exact this
  exact codeAny_compStart_list (loop _ rfl) (W.self 0 _ _ _ hst₁ (loop _ rfl))
theorem ListComp_J {elt iter : Expr} {x : Str} {px : Pos} {scope : Scope} {cl : List (Str × Addr)} {pos : Pos} {Q : Value → Shared → Prop}
    (hclos : closureFor scope env = pure cl) (hcell : ∀ y ∈ scope.names, y.2 ≠ .cell) (hkind : scope.kind = .function)
    (hnames : ∀ y ∈ scope.names, y.2 = .local → scope.names.lookup y.1 = some .local) (hx : scope.names.lookup x = some .local)
    (h : wpAny (model prog w) A (eval iter env) (fun xv s₁ => wpAny (model prog w) A (pyIter xv) (fun it s₂ => CompAt prog w A env scope cl x elt (fun v C s' => compPost (model prog w) A NoE none Q v C (.ok .next) s') it s₂) NoE s₁) NoE s)
    (hs : ∀ x, foldedSetIterable iter env x = pure x := by intro _; rfl) :
    wpAny (model prog w) A (eval (.ListComp elt [⟨.Name x px, iter, [], 0⟩] scope pos) env) Q NoE s := by
  rw [eval_ListComp]
  exact comp_J hclos hcell hkind hnames hx h hs
theorem AsgComp_J {elt iter : Expr} {x y : Str} {px py : Pos} {scope : Scope} {cl : List (Str × Addr)} {pos spos : Pos} {Q : Flow → Shared → Prop}
    (hsw : swapsWith (.ListComp elt [⟨.Name x px, iter, [], 0⟩] scope pos) (some (.Name y py)) spos.line env = pure true)
    (hclos : closureFor scope env = pure cl) (hcell : ∀ y ∈ scope.names, y.2 ≠ .cell) (hkind : scope.kind = .function)
    (hnames : ∀ y ∈ scope.names, y.2 = .local → scope.names.lookup y.1 = some .local) (hx : scope.names.lookup x = some .local)
    (h : wpAny (model prog w) A (eval iter env) (fun xv s₁ => wpAny (model prog w) A (pyIter xv) (fun it s₂ => CompAt prog w A env scope cl x elt (fun v C s' => compPost (model prog w) A NoE (some (assign (.Name y py) env)) (fun _ s' => Q .next s') v C (.ok .next) s') it s₂) NoE s₁) NoE s)
    (hs : ∀ x, foldedSetIterable iter env x = pure x := by intro _; rfl) :
    wpAny (model prog w) A (exec (.Assign [.Name y py] (.ListComp elt [⟨.Name x px, iter, [], 0⟩] scope pos) spos) env) Q NoE s := by
  rw [exec_Assign_Name_used _ _ _ _ hsw]
  refine wpAny_bind (wpAny_standAt (wpAny_bind ?_))
  show wpAny _ A (do let _ ← comprehension (.ListComp elt [⟨.Name x px, iter, [], 0⟩] scope pos) scope env _ (newList []) false (eval iter env) (some (assign (.Name y py) env))) _ _ s
  exact wpAny_bind (wpAny_mono (comp_J (use := some (assign (.Name y py) env)) (Q := fun _ s' => Q .next s') hclos hcell hkind hnames hx h hs) (fun _ s' hq => wpAny_pure (wpAny_pure hq)) fun _ _ e => e)
end
end Mine

end

section
open PySem PySem.W PyProof.Rows PySem.Calls
set_option Elab.async false
set_option maxRecDepth 100000
set_option maxHeartbeats 1000000
namespace Mine
section
variable {prog : Program} {w : World} {A : Around} {s : Shared} {env : Env} {target : Expr} {body : List Stmt} {Q : Flow → Shared → Prop}

def TurnEnd (Mx : Addr → Prop) (J : Heap → Prop) (s₂ : Shared) (h₁ : Heap) (Q : Flow → Shared → Prop) (f : Flow) (s₄ : Shared) : Prop :=
  match f with
  | .next | .cont => J s₄.heap ∧ (∃ h tk, s₄ = { s₂ with heap := h, toks := tk }) ∧ ∀ z o, ¬ Mx z → h₁.get? z = some o → s₄.heap.get? z = some o
  | .brk => Q .next s₄
  | .ret v => Q (.ret v) s₄

def ForAt (prog : Program) (w : World) (A : Around) (env : Env) (target : Expr) (body : List Stmt) (Q : Flow → Shared → Prop) (it : Value) (s₂ : Shared) : Prop :=
  ∃ (I : Addr) (fp wr : List Addr) (n : Nat) (P Md : Nat → Value → Heap → Prop) (St : Nat → Heap → Prop) (Mx : Addr → Prop) (J : Nat → Heap → Prop),
    it = .ref I ∧ KTurns prog w A target I fp wr n P Md St ∧ St 0 s₂.heap ∧ (∀ b ∈ fp, ¬ Mx b) ∧
    (∀ i h h', J i h → (∀ y o, y ∉ wr → h.get? y = some o → h'.get? y = some o) → J i h') ∧ J 0 s₂.heap ∧
    (∀ i v h₁ tk₁, i < n → P i v h₁ → J i h₁ → (∀ y o, ¬ Mx y → y ∉ wr → s₂.heap.get? y = some o → h₁.get? y = some o) →
      wpAny (model prog w) A (assign target env v) (fun _ s₃ => wpAny (model prog w) A (execs body env) (TurnEnd Mx (J (i + 1)) s₂ h₁ Q) NoE s₃) NoE { s₂ with heap := h₁, toks := tk₁ }) ∧
    (∀ h' tk, J n h' → (∀ y o, ¬ Mx y → y ∉ wr → s₂.heap.get? y = some o → h'.get? y = some o) → Q .next { s₂ with heap := h', toks := tk })

theorem For_J {iter : Expr} {pos : Pos}
    (h : wpAny (model prog w) A (eval iter env) (fun xv s₁ => wpAny (model prog w) A (pyIter xv) (fun it s₂ => ForAt prog w A env target body Q it s₂) NoE s₁) NoE s)
    (hs : ∀ x, foldedSetIterable iter env x = pure x := by intro _; rfl) :
    wpAny (model prog w) A (exec (.For target iter body [] pos) env) Q NoE s := by
  refine wpAny_For (wpAny_mono h (fun xv s₁ h₁ => wpAny_mono h₁ (fun it s₂ h₂ => ?_) fun _ _ e => e) fun _ _ e => e) hs
  obtain ⟨I, fp, wr, n, P, Md, St, Mx, J, rfl, W, hst, hfM, hJ, h0, step, fin⟩ := h₂
  refine codeAny_forLoop_any
    (fun k s' => ∃ h' tk i, s' = { s₂ with heap := h', toks := tk } ∧ St i h' ∧ J i h' ∧ i ≤ n ∧ k = n + 1 - i ∧ (∀ y o, ¬ Mx y → y ∉ wr → s₂.heap.get? y = some o → h'.get? y = some o)) ?_ (n + 1)
    ⟨s₂.heap, s₂.toks, 0, rfl, hst, h0, Nat.zero_le _, rfl, fun _ _ _ _ e => e⟩
  rintro k s' ⟨h', tk, i, rfl, hst', hJ', hi, rfl, hk⟩
  by_cases hlt : i < n
  · refine W.item i _ _ _ hlt hst' fun v h₁ tk₁ hMd hk₁ => ?_
    refine W.go i v _ _ _ hMd fun h₂ hP hst₂ hk₂ => ?_
    have hJ₂ : J i h₂ := hJ _ _ _ hJ' fun y o hw e => hk₂ y o hw (hk₁ y o hw e)
    refine wpAny_mono (step i v h₂ tk₁ hlt hP hJ₂ fun y o hM hw e => hk₂ y o hw (hk₁ y o hw (hk y o hM hw e))) (fun _ s₃ h₃ => wpAny_mono h₃ (fun f s₄ h₄ => ?_) fun _ _ e => e.elim) fun _ _ e => e.elim
    cases f with
    | ret v => exact h₄
    | brk => exact h₄
    | cont =>
      obtain ⟨hJ₄, ⟨h₅, tk₅, rfl⟩, hk₄⟩ := h₄
      exact ⟨n + 1 - (i + 1), by omega, h₅, tk₅, i + 1, rfl, W.frame _ _ _ hst₂ fun b hb o e => hk₄ b o (hfM b hb) e, hJ₄, hlt, rfl, fun y o hM hw e => hk₄ y o hM (hk₂ y o hw (hk₁ y o hw (hk y o hM hw e)))⟩
    | next =>
      obtain ⟨hJ₄, ⟨h₅, tk₅, rfl⟩, hk₄⟩ := h₄
      exact ⟨n + 1 - (i + 1), by omega, h₅, tk₅, i + 1, rfl, W.frame _ _ _ hst₂ fun b hb o e => hk₄ b o (hfM b hb) e, hJ₄, hlt, rfl, fun y o hM hw e => hk₄ y o hM (hk₂ y o hw (hk₁ y o hw (hk y o hM hw e)))⟩
  · have hin : i = n := by omega
    subst hin
    refine W.done _ _ _ hst' fun h₁ tk₁ hk₁ => wpAny_execs_nil ?_
    exact fin h₁ tk₁ (hJ _ _ _ hJ' fun y o hw e => hk₁ y o hw e) fun y o hM hw e => hk₁ y o hw (hk y o hM hw e)
end
end Mine

end

section
open PySem PySem.W PyProof.Rows PySem.Calls
set_option Elab.async false
set_option maxRecDepth 100000
set_option maxHeartbeats 1000000
namespace Mine

abbrev Lk := Addr → Option Obj
abbrev Le (l l' : Lk) : Prop := ∀ x o, l x = some o → l' x = some o
theorem Le.rfl' {l : Lk} : Le l l := fun _ _ e => e
theorem Le.trans {a b c : Lk} (x : Le a b) (y : Le b c) : Le a c := fun _ _ e => y _ _ (x _ _ e)
def Grow (n : Nat) (l l' : Lk) : Prop := Le l l' ∧ ∀ x o, l' x = some o → l x = some o ∨ n ≤ x
theorem Grow.refl (n : Nat) (l : Lk) : Grow n l l := ⟨Le.rfl', fun _ _ e => .inl e⟩
theorem Grow.trans {n k : Nat} {a b c : Lk} (x : Grow n a b) (y : Grow k b c) (h : n ≤ k) : Grow n a c :=
  ⟨x.1.trans y.1, fun z o e => (y.2 z o e).elim (x.2 z o) fun q => .inr (Nat.le_trans h q)⟩
theorem Grow.none {n : Nat} {l l' : Lk} (x : Grow n l l') {a : Nat} (e : l a = none) (ha : a < n) : l' a = none := by
  cases q : l' a with
  | none => rfl
  | some o => rcases x.2 a o q with q | q
              · rw [e] at q; cases q
              · exact absurd ha (Nat.not_lt.mpr q)
def add (l : Lk) (a : Addr) (o : Obj) : Lk := fun x => if x = a then some o else l x
theorem add_self (l : Lk) (a : Addr) (o : Obj) : add l a o a = some o := if_pos rfl
theorem le_add {l : Lk} {a : Addr} (o : Obj) (h : l a = none) : Le l (add l a o) := fun x o' e => by
  unfold add
  rw [if_neg (by rintro rfl; rw [h] at e; cases e)]
  exact e

inductive AtomV : Value → PyData → Prop
  | none : AtomV .none .none
  | bool (b) : AtomV (.bool b) (.bool b)
  | int (i t) : AtomV (.int i t) (.int i)
  | str (x t) : AtomV (.str x t) (.str x)

inductive Plan where
  | atom (d : PyData)
  | node (k : Str) (ps : List Plan)
  | list (ps : List Plan)
  | params (ps : List Plan)

namespace Plan
def isNode : Plan → Bool | .node .. => true | _ => false
def isAtom : Plan → Bool | .atom .. => true | _ => false
def isParams : Plan → Bool | .params .. => true | _ => false
mutual
noncomputable def nodes : Plan → Nat
  | .atom _ => 0
  | .node _ ps => nodesAll ps + 1
  | .list ps => nodesAll ps
  | .params ps => nodesAll ps
noncomputable def nodesAll : List Plan → Nat
  | [] => 0
  | p :: ps => nodes p + nodesAll ps
end
mutual
noncomputable def spots : Plan → Nat
  | .atom _ => 1
  | .node _ ps => spotsAll ps + 1
  | .list ps => spotsAll ps + 1
  | .params ps => spotsAll ps + 1
noncomputable def spotsAll : List Plan → Nat
  | [] => 0
  | p :: ps => spots p + spotsAll ps
end
mutual
noncomputable def dep : Plan → Nat
  | .atom _ => 1
  | .node _ ps => depAll ps + 1
  | .list ps => depAll ps + 1
  | .params ps => depAll ps + 1
noncomputable def depAll : List Plan → Nat
  | [] => 0
  | p :: ps => max (dep p) (depAll ps)
end
mutual
noncomputable def enc : Plan → PyData
  | .atom d => .list [.str (st "atom"), d]
  | .node k ps => .list [.str (st "node"), .str k, .list (encAll ps)]
  | .list ps => .list [.str (st "list"), .list (encAll ps)]
  | .params ps => .list [.str (st "params"), .list (encAll ps)]
noncomputable def encAll : List Plan → List PyData
  | [] => []
  | p :: ps => enc p :: encAll ps
end
end Plan

def LIs (l : Lk) (a : Addr) (its : List Value) : Prop := ∃ o, l a = some o ∧ o.cls = .type "list" ∧ ∃ n, o.data = .seq its.toArray n
theorem LIs.mono {l l' : Lk} {a : Addr} {its : List Value} (h : LIs l a its) (k : Le l l') : LIs l' a its := let ⟨o, e, q⟩ := h; ⟨o, k _ _ e, q⟩
def isL (l : Lk) (v : Value) (its : List Value) : Prop := ∃ a, v = .ref a ∧ LIs l a its
theorem isL.mono {l l' : Lk} {v : Value} {its : List Value} (h : isL l v its) (k : Le l l') : isL l' v its := let ⟨a, e, q⟩ := h; ⟨a, e, q.mono k⟩
mutual
def PlanIn (l : Lk) : Plan → Value → Prop
  | .atom d, v => ∃ t x, isL l v [.str (st "atom") t, x] ∧ AtomV x d
  | .node k ps, v => ∃ t t' u us, isL l v [.str (st "node") t, .str k t', u] ∧ isL l u us ∧ PlansIn l ps us
  | .list ps, v => ∃ t u us, isL l v [.str (st "list") t, u] ∧ isL l u us ∧ PlansIn l ps us
  | .params ps, v => ∃ t u us, isL l v [.str (st "params") t, u] ∧ isL l u us ∧ PlansIn l ps us
def PlansIn (l : Lk) : List Plan → List Value → Prop
  | [], vs => vs = []
  | p :: ps, vs => ∃ v r, vs = v :: r ∧ PlanIn l p v ∧ PlansIn l ps r
end
mutual
theorem PlanIn.mono {l l' : Lk} (k : Le l l') : ∀ {p : Plan} {v : Value}, PlanIn l p v → PlanIn l' p v
  | .atom _, _, h => by
    simp only [PlanIn] at h ⊢
    obtain ⟨t, x, a, b⟩ := h
    exact ⟨t, x, a.mono k, b⟩
  | .node _ ps, _, h => by
    simp only [PlanIn] at h ⊢
    obtain ⟨t, t', u, us, a, b, c⟩ := h
    exact ⟨t, t', u, us, a.mono k, b.mono k, PlansIn.mono k (ps := ps) c⟩
  | .list ps, _, h => by
    simp only [PlanIn] at h ⊢
    obtain ⟨t, u, us, a, b, c⟩ := h
    exact ⟨t, u, us, a.mono k, b.mono k, PlansIn.mono k (ps := ps) c⟩
  | .params ps, _, h => by
    simp only [PlanIn] at h ⊢
    obtain ⟨t, u, us, a, b, c⟩ := h
    exact ⟨t, u, us, a.mono k, b.mono k, PlansIn.mono k (ps := ps) c⟩
theorem PlansIn.mono {l l' : Lk} (k : Le l l') : ∀ {ps : List Plan} {vs : List Value}, PlansIn l ps vs → PlansIn l' ps vs
  | [], _, h => by simpa only [PlansIn] using h
  | p :: ps, _, h => by
    simp only [PlansIn] at h ⊢
    obtain ⟨v, r, e, a, b⟩ := h
    exact ⟨v, r, e, PlanIn.mono k (p := p) a, PlansIn.mono k (ps := ps) b⟩
end
theorem PlansIn.length {l : Lk} : ∀ {ps : List Plan} {vs : List Value}, PlansIn l ps vs → vs.length = ps.length
  | [], _, h => by simp only [PlansIn] at h; subst h; rfl
  | p :: ps, _, h => by
    simp only [PlansIn] at h
    obtain ⟨v, r, e, a, b⟩ := h
    subst e
    simp [PlansIn.length b]
theorem PlansIn.snoc {l : Lk} {q : Plan} {u : Value} (hq : PlanIn l q u) : ∀ {ps : List Plan} {vs : List Value}, PlansIn l ps vs → PlansIn l (ps ++ [q]) (vs ++ [u])
  | [], _, h => by
    simp only [PlansIn] at h; subst h
    simp only [List.nil_append, PlansIn]
    exact ⟨u, [], rfl, hq, rfl⟩
  | p :: ps, _, h => by
    simp only [PlansIn] at h
    obtain ⟨v, r, e, a, b⟩ := h
    subst e
    simp only [List.cons_append, PlansIn]
    exact ⟨v, r ++ [u], rfl, a, PlansIn.snoc hq b⟩
theorem PlansIn.at {l : Lk} : ∀ {ps : List Plan} {vs : List Value} {i : Nat} {v : Value}, PlansIn l ps vs → vs[i]? = some v → ∃ p, ps[i]? = some p ∧ PlanIn l p v
  | [], _, i, v, h, e => by simp only [PlansIn] at h; subst h; simp at e
  | p :: ps, _, i, v, h, e => by
    simp only [PlansIn] at h
    obtain ⟨u, r, rfl, a, b⟩ := h
    cases i with
    | zero => simp at e; subst e; exact ⟨p, rfl, a⟩
    | succ i => simpa using PlansIn.at b (by simpa using e)

def Rd (h : Heap) (v : Value) (d : PyData) : Prop := ∃ as, Reads h v d as
theorem rd_list {h : Heap} {v : Value} {its : List Value} {ds : List PyData} (hl : isL h.get? v its) (hr : ∃ as, ReadsAll h its ds as) : Rd h v (.list ds) := by
  obtain ⟨a, rfl, o, e, hc, n, hd⟩ := hl
  obtain ⟨as, r⟩ := hr
  exact ⟨_, .list e hc hd r⟩
theorem rd_atom {h : Heap} {v : Value} {d : PyData} (x : AtomV v d) : Reads h v d [] := by
  cases x <;> constructor
theorem rds_cons {h : Heap} {v : Value} {vs : List Value} {d : PyData} {ds : List PyData} (a : Rd h v d) (b : ∃ as, ReadsAll h vs ds as) : ∃ as, ReadsAll h (v :: vs) (d :: ds) as := by
  obtain ⟨_, a⟩ := a
  obtain ⟨_, b⟩ := b
  exact ⟨_, .cons a b⟩
theorem rds_nil {h : Heap} : ∃ as, ReadsAll h [] [] as := ⟨_, .nil⟩
theorem rd_str {h : Heap} (x : Str) (t : Tok) : Rd h (.str x t) (.str x) := ⟨_, .str x t⟩
mutual
theorem PlanIn.reads {h : Heap} : ∀ {p : Plan} {v : Value}, PlanIn h.get? p v → Rd h v p.enc
  | .atom _, _, q => by
    simp only [PlanIn] at q
    obtain ⟨t, x, a, b⟩ := q
    simp only [Plan.enc]
    exact rd_list a (rds_cons (rd_str _ _) (rds_cons ⟨_, rd_atom b⟩ rds_nil))
  | .node _ ps, _, q => by
    simp only [PlanIn] at q
    obtain ⟨t, t', u, us, a, b, c⟩ := q
    simp only [Plan.enc]
    exact rd_list a (rds_cons (rd_str _ _) (rds_cons (rd_str _ _) (rds_cons (rd_list b (PlansIn.reads (ps := ps) c)) rds_nil)))
  | .list ps, _, q => by
    simp only [PlanIn] at q
    obtain ⟨t, u, us, a, b, c⟩ := q
    simp only [Plan.enc]
    exact rd_list a (rds_cons (rd_str _ _) (rds_cons (rd_list b (PlansIn.reads (ps := ps) c)) rds_nil))
  | .params ps, _, q => by
    simp only [PlanIn] at q
    obtain ⟨t, u, us, a, b, c⟩ := q
    simp only [Plan.enc]
    exact rd_list a (rds_cons (rd_str _ _) (rds_cons (rd_list b (PlansIn.reads (ps := ps) c)) rds_nil))
theorem PlansIn.reads {h : Heap} : ∀ {ps : List Plan} {vs : List Value}, PlansIn h.get? ps vs → ∃ as, ReadsAll h vs (Plan.encAll ps) as
  | [], _, q => by simp only [PlansIn] at q; subst q; exact rds_nil
  | p :: ps, _, q => by
    simp only [PlansIn] at q
    obtain ⟨v, r, rfl, a, b⟩ := q
    simp only [Plan.encAll]
    exact rds_cons (PlanIn.reads (p := p) a) (PlansIn.reads (ps := ps) b)
end
end Mine

end

section
open PySem PySem.W PyProof.Rows PySem.Calls
set_option Elab.async false
set_option maxRecDepth 100000
set_option maxHeartbeats 1000000
set_option linter.unusedVariables false
namespace Mine

structure W {α : Type} (prog : Program) (w : World) (A : Around) (t : Sem α) (h : Heap) (Q : α → Heap → Prop) : Prop where
  run : ∀ (s : Shared) (Qs : α → Shared → Prop), s.heap = h → (∀ a h' tk, Q a h' → Qs a { s with heap := h', toks := tk }) → wpAny (model prog w) A t Qs NoE s

def WC (prog : Program) (w : World) (A : Around) (c : Code) (h : Heap) (Q : Value → Heap → Prop) : Prop :=
  ∀ (s : Shared) (R : Result → Shared → Prop), s.heap = h → (∀ v h' tk, Q v h' → R (.ok (.ret v)) { s with heap := h', toks := tk }) → codeAny (model prog w) A c R s

abbrev Ev (prog : Program) (w : World) (A : Around) (env : Env) (e : Expr) (h : Heap) (P : Value → Prop) : Prop := W prog w A (eval e env) h (fun v h' => h' = h ∧ P v)
abbrev Ts (prog : Program) (w : World) (A : Around) (env : Env) (e : Expr) (h : Heap) (P : Bool → Prop) : Prop := W prog w A (isTrue e env (eval e env)) h (fun v h' => h' = h ∧ P v)
abbrev IsI (i : Int) (v : Value) : Prop := ∃ t, v = .int i t
abbrev IsS (x : Str) (v : Value) : Prop := ∃ t, v = .str x t

structure Gl (w : World) (p : Program) (loose : List Str) (mean : ExcName → Option Value) (mg mb : Str → Option Value) (h : Heap) : Prop where
  K : (KK w.params).In h
  T : Top p loose mean mg mb h
theorem Gl.ext {w : World} {p : Program} {loose : List Str} {mean : ExcName → Option Value} {mg mb : Str → Option Value} {h h' : Heap} (G : Gl w p loose mean mg mb h) (e : Ext h h') : Gl w p loose mean mg mb h' := ⟨G.K.keeps e, G.T.keeps e⟩

section
variable {prog : Program} {w : World} {A : Around} {env : Env} {h : Heap} {α β : Type} {p : Program} {loose : List Str} {mean : ExcName → Option Value} {mg mb : Str → Option Value}

theorem W.mono {t : Sem α} {Q Q' : α → Heap → Prop} (x : W prog w A t h Q) (k : ∀ a h', Q a h' → Q' a h') : W prog w A t h Q' :=
  W.mk fun s Qs hs q => x.run s Qs hs fun a h' tk y => q a h' tk (k a h' y)
theorem W.pure {a : α} {Q : α → Heap → Prop} (q : Q a h) : W prog w A (Pure.pure a) h Q := W.mk fun s Qs hs k => wpAny_pure (by subst hs; exact k a _ s.toks q)
theorem W.use {t : Sem α} {Q : α → Heap → Prop} {s : Shared} {Qs : α → Shared → Prop} (x : W prog w A t s.heap Q) (k : ∀ a h' tk, Q a h' → Qs a { s with heap := h', toks := tk }) : wpAny (model prog w) A t Qs NoE s := x.run s Qs rfl k
theorem W.still {t : Sem α} {P : α → Prop} (x : ∀ (s : Shared) (Qs : α → Shared → Prop), s.heap = h → (∀ a tk, P a → Qs a { s with toks := tk }) → wpAny (model prog w) A t Qs NoE s) : W prog w A t h (fun a h' => h' = h ∧ P a) :=
  W.mk fun s Qs hs k => x s Qs hs fun a tk q => by
    have := k a h tk ⟨rfl, q⟩
    rw [← hs] at this
    exact this
theorem WC.call {f : Value} {args : List Value} {Q : Value → Heap → Prop} (x : WC prog w A (.call f ⟨args, []⟩) h Q) : W prog w A (call f args) h Q :=
  W.mk fun s Qs hs k => wpAny_call (x s _ hs fun v h' tk q => k v h' tk q)

theorem ev_mono {t : Sem α} {P P' : α → Prop} (x : W prog w A t h (fun v h' => h' = h ∧ P v)) (k : ∀ v, P v → P' v) : W prog w A t h (fun v h' => h' = h ∧ P' v) := x.mono fun v _ q => ⟨q.1, k v q.2⟩

theorem ev_int {i : Int} {k : Nat} {pos : Pos} : Ev prog w A env (.Constant (.int i) k pos) h (IsI i) := W.still fun _ _ _ k => wpAny_Constant_int (k _ _ ⟨_, rfl⟩)
theorem ev_str {x : Str} {k : Nat} {pos : Pos} : Ev prog w A env (.Constant (.str x) k pos) h (IsS x) := W.still fun _ _ _ k => Calls.Constant_str (k _ _ ⟨_, rfl⟩)
theorem ev_none {k : Nat} {pos : Pos} : Ev prog w A env (.Constant .none k pos) h (· = .none) := W.still fun s _ _ k => wpAny_Constant_none (k _ s.toks rfl)
theorem ev_bool {b : Bool} {k : Nat} {pos : Pos} : Ev prog w A env (.Constant (.bool b) k pos) h (· = .bool b) := W.still fun s _ _ k => wpAny_Constant_bool (k _ s.toks rfl)
theorem ev_loc {x : Str} {pos : Pos} {v : Value} {m : Str → Option Value} {P : Value → Prop} (hn : h.Ns env.locals m) (hv : m x = some v) (hp : P v)
    (hk : env.scope.kind = .function := by rfl) (hl : env.kindOf x = some .local := by rfl) (hd : (x == ("__debug__" : Str)) = false := by decide) : Ev prog w A env (.Name x pos) h P :=
  W.still fun s _ hs k => wpAny_Name (wpAny_loadName_local hk hl (by rw [hs]; exact hn) hv (k _ s.toks hp)) hd
theorem ev_fr {x : Str} {pos : Pos} {v : Value} {m : Str → Option Value} {g : Heap} {L : Addr} {P : Value → Prop} (F : Fr g L h m) (hv : m x = some v) (hp : P v) (hL : env.locals = L := by rfl)
    (hk : env.scope.kind = .function := by rfl) (hl : env.kindOf x = some .local := by rfl) (hd : (x == ("__debug__" : Str)) = false := by decide) : Ev prog w A env (.Name x pos) h P := ev_loc (by rw [hL]; exact F.ns) hv hp hk hl hd
theorem ev_cell {x : Str} {pos : Pos} {c : Addr} {v : Value} {P : Value → Prop} (hc : env.cells.lookup x = some c) (hv : h.IsCell c (some v)) (hp : P v)
    (hk : env.scope.kind = .function := by rfl) (hl : env.kindOf x = some .cell := by rfl) (hd : (x == ("__debug__" : Str)) = false := by decide) : Ev prog w A env (.Name x pos) h P :=
  W.still fun s _ hs k => wpAny_Name (wpAny_loadName_cell hk hl hc (by rw [hs]; exact hv) (k _ s.toks hp)) hd
theorem ev_glob {x : Str} {pos : Pos} {v : Value} (G : Gl w p loose mean mg mb h) (e : nsIn (KK w.params) mainGlobals x = some (some v)) (hg : env.globals = mainGlobals := by rfl)
    (hk : env.scope.kind = .function := by rfl) (hl : env.kindOf x = some .globalImplicit := by rfl) (hd : (x == ("__debug__" : Str)) = false := by decide) : Ev prog w A env (.Name x pos) h (· = v) :=
  W.still fun s _ hs k => Name_function_global hk hl (loadGlobal_global (by rw [hs, hg]; exact G.T.g) (mg_of G.K G.T.g e) (k _ s.toks rfl)) hd
theorem ev_boot {x : Str} {pos : Pos} {v : Value} (G : Gl w p loose mean mg mb h) (e : nsIn (KK w.params) mainGlobals x = some none) (hv : bootBuiltins x = some v) (hn : x ≠ "__name__") (hg : env.globals = mainGlobals := by rfl) (hb : env.builtins = builtinsNs := by rfl)
    (hk : env.scope.kind = .function := by rfl) (hl : env.kindOf x = some .globalImplicit := by rfl) (hd : (x == ("__debug__" : Str)) = false := by decide) : Ev prog w A env (.Name x pos) h (· = v) :=
  W.still fun s _ hs k => Name_function_global hk hl (loadGlobal_builtin (by rw [hs, hg]; exact G.T.g) (mg_none_of G.K G.T.g e) (by rw [hs, hb]; exact G.T.b) ((G.T.builtins x hn).trans hv) (k _ s.toks rfl)) hd

theorem w_bin {l r : Expr} {op : Operator} {pos : Pos} {Q : Value → Heap → Prop} (x : W prog w A (eval l env) h fun a h₁ => W prog w A (eval r env) h₁ fun b h₂ => W prog w A (binaryOp op a b) h₂ Q) : W prog w A (eval (.BinOp l op r pos) env) h Q :=
  W.mk fun s Qs hs k => wpAny_BinOp (x.run s _ hs fun _ _ _ y => y.run _ _ rfl fun _ _ _ z => z.run _ _ rfl fun _ _ _ q => k _ _ _ q)
theorem ev_bin {l r : Expr} {op : Operator} {pos : Pos} {P₁ P₂ P : Value → Prop} (x : Ev prog w A env l h P₁) (y : Ev prog w A env r h P₂)
    (z : ∀ a b, P₁ a → P₂ b → W prog w A (binaryOp op a b) h fun v h' => h' = h ∧ P v) : Ev prog w A env (.BinOp l op r pos) h P :=
  w_bin (W.mono x fun a h₁ q => by obtain ⟨rfl, q⟩ := q; exact W.mono y fun b h₂ q' => by obtain ⟨rfl, q'⟩ := q'; exact z a b q q')
theorem ev_add {l r : Expr} {pos : Pos} {a b : Int} (x : Ev prog w A env l h (IsI a)) (y : Ev prog w A env r h (IsI b)) : Ev prog w A env (.BinOp l .Add r pos) h (IsI (a + b)) :=
  ev_bin x y fun _ _ ⟨_, e⟩ ⟨_, e'⟩ => by subst e e'; exact W.still fun s _ _ k => add_int (k _ _ ⟨_, rfl⟩)
theorem ev_sub {l r : Expr} {pos : Pos} {a b : Int} (x : Ev prog w A env l h (IsI a)) (y : Ev prog w A env r h (IsI b)) : Ev prog w A env (.BinOp l .Sub r pos) h (IsI (a - b)) :=
  ev_bin x y fun _ _ ⟨_, e⟩ ⟨_, e'⟩ => by subst e e'; exact W.still fun s _ _ k => sub_int (k _ _ ⟨_, rfl⟩)
theorem ev_mul {l r : Expr} {pos : Pos} {a b : Int} (x : Ev prog w A env l h (IsI a)) (y : Ev prog w A env r h (IsI b)) (hm : IntMulOk a b) : Ev prog w A env (.BinOp l .Mult r pos) h (IsI (a * b)) :=
  ev_bin x y fun _ _ ⟨_, e⟩ ⟨_, e'⟩ => by subst e e'; exact W.still fun s _ _ k => mul_int (k _ _ ⟨_, rfl⟩) hm
theorem ev_mod {l r : Expr} {pos : Pos} {a b : Int} (x : Ev prog w A env l h (IsI a)) (y : Ev prog w A env r h (IsI b)) (hb : b ≠ 0) : Ev prog w A env (.BinOp l .Mod r pos) h (IsI (a.fmod b)) :=
  ev_bin x y fun _ _ ⟨_, e⟩ ⟨_, e'⟩ => by subst e e'; exact W.still fun s _ _ k => mod_int' hb (k _ _ ⟨_, rfl⟩)
theorem ev_div {l r : Expr} {pos : Pos} {a b : Int} (x : Ev prog w A env l h (IsI a)) (y : Ev prog w A env r h (IsI b)) (hb : b ≠ 0) (hp : Builtin.divisionGoesByPylong a b = false) : Ev prog w A env (.BinOp l .FloorDiv r pos) h (IsI (a.fdiv b)) :=
  ev_bin x y fun _ _ ⟨_, e⟩ ⟨_, e'⟩ => by subst e e'; exact W.still fun s _ _ k => floordiv_int hb (k _ _ ⟨_, rfl⟩) (.inl hp)

theorem ev_cmp {l r : Expr} {op : CmpOp} {pos : Pos} {P₁ P₂ P : Value → Prop} (x : Ev prog w A env l h P₁) (y : Ev prog w A env r h P₂)
    (z : ∀ a b, P₁ a → P₂ b → W prog w A (compareOp op a b) h fun v h' => h' = h ∧ P v) (hb : behindInMarks op r = false := by rfl) : Ev prog w A env (.Compare l [op] [r] pos) h P :=
  W.mk fun s Qs hs k => wpAny_Compare1 (x.run s _ hs fun a _ _ q => y.run _ _ q.1 fun b _ _ q' => (z a b q.2 q'.2).run _ _ q'.1 fun v h' tk q'' => k v h' tk q'') hb
theorem ts_cmp {l r : Expr} {op : CmpOp} {pos : Pos} {P₁ P₂ : Value → Prop} {P : Bool → Prop} (x : Ev prog w A env l h P₁) (y : Ev prog w A env r h P₂)
    (z : ∀ a b, P₁ a → P₂ b → W prog w A (compareOp op a b) h fun v h' => h' = h ∧ ∃ c, v = .bool c ∧ P c) (hb : behindInMarks op r = false := by rfl) : Ts prog w A env (.Compare l [op] [r] pos) h P :=
  W.mk fun s Qs hs k => wpAny_isTrue_Compare1 (x.run s _ hs fun a _ _ q => y.run _ _ q.1 fun b _ _ q' => (z a b q.2 q'.2).run _ _ q'.1 fun v h' tk q'' => by
    obtain ⟨rfl, c, rfl, q''⟩ := q''
    exact wpAny_truthy_bool (k _ _ _ ⟨rfl, q''⟩)) hb
end
end Mine

end

section
open PySem PySem.W PyProof.Rows PySem.Calls
set_option Elab.async false
set_option maxRecDepth 100000
set_option maxHeartbeats 1000000
set_option linter.unusedVariables false
namespace Mine
section
variable {prog : Program} {w : World} {A : Around} {env : Env} {h g : Heap} {α β : Type} {p : Program} {loose : List Str} {mean : ExcName → Option Value} {mg mb : Str → Option Value}

def Sq (prog : Program) (w : World) (A : Around) (env : Env) (rest : List Stmt) (Q : Flow → Heap → Prop) (f : Flow) (h' : Heap) : Prop := match f with
  | .next => W prog w A (execs rest env) h' Q
  | f => Q f h'
theorem w_cons {st : Stmt} {rest : List Stmt} {Q : Flow → Heap → Prop} (x : W prog w A (exec st env) h (Sq prog w A env rest Q)) : W prog w A (execs (st :: rest) env) h Q :=
  W.mk fun s Qs hs k => wpAny_execs_cons (x.run s _ hs fun f h' tk q => by
    cases f with
    | next => exact W.run q _ _ rfl fun b h'' tk' q' => k b h'' tk' q'
    | ret v => exact k _ _ _ q
    | brk => exact k _ _ _ q
    | cont => exact k _ _ _ q)
theorem w_nil {Q : Flow → Heap → Prop} (q : Q .next h) : W prog w A (execs [] env) h Q := W.mk fun s Qs hs k => wpAny_execs_nil (by subst hs; exact k _ _ s.toks q)
theorem w_ret {e : Expr} {pos : Pos} {Q : Flow → Heap → Prop} (x : W prog w A (eval e env) h fun v h' => Q (.ret v) h') : W prog w A (exec (.Return (some e) pos) env) h Q :=
  W.mk fun s Qs hs k => wpAny_Return_some (x.run s _ hs fun v h' tk q => k _ _ _ q)
theorem w_if {t : Expr} {b o : List Stmt} {pos : Pos} {P : Bool → Prop} {Q : Flow → Heap → Prop} (x : Ts prog w A env t h P) (y : P true → W prog w A (execs b env) h Q) (z : P false → W prog w A (execs o env) h Q) : W prog w A (exec (.If t b o pos) env) h Q :=
  W.mk fun s Qs hs k => wpAny_If (x.run s _ hs fun c h' tk q => by
    obtain ⟨rfl, q⟩ := q
    cases c with
    | true => simp only [if_true]; exact (y q).run _ _ rfl fun b h'' tk' q' => k b h'' tk' q'
    | false => simp only [Bool.false_eq_true, if_false]; exact (z q).run _ _ rfl fun b h'' tk' q' => k b h'' tk' q')
theorem w_if_f {t : Expr} {b : List Stmt} {pos : Pos} {Q : Flow → Heap → Prop} (x : Ts prog w A env t h (· = false)) (y : Q .next h) : W prog w A (exec (.If t b [] pos) env) h Q := w_if x (fun e => nomatch e) (fun _ => w_nil y)
theorem w_asg {e : Expr} {x : Str} {p' pos : Pos} {Q : Flow → Heap → Prop} (y : W prog w A (eval e env) h fun v h' => W prog w A (storeName env x v) h' fun _ h'' => Q .next h'')
    (hs : swapsWith e (some (.Name x p')) pos.line env = pure false := by rfl) : W prog w A (exec (.Assign [.Name x p'] e pos) env) h Q :=
  W.mk fun s Qs hh k => wpAny_Assign_Name (y.run s _ hh fun v h' tk q => q.run _ _ rfl fun _ h'' tk' q' => k _ h'' tk' q') hs
theorem w_st {x : Str} {v : Value} {L : Addr} {m : Str → Option Value} {Q : Unit → Heap → Prop} (F : Fr g L h m)
    (k : ∀ h', Fr g L h' (fun y => if y = x then some v else m y) → Heap.SameBut L h h' → Q () h') (hL : env.locals = L := by rfl) (hk : env.scope.kind = .function := by rfl) (hl : env.kindOf x = some .local := by rfl) : W prog w A (storeName env x v) h Q :=
  W.mk fun s Qs hs kk => wpAny_storeName_local hl (by rw [hs, hL]; exact F.ns) (fun h' hn hsb => kk _ _ _ (k h' (F.set (by rw [← hL]; exact hn) (by rw [← hL, ← hs]; exact hsb)) (by rw [← hL, ← hs]; exact hsb)))
    (by rw [hk]; rfl)
theorem w_asgsub {e o i : Expr} {p' pos : Pos} {Q : Flow → Heap → Prop} (y : W prog w A (eval e env) h fun v h₁ => W prog w A (eval o env) h₁ fun ov h₂ => W prog w A (eval i env) h₂ fun iv h₃ => W prog w A (setItem ov iv v) h₃ fun _ h₄ => Q .next h₄)
    (hs : swapsWith e (some (.Subscript o i p')) pos.line env = pure false := by rfl) : W prog w A (exec (.Assign [.Subscript o i p'] e pos) env) h Q :=
  W.mk fun s Qs hh k => wpAny_Assign_Subscript (y.run s _ hh fun _ _ _ q => q.run _ _ rfl fun _ _ _ q => q.run _ _ rfl fun _ _ _ q => q.run _ _ rfl fun _ _ _ q => k _ _ _ q) hs
theorem w_asgtup {elts : List Expr} {kk : Nat} {e : Expr} {tpos pos : Pos} {Q : Flow → Heap → Prop} (y : W prog w A (eval e env) h fun v h₁ => W prog w A (assign (.Tuple elts kk tpos) env v) h₁ fun _ h₂ => Q .next h₂)
    (hs : swapsWithSole [.Tuple elts kk tpos] e pos.line env = pure false := by rfl) (hw : swappedStores [.Tuple elts kk tpos] e env = pure none := by rfl) : W prog w A (exec (.Assign [.Tuple elts kk tpos] e pos) env) h Q :=
  W.mk fun s Qs hh k => Assign_Tuple (y.run s _ hh fun _ _ _ q => q.run _ _ rfl fun _ _ _ q => k _ _ _ q) hs hw

theorem ts_ev {e : Expr} {P : Bool → Prop} {P' : Value → Prop} (x : Ev prog w A env e h P') (y : ∀ v, P' v → W prog w A (truthy v) h fun b h' => h' = h ∧ P b)
    (he : ∀ whole, isTrue e env whole = (do let v ← whole; standAt e.pos; holding [v] (truthy v)) := by intro _; rfl) : Ts prog w A env e h P :=
  W.mk fun s Qs hs k => wpAny_isTrue_value (x.run s _ hs fun v h' tk q => (y v q.2).run _ _ q.1 fun b h'' tk' q' => k b h'' tk' q') (he _)
theorem ts_or {l r : Expr} {pos : Pos} {P : Bool → Prop} {P₁ : Bool → Prop} (x : Ts prog w A env l h P₁) (t : P₁ true → P true) (y : P₁ false → Ts prog w A env r h P) : Ts prog w A env (.BoolOp .Or [l, r] pos) h P :=
  W.mk fun s Qs hs k => wpAny_isTrue_BoolOp (wpAny_allTrue_Or_cons (x.run s _ hs fun b h' tk q => by
    obtain ⟨rfl, q⟩ := q
    cases b with
    | true => exact k _ _ _ ⟨rfl, t q⟩
    | false => exact wpAny_allTrue_Or_cons ((y q).run _ _ rfl fun b h'' tk' q' => by
        cases b with
        | true => exact k _ _ _ q'
        | false => exact wpAny_allTrue_Or_nil (k _ _ _ q'))))
theorem ts_and {l r : Expr} {pos : Pos} {P : Bool → Prop} {P₁ : Bool → Prop} (x : Ts prog w A env l h P₁) (t : P₁ false → P false) (y : P₁ true → Ts prog w A env r h P) : Ts prog w A env (.BoolOp .And [l, r] pos) h P :=
  W.mk fun s Qs hs k => wpAny_isTrue_BoolOp (wpAny_allTrue_And_cons (x.run s _ hs fun b h' tk q => by
    obtain ⟨rfl, q⟩ := q
    cases b with
    | false => exact k _ _ _ ⟨rfl, t q⟩
    | true => exact wpAny_allTrue_And_cons ((y q).run _ _ rfl fun b h'' tk' q' => by
        cases b with
        | false => exact k _ _ _ q'
        | true => exact wpAny_allTrue_And_nil (k _ _ _ q'))))

theorem w_arg0 {pos : Pos} {Q : List Value → Heap → Prop} (q : Q [] h) : W prog w A (spliced (backTo pos (starEach [] env))) h Q := W.mk fun s Qs hs k => spliced_none (by subst hs; exact k _ _ s.toks q)
theorem w_arg {e : Expr} {rest : List Expr} {pos : Pos} {Q : List Value → Heap → Prop} (x : W prog w A (eval e env) h fun v h' => W prog w A (spliced (backTo pos (starEach rest env))) h' fun vs h'' => Q (v :: vs) h'')
    (he : starEach (e :: rest) env = (false, eval e env) :: starEach rest env := by rfl) : W prog w A (spliced (backTo pos (starEach (e :: rest) env))) h Q :=
  W.mk fun s Qs hs k => spliced_more (x.run s _ hs fun _ _ _ q => q.run _ _ rfl fun _ _ _ q' => k _ _ _ q') he
theorem w_ev {t : Sem α} {P : α → Prop} {Q : α → Heap → Prop} (x : W prog w A t h (fun v h' => h' = h ∧ P v)) (y : ∀ v, P v → Q v h) : W prog w A t h Q := W.mono x fun v h' q => by obtain ⟨rfl, q⟩ := q; exact y v q
theorem w_callee {func : Expr} {args : List Expr} {pos : Pos} {Q : Value → Heap → Prop} {f : Value} (x : Ev prog w A env func h (· = f)) (y : W prog w A (callWith pos f [] (backTo pos (starEach args env)) []) h Q)
    (he : eval (.Call func args [] pos) env = (do callWith pos (← eval func env) [] (backTo pos (starEach args env)) (backToKw pos (keywordEach [] env))) := by rfl) : W prog w A (eval (.Call func args [] pos) env) h Q :=
  W.mk fun s Qs hs k => Call_ (x.run s _ hs fun v h' tk q => by obtain ⟨rfl, rfl⟩ := q; exact y.run _ _ rfl fun _ _ _ q' => k _ _ _ q') he
theorem w_cw {f : Value} {e : Expr} {rest : List Expr} {pos : Pos} {Q : Value → Heap → Prop} (G : Gl w p loose mean mg mb g) (hk : keepIn (KK w.params) f = true)
    (x : W prog w A (spliced (backTo pos (starEach (e :: rest) env))) h fun vs h' => Ext g h' ∧ W prog w A (call f vs) h' Q)
    (he : starEach (e :: rest) env = (false, eval e env) :: starEach rest env := by rfl) (hplain : (backTo pos (starEach rest env)).any (·.1) = false := by rfl) : W prog w A (callWith pos f [] (backTo pos (starEach (e :: rest) env)) []) h Q :=
  W.mk fun s Qs hs k => callWith_K G.K hk (x.run s _ hs fun vs h' tk q => ⟨G.K.keeps q.1, q.2.run _ _ rfl fun _ _ _ q' => k _ _ _ q'⟩) he hplain
theorem w_cw0 {f : Value} {pos : Pos} {Q : Value → Heap → Prop} (G : Gl w p loose mean mg mb h) (hk : keepIn (KK w.params) f = true) (x : W prog w A (call f []) h Q) : W prog w A (callWith pos f [] (backTo pos (starEach [] env)) []) h Q :=
  W.mk fun s Qs hs k => callWith_K0 (by rw [hs]; exact G.K) hk (x.run s _ hs fun _ _ _ q' => k _ _ _ q')

def flv : Flow → Value | .ret v => v | _ => .none
end

section
variable {prog : Program} {w : World} {p : Program} {loose : List Str} {mean : ExcName → Option Value} {mg mb : Str → Option Value} {A : Around} {g h : Heap} {news : List (Addr × Obj)}
  {Q : Value → Heap → Prop} {name qual : Str} {params : Arguments} {body : List Stmt} {scope : Scope} {dV kV doc pm cdv ct oc : Value} {an od : Option Addr} {osl : Array (Option Value)} {f : Addr} {args : Args} {binds : List (Str × Value)}

theorem wc_enter (H : At w p loose mean mg mb A g) (hsub : Ext g h) (hsz : g.objs.size ≤ h.objs.size) (N₀ : ∀ q ∈ news, h.get? q.1 = some q.2 ∧ g.get? q.1 = none)
    (ho : (KK w.params).lookup f = some ⟨oc, od, .func (fnOf name qual params body scope dV kV doc pm an cdv ct), osl⟩) (hcd : codeIn (KK w.params) cdv qual = true) (hroom : A.depth < recursionLimit)
    (hbind : ∀ s : Shared, s.heap = h → BindsTo s (fnOf name qual params body scope dV kV doc pm an cdv ct) args binds) (hloc : ∀ y ∈ binds, scope.names.lookup y.1 = some .local)
    (x : ∀ L' h₁ base outer, A.frames = some outer → Fr g L' h₁ (fun y => binds.reverse.lookup y) → News g L' h₁ news → Below A base outer g → Ext h h₁ → L' = h.objs.size →
      W prog w (A.deeper (envOf qual scope L' f cdv)) (execs body (envOf qual scope L' f cdv)) h₁ fun fl h' => Q (flv fl) h')
    (hco : scope.isCoroutine = false := by rfl) (hgen : scope.isGenerator = false := by rfl) (hk : scope.kind = .function := by rfl)
    (hcell : ∀ x ∈ scope.names, x.2 ≠ .cell := by decide) : WC prog w A (.call (.ref f) args) h Q := by
  intro s R hs k
  subst hs
  refine enterL H hsub hsz N₀ ho hcd hroom (hbind s rfl) hloc (fun L' h₁ base outer hA F N B e₁ hL => ?_) hco hgen hk hcell
  refine wpAny_mono ((x L' h₁ base outer hA F N B e₁ hL).run _ (fun fl s' => R (.ok (.ret (match fl with | .ret v => v | _ => .none))) s') rfl (fun fl h' tk q => ?_)) (fun _ _ y => y) (fun _ _ y => y.elim)
  cases fl <;> exact k _ _ _ q
theorem wc_enterC (H : At w p loose mean mg mb A g) (hsub : Ext g h) (hsz : g.objs.size ≤ h.objs.size) (N₀ : ∀ q ∈ news, h.get? q.1 = some q.2 ∧ g.get? q.1 = none)
    (ho : (KK w.params).lookup f = some ⟨oc, od, .func (fnOf name qual params body scope dV kV doc pm an cdv ct), osl⟩) (hcd : codeIn (KK w.params) cdv qual = true) (hroom : A.depth < recursionLimit)
    (hbind : ∀ s : Shared, s.heap = h → BindsTo s (fnOf name qual params body scope dV kV doc pm an cdv ct) args binds)
    (hkind : (binds.all fun y => scope.names.lookup y.1 == some .local || scope.names.lookup y.1 == some .cell) = true)
    (hnd : ((cellsFrom 0 scope.names []).map (·.1)).Nodup)
    (x : ∀ L' h₁ cells base outer, A.frames = some outer → Fr g L' h₁ (bindL (envOfC qual scope L' f cdv).kindOf binds fun _ => none) → News g L' h₁ (cells ++ news) →
      CellsAre (bindC (envOfC qual scope L' f cdv).kindOf binds fun _ => none) (cellsFrom (L' + 1) scope.names []) cells → Below A base outer g → Ext h h₁ → (∀ q ∈ news, q.1 < L') → L' = h.objs.size →
      W prog w (A.deeper (envOfC qual scope L' f cdv)) (execs body (envOfC qual scope L' f cdv)) h₁ fun fl h' => Q (flv fl) h')
    (hco : scope.isCoroutine = false := by rfl) (hgen : scope.isGenerator = false := by rfl) (hk : scope.kind = .function := by rfl) : WC prog w A (.call (.ref f) args) h Q := by
  intro s R hs k
  subst hs
  refine enterC H hsub hsz N₀ ho hcd hroom (hbind s rfl) hkind hnd (fun L' h₁ tk cells base outer hA F N Y B e₁ l hL => ?_) hco hgen hk
  refine wpAny_mono ((x L' h₁ cells base outer hA F N Y B e₁ l hL).run _ (fun fl s' => R (.ok (.ret (match fl with | .ret v => v | _ => .none))) s') rfl (fun fl h' tk q => ?_)) (fun _ _ y => y) (fun _ _ y => y.elim)
  cases fl <;> exact k _ _ _ q
end
end Mine

end

section
open PySem PySem.W PyProof.Rows PySem.Calls
set_option Elab.async false
set_option maxRecDepth 100000
set_option maxHeartbeats 1000000
set_option linter.unusedVariables false
namespace Mine
section
variable {prog : Program} {w : World} {A : Around} {env : Env} {h : Heap}

def CompW (prog : Program) (w : World) (A : Around) (env : Env) (scope : Scope) (cl : List (Str × Addr)) (x : Str) (elt : Expr) (Fin : Value → Addr → Heap → Prop) (it : Value) (h₂ : Heap) : Prop :=
  ∃ (I : Addr) (fp wr : List Addr) (n : Nat) (P : Nat → Value → Prop) (St : Nat → Heap → Prop) (Mx : Addr → Prop) (J : Nat → List Value → Heap → Prop),
    it = .ref I ∧ Walks prog w A I fp wr n P St ∧ n ≤ sizeLine ∧ St 0 h₂ ∧ (∀ b ∈ fp, b < h₂.objs.size ∧ ¬ Mx b) ∧ (∀ b, Mx b → b < h₂.objs.size) ∧
    (∀ i ys h h', J i ys h → (∀ y o, y ≠ h₂.objs.size → y ≠ h₂.objs.size + 1 → y ∉ wr → h.get? y = some o → h'.get? y = some o) → J i ys h') ∧
    (∀ h', (∀ y o, h₂.get? y = some o → h'.get? y = some o) → J 0 [] h') ∧
    (∀ i v ys h₃ m, i < n → P i v → ys.length = i → J i ys h₃ → h₃.Ns (h₂.objs.size + 1) m → m x = some v → (∀ y o, ¬ Mx y → y ∉ wr → h₂.get? y = some o → h₃.get? y = some o) →
      h₂.objs.size + 2 ≤ h₃.objs.size →
      W prog w A (eval elt (compEnvC scope cl (h₂.objs.size + 1) env)) h₃ (fun y h₄ => J (i + 1) (ys ++ [y]) h₄ ∧ ∀ z o, ¬ Mx z → h₃.get? z = some o → h₄.get? z = some o)) ∧
    (∀ h' ys, ys.length = n → J n ys h' → h'.PlainList h₂.objs.size ys.toArray → (∀ y o, ¬ Mx y → y ∉ wr → h₂.get? y = some o → h'.get? y = some o) → Fin (.ref h₂.objs.size) (h₂.objs.size + 1) h')

theorem w_comp {elt iter : Expr} {x : Str} {px : Pos} {scope : Scope} {cl : List (Str × Addr)} {pos : Pos} {Q : Value → Heap → Prop}
    (hclos : closureFor scope env = pure cl) (hcell : ∀ y ∈ scope.names, y.2 ≠ .cell) (hkind : scope.kind = .function)
    (hnames : ∀ y ∈ scope.names, y.2 = .local → scope.names.lookup y.1 = some .local) (hx : scope.names.lookup x = some .local)
    (k : W prog w A (eval iter env) h fun xv h₁ => W prog w A (pyIter xv) h₁ fun it h₂ => CompW prog w A env scope cl x elt (fun v _ h' => Q v h') it h₂)
    (hs : ∀ x, foldedSetIterable iter env x = pure x := by intro _; rfl) :
    W prog w A (eval (.ListComp elt [⟨.Name x px, iter, [], 0⟩] scope pos) env) h Q := W.mk fun s Qs hh kk => by
  refine ListComp_J hclos hcell hkind hnames hx (k.run s _ hh fun xv h₁ tk q => q.run _ _ rfl fun it h₂ tk' q' => ?_) hs
  obtain ⟨I, fp, wr, n, P, St, Mx, J, e, Wk, hsz, hst, hfp, hM, hJ, hJ0, step, fin⟩ := q'
  refine ⟨I, fp, wr, n, P, St, Mx, J, e, Wk, hsz, hst, hfp, hM, hJ, hJ0, ?_, ?_⟩
  · intro i v ys s₃ m hi hP hl hj hn hm hk hz hs
    obtain ⟨h₃, tk₃, rfl⟩ := hs
    exact (step i v ys h₃ m hi hP hl hj hn hm hk hz).run _ _ rfl fun y h₄ tk₄ q => ⟨q.1, ⟨_, _, rfl⟩, q.2⟩
  · intro h' tk'' ys m' hl hn hj hp hk
    refine ⟨m', hn, fun h'' hs'' => kk _ _ _ (fin h'' ys hl (hJ _ _ _ _ hj fun y o _ b _ e => hs''.extBut y o b e) (hp.at fun o e => hs''.extBut _ o (Nat.ne_of_lt (Nat.lt_succ_self _)) e) fun y o hM' hw e => hs''.extBut y o ?_ (hk y o hM' hw e))⟩
    exact Nat.ne_of_lt (Nat.lt_succ_of_lt (Heap.lt_size e))
theorem w_asgcomp {elt iter : Expr} {x y : Str} {px py : Pos} {scope : Scope} {cl : List (Str × Addr)} {pos spos : Pos} {Q : Flow → Heap → Prop}
    (hsw : swapsWith (.ListComp elt [⟨.Name x px, iter, [], 0⟩] scope pos) (some (.Name y py)) spos.line env = pure true)
    (hclos : closureFor scope env = pure cl) (hcell : ∀ y ∈ scope.names, y.2 ≠ .cell) (hkind : scope.kind = .function)
    (hnames : ∀ y ∈ scope.names, y.2 = .local → scope.names.lookup y.1 = some .local) (hx : scope.names.lookup x = some .local)
    (hy : env.kindOf y = some .local) (hp : (env.scope.kind == .class || (env.scope.kind == .module && env.locals != env.globals)) = false)
    (k : W prog w A (eval iter env) h fun xv h₁ => W prog w A (pyIter xv) h₁ fun it h₂ => CompW prog w A env scope cl x elt
      (fun v C h' => env.locals ≠ C ∧ (∃ m, h'.Ns env.locals m ∧ ∀ h'', h''.Ns env.locals (fun z => if z = y then some v else m z) → (∀ z o, z ≠ env.locals → z ≠ C → h'.get? z = some o → h''.get? z = some o) → Q .next h'')) it h₂)
    (hs : ∀ x, foldedSetIterable iter env x = pure x := by intro _; rfl) :
    W prog w A (exec (.Assign [.Name y py] (.ListComp elt [⟨.Name x px, iter, [], 0⟩] scope pos) spos) env) h Q := W.mk fun s Qs hh kk => by
  refine AsgComp_J hsw hclos hcell hkind hnames hx (k.run s _ hh fun xv h₁ tk q => q.run _ _ rfl fun it h₂ tk' q' => ?_) hs
  obtain ⟨I, fp, wr, n, P, St, Mx, J, e, Wk, hsz, hst, hfp, hM, hJ, hJ0, step, fin⟩ := q'
  refine ⟨I, fp, wr, n, P, St, Mx, J, e, Wk, hsz, hst, hfp, hM, hJ, hJ0, ?_, ?_⟩
  · intro i v ys s₃ m hi hP hl hj hn hm hk hz hs
    obtain ⟨h₃, tk₃, rfl⟩ := hs
    exact (step i v ys h₃ m hi hP hl hj hn hm hk hz).run _ _ rfl fun y h₄ tk₄ q => ⟨q.1, ⟨_, _, rfl⟩, q.2⟩
  · intro h' tk'' ys m' hl hn hj hpl hk
    obtain ⟨hne, m, hL, fin⟩ := fin h' ys hl hj hpl hk
    show wpAny _ A (assign (.Name y py) env (.ref h₂.objs.size)) _ _ _
    refine wpAny_assign_Name (wpAny_storeName_local hy hL (fun h₃ hn₃ hs₃ => ?_) hp)
    refine ⟨m', hn.sameBut hs₃ (Ne.symm hne), fun h₄ hs₄ => kk _ _ _ (fin h₄ (hn₃.sameBut hs₄ hne) fun z o a b e => hs₄.extBut z o b (hs₃.extBut z o a e))⟩

def TurnW (Mx : Addr → Prop) (J : Heap → Prop) (h₁ : Heap) (Q : Flow → Heap → Prop) (f : Flow) (h₄ : Heap) : Prop :=
  match f with
  | .next | .cont => J h₄ ∧ ∀ z o, ¬ Mx z → h₁.get? z = some o → h₄.get? z = some o
  | .brk => Q .next h₄
  | .ret v => Q (.ret v) h₄

def ForW (prog : Program) (w : World) (A : Around) (env : Env) (target : Expr) (body : List Stmt) (Q : Flow → Heap → Prop) (it : Value) (h₂ : Heap) : Prop :=
  ∃ (I : Addr) (fp wr : List Addr) (n : Nat) (P Md : Nat → Value → Heap → Prop) (St : Nat → Heap → Prop) (Mx : Addr → Prop) (J : Nat → Heap → Prop),
    it = .ref I ∧ KTurns prog w A target I fp wr n P Md St ∧ St 0 h₂ ∧ (∀ b ∈ fp, ¬ Mx b) ∧
    (∀ i h h', J i h → (∀ y o, y ∉ wr → h.get? y = some o → h'.get? y = some o) → J i h') ∧ J 0 h₂ ∧
    (∀ i v h₁, i < n → P i v h₁ → J i h₁ → (∀ y o, ¬ Mx y → y ∉ wr → h₂.get? y = some o → h₁.get? y = some o) →
      W prog w A (assign target env v) h₁ fun _ h₃ => W prog w A (execs body env) h₃ (TurnW Mx (J (i + 1)) h₁ Q)) ∧
    (∀ h', J n h' → (∀ y o, ¬ Mx y → y ∉ wr → h₂.get? y = some o → h'.get? y = some o) → Q .next h')

theorem w_for {target iter : Expr} {body : List Stmt} {pos : Pos} {Q : Flow → Heap → Prop}
    (k : W prog w A (eval iter env) h fun xv h₁ => W prog w A (pyIter xv) h₁ fun it h₂ => ForW prog w A env target body Q it h₂)
    (hs : ∀ x, foldedSetIterable iter env x = pure x := by intro _; rfl) :
    W prog w A (exec (.For target iter body [] pos) env) h Q := by
  refine W.mk fun s Qs hh kk => ?_
  refine For_J (k.run s _ hh fun xv h₁ tk q => q.run _ _ rfl fun it h₂ tk' q' => ?_) hs
  obtain ⟨I, fp, wr, n, P, Md, St, Mx, J, e, Wk, hst, hfM, hJ, h0, step, fin⟩ := q'
  refine ⟨I, fp, wr, n, P, Md, St, Mx, J, e, Wk, hst, hfM, hJ, h0, ?_, ?_⟩
  · intro i v h₁' tk₁ hi hP hj hk
    exact (step i v h₁' hi hP hj hk).run _ _ rfl fun _ h₃ tk₃ q => q.run _ _ rfl fun f h₄ tk₄ q' => by
      cases f with
      | next => exact ⟨q'.1, ⟨_, _, rfl⟩, q'.2⟩
      | cont => exact ⟨q'.1, ⟨_, _, rfl⟩, q'.2⟩
      | brk => exact kk _ _ _ q'
      | ret v => exact kk _ _ _ q'
  · intro h' tk'' hj hk
    exact kk _ _ _ (fin h' hj hk)
end
end Mine

end

section
open PySem PySem.W PyProof.Rows PySem.Calls
set_option Elab.async false
set_option maxRecDepth 100000
set_option maxHeartbeats 1000000
set_option linter.unusedVariables false
namespace Mine
noncomputable def words : List Str := [st "x", st "y", st "", st "u", st "v", st "o", st "z"]
def AtomOk : PyData → Prop
  | .none => True
  | .bool _ => True
  | .int i => i = 0 ∨ i = 1 ∨ i = 2
  | .str s => s ∈ words
  | _ => False
noncomputable def kinds : List (Str × Str) := [(st "array", st "l"), (st "call", st "mslmb"), (st "hash", st "q"), (st "if", st "nnm"), (st "int", st "a"), (st "case", st "mwm"), (st "begin", st "nrmm"), (st "block", st "pn"), (st "def", st "mspn"), (st "p_hash", st "mhs"), (st "p_array", st "mlsl"), (st "seq", st "l"), (st "and", st "nn"), (st "or", st "nn"), (st "opasgn", st "nsn"), (st "masgn", st "ln"), (st "while", st "nnb"), (st "range", st "mmb"), (st "lambda", st "pn"), (st "super", st "lm"), (st "yield", st "l"), (st "class", st "smn"), (st "dstr", st "l"), (st "assign", st "nn"), (st "not", st "n")]
noncomputable def leaves : List (Str × Str) := [(st "nil", st ""), (st "int", st "a"), (st "sym", st "s"), (st "lvar", st "s"), (st "self", st "")]
def KindAr (k : Str) (n : Nat) : Prop := ∃ sp, (k, sp) ∈ kinds ++ leaves ∧ sp.cps.size = n
namespace Plan
def PShape (ps : List Plan) : Prop := ∃ a b c d e, ps = [.list a, .list b, .atom c, .list d, .atom e] ∧ (∀ q ∈ a, q.isAtom = true ∨ (q.isParams = true ∧ q.nodes = 0)) ∧ (∀ q ∈ d, q.isAtom = true ∨ (q.isParams = true ∧ q.nodes = 0)) ∧ ∀ q ∈ b, ∃ u nd, q = .list [.atom u, nd] ∧ nd.isNode = true
def WShape (ps : List Plan) : Prop := ∃ a b c d e, ps = [.list a, .list b, c, .list d, e]
mutual
def Ok : Plan → Prop
  | .atom d => AtomOk d
  | .node k ps => KindAr k ps.length ∧ OkAll ps
  | .list ps => OkAll ps
  | .params ps => OkAll ps ∧ PShape ps
def OkAll : List Plan → Prop
  | [] => True
  | p :: ps => Ok p ∧ OkAll ps
end
mutual
def Wf : Plan → Prop
  | .atom d => AtomOk d
  | .node k ps => KindAr k ps.length ∧ WfAll ps
  | .list ps => WfAll ps
  | .params ps => WfAll ps ∧ WShape ps
def WfAll : List Plan → Prop
  | [] => True
  | p :: ps => Wf p ∧ WfAll ps
end
theorem PShape.weak {ps : List Plan} (h : PShape ps) : WShape ps := by
  obtain ⟨a, b, c, d, e, q, _⟩ := h
  exact ⟨a, b, _, d, _, q⟩
mutual
theorem Ok.wf : ∀ {p : Plan}, Ok p → Wf p
  | .atom _, h => by simpa only [Ok, Wf] using h
  | .node _ ps, h => by simp only [Ok, Wf] at h ⊢; exact ⟨h.1, OkAll.wf (ps := ps) h.2⟩
  | .list ps, h => by simp only [Ok, Wf] at h ⊢; exact OkAll.wf (ps := ps) h
  | .params ps, h => by simp only [Ok, Wf] at h ⊢; exact ⟨OkAll.wf (ps := ps) h.1, h.2.weak⟩
theorem OkAll.wf : ∀ {ps : List Plan}, OkAll ps → WfAll ps
  | [], _ => by simp only [WfAll]
  | p :: ps, h => by simp only [OkAll, WfAll] at h ⊢; exact ⟨Ok.wf (p := p) h.1, OkAll.wf (ps := ps) h.2⟩
end
theorem okAll_of {ps : List Plan} (h : ∀ p ∈ ps, Ok p) : OkAll ps := by
  induction ps with
  | nil => simp only [OkAll]
  | cons p ps ih => simp only [OkAll]; exact ⟨h p (.head _), ih fun q hq => h q (.tail _ hq)⟩
theorem OkAll.mem {ps : List Plan} (h : OkAll ps) : ∀ p ∈ ps, Ok p := by
  induction ps with
  | nil => intro p hp; cases hp
  | cons p ps ih =>
    simp only [OkAll] at h
    intro q hq
    cases hq with
    | head => exact h.1
    | tail _ hq => exact ih h.2 q hq
theorem spotsAll_le {ps : List Plan} {K : Nat} (h : ∀ p ∈ ps, spots p ≤ K) : spotsAll ps ≤ ps.length * K := by
  induction ps with
  | nil => simp [spotsAll]
  | cons p ps ih =>
    have := h p (.head _)
    have := ih fun q hq => h q (.tail _ hq)
    simp only [spotsAll, List.length_cons, Nat.succ_mul]
    omega
theorem depAll_le {ps : List Plan} {K : Nat} (h : ∀ p ∈ ps, dep p ≤ K) : depAll ps ≤ K := by
  induction ps with
  | nil => simp [depAll]
  | cons p ps ih =>
    have := h p (.head _)
    have := ih fun q hq => h q (.tail _ hq)
    simp only [depAll]
    omega
end Plan

noncomputable def Bd : Nat → Nat | 0 => 3 | d + 1 => 2 + 5 * (30 + 8 * Bd d)
noncomputable def Dp : Nat → Nat | 0 => 3 | d + 1 => 6 + Dp d
noncomputable def Rp : Nat → Nat | 0 => 3 | d + 1 => 6 + Rp d

noncomputable def Kb (y : Str) (B : Nat) : Nat :=
  if y = st "n" then B else if y = st "m" then 1 + B else if y = st "a" ∨ y = st "s" ∨ y = st "b" then 1 else if y = st "l" ∨ y = st "2" then 1 + 2 * B else if y = st "3" then 2 + 3 * B else if y = st "4" then 3 + 4 * B
  else if y = st "5" then 3 + B else if y = st "q" then 3 + 4 * B else if y = st "w" then 5 + 6 * B else if y = st "r" then 7 + 8 * B else if y = st "h" then 7 + 2 * B else 30 + B
noncomputable def Eb (y : Str) : Nat :=
  if y = st "n" ∨ y = st "m" ∨ y = st "a" ∨ y = st "s" ∨ y = st "b" then 0 else if y = st "l" ∨ y = st "2" ∨ y = st "5" then 1 else if y = st "3" ∨ y = st "4" ∨ y = st "q" ∨ y = st "h" then 2 else if y = st "w" ∨ y = st "r" then 3 else 3
end Mine

end

section
open PySem PySem.W PyProof.Rows PySem.Calls
set_option Elab.async false
set_option maxRecDepth 100000
set_option maxHeartbeats 1000000
set_option linter.unusedVariables false
namespace Mine
theorem warm : LL = LL ∧ KK = KK := by k_fill; exact ⟨rfl, rfl⟩

def BoxAt (h : Heap) (b : Addr) (C : Int) : Prop := ∃ G D t1 t2 t3, 0 ≤ G ∧ G < 2 ^ 4000 ∧ h.IsList b #[.int G t1, .int C t2, .int D t3]

section
variable {prog : Program} {w : World} {p : Program} {loose : List Str} {mean : ExcName → Option Value} {mg mb : Str → Option Value} {A : Around} {env : Env} {g h h' : Heap} {L b : Addr} {m : Str → Option Value}

theorem hide_ext (h : Heap) (b : Addr) : Ext (h.hide b) h := fun _ _ e => Heap.of_hide e
theorem hide_sz (h : Heap) (b : Addr) : (h.hide b).objs.size ≤ h.objs.size := Nat.le_of_eq (Heap.hide_size h b)
theorem fr_but (F : Fr g L h m) (hb : g.get? b = none) (hL : b ≠ L) (hs : Heap.SameBut b h h') : Fr g L h' m :=
  ⟨F.ns.sameBut hs (Ne.symm hL), fun x o e => hs.extBut x o (fun q => by rw [q, hb] at e; cases e) (F.keep x o e), F.above⟩
theorem list_same {a : Addr} {its : Array Value} (hl : h.IsList a its) (hs : Heap.SameBut b h h') (hne : a ≠ b) : h'.IsList a its := hl.extBut hs.extBut hne
theorem fdiv_lo {a n : Int} (ha : 0 ≤ a) (hn : 0 < n) : 0 ≤ a.fdiv n := by rw [Int.fdiv_eq_ediv_of_nonneg _ (Int.le_of_lt hn)]; exact Int.ediv_nonneg ha (Int.le_of_lt hn)
theorem fdiv_hi {a n : Int} (ha : 0 ≤ a) (hn : 0 < n) : a.fdiv n ≤ a := by rw [Int.fdiv_eq_ediv_of_nonneg _ (Int.le_of_lt hn)]; exact Int.ediv_le_self _ ha

theorem w_sub {e₁ e₂ : Expr} {pos : Pos} {Q : Value → Heap → Prop} (x : W prog w A (eval e₁ env) h fun o h₁ => W prog w A (eval e₂ env) h₁ fun i h₂ => W prog w A (subscriptTail e₁ e₂ o i) h₂ Q) : W prog w A (eval (.Subscript e₁ e₂ pos) env) h Q :=
  W.mk fun s Qs hh k => Subscript_ (x.run s _ hh fun _ _ _ q => q.run _ _ rfl fun _ _ _ q => q.run _ _ rfl fun _ _ _ q => k _ _ _ q)
theorem ev_item {e₁ e₂ : Expr} {pos : Pos} {a : Addr} {i : Int} {items : Array Value} {v : Value} {P : Value → Prop} (x : Ev prog w A env e₁ h (· = .ref a)) (y : Ev prog w A env e₂ h (IsI i)) (hl : h.IsList a items) (h0 : 0 ≤ i) (hi : i < 2 ^ 63)
    (hv : items[i.toNat]? = some v) (hp : P v) (hs : ∀ o j, subscripted e₂ false o j = operate [o, j] (getItem o j) := by intro _ _; rfl) : Ev prog w A env (.Subscript e₁ e₂ pos) h P :=
  w_sub (w_ev x fun o ho => w_ev y fun j hj => by
    subst ho
    obtain ⟨t, rfl⟩ := hj
    exact W.still fun s Qs hh k => tail_any (Heap.IsList.typeIs (by rw [hh]; exact hl)) slot_list_getitem.lookup (wpAny_getItem_list (by rw [hh]; exact hl) h0 hi hv (k _ s.toks hp)) (hs _ _))
theorem ev_at {e : Expr} {pos p' : Pos} {k : Nat} {a : Addr} {i : Int} {items : Array Value} {v : Value} {P : Value → Prop} (x : Ev prog w A env e h (· = .ref a)) (hl : h.IsList a items) (hv : items[i.toNat]? = some v) (hp : P v)
    (h0 : 0 ≤ i := by decide) (hi : i < 2 ^ 63 := by decide) : Ev prog w A env (.Subscript e (.Constant (.int i) k p') pos) h P := ev_item x ev_int hl h0 hi hv hp
theorem w_setitem {a : Addr} {i : Int} {t : Tok} {v : Value} {items : Array Value} {Q : Unit → Heap → Prop} (hl : h.IsList a items) (h0 : 0 ≤ i) (hi : i < items.size) (hf : i < 2 ^ 63)
    (k : ∀ h', h'.IsList a (items.setIfInBounds i.toNat v) → Heap.SameBut a h h' → Q () h') : W prog w A (setItem (.ref a) (.int i t) v) h Q :=
  W.mk fun s Qs hh kk => wpAny_setItem_list (by rw [hh]; exact hl) h0 hf hi fun h' a b => kk _ _ _ (k h' a (by rw [← hh]; exact b))
theorem w_put {e o ie : Expr} {p' pos : Pos} {a : Addr} {i : Int} {items : Array Value} {P : Value → Prop} {Q : Flow → Heap → Prop} (x : Ev prog w A env e h P) (y : Ev prog w A env o h (· = .ref a)) (z : Ev prog w A env ie h (IsI i)) (hl : h.IsList a items) (h0 : 0 ≤ i) (hi : Nat.blt i.toNat items.size = true) (hf : i < 2 ^ 63)
    (k : ∀ v h', P v → h'.IsList a (items.setIfInBounds i.toNat v) → Heap.SameBut a h h' → Q .next h') (hs : swapsWith e (some (.Subscript o ie p')) pos.line env = pure false := by rfl) : W prog w A (exec (.Assign [.Subscript o ie p'] e pos) env) h Q :=
  w_asgsub (w_ev x fun v hv => w_ev y fun ov ho => w_ev z fun iv hiv => by obtain ⟨t, rfl⟩ := hiv; subst ho; exact w_setitem hl h0 (by have := Nat.blt_eq.mp hi; omega) hf fun h' q q' => k v h' hv q q') hs
theorem ts_gt {l r : Expr} {pos : Pos} {a b : Int} (x : Ev prog w A env l h (IsI a)) (y : Ev prog w A env r h (IsI b)) (hb : behindInMarks .Gt r = false := by rfl) : Ts prog w A env (.Compare l [.Gt] [r] pos) h (fun c => c = true ↔ a > b) :=
  ts_cmp x y (fun _ _ ⟨_, e⟩ ⟨_, e'⟩ => by subst e e'; exact (W.still fun s _ _ k => gt_int (k _ s.toks ⟨_, rfl, by simp⟩))) hb
theorem ts_lt {l r : Expr} {pos : Pos} {a b : Int} (x : Ev prog w A env l h (IsI a)) (y : Ev prog w A env r h (IsI b)) (hb : behindInMarks .Lt r = false := by rfl) : Ts prog w A env (.Compare l [.Lt] [r] pos) h (fun c => c = true ↔ a < b) :=
  ts_cmp x y (fun _ _ ⟨_, e⟩ ⟨_, e'⟩ => by subst e e'; exact (W.still fun s _ _ k => lt_int (k _ s.toks ⟨_, rfl, by simp⟩))) hb

theorem take_w {C many : Int} {tm : Tok} (H : At w p loose mean mg mb A (h.hide b)) (hb : BoxAt h b C) (hC0 : 0 ≤ C) (hC1 : C < 2 ^ 40) (hm0 : 0 < many) (hm1 : many < 2 ^ 29) (hroom : A.depth < recursionLimit) :
    WC prog w A (.call (.ref 225) ⟨[.ref b, .int many tm], []⟩) h fun v h' => ∃ d C', IsI d v ∧ 0 ≤ d ∧ d < many ∧ C ≤ C' ∧ C' ≤ C + 1 ∧ Ext (h.hide b) h' ∧ h.objs.size ≤ h'.objs.size ∧ BoxAt h' b C' := by
  obtain ⟨G, D, t1, t2, t3, hG0, hG1, hl⟩ := hb
  refine' wc_enter (binds := [(st "box", .ref b), (st "many", .int many tm)]) (news := []) H (hide_ext _ _) (hide_sz _ _) (fun _ h => nomatch h) ?k6 ?k7 hroom ?k9 ?kB ?_ ?c2 ?c3 ?c4 ?c5
  case k6 => k_is
  case k7 => k_is
  case k9 => exact fun _ _ => BindsTo.of_eq rfl
  case kB => exact locs rfl
  case c2 => exact rfl
  case c3 => exact rfl
  case c4 => exact rfl
  case c5 => decide
  intro L' h₁ base outer hA F N B e₁ hL
  have hbg : (h.hide b).get? b = none := Heap.hide_self _ _
  have hbL : b ≠ L' := by
    obtain ⟨o, ho, _⟩ := hl
    rw [hL]; exact Nat.ne_of_lt (Heap.lt_size ho)
  have hl₁ : h₁.IsList b #[.int G t1, .int C t2, .int D t3] := hl.at (e₁ b)
  with_unfolding_all (change W _ _ _ (execs (_ :: _ :: _ :: _) (envOf _ (Scope.mk _ _ _ _ _) _ _ _)) _ _)
  refine w_cons (w_if (ts_gt (ev_at (ev_fr F rfl rfl) hl₁ rfl ⟨_, rfl⟩) ev_int) (fun hc => ?_) (fun hc => ?_))
  · refine w_cons (w_asg (w_ev (ev_mod (ev_at (ev_fr F rfl rfl) hl₁ rfl ⟨_, rfl⟩) (ev_fr F rfl ⟨_, rfl⟩) (by omega)) fun v hv => w_st F fun h₂ F₂ hs₂ => ?_))
    have hl₂ := list_same hl₁ hs₂ hbL
    refine w_cons (w_put (ev_div (ev_at (ev_fr F₂ rfl rfl) hl₂ rfl ⟨_, rfl⟩) (ev_fr F₂ rfl ⟨_, rfl⟩) (by omega) (PyProof.noPylong_small (by omega))) (ev_fr F₂ rfl rfl) ev_int hl₂ (by decide) rfl (by decide) fun v' h₃ hv' hl₃ hs₃ => ?_)
    obtain ⟨t, rfl⟩ := hv'
    have F₃ := fr_but F₂ hbg hbL hs₃
    refine w_cons (w_ret (w_ev (ev_fr F₃ rfl hv) fun v hv => ?_))
    exact ⟨_, _, hv, fmod_lo _ hm0, fmod_hi _ hm0, Int.le_refl _, by omega, F₃.keep, Nat.le_of_lt (hL ▸ size_of_ns F₃.ns), _, _, _, _, _, fdiv_lo hG0 hm0, Int.lt_of_le_of_lt (fdiv_hi hG0 hm0) hG1, hl₃⟩
  · refine w_nil (w_cons (w_put (ev_add (ev_at (ev_fr F rfl rfl) hl₁ rfl ⟨_, rfl⟩) ev_int) (ev_fr F rfl rfl) ev_int hl₁ (by decide) rfl (by decide) fun v h₂ hv hl₂ hs₂ => ?_))
    obtain ⟨t, rfl⟩ := hv
    have F₂ := fr_but F hbg hbL hs₂
    refine w_cons (w_ret (w_ev (ev_mod (ev_mod (ev_add (ev_add (ev_mul (ev_mul ev_int (ev_at (ev_fr F₂ rfl rfl) hl₂ rfl ⟨_, rfl⟩) ?_) (ev_at (ev_fr F₂ rfl rfl) hl₂ rfl ⟨_, rfl⟩) ?_) (ev_mul ev_int (ev_at (ev_fr F₂ rfl rfl) hl₂ rfl ⟨_, rfl⟩) ?_)) ev_int) ev_int (by decide)) (ev_fr F₂ rfl ⟨_, rfl⟩) (by omega)) fun v hv => ?_))
    · exact IntMulOk.of_left (intBits_le_64 (by decide) (by decide))
    · exact IntMulOk.of_right (intBits_le_64 (by omega) (by omega))
    · exact IntMulOk.of_left (intBits_le_64 (by decide) (by decide))
    · exact ⟨_, _, hv, fmod_lo _ hm0, fmod_hi _ hm0, by omega, Int.le_refl _, F₂.keep, Nat.le_of_lt (hL ▸ size_of_ns F₂.ns), _, _, _, _, _, hG0, hG1, hl₂⟩
end
end Mine

end

section
open PySem PySem.W PyProof.Rows PySem.Calls
set_option Elab.async false
set_option maxRecDepth 100000
set_option maxHeartbeats 1000000
set_option linter.unusedVariables false
namespace Mine
section
variable {prog : Program} {w : World} {p : Program} {loose : List Str} {mean : ExcName → Option Value} {mg mb : Str → Option Value} {A : Around} {env : Env} {g h h' : Heap} {L b : Addr} {m : Str → Option Value}

theorem w_newlist {vs : List Value} {Q : Value → Heap → Prop} (hsz : vs.length ≤ sizeLine) (k : ∀ h', h'.objs.size = h.objs.size + 1 → Ext h h' → h'.IsList h.objs.size vs.toArray → Q (.ref h.objs.size) h') : W prog w A (newList vs) h Q :=
  W.mk fun s Qs hh kk => by
    subst hh
    exact wpAny_newObj_type (kk _ _ s.toks (k _ (Heap.size_push _ _) (fun _ _ e => Heap.get?_push_of_some _ e) ⟨_, Heap.get?_push_size _ rfl, rfl, _, rfl⟩)) (by show vs.toArray.size ≤ sizeLine; rw [List.size_toArray]; exact hsz)
theorem w_newtup {vs : List Value} {Q : Value → Heap → Prop} (hsz : vs.length ≤ sizeLine) (k : ∀ h', h'.objs.size = h.objs.size + 1 → Ext h h' → IsTup h' h.objs.size vs.toArray → Q (.ref h.objs.size) h') : W prog w A (newTuple vs) h Q :=
  W.mk fun s Qs hh kk => by
    subst hh
    exact wpAny_newObj_type (kk _ _ s.toks (k _ (Heap.size_push _ _) (fun _ _ e => Heap.get?_push_of_some _ e) ⟨_, Heap.get?_push_size _ rfl, rfl, _, rfl⟩)) (by show vs.toArray.size ≤ sizeLine; rw [List.size_toArray]; exact hsz)
theorem w_list {es : List Expr} {pos : Pos} {Q : Value → Heap → Prop} (x : W prog w A (spliced (backTo pos (starEach es env))) h fun vs h₁ => W prog w A (newList vs) h₁ Q) : W prog w A (eval (.List es pos) env) h Q :=
  W.mk fun s Qs hh k => List_ (x.run s _ hh fun _ _ _ q => q.run _ _ rfl fun _ _ _ q => k _ _ _ q)
theorem w_tup {es : List Expr} {kk : Nat} {pos : Pos} {Q : Value → Heap → Prop} (x : W prog w A (spliced (backTo pos (starEach es env))) h fun vs h₁ => W prog w A (newTuple vs) h₁ Q) : W prog w A (eval (.Tuple es kk pos) env) h Q :=
  W.mk fun s Qs hh k => Tuple_ (x.run s _ hh fun _ _ _ q => q.run _ _ rfl fun _ _ _ q => k _ _ _ q)
theorem size_none (h : Heap) : h.get? h.objs.size = none := by
  cases e : h.get? h.objs.size with
  | none => rfl
  | some o => exact absurd (Heap.lt_size e) (Nat.lt_irrefl _)

inductive PairsE : List Expr → List (Str × Str) → Prop
  | nil : PairsE [] []
  | cons {a b : Str} {k₁ k₂ k₃ : Nat} {p₁ p₂ p₃ : Pos} {r : List Expr} {ps : List (Str × Str)} : PairsE r ps → PairsE (.Tuple [.Constant (.str a) k₁ p₁, .Constant (.str b) k₂ p₂] k₃ p₃ :: r) ((a, b) :: ps)
def PairAt (h : Heap) (v : Value) (p : Str × Str) : Prop := ∃ t u u', v = .ref t ∧ IsTup h t #[.str p.1 u, .str p.2 u']
def PairsAt (h : Heap) : List Value → List (Str × Str) → Prop
  | [], [] => True
  | v :: vs, p :: ps => PairAt h v p ∧ PairsAt h vs ps
  | _, _ => False
theorem PairAt.ext {v : Value} {q : Str × Str} (x : PairAt h v q) (e : Ext h h') : PairAt h' v q := let ⟨t, u, u', a, b⟩ := x; ⟨t, u, u', a, IsTup.keeps b e⟩
theorem PairsAt.len : ∀ {vs : List Value} {ps : List (Str × Str)}, PairsAt h vs ps → vs.length = ps.length
  | [], [], _ => rfl
  | _ :: _, _ :: _, x => congrArg (· + 1) (PairsAt.len x.2)
theorem PairsAt.ext (e : Ext h h') : ∀ {vs : List Value} {ps : List (Str × Str)}, PairsAt h vs ps → PairsAt h' vs ps
  | [], [], _ => trivial
  | _ :: _, _ :: _, x => ⟨x.1.ext e, PairsAt.ext e x.2⟩
theorem PairsAt.at : ∀ {vs : List Value} {ps : List (Str × Str)} {i : Nat}, PairsAt h vs ps → i < ps.length → ∃ v q, vs[i]? = some v ∧ ps[i]? = some q ∧ PairAt h v q
  | [], [], _, _, hi => absurd hi (Nat.not_lt_zero _)
  | [], _ :: _, _, x, _ => x.elim
  | _ :: _, [], _, x, _ => x.elim
  | v :: _, q :: _, 0, x, _ => ⟨v, q, rfl, rfl, x.1⟩
  | _ :: vs, _ :: ps, i + 1, x, hi => by simpa using PairsAt.at (i := i) x.2 (by simpa using hi)
theorem w_pairs {pos : Pos} {es : List Expr} {ps : List (Str × Str)} (x : PairsE es ps) : ∀ {h : Heap}, W prog w A (spliced (backTo pos (starEach es env))) h fun vs h' => Ext h h' ∧ PairsAt h' vs ps := by
  induction x with
  | nil => exact w_arg0 ⟨fun _ _ e => e, trivial⟩
  | cons _ ih =>
    intro h
    refine w_arg (w_tup (w_arg (w_ev ev_str fun v hv => w_arg (w_ev ev_str fun v' hv' => w_arg0 (w_newtup (by show (2 : Nat) ≤ sizeLine; decide) fun h₁ _ e₁ ht => ?_))))) rfl
    refine W.mono ih fun vs h₂ x => ⟨fun _ _ q => x.1 _ _ (e₁ _ _ q), ?_, x.2⟩
    obtain ⟨t, rfl⟩ := hv
    obtain ⟨t', rfl⟩ := hv'
    exact ⟨_, _, _, rfl, IsTup.keeps ht x.1⟩

theorem rows_w {f : Addr} {name qual : Str} {params : Arguments} {scope : Scope} {dV kV doc pm cdv ct oc : Value} {an od : Option Addr} {osl : Array (Option Value)} {es : List Expr} {pos pos' : Pos} {ps : List (Str × Str)}
    (H : At w p loose mean mg mb A h) (hroom : A.depth < recursionLimit)
    (ho : (KK w.params).lookup f = some ⟨oc, od, .func (fnOf name qual params [.Return (some (.List es pos)) pos'] scope dV kV doc pm an cdv ct), osl⟩) (hcd : codeIn (KK w.params) cdv qual = true)
    (hbind : bindArgs (fnOf name qual params [.Return (some (.List es pos)) pos'] scope dV kV doc pm an cdv ct) ⟨[], []⟩ = pure []) (hp : PairsE es ps) (hsz : ps.length ≤ 1000)
    (hco : scope.isCoroutine = false) (hgen : scope.isGenerator = false) (hk : scope.kind = .function) (hcell : ∀ x ∈ scope.names, x.2 ≠ .cell) :
    WC prog w A (.call (.ref f) ⟨[], []⟩) h fun v h' => ∃ a vs, v = .ref a ∧ h.get? a = none ∧ h'.IsList a vs.toArray ∧ PairsAt h' vs ps ∧ Ext h h' := by
  refine wc_enter (binds := []) (news := []) H (fun _ _ e => e) (Nat.le_refl _) (fun _ h => nomatch h) ho hcd hroom (fun _ _ => BindsTo.of_eq hbind) (fun _ h => nomatch h) (fun L' h₁ base outer hA F N B e₁ hL => ?_) hco hgen hk hcell
  refine w_cons (w_ret (w_list (W.mono (w_pairs hp) fun vs h₂ x => w_newlist ?_ fun h₃ _ e₃ hl => ?_)))
  · have := x.2.len
    have : sizeLine = 2 ^ 24 := rfl
    omega
  · exact ⟨_, vs, rfl, by
      cases e : h.get? h₂.objs.size with
      | none => rfl
      | some o => exact absurd (Heap.lt_size (x.1 _ _ (e₁ _ _ e))) (Nat.lt_irrefl _), hl, x.2.ext e₃, fun _ _ q => e₃ _ _ (x.1 _ _ (e₁ _ _ q))⟩
theorem leaves_w (H : At w p loose mean mg mb A h) (hroom : A.depth < recursionLimit) : WC prog w A (.call (.ref 211) ⟨[], []⟩) h fun v h' => ∃ a vs, v = .ref a ∧ h.get? a = none ∧ h'.IsList a vs.toArray ∧ PairsAt h' vs leaves ∧ Ext h h' := by
  refine' rows_w H hroom ?k6 ?k7 ?k9 ?kp (by decide) ?c2 ?c3 ?c4 ?c5
  case k6 => with_unfolding_all k_is
  case k7 => k_is
  case k9 => exact rfl
  case kp => with_unfolding_all (repeat (first | exact PairsE.nil | refine PairsE.cons ?_))
  case c2 => exact rfl
  case c3 => exact rfl
  case c4 => exact rfl
  case c5 => decide
theorem shapes_w (H : At w p loose mean mg mb A h) (hroom : A.depth < recursionLimit) : WC prog w A (.call (.ref 204) ⟨[], []⟩) h fun v h' => ∃ a vs, v = .ref a ∧ h.get? a = none ∧ h'.IsList a vs.toArray ∧ PairsAt h' vs kinds ∧ Ext h h' := by
  refine' rows_w H hroom ?k6 ?k7 ?k9 ?kp (by decide) ?c2 ?c3 ?c4 ?c5
  case k6 => with_unfolding_all k_is
  case k7 => k_is
  case k9 => exact rfl
  case kp => with_unfolding_all (repeat (first | exact PairsE.nil | refine PairsE.cons ?_))
  case c2 => exact rfl
  case c3 => exact rfl
  case c4 => exact rfl
  case c5 => decide
end
end Mine

end

section
open PySem PySem.W PyProof.Rows PySem.Calls
set_option Elab.async false
set_option maxRecDepth 100000
set_option maxHeartbeats 1000000
set_option linter.unusedVariables false
namespace Mine
theorem hide_mono {h h' : Heap} {b : Addr} (e : Ext h h') : Le (h.hide b).get? (h'.hide b).get? := fun x o q => by
  by_cases hx : x = b
  · subst hx; rw [Heap.hide_self] at q; cases q
  · rw [Heap.hide_ne _ hx] at q ⊢; exact e _ _ q
theorem BoxAt.there {h : Heap} {b : Addr} {C : Int} (x : BoxAt h b C) : h.get? b ≠ none := by
  obtain ⟨G, D, t1, t2, t3, a, c, o, ho, _⟩ := x
  rw [ho]; exact fun e => nomatch e

structure BoxP (Bx : Heap → Addr → Int → Prop) : Prop where
  «at» : ∀ {h h' b C}, Bx h b C → (∀ o, h.get? b = some o → h'.get? b = some o) → Bx h' b C
  there : ∀ {h b C}, Bx h b C → h.get? b ≠ none
  cell : ∀ {h b C v}, Bx h b C → ¬ Heap.IsCell h b v
theorem BoxAt.p : BoxP BoxAt := ⟨fun x e => let ⟨G, D, t1, t2, t3, a, c, l⟩ := x; ⟨G, D, t1, t2, t3, a, c, l.at e⟩, BoxAt.there, fun x y => by
  obtain ⟨G, D, t1, t2, t3, _, _, o, ho, _, _, hd⟩ := x
  obtain ⟨o', ho', hd'⟩ := y
  rw [ho] at ho'; cases ho'; rw [hd] at hd'; cases hd'⟩

structure Stq (Bx : Heap → Addr → Int → Prop) (b : Addr) (l₀ : Lk) (h₀ : Heap) (l : Lk) (h : Heap) (C : Int) : Prop where
  grow : Grow h₀.objs.size l₀ l
  le : Le l (h.hide b).get?
  ext : Ext (h₀.hide b) h
  box : Bx h b C
structure Stp (Bx : Heap → Addr → Int → Prop) (b : Addr) (l₀ : Lk) (h₀ : Heap) (l : Lk) (h : Heap) (C : Int) : Prop extends Stq Bx b l₀ h₀ l h C where
  sz : h₀.objs.size ≤ h.objs.size
theorem unseen {l : Lk} {h : Heap} {b : Addr} (x : Le l (h.hide b).get?) {a : Addr} (ha : h.get? a = none) : l a = none := by
  cases e : l a with
  | none => rfl
  | some o =>
    have := Heap.of_hide (x a o e)
    rw [ha] at this; cases this
section
variable {Bx : Heap → Addr → Int → Prop} {b : Addr} {l₀ l l' : Lk} {h₀ h h' : Heap} {C C' : Int}
theorem Stp.refl (hl : Le l (h.hide b).get?) (hb : Bx h b C) : Stp Bx b l h l h C := ⟨⟨Grow.refl _ _, hl, hide_ext _ _, hb⟩, Nat.le_refl _⟩
theorem Stq.alloc (hB : BoxP Bx) (x : Stq Bx b l₀ h₀ l h C) (e : Ext h h') : Stq Bx b l₀ h₀ l h' C := ⟨x.grow, x.le.trans (hide_mono e), fun _ _ q => e _ _ (x.ext _ _ q), hB.at x.box (e b)⟩
theorem Stp.alloc (hB : BoxP Bx) (x : Stp Bx b l₀ h₀ l h C) (e : Ext h h') (hs : h.objs.size ≤ h'.objs.size) : Stp Bx b l₀ h₀ l h' C := ⟨x.toStq.alloc hB e, Nat.le_trans x.sz hs⟩
theorem Stp.trans (x : Stp Bx b l₀ h₀ l h C) (y : Stp Bx b l h l' h' C') : Stp Bx b l₀ h₀ l' h' C' where
  grow := x.grow.trans y.grow x.sz
  le := y.le
  ext := fun z o e => y.ext z o (by
    have hz : z ≠ b := fun q => by rw [q, Heap.hide_self] at e; cases e
    exact (Heap.hide_ne _ hz).trans (x.ext z o e))
  box := y.box
  sz := Nat.le_trans x.sz y.sz
theorem Stq.see (x : Stq Bx b l₀ h₀ l h C) {a : Addr} {o : Obj} (ho : h.get? a = some o) (h0 : h₀.objs.size ≤ a) (ha : l a = none) (hb : a ≠ b) : Stq Bx b l₀ h₀ (add l a o) h C :=
  ⟨⟨x.grow.1.trans (le_add o ha), fun z o' e => by
    unfold add at e
    split at e
    · rename_i q; subst q; exact .inr h0
    · exact x.grow.2 z o' e⟩, fun z o' e => by
    unfold add at e
    split at e
    · rename_i q; subst q; cases e; exact (Heap.hide_ne _ hb).trans ho
    · exact x.le z o' e, x.ext, x.box⟩
theorem Stp.laid (hB : BoxP Bx) (x : Stp Bx b l₀ h₀ l h C) {vs : List Value} (hs : h'.objs.size = h.objs.size + 1) (e : Ext h h') (hl : h'.IsList h.objs.size vs.toArray) : ∃ l', Stp Bx b l₀ h₀ l' h' C ∧ Le l l' ∧ LIs l' h.objs.size vs ∧ ∀ z, z ≠ h.objs.size → l' z = l z := by
  obtain ⟨o, ho, hc, n, hd⟩ := hl
  have hu := unseen x.le (size_none h)
  exact ⟨_, ⟨(x.toStq.alloc hB e).see ho x.sz hu (fun q => hB.there x.box (q ▸ size_none h)), Nat.le_trans x.sz (hs ▸ Nat.le_succ _)⟩, le_add o hu, ⟨o, add_self _ _ _, hc, n, hd⟩, fun z hz => if_neg hz⟩
end

def MkQ {α : Type} (R : Lk → α → Value → Prop) (Bx : Heap → Addr → Int → Prop) (b : Addr) (l : Lk) (h : Heap) (C : Int) (Rel : Int → α → Int → Prop) (v : Value) (h' : Heap) : Prop := ∃ a l' C', Rel C a C' ∧ R l' a v ∧ Stp Bx b l h l' h' C'
def GenQ (b : Addr) (l : Lk) (h : Heap) (C : Int) (N : Nat) (Post : Plan → Prop) (v : Value) (h' : Heap) : Prop := ∃ pl l' C', Post pl ∧ PlanIn l' pl v ∧ Stp BoxAt b l h l' h' C' ∧ C ≤ C' ∧ C' ≤ C + N
theorem GenQ.mk {b : Addr} {l : Lk} {h h' : Heap} {C : Int} {N : Nat} {Post : Plan → Prop} {v : Value} (x : GenQ b l h C N Post v h') : MkQ PlanIn BoxAt b l h C (fun C pl C' => Post pl ∧ C ≤ C' ∧ C' ≤ C + N) v h' := let ⟨pl, l', C', a, c, d, e, f⟩ := x; ⟨pl, l', C', ⟨a, e, f⟩, c, d⟩
inductive Chain {α : Type} (Rel : Nat → Int → α → Int → Prop) : List α → Int → Int → Prop
  | nil {C} : Chain Rel [] C C
  | snoc {as a C C' C''} : Chain Rel as C C' → Rel as.length C' a C'' → Chain Rel (as ++ [a]) C C''
inductive AllR {α : Type} (R : Lk → α → Value → Prop) (l : Lk) : List α → List Value → Prop
  | nil : AllR R l [] []
  | cons {a as v vs} : R l a v → AllR R l as vs → AllR R l (a :: as) (v :: vs)
section
variable {α : Type} {R : Lk → α → Value → Prop} {l l' : Lk}
theorem AllR.mono (hR : ∀ l l' a v, Le l l' → R l a v → R l' a v) (e : Le l l') {as : List α} {vs : List Value} (x : AllR R l as vs) : AllR R l' as vs := by
  induction x with
  | nil => exact .nil
  | cons a _ ih => exact .cons (hR _ _ _ _ e a) ih
theorem AllR.snoc {as : List α} {vs : List Value} {a : α} {v : Value} (x : AllR R l as vs) (y : R l a v) : AllR R l (as ++ [a]) (vs ++ [v]) := by
  induction x with
  | nil => exact .cons y .nil
  | cons a _ ih => exact .cons a ih
end

section
variable {prog : Program} {w : World} {p : Program} {loose : List Str} {mean : ExcName → Option Value} {mg mb : Str → Option Value} {A : Around} {env : Env} {g h h' : Heap} {L b : Addr} {m : Str → Option Value}

structure Src (prog : Program) (w : World) (A : Around) (b : Addr) (n : Nat) (P : Nat → Value → Prop) (h₁ h₂ : Heap) (I : Addr) (fp : List Addr) (St : Nat → Heap → Prop) : Prop where
  walks : Walks prog w A I fp [I] n P St
  st : St 0 h₂
  ext : Ext h₁ h₂
  new : h₁.get? I = none
  sz : h₁.objs.size ≤ h₂.objs.size
  inn : I ∈ fp
  lt : ∀ x ∈ fp, x < h₂.objs.size ∧ x ≠ b

theorem w_itstr (hh : A.handled = none) {x : Str} {t : Tok} {Q : Value → Heap → Prop} (hb : h.get? b ≠ none) (k : ∀ I fp St h₂, Src prog w A b x.cps.size (SignAt x) h h₂ I fp St → Q (.ref I) h₂) : W prog w A (pyIter (.str x t)) h Q :=
  W.mk fun s Qs hs kk => wpAny_pyIter_str fun o St hW hst => by
    subst hs
    refine kk _ _ s.toks (k _ _ _ _ ⟨hW A hh, hst, fun _ _ e => Heap.get?_push_of_some _ e, size_none _, by rw [Heap.size_push]; exact Nat.le_succ _, by simp, fun y hy => ?_⟩)
    simp only [List.mem_singleton] at hy
    subst hy
    exact ⟨by rw [Heap.size_push]; exact Nat.lt_succ_self _, fun q => hb (q ▸ size_none _)⟩
theorem w_itlist (hh : A.handled = none) {a : Addr} {items : Array Value} {Q : Value → Heap → Prop} (hl : h.IsList a items) (hb : h.get? b ≠ none) (hab : a ≠ b) (k : ∀ I fp St h₂, Src prog w A b items.size (fun i v => items[i]? = some v) h h₂ I fp St → Q (.ref I) h₂) : W prog w A (pyIter (.ref a)) h Q :=
  W.mk fun s Qs hs kk => wpAny_pyIter_list (by rw [hs]; exact hl) (by
    subst hs
    have hlt : a < s.heap.objs.size := by obtain ⟨o, ho, _⟩ := hl; exact Heap.lt_size ho
    refine kk _ _ s.toks (k _ _ _ _ ⟨Walks.list hh _ a (Nat.ne_of_lt hlt) items, ⟨⟨_, Heap.get?_push_size _ rfl, rfl, rfl⟩, hl.push _⟩, fun _ _ e => Heap.get?_push_of_some _ e, size_none _, by rw [Heap.size_push]; exact Nat.le_succ _, by simp, fun y hy => ?_⟩)
    simp only [List.mem_cons, List.not_mem_nil, or_false] at hy
    rcases hy with rfl | rfl
    · exact ⟨by rw [Heap.size_push]; exact Nat.lt_succ_self _, fun q => hb (q ▸ size_none _)⟩
    · exact ⟨by rw [Heap.size_push]; exact Nat.lt_succ_of_lt hlt, hab⟩)

structure CompG {α : Type} (R : Lk → α → Value → Prop) (Bx : Heap → Addr → Int → Prop) (prog : Program) (w : World) (A : Around) (env : Env) (scope : Scope) (cl : List (Str × Addr)) (x : Str) (elt : Expr) (Fin : Value → Addr → Heap → Prop) (b : Addr) (n : Nat) (P : Nat → Value → Prop) (Rel : Nat → Int → α → Int → Prop) (l₁ : Lk) (C₁ : Int)
    (h₁ h₂ : Heap) (I : Addr) (fp : List Addr) (St : Nat → Heap → Prop) : Prop where
  src : Src prog w A b n P h₁ h₂ I fp St
  sz : n ≤ sizeLine
  le : Le l₁ (h₁.hide b).get?
  box : Bx h₁ b C₁
  step : ∀ i v h₃ l₃ C₃ m as, i < n → P i v → as.length = i → Chain Rel as C₁ C₃ → Stp Bx b l₁ h₁ l₃ h₃ C₃ → h₃.Ns (h₂.objs.size + 1) m → m x = some v →
    W prog w A (eval elt (compEnvC scope cl (h₂.objs.size + 1) env)) h₃ (MkQ R Bx b l₃ h₃ C₃ (Rel i))
  fin : ∀ as l' C' h' ys D, as.length = n → Chain Rel as C₁ C' → AllR R l' as ys → LIs l' D ys → Stp Bx b l₁ h₁ l' h' C' → l' (h₂.objs.size + 1) = none → Fin (.ref D) (h₂.objs.size + 1) h'

theorem CompG.comp {α : Type} {R : Lk → α → Value → Prop} {Bx : Heap → Addr → Int → Prop} (hB : BoxP Bx) (hR : ∀ l l' a v, Le l l' → R l a v → R l' a v) {elt : Expr} {x : Str} {scope : Scope} {cl : List (Str × Addr)} {Fin : Value → Addr → Heap → Prop} {n : Nat} {P : Nat → Value → Prop} {Rel : Nat → Int → α → Int → Prop} {l₁ : Lk} {C₁ : Int} {h₁ h₂ : Heap} {I : Addr} {fp : List Addr} {St : Nat → Heap → Prop}
    (G : CompG R Bx prog w A env scope cl x elt Fin b n P Rel l₁ C₁ h₁ h₂ I fp St) : CompW prog w A env scope cl x elt Fin (.ref I) h₂ := by
  have hbs : b < h₂.objs.size := by
    cases e : h₂.get? b with
    | none => exact absurd e (hB.there (hB.at G.box (G.src.ext b)))
    | some o => exact Heap.lt_size e
  have hIb : I ≠ b := fun q => hB.there G.box (q ▸ G.src.new)
  have far : ∀ z, h₂.objs.size ≤ z → h₁.get? z = none := fun z hz => by
    cases e : h₁.get? z with
    | none => rfl
    | some o => exact absurd (Heap.lt_size (G.src.ext _ _ e)) (Nat.not_lt.mpr hz)
  have hI2 := far _ (Nat.le_refl _)
  have hI3 := far _ (Nat.le_succ _)
  refine ⟨I, fp, [I], n, P, St, (· = b), fun i ys h => ∃ as l' C', as.length = i ∧ Chain Rel as C₁ C' ∧ AllR R l' as ys ∧ Stq Bx b l₁ h₁ l' h C' ∧ l' h₂.objs.size = none ∧ l' (h₂.objs.size + 1) = none ∧ l' I = none,
    rfl, G.src.walks, G.sz, G.src.st, fun y hy => ⟨(G.src.lt y hy).1, (G.src.lt y hy).2⟩, fun y hy => by rw [hy]; exact hbs, ?_, ?_, ?_, ?_⟩
  · rintro i ys h h' ⟨as, l', C', a1, a2, a3, a4, u1, u2, u3⟩ hk
    have keep : ∀ y o, y ≠ h₂.objs.size → y ≠ h₂.objs.size + 1 → y ≠ I → h.get? y = some o → h'.get? y = some o := fun y o p q r => hk y o p q (by simpa using r)
    refine ⟨as, l', C', a1, a2, a3, ⟨a4.grow, fun y o e => ?_, fun y o e => ?_, ?_⟩, u1, u2, u3⟩
    · have hy : y ≠ b := fun q => by have := a4.le y o e; rw [q, Heap.hide_self] at this; cases this
      rw [Heap.hide_ne _ hy]
      exact keep y o (fun q => by rw [q, u1] at e; cases e) (fun q => by rw [q, u2] at e; cases e) (fun q => by rw [q, u3] at e; cases e) (Heap.of_hide (a4.le y o e))
    · have e' := Heap.of_hide e
      exact keep y o (fun q => by rw [q, hI2] at e'; cases e') (fun q => by rw [q, hI3] at e'; cases e') (fun q => by rw [q, G.src.new] at e'; cases e') (a4.ext y o e)
    · exact hB.at a4.box fun o e => keep b o (Nat.ne_of_lt hbs) (Nat.ne_of_lt (Nat.lt_succ_of_lt hbs)) (Ne.symm hIb) e
  · intro h' e
    have S := ((Stp.refl G.le G.box).toStq.alloc hB G.src.ext).alloc hB (h' := h') e
    have n0 : ∀ y, h₁.get? y = none → l₁ y = none := fun y hy => unseen G.le hy
    exact ⟨[], l₁, C₁, rfl, .nil, .nil, S, n0 _ hI2, n0 _ hI3, n0 _ G.src.new⟩
  · rintro i v ys h₃ m hi hP hl ⟨as, l', C', a1, a2, a3, a4, u1, u2, u3⟩ hn hm hk hsz
    have lt2 : h₂.objs.size + 1 < h₃.objs.size := hsz
    have S3 : Stp Bx b l₁ h₁ l' h₃ C' := ⟨a4, Nat.le_trans G.src.sz (Nat.le_of_lt (Nat.lt_of_succ_lt lt2))⟩
    refine W.mono (G.step i v h₃ l' C' m as hi hP a1 a2 S3 hn hm) fun y h₄ q => ?_
    obtain ⟨a, l₄, C₄, b1, b2, b3⟩ := q
    refine ⟨⟨as ++ [a], l₄, C₄, by simp [a1], .snoc a2 (a1.symm ▸ b1), (a3.mono hR b3.grow.1).snoc b2, (Stp.trans S3 b3).toStq, b3.grow.none u1 (Nat.lt_of_succ_lt lt2), b3.grow.none u2 lt2, b3.grow.none u3 (Nat.lt_trans (G.src.lt I G.src.inn).1 (Nat.lt_of_succ_lt lt2))⟩, fun z o hz e => b3.ext z o ((Heap.hide_ne _ hz).trans e)⟩
  · rintro h' ys hl ⟨as, l', C', a1, a2, a3, a4, u1, u2, u3⟩ ⟨k, hk'⟩ hk
    exact G.fin as _ C' h' ys _ a1 a2 (a3.mono hR (le_add _ u1)) ⟨_, add_self _ _ _, rfl, k, rfl⟩ ⟨a4.see hk' G.src.sz u1 (Ne.symm (Nat.ne_of_lt hbs)), Nat.le_trans G.src.sz (Nat.le_of_lt (Heap.lt_size hk'))⟩ ((if_neg (Nat.ne_of_gt (Nat.lt_succ_self _))).trans u2)
theorem Chain.gen {N : Nat} {Post : Nat → Plan → Prop} {as : List Plan} {C C' : Int} (x : Chain (fun i C pl C' => Post i pl ∧ C ≤ C' ∧ C' ≤ C + N) as C C') : (∀ j pl, as[j]? = some pl → Post j pl) ∧ C ≤ C' ∧ C' ≤ C + as.length * N := by
  induction x with
  | nil => exact ⟨fun j pl h => by simp at h, Int.le_refl _, by simp⟩
  | @snoc as a C₁ C₂ C₃ _ r ih =>
    refine ⟨fun j q hj => ?_, Int.le_trans ih.2.1 r.2.1, ?_⟩
    · rcases Nat.lt_trichotomy j as.length with h | h | h
      · rw [List.getElem?_append_left h] at hj; exact ih.1 j q hj
      · subst h; rw [List.getElem?_append_right (Nat.le_refl _)] at hj; simp at hj; subst hj; exact r.1
      · rw [List.getElem?_eq_none (by simp; omega)] at hj; cases hj
    · have ar : (((as ++ [a]).length : Nat) : Int) * (N : Int) = as.length * N + N := by rw [List.length_append, Int.natCast_add, Int.add_mul]; simp
      rw [ar]; have := ih.2.2; have := r.2.2; omega
theorem AllR.plans {l : Lk} {as : List Plan} {vs : List Value} (x : AllR PlanIn l as vs) : PlansIn l as vs := by
  induction x with
  | nil => simp only [PlansIn]
  | cons a _ ih => simp only [PlansIn]; exact ⟨_, _, rfl, a, ih⟩
end
end Mine

end

section
open PySem PySem.W PyProof.Rows PySem.Calls
set_option Elab.async false
set_option maxRecDepth 100000
set_option maxHeartbeats 1000000
set_option linter.unusedVariables false
namespace Mine
def Room (A : Around) (n : Nat) : Prop := A.handled = none ∧ A.depth + n < 1000 ∧ A.units + 4 * n < 9900
theorem Room.deeper {A : Around} {n : Nat} (h : Room A (n + 1)) (env : Env) : Room (A.deeper env) n := ⟨h.1, by have := h.2.1; show A.depth + 1 + n < 1000; omega, by have := h.2.2; show A.units + 3 + 4 * n < 9900; omega⟩
theorem Room.less {A : Around} {n k : Nat} (h : Room A n) (hk : k ≤ n) : Room A k := ⟨h.1, by have := h.2.1; omega, by have := h.2.2; omega⟩
theorem Room.room {A : Around} {n : Nat} (h : Room A n) : A.depth < recursionLimit := by have := h.2.1; show A.depth < 1000; omega
abbrev Args2 (y : Str) (d : Int) (as : List Value) : Prop := ∃ t u, as = [.str y t, .int d u]
abbrev Args1 (d : Int) (as : List Value) : Prop := ∃ u, as = [.int d u]
section
variable (prog : Program) (w : World) (p : Program) (loose : List Str) (mean : ExcName → Option Value) (mg mb : Str → Option Value)
def GenC (f : Addr) (rest : List Value → Prop) (R N : Nat) (Post : Plan → Prop) : Prop :=
  ∀ (A : Around) (h : Heap) (l : Lk) (b : Addr) (C : Int) (as : List Value), rest as → Room A R → At w p loose mean mg mb A (h.hide b) → Le l (h.hide b).get? → BoxAt h b C → 0 ≤ C → C + N ≤ 2 ^ 39 →
    WC prog w A (.call (.ref f) ⟨.ref b :: as, []⟩) h (GenQ b l h C N Post)

structure Sx (Bx : Heap → Addr → Int → Prop) (A : Around) (b : Addr) (g : Heap) (L : Addr) (m : Str → Option Value) (cs : List (Addr × Value)) (l₀ : Lk) (h₀ : Heap) (l : Lk) (h : Heap) (C : Int) : Prop extends Stp Bx b l₀ h₀ l h C where
  bp : BoxP Bx
  H : At w p loose mean mg mb A g
  hb : g.get? b = none
  hL : b ≠ L
  F : Fr g L h m
  N : ∀ q ∈ cs, h.IsCell q.1 (some q.2)
  D : ∀ q ∈ cs, q.1 ≠ b
  u : l L = none
  pos : 0 ≤ C
end

section
variable {prog : Program} {w : World} {p : Program} {loose : List Str} {mean : ExcName → Option Value} {mg mb : Str → Option Value} {A : Around} {env env₀ : Env} {g h h' h₀ : Heap} {l l' l₀ : Lk} {L b : Addr} {m : Str → Option Value} {cs : List (Addr × Value)} {C C' : Int} {Bx : Heap → Addr → Int → Prop}

theorem IsCell_ext {h h' : Heap} {c : Addr} {v : Option Value} (x : h.IsCell c v) (e : ∀ o, h.get? c = some o → h'.get? c = some o) : h'.IsCell c v := let ⟨o, q, d⟩ := x; ⟨o, e _ q, d⟩
theorem Sx.move (X : Sx w p loose mean mg mb Bx A b g L m cs l₀ h₀ l h C) (S : Stp Bx b l₀ h₀ l' h' C') (e : Ext (h.hide b) h') (hp : 0 ≤ C') (hu : l' L = none) : Sx w p loose mean mg mb Bx A b g L m cs l₀ h₀ l' h' C' :=
  ⟨S, X.bp, X.H, X.hb, X.hL, fr_after X.F X.hb X.hL e, fun q hq => IsCell_ext (X.N q hq) fun o ho => e _ _ ((Heap.hide_ne _ (X.D q hq)).trans ho), X.D, hu, hp⟩
theorem Sx.next (X : Sx w p loose mean mg mb Bx A b g L m cs l₀ h₀ l h C) (S : Stp Bx b l h l' h' C') (hp : C ≤ C') : Sx w p loose mean mg mb Bx A b g L m cs l₀ h₀ l' h' C' := X.move (X.toStp.trans S) S.ext (Int.le_trans X.pos hp) (S.grow.none X.u (size_of_ns X.F.ns))
theorem Sx.start (X : Sx w p loose mean mg mb Bx A b g L m cs l₀ h₀ l h C) : Sx w p loose mean mg mb Bx A b g L m cs l h l h C := { X with toStp := Stp.refl X.le X.box }
theorem Sx.gl (X : Sx w p loose mean mg mb Bx A b g L m cs l₀ h₀ l h C) : Gl w p loose mean mg mb h := Gl.ext ⟨X.H.K, X.H.T⟩ X.F.keep
theorem Sx.at (X : Sx w p loose mean mg mb Bx A b g L m cs l₀ h₀ l h C) (hf : env₀.frame = some L) (hk : env₀.scope.kind = .function) : At w p loose mean mg mb (A.deeper env₀) (h.hide b) := by
  obtain ⟨base, outer, B⟩ := X.H.B
  exact At.here X.H.K X.H.T B (fr_hide X.F X.hb X.hL) hf hk
theorem Sx.alloc (X : Sx w p loose mean mg mb Bx A b g L m cs l₀ h₀ l h C) (e : Ext h h') (hs : h.objs.size ≤ h'.objs.size) : Sx w p loose mean mg mb Bx A b g L m cs l₀ h₀ l h' C :=
  X.move (X.toStp.alloc X.bp e hs) (fun z o q => e _ _ (Heap.of_hide q)) X.pos X.u
theorem Sx.cell (X : Sx w p loose mean mg mb Bx A b g L m cs l₀ h₀ l h C) {c : Addr} {v : Value} (hq : (c, v) ∈ cs) : h.IsCell c (some v) := X.N _ hq

theorem Sx.enter (hB : BoxP Bx) (H : At w p loose mean mg mb A (h.hide b)) (hle : Le l (h.hide b).get?) (hbox : Bx h b C) (hC : 0 ≤ C) (F : Fr (h.hide b) L h' m) (e : Ext h h') (hL : L = h.objs.size) (hc : ∀ q ∈ cs, h'.IsCell q.1 (some q.2)) : Sx w p loose mean mg mb Bx A b (h.hide b) L m cs l h l h' C :=
  ⟨(Stp.refl hle hbox).alloc hB e (Nat.le_of_lt (hL ▸ size_of_ns F.ns)), hB, H, Heap.hide_self _ _, fun q => hB.there hbox (by rw [q, hL]; exact size_none h), F, hc, fun q hq r => hB.cell (hB.at hbox (e b)) (r ▸ hc q hq), unseen hle (hL ▸ size_none h), hC⟩
theorem Stp.took {l₀ l : Lk} {h₀ h h' : Heap} {C C' : Int} (S : Stp Bx b l₀ h₀ l h C) (e : Ext (h.hide b) h') (hs : h.objs.size ≤ h'.objs.size) (hb : Bx h' b C') : Stp Bx b l₀ h₀ l h' C' :=
  ⟨⟨S.grow, fun z o q => by
      have q' := S.le z o q
      have hz : z ≠ b := fun r => by rw [r, Heap.hide_self] at q'; cases q'
      rw [Heap.hide_ne _ hz]; exact e _ _ q', fun z o q => by
      have hz : z ≠ b := fun r => by rw [r, Heap.hide_self] at q; cases q
      exact e _ _ ((Heap.hide_ne _ hz).trans (S.ext z o q)), hb⟩, Nat.le_trans S.sz hs⟩
theorem Sx.w_take (X : Sx w p loose mean mg mb BoxAt A b g L m cs l₀ h₀ l h C) {n₁ e₁ e₂ : Expr} {pos : Pos} {many : Int} {Q : Value → Heap → Prop} (hf : env₀.frame = some L) (hk : env₀.scope.kind = .function) (hr : Room (A.deeper env₀) 1) (hC : C < 2 ^ 40) (hm0 : 0 < many) (hm1 : many < 2 ^ 29)
    (en : Ev prog w (A.deeper env₀) env n₁ h (· = .ref 225)) (eb : Ev prog w (A.deeper env₀) env e₁ h (· = .ref b)) (em : Ev prog w (A.deeper env₀) env e₂ h (IsI many))
    (k : ∀ d t C' h', 0 ≤ d → d < many → C ≤ C' → C' ≤ C + 1 → Ext (h.hide b) h' → Sx w p loose mean mg mb BoxAt A b g L m cs l₀ h₀ l h' C' → Q (.int d t) h')
    (he : eval (.Call n₁ [e₁, e₂] [] pos) env = (do callWith pos (← eval n₁ env) [] (backTo pos (starEach [e₁, e₂] env)) (backToKw pos (keywordEach [] env))) := by rfl)
    (s₁ : starEach [e₁, e₂] env = (false, eval e₁ env) :: starEach [e₂] env := by rfl) (s₂ : starEach [e₂] env = (false, eval e₂ env) :: starEach [] env := by rfl)
    (hp : (backTo pos (starEach [e₂] env)).any (·.1) = false := by rfl) :
    W prog w (A.deeper env₀) (eval (.Call n₁ [e₁, e₂] [] pos) env) h Q := by
  refine w_callee en (w_cw X.gl (by k_is) (w_arg (w_ev eb fun v hv => w_arg (w_ev em fun v' hv' => w_arg0 ⟨fun _ _ e => e, ?_⟩) s₂) s₁) s₁ hp) he
  subst hv
  obtain ⟨t, rfl⟩ := hv'
  refine W.mono (WC.call (take_w (X.at hf hk) X.box X.pos hC hm0 hm1 hr.room)) fun v h' q => ?_
  obtain ⟨d, C', ⟨t', rfl⟩, d0, d1, c0, c1, e, hs, hb⟩ := q
  exact k d t' C' h' d0 d1 c0 c1 e (X.move (X.toStp.took e hs hb) e (Int.le_trans X.pos c0) X.u)

theorem Sx.w_mk {f : Addr} {rest : List Value → Prop} {R N : Nat} {Post : Plan → Prop} (X : Sx w p loose mean mg mb BoxAt A b g L m cs l₀ h₀ l h C) (G : GenC prog w p loose mean mg mb f rest R N Post) (hf : env₀.frame = some L) (hk : env₀.scope.kind = .function) (hr : Room (A.deeper env₀) R)
    (hC : C + N ≤ 2 ^ 39) {as : List Value} (ha : rest as) : W prog w (A.deeper env₀) (call (.ref f) (.ref b :: as)) h fun v h' => GenQ b l h C N Post v h' :=
  WC.call (G _ _ _ _ _ _ ha hr (X.at hf hk) X.le X.box X.pos hC)

theorem Sx.w_mk3 {f : Addr} {R N : Nat} {Post : Plan → Prop} {y : Str} {d : Int} (X : Sx w p loose mean mg mb BoxAt A b g L m cs l₀ h₀ l h C) (G : GenC prog w p loose mean mg mb f (Args2 y d) R N Post) (hf : env₀.frame = some L) (hk : env₀.scope.kind = .function) (hr : Room (A.deeper env₀) R)
    (hC : C + N ≤ 2 ^ 39) {n₁ e₁ e₂ e₃ : Expr} {pos : Pos} {Q : Value → Heap → Prop} (hf' : keepIn (KK w.params) (.ref f) = true)
    (en : Ev prog w (A.deeper env₀) env n₁ h (· = .ref f)) (eb : Ev prog w (A.deeper env₀) env e₁ h (· = .ref b)) (es : Ev prog w (A.deeper env₀) env e₂ h (IsS y)) (ed : Ev prog w (A.deeper env₀) env e₃ h (IsI d))
    (k : ∀ v h', GenQ b l h C N Post v h' → Q v h')
    (he : eval (.Call n₁ [e₁, e₂, e₃] [] pos) env = (do callWith pos (← eval n₁ env) [] (backTo pos (starEach [e₁, e₂, e₃] env)) (backToKw pos (keywordEach [] env))) := by rfl)
    (s₁ : starEach [e₁, e₂, e₃] env = (false, eval e₁ env) :: starEach [e₂, e₃] env := by rfl) (s₂ : starEach [e₂, e₃] env = (false, eval e₂ env) :: starEach [e₃] env := by rfl) (s₃ : starEach [e₃] env = (false, eval e₃ env) :: starEach [] env := by rfl)
    (hp : (backTo pos (starEach [e₂, e₃] env)).any (·.1) = false := by rfl) :
    W prog w (A.deeper env₀) (eval (.Call n₁ [e₁, e₂, e₃] [] pos) env) h Q := by
  refine w_callee en (w_cw X.gl hf' (w_arg (w_ev eb fun v hv => w_arg (w_ev es fun v' hv' => w_arg (w_ev ed fun v'' hv'' => w_arg0 ⟨fun _ _ e => e, ?_⟩) s₃) s₂) s₁) s₁ hp) he
  subst hv
  obtain ⟨t, rfl⟩ := hv'
  obtain ⟨t', rfl⟩ := hv''
  exact W.mono (X.w_mk G hf hk hr hC ⟨_, _, rfl⟩) k
theorem Sx.w_mk2 {f : Addr} {R N : Nat} {Post : Plan → Prop} {d : Int} (X : Sx w p loose mean mg mb BoxAt A b g L m cs l₀ h₀ l h C) (G : GenC prog w p loose mean mg mb f (Args1 d) R N Post) (hf : env₀.frame = some L) (hk : env₀.scope.kind = .function) (hr : Room (A.deeper env₀) R)
    (hC : C + N ≤ 2 ^ 39) {n₁ e₁ e₂ : Expr} {pos : Pos} {Q : Value → Heap → Prop} (hf' : keepIn (KK w.params) (.ref f) = true)
    (en : Ev prog w (A.deeper env₀) env n₁ h (· = .ref f)) (eb : Ev prog w (A.deeper env₀) env e₁ h (· = .ref b))
    (ed : W prog w (A.deeper env₀) (eval e₂ env) h fun v h' => IsI d v ∧ Ext h h' ∧ (Ext h h' → h₀.objs.size ≤ h'.objs.size))
    (k : ∀ v h₁ h', Sx w p loose mean mg mb BoxAt A b g L m cs l₀ h₀ l h₁ C → GenQ b l h₁ C N Post v h' → Q v h')
    (he : eval (.Call n₁ [e₁, e₂] [] pos) env = (do callWith pos (← eval n₁ env) [] (backTo pos (starEach [e₁, e₂] env)) (backToKw pos (keywordEach [] env))) := by rfl)
    (s₁ : starEach [e₁, e₂] env = (false, eval e₁ env) :: starEach [e₂] env := by rfl) (s₂ : starEach [e₂] env = (false, eval e₂ env) :: starEach [] env := by rfl)
    (hp : (backTo pos (starEach [e₂] env)).any (·.1) = false := by rfl) :
    W prog w (A.deeper env₀) (eval (.Call n₁ [e₁, e₂] [] pos) env) h Q := by
  refine w_callee en (w_cw X.gl hf' (w_arg (w_ev eb fun v hv => w_arg (W.mono ed fun v' h₁ q => w_arg0 ⟨q.2.1, ?_⟩) s₂) s₁) s₁ hp) he
  subst hv
  obtain ⟨⟨t, rfl⟩, e, hs⟩ := q
  have X₁ := X.move (X.toStq.alloc X.bp e |> fun S => (⟨S, hs e⟩ : Stp BoxAt b l₀ h₀ l h₁ C)) (fun z o q => e _ _ (Heap.of_hide q)) X.pos X.u
  exact W.mono (X₁.w_mk G hf hk hr hC ⟨_, rfl⟩) fun v h' q => k v h₁ h' X₁ q

theorem Sx.laid (X : Sx w p loose mean mg mb Bx A b g L m cs l₀ h₀ l h C) {vs : List Value} (hs : h'.objs.size = h.objs.size + 1) (e : Ext h h') (hl : h'.IsList h.objs.size vs.toArray) :
    ∃ l', Le l l' ∧ isL l' (.ref h.objs.size) vs ∧ Sx w p loose mean mg mb Bx A b g L m cs l₀ h₀ l' h' C := by
  obtain ⟨l', S, hle, hli, hu⟩ := X.toStp.laid X.bp hs e hl
  exact ⟨l', hle, ⟨_, rfl, hli⟩, X.move S (fun z o q => e _ _ (Heap.of_hide q)) X.pos ((hu L (Nat.ne_of_lt (size_of_ns X.F.ns))).trans X.u)⟩
theorem Sx.w_lay (X : Sx w p loose mean mg mb Bx A b g L m cs l₀ h₀ l h C) {vs : List Value} {Q : Value → Heap → Prop} {A' : Around} (hsz : vs.length ≤ sizeLine)
    (k : ∀ l' h', Le l l' → isL l' (.ref h.objs.size) vs → Sx w p loose mean mg mb Bx A b g L m cs l₀ h₀ l' h' C → Q (.ref h.objs.size) h') : W prog w A' (newList vs) h Q :=
  w_newlist hsz fun h' hs e hl => by
    obtain ⟨l', hle, hli, X'⟩ := X.laid hs e hl
    exact k l' h' hle hli X'
theorem Sx.gen (X : Sx w p loose mean mg mb BoxAt A b g L m cs l h l' h' C') {pl : Plan} {v : Value} {N : Nat} {Post : Plan → Prop} (hp : Post pl) (hv : PlanIn l' pl v) (c0 : C ≤ C') (c1 : C' ≤ C + N) : GenQ b l h C N Post v h' := ⟨pl, l', C', hp, hv, X.toStp, c0, c1⟩
theorem Sx.w_tag (_ : Sx w p loose mean mg mb Bx A b g L m cs l₀ h₀ l h C) {e : Expr} {x : Str} {kk : Nat} {p₁ pos : Pos} {Q : Value → Heap → Prop} {A' : Around}
    (y : W prog w A' (eval e env) h fun v h₁ => ∃ l₁ C₁, Sx w p loose mean mg mb Bx A b g L m cs l₀ h₀ l₁ h₁ C₁ ∧ ∀ a t l₂ h₂, Le l₁ l₂ → isL l₂ (.ref a) [.str x t, v] → Sx w p loose mean mg mb Bx A b g L m cs l₀ h₀ l₂ h₂ C₁ → Q (.ref a) h₂)
    (s₁ : starEach [.Constant (.str x) kk p₁, e] env = (false, eval (.Constant (.str x) kk p₁) env) :: starEach [e] env := by rfl) (s₂ : starEach [e] env = (false, eval e env) :: starEach [] env := by rfl) : W prog w A' (eval (.List [.Constant (.str x) kk p₁, e] pos) env) h Q :=
  w_list (w_arg (w_ev ev_str fun v hv => w_arg (W.mono y fun v' h₁ q => w_arg0 (by
    obtain ⟨t, rfl⟩ := hv
    obtain ⟨l₁, C₁, X, k⟩ := q
    exact X.w_lay (by show 2 ≤ sizeLine; decide) fun l₂ h₂ hle hl X₂ => k _ t l₂ h₂ hle hl X₂)) s₂) s₁)
theorem Sx.compR {α : Type} {R : Lk → α → Value → Prop} (hR : ∀ l l' a v, Le l l' → R l a v → R l' a v) {Rel : Nat → Int → α → Int → Prop} (hRel : ∀ {i C a C'}, Rel i C a C' → C ≤ C') {n : Nat} {P : Nat → Value → Prop} {I : Addr} {fp : List Addr} {St : Nat → Heap → Prop} {h₂ : Heap} {scope : Scope} {cl : List (Str × Addr)} {x : Str} {elt : Expr} {Fin : Value → Addr → Heap → Prop}
    (X : Sx w p loose mean mg mb Bx A b g L m cs l₀ h₀ l h C) (src : Src prog w (A.deeper env₀) b n P h h₂ I fp St) (sz : n ≤ sizeLine)
    (step : ∀ i v h₃ l₃ C₃ m' as, i < n → P i v → as.length = i → Chain Rel as C C₃ → h₃.Ns (h₂.objs.size + 1) m' → m' x = some v → Le l l₃ → Sx w p loose mean mg mb Bx A b g L m cs l₃ h₃ l₃ h₃ C₃ →
      W prog w (A.deeper env₀) (eval elt (compEnvC scope cl (h₂.objs.size + 1) env)) h₃ (MkQ R Bx b l₃ h₃ C₃ (Rel i)))
    (fin : ∀ as l' C' h' ys D, as.length = n → Chain Rel as C C' → AllR R l' as ys → isL l' (.ref D) ys → Le l l' → l' (h₂.objs.size + 1) = none → Sx w p loose mean mg mb Bx A b g L m cs l₀ h₀ l' h' C' → Fin (.ref D) (h₂.objs.size + 1) h') :
    CompW prog w (A.deeper env₀) env scope cl x elt Fin (.ref I) h₂ :=
  have up : ∀ {as C C'}, Chain Rel as C C' → C ≤ C' := fun x => by induction x with | nil => exact Int.le_refl _ | snoc _ r ih => exact Int.le_trans ih (hRel r)
  CompG.comp X.bp hR ⟨src, sz, X.le, X.box,
    fun i v h₃ l₃ C₃ m' as hi hv hl hc S hn hm => step i v h₃ l₃ C₃ m' as hi hv hl hc hn hm S.grow.1 (X.next S (up hc)).start,
    fun as l' C' h' ys D hl hc hi hL S hu => fin as l' C' h' ys D hl hc hi ⟨_, rfl, hL⟩ S.grow.1 hu (X.next S (up hc))⟩
theorem planMono (l l' : Lk) (a : Plan) (v : Value) (e : Le l l') (x : PlanIn l a v) : PlanIn l' a v := x.mono e
theorem Sx.comp {n N : Nat} {P : Nat → Value → Prop} {Post : Nat → Plan → Prop} {I : Addr} {fp : List Addr} {St : Nat → Heap → Prop} {h₂ : Heap} {scope : Scope} {cl : List (Str × Addr)} {x : Str} {elt : Expr} {Fin : Value → Addr → Heap → Prop}
    (X : Sx w p loose mean mg mb BoxAt A b g L m cs l₀ h₀ l h C) (src : Src prog w (A.deeper env₀) b n P h h₂ I fp St) (sz : n ≤ sizeLine) 
    (step : ∀ i v h₃ l₃ C₃ m', i < n → P i v → C ≤ C₃ → C₃ ≤ C + i * N → h₃.Ns (h₂.objs.size + 1) m' → m' x = some v → Sx w p loose mean mg mb BoxAt A b g L m cs l₃ h₃ l₃ h₃ C₃ →
      W prog w (A.deeper env₀) (eval elt (compEnvC scope cl (h₂.objs.size + 1) env)) h₃ (GenQ b l₃ h₃ C₃ N (Post i)))
    (fin : ∀ pls l' C' h' ys D, pls.length = n → (∀ j pl, pls[j]? = some pl → Post j pl) → PlansIn l' pls ys → isL l' (.ref D) ys → C ≤ C' → C' ≤ C + n * N → Le l l' → l' (h₂.objs.size + 1) = none → Sx w p loose mean mg mb BoxAt A b g L m cs l₀ h₀ l' h' C' → Fin (.ref D) (h₂.objs.size + 1) h') :
    CompW prog w (A.deeper env₀) env scope cl x elt Fin (.ref I) h₂ :=
  X.compR planMono (Rel := fun i C pl C' => Post i pl ∧ C ≤ C' ∧ C' ≤ C + N) (fun x => x.2.1) src sz
    (fun i v h₃ l₃ C₃ m' as hi hv hl hc hn hm _ X₃ => W.mono (step i v h₃ l₃ C₃ m' hi hv hc.gen.2.1 (hl ▸ hc.gen.2.2) hn hm X₃) fun _ _ q => q.mk)
    (fun as l' C' h' ys D hl hc hi hL e hu X' => fin as l' C' h' ys D hl hc.gen.1 hi.plans hL hc.gen.2.1 (hl ▸ hc.gen.2.2) e hu X')
theorem Sx.stored (X : Sx w p loose mean mg mb Bx A b g L m cs l₀ h₀ l h C) {m' : Str → Option Value} {c : Addr} (hL : L = h₀.objs.size) (hc : h₀.objs.size ≤ c) (hu : l c = none) (hcb : c ≠ b) (hcc : ∀ q ∈ cs, q.1 ≠ c ∧ q.1 ≠ L) (hn : h'.Ns L m') (e : ∀ z o, z ≠ L → z ≠ c → h.get? z = some o → h'.get? z = some o) :
    Sx w p loose mean mg mb Bx A b g L m' cs l₀ h₀ l h' C where
  grow := X.grow
  le := fun z o q => by
    have q' := X.le z o q
    have hz : z ≠ b := fun r => by rw [r, Heap.hide_self] at q'; cases q'
    rw [Heap.hide_ne _ hz] at q' ⊢
    exact e z o (fun r => by rw [r, X.u] at q; cases q) (fun r => by rw [r, hu] at q; cases q) q'
  ext := fun z o q => by
    have hlt : z < h₀.objs.size := Heap.lt_size (Heap.of_hide q)
    exact e z o (Nat.ne_of_lt (hL ▸ hlt)) (Nat.ne_of_lt (Nat.lt_of_lt_of_le hlt hc)) (X.ext z o q)
  box := X.bp.at X.box fun o => e b o X.hL (Ne.symm hcb)
  bp := X.bp
  sz := Nat.le_of_lt (hL ▸ size_of_ns hn)
  H := X.H
  hb := X.hb
  hL := X.hL
  F := ⟨hn, fun z o q => by
    have hlt : z < L := Nat.lt_of_lt_of_le (Heap.lt_size q) X.F.above
    exact e z o (Nat.ne_of_lt hlt) (Nat.ne_of_lt (Nat.lt_of_lt_of_le (hL ▸ hlt) hc)) (X.F.keep z o q), X.F.above⟩
  N := fun q hq => IsCell_ext (X.N q hq) fun o => e q.1 o (hcc q hq).2 (hcc q hq).1
  D := X.D
  u := X.u
  pos := X.pos
theorem Sx.w_st (X : Sx w p loose mean mg mb Bx A b g L m cs l₀ h₀ l h C) {x : Str} {v : Value} {A' : Around} {Q : Unit → Heap → Prop} (hL : L = h₀.objs.size) (hcc : ∀ q ∈ cs, q.1 ≠ L)
    (k : ∀ h', Sx w p loose mean mg mb Bx A b g L (fun y => if y = x then some v else m y) cs l₀ h₀ l h' C → Q () h') (hL' : env.locals = L := by rfl) (hk : env.scope.kind = .function := by rfl) (hl : env.kindOf x = some .local := by rfl) : W prog w A' (storeName env x v) h Q :=
  Mine.w_st X.F (fun h' F hs => k h' (X.stored hL (Nat.le_of_eq hL.symm) X.u (Ne.symm X.hL) (fun q hq => ⟨hcc q hq, hcc q hq⟩) F.ns fun z o a _ => hs.extBut z o a)) hL' hk hl
theorem Sx.asgEnd {n : Nat} {P : Nat → Value → Prop} {I : Addr} {fp : List Addr} {St : Nat → Heap → Prop} {h₂ : Heap} {y : Str} {Q : Flow → Heap → Prop} {D : Addr} {A' : Around} (X : Sx w p loose mean mg mb Bx A b g L m cs l₀ h₀ l h C) (hL : L = h₀.objs.size) (hL' : env.locals = L) (hcc : ∀ q ∈ cs, q.1 ≠ L) (src : Src prog w A' b n P h h₂ I fp St)
    (hu : l' (h₂.objs.size + 1) = none) (X' : Sx w p loose mean mg mb Bx A b g L m cs l₀ h₀ l' h' C') (k : ∀ h'', Sx w p loose mean mg mb Bx A b g L (fun z => if z = y then some (.ref D) else m z) cs l₀ h₀ l' h'' C' → Q .next h'') :
    env.locals ≠ h₂.objs.size + 1 ∧ (∃ m, h'.Ns env.locals m ∧ ∀ h'', h''.Ns env.locals (fun z => if z = y then some (.ref D) else m z) → (∀ z o, z ≠ env.locals → z ≠ h₂.objs.size + 1 → h'.get? z = some o → h''.get? z = some o) → Q .next h'') := by
  have hlt : ∀ {a}, h.get? a ≠ none → a < h₂.objs.size := fun {a} q => by
    cases e : h.get? a with
    | none => exact absurd e q
    | some o => exact Heap.lt_size (src.ext _ _ e)
  have hltL : L < h₂.objs.size := hlt (by obtain ⟨o, _, _, ho, _⟩ := X.F.ns; rw [ho]; exact fun e => nomatch e)
  refine ⟨by rw [hL']; exact Nat.ne_of_lt (Nat.lt_succ_of_lt hltL), m, by rw [hL']; exact X'.F.ns, fun h'' hn e => k h'' ?_⟩
  rw [hL'] at hn e
  refine X'.stored (c := h₂.objs.size + 1) hL (Nat.le_trans X.sz (Nat.le_trans src.sz (Nat.le_succ _))) hu (Nat.ne_of_gt (Nat.lt_succ_of_lt (hlt (X.bp.there X.box)))) (fun q hq => ⟨Nat.ne_of_lt (Nat.lt_succ_of_lt (hlt ?_)), hcc q hq⟩) hn e
  obtain ⟨o, ho, _⟩ := X.N q hq
  rw [ho]; exact fun e => nomatch e
theorem Sx.asgcomp {n N : Nat} {P : Nat → Value → Prop} {Post : Nat → Plan → Prop} {I : Addr} {fp : List Addr} {St : Nat → Heap → Prop} {h₂ : Heap} {scope : Scope} {cl : List (Str × Addr)} {x y : Str} {elt : Expr} {Q : Flow → Heap → Prop}
    (X : Sx w p loose mean mg mb BoxAt A b g L m cs l₀ h₀ l h C) (hL : L = h₀.objs.size) (hL' : env.locals = L) (hcc : ∀ q ∈ cs, q.1 ≠ L) (src : Src prog w (A.deeper env₀) b n P h h₂ I fp St) (sz : n ≤ sizeLine) 
    (step : ∀ i v h₃ l₃ C₃ m', i < n → P i v → C ≤ C₃ → C₃ ≤ C + i * N → h₃.Ns (h₂.objs.size + 1) m' → m' x = some v → Sx w p loose mean mg mb BoxAt A b g L m cs l₃ h₃ l₃ h₃ C₃ →
      W prog w (A.deeper env₀) (eval elt (compEnvC scope cl (h₂.objs.size + 1) env)) h₃ (GenQ b l₃ h₃ C₃ N (Post i)))
    (fin : ∀ pls l' C' h' ys D, pls.length = n → (∀ j pl, pls[j]? = some pl → Post j pl) → PlansIn l' pls ys → isL l' (.ref D) ys → C ≤ C' → C' ≤ C + n * N → Le l l' → Sx w p loose mean mg mb BoxAt A b g L (fun z => if z = y then some (.ref D) else m z) cs l₀ h₀ l' h' C' → Q .next h') :
    CompW prog w (A.deeper env₀) env scope cl x elt (fun v C h' => env.locals ≠ C ∧ (∃ m, h'.Ns env.locals m ∧ ∀ h'', h''.Ns env.locals (fun z => if z = y then some v else m z) → (∀ z o, z ≠ env.locals → z ≠ C → h'.get? z = some o → h''.get? z = some o) → Q .next h'')) (.ref I) h₂ :=
  X.comp src sz step fun pls l' C' h' ys D a1 a2 a3 a4 a5 a6 a7 hu X' => X.asgEnd hL hL' hcc src hu X' fun h'' X'' => fin pls l' C' h'' ys D a1 a2 a3 a4 a5 a6 a7 X''
end
section
variable {prog : Program} {w : World} {p : Program} {loose : List Str} {mean : ExcName → Option Value} {mg mb : Str → Option Value} {A : Around} {env : Env} {h : Heap} {b : Addr}
theorem w_cwtype {T : String} {e : Expr} {rest : List Expr} {pos : Pos} {Q : Value → Heap → Prop} (x : W prog w A (spliced (backTo pos (starEach (e :: rest) env))) h fun vs h' => W prog w A (call (.type T) vs) h' Q)
    (he : starEach (e :: rest) env = (false, eval e env) :: starEach rest env := by rfl) (hplain : (backTo pos (starEach rest env)).any (·.1) = false := by rfl) : W prog w A (callWith pos (.type T) [] (backTo pos (starEach (e :: rest) env)) []) h Q :=
  W.mk fun s Qs hh k => Pv.callWith_type1 (x.run s _ hh fun _ _ _ q => q.run _ _ rfl fun _ _ _ q => k _ _ _ q) he hplain
theorem w_cwb {id : String} {first : List Value} {e : Expr} {rest : List Expr} {pos : Pos} {Q : Value → Heap → Prop} (x : W prog w A (spliced (backTo pos (starEach (e :: rest) env))) h fun vs h' => W prog w A (call (.builtin id) (first ++ vs)) h' Q)
    (he : starEach (e :: rest) env = (false, eval e env) :: starEach rest env := by rfl) (hplain : (backTo pos (starEach rest env)).any (·.1) = false := by rfl) : W prog w A (callWith pos (.builtin id) first (backTo pos (starEach (e :: rest) env)) []) h Q :=
  W.mk fun s Qs hh k => callWith_method1 (x.run s _ hh fun _ _ _ q => q.run _ _ rfl fun _ _ _ q => k _ _ _ q) he hplain
theorem w_cwb0 {id : String} {first : List Value} {pos : Pos} {Q : Value → Heap → Prop} (x : W prog w A (call (.builtin id) first) h Q) : W prog w A (callWith pos (.builtin id) first (backTo pos (starEach [] env)) []) h Q :=
  W.mk fun s Qs hh k => callWith_method0 (x.run s _ hh fun _ _ _ q => k _ _ _ q)
theorem w_rngF (hh : A.handled = none) {d : Int} {t : Tok} {Q : Value → Heap → Prop} (hb : h.get? b ≠ none) (hs : Builtin.Range.small 0 d 1 = true) (hn : Builtin.Range.rangeSize 0 d 1 = (d.toNat : Int))
    (k : ∀ r h', h'.objs.size = h.objs.size + 1 → Ext h h' → (∀ Q' : Value → Heap → Prop, (∀ I fp St h₂, Src prog w A b d.toNat (fun i v => ∃ t, v = .int (0 + i * 1) t) h' h₂ I fp St → fp = [I] → (∀ j h, St j h → h.get? I ≠ none) → Q' (.ref I) h₂) → W prog w A (pyIter (.ref r)) h' Q') → Q (.ref r) h') : W prog w A (call (.type "range") [.int d t]) h Q :=
  W.mk fun s Qs hh' kk => call_range_1 (by
    subst hh'
    refine kk _ _ _ (k _ _ (Heap.size_push _ _) (fun _ _ e => Heap.get?_push_of_some _ e) fun Q' kq => W.mk fun s' Qs' hs' kk' => ?_)
    refine wpAny_pyIter_range (by rw [hs']; exact IsRange.new _ _ _ _ _ _ _) hs ?_
    rw [← hs'] at kq
    refine kk' _ _ s'.toks (kq _ _ _ _ ⟨Walks.range hh _ 0 1 d.toNat, ?_, fun _ _ e => Heap.get?_push_of_some _ e, size_none _, by rw [Heap.size_push]; exact Nat.le_succ _, by simp, fun y hy => ?_⟩ rfl fun j h st => ?_)
    · show IsRangeIter _ _ _ _ _
      rw [hn]
      have e1 : (0 : Int) + ((0 : Nat) : Int) * 1 = 0 := by decide
      have e2 : ((d.toNat : Nat) : Int) - ((0 : Nat) : Int) = (d.toNat : Int) := by omega
      rw [e1, e2]
      exact Heap.get?_push_size _ rfl
    · simp only [List.mem_singleton] at hy
      subst hy
      refine ⟨by rw [Heap.size_push]; exact Nat.lt_succ_self _, fun q => ?_⟩
      have : b < s'.heap.objs.size := by
        rw [hs', Heap.size_push]
        refine Nat.lt_succ_of_lt ?_
        cases e : s.heap.get? b with
        | none => exact absurd e hb
        | some o => exact Heap.lt_size e
      rw [q] at this
      exact Nat.lt_irrefl _ this
    · have st' : h.get? _ = some _ := st
      rw [st']; exact fun e => nomatch e)
theorem w_rng (hh : A.handled = none) {d : Int} {t : Tok} {Q : Value → Heap → Prop} (hb : h.get? b ≠ none) (hs : Builtin.Range.small 0 d 1 = true) (hn : Builtin.Range.rangeSize 0 d 1 = (d.toNat : Int))
    (k : ∀ r h', h'.objs.size = h.objs.size + 1 → Ext h h' → (∀ Q' : Value → Heap → Prop, (∀ I fp St h₂, Src prog w A b d.toNat (fun i v => ∃ t, v = .int (0 + i * 1) t) h' h₂ I fp St → Q' (.ref I) h₂) → W prog w A (pyIter (.ref r)) h' Q') → Q (.ref r) h') : W prog w A (call (.type "range") [.int d t]) h Q :=
  w_rngF hh hb hs hn fun r h' z e f => k r h' z e fun Q' kq => f Q' fun I fp St h₂ src _ _ => kq I fp St h₂ src
theorem small3 {d : Int} (h0 : 0 ≤ d) (h1 : d < 3) : Builtin.Range.small 0 d 1 = true ∧ Builtin.Range.rangeSize 0 d 1 = (d.toNat : Int) := by
  have : d = 0 ∨ d = 1 ∨ d = 2 := by omega
  rcases this with rfl | rfl | rfl <;> decide
end
end Mine

end

section
open PySem PySem.W PyProof.Rows PySem.Calls
set_option Elab.async false
set_option maxRecDepth 100000
set_option maxHeartbeats 1000000
set_option linter.unusedVariables false
set_option pp.deepTerms false
set_option pp.deepTerms.threshold 4
set_option pp.maxSteps 4000
namespace Mine
section
variable {prog : Program} {w : World} {p : Program} {loose : List Str} {mean : ExcName → Option Value} {mg mb : Str → Option Value}
theorem some_w {y : Str} {d : Int} {R N : Nat} {Post : Plan → Prop} (X : GenC prog w p loose mean mg mb 242 (Args2 y d) R N Post) (hR : 1 ≤ R) :
    GenC prog w p loose mean mg mb 235 (Args2 y d) (R + 1) (1 + 2 * N) fun pl => ∃ pls, pl = .list pls ∧ pls.length ≤ 2 ∧ ∀ q ∈ pls, Post q := by
  intro A h l b C as has hr H hle hbox hC0 hC1
  obtain ⟨t, u, rfl⟩ := has
  refine' wc_enterC (binds := [(st "box", .ref b), (st "sort", .str y t), (st "deep", .int d u)]) (news := []) H (hide_ext _ _) (hide_sz _ _) (fun _ h => nomatch h) ?k6 ?k7 hr.room ?k9 ?kB ?kD ?_ ?c2 ?c3 ?c4
  case k6 => k_is
  case k7 => k_is
  case k9 => exact fun _ _ => BindsTo.of_eq rfl
  case kB => exact rfl
  case kD => decide +kernel
  case c2 => exact rfl
  case c3 => exact rfl
  case c4 => exact rfl
  intro L' h₁ cells base outer hA F N' Y B e₁ _ hL
  obtain ⟨o1, o2, o3, rfl, d1, d2, d3⟩ := Y.three
  with_unfolding_all (change W _ _ _ (execs (_ :: _) (envOfC _ (Scope.mk _ _ _ _ _) _ _ _)) _ _)
  have c1 : h₁.IsCell (L' + 3) (some (.int d u)) := ⟨o1, (N' _ (.head _)).1, d1⟩
  have c2 : h₁.IsCell (L' + 2) (some (.str y t)) := ⟨o2, (N' _ (.tail _ (.head _))).1, d2⟩
  have c3 : h₁.IsCell (L' + 1) (some (.ref b)) := ⟨o3, (N' _ (.tail _ (.tail _ (.head _)))).1, d3⟩
  have X₁ := Sx.enter BoxAt.p (cs := [(L' + 3, .int d u), (L' + 2, .str y t), (L' + 1, .ref b)]) H hle hbox hC0 F e₁ hL (by intro q hq; simp only [List.mem_cons, List.not_mem_nil, or_false] at hq; rcases hq with rfl | rfl | rfl <;> assumption)
  have hrd := fun e => hr.deeper e
  refine w_cons (w_ret (X₁.w_tag ?_))
  refine' w_comp ?q1 ?q2 ?q3 ?q4 ?q5 ?q6
  case q1 => exact rfl
  case q2 => decide
  case q3 => exact rfl
  case q4 => decide
  case q5 => exact rfl
  refine w_callee (ev_boot X₁.gl (by k_is) boot_range (by decide)) (w_cwtype (w_arg (X₁.w_take rfl rfl ((hrd _).less hR) (by omega) (by decide) (by decide) (ev_glob X₁.gl (by k_is)) (ev_cell rfl c3 rfl) ev_int fun n t' C₂ h₂ n0 n1 a0 a1 _ X₂ => w_arg0 ?_)))
  obtain ⟨r0, r1⟩ := small3 n0 n1
  refine w_rng (b := b) (hrd _).1 X₂.box.there r0 r1 fun r h₃ hs₃ e₃ kk => ?_
  refine kk _ fun I fp St h₄ src => ?_
  have X₃ := X₂.alloc e₃ (by omega)
  refine X₃.comp (N := N) (Post := fun _ => Post) src (Nat.le_trans (by omega) (by decide : 3 ≤ sizeLine)) ?_ ?_
  · intro i v h₅ l₅ C₅ m' hi hv b0 b1 hn hm X₅
    have : (i : Int) * N ≤ 1 * N := Int.mul_le_mul_of_nonneg_right (by omega) (by omega)
    exact X₅.w_mk3 X rfl rfl (hrd _) (by omega) (by k_is) (ev_glob X₅.gl (by k_is)) (ev_cell rfl (X₅.cell (.tail _ (.tail _ (.head _)))) rfl) (ev_cell rfl (X₅.cell (.tail _ (.head _))) ⟨_, rfl⟩) (ev_cell rfl (X₅.cell (.head _)) ⟨_, rfl⟩) fun v h' q => q
  · intro pls l₅ C₅ h₅ ys D hl hP hi hD b0 b1 hle₅ _ X₅
    have : ((n.toNat : Nat) : Int) * N ≤ 2 * N := Int.mul_le_mul_of_nonneg_right (by omega) (by omega)
    refine ⟨l₅, C₅, X₅, fun a t l₆ h₆ hle₆ hl₆ X₆ => X₆.gen ⟨pls, rfl, by omega, fun q hq => ?_⟩ ?_ (by omega) (by omega)⟩
    · obtain ⟨j, hj, rfl⟩ := List.mem_iff_getElem.mp hq
      exact hP j _ (List.getElem?_eq_getElem hj)
    · simp only [PlanIn]
      exact ⟨_, _, ys, hl₆, hD.mono hle₆, hi.mono hle₆⟩
end
end Mine

end

section
open PySem PySem.W PyProof.Rows PySem.Calls
set_option Elab.async false
set_option maxRecDepth 100000
set_option maxHeartbeats 1000000
set_option linter.unusedVariables false
namespace Mine
section
variable {prog : Program} {w : World} {p : Program} {loose : List Str} {mean : ExcName → Option Value} {mg mb : Str → Option Value} {A : Around} {env env₀ : Env} {g h h' h₀ : Heap} {l l' l₀ : Lk} {L b : Addr} {m : Str → Option Value} {cs : List (Addr × Value)} {C C' : Int}

theorem wt_or {l r : Expr} {pos : Pos} {Q : Bool → Heap → Prop} (x : W prog w A (isTrue l env (eval l env)) h fun c h' => if c then Q true h' else W prog w A (isTrue r env (eval r env)) h' Q) : W prog w A (isTrue (.BoolOp .Or [l, r] pos) env (eval (.BoolOp .Or [l, r] pos) env)) h Q :=
  W.mk fun s Qs hs k => wpAny_isTrue_BoolOp (wpAny_allTrue_Or_cons (x.run s _ hs fun c h' tk q => by
    cases c with
    | true => exact k _ _ _ q
    | false => exact wpAny_allTrue_Or_cons (W.run q _ _ rfl fun c h'' tk' q' => by
        cases c with
        | true => exact k _ _ _ q'
        | false => exact wpAny_allTrue_Or_nil (k _ _ _ q'))))
theorem wt_and {l r : Expr} {pos : Pos} {Q : Bool → Heap → Prop} (x : W prog w A (isTrue l env (eval l env)) h fun c h' => if c then W prog w A (isTrue r env (eval r env)) h' Q else Q false h') : W prog w A (isTrue (.BoolOp .And [l, r] pos) env (eval (.BoolOp .And [l, r] pos) env)) h Q :=
  W.mk fun s Qs hs k => wpAny_isTrue_BoolOp (wpAny_allTrue_And_cons (x.run s _ hs fun c h' tk q => by
    cases c with
    | false => exact k _ _ _ q
    | true => exact wpAny_allTrue_And_cons (W.run q _ _ rfl fun c h'' tk' q' => by
        cases c with
        | false => exact k _ _ _ q'
        | true => exact wpAny_allTrue_And_nil (k _ _ _ q'))))
theorem w_ifW {t : Expr} {b o : List Stmt} {pos : Pos} {Q : Flow → Heap → Prop} (x : W prog w A (isTrue t env (eval t env)) h fun c h' => if c then W prog w A (execs b env) h' Q else W prog w A (execs o env) h' Q) : W prog w A (exec (.If t b o pos) env) h Q :=
  W.mk fun s Qs hs k => wpAny_If (x.run s _ hs fun c h' tk q => by
    cases c with
    | true => simp only [if_true] at q ⊢; exact q.run _ _ rfl fun b h'' tk' q' => k b h'' tk' q'
    | false => simp only [Bool.false_eq_true, if_false] at q ⊢; exact q.run _ _ rfl fun b h'' tk' q' => k b h'' tk' q')
theorem ts_eqs {l r : Expr} {pos : Pos} {x y : Str} (a : Ev prog w A env l h (IsS x)) (c : Ev prog w A env r h (IsS y)) (hb : behindInMarks .Eq r = false := by rfl) : Ts prog w A env (.Compare l [.Eq] [r] pos) h fun c => c = true ↔ x = y :=
  ts_cmp a c (fun _ _ ⟨_, e⟩ ⟨_, e'⟩ => by
    subst e e'
    exact W.still fun s _ _ k => PySem.P.eq_str (k _ s.toks ⟨_, rfl, by
      rw [beq_iff_eq]
      exact ⟨fun e => by cases x; cases y; exact congrArg _ (by simpa using e), fun e => by rw [e]⟩⟩)) hb
theorem ts_ins {l r : Expr} {pos : Pos} {x y : Str} (a : Ev prog w A env l h (IsS x)) (c : Ev prog w A env r h (IsS y)) (hb : behindInMarks .In r = false := by rfl) : Ts prog w A env (.Compare l [.In] [r] pos) h fun c => c = !(PySem.Builtin.Str.occurrences y x 0 y.length 1).isEmpty :=
  ts_cmp a c (fun _ _ ⟨_, e⟩ ⟨_, e'⟩ => by subst e e'; exact W.still fun s _ _ k => PySem.P.in_str (k _ s.toks ⟨_, rfl, rfl⟩)) hb
theorem wt_eqi {l r : Expr} {pos : Pos} {n : Int} {Q : Bool → Heap → Prop} (x : W prog w A (eval l env) h fun a h₁ => ∃ i t, a = .int i t ∧ Ev prog w A env r h₁ (IsI n) ∧ Q (i == n) h₁) (hb : behindInMarks .Eq r = false := by rfl) : W prog w A (isTrue (.Compare l [.Eq] [r] pos) env (eval (.Compare l [.Eq] [r] pos) env)) h Q :=
  W.mk fun s Qs hs k => wpAny_isTrue_Compare1 (x.run s _ hs fun a h₁ tk q => by
    obtain ⟨i, t, rfl, e, q⟩ := q
    exact e.run _ _ rfl fun v h' tk' q' => by
      obtain ⟨rfl, u, rfl⟩ := q'
      exact eq_int (wpAny_truthy_bool (k _ _ _ q))) hb
theorem we_eqi {l r : Expr} {pos : Pos} {n : Int} {Q : Value → Heap → Prop} (x : W prog w A (eval l env) h fun a h₁ => ∃ i t, a = .int i t ∧ Ev prog w A env r h₁ (IsI n) ∧ Q (.bool (i == n)) h₁) (hb : behindInMarks .Eq r = false := by rfl) : W prog w A (eval (.Compare l [.Eq] [r] pos) env) h Q :=
  W.mk fun s Qs hs k => wpAny_Compare1 (x.run s _ hs fun a h₁ tk q => by
    obtain ⟨i, t, rfl, e, q⟩ := q
    exact e.run _ _ rfl fun v h' tk' q' => by
      obtain ⟨rfl, u, rfl⟩ := q'
      exact eq_int (k _ _ _ q)) hb

theorem w_dict {keys : List (Option Expr)} {values : List Expr} {pos : Pos} {D : List (PyData × PyData)} {Q : Value → Heap → Prop} (hD : litPairs keys values = some D) (hs : strKeyed D = true) (hn : (strKeysOf D).Nodup)
    (hall : keys.all (·.isSome) = true) (hl : keys.length = values.length) (h0 : keys ≠ []) (hlen : keys.length ≤ 15) (hbig : sysModules < h.objs.size)
    (k : ∀ a h', Ext h h' → h.objs.size ≤ h'.objs.size → StrTab prog w h' a D → Q (.ref a) h') : W prog w A (eval (.Dict keys values pos) env) h Q :=
  W.mk fun s Qs hh kk => Dict_lits_str hD hs hn hall hl h0 hlen fun a o h₁ tk q1 q2 q3 q4 => by
    obtain ⟨kvs, hd, hf⟩ := q3
    subst hh
    exact kk _ _ _ (k a h₁ q4 (Nat.le_trans q1 (Nat.le_of_lt (Heap.lt_size q2))) (TabAt.ofObj (by
      have : a ≠ sysModules := Ne.symm (Nat.ne_of_lt (Nat.lt_of_lt_of_le hbig q1))
      exact beq_false_of_ne this) q2 hd hf))
theorem w_itemtab {value slice : Expr} {d : Addr} {D : List (PyData × PyData)} {x : Str} {t : Tok} {dv : PyData} {Q : Value → Heap → Prop} (T : StrTab prog w h d D) (hl : Spec.lookup (.str x) D = some dv) (k : ∀ v, PyProof.V.Flat v dv → Q v h)
    (hs : ∀ o j, subscripted slice false o j = operate [o, j] (getItem o j) := by intro _ _; rfl) :
    W prog w A (subscriptTail value slice (.ref d) (.str x t)) h Q := W.mk fun s Qs hh kk => by
  subst hh
  obtain ⟨lo, kvs, hd, hf⟩ := T
  obtain ⟨v, hv, hfl⟩ := hf.of_lookup PyProof.V.same_str hl
  exact tail_any hd.typeIs slot_dict_getitem.lookup (wpAny_getItem_of (strKind_is prog w x t) hd.mapOf hv (kk _ _ _ (k v hfl))) (hs _ _)
inductive AtomsE : List Expr → List PyData → Prop
  | nil : AtomsE [] []
  | none {k p r ds} : AtomsE r ds → AtomsE (.Constant .none k p :: r) (.none :: ds)
  | bool {b k p r ds} : AtomsE r ds → AtomsE (.Constant (.bool b) k p :: r) (.bool b :: ds)
  | int {i k p r ds} : AtomsE r ds → AtomsE (.Constant (.int i) k p :: r) (.int i :: ds)
  | str {x k p r ds} : AtomsE r ds → AtomsE (.Constant (.str x) k p :: r) (.str x :: ds)
inductive AtomsV : List Value → List PyData → Prop
  | nil : AtomsV [] []
  | cons {v d vs ds} : AtomV v d → AtomsV vs ds → AtomsV (v :: vs) (d :: ds)
theorem AtomsV.at {vs : List Value} {ds : List PyData} (x : AtomsV vs ds) : ∀ {i : Nat}, i < ds.length → ∃ v d, vs[i]? = some v ∧ d ∈ ds ∧ AtomV v d := by
  induction x with
  | nil => intro i hi; exact absurd hi (Nat.not_lt_zero _)
  | cons a _ ih =>
    intro i hi
    cases i with
    | zero => exact ⟨_, _, rfl, .head _, a⟩
    | succ i => obtain ⟨v, d, q1, q2, q3⟩ := ih (i := i) (by simpa using hi); exact ⟨v, d, by simpa using q1, .tail _ q2, q3⟩
theorem AtomsV.len {vs : List Value} {ds : List PyData} (x : AtomsV vs ds) : vs.length = ds.length := by induction x with | nil => rfl | cons _ _ ih => simp [ih]
theorem w_atoms {pos : Pos} {es : List Expr} {ds : List PyData} (x : AtomsE es ds) : W prog w A (spliced (backTo pos (starEach es env))) h fun vs h' => h' = h ∧ AtomsV vs ds := by
  induction x with
  | nil => exact w_arg0 ⟨rfl, .nil⟩
  | none _ ih => exact w_arg (w_ev ev_none fun v hv => W.mono ih fun vs h' q => ⟨q.1, .cons (by subst hv; exact .none) q.2⟩) rfl
  | bool _ ih => exact w_arg (w_ev ev_bool fun v hv => W.mono ih fun vs h' q => ⟨q.1, .cons (by subst hv; exact .bool _) q.2⟩) rfl
  | int _ ih => exact w_arg (w_ev ev_int fun v hv => W.mono ih fun vs h' q => ⟨q.1, .cons (by obtain ⟨t, rfl⟩ := hv; exact .int _ _) q.2⟩) rfl
  | str _ ih => exact w_arg (w_ev ev_str fun v hv => W.mono ih fun vs h' q => ⟨q.1, .cons (by obtain ⟨t, rfl⟩ := hv; exact .str _ _) q.2⟩) rfl

theorem Sx.w_pick (X : Sx w p loose mean mg mb BoxAt A b g L m cs l₀ h₀ l h C) {es : List Expr} {ds : List PyData} {ce : Expr} {pos pos' : Pos} {Q : Value → Heap → Prop} (hx : AtomsE es ds) (hsz : ds.length ≤ 1000)
    (tk : ∀ h' (Q : Value → Heap → Prop), Sx w p loose mean mg mb BoxAt A b g L m cs l₀ h₀ l h' C → (∀ (d : Int) t C' h'', 0 ≤ d → d < ds.length → C ≤ C' → C' ≤ C + 1 → Ext (h'.hide b) h'' → Sx w p loose mean mg mb BoxAt A b g L m cs l₀ h₀ l h'' C' → Q (.int d t) h'') → W prog w (A.deeper env₀) (eval ce env) h' Q)
    (k : ∀ v d C' h', AtomV v d → d ∈ ds → C ≤ C' → C' ≤ C + 1 → Sx w p loose mean mg mb BoxAt A b g L m cs l₀ h₀ l h' C' → Q v h')
    (hs : ∀ o j, subscripted ce false o j = operate [o, j] (getItem o j) := by intro _ _; rfl) :
    W prog w (A.deeper env₀) (eval (.Subscript (.List es pos) ce pos') env) h Q := by
  refine w_sub (w_list (w_ev (w_atoms hx) fun vs hv => w_newlist (Nat.le_trans (hv.len ▸ hsz) (by decide : 1000 ≤ sizeLine)) fun h₁ hs₁ e₁ hl => tk h₁ _ (X.alloc e₁ (by omega)) fun d t C' h₂ d0 d1 a0 a1 e₂ X₂ => ?_))
  obtain ⟨v, y, q1, q2, q3⟩ := hv.at (i := d.toNat) (by omega)
  have hne : h.objs.size ≠ b := fun q => X.box.there (q ▸ size_none h)
  have hl₂ : h₂.IsList h.objs.size vs.toArray := hl.at fun o ho => e₂ _ _ ((Heap.hide_ne _ hne).trans ho)
  have : d < 1000 := by omega
  exact W.mk fun s Qs hh kk => tail_any (Heap.IsList.typeIs (by rw [hh]; exact hl₂)) slot_list_getitem.lookup (wpAny_getItem_list (by rw [hh]; exact hl₂) d0 (by omega) (by simpa using q1) (by subst hh; exact kk _ _ s.toks (k v y C' s.heap q3 q2 a0 a1 X₂))) (hs _ _)
end
end Mine

end

section
open PySem PySem.W PyProof.Rows PySem.Calls
set_option Elab.async false
set_option maxRecDepth 100000
set_option maxHeartbeats 1000000
set_option linter.unusedVariables false
set_option pp.deepTerms false
set_option pp.deepTerms.threshold 4
set_option pp.maxSteps 4000
namespace Mine
noncomputable def rk (y : Str) : Nat := if y ∈ [st "n", st "m", st "a", st "s", st "b"] then 1 else if y ∈ [st "2", st "5"] then 2 else if y ∈ [st "l", st "3", st "4", st "p"] then 3 else if y ∈ [st "q", st "h"] then 4 else 5
noncomputable def sorts : List Str := [st "n", st "m", st "a", st "s", st "b", st "l", st "q", st "w", st "r", st "h", st "2", st "3", st "4", st "5", st "p"]
def PSt (y : Str) (B E : Nat) (pl : Plan) : Prop := pl.Ok ∧ pl.spots ≤ Kb y B ∧ pl.dep ≤ Eb y + E ∧ (y = st "n" → pl.isNode = true) ∧ (y = st "s" → pl.isAtom = true)
noncomputable def tab5 : List (PyData × PyData) := [(.str (st "l"), .str (st "n")), (.str (st "q"), .str (st "2")), (.str (st "w"), .str (st "3")), (.str (st "r"), .str (st "4")), (.str (st "h"), .str (st "5"))]
theorem tab5_at {y : Str} (hy : y ∈ [st "l", st "q", st "w", st "r", st "h"]) : ∃ z, Spec.lookup (.str y) tab5 = some (.str z) ∧ z ∈ sorts ∧ rk z + 2 ≤ rk y ∧ (∀ B, Kb y B = 1 + 2 * Kb z B) ∧ Eb y = 1 + Eb z := by
  simp only [List.mem_cons, List.not_mem_nil, or_false] at hy
  have e (y z : Str) (f : Nat → Nat) (h : ∀ B, f B = 1 + 2 * Kb z B) : ∀ B, f B = 1 + 2 * Kb z B := h
  rcases hy with rfl | rfl | rfl | rfl | rfl
  · exact ⟨st "n", by kernel_rfl, by decide +kernel, by decide +kernel, fun B => rfl, by decide +kernel⟩
  · exact ⟨st "2", by kernel_rfl, by decide +kernel, by decide +kernel, fun B => by show 3 + 4 * B = 1 + 2 * (1 + 2 * B); omega, by decide +kernel⟩
  · exact ⟨st "3", by kernel_rfl, by decide +kernel, by decide +kernel, fun B => by show 5 + 6 * B = 1 + 2 * (2 + 3 * B); omega, by decide +kernel⟩
  · exact ⟨st "4", by kernel_rfl, by decide +kernel, by decide +kernel, fun B => by show 7 + 8 * B = 1 + 2 * (3 + 4 * B); omega, by decide +kernel⟩
  · exact ⟨st "5", by kernel_rfl, by decide +kernel, by decide +kernel, fun B => by show 7 + 2 * B = 1 + 2 * (3 + B); omega, by decide +kernel⟩
theorem PlanIn.atom' {l : Lk} {v x : Value} {t : Tok} {d : PyData} (h : isL l v [.str (st "atom") t, x]) (a : AtomV x d) : PlanIn l (.atom d) v := by simp only [PlanIn]; exact ⟨_, _, h, a⟩
theorem PlanIn.list' {l : Lk} {v u : Value} {t : Tok} {us : List Value} {ps : List Plan} (h : isL l v [.str (st "list") t, u]) (a : isL l u us) (c : PlansIn l ps us) : PlanIn l (.list ps) v := by simp only [PlanIn]; exact ⟨_, _, _, h, a, c⟩
theorem PlansIn.two {l : Lk} {p q : Plan} {u v : Value} (a : PlanIn l p u) (c : PlanIn l q v) : PlansIn l [p, q] [u, v] := by simp only [PlansIn]; exact ⟨_, _, rfl, a, _, _, rfl, c, rfl⟩
theorem PlansIn.three {l : Lk} {p q r : Plan} {u v x : Value} (a : PlanIn l p u) (c : PlanIn l q v) (d : PlanIn l r x) : PlansIn l [p, q, r] [u, v, x] := by simp only [PlansIn]; exact ⟨_, _, rfl, a, _, _, rfl, c, _, _, rfl, d, rfl⟩
theorem PSt.atom {y : Str} {B E : Nat} {d : PyData} (hd : AtomOk d) (h1 : 1 ≤ Kb y B) (hE : 1 ≤ E) (hn : y ≠ st "n") : PSt y B E (.atom d) :=
  ⟨by simpa only [Plan.Ok] using hd, by simpa only [Plan.spots] using h1, by simp only [Plan.dep]; omega, fun e => absurd e hn, fun _ => rfl⟩
theorem PSt.list {y : Str} {B E : Nat} {ps : List Plan} (ho : Plan.OkAll ps) (hs : Plan.spotsAll ps + 1 ≤ Kb y B) (hd : Plan.depAll ps + 1 ≤ Eb y + E) (hn : y ≠ st "n") (hs' : y ≠ st "s") : PSt y B E (.list ps) :=
  ⟨by simpa only [Plan.Ok] using ho, by simpa only [Plan.spots] using hs, by simpa only [Plan.dep] using hd, fun e => absurd e hn, fun e => absurd e hs'⟩
theorem PSt.some {z : Str} {B E : Nat} {pl : Plan} (h : ∃ pls, pl = .list pls ∧ pls.length ≤ 2 ∧ ∀ q ∈ pls, PSt z B E q) : pl.Ok ∧ pl.spots ≤ 1 + 2 * Kb z B ∧ pl.dep ≤ 1 + (Eb z + E) := by
  obtain ⟨pls, rfl, hl, hq⟩ := h
  have a := Plan.spotsAll_le fun q m => (hq q m).2.1
  have b := Plan.depAll_le fun q m => (hq q m).2.2.1
  have : pls.length * Kb z B ≤ 2 * Kb z B := Nat.mul_le_mul_right _ hl
  refine ⟨?_, ?_, ?_⟩
  · simp only [Plan.Ok]; exact Plan.okAll_of fun q m => (hq q m).1
  · simp only [Plan.spots]; omega
  · simp only [Plan.dep]; omega
section
variable {prog : Program} {w : World} {p : Program} {loose : List Str} {mean : ExcName → Option Value} {mg mb : Str → Option Value} {A A' : Around} {env env₀ : Env} {g h h' h₀ : Heap} {l l' l₀ : Lk} {L b : Addr} {m : Str → Option Value} {cs : List (Addr × Value)} {C C' : Int}
theorem Sx.w_list2 (X : Sx w p loose mean mg mb BoxAt A b g L m cs l₀ h₀ l h C) {e₁ e₂ : Expr} {kk : Nat} {p₁ p₂ pos : Pos} {N₁ N₂ : Nat} {P₁ P₂ : Plan → Prop} {Q : Value → Heap → Prop}
    (x₁ : W prog w A' (eval e₁ env) h (GenQ b l h C N₁ P₁)) (x₂ : ∀ l' h' C', C ≤ C' → C' ≤ C + N₁ → Sx w p loose mean mg mb BoxAt A b g L m cs l₀ h₀ l' h' C' → W prog w A' (eval e₂ env) h' (GenQ b l' h' C' N₂ P₂))
    (k : ∀ q r l' h' C' v, P₁ q → P₂ r → PlanIn l' (.list [q, r]) v → C ≤ C' → C' ≤ C + N₁ + N₂ → Sx w p loose mean mg mb BoxAt A b g L m cs l₀ h₀ l' h' C' → Q v h')
    (s₁ : starEach [.Constant (.str (st "list")) kk p₁, .List [e₁, e₂] p₂] env = (false, eval (.Constant (.str (st "list")) kk p₁) env) :: starEach [.List [e₁, e₂] p₂] env := by rfl)
    (s₂ : starEach [.List [e₁, e₂] p₂] env = (false, eval (.List [e₁, e₂] p₂) env) :: starEach [] env := by rfl)
    (s₃ : starEach [e₁, e₂] env = (false, eval e₁ env) :: starEach [e₂] env := by rfl) (s₄ : starEach [e₂] env = (false, eval e₂ env) :: starEach [] env := by rfl) :
    W prog w A' (eval (.List [.Constant (.str (st "list")) kk p₁, .List [e₁, e₂] p₂] pos) env) h Q := by
  refine X.w_tag (w_list (w_arg (W.mono x₁ fun v₁ h₁ q₁ => ?_) s₃)) s₁ s₂
  obtain ⟨pl₁, l₁, C₁, a1, a2, a3, a4, a5⟩ := q₁
  have X₁ := X.next a3 a4
  refine w_arg (W.mono (x₂ l₁ h₁ C₁ a4 a5 X₁) fun v₂ h₂ q₂ => w_arg0 ?_) s₄
  obtain ⟨pl₂, l₂, C₂, b1, b2, b3, b4, b5⟩ := q₂
  refine (X₁.next b3 b4).w_lay (by show 2 ≤ sizeLine; decide) fun l₃ h₃ hle hl X₃ => ⟨l₃, C₂, X₃, fun a t l₄ h₄ hle' hl' X₄ => k pl₁ pl₂ l₄ h₄ C₂ _ a1 b1 ?_ (by omega) (by omega) X₄⟩
  exact PlanIn.list' hl' (hl.mono hle') (PlansIn.two (a2.mono ((b3.grow.1.trans hle).trans hle')) (b2.mono (hle.trans hle')))
theorem Sx.w_list3 (X : Sx w p loose mean mg mb BoxAt A b g L m cs l₀ h₀ l h C) {e₁ e₂ e₃ : Expr} {kk : Nat} {p₁ p₂ pos : Pos} {N₁ N₂ N₃ : Nat} {P₁ P₂ P₃ : Plan → Prop} {Q : Value → Heap → Prop}
    (x₁ : W prog w A' (eval e₁ env) h (GenQ b l h C N₁ P₁)) (x₂ : ∀ l' h' C', C ≤ C' → C' ≤ C + N₁ → Sx w p loose mean mg mb BoxAt A b g L m cs l₀ h₀ l' h' C' → W prog w A' (eval e₂ env) h' (GenQ b l' h' C' N₂ P₂))
    (x₃ : ∀ l' h' C', C ≤ C' → C' ≤ C + N₁ + N₂ → Sx w p loose mean mg mb BoxAt A b g L m cs l₀ h₀ l' h' C' → W prog w A' (eval e₃ env) h' (GenQ b l' h' C' N₃ P₃))
    (k : ∀ q r u l' h' C' v, P₁ q → P₂ r → P₃ u → PlanIn l' (.list [q, r, u]) v → C ≤ C' → C' ≤ C + N₁ + N₂ + N₃ → Sx w p loose mean mg mb BoxAt A b g L m cs l₀ h₀ l' h' C' → Q v h')
    (s₁ : starEach [.Constant (.str (st "list")) kk p₁, .List [e₁, e₂, e₃] p₂] env = (false, eval (.Constant (.str (st "list")) kk p₁) env) :: starEach [.List [e₁, e₂, e₃] p₂] env := by rfl)
    (s₂ : starEach [.List [e₁, e₂, e₃] p₂] env = (false, eval (.List [e₁, e₂, e₃] p₂) env) :: starEach [] env := by rfl)
    (s₃ : starEach [e₁, e₂, e₃] env = (false, eval e₁ env) :: starEach [e₂, e₃] env := by rfl) (s₄ : starEach [e₂, e₃] env = (false, eval e₂ env) :: starEach [e₃] env := by rfl) (s₅ : starEach [e₃] env = (false, eval e₃ env) :: starEach [] env := by rfl) :
    W prog w A' (eval (.List [.Constant (.str (st "list")) kk p₁, .List [e₁, e₂, e₃] p₂] pos) env) h Q := by
  refine X.w_tag (w_list (w_arg (W.mono x₁ fun v₁ h₁ q₁ => ?_) s₃)) s₁ s₂
  obtain ⟨pl₁, l₁, C₁, a1, a2, a3, a4, a5⟩ := q₁
  have X₁ := X.next a3 a4
  refine w_arg (W.mono (x₂ l₁ h₁ C₁ a4 a5 X₁) fun v₂ h₂ q₂ => ?_) s₄
  obtain ⟨pl₂, l₂, C₂, b1, b2, b3, b4, b5⟩ := q₂
  have X₂ := X₁.next b3 b4
  refine w_arg (W.mono (x₃ l₂ h₂ C₂ (by omega) (by omega) X₂) fun v₃ h₃ q₃ => w_arg0 ?_) s₅
  obtain ⟨pl₃, l₃, C₃, c1, c2, c3, c4, c5⟩ := q₃
  refine (X₂.next c3 c4).w_lay (by show 3 ≤ sizeLine; decide) fun l₄ h₄ hle hl X₄ => ⟨l₄, C₃, X₄, fun a t l₅ h₅ hle' hl' X₅ => k pl₁ pl₂ pl₃ l₅ h₅ C₃ _ a1 b1 c1 ?_ (by omega) (by omega) X₅⟩
  have m := hle.trans hle'
  exact PlanIn.list' hl' (hl.mono hle') (PlansIn.three (a2.mono ((b3.grow.1.trans c3.grow.1).trans m)) (b2.mono (c3.grow.1.trans m)) (c2.mono m))
theorem GenQ.mono {N N' : Nat} {P P' : Plan → Prop} {v : Value} (x : GenQ b l h C N P v h') (hN : N ≤ N') (k : ∀ pl, P pl → P' pl) : GenQ b l h C N' P' v h' := let ⟨pl, l', C', a, c, d, e, f⟩ := x; ⟨pl, l', C', k _ a, c, d, e, by omega⟩
end
theorem PSt.list2 {y : Str} {B E : Nat} {q r : Plan} (a : q.Ok) (c : r.Ok) (hs : q.spots + r.spots + 1 ≤ Kb y B) (hd : q.dep + 1 ≤ Eb y + E) (hd' : r.dep + 1 ≤ Eb y + E) (hn : y ≠ st "n") (hs' : y ≠ st "s") : PSt y B E (.list [q, r]) :=
  PSt.list (by simp only [Plan.OkAll]; exact ⟨a, c, trivial⟩) (by simp only [Plan.spotsAll]; omega) (by simp only [Plan.depAll]; omega) hn hs'
theorem PSt.list3 {y : Str} {B E : Nat} {q r u : Plan} (a : q.Ok) (c : r.Ok) (c' : u.Ok) (hs : q.spots + r.spots + u.spots + 1 ≤ Kb y B) (hd : q.dep + 1 ≤ Eb y + E) (hd' : r.dep + 1 ≤ Eb y + E) (hd'' : u.dep + 1 ≤ Eb y + E) (hn : y ≠ st "n") (hs' : y ≠ st "s") : PSt y B E (.list [q, r, u]) :=
  PSt.list (by simp only [Plan.OkAll]; exact ⟨a, c, c', trivial⟩) (by simp only [Plan.spotsAll]; omega) (by simp only [Plan.depAll]; omega) hn hs'
theorem ok_a : ∀ d ∈ [PyData.int 0, .int 1, .int 1, .int 2, .bool true, .bool false], AtomOk d := by
  intro d hd
  simp only [List.mem_cons, List.not_mem_nil, or_false] at hd
  rcases hd with rfl | rfl | rfl | rfl | rfl | rfl <;> simp [AtomOk]
theorem ok_s : ∀ d ∈ [PyData.str (st "x"), .str (st "y"), .str (st ""), .none], AtomOk d := by
  intro d hd
  simp only [List.mem_cons, List.not_mem_nil, or_false] at hd
  rcases hd with rfl | rfl | rfl | rfl
  · exact .head _
  · exact .tail _ (.head _)
  · exact .tail _ (.tail _ (.head _))
  · trivial
theorem not_in {y : Str} (hy : y ∈ [st "2", st "3", st "4", st "5", st "p"]) : (!(PySem.Builtin.Str.occurrences (st "lqwrh") y 0 (st "lqwrh").length 1).isEmpty) = false := by
  simp only [List.mem_cons, List.not_mem_nil, or_false] at hy
  rcases hy with rfl | rfl | rfl | rfl | rfl <;> kernel_rfl
theorem is_in {y : Str} (hy : y ∈ [st "l", st "q", st "w", st "r", st "h"]) : (!(PySem.Builtin.Str.occurrences (st "lqwrh") y 0 (st "lqwrh").length 1).isEmpty) = true := by
  simp only [List.mem_cons, List.not_mem_nil, or_false] at hy
  rcases hy with rfl | rfl | rfl | rfl | rfl <;> kernel_rfl
theorem big_K {w : World} {h : Heap} (K : (KK w.params).In h) : sysModules < h.objs.size := Nat.lt_trans (by decide : sysModules < 276) (Heap.lt_size (K 276 _ rfl))
section
variable {prog : Program} {w : World} {p : Program} {loose : List Str} {mean : ExcName → Option Value} {mg mb : Str → Option Value}
theorem part_w {y : Str} {d : Int} {B E Rp : Nat} (hy : y ∈ sorts) (hB : 2 ≤ B) (hE : 2 ≤ E) (hRp : 1 ≤ Rp) (hd : -5 ≤ d ∧ d ≤ 5)
    (IP : y = st "n" ∨ y = st "m" → GenC prog w p loose mean mg mb 230 (Args1 (if d > 0 then d else 0)) Rp B (PSt (st "n") B E))
    (I : ∀ z ∈ sorts, rk z < rk y → GenC prog w p loose mean mg mb 242 (Args2 z d) (Rp + rk z) (Kb z B) (PSt z B E))
    (IQ : y = st "p" → GenC prog w p loose mean mg mb 247 (Args1 d) (Rp + 2) (30 + B) (PSt (st "p") B E)) :
    GenC prog w p loose mean mg mb 242 (Args2 y d) (Rp + rk y) (Kb y B) (PSt y B E) := by
  intro A h l b C as has hr H hle hbox hC0 hC1
  obtain ⟨t, u, rfl⟩ := has
  have hrk : 1 ≤ rk y := by unfold rk; split <;> (try split) <;> (try split) <;> (try split) <;> omega
  refine' wc_enter (binds := [(st "box", .ref b), (st "sort", .str y t), (st "deep", .int d u)]) (news := []) H (hide_ext _ _) (hide_sz _ _) (fun _ h => nomatch h) ?k6 ?k7 hr.room ?k9 ?kB ?_ ?c2 ?c3 ?c4 ?c5
  case k6 => k_is
  case k7 => k_is
  case k9 => exact fun _ _ => BindsTo.of_eq rfl
  case kB => exact locs rfl
  case c2 => exact rfl
  case c3 => exact rfl
  case c4 => exact rfl
  case c5 => decide
  intro L' h₁ base outer hA F N B₁ e₁ hL
  with_unfolding_all (change W _ _ _ (execs (_ :: _) (envOf _ (Scope.mk _ _ _ _ _) _ _ _)) _ _)
  have X₁ := Sx.enter BoxAt.p (cs := []) H hle hbox hC0 F e₁ hL (fun _ h => nomatch h)
  have hrd : ∀ e, Room (A.deeper e) (Rp + rk y - 1) := fun e => Room.deeper (by rw [Nat.sub_add_cancel (by omega)]; exact hr) e
  refine w_cons (w_ifW (W.mono (Q := fun c h₂ => ∃ C₂, Sx w p loose mean mg mb BoxAt A b (h.hide b) L' (fun z => List.lookup z [(st "deep", .int d u), (st "sort", .str y t), (st "box", .ref b)]) [] l h l h₂ C₂ ∧ C ≤ C₂ ∧ C₂ ≤ C + 1 ∧ (c = true → (y = st "n" ∧ C₂ = C) ∨ y = st "m") ∧ (c = false → y ≠ st "n" ∧ (y ≠ st "m" → C₂ = C))) ?test fun c h₂ q => ?_))
  case test =>
    refine wt_or (w_ev (ts_eqs (ev_fr X₁.F rfl ⟨_, rfl⟩) ev_str) fun c hc => ?_)
    cases c with
    | true => exact ⟨C, X₁, Int.le_refl _, by omega, fun _ => .inl ⟨hc.mp rfl, rfl⟩, fun e => nomatch e⟩
    | false =>
      have hn : y ≠ st "n" := fun e => nomatch hc.mpr e
      refine wt_and (w_ev (ts_eqs (ev_fr X₁.F rfl ⟨_, rfl⟩) ev_str) fun c hc => ?_)
      cases c with
      | false => exact ⟨C, X₁, Int.le_refl _, by omega, (fun e => nomatch e), fun _ => ⟨hn, fun _ => rfl⟩⟩
      | true =>
        have hm : y = st "m" := hc.mp rfl
        refine wt_eqi (X₁.w_take rfl rfl ((hrd _).less (by omega)) (by omega) (by decide) (by decide) (ev_glob X₁.gl (by k_is)) (ev_fr X₁.F rfl rfl) ev_int fun n t' C₂ h₂ n0 n1 a0 a1 _ X₂ => ⟨_, _, rfl, ev_int, C₂, X₂, a0, a1, fun _ => .inr hm, fun _ => ⟨hn, fun e => absurd hm e⟩⟩)
  obtain ⟨C₂, X₂, a0, a1, q0, q1⟩ := q
  cases c with
  | true =>
    have q := q0 rfl
    have hK : C₂ + B ≤ C + Kb y B := by
      rcases q with ⟨rfl, rfl⟩ | rfl
      · exact Int.le_refl _
      · have : Kb (st "m") B = 1 + B := rfl
        omega
    refine w_cons (w_ret (X₂.w_mk2 (IP (q.imp (·.1) id)) rfl rfl ((hrd _).less (by omega)) (by omega) (by k_is) (ev_glob X₂.gl (by k_is)) (ev_fr X₂.F rfl rfl) ?_ fun v h₃ h₄ X₃ q' => ?_))
    · refine w_callee (ev_boot X₂.gl (by k_is) boot_max (by decide)) (w_cwb (w_arg (w_ev ev_int fun v hv => w_arg (w_ev (ev_fr X₂.F rfl rfl) fun v' hv' => w_arg0 ?_))))
      obtain ⟨t1, rfl⟩ := hv
      subst hv'
      refine W.mk fun s Qs hs kk => ?_
      refine max_two_ints (hrd (default)).1 fun h' tk e => kk _ h' tk ⟨?_, by rw [← hs]; exact e, fun e' => Nat.le_of_lt (hL ▸ size_of_ns (X₂.F.keeps e').ns)⟩
      split
      · exact ⟨_, rfl⟩
      · exact ⟨_, rfl⟩
    · obtain ⟨pl, l₄, C₄, b1, b2, b3, b4, b5⟩ := q'
      refine (X₃.next b3 b4).gen ⟨b1.1, ?_, ?_, fun _ => b1.2.2.2.1 rfl, fun e => ?_⟩ b2 (by omega) (by omega)
      · have := b1.2.1
        have : Kb (st "n") B = B := rfl
        omega
      · have h2 := b1.2.2.1
        have : Eb (st "n") = 0 := by decide +kernel
        omega
      · rcases q with ⟨r, _⟩ | r <;> rw [r] at e <;> exact absurd e (by decide)
  | false =>
    obtain ⟨hn, hC₂⟩ := q1 rfl
    refine w_nil (w_cons (w_if (ts_eqs (ev_fr X₂.F rfl ⟨_, rfl⟩) ev_str) (fun hc => ?_) (fun hc => w_nil ?_)))
    · have hm : y = st "m" := hc.mp rfl
      have hK : Kb y B = 1 + B := by rw [hm]; rfl
      exact w_cons (w_ret (X₂.w_tag (w_ev ev_none fun v hv => ⟨l, C₂, X₂, fun a t l₃ h₃ hle hl X₃ => X₃.gen (PSt.atom (d := .none) trivial (by omega) (by omega) hn) (PlanIn.atom' hl (hv ▸ .none)) a0 (by omega)⟩)))
    have hm : y ≠ st "m" := fun e => nomatch hc.mpr e
    obtain rfl := hC₂ hm
    refine w_cons (w_if (ts_eqs (ev_fr X₂.F rfl ⟨_, rfl⟩) ev_str) (fun hc => ?_) (fun hc => w_nil ?_))
    · have hK : Kb y B = 1 := by rw [hc.mp rfl]; rfl
      exact w_cons (w_ret (X₂.w_tag (X₂.w_pick (ds := [.int 0, .int 1, .int 1, .int 2, .bool true, .bool false]) (by repeat constructor) (by decide)
        (fun h' Q X' kk => X'.w_take rfl rfl ((hrd _).less (by omega)) (by omega) (by decide) (by decide) (ev_glob X'.gl (by k_is)) (ev_fr X'.F rfl rfl) ev_int fun d t C' h'' p q => kk d t C' h'' p q)
        fun v x C₃ h₃ hx hd c0 c1 X₃ => ⟨l, C₃, X₃, fun a t l₄ h₄ hle hl X₄ => X₄.gen (PSt.atom (ok_a _ hd) (by omega) (by omega) hn) (PlanIn.atom' hl hx) c0 (by omega)⟩)))
    have ha : y ≠ st "a" := fun e => nomatch hc.mpr e
    refine w_cons (w_if (ts_eqs (ev_fr X₂.F rfl ⟨_, rfl⟩) ev_str) (fun hc => ?_) (fun hc => w_nil ?_))
    · have hK : Kb y B = 1 := by rw [hc.mp rfl]; rfl
      exact w_cons (w_ret (X₂.w_tag (X₂.w_pick (ds := [.str (st "x"), .str (st "y"), .str (st ""), .none]) (by repeat constructor) (by decide)
        (fun h' Q X' kk => X'.w_take rfl rfl ((hrd _).less (by omega)) (by omega) (by decide) (by decide) (ev_glob X'.gl (by k_is)) (ev_fr X'.F rfl rfl) ev_int fun d t C' h'' p q => kk d t C' h'' p q)
        fun v x C₃ h₃ hx hd c0 c1 X₃ => ⟨l, C₃, X₃, fun a t l₄ h₄ hle hl X₄ => X₄.gen (PSt.atom (ok_s _ hd) (by omega) (by omega) hn) (PlanIn.atom' hl hx) c0 (by omega)⟩)))
    have hs : y ≠ st "s" := fun e => nomatch hc.mpr e
    refine w_cons (w_if (ts_eqs (ev_fr X₂.F rfl ⟨_, rfl⟩) ev_str) (fun hc => ?_) (fun hc => w_nil ?_))
    · have hK : Kb y B = 1 := by rw [hc.mp rfl]; rfl
      exact w_cons (w_ret (X₂.w_tag (we_eqi (X₂.w_take rfl rfl ((hrd _).less (by omega)) (by omega) (by decide) (by decide) (ev_glob X₂.gl (by k_is)) (ev_fr X₂.F rfl rfl) ev_int fun n t' C₃ h₃ n0 n1 c0 c1 _ X₃ =>
        ⟨_, _, rfl, ev_int, l, C₃, X₃, fun a t l₄ h₄ hle hl X₄ => X₄.gen (PSt.atom (d := .bool _) trivial (by omega) (by omega) hn) (PlanIn.atom' hl (.bool _)) c0 (by omega)⟩))))
    have hb : y ≠ st "b" := fun e => nomatch hc.mpr e
    have hg : y ∈ [st "l", st "q", st "w", st "r", st "h"] ∨ y ∈ [st "2", st "3", st "4", st "5", st "p"] := by
      simp only [sorts, List.mem_cons, List.not_mem_nil, or_false, hn, hm, ha, hs, hb, false_or] at hy ⊢
      rcases hy with e | e | e | e | e | e | e | e | e | e <;> simp only [e, true_or, or_true]
    refine w_cons (w_if (ts_ins (ev_fr X₂.F rfl ⟨_, rfl⟩) ev_str) (fun hc => ?_) (fun hc => w_nil ?_))
    · rcases hg with hg | hg
      · obtain ⟨z, z1, z2, z3, z4, z5⟩ := tab5_at hg
        have SW := some_w (I z z2 (by omega)) (by omega)
        have z4 := z4 B
        refine w_cons (w_ret (w_callee (ev_glob X₂.gl (by k_is)) (w_cw X₂.gl (by k_is) (w_arg (w_ev (ev_fr X₂.F rfl rfl) fun vb hvb => w_arg (w_sub (w_dict (D := tab5) (by kernel_rfl) (by kernel_rfl) (by decide +kernel) rfl rfl (fun e => nomatch e) (by decide) (big_K X₂.gl.K) fun a h₃ e₃ s₃ T => ?_)))))))
        have X₃ := X₂.alloc e₃ s₃
        refine w_ev (ev_fr X₃.F rfl rfl) fun v' hv' => ?_
        subst hvb hv'
        refine w_itemtab T z1 fun v hv => w_arg (w_ev (ev_fr X₃.F rfl rfl) fun v'' hv'' => w_arg0 ⟨e₃, ?_⟩)
        subst hv''
        obtain ⟨t', rfl⟩ := hv.str_inv
        refine W.mono (X₃.w_mk SW rfl rfl ((hrd _).less (by omega)) (by omega) ⟨_, _, rfl⟩) fun v h₄ q => ?_
        obtain ⟨pl, l₄, C₄, b1, b2, b3, b4, b5⟩ := q
        have := PSt.some b1
        exact (X₃.next b3 b4).gen ⟨this.1, by omega, by omega, fun e => absurd e hn, fun e => absurd e hs⟩ b2 b4 (by omega)
      · exact absurd hc (by rw [show (Str.ofString "lqwrh") = st "lqwrh" from rfl, not_in hg]; decide)
    have hg : y ∈ [st "2", st "3", st "4", st "5", st "p"] := hg.resolve_left fun e => by rw [show (Str.ofString "lqwrh") = st "lqwrh" from rfl, is_in e] at hc; cases hc
    refine w_cons (w_if (ts_eqs (ev_fr X₂.F rfl ⟨_, rfl⟩) ev_str) (fun hc => ?_) (fun hc => w_nil ?_))
    · obtain rfl : y = st "2" := hc.mp rfl
      have IN := I (st "n") (by decide +kernel) (by decide +kernel)
      have k2 : Kb (st "2") B = 1 + 2 * B := rfl
      have kn : Kb (st "n") B = B := rfl
      have en : Eb (st "n") = 0 := by decide +kernel
      have e2 : Eb (st "2") = 1 := by decide +kernel
      have rn : rk (st "n") < rk (st "2") := by decide +kernel
      refine w_cons (w_ret (X₂.w_list2 (X₂.w_mk3 IN rfl rfl ((hrd _).less (by omega)) (by omega) (by k_is) (ev_glob X₂.gl (by k_is)) (ev_fr X₂.F rfl rfl) ev_str (ev_fr X₂.F rfl ⟨_, rfl⟩) fun v h' q => q)
        (fun l₃ h₃ C₃ c0 c1 X₃ => X₃.w_mk3 IN rfl rfl ((hrd _).less (by omega)) (by omega) (by k_is) (ev_glob X₃.gl (by k_is)) (ev_fr X₃.F rfl rfl) ev_str (ev_fr X₃.F rfl ⟨_, rfl⟩) fun v h' q => q)
        fun q r l₄ h₄ C₄ v q1 q2 hv d0 d1 X₄ => X₄.gen (PSt.list2 q1.1 q2.1 ?_ ?_ ?_ hn hs) hv d0 (by omega)))
      · have := q1.2.1; have := q2.2.1; omega
      · have := q1.2.2.1; omega
      · have := q2.2.2.1; omega
    have h2 : y ≠ st "2" := fun e => nomatch hc.mpr e
    have kn : Kb (st "n") B = B := rfl
    have km : Kb (st "m") B = 1 + B := rfl
    have ks : Kb (st "s") B = 1 := rfl
    have en : Eb (st "n") = 0 := by decide +kernel
    have em : Eb (st "m") = 0 := by decide +kernel
    have es : Eb (st "s") = 0 := by decide +kernel
    have rn : rk (st "n") = 1 := by decide +kernel
    have rm : rk (st "m") = 1 := by decide +kernel
    have rs : rk (st "s") = 1 := by decide +kernel
    refine w_cons (w_if (ts_eqs (ev_fr X₂.F rfl ⟨_, rfl⟩) ev_str) (fun hc => ?_) (fun hc => w_nil ?_))
    · obtain rfl : y = st "3" := hc.mp rfl
      have ky : Kb (st "3") B = 2 + 3 * B := rfl
      have ey : Eb (st "3") = 2 := by decide +kernel
      have ry : rk (st "3") = 3 := by decide +kernel
      have IN := I (st "n") (by decide +kernel) (by omega)
      have SN := some_w IN (by omega)
      refine w_cons (w_ret (X₂.w_list2 (X₂.w_mk3 SN rfl rfl ((hrd _).less (by omega)) (by omega) (by k_is) (ev_glob X₂.gl (by k_is)) (ev_fr X₂.F rfl rfl) ev_str (ev_fr X₂.F rfl ⟨_, rfl⟩) fun v h' q => q)
        (fun l₃ h₃ C₃ c0 c1 X₃ => X₃.w_mk3 IN rfl rfl ((hrd _).less (by omega)) (by omega) (by k_is) (ev_glob X₃.gl (by k_is)) (ev_fr X₃.F rfl rfl) ev_str (ev_fr X₃.F rfl ⟨_, rfl⟩) fun v h' q => q)
        fun q r l₄ h₄ C₄ v q1 q2 hv d0 d1 X₄ => ?_))
      have q1 := PSt.some q1
      refine X₄.gen (PSt.list2 q1.1 q2.1 ?_ ?_ ?_ hn hs) hv d0 (by omega)
      · have := q2.2.1; omega
      · omega
      · have := q2.2.2.1; omega
    have h3 : y ≠ st "3" := fun e => nomatch hc.mpr e
    refine w_cons (w_if (ts_eqs (ev_fr X₂.F rfl ⟨_, rfl⟩) ev_str) (fun hc => ?_) (fun hc => w_nil ?_))
    · obtain rfl : y = st "4" := hc.mp rfl
      have ky : Kb (st "4") B = 3 + 4 * B := rfl
      have ey : Eb (st "4") = 2 := by decide +kernel
      have ry : rk (st "4") = 3 := by decide +kernel
      have IN := I (st "n") (by decide +kernel) (by omega)
      have IM := I (st "m") (by decide +kernel) (by omega)
      have SN := some_w IN (by omega)
      refine w_cons (w_ret (X₂.w_list3 (X₂.w_mk3 SN rfl rfl ((hrd _).less (by omega)) (by omega) (by k_is) (ev_glob X₂.gl (by k_is)) (ev_fr X₂.F rfl rfl) ev_str (ev_fr X₂.F rfl ⟨_, rfl⟩) fun v h' q => q)
        (fun l₃ h₃ C₃ c0 c1 X₃ => X₃.w_mk3 IM rfl rfl ((hrd _).less (by omega)) (by omega) (by k_is) (ev_glob X₃.gl (by k_is)) (ev_fr X₃.F rfl rfl) ev_str (ev_fr X₃.F rfl ⟨_, rfl⟩) fun v h' q => q)
        (fun l₃ h₃ C₃ c0 c1 X₃ => X₃.w_mk3 IN rfl rfl ((hrd _).less (by omega)) (by omega) (by k_is) (ev_glob X₃.gl (by k_is)) (ev_fr X₃.F rfl rfl) ev_str (ev_fr X₃.F rfl ⟨_, rfl⟩) fun v h' q => q)
        fun q r u l₄ h₄ C₄ v q1 q2 q3 hv d0 d1 X₄ => ?_))
      have q1 := PSt.some q1
      refine X₄.gen (PSt.list3 q1.1 q2.1 q3.1 ?_ ?_ ?_ ?_ hn hs) hv d0 (by omega)
      · have := q2.2.1; have := q3.2.1; omega
      · omega
      · have := q2.2.2.1; omega
      · have := q3.2.2.1; omega
    have h4 : y ≠ st "4" := fun e => nomatch hc.mpr e
    refine w_cons (w_if (ts_eqs (ev_fr X₂.F rfl ⟨_, rfl⟩) ev_str) (fun hc => ?_) (fun hc => w_nil ?_))
    · obtain rfl : y = st "5" := hc.mp rfl
      have ky : Kb (st "5") B = 3 + B := rfl
      have ey : Eb (st "5") = 1 := by decide +kernel
      have ry : rk (st "5") = 2 := by decide +kernel
      have IM := I (st "m") (by decide +kernel) (by omega)
      have IS := I (st "s") (by decide +kernel) (by omega)
      refine w_cons (w_ret (X₂.w_list2 (X₂.w_mk3 IS rfl rfl ((hrd _).less (by omega)) (by omega) (by k_is) (ev_glob X₂.gl (by k_is)) (ev_fr X₂.F rfl rfl) ev_str (ev_fr X₂.F rfl ⟨_, rfl⟩) fun v h' q => q)
        (fun l₃ h₃ C₃ c0 c1 X₃ => X₃.w_mk3 IM rfl rfl ((hrd _).less (by omega)) (by omega) (by k_is) (ev_glob X₃.gl (by k_is)) (ev_fr X₃.F rfl rfl) ev_str (ev_fr X₃.F rfl ⟨_, rfl⟩) fun v h' q => q)
        fun q r l₄ h₄ C₄ v q1 q2 hv d0 d1 X₄ => ?_))
      refine X₄.gen (PSt.list2 q1.1 q2.1 ?_ ?_ ?_ hn hs) hv d0 (by omega)
      · have := q1.2.1; have := q2.2.1; omega
      · have := q1.2.2.1; omega
      · have := q2.2.2.1; omega
    have h5 : y ≠ st "5" := fun e => nomatch hc.mpr e
    obtain rfl : y = st "p" := by simpa only [List.mem_cons, List.not_mem_nil, or_false, h2, h3, h4, h5, false_or] using hg
    have ky : Kb (st "p") B = 30 + B := rfl
    have ry : rk (st "p") = 3 := by decide +kernel
    refine w_cons (w_ret (X₂.w_mk2 (IQ rfl) rfl rfl ((hrd _).less (by omega)) (by omega) (by k_is) (ev_glob X₂.gl (by k_is)) (ev_fr X₂.F rfl rfl) (w_ev (ev_fr X₂.F rfl rfl) fun v hv => ⟨⟨_, hv.symm⟩, fun _ _ e => e, fun _ => X₂.sz⟩) fun v h₃ h₄ X₃ q => ?_))
    obtain ⟨pl, l₄, C₄, b1, b2, b3, b4, b5⟩ := q
    exact (X₃.next b3 b4).gen b1 b2 b4 (by omega)
end
end Mine

end

section
open PySem PySem.W PyProof.Rows PySem.Calls
set_option Elab.async false
set_option maxRecDepth 100000
set_option maxHeartbeats 1000000
set_option linter.unusedVariables false
set_option pp.deepTerms false
set_option pp.deepTerms.threshold 4
set_option pp.maxSteps 4000
namespace Mine
section
variable {prog : Program} {w : World} {A : Around} {env : Env} {h h' : Heap} {b : Addr} {l l' : Lk} {C C' : Int}
theorem w_mullist {a : Addr} {vs : List Value} {x : Int} {u : Tok} {Q : Value → Heap → Prop} (hl : h.IsList a vs.toArray) (hlo : 0 ≤ x) (hhi : x < 2 ^ 63) (hsz : vs.length * x.toNat ≤ 2 ^ 24)
    (k : ∀ h', h'.objs.size = h.objs.size + 1 → Ext h h' → h'.IsList h.objs.size (List.replicate x.toNat vs).flatten.toArray → Q (.ref h.objs.size) h') : W prog w A (binaryOp .Mult (.ref a) (.int x u)) h Q := W.mk fun s Qs hh kk => by
  subst hh
  obtain ⟨⟨cls, d, data, sl⟩, ho, hcl, n, hd⟩ := hl
  simp only at hcl hd
  subst hcl hd
  have hsz' : vs.toArray.size * x.toNat ≤ 2 ^ 24 := by simpa using hsz
  refine wpAny_binaryOp_repeat_ref (T := "list") (U := "int") (by decide) ⟨_, ho, rfl⟩ (fun s' => typeIs_int s' x u) noFill_list_mul F.fills_int_mul F.slot_int_rmul repeat_list F.slot_int_index.lookup
    (call_meets F.slot_int_rmul (typeIs_int s x u) F.entry_int_rmul (F.args_int_rmul_2 _ _) (lm_int_rmul_list_any x u a vs.toArray n d sl)
      ⟨ho, rfl, ⟨_, ho, rfl⟩, call_meets F.slot_list_mul ⟨_, ho, rfl⟩ F.entry_list_mul (F.args_list_mul_2 _ _)
        (lm_list_mul_any a vs.toArray n d sl x u (by simp [Builtin.List.listFitsIndex]; omega) (by omega) (by simp [Builtin.List.listTooLong, sizeLine]; omega))
        ⟨ho, ?_⟩⟩)
  rw [listMul_foldl_if]
  exact kk _ _ s.toks (k _ (Heap.size_push _ _) (fun _ _ e => Heap.get?_push_of_some _ e) ⟨_, Heap.get?_push_size _ rfl, rfl, _, rfl⟩)
theorem w_addlist {a c : Addr} {vs ws : List Value} {Q : Value → Heap → Prop} (hl : h.IsList a vs.toArray) (hb : h.IsList c ws.toArray) (hsz : vs.length + ws.length ≤ sizeLine)
    (k : ∀ h', h'.objs.size = h.objs.size + 1 → Ext h h' → h'.IsList h.objs.size (vs ++ ws).toArray → Q (.ref h.objs.size) h') : W prog w A (binaryOp .Add (.ref a) (.ref c)) h Q := W.mk fun s Qs hh kk => by
  subst hh
  obtain ⟨⟨cls, dd, data, sl⟩, ho, hc, n, hd⟩ := id hl
  obtain ⟨⟨cls2, dd2, data2, sl2⟩, ho2, hc2, n2, hd2⟩ := id hb
  simp only at hc hd hc2 hd2
  subst hc hd hc2 hd2
  have e : vs.toArray ++ ws.toArray = (vs ++ ws).toArray := by simp
  refine concat_meets ⟨_, ho, rfl⟩ ⟨_, ho2, rfl⟩ noFill_list_add seq_list_add PySem.F.slot_list_add PySem.F.entry_list_add (PySem.F.args_list_add_2 _ _) (list_addW a c vs.toArray ws.toArray n n2 dd dd2 sl sl2 (by simpa using hsz)) ⟨ho, ho2, ?_⟩
  rw [e]
  exact kk _ _ s.toks (k _ (Heap.size_push _ _) (fun _ _ e => Heap.get?_push_of_some _ e) ⟨_, Heap.get?_push_size _ rfl, rfl, _, rfl⟩)

mutual
inductive ConstE : Expr → Plan → Prop
  | atom {e d k p p'} : AtomsE [e] [d] → ConstE (.List [.Constant (.str (st "atom")) k p, e] p') (.atom d)
  | list {es ps k p p' p''} : ConstsE es ps → ps.length ≤ 1000 → ConstE (.List [.Constant (.str (st "list")) k p, .List es p''] p') (.list ps)
  | params {es ps k p p' p''} : ConstsE es ps → ps.length ≤ 1000 → ConstE (.List [.Constant (.str (st "params")) k p, .List es p''] p') (.params ps)
inductive ConstsE : List Expr → List Plan → Prop
  | nil : ConstsE [] []
  | cons {e es pl ps} : ConstE e pl → starEach (e :: es) = (fun env => (false, eval e env) :: starEach es env) → ConstsE es ps → ConstsE (e :: es) (pl :: ps)
end
def AddQ (b : Addr) (l : Lk) (h : Heap) (C : Int) (pls : List Plan) (vs : List Value) (h' : Heap) : Prop := ∃ l', PlansIn l' pls vs ∧ Stp BoxAt b l h l' h' C
theorem w_strlist {x : Str} {k : Nat} {p p' p'' : Pos} {es : List Expr} {pls : List Plan} {pl : Plan} (hx : ∀ l v u us t, isL l v [.str x t, u] → isL l u us → PlansIn l pls us → PlanIn l pl v) (hsz : pls.length ≤ 1000) (hl : Le l (h.hide b).get?) (hb : BoxAt h b C)
    (y : W prog w A (spliced (backTo p'' (starEach es env))) h (AddQ b l h C pls)) : W prog w A (eval (.List [.Constant (.str x) k p, .List es p''] p') env) h (GenQ b l h C 0 (· = pl)) :=
  w_list (w_arg (w_ev ev_str fun v hv => w_arg (w_list (W.mono y fun vs h₁ q => by
    obtain ⟨l₁, q, S⟩ := q
    refine w_newlist (Nat.le_trans (q.length ▸ hsz) (by decide : 1000 ≤ sizeLine)) fun h₂ s₂ e₂ hl₂ => ?_
    obtain ⟨l₂, S₂, m₂, i₂, _⟩ := S.laid BoxAt.p s₂ e₂ hl₂
    refine w_arg0 (w_newlist (by show 2 ≤ sizeLine; decide) fun h₃ s₃ e₃ hl₃ => ?_)
    obtain ⟨l₃, S₃, m₃, i₃, _⟩ := S₂.laid BoxAt.p s₃ e₃ hl₃
    obtain ⟨t, rfl⟩ := hv
    exact ⟨_, l₃, C, rfl, hx _ _ _ _ _ ⟨_, rfl, i₃⟩ ⟨_, rfl, i₂.mono m₃⟩ (q.mono (m₂.trans m₃)), S₃, Int.le_refl _, by simp⟩))))
theorem GenQ.stp {P : Plan → Prop} {v : Value} {l₀ : Lk} {h₀ : Heap} (S : Stp BoxAt b l₀ h₀ l h C) (q : GenQ b l h C 0 P v h') : ∃ pl l', P pl ∧ PlanIn l' pl v ∧ Le l l' ∧ Stp BoxAt b l h l' h' C ∧ Stp BoxAt b l₀ h₀ l' h' C := by
  obtain ⟨pl, l', C', a, c, d, e, f⟩ := q
  obtain rfl : C = C' := by simp at f; omega
  exact ⟨pl, l', a, c, d.grow.1, d, S.trans d⟩
mutual
theorem w_const : ∀ {e : Expr} {pl : Plan} {h : Heap} {l : Lk}, ConstE e pl → Le l (h.hide b).get? → BoxAt h b C → W prog w A (eval e env) h (GenQ b l h C 0 (· = pl))
  | _, _, h, l, .atom ha, hl, hb => by
    refine w_list (w_arg (w_ev ev_str fun v hv => w_ev (w_atoms ha) fun vs hvs => w_newlist (by have := hvs.len; simp at this; simp [this]; decide) fun h₁ s₁ e₁ hl₁ => ?_))
    obtain ⟨l₁, S₁, m₁, i₁, _⟩ := (Stp.refl hl hb).laid BoxAt.p s₁ e₁ hl₁
    obtain ⟨t, rfl⟩ := hv
    cases hvs with
    | cons a r =>
      cases r
      exact ⟨_, l₁, C, rfl, PlanIn.atom' ⟨_, rfl, i₁⟩ a, S₁, Int.le_refl _, by simp⟩
  | _, _, h, l, .list hc hz, hl, hb => w_strlist (fun _ _ _ _ _ a c d => PlanIn.list' a c d) hz hl hb (w_consts hc hl hb)
  | _, _, h, l, .params hc hz, hl, hb => w_strlist (fun _ _ _ _ _ a c d => by simp only [PlanIn]; exact ⟨_, _, _, a, c, d⟩) hz hl hb (w_consts hc hl hb)
theorem w_consts : ∀ {es : List Expr} {ps : List Plan} {h : Heap} {l : Lk} {pos : Pos}, ConstsE es ps → Le l (h.hide b).get? → BoxAt h b C → W prog w A (spliced (backTo pos (starEach es env))) h (AddQ b l h C ps)
  | _, _, h, l, _, .nil, hl, hb => w_arg0 ⟨l, by simp only [PlansIn], Stp.refl hl hb⟩
  | _, _, h, l, _, (.cons hc he hr), hl, hb => by
    refine w_arg (W.mono (w_const hc hl hb) fun v h₁ q => ?_) (congrFun he env)
    obtain ⟨pl, l₁, rfl, i₁, m₁, S₁, _⟩ := q.stp (Stp.refl hl hb)
    refine W.mono (w_consts hr S₁.le S₁.box) fun vs h₂ q₂ => ?_
    obtain ⟨l₂, q₂, S₂⟩ := q₂
    exact ⟨l₂, by simp only [PlansIn]; exact ⟨_, _, rfl, i₁.mono S₂.grow.1, q₂⟩, S₁.trans S₂⟩
end
end
end Mine

end

section
open PySem PySem.W PyProof.Rows PySem.Calls
set_option Elab.async false
set_option maxRecDepth 100000
set_option maxHeartbeats 1000000
set_option linter.unusedVariables false
set_option pp.deepTerms false
set_option pp.deepTerms.threshold 4
set_option pp.maxSteps 4000
namespace Mine
noncomputable def nestP : Plan := .params [.list [.atom (.str (st "u")), .atom (.str (st "v"))], .list [], .atom .none, .list [], .atom .none]
theorem nest_facts : nestP.Ok ∧ nestP.spots = 8 ∧ nestP.dep = 3 ∧ nestP.nodes = 0 ∧ nestP.isParams = true := by
  refine ⟨?_, by simp [nestP, Plan.spots, Plan.spotsAll], by simp [nestP, Plan.dep, Plan.depAll], by simp [nestP, Plan.nodes, Plan.nodesAll], rfl⟩
  simp only [nestP, Plan.Ok, Plan.OkAll]
  refine ⟨⟨⟨?_, ?_, trivial⟩, trivial, trivial, trivial, trivial, trivial⟩, _, _, _, _, _, rfl, ?_, ?_, ?_⟩
  · exact .tail _ (.tail _ (.tail _ (.head _)))
  · exact .tail _ (.tail _ (.tail _ (.tail _ (.head _))))
  · intro q hq
    simp only [List.mem_cons, List.not_mem_nil, or_false] at hq
    rcases hq with rfl | rfl <;> exact .inl rfl
  · intro q hq; cases hq
  · intro q hq; cases hq
theorem isAtom_eq {q : Plan} (h : q.isAtom = true) : ∃ d, q = .atom d := by cases q <;> first | exact ⟨_, rfl⟩ | cases h
theorem params_post {B E n : Nat} {more : List Plan} {s₁ s₂ : Plan} (hE : 2 ≤ E) (hn : n ≤ 1) (hm : more.length ≤ 1) (hq : ∀ q ∈ more, ∃ nd, q = .list [.atom (.str (st "o")), nd] ∧ PSt (st "n") B E nd)
    (h₁ : PSt (st "s") B E s₁) (h₂ : PSt (st "s") B E s₂) : PSt (st "p") B E (.params [.list (.atom (.str (st "x")) :: List.replicate n nestP), .list more, s₁, .list [.atom (.str (st "z"))], s₂]) := by
  obtain ⟨n1, n2, n3, n4, n5⟩ := nest_facts
  obtain ⟨c, rfl⟩ := isAtom_eq (h₁.2.2.2.2 rfl)
  obtain ⟨e, rfl⟩ := isAtom_eq (h₂.2.2.2.2 rfl)
  have kn : Kb (st "n") B = B := rfl
  have kp : Kb (st "p") B = 30 + B := rfl
  have en : Eb (st "n") = 0 := by decide +kernel
  have ep : Eb (st "p") = 3 := by decide +kernel
  have mo : ∀ q ∈ more, q.Ok ∧ q.spots ≤ 2 + B ∧ q.dep ≤ 1 + E := fun q hm => by
    obtain ⟨nd, rfl, a, b, c, _⟩ := hq q hm
    refine ⟨?_, ?_, ?_⟩
    · simp only [Plan.Ok, Plan.OkAll]; exact ⟨.tail _ (.tail _ (.tail _ (.tail _ (.tail _ (.head _))))), a, trivial⟩
    · simp only [Plan.spots, Plan.spotsAll]; omega
    · simp only [Plan.dep, Plan.depAll]; omega
  have ms := Plan.spotsAll_le fun q m => (mo q m).2.1
  have md := Plan.depAll_le fun q m => (mo q m).2.2
  have ml : more.length * (2 + B) ≤ 1 * (2 + B) := Nat.mul_le_mul_right _ hm
  have rs := Plan.spotsAll_le (ps := List.replicate n nestP) (K := 8) fun q m => by rw [List.eq_of_mem_replicate m, n2]; exact Nat.le_refl _
  have rd := Plan.depAll_le (ps := List.replicate n nestP) (K := 3) fun q m => by rw [List.eq_of_mem_replicate m, n3]; exact Nat.le_refl _
  rw [List.length_replicate] at rs
  have a1 := h₁.1
  have a2 := h₂.1
  simp only [Plan.Ok] at a1 a2
  refine ⟨?_, ?_, ?_, fun e => absurd e (by decide +kernel), fun e => absurd e (by decide +kernel)⟩
  · simp only [Plan.Ok, Plan.OkAll]
    refine ⟨⟨⟨.head _, Plan.okAll_of fun q m => by rw [List.eq_of_mem_replicate m]; exact n1⟩, Plan.okAll_of fun q m => (mo q m).1, a1, ⟨.tail _ (.tail _ (.tail _ (.tail _ (.tail _ (.tail _ (.head _)))))), trivial⟩, a2, trivial⟩, _, _, _, _, _, rfl, ?_, ?_, ?_⟩
    · intro q hq
      cases hq with
      | head => exact .inl rfl
      | tail _ hq => rw [List.eq_of_mem_replicate hq]; exact .inr ⟨n5, n4⟩
    · intro q hq
      simp only [List.mem_cons, List.not_mem_nil, or_false] at hq
      subst hq; exact .inl rfl
    · intro q hm
      obtain ⟨nd, rfl, h⟩ := hq q hm
      exact ⟨_, nd, rfl, h.2.2.2.1 rfl⟩
  · simp only [Plan.spots, Plan.spotsAll]; omega
  · simp only [Plan.dep, Plan.depAll]; omega
theorem plansIn_rep {l : Lk} {q : Plan} {v : Value} (h : PlanIn l q v) : ∀ n, PlansIn l (List.replicate n q) (List.replicate n [v]).flatten
  | 0 => by simp only [List.replicate, List.flatten, PlansIn]
  | n + 1 => by
    simp only [List.replicate, List.flatten, PlansIn]
    exact ⟨v, _, rfl, h, plansIn_rep h n⟩
theorem PlansIn.nil {l : Lk} : PlansIn l [] [] := by simp only [PlansIn]
theorem PlansIn.cons {l : Lk} {q : Plan} {ps : List Plan} {v : Value} {vs : List Value} (a : PlanIn l q v) (c : PlansIn l ps vs) : PlansIn l (q :: ps) (v :: vs) := by simp only [PlansIn]; exact ⟨_, _, rfl, a, c⟩
theorem PlanIn.params' {l : Lk} {v u : Value} {t : Tok} {us : List Value} {ps : List Plan} (h : isL l v [.str (st "params") t, u]) (a : isL l u us) (c : PlansIn l ps us) : PlanIn l (.params ps) v := by simp only [PlanIn]; exact ⟨_, _, _, h, a, c⟩
section
variable {prog : Program} {w : World} {p : Program} {loose : List Str} {mean : ExcName → Option Value} {mg mb : Str → Option Value}
theorem params_w {d : Int} {B E Rp : Nat} (hE : 2 ≤ E) (IN : GenC prog w p loose mean mg mb 242 (Args2 (st "n") d) (Rp + 1) B (PSt (st "n") B E)) (IS : GenC prog w p loose mean mg mb 242 (Args2 (st "s") d) (Rp + 1) 1 (PSt (st "s") B E)) :
    GenC prog w p loose mean mg mb 247 (Args1 d) (Rp + 2) (30 + B) (PSt (st "p") B E) := by
  intro A h l b C as has hr H hle hbox hC0 hC1
  obtain ⟨u, rfl⟩ := has
  refine' wc_enterC (binds := [(st "box", .ref b), (st "deep", .int d u)]) (news := []) H (hide_ext _ _) (hide_sz _ _) (fun _ h => nomatch h) ?k6 ?k7 hr.room ?k9 ?kB ?kD ?_ ?c2 ?c3 ?c4
  case k6 => k_is
  case k7 => k_is
  case k9 => exact fun _ _ => BindsTo.of_eq rfl
  case kB => exact rfl
  case kD => decide +kernel
  case c2 => exact rfl
  case c3 => exact rfl
  case c4 => exact rfl
  intro L' h₁ cells base outer hA F N' Y B₁ e₁ _ hL
  obtain ⟨o1, o2, rfl, d1, d2⟩ := Y.two
  with_unfolding_all (change W _ _ _ (execs (_ :: _) (envOfC _ (Scope.mk _ _ _ _ _) _ _ _)) _ _)
  have X₁ := Sx.enter BoxAt.p (cs := [(L' + 2, .int d u), (L' + 1, .ref b)]) H hle hbox hC0 F e₁ hL (by intro q hq; simp only [List.mem_cons, List.not_mem_nil, or_false] at hq; rcases hq with rfl | rfl; exact ⟨o1, (N' _ (.head _)).1, d1⟩; exact ⟨o2, (N' _ (.tail _ (.head _))).1, d2⟩)
  have hcc : ∀ q ∈ [((L' + 2 : Addr), Value.int d u), (L' + 1, .ref b)], q.1 ≠ L' := by intro q hq; simp only [List.mem_cons, List.not_mem_nil, or_false] at hq; rcases hq with rfl | rfl <;> (show L' + _ ≠ L'); exact Nat.ne_of_gt (by omega); exact Nat.ne_of_gt (by omega)
  have hrd := fun e => hr.deeper e
  have c40 : ∀ C', C' ≤ C + 4 → C' < 2 ^ 40 := fun C' q => by omega
  refine w_cons (w_ifW (wt_eqi (X₁.w_take rfl rfl ((hrd _).less (by omega)) (c40 _ (by omega)) (by decide) (by decide) (ev_glob X₁.gl (by k_is)) (ev_cell rfl (X₁.cell (.tail _ (.head _))) rfl) ev_int fun n t C₂ h₂ n0 n1 a0 a1 _ X₂ => ⟨_, _, rfl, ev_int, ?_⟩)))
  cases hq : (n == 0) with
  | true => exact w_cons (w_ret (X₂.w_tag (w_ev ev_none fun v hv => ⟨l, C₂, X₂, fun a t l₃ h₃ hle hl X₃ => X₃.gen (PSt.atom (d := .none) trivial (by show 1 ≤ 30 + B; omega) (by omega) (by decide +kernel)) (PlanIn.atom' hl (hv ▸ .none)) a0 (by omega)⟩)))
  | false =>
    refine w_nil (w_cons (w_asg (W.mono (w_const (pl := nestP) ?cn X₂.le X₂.box) fun v h₃ q => ?_)))
    case cn => exact .params (.cons (.list (.cons (.atom (.str .nil)) rfl (.cons (.atom (.str .nil)) rfl .nil)) (Nat.le_of_ble_eq_true rfl)) rfl (.cons (.list .nil (Nat.le_of_ble_eq_true rfl)) rfl (.cons (.atom (.none .nil)) rfl (.cons (.list .nil (Nat.le_of_ble_eq_true rfl)) rfl (.cons (.atom (.none .nil)) rfl .nil))))) (Nat.le_of_ble_eq_true rfl)
    obtain ⟨_, l₃, rfl, i₃, m₃, S₃, _⟩ := q.stp X₂.toStp
    refine (X₂.next S₃ (Int.le_refl _)).w_st hL hcc fun h₄ X₄ => ?_
    refine w_cons (w_asg (w_bin (w_list (w_arg (W.mono (w_const (pl := .atom (.str (st "x"))) (.atom (.str .nil)) X₄.le X₄.box) fun vx h₅ q => w_arg0 ?_)))))
    obtain ⟨_, l₅, rfl, i₅, m₅, S₅, _⟩ := q.stp X₄.toStp
    have X₅ := X₄.next S₅ (Int.le_refl _)
    refine w_newlist (by show 1 ≤ sizeLine; decide) fun h₆ s₆ e₆ hl₆ => ?_
    have X₆ := X₅.alloc e₆ (s₆ ▸ Nat.le_succ _)
    refine w_bin (w_list (w_arg (w_ev (ev_fr X₆.F rfl rfl) fun vn hvn => w_arg0 (w_newlist (by show 1 ≤ sizeLine; decide) fun h₇ s₇ e₇ hl₇ => ?_))))
    subst hvn
    have X₇ := X₆.alloc e₇ (s₇ ▸ Nat.le_succ _)
    refine X₇.w_take rfl rfl ((hrd _).less (by omega)) (c40 _ (by omega)) (by decide) (by decide) (ev_glob X₇.gl (by k_is)) (ev_cell rfl (X₇.cell (.tail _ (.head _))) rfl) ev_int fun n t C₈ h₈ n0 n1 b0 b1 e₈ X₈ => ?_
    have keep : ∀ a, h₅.get? a = none → a ≠ b := fun a ha r => X₅.box.there (r ▸ ha)
    have hl₆' := (hl₆.at (e₇ _)).at fun o ho => e₈ _ _ ((Heap.hide_ne _ (keep _ (size_none _))).trans ho)
    have hl₇' := hl₇.at fun o ho => e₈ _ _ ((Heap.hide_ne _ fun r => X₆.box.there (by rw [← r]; exact size_none _)).trans ho)
    refine w_mullist hl₇' n0 (by omega) (by show 1 * n.toNat ≤ 2 ^ 24; omega) fun h₉ s₉ e₉ hl₉ => ?_
    refine w_addlist (hl₆'.at (e₉ _)) hl₉ (by rw [lm_len_rep_flat]; show 1 + n.toNat * 1 ≤ 2 ^ 24; omega) fun h₁₀ s₁₀ e₁₀ hl₁₀ => ?_
    obtain ⟨l₁₀, m₁₀, i₁₀, X₁₀⟩ := (X₈.alloc e₉ (s₉ ▸ Nat.le_succ _)).laid s₁₀ e₁₀ hl₁₀
    refine X₁₀.w_st hL hcc fun h₁₁ X₁₁ => ?_
    have hp₁₀ : PlansIn l₁₀ (.atom (.str (st "x")) :: List.replicate n.toNat nestP) ([vx] ++ (List.replicate n.toNat [v]).flatten) := by
      simp only [PlansIn, List.singleton_append]
      exact ⟨_, _, rfl, i₅.mono m₁₀, plansIn_rep (i₃.mono (m₅.trans m₁₀)) _⟩
    refine w_cons ?_
    refine' w_asgcomp ?p0 ?q1 ?q2 ?q3 ?q4 ?q5 ?q6 ?q7 ?q8
    case p0 => exact rfl
    case q1 => exact rfl
    case q2 => decide
    case q3 => exact rfl
    case q4 => decide
    case q5 => exact rfl
    case q6 => exact rfl
    case q7 => exact rfl
    refine w_callee (ev_boot X₁₁.gl (by k_is) boot_range (by decide)) (w_cwtype (w_arg (X₁₁.w_take rfl rfl ((hrd _).less (by omega)) (c40 _ (by omega)) (by decide) (by decide) (ev_glob X₁₁.gl (by k_is)) (ev_cell rfl (X₁₁.cell (.tail _ (.head _))) rfl) ev_int fun n' t' C₁₂ h₁₂ n0' n1' b0' b1' _ X₁₂ => w_arg0 ?_)))
    obtain ⟨r0, r1⟩ := small3 n0' (by omega)
    refine w_rng (b := b) (hrd _).1 X₁₂.box.there r0 r1 fun r h₁₃ hs₁₃ e₁₃ kk => ?_
    refine kk _ fun I fp St h₁₄ src => ?_
    have X₁₃ := X₁₂.alloc e₁₃ (hs₁₃ ▸ Nat.le_succ _)
    refine X₁₃.asgcomp (N := B) (Post := fun _ pl => ∃ nd, pl = .list [.atom (.str (st "o")), nd] ∧ PSt (st "n") B E nd) hL rfl hcc src (Nat.le_trans (by omega) (by decide : 3 ≤ sizeLine)) ?_ ?_
    · intro i v h₅ l₅ C₅ m' hi hv c0 c1 hn hm X₅
      have : (i : Int) * B ≤ 0 * B := Int.mul_le_mul_of_nonneg_right (by omega) (by omega)
      refine X₅.w_list2 (w_const (pl := .atom (.str (st "o"))) (.atom (.str .nil)) X₅.le X₅.box) (fun l₆ h₆ C₆ d0 d1 X₆ => X₆.w_mk3 IN rfl rfl (hrd _) (by omega) (by k_is) (ev_glob X₆.gl (by k_is)) (ev_cell rfl (X₆.cell (.tail _ (.head _))) rfl) ev_str (ev_cell rfl (X₆.cell (.head _)) ⟨_, rfl⟩) fun v h' q => q)
        fun q r l₆ h₆ C₆ v q1 q2 hv d0 d1 X₆ => X₆.gen ⟨r, by rw [q1], q2⟩ hv d0 (by omega)
    · intro more l₁₅ C₁₅ h₁₅ ys D hlen hP hPs hD c0 c1 m₁₅ X₁₅
      have : ((n'.toNat : Nat) : Int) * B ≤ 1 * B := Int.mul_le_mul_of_nonneg_right (by omega) (by omega)
      refine w_cons (w_ret (X₁₅.w_tag (w_list (w_arg (X₁₅.w_tag (w_ev (ev_fr X₁₅.F rfl rfl) fun v₁ hv₁ => ⟨l₁₅, C₁₅, X₁₅, fun a₁ t₁ l₁₆ h₁₆ m₁₆ j₁ X₁₆ => w_arg (X₁₆.w_tag (w_ev (ev_fr X₁₆.F rfl rfl) fun v₂ hv₂ => ⟨l₁₆, C₁₅, X₁₆, fun a₂ t₂ l₁₇ h₁₇ m₁₇ j₂ X₁₇ =>
        w_arg (X₁₇.w_mk3 IS rfl rfl (hrd _) (by omega) (by k_is) (ev_glob X₁₇.gl (by k_is)) (ev_cell rfl (X₁₇.cell (.tail _ (.head _))) rfl) ev_str (ev_cell rfl (X₁₇.cell (.head _)) ⟨_, rfl⟩) fun v₃ h₁₈ q => ?_)⟩))⟩))))))
      subst hv₁ hv₂
      obtain ⟨s₁, l₁₈, C₁₈, g1, g2, g3, g4, g5⟩ := q
      have X₁₈ := X₁₇.next g3 g4
      refine w_arg (W.mono (w_const (pl := .list [.atom (.str (st "z"))]) (.list (.cons (.atom (.str .nil)) rfl .nil) (Nat.le_of_ble_eq_true rfl)) X₁₈.le X₁₈.box) fun v₄ h₁₉ q => ?_)
      obtain ⟨_, l₁₉, rfl, i₁₉, m₁₉, S₁₉, _⟩ := q.stp X₁₈.toStp
      have X₁₉ := X₁₈.next S₁₉ (Int.le_refl _)
      refine w_arg (X₁₉.w_mk3 IS rfl rfl (hrd _) (by omega) (by k_is) (ev_glob X₁₉.gl (by k_is)) (ev_cell rfl (X₁₉.cell (.tail _ (.head _))) rfl) ev_str (ev_cell rfl (X₁₉.cell (.head _)) ⟨_, rfl⟩) fun v₅ h₂₀ q => ?_)
      obtain ⟨s₂, l₂₀, C₂₀, f1, f2, f3, f4, f5⟩ := q
      have X₂₀ := X₁₉.next f3 f4
      refine w_arg0 (X₂₀.w_lay (by show 5 ≤ sizeLine; decide) fun l₂₁ h₂₁ m₂₁ i₂₁ X₂₁ => ⟨l₂₁, C₂₀, X₂₁, fun a t l₂₂ h₂₂ m₂₂ i₂₂ X₂₂ => X₂₂.gen (params_post (B := B) (E := E) (n := n.toNat) (more := more) (s₁ := s₁) (s₂ := s₂) hE (by omega) (by omega) (fun q hq => ?_) g1 f1) ?_ (by omega) (by omega)⟩)
      · obtain ⟨j, hj, rfl⟩ := List.mem_iff_getElem.mp hq
        exact hP j _ (List.getElem?_eq_getElem hj)
      · have e1 := m₂₁.trans m₂₂
        have e2 := f3.grow.1.trans e1
        have e3 := m₁₉.trans e2
        have e4 := g3.grow.1.trans e3
        have e5 := m₁₇.trans e4
        have e6 := m₁₆.trans e5
        have e7 := m₁₅.trans e6
        exact PlanIn.params' i₂₂ (i₂₁.mono m₂₂) (PlansIn.cons (PlanIn.list' (j₁.mono e5) (i₁₀.mono e7) (hp₁₀.mono e7)) (PlansIn.cons (PlanIn.list' (j₂.mono e4) (hD.mono e6) (hPs.mono e6)) (PlansIn.cons (g2.mono e3) (PlansIn.cons (i₁₉.mono e2) (PlansIn.cons (f2.mono e1) PlansIn.nil)))))
end
end Mine

end

section
open PySem PySem.W PyProof.Rows PySem.Calls
set_option Elab.async false
set_option maxRecDepth 100000
set_option maxHeartbeats 1000000
set_option linter.unusedVariables false
set_option pp.deepTerms false
set_option pp.deepTerms.threshold 4
set_option pp.maxSteps 4000
namespace Mine
noncomputable def sign1 (x : Str) (i : Nat) : Str := ⟨#[x.cps.getD i 0]⟩
theorem kinds_ok : ∀ k sp, (k, sp) ∈ kinds → sp.cps.size ≤ 5 ∧ ∀ i, i < sp.cps.size → sign1 sp i ∈ sorts := by
  have h : (kinds.all fun q => decide (q.2.cps.size ≤ 5) && (List.range q.2.cps.size).all fun i => sorts.contains (sign1 q.2 i)) = true := by decide +kernel
  intro k sp hm
  have := List.all_eq_true.mp h _ hm
  simp only [Bool.and_eq_true, decide_eq_true_eq, List.all_eq_true, List.mem_range, List.contains_iff_mem] at this
  exact this
theorem leaves_ok : ∀ k sp, (k, sp) ∈ leaves → sp.cps.size ≤ 1 ∧ ∀ i, i < sp.cps.size → sign1 sp i = st "a" ∨ sign1 sp i = st "s" := by
  have h : (leaves.all fun q => decide (q.2.cps.size ≤ 1) && (List.range q.2.cps.size).all fun i => decide (sign1 q.2 i = st "a" ∨ sign1 q.2 i = st "s")) = true := by decide +kernel
  intro k sp hm
  have := List.all_eq_true.mp h _ hm
  simpa only [Bool.and_eq_true, decide_eq_true_eq, List.all_eq_true, List.mem_range] using this
section
variable {prog : Program} {w : World} {p : Program} {loose : List Str} {mean : ExcName → Option Value} {mg mb : Str → Option Value} {A : Around} {env env₀ : Env} {g h h' h₀ : Heap} {l l' l₀ : Lk} {L b : Addr} {m : Str → Option Value} {cs : List (Addr × Value)} {C C' : Int}
theorem Sx.boxed {Bx : Heap → Addr → Int → Prop} (X : Sx w p loose mean mg mb Bx A b g L m cs l₀ h₀ l h C) (hs : Heap.SameBut b h h') (hb : Bx h' b C') (hC : 0 ≤ C') : Sx w p loose mean mg mb Bx A b g L m cs l₀ h₀ l h' C' :=
  have e : Ext (h.hide b) h' := fun z o q => by
    have hz : z ≠ b := fun r => by rw [r, Heap.hide_self] at q; cases q
    rw [Heap.hide_ne _ hz] at q
    exact (hs.2 z hz).trans q
  X.move (X.toStp.took e (Nat.le_of_eq hs.1.symm) hb) e hC X.u
theorem Sx.alloc₀ {Bx : Heap → Addr → Int → Prop} (X : Sx w p loose mean mg mb Bx A b g L m cs l₀ h₀ l h C) (hL : L = h₀.objs.size) (e : Ext h h') : Sx w p loose mean mg mb Bx A b g L m cs l₀ h₀ l h' C :=
  X.move ⟨X.toStq.alloc X.bp e, Nat.le_of_lt (hL ▸ size_of_ns (X.F.keeps e).ns)⟩ (fun z o q => e _ _ (Heap.of_hide q)) X.pos X.u
theorem Sx.atAll {Bx : Heap → Addr → Int → Prop} (X : Sx w p loose mean mg mb Bx A b g L m cs l₀ h₀ l h C) (hf : env₀.frame = some L) (hk : env₀.scope.kind = .function) : At w p loose mean mg mb (A.deeper env₀) h := by
  obtain ⟨base, outer, B⟩ := X.H.B
  exact At.here X.H.K X.H.T B X.F hf hk
theorem PairsAt.hide (hb : BoxAt h b C) : ∀ {vs : List Value} {ps : List (Str × Str)}, PairsAt h vs ps → PairsAt (h.hide b) vs ps
  | [], [], _ => trivial
  | _ :: _, _ :: _, x => by
    obtain ⟨⟨t, u, u', rfl, ht⟩, y⟩ := x
    refine ⟨⟨t, u, u', rfl, ?_⟩, PairsAt.hide hb y⟩
    obtain ⟨o, ho, hc, r⟩ := ht
    refine ⟨o, (Heap.hide_ne _ fun q => ?_).trans ho, hc, r⟩
    obtain ⟨G, D, t1, t2, t3, _, _, o', ho', hc', _⟩ := hb
    rw [q, ho'] at ho; cases ho; rw [hc'] at hc; simp at hc
theorem w_asgname {x : Str} {p' : Pos} {v : Value} {Q : Unit → Heap → Prop} (y : W prog w A (storeName env x v) h Q) : W prog w A (assign (.Name x p') env v) h Q := W.mk fun s Qs hh kk => wpAny_assign_Name (y.run s _ hh kk)
theorem w_unpack2 {e₁ e₂ : Expr} {k : Nat} {pos : Pos} {t : Addr} {x₁ x₂ : Value} {Q : Unit → Heap → Prop} (hh : A.handled = none) (ht : IsTup h t #[x₁, x₂])
    (y : ∀ h₁, Ext h h₁ → W prog w A (assign e₁ env x₁) h₁ fun _ h₂ => W prog w A (assign e₂ env x₂) h₂ Q)
    (he : assignEach [e₁, e₂] env = [(false, assign e₁ env), (false, assign e₂ env)] := by rfl) : W prog w A (assign (.Tuple [e₁, e₂] k pos) env (.ref t)) h Q := W.mk fun s Qs hs kk => by
  subst hs
  refine PyProof.Rows.assign_Tuple_tuple hh ht (by rw [he]; rfl) (by rw [he]; rfl) fun h' e => ?_
  rw [he]
  exact assignInOrder_cons ((y h' fun z o q => e z o (Nat.ne_of_lt (Heap.lt_size q)) q).run _ _ rfl fun _ h₂ tk q => assignInOrder_cons (q.run _ _ rfl fun _ h₃ tk q => assignInOrder_nil (kk _ _ _ q)))
theorem Sx.w_row {f : Addr} {ps : List (Str × Str)} (X : Sx w p loose mean mg mb BoxAt A b g L m cs l₀ h₀ l h C) (hL : L = h₀.objs.size) {fe ce : Expr} {pos pos' pos'' p₁ p₂ : Pos} {kk : Nat} {x₁ x₂ : Str} {Q : Flow → Heap → Prop} (hh : A.handled = none) (hcc : ∀ q ∈ cs, q.1 ≠ L)
    (fc : WC prog w (A.deeper env₀) (.call (.ref f) ⟨[], []⟩) h fun v h' => ∃ a vs, v = .ref a ∧ h.get? a = none ∧ h'.IsList a vs.toArray ∧ PairsAt h' vs ps ∧ Ext h h') (hf : keepIn (KK w.params) (.ref f) = true)
    (fe' : Ev prog w (A.deeper env₀) env fe h (· = .ref f)) (hps : ps.length ≤ 1000)
    (tk : ∀ h' (Q : Value → Heap → Prop), Sx w p loose mean mg mb BoxAt A b g L m cs l₀ h₀ l h' C → (∀ (d : Int) t C' h'', 0 ≤ d → d < ps.length → C ≤ C' → C' ≤ C + 1 → Ext (h'.hide b) h'' → Sx w p loose mean mg mb BoxAt A b g L m cs l₀ h₀ l h'' C' → Q (.int d t) h'') → W prog w (A.deeper env₀) (eval ce env) h' Q)
    (k : ∀ a c t t' C' h', (a, c) ∈ ps → C ≤ C' → C' ≤ C + 1 → Sx w p loose mean mg mb BoxAt A b g L (fun z => if z = x₂ then some (.str c t') else if z = x₁ then some (.str a t) else m z) cs l₀ h₀ l h' C' → Q .next h')
    (hlo : env.locals = L) (hk : env.scope.kind = .function) (hl₁ : env.kindOf x₁ = some .local) (hl₂ : env.kindOf x₂ = some .local)
    (he : eval (.Call fe [] [] pos) env = (do callWith pos (← eval fe env) [] (backTo pos (starEach [] env)) (backToKw pos (keywordEach [] env))) := by rfl)
    (hs : ∀ o j, subscripted ce false o j = operate [o, j] (getItem o j) := by intro _ _; rfl)
    {spos : Pos} (hsw : swapsWithSole [.Tuple [.Name x₁ p₁, .Name x₂ p₂] kk pos'] (.Subscript (.Call fe [] [] pos) ce pos'') spos.line env = pure false := by rfl)
    (hw : swappedStores [.Tuple [.Name x₁ p₁, .Name x₂ p₂] kk pos'] (.Subscript (.Call fe [] [] pos) ce pos'') env = pure none := by rfl)
    (he' : assignEach [.Name x₁ p₁, .Name x₂ p₂] env = [(false, assign (.Name x₁ p₁) env), (false, assign (.Name x₂ p₂) env)] := by rfl) :
    W prog w (A.deeper env₀) (exec (.Assign [.Tuple [.Name x₁ p₁, .Name x₂ p₂] kk pos'] (.Subscript (.Call fe [] [] pos) ce pos'') spos) env) h Q := by
  refine w_asgtup (w_sub (w_callee fe' (w_cw0 X.gl hf (W.mono (WC.call fc) fun v h₁ q => ?_)) he)) hsw hw
  obtain ⟨a, vs, rfl, hn, hl, hp, e⟩ := q
  have X₁ := X.alloc₀ hL e
  refine tk h₁ _ X₁ fun d t C' h₂ d0 d1 c0 c1 e₂ X₂ => ?_
  have hne : a ≠ b := fun q => X.box.there (q ▸ hn)
  have hj := hl.at fun o ho => e₂ _ _ ((Heap.hide_ne _ hne).trans ho)
  have hp₂ := (PairsAt.hide X₁.box hp).ext e₂
  have hlen := hp₂.len
  obtain ⟨v, q, hv, hq, ht⟩ := PairsAt.at (i := d.toNat) hp₂ (by omega)
  refine W.mk fun s Qs hh' kk' => tail_any (Heap.IsList.typeIs (by rw [hh']; exact hj)) slot_list_getitem.lookup (wpAny_getItem_list (by rw [hh']; exact hj) d0 (by omega) (by simpa using hv) ?_) (hs _ _)
  subst hh'
  refine kk' _ _ s.toks ?_
  obtain ⟨t, u, u', rfl, ht⟩ := ht
  refine w_unpack2 hh ht (fun h₃ e₃ => w_asgname ((X₂.alloc₀ hL e₃).w_st hL hcc (fun h₄ X₄ => w_asgname (X₄.w_st hL hcc (fun h₅ X₅ => k _ _ _ _ _ _ (List.mem_of_getElem? hq) c0 c1 X₅) hlo hk hl₂)) hlo hk hl₁)) he'
theorem PlanIn.node' {l : Lk} {v u : Value} {t t' : Tok} {us : List Value} {k : Str} {ps : List Plan} (h : isL l v [.str (st "node") t, .str k t', u]) (a : isL l u us) (c : PlansIn l ps us) : PlanIn l (.node k ps) v := by simp only [PlanIn]; exact ⟨_, _, _, _, h, a, c⟩
theorem plan_w {d : Int} {R M E S : Nat} (hd0 : 0 ≤ d) (hd5 : d ≤ 5) (hS : 1 ≤ S) (hS5 : d ≠ 0 → 5 ≤ S) (hSM : S * M ≤ 2 ^ 30) (hR : 1 ≤ R)
    (IK : ∀ y ∈ sorts, d ≠ 0 ∨ y = st "a" ∨ y = st "s" → GenC prog w p loose mean mg mb 242 (Args2 y (d - 1)) R M (fun pl => pl.Ok ∧ pl.spots ≤ M ∧ pl.dep ≤ E)) :
    GenC prog w p loose mean mg mb 230 (Args1 d) (R + 1) (1 + S * M) (fun pl => pl.Ok ∧ pl.isNode = true ∧ pl.spots ≤ 1 + S * M ∧ pl.dep ≤ 1 + E) := by
  intro A h l b C as has hr H hle hbox hC0 hC1
  obtain ⟨u, rfl⟩ := has
  refine' wc_enterC (binds := [(st "box", .ref b), (st "deep", .int d u)]) (news := []) H (hide_ext _ _) (hide_sz _ _) (fun _ h => nomatch h) ?k6 ?k7 hr.room ?k9 ?kB ?kD ?_ ?c2 ?c3 ?c4
  case k6 => k_is
  case k7 => k_is
  case k9 => exact fun _ _ => BindsTo.of_eq rfl
  case kB => exact rfl
  case kD => decide +kernel
  case c2 => exact rfl
  case c3 => exact rfl
  case c4 => exact rfl
  intro L' h₁ cells base outer hA F N' Y B₁ e₁ _ hL
  obtain ⟨o1, o2, rfl, d1, d2⟩ := Y.two
  with_unfolding_all (change W _ _ _ (execs (_ :: _) (envOfC _ (Scope.mk _ _ _ _ _) _ _ _)) _ _)
  have X₁ := Sx.enter BoxAt.p (cs := [(L' + 2, .int d u), (L' + 1, .ref b)]) H hle hbox hC0 F e₁ hL (by intro q hq; simp only [List.mem_cons, List.not_mem_nil, or_false] at hq; rcases hq with rfl | rfl; exact ⟨o1, (N' _ (.head _)).1, d1⟩; exact ⟨o2, (N' _ (.tail _ (.head _))).1, d2⟩)
  have hcc : ∀ q ∈ [((L' + 2 : Addr), Value.int d u), (L' + 1, .ref b)], q.1 ≠ L' := by intro q hq; simp only [List.mem_cons, List.not_mem_nil, or_false] at hq; rcases hq with rfl | rfl <;> (show L' + _ ≠ L'); exact Nat.ne_of_gt (by omega); exact Nat.ne_of_gt (by omega)
  have hrd := fun e => hr.deeper e
  have c40 : ∀ C', C' ≤ C + 4 → C' < 2 ^ 40 := fun C' q => by omega
  obtain ⟨G, D, t1, t2, t3, hG0, hG1, hl⟩ := X₁.box
  refine w_cons (w_put (ev_sub (ev_at (ev_cell rfl (X₁.cell (.tail _ (.head _))) rfl) hl rfl ⟨_, rfl⟩) ev_int) (ev_cell rfl (X₁.cell (.tail _ (.head _))) rfl) ev_int hl (by decide) rfl (by decide) fun v h₂ hv hl₂ hs₂ => ?_)
  obtain ⟨t4, rfl⟩ := hv
  have X₂ := X₁.boxed hs₂ ⟨G, _, _, _, _, hG0, hG1, hl₂⟩ hC0
  refine w_cons (W.mono (Q := fun fl h₃ => fl = .next ∧ ∃ (k sp : Str) (t t' : Tok) (C₃ : Int) (m : Str → Option Value), ((k, sp) ∈ kinds ∧ d ≠ 0 ∨ (k, sp) ∈ leaves) ∧ C ≤ C₃ ∧ C₃ ≤ C + 1 ∧ Sx w p loose mean mg mb BoxAt A b (h.hide b) L' (fun z => if z = st "spec" then some (.str sp t') else if z = st "kind" then some (.str k t) else m z) [(L' + 2, .int d u), (L' + 1, .ref b)] l h l h₃ C₃)
    (w_ifW (wt_or (wt_eqi (w_ev (ev_cell rfl (X₂.cell (.head _)) rfl) fun v hv => ⟨d, u, hv.symm, ev_int, ?_⟩)))) fun fl h₃ q => ?_)
  · cases hq : (d == 0) with
    | true =>
      refine w_cons (X₂.w_row hL hr.1 hcc (leaves_w (X₂.atAll rfl rfl) (hrd _).room) (by k_is) (ev_glob X₂.gl (by k_is)) (by decide)
        (fun h' Q X' kk => X'.w_take rfl rfl ((hrd _).less hR) (c40 _ (by omega)) (by decide) (by decide) (ev_glob X'.gl (by k_is)) (ev_cell rfl (X'.cell (.tail _ (.head _))) rfl) ev_int fun d t C' h'' p q => kk d t C' h'' p q)
        (fun a c t t' C' h' hm c0 c1 X' => w_nil ⟨rfl, a, c, t, t', C', _, .inr hm, c0, c1, X'⟩) rfl rfl rfl rfl)
    | false =>
      refine w_ev (ts_lt (ev_at (ev_cell rfl (X₂.cell (.tail _ (.head _))) rfl) hl₂ rfl ⟨_, rfl⟩) ev_int) fun c hc => ?_
      cases c with
      | true =>
        refine w_cons (X₂.w_row hL hr.1 hcc (leaves_w (X₂.atAll rfl rfl) (hrd _).room) (by k_is) (ev_glob X₂.gl (by k_is)) (by decide)
          (fun h' Q X' kk => X'.w_take rfl rfl ((hrd _).less hR) (c40 _ (by omega)) (by decide) (by decide) (ev_glob X'.gl (by k_is)) (ev_cell rfl (X'.cell (.tail _ (.head _))) rfl) ev_int fun d t C' h'' p q => kk d t C' h'' p q)
          (fun a c t t' C' h' hm c0 c1 X' => w_nil ⟨rfl, a, c, t, t', C', _, .inr hm, c0, c1, X'⟩) rfl rfl rfl rfl)
      | false =>
        have hdn : d ≠ 0 := by simpa using hq
        refine w_cons (X₂.w_row hL hr.1 hcc (shapes_w (X₂.atAll rfl rfl) (hrd _).room) (by k_is) (ev_glob X₂.gl (by k_is)) (by decide)
          (fun h' Q X' kk => X'.w_take rfl rfl ((hrd _).less hR) (c40 _ (by omega)) (by decide) (by decide) (ev_glob X'.gl (by k_is)) (ev_cell rfl (X'.cell (.tail _ (.head _))) rfl) ev_int fun d t C' h'' p q => kk d t C' h'' p q)
          (fun a c t t' C' h' hm c0 c1 X' => w_nil ⟨rfl, a, c, t, t', C', _, .inl ⟨hm, hdn⟩, c0, c1, X'⟩) rfl rfl rfl rfl)
  obtain ⟨rfl, k, sp, t, t', C₃, m, hks, c0, c1, X₃⟩ := q
  have hsp5 : sp.cps.size ≤ 5 := by
    rcases hks with ⟨q, hn⟩ | q
    · exact (kinds_ok _ _ q).1
    · exact Nat.le_trans (leaves_ok _ _ q).1 (by decide)
  have hsp : sp.cps.size ≤ S ∧ ∀ i, i < sp.cps.size → sign1 sp i ∈ sorts ∧ (d ≠ 0 ∨ sign1 sp i = st "a" ∨ sign1 sp i = st "s") := by
    rcases hks with ⟨q, hn⟩ | q
    · have := kinds_ok _ _ q
      exact ⟨Nat.le_trans this.1 (hS5 hn), fun i hi => ⟨this.2 i hi, .inl hn⟩⟩
    · have := leaves_ok _ _ q
      exact ⟨Nat.le_trans this.1 hS, fun i hi => ⟨(this.2 i hi).elim (fun e => e ▸ by decide +kernel) (fun e => e ▸ by decide +kernel), .inr (this.2 i hi)⟩⟩
  have hsM : (sp.cps.size : Int) * M ≤ (S * M : Nat) := by rw [← Int.natCast_mul]; exact Int.ofNat_le.mpr (Nat.mul_le_mul_right _ hsp.1)
  have hiM : ∀ i : Nat, i < sp.cps.size → (i : Int) * M + M ≤ (S * M : Nat) := fun i hi => by
    have e : (i : Int) * M + M = ((i + 1) * M : Nat) := by rw [Int.natCast_mul, Int.natCast_add, Int.add_mul]; simp
    rw [e]; exact Int.ofNat_le.mpr (Nat.mul_le_mul_right _ (by omega))
  refine w_cons (w_ret (w_list (w_arg (w_ev ev_str fun v₁ hv₁ => w_arg (w_ev (ev_fr X₃.F rfl rfl) fun v₂ hv₂ => w_arg ?_)))))
  refine' w_comp ?q1 ?q2 ?q3 ?q4 ?q5 ?q6
  case q1 => exact rfl
  case q2 => decide
  case q3 => exact rfl
  case q4 => decide
  case q5 => exact rfl
  refine w_ev (ev_fr X₃.F rfl rfl) fun v₃ hv₃ => ?_
  subst hv₃
  refine w_itstr (b := b) (hrd _).1 X₃.box.there fun I fp St h₄ src => ?_
  refine X₃.comp (N := M) (Post := fun _ pl => pl.Ok ∧ pl.spots ≤ M ∧ pl.dep ≤ E) src ?_ ?_ ?_
  · exact Nat.le_trans hsp5 (by decide : 5 ≤ sizeLine)
  · intro i v h₅ l₅ C₅ m' hi hv b0 b1 hn hm X₅
    obtain ⟨c, u', hc, rfl⟩ := hv
    have hc' : (⟨#[c]⟩ : Str) = sign1 sp i := by unfold sign1; rw [Array.getD_eq_getD_getElem?, hc]; rfl
    have hh := hsp.2 i hi
    rw [← hc'] at hh
    have := hiM i hi
    exact X₅.w_mk3 (IK _ hh.1 hh.2) rfl rfl (hrd _) (by omega) (by k_is) (ev_glob X₅.gl (by k_is)) (ev_cell rfl (X₅.cell (.tail _ (.head _))) rfl) (ev_loc hn hm ⟨_, rfl⟩) (ev_sub (ev_cell rfl (X₅.cell (.head _)) ⟨_, rfl⟩) ev_int) fun v h' q => q
  · intro pls l₅ C₅ h₅ ys D' hlen hP hi hD b0 b1 hle₅ _ X₅
    subst hv₂
    obtain ⟨t5, rfl⟩ := hv₁
    refine w_arg0 (X₅.w_lay (by show 3 ≤ sizeLine; decide) fun l₆ h₆ m₆ i₆ X₆ => X₆.gen ⟨?_, rfl, ?_, ?_⟩ (PlanIn.node' i₆ (hD.mono m₆) (hi.mono m₆)) (by omega) (by omega))
    · simp only [Plan.Ok]
      refine ⟨⟨sp, ?_, hlen.symm⟩, Plan.okAll_of fun q hq => ?_⟩
      · exact List.mem_append.mpr (hks.imp (·.1) id)
      · obtain ⟨j, hj, rfl⟩ := List.mem_iff_getElem.mp hq
        exact (hP j _ (List.getElem?_eq_getElem hj)).1
    · have := Plan.spotsAll_le (ps := pls) (K := M) fun q hq => by
        obtain ⟨j, hj, rfl⟩ := List.mem_iff_getElem.mp hq
        exact (hP j _ (List.getElem?_eq_getElem hj)).2.1
      have e : pls.length * M ≤ S * M := Nat.mul_le_mul_right _ (hlen ▸ hsp.1)
      simp only [Plan.spots]; omega
    · have := Plan.depAll_le (ps := pls) (K := E) fun q hq => by
        obtain ⟨j, hj, rfl⟩ := List.mem_iff_getElem.mp hq
        exact (hP j _ (List.getElem?_eq_getElem hj)).2.2
      simp only [Plan.dep]; omega
theorem GenC.weaken {f : Addr} {rest : List Value → Prop} {R R' N N' : Nat} {P P' : Plan → Prop} (x : GenC prog w p loose mean mg mb f rest R N P) (hR : R ≤ R') (hN : N ≤ N') (hP : ∀ pl, P pl → P' pl) : GenC prog w p loose mean mg mb f rest R' N' P' :=
  fun A h l b C as ha hr H hle hb h0 h1 s Rs hs k => x A h l b C as ha (hr.less hR) H hle hb h0 (by omega) s Rs hs fun v h' tk q => k v h' tk (q.mono hN hP)
theorem rk_pos (y : Str) : 1 ≤ rk y ∧ rk y ≤ 5 := by unfold rk; split <;> (try split) <;> (try split) <;> (try split) <;> omega
theorem part_all {d : Int} {B E R : Nat} (hB : 2 ≤ B) (hE : 2 ≤ E) (hR : 1 ≤ R) (hd : -5 ≤ d ∧ d ≤ 5) (IP : GenC prog w p loose mean mg mb 230 (Args1 (if d > 0 then d else 0)) R B (PSt (st "n") B E)) :
    ∀ r, ∀ y ∈ sorts, rk y ≤ r → GenC prog w p loose mean mg mb 242 (Args2 y d) (R + rk y) (Kb y B) (PSt y B E) := by
  intro r
  induction r with
  | zero => intro y _ h; exact absurd (rk_pos y).1 (by omega)
  | succ r ih =>
    intro y hy h
    have I : ∀ z ∈ sorts, rk z < rk y → GenC prog w p loose mean mg mb 242 (Args2 z d) (R + rk z) (Kb z B) (PSt z B E) := fun z hz hlt => ih z hz (by omega)
    refine part_w hy hB hE hR hd (fun _ => IP) I fun hp => ?_
    subst hp
    exact params_w hE (I (st "n") (by decide +kernel) (by decide +kernel)) (I (st "s") (by decide +kernel) (by decide +kernel))
theorem Kb_le (y : Str) (B : Nat) : 2 ≤ B → Kb y B ≤ 30 + 8 * B := by
  intro h
  unfold Kb
  repeat (first | (split; omega) | omega)
theorem Eb_le (y : Str) : Eb y ≤ 3 := by
  unfold Eb
  repeat (first | (split; omega) | omega)
theorem Bd_pos (d : Nat) : 3 ≤ Bd d := by cases d <;> simp only [Bd] <;> omega
theorem Dp_pos (d : Nat) : 3 ≤ Dp d := by cases d <;> simp only [Dp] <;> omega
theorem Rp_pos (d : Nat) : 3 ≤ Rp d := by cases d <;> simp only [Rp] <;> omega
theorem plan_all : ∀ d : Nat, d ≤ 3 → GenC prog w p loose mean mg mb 230 (Args1 d) (Rp d) (Bd d) (PSt (st "n") (Bd d) (Dp d))
  | 0, _ => by
    refine GenC.weaken (plan_w (d := 0) (R := 2) (M := 1) (E := 2) (S := 1) (by decide) (by decide) (by decide) (fun h => absurd rfl h) (by decide) (by decide) fun y hy hz => ?_) (by decide +kernel) (by decide +kernel) fun pl q => ⟨q.1, by have := q.2.2.1; show pl.spots ≤ 3; omega, by have := q.2.2.2; show pl.dep ≤ 0 + 3; omega, fun _ => q.2.1, fun e => absurd e (by decide +kernel)⟩
    have hy1 : rk y = 1 ∧ Kb y 2 = 1 ∧ Eb y = 0 := by
      rcases hz.resolve_left (fun h => h rfl) with rfl | rfl <;> exact ⟨by decide +kernel, by decide +kernel, by decide +kernel⟩
    refine GenC.weaken (part_w (B := 2) (E := 2) (Rp := 1) hy (by decide) (by decide) (by decide) (by decide) (fun hn => ?_) (fun z _ hlt => ?_) fun hp => ?_) (by omega) (by omega) fun pl q => ⟨q.1, by have := q.2.1; omega, by have := q.2.2.1; omega⟩
    · rcases hz.resolve_left (fun h => h rfl) with rfl | rfl <;> rcases hn with hn | hn <;> exact absurd hn (by decide +kernel)
    · exact absurd (rk_pos z).1 (by omega)
    · subst hp; exact absurd (hz.resolve_left (fun h => h rfl)) (by decide +kernel)
  | d + 1, hd => by
    have ih := plan_all d (by omega)
    have hB := Bd_pos d
    have hM : Bd d ≤ 11032 := by
      match d, hd with
      | 0, _ => decide +kernel
      | 1, _ => decide +kernel
      | 2, _ => decide +kernel
    have e : (((d + 1 : Nat) : Int) - 1) = d := by omega
    refine GenC.weaken (plan_w (d := (d + 1 : Nat)) (R := Rp d + 5) (M := 30 + 8 * Bd d) (E := 3 + Dp d) (S := 5) (by omega) (by omega) (by decide) (fun _ => by decide) (by omega) (by omega) fun y hy hz => ?_) (by simp only [Rp]; omega) (by simp only [Bd]; omega)
      fun pl q => ⟨q.1, by have := q.2.2.1; show pl.spots ≤ Bd (d + 1); simp only [Bd]; omega, by have := q.2.2.2; have e0 : Eb (st "n") = 0 := (by decide +kernel); rw [e0]; simp only [Dp]; omega, fun _ => q.2.1, fun e => absurd e (by decide +kernel)⟩
    rw [e]
    refine GenC.weaken (part_all (B := Bd d) (E := Dp d) (R := Rp d) (by omega) (by have := Dp_pos d; omega) (by have := Rp_pos d; omega) ⟨by omega, by omega⟩ ?_ 5 y hy (rk_pos y).2) (by have := (rk_pos y).2; omega) (Kb_le y _ (by omega)) fun pl q => ⟨q.1, Nat.le_trans q.2.1 (Kb_le y _ (by omega)), by have := q.2.2.1; have := Eb_le y; omega⟩
    have e' : (if ((d : Nat) : Int) > 0 then ((d : Nat) : Int) else 0) = d := by split <;> omega
    rw [e']
    exact ih
end
end Mine

end

section
open PySem PySem.W PyProof.Rows PySem.Calls
set_option Elab.async false
set_option maxRecDepth 100000
set_option maxHeartbeats 1000000
set_option linter.unusedVariables false
set_option pp.deepTerms false
set_option pp.deepTerms.threshold 4
set_option pp.maxSteps 4000
namespace Mine
noncomputable def tabF : List (Str × Nat × List Str) := [(st "array", 58, [st "items"]), (st "call", 78, [st "receiver", st "name", st "args", st "block", st "safe"]), (st "hash", 59, [st "pairs"]), (st "if", 91, [st "test", st "yes", st "no"]), (st "int", 54, [st "value"]), (st "case", 93, [st "subject", st "whens", st "other"]), (st "begin", 97, [st "body", st "rescues", st "other", st "ensure"]), (st "block", 80, [st "params", st "body"]), (st "def", 101, [st "singleton", st "name", st "params", st "body"]), (st "p_hash", 114, [st "const", st "pairs", st "rest"]), (st "p_array", 113, [st "const", st "pre", st "rest", st "post"]), (st "seq", 90, [st "items"]), (st "and", 82, [st "left", st "right"]), (st "or", 83, [st "left", st "right"]), (st "opasgn", 77, [st "target", st "op", st "value"]), (st "masgn", 76, [st "targets", st "value"]), (st "while", 92, [st "test", st "body", st "negate"]), (st "range", 60, [st "first", st "last", st "open"]), (st "lambda", 88, [st "params", st "body"]), (st "super", 86, [st "args", st "block"]), (st "yield", 87, [st "args"]), (st "class", 103, [st "name", st "superclass", st "body"]), (st "dstr", 57, [st "parts"]), (st "assign", 75, [st "target", st "value"]), (st "not", 85, [st "value"]), (st "nil", 49, []), (st "sym", 55, [st "name"]), (st "lvar", 62, [st "name"]), (st "self", 52, [])]
def strsOf : List Value → Option (List Str)
  | [] => some []
  | .str x _ :: r => (strsOf r).map (x :: ·)
  | _ => none
def fieldsOf (K : Frag) (a : Addr) : Option (List Str) := match K.lookup a with
  | some ⟨c, none, .seq vs _, _⟩ => if c == .type "tuple" then strsOf vs.toList else none
  | _ => none
theorem strsOf_are : ∀ {vs : List Value} {ns : List Str}, strsOf vs = some ns → StrsAre vs ns
  | [], _, h => by cases h; exact .nil
  | .str x t :: r, ns, h => by
    simp only [strsOf, Option.map_eq_some_iff] at h
    obtain ⟨ms, h, rfl⟩ := h
    exact .cons x t (strsOf_are h)
def KindIn (K : Frag) (k : Str) (ns : List Str) : Prop := ∃ a vs, nsIn K 48 k = some (some (.ref a)) ∧ StrsAre vs ns ∧ ∀ h : Heap, K.In h → ∃ n sl, h.get? a = some ⟨.type "tuple", none, .seq vs.toArray n, sl⟩
theorem fieldsOf_in {K : Frag} {a : Addr} {k : Str} {ns : List Str} (h1 : nsIn K 48 k = some (some (.ref a))) (h2 : fieldsOf K a = some ns) : KindIn K k ns := by
  unfold fieldsOf at h2
  split at h2
  · rename_i c vs n sl e
    split at h2
    · rename_i hc
      exact ⟨a, vs.toList, h1, strsOf_are h2, fun h X => ⟨n, sl, by have := X _ _ e; rw [eq_of_beq hc] at this; exact this⟩⟩
    · cases h2
  · cases h2
theorem tabF_ok (P : Params) : (tabF.all fun r => nsIn (KK P) 48 r.1 == some (some (.ref r.2.1)) && fieldsOf (KK P) r.2.1 == some r.2.2) = true := by kernel_rfl
theorem tabF_all : ((kinds ++ leaves).all fun q => tabF.any fun r => decide (r.1 = q.1) && decide (r.2.2.length = q.2.cps.size) && decide r.2.2.Nodup) = true := by decide +kernel
theorem kind_in {k : Str} {n : Nat} (P : Params) (h : KindAr k n) : ∃ ns, KindIn (KK P) k ns ∧ ns.length = n ∧ ns.Nodup := by
  obtain ⟨sp, hm, rfl⟩ := h
  have := List.all_eq_true.mp tabF_all _ hm
  obtain ⟨r, hr, h⟩ := List.any_eq_true.mp this
  simp only [Bool.and_eq_true, decide_eq_true_eq] at h
  obtain ⟨⟨e1, e2⟩, e3⟩ := h
  have := List.all_eq_true.mp (tabF_ok P) _ hr
  simp only [Bool.and_eq_true, beq_iff_eq] at this
  exact ⟨r.2.2, fieldsOf_in (e1 ▸ this.1) this.2, e2, e3⟩
end Mine

end

section
open PySem PySem.W PyProof.Rows PySem.Calls
set_option Elab.async false
set_option maxRecDepth 100000
set_option maxHeartbeats 1000000
set_option linter.unusedVariables false
set_option pp.deepTerms false
set_option pp.deepTerms.threshold 4
set_option pp.maxSteps 4000
namespace Mine
def SK (es : List DictEntry) : Prop := ∀ e ∈ es, ∃ x t, e.key = .str x t
theorem getL_str {es : List DictEntry} (h : SK es) (name : Str) : getL name es = some ((es.find? (·.key.isStr name)).map (·.val)) := by
  unfold getL
  have : es.any (·.refKey) = false := by
    rw [List.any_eq_false]
    intro e he
    obtain ⟨x, t, q⟩ := h e he
    unfold DictEntry.refKey
    rw [q]; exact fun e => nomatch e
  cases es.find? (·.key.isStr name) with
  | some e => rfl
  | none => simp [this]
theorem isStr_str (x name : Str) (t : Tok) : (Value.str x t).isStr name = decide (x = name) := by
  unfold Value.isStr
  rw [Bool.eq_iff_iff]; simp
theorem SK.put {es : List DictEntry} (h : SK es) (name : Str) (hs : Int) (t : Tok) (v : Value) : SK (putL name hs (.str name t) v es) := by
  induction es with
  | nil => intro e he; simp only [putL, List.mem_singleton] at he; subst he; exact ⟨_, _, rfl⟩
  | cons a r ih =>
    simp only [putL]
    split
    · intro e he
      cases he with
      | head => exact h a (.head _)
      | tail _ he => exact h e (.tail _ he)
    · intro e he
      cases he with
      | head => exact h a (.head _)
      | tail _ he => exact ih (fun e he => h e (.tail _ he)) e he
theorem find_put {es : List DictEntry} (h : SK es) (name : Str) (hs : Int) (t : Tok) (v : Value) (n : Str) :
    ((putL name hs (.str name t) v es).find? (·.key.isStr n)).map (·.val) = if n = name then some v else (es.find? (·.key.isStr n)).map (·.val) := by
  induction es with
  | nil =>
    simp only [putL, List.find?_cons, List.find?_nil, isStr_str]
    by_cases e : n = name
    · subst e; simp
    · simp [e, Ne.symm e]
  | cons a r ih =>
    obtain ⟨x, t', q⟩ := h a (.head _)
    simp only [putL, q, isStr_str]
    by_cases e : x = name
    · subst e
      simp only [decide_true, if_true, List.find?_cons, isStr_str, q]
      by_cases e' : x = n
      · subst e'; simp
      · simp [e', Ne.symm e']
    · simp only [e, decide_false, Bool.false_eq_true, if_false, List.find?_cons, isStr_str, q]
      by_cases e' : x = n
      · subst e'; simp [e]
      · simp [e', ih fun e he => h e (.tail _ he)]
theorem getL_put {es : List DictEntry} (h : SK es) (name : Str) (hs : Int) (t : Tok) (v : Value) (n : Str) : getL n (putL name hs (.str name t) v es) = if n = name then some (some v) else getL n es := by
  rw [getL_str (SK.put h name hs t v), find_put h, getL_str h]
  split <;> rfl
theorem putL_len (name : Str) (hs : Int) (k v : Value) : ∀ es : List DictEntry, (putL name hs k v es).length ≤ es.length + 1
  | [] => Nat.le_refl _
  | a :: r => by
    simp only [putL]
    split
    · exact Nat.le_succ _
    · exact Nat.succ_le_succ (putL_len name hs k v r)

inductive Tree where
  | atom (v : Value) (d : PyData)
  | node (x : Addr) (k : Str) (line : Int) (pt : Addr) (ps : List Tree)
  | list (a : Addr) (tup : Bool) (ps : List Tree)
  | params (x : Addr) (ps : List Tree)
def Tree.val : Tree → Value
  | .atom v _ => v
  | .node x .. => .ref x
  | .list a .. => .ref a
  | .params x _ => .ref x
mutual
noncomputable def Tree.plan : Tree → Plan
  | .atom _ d => .atom d
  | .node _ k _ _ ps => .node k (Tree.plans ps)
  | .list _ _ ps => .list (Tree.plans ps)
  | .params _ ps => .params (Tree.plans ps)
noncomputable def Tree.plans : List Tree → List Plan
  | [] => []
  | t :: ts => t.plan :: Tree.plans ts
end
def SeqAt (l : Lk) (a : Addr) (tup : Bool) (vs : List Value) : Prop := ∃ o n, l a = some o ∧ o.cls = .type (if tup then "tuple" else "list") ∧ o.data = .seq vs.toArray n
def FieldsAre (fs : List (Str × Value)) (es : List DictEntry) : Prop := (∀ q ∈ fs, getL q.1 es = some (some q.2)) ∧ ∀ n, (∀ q ∈ fs, q.1 ≠ n) → getL n es = some none
theorem FieldsAre.perm {fs fs' : List (Str × Value)} {es : List DictEntry} (x : FieldsAre fs es) (k : ∀ q, q ∈ fs' ↔ q ∈ fs) : FieldsAre fs' es := ⟨fun q hq => x.1 q ((k q).mp hq), fun n hn => x.2 n fun q hq => hn q ((k q).mpr hq)⟩
def InsAt (l : Lk) (x C : Addr) (fs : List (Str × Value)) : Prop := ∃ dx es n sl, l x = some ⟨.ref C, some dx, .plain, sl⟩ ∧ l dx = some (dictOf es n) ∧ FieldsAre fs es
mutual
def InT (l : Lk) : Tree → Prop
  | .atom v d => AtomV v d
  | .node x k line pt ps => (∃ t t', InsAt l x 140 [(st "kind", .str k t), (st "parts", .ref pt), (st "line", .int line t'), (st "own", .none)]) ∧ SeqAt l pt true (ps.map Tree.val) ∧ InTs l ps
  | .list a tup ps => SeqAt l a tup (ps.map Tree.val) ∧ InTs l ps
  | .params x ps => (∃ a b c d e, ps.map Tree.val = [a, b, c, d, e] ∧ InsAt l x 172 [(st "required", a), (st "optional", b), (st "rest", c), (st "post", d), (st "block", e)]) ∧ (∃ b₀ r₀ b₁ r₁ c b₃ r₃ e, ps = [.list b₀ false r₀, .list b₁ false r₁, c, .list b₃ false r₃, e]) ∧ InTs l ps
def InTs (l : Lk) : List Tree → Prop
  | [] => True
  | t :: ts => InT l t ∧ InTs l ts
end
theorem SeqAt.mono {l l' : Lk} (e : Le l l') {a : Addr} {tup : Bool} {vs : List Value} (x : SeqAt l a tup vs) : SeqAt l' a tup vs := let ⟨o, n, q, r⟩ := x; ⟨o, n, e _ _ q, r⟩
theorem InsAt.mono {l l' : Lk} (e : Le l l') {x C : Addr} {fs : List (Str × Value)} (y : InsAt l x C fs) : InsAt l' x C fs := let ⟨dx, es, n, sl, a, c, d⟩ := y; ⟨dx, es, n, sl, e _ _ a, e _ _ c, d⟩
mutual
theorem InT.mono {l l' : Lk} (e : Le l l') : ∀ {t : Tree}, InT l t → InT l' t
  | .atom .., h => by simpa only [InT] using h
  | .node _ _ _ _ ps, h => by
    simp only [InT] at h ⊢
    exact ⟨let ⟨t, t', x⟩ := h.1; ⟨t, t', x.mono e⟩, h.2.1.mono e, InTs.mono e (ts := ps) h.2.2⟩
  | .list _ _ ps, h => by
    simp only [InT] at h ⊢
    exact ⟨h.1.mono e, InTs.mono e (ts := ps) h.2⟩
  | .params _ ps, h => by
    simp only [InT] at h ⊢
    exact ⟨let ⟨a, b, c, d, f, q, x⟩ := h.1; ⟨a, b, c, d, f, q, x.mono e⟩, h.2.1, InTs.mono e (ts := ps) h.2.2⟩
theorem InTs.mono {l l' : Lk} (e : Le l l') : ∀ {ts : List Tree}, InTs l ts → InTs l' ts
  | [], _ => by simp only [InTs]
  | t :: ts, h => by
    simp only [InTs] at h ⊢
    exact ⟨InT.mono e (t := t) h.1, InTs.mono e (ts := ts) h.2⟩
end
def InTV (l : Lk) (t : Tree) (v : Value) : Prop := v = t.val ∧ InT l t
theorem InTV.mono (l l' : Lk) (t : Tree) (v : Value) (e : Le l l') (x : InTV l t v) : InTV l' t v := ⟨x.1, x.2.mono e⟩
theorem AllR.trees {l : Lk} {ts : List Tree} {vs : List Value} (x : AllR InTV l ts vs) : vs = ts.map Tree.val ∧ InTs l ts := by
  induction x with
  | nil => exact ⟨rfl, by simp only [InTs]⟩
  | cons a _ ih => exact ⟨by rw [List.map_cons, ← a.1, ← ih.1], by simp only [InTs]; exact ⟨a.2, ih.2⟩⟩
mutual
def Tree.Num : Tree → Int → Int → Prop
  | .atom .., C, C' => C' = C
  | .node _ _ line _ ps, C, C' => line = C ∧ Tree.Nums ps (C + 1) C'
  | .list _ _ ps, C, C' => Tree.Nums ps C C'
  | .params _ ps, C, C' => Tree.Nums ps C C'
def Tree.Nums : List Tree → Int → Int → Prop
  | [], C, C' => C' = C
  | t :: ts, C, C' => ∃ C₁, t.Num C C₁ ∧ Tree.Nums ts C₁ C'
end
theorem Tree.Nums.snoc {t : Tree} {C' C'' : Int} (y : t.Num C' C'') : ∀ {ts : List Tree} {C : Int}, Tree.Nums ts C C' → Tree.Nums (ts ++ [t]) C C''
  | [], C, h => by
    simp only [Tree.Nums] at h; subst h
    simp only [List.nil_append, Tree.Nums]
    exact ⟨_, y, rfl⟩
  | u :: ts, C, h => by
    simp only [Tree.Nums, List.cons_append] at h ⊢
    obtain ⟨C₁, a, c⟩ := h
    exact ⟨C₁, a, Tree.Nums.snoc y c⟩
end Mine

end

section
open PySem PySem.W PyProof.Rows PySem.Calls
set_option Elab.async false
set_option maxRecDepth 100000
set_option maxHeartbeats 1000000
set_option linter.unusedVariables false
set_option pp.deepTerms false
set_option pp.deepTerms.threshold 4
set_option pp.maxSteps 4000
namespace Mine
section
variable {prog : Program} {w : World} {p : Program} {loose : List Str} {mean : ExcName → Option Value} {mg mb : Str → Option Value} {A : Around} {env : Env} {g h h' : Heap} {l l' : Lk} {L b : Addr} {m : Str → Option Value} {C : Int} {Bx : Heap → Addr → Int → Prop}
abbrev mkC (D : Addr) (as : List Value) : Code := .builtin "type.__call__" ⟨.ref D :: as, []⟩
theorem At.under (H : At w p loose mean mg mb A h) (D : Addr) (as : List Value) : At w p loose mean mg mb (A.under (mkC D as)) h :=
  ⟨H.K, H.T, let ⟨base, outer, B⟩ := H.B; ⟨base, outer, ⟨B.stack, B.stays, B.frames⟩⟩⟩
theorem Room.under {n : Nat} (hr : Room A (n + 1)) (D : Addr) (as : List Value) : Room (A.under (mkC D as)) n :=
  ⟨hr.1, by have := hr.2.1; show A.depth + 1 + n < 1000; omega, by have := hr.2.2; show A.units + 1 + 4 * n < 9900; omega⟩
theorem w_setattr {o e : Expr} {a : Str} {p' pos : Pos} {Q : Flow → Heap → Prop} (x : W prog w A (eval e env) h fun v h₁ => W prog w A (eval o env) h₁ fun ov h₂ => W prog w A (setAttr ov a v) h₂ fun _ h₃ => Q .next h₃)
    (hs : swapsWith e (some (.Attribute o a p')) pos.line env = pure false := by rfl) : W prog w A (exec (.Assign [.Attribute o a p'] e pos) env) h Q :=
  W.mk fun s Qs hh k => plainObj_wpAny_Assign_Attribute (x.run s _ hh fun _ _ _ q => q.run _ _ rfl fun _ _ _ q => q.run _ _ rfl fun _ _ _ q => k _ _ _ q) hs
structure Mk1 (g : Heap) (L : Addr) (m : Str → Option Value) (x dx C : Addr) (news : List (Addr × Obj)) (k : Nat) (fs : List (Str × Value)) (h : Heap) : Prop where
  F : Fr g L h m
  ne : x ≠ dx
  nn : ∀ q ∈ news, q.1 ≠ dx ∧ q.1 ≠ x
  N : ∃ es n, News g L h ((dx, dictOf es n) :: (x, instObj C dx) :: news) ∧ SK es ∧ es.length ≤ k ∧ FieldsAre fs es
theorem Mk1.set {x dx D : Addr} {news : List (Addr × Obj)} {k : Nat} {fs : List (Str × Value)} {name : Str} {v : Value} {Q : Unit → Heap → Prop} (X : Mk1 g L m x dx D news k fs h) (K : (KK w.params).In g) (hz : k < 1000)
    (hs : findIn (KK w.params) (.ref D) "__setattr__" = some (some (.builtin "object.__setattr__"))) (hp : plainOver (KK w.params) D = true) (ht : takerIn (KK w.params) D name = some none) (hh : hasDictIn (KK w.params) D = true)
    (hf : fs.all (fun q => q.1 != name) = true) (k' : ∀ h', Mk1 g L m x dx D news (k + 1) ((name, v) :: fs) h' → Q () h') : W prog w A (setAttr (.ref x) name v) h Q := W.mk fun s Qs hss kk => by
  obtain ⟨es, n, N, hsk, hl, hfs⟩ := X.N
  subst hss
  refine set_dict (es' := putL name _ (.str name _) v es) (n' := putN name es n) X.F K N (InstAt.of_news N (.tail _ (.head _)) (.head _)) rfl hs hp ht hh (by rw [getL_str hsk]; rfl) rfl (.head fun q hq => ?_) (Nat.le_trans (putL_len ..) (by omega)) fun h' F' N' => kk _ _ _ (k' h' ⟨F', X.ne, X.nn, _, _, N', SK.put hsk _ _ _ _, Nat.le_trans (putL_len ..) (by omega), fun q hq => ?_, fun n hn => ?_⟩)
  · cases hq with
    | head => exact X.ne
    | tail _ hq => exact (X.nn q hq).1
  · rw [getL_put hsk]
    cases hq with
    | head => simp
    | tail _ hq => rw [if_neg (by have := List.all_eq_true.mp hf q hq; simpa using this)]; exact hfs.1 q hq
  · rw [getL_put hsk, if_neg (Ne.symm (hn _ (.head _)))]; exact hfs.2 n fun q hq => hn q (.tail _ hq)
theorem lt_there {z : Addr} (q : h.get? z ≠ none) (e : Ext h h') : z < h'.objs.size := by
  cases c : h.get? z with
  | none => exact absurd c q
  | some o => exact Heap.lt_size (e _ _ c)
theorem w_tuplist {a : Addr} {vs : List Value} {Q : Value → Heap → Prop} (hl : h.IsList a vs.toArray) (hsz : vs.length ≤ sizeLine)
    (k : ∀ x h', Ext h h' → (∀ z, h.get? z ≠ none → z < x) → h'.get? x = some { cls := .type "tuple", data := .seq vs.toArray } → Q (.ref x) h') : W prog w A (call (.type "tuple") [.ref a]) h Q := W.mk fun s Qs hh kk => by
  subst hh
  exact call_tuple_list hl (fun h₁ e => kk _ _ s.toks (k _ _ (fun z o q => Heap.get?_push_of_some _ (e _ _ q)) (fun z q => lt_there q e) (Heap.get?_push_size _ rfl))) (by simpa using hsz)
theorem w_listcopy {a : Addr} {tup : Bool} {vs : List Value} {Q : Value → Heap → Prop} (hl : SeqAt h.get? a tup vs) (hsz : vs.length ≤ sizeLine)
    (k : ∀ x h' c, Ext h h' → (∀ z, h.get? z ≠ none → z < x) → h'.get? x = some { cls := .type "list", data := .seq vs.toArray c } → Q (.ref x) h') : W prog w A (call (.type "list") [.ref a]) h Q := W.mk fun s Qs hh kk => by
  subst hh
  obtain ⟨o, n, h1, h2, h3⟩ := hl
  exact call_list_seq (T := if tup then "tuple" else "list") a (by cases tup; exact .inl rfl; exact .inr rfl) h1 h2 h3 (fun h' c e ho => kk _ _ s.toks (k _ _ c e (fun z q => lt_there q fun _ _ e => e) ho)) (by simpa using hsz)
theorem Mk1.push {x dx D pt : Addr} {news : List (Addr × Obj)} {k : Nat} {fs : List (Str × Value)} {o : Obj} (X : Mk1 g L m x dx D news k fs h) (e' : Ext h h') (hn : ∀ z, h.get? z ≠ none → z < pt) (ho : h'.get? pt = some o) : Mk1 g L m x dx D ((pt, o) :: news) k fs h' := by
  obtain ⟨es, n, N, hsk, hl, hfs⟩ := X.N
  have far : ∀ {z}, h.get? z ≠ none → pt ≠ z := fun {z} q => Nat.ne_of_gt (hn z q)
  refine ⟨X.F.keeps e', X.ne, fun q hq => ?_, es, n, fun q hq => ?_, hsk, hl, hfs⟩
  · cases hq with
    | head => exact ⟨far (by rw [(N _ (.head _)).1]; exact fun e => nomatch e), far (by rw [(N _ (.tail _ (.head _))).1]; exact fun e => nomatch e)⟩
    | tail _ hq => exact X.nn q hq
  · have old : ∀ q ∈ (dx, dictOf es n) :: (x, instObj D dx) :: news, h'.get? q.1 = some q.2 ∧ q.1 ≠ L ∧ g.get? q.1 = none := fun q hq => ⟨e' _ _ (N q hq).1, (N q hq).2⟩
    cases hq with
    | head => exact old _ (.head _)
    | tail _ hq => cases hq with
      | head => exact old _ (.tail _ (.head _))
      | tail _ hq => cases hq with
        | head =>
          refine ⟨ho, far ?_, ?_⟩
          · obtain ⟨o', _, _, r, _⟩ := X.F.ns; rw [r]; exact fun e => nomatch e
          · cases c : g.get? pt with
            | none => rfl
            | some o' => exact absurd rfl (far (z := pt) (by rw [X.F.keep _ _ c]; exact fun e => nomatch e))
        | tail _ hq => exact old _ (.tail _ (.tail _ hq))
theorem f48 (P : Params) : ∃ es n, (KK P).lookup 48 = some ⟨.type "dict", none, .dict es n, #[]⟩ ∧ KeysLit P es.toList := by
  refine ⟨_, _, rfl, ?_⟩
  with_unfolding_all (repeat (first | exact trivial | refine ⟨⟨_, _, rfl, rfl⟩, ?_⟩))
theorem ev_lenB {fe e : Expr} {pos : Pos} {a : Addr} {vs : List Value} {tup : Bool} (en : Ev prog w A env fe h (· = .builtin "len")) (x : Ev prog w A env e h (· = .ref a)) (hl : SeqAt h.get? a tup vs) (hsz : vs.length ≤ 1000000)
    (he : eval (.Call fe [e] [] pos) env = (do callWith pos (← eval fe env) [] (backTo pos (starEach [e] env)) (backToKw pos (keywordEach [] env))) := by rfl)
    (s₁ : starEach [e] env = (false, eval e env) :: starEach [] env := by rfl) : Ev prog w A env (.Call fe [e] [] pos) h (IsI vs.length) :=
  w_callee en (w_cwb (w_arg (w_ev x fun v hv => w_arg0 (by
    subst hv
    obtain ⟨o, n, h1, h2, h3⟩ := hl
    have hz : (vs.toArray.size : Int) < 2 ^ 63 := by simp only [List.size_toArray]; omega
    refine W.mk fun s Qs hh kk => ?_
    subst hh
    have fin : ∀ tk, Qs (.int vs.toArray.size (s.toks + 1)) { s with toks := tk } := fun tk => kk _ _ tk ⟨rfl, s.toks + 1, by simp only [List.size_toArray]⟩
    cases tup with
    | true => exact len_tuple ⟨o, h1, h2, n, h3⟩ hz (fin _)
    | false => exact len_list ⟨o, h1, h2, n, h3⟩ hz (fin _))) s₁) s₁ (by rfl)) he
theorem ev_len {fe e : Expr} {pos : Pos} {a : Addr} {vs : List Value} {tup : Bool} (en : Ev prog w A env fe h (· = .builtin "len")) (x : Ev prog w A env e h (· = .ref a)) (hl : SeqAt h.get? a tup vs) (hsz : vs.length ≤ 1000)
    (he : eval (.Call fe [e] [] pos) env = (do callWith pos (← eval fe env) [] (backTo pos (starEach [e] env)) (backToKw pos (keywordEach [] env))) := by rfl)
    (s₁ : starEach [e] env = (false, eval e env) :: starEach [] env := by rfl) : Ev prog w A env (.Call fe [e] [] pos) h (IsI vs.length) :=
  ev_lenB en x hl (Nat.le_trans hsz (by decide)) he s₁
theorem ev_field {e₁ e₂ : Expr} {pos : Pos} {k : Str} {a : Addr} {P : Value → Prop} (X : (KK w.params).In h) (x : Ev prog w A env e₁ h (· = .ref 48)) (y : Ev prog w A env e₂ h (IsS k)) (hk : nsIn (KK w.params) 48 k = some (some (.ref a))) (hp : P (.ref a))
    (hs : ∀ o j, subscripted e₂ false o j = operate [o, j] (getItem o j) := by intro _ _; rfl) : Ev prog w A env (.Subscript e₁ e₂ pos) h P :=
  w_sub (w_ev x fun o ho => w_ev y fun j hj => by
    subst ho
    obtain ⟨t, rfl⟩ := hj
    obtain ⟨es, n, hl, hkk⟩ := f48 w.params
    exact W.still fun s Qs hh k => tail_any (mapOf_K (prog := prog) (hh ▸ X) hl hkk).typeIs slot_dict_getitem.lookup (wpAny_getItem_of (strKind_is prog w _ t) (mapOf_K (prog := prog) (hh ▸ X) hl hkk) (find_K hl hk) (k _ _ hp)) (hs _ _))
theorem ts_notin {e₁ e₂ : Expr} {pos : Pos} {k : Str} {r : Option Value} (X : (KK w.params).In h) (y : Ev prog w A env e₂ h (IsS k)) (x : Ev prog w A env e₁ h (· = .ref 48)) (hk : nsIn (KK w.params) 48 k = some r)
    (hb : behindInMarks .NotIn e₁ = false := by rfl) : Ts prog w A env (.Compare e₂ [.NotIn] [e₁] pos) h (· = !r.isSome) :=
  ts_cmp y x (fun _ _ ⟨_, e⟩ e' => by
    subst e e'
    obtain ⟨es, n, hl, hkk⟩ := f48 w.params
    exact W.still fun s _ hh kk => wpAny_notIn_of (strKind_is prog w _ _) (by decide) (mapOf_K (prog := prog) (hh ▸ X) hl hkk) (by rw [find_K hl hk]; exact kk _ _ ⟨_, rfl, rfl⟩)) hb
theorem ts_nei {l r : Expr} {pos : Pos} {a c : Int} (x : Ev prog w A env l h (IsI a)) (y : Ev prog w A env r h (IsI c)) (hb : behindInMarks .NotEq r = false := by rfl) : Ts prog w A env (.Compare l [.NotEq] [r] pos) h (fun v => v = true ↔ a ≠ c) :=
  ts_cmp x y (fun _ _ ⟨_, e⟩ ⟨_, e'⟩ => by subst e e'; exact (W.still fun s _ _ k => ne_int (k _ s.toks ⟨_, rfl, by simp⟩))) hb
theorem nodeInit_w {k : Str} {ns : List Str} {t u : Tok} {line : Int} {pa x dx : Addr} {vs : List Value} (H : At w p loose mean mg mb A g) (hr : Room A 1) (hk : KindIn (KK w.params) k ns) (hn : vs.length = ns.length) (hn' : ns.length ≤ 1000) (hl : g.IsList pa vs.toArray) (e : Ext g h) (hs : g.objs.size ≤ h.objs.size)
    (hx : h.get? x = some (instObj 140 dx) ∧ g.get? x = none) (hd : h.get? dx = some emptyDict ∧ g.get? dx = none) (hne : x ≠ dx) :
    WC prog w A (.call (.ref 130) ⟨[.ref x, .str k t, .ref pa, .int line u], []⟩) h fun v h' => v = .none ∧ Ext g h' ∧ h.objs.size ≤ h'.objs.size ∧ ∃ pt, g.get? pt = none ∧ h.objs.size ≤ pt ∧ pt ≠ x ∧ pt ≠ dx ∧ h'.get? pt = some { cls := .type "tuple", data := .seq vs.toArray } ∧ h'.get? x = some (instObj 140 dx) ∧ ∃ es n, h'.get? dx = some (dictOf es n) ∧
      FieldsAre [(st "kind", .str k t), (st "parts", .ref pt), (st "line", .int line u), (st "own", .none)] es := by
  refine' wc_enter (binds := [(st "self", .ref x), (st "kind", .str k t), (st "parts", .ref pa), (st "line", .int line u)]) (news := [(dx, dictOf [] 0), (x, instObj 140 dx)]) H e hs ?n0 ?k6 ?k7 hr.room ?k9 ?kB ?_ ?c2 ?c3 ?c4 ?c5
  case n0 =>
    intro q hq
    simp only [List.mem_cons, List.not_mem_nil, or_false] at hq
    rcases hq with rfl | rfl
    · exact hd
    · exact hx
  case k6 => k_is
  case k7 => k_is
  case k9 =>
    intro s hs'
    refine' binds_K (T := 123) (K := KK w.params) ?x1 rfl ?x2 ?x3 ?x4 ?x5
    case x1 => rw [hs']; exact H.K.keeps e
    case x2 => k_is
    case x3 => exact rfl
    case x4 => exact rfl
    case x5 => exact rfl
  case kB => exact locs rfl
  case c2 => exact rfl
  case c3 => exact rfl
  case c4 => exact rfl
  case c5 => decide
  intro L' h₁ base outer hA F N B₁ e₁ hL
  with_unfolding_all (change W _ _ _ (execs (_ :: _) (envOf _ (Scope.mk _ _ _ _ _) _ _ _)) _ _)
  obtain ⟨fa, fvs, hk1, hk2, hk3⟩ := hk
  have X₀ := H.K.keeps F.keep
  have G : Gl w p loose mean mg mb h₁ := Gl.ext ⟨H.K, H.T⟩ F.keep
  have hft : SeqAt h₁.get? fa true fvs := let ⟨n, sl, q⟩ := hk3 h₁ X₀; ⟨_, n, q, rfl, rfl⟩
  have hpt : SeqAt h₁.get? pa false vs := let ⟨o, a, c, n, d⟩ := hl.at (F.keep _); ⟨o, n, a, c, d⟩
  refine w_cons (w_if_f (ts_or (ts_notin X₀ (ev_fr F rfl ⟨_, rfl⟩) (ev_glob G (by k_is)) hk1) (fun e => nomatch e) fun _ => ?_) ?_)
  · refine ev_mono (ts_nei (ev_len (ev_boot G (by k_is) boot_len (by decide)) (ev_field X₀ (ev_glob G (by k_is)) (ev_fr F rfl ⟨_, rfl⟩) hk1 rfl) hft ?_) (ev_len (ev_boot G (by k_is) boot_len (by decide)) (ev_fr F rfl rfl) hpt ?_)) fun c hc => ?_
    · rw [hk2.length]; exact hn'
    · rw [hn]; exact hn'
    · cases c with
      | true => exact absurd (by rw [hk2.length, hn]) (hc.mp rfl)
      | false => rfl
  have M₁ : Mk1 g L' (fun y => List.lookup y [(st "line", .int line u), (st "parts", .ref pa), (st "kind", .str k t), (st "self", .ref x)]) x dx 140 [] 0 [] h₁ := ⟨F, hne, (fun _ h => nomatch h), [], 0, N, (fun _ h => nomatch h), Nat.le_refl _, (fun _ h => nomatch h), fun _ _ => rfl⟩
  have s1 : findIn (KK w.params) (.ref 140) "__setattr__" = some (some (.builtin "object.__setattr__")) := by k_is
  have s2 : plainOver (KK w.params) 140 = true := by k_is
  have s3 : hasDictIn (KK w.params) 140 = true := by k_is
  refine w_cons (w_setattr (w_ev (ev_fr M₁.F rfl rfl) fun v hv => w_ev (ev_fr M₁.F rfl rfl) fun ov ho => ?_))
  subst hv ho
  refine M₁.set H.K (by decide) s1 s2 (by k_is) s3 rfl fun h₂ M₂ => ?_
  have G₂ : Gl w p loose mean mg mb h₂ := Gl.ext ⟨H.K, H.T⟩ M₂.F.keep
  refine w_cons (w_setattr (w_callee (ev_boot G₂ (by k_is) boot_tuple (by decide)) (w_cwtype (w_arg (w_ev (ev_fr M₂.F rfl rfl) fun v hv => w_arg0 ?_)))))
  subst hv
  refine w_tuplist (hl.at (M₂.F.keep _)) (by rw [hn]; exact Nat.le_trans hn' (by decide : 1000 ≤ sizeLine)) fun pt h₃ e₂ np hpt => ?_
  have M₃ := M₂.push e₂ np hpt
  refine w_ev (ev_fr M₃.F rfl rfl) fun ov ho => ?_
  subst ho
  refine M₃.set H.K (by decide) s1 s2 (by k_is) s3 (by kernel_rfl) fun h₄ M₄ => ?_
  refine w_cons (w_setattr (w_ev (ev_fr M₄.F rfl rfl) fun v hv => w_ev (ev_fr M₄.F rfl rfl) fun ov ho => ?_))
  subst hv ho
  refine M₄.set H.K (by decide) s1 s2 (by k_is) s3 (by kernel_rfl) fun h₅ M₅ => ?_
  refine w_cons (w_setattr (w_ev ev_none fun v hv => w_ev (ev_fr M₅.F rfl rfl) fun ov ho => ?_))
  subst hv ho
  refine M₅.set H.K (by decide) s1 s2 (by k_is) s3 (by kernel_rfl) fun h₆ M₆ => ?_
  obtain ⟨es, n, N₆, _, _, hfs⟩ := M₆.N
  refine w_nil ⟨rfl, M₆.F.keep, Nat.le_of_lt (hL ▸ size_of_ns M₆.F.ns), pt, (N₆ _ (.tail _ (.tail _ (.head _)))).2.2, hL ▸ Nat.le_of_lt (np L' (by obtain ⟨o', _, _, r, _⟩ := M₂.F.ns; rw [r]; exact fun e => nomatch e)), (M₆.nn _ (.head _)).2, (M₆.nn _ (.head _)).1, (N₆ _ (.tail _ (.tail _ (.head _)))).1, (N₆ _ (.tail _ (.head _))).1, es, n, (N₆ _ (.head _)).1, hfs.perm fun q => ?_⟩
  simp only [List.mem_cons, List.not_mem_nil, or_false]
  exact ⟨fun h => by rcases h with h | h | h | h <;> simp only [h, true_or, or_true], fun h => by rcases h with h | h | h | h <;> simp only [h, true_or, or_true]⟩
theorem Stp.sees (hB : BoxP Bx) (hle : Le l (h.hide b).get?) (hbox : Bx h b C) (e : Ext h h') (hs : h.objs.size ≤ h'.objs.size) : ∀ os : List (Addr × Obj), (∀ q ∈ os, h'.get? q.1 = some q.2 ∧ h.objs.size ≤ q.1) → os.Pairwise (fun p q => p.1 < q.1) →
    ∃ l', Stp Bx b l h l' h' C ∧ (∀ q ∈ os, l' q.1 = some q.2) ∧ ∀ z, (∀ q ∈ os, z ≠ q.1) → l' z = l z
  | [], _, _ => ⟨l, (Stp.refl hle hbox).alloc hB e hs, (fun _ h => nomatch h), fun _ _ => rfl⟩
  | q :: os, hq, hp => by
    obtain ⟨hp1, hp2⟩ := List.pairwise_cons.mp hp
    obtain ⟨l', S, a, c⟩ := Stp.sees hB hle hbox e hs os (fun q h => hq q (.tail _ h)) hp2
    have n : h.get? q.1 = none := by
      cases r : h.get? q.1 with
      | none => rfl
      | some o => exact absurd (Heap.lt_size r) (Nat.not_lt.mpr (hq q (.head _)).2)
    have u : l' q.1 = none := (c _ fun r hr => Nat.ne_of_lt (hp1 r hr)).trans (unseen hle n)
    refine ⟨_, ⟨S.toStq.see (hq q (.head _)).1 (hq q (.head _)).2 u (fun r => hB.there hbox (r ▸ n)), hs⟩, fun r hr => ?_, fun z hz => (if_neg (hz q (.head _))).trans (c z fun r hr => hz r (.tail _ hr))⟩
    cases hr with
    | head => exact add_self _ _ _
    | tail _ hr => exact le_add _ u _ _ (a r hr)
theorem node_w {k : Str} {ns : List Str} {t u : Tok} {line : Int} {pa : Addr} {vs : List Value} (hB : BoxP Bx) (H : At w p loose mean mg mb A h) (hr : Room A 2) (hk : KindIn (KK w.params) k ns) (hn : vs.length = ns.length) (hn' : ns.length ≤ 1000) (hle : Le l (h.hide b).get?) (hbox : Bx h b C) (hl : LIs l pa vs) :
    WC prog w A (.call (.ref 140) ⟨[.str k t, .ref pa, .int line u], []⟩) h fun v h' => ∃ x pt l', v = .ref x ∧ Stp Bx b l h l' h' C ∧ InsAt l' x 140 [(st "kind", .str k t), (st "parts", .ref pt), (st "line", .int line u), (st "own", .none)] ∧ SeqAt l' pt true vs := by
  intro s R hs kk
  subst hs
  obtain ⟨hh, g, d, tk, os⟩ := s
  dsimp only at H hle hbox kk ⊢
  have hl' : hh.IsList pa vs.toArray := by
    obtain ⟨o, a, c, n, q⟩ := hl
    exact ⟨o, Heap.of_hide (hle _ _ a), c, n, q⟩
  refine make_core (makes_of H.K (by k_is)) (looks_findIn H.K (by k_is)) (fun self => bind_fn H.K self (by k_is)) (.inl rfl) ?_
  have e0 : Ext hh ((hh.push emptyDict).push (instObj 140 hh.objs.size)) := fun z o q => Heap.get?_push_of_some _ (Heap.get?_push_of_some _ q)
  have z0 : ((hh.push emptyDict).push (instObj 140 hh.objs.size)).objs.size = hh.objs.size + 2 := by rw [Heap.size_push, Heap.size_push]
  have n1 : hh.get? (hh.objs.size + 1) = none := by
    cases c : hh.get? (hh.objs.size + 1) with
    | none => rfl
    | some o => exact absurd (Heap.lt_size c) (Nat.not_lt.mpr (Nat.le_succ _))
  refine nodeInit_w (g := hh) (x := hh.objs.size + 1) (dx := hh.objs.size) (H.under 140 _) (hr.under 140 _) hk hn hn' hl' e0 (by rw [z0]; exact Nat.le_add_right _ _) ⟨?_, n1⟩ ⟨?_, size_none hh⟩ (Nat.ne_of_gt (Nat.lt_succ_self _)) _ _ rfl fun v h' tk' q => ?_
  · have := Heap.get?_push_size (o := instObj 140 hh.objs.size) (hh.push emptyDict) rfl
    rwa [Heap.size_push] at this
  · exact Heap.get?_push_of_some _ (Heap.get?_push_size _ rfl)
  obtain ⟨rfl, e, hz, pt, p1, p0, p2, p3, p4, p5, es, n, p6, p7⟩ := q
  have hsz : hh.objs.size ≤ h'.objs.size := by rw [z0] at hz; exact Nat.le_trans (Nat.le_add_right _ _) hz
  refine ⟨rfl, kk _ _ _ ?_⟩
  rw [z0] at p0
  obtain ⟨l', S, i, _⟩ := Stp.sees hB hle hbox e hsz [(hh.objs.size, _), (hh.objs.size + 1, _), (pt, _)] (by
      intro q hq
      simp only [List.mem_cons, List.not_mem_nil, or_false] at hq
      rcases hq with rfl | rfl | rfl
      · exact ⟨p6, Nat.le_refl _⟩
      · exact ⟨p5, Nat.le_succ _⟩
      · exact ⟨p4, Nat.le_trans (Nat.le_add_right _ _) p0⟩) (by
      refine .cons (fun q hq => ?_) (.cons (fun q hq => ?_) (.cons (fun _ h => nomatch h) .nil)) <;> simp only [List.mem_cons, List.not_mem_nil, or_false] at hq
      · rcases hq with rfl | rfl
        · exact Nat.lt_succ_self _
        · exact Nat.lt_of_lt_of_le (Nat.lt_succ_of_lt (Nat.lt_succ_self _)) p0
      · subst hq; exact Nat.lt_of_lt_of_le (Nat.lt_succ_self _) p0)
  exact ⟨_, pt, l', rfl, S, ⟨_, es, n, #[], i _ (.tail _ (.head _)), i _ (.head _), p7⟩, ⟨_, _, i _ (.tail _ (.tail _ (.head _))), rfl, rfl⟩⟩
theorem paramsInit_w {a0 a1 a3 x dx : Addr} {v2 v4 : Value} {t0 t1 t3 : Bool} {vs0 vs1 vs3 : List Value} (H : At w p loose mean mg mb A g) (hr : Room A 1) (h0 : SeqAt g.get? a0 t0 vs0) (h1 : SeqAt g.get? a1 t1 vs1) (h3 : SeqAt g.get? a3 t3 vs3)
    (z0 : vs0.length ≤ sizeLine) (z1 : vs1.length ≤ sizeLine) (z3 : vs3.length ≤ sizeLine) (e : Ext g h) (hs : g.objs.size ≤ h.objs.size)
    (hx : h.get? x = some (instObj 172 dx) ∧ g.get? x = none) (hd : h.get? dx = some emptyDict ∧ g.get? dx = none) (hne : x ≠ dx) :
    WC prog w A (.call (.ref 162) ⟨[.ref x, .ref a0, .ref a1, v2, .ref a3, v4], []⟩) h fun v h' => v = .none ∧ Ext g h' ∧ h.objs.size ≤ h'.objs.size ∧ ∃ b0 b1 b3 c0 c1 c3, h.objs.size ≤ b0 ∧ b0 < b1 ∧ b1 < b3 ∧ h'.get? b0 = some { cls := .type "list", data := .seq vs0.toArray c0 } ∧ h'.get? b1 = some { cls := .type "list", data := .seq vs1.toArray c1 } ∧ h'.get? b3 = some { cls := .type "list", data := .seq vs3.toArray c3 } ∧
      h'.get? x = some (instObj 172 dx) ∧ ∃ es n, h'.get? dx = some (dictOf es n) ∧ FieldsAre [(st "required", .ref b0), (st "optional", .ref b1), (st "rest", v2), (st "post", .ref b3), (st "block", v4)] es := by
  refine' wc_enter (binds := [(st "self", .ref x), (st "required", .ref a0), (st "optional", .ref a1), (st "rest", v2), (st "post", .ref a3), (st "block", v4)]) (news := [(dx, dictOf [] 0), (x, instObj 172 dx)]) H e hs ?n0 ?k6 ?k7 hr.room ?k9 ?kB ?_ ?c2 ?c3 ?c4 ?c5
  case n0 =>
    intro q hq
    simp only [List.mem_cons, List.not_mem_nil, or_false] at hq
    rcases hq with rfl | rfl
    · exact hd
    · exact hx
  case k6 => k_is
  case k7 => k_is
  case k9 =>
    intro s hs'
    refine' binds_K (T := 155) (K := KK w.params) ?x1 rfl ?x2 ?x3 ?x4 ?x5
    case x1 => rw [hs']; exact H.K.keeps e
    case x2 => k_is
    case x3 => exact rfl
    case x4 => exact rfl
    case x5 => exact rfl
  case kB => exact locs rfl
  case c2 => exact rfl
  case c3 => exact rfl
  case c4 => exact rfl
  case c5 => decide
  intro L' h₁ base outer hA F N B₁ e₁ hL
  with_unfolding_all (change W _ _ _ (execs (_ :: _) (envOf _ (Scope.mk _ _ _ _ _) _ _ _)) _ _)
  have M₁ : Mk1 g L' (fun y => List.lookup y [(st "block", v4), (st "post", .ref a3), (st "rest", v2), (st "optional", .ref a1), (st "required", .ref a0), (st "self", .ref x)]) x dx 172 [] 0 [] h₁ := ⟨F, hne, (fun _ h => nomatch h), [], 0, N, (fun _ h => nomatch h), Nat.le_refl _, (fun _ h => nomatch h), fun _ _ => rfl⟩
  have s1 : findIn (KK w.params) (.ref 172) "__setattr__" = some (some (.builtin "object.__setattr__")) := by k_is
  have s2 : plainOver (KK w.params) 172 = true := by k_is
  have s3 : hasDictIn (KK w.params) 172 = true := by k_is
  have G₁ : Gl w p loose mean mg mb h₁ := Gl.ext ⟨H.K, H.T⟩ F.keep
  refine w_cons (w_setattr (w_callee (ev_boot G₁ (by k_is) boot_list (by decide)) (w_cwtype (w_arg (w_ev (ev_fr F rfl rfl) fun v hv => w_arg0 ?_)))))
  subst hv
  refine w_listcopy (h0.mono F.keep) z0 fun b0 h₂ c0 e₂ n0 o0 => ?_
  have M₂ := M₁.push e₂ n0 o0
  refine w_ev (ev_fr M₂.F rfl rfl) fun ov ho => ?_
  subst ho
  refine M₂.set H.K (by decide) s1 s2 (by k_is) s3 rfl fun h₃ M₃ => ?_
  have G₃ : Gl w p loose mean mg mb h₃ := Gl.ext ⟨H.K, H.T⟩ M₃.F.keep
  refine w_cons (w_setattr (w_callee (ev_boot G₃ (by k_is) boot_list (by decide)) (w_cwtype (w_arg (w_ev (ev_fr M₃.F rfl rfl) fun v hv => w_arg0 ?_)))))
  subst hv
  refine w_listcopy (h1.mono M₃.F.keep) z1 fun b1 h₄ c1 e₄ n1 o1 => ?_
  have M₄ := M₃.push e₄ n1 o1
  refine w_ev (ev_fr M₄.F rfl rfl) fun ov ho => ?_
  subst ho
  refine M₄.set H.K (by decide) s1 s2 (by k_is) s3 (by kernel_rfl) fun h₅ M₅ => ?_
  refine w_cons (w_setattr (w_ev (ev_fr M₅.F rfl rfl) fun v hv => w_ev (ev_fr M₅.F rfl rfl) fun ov ho => ?_))
  subst hv ho
  refine M₅.set H.K (by decide) s1 s2 (by k_is) s3 (by kernel_rfl) fun h₆ M₆ => ?_
  have G₆ : Gl w p loose mean mg mb h₆ := Gl.ext ⟨H.K, H.T⟩ M₆.F.keep
  refine w_cons (w_setattr (w_callee (ev_boot G₆ (by k_is) boot_list (by decide)) (w_cwtype (w_arg (w_ev (ev_fr M₆.F rfl rfl) fun v hv => w_arg0 ?_)))))
  subst hv
  refine w_listcopy (h3.mono M₆.F.keep) z3 fun b3 h₇ c3 e₇ n3 o3 => ?_
  have M₇ := M₆.push e₇ n3 o3
  refine w_ev (ev_fr M₇.F rfl rfl) fun ov ho => ?_
  subst ho
  refine M₇.set H.K (by decide) s1 s2 (by k_is) s3 (by kernel_rfl) fun h₈ M₈ => ?_
  refine w_cons (w_setattr (w_ev (ev_fr M₈.F rfl rfl) fun v hv => w_ev (ev_fr M₈.F rfl rfl) fun ov ho => ?_))
  subst hv ho
  refine M₈.set H.K (by decide) s1 s2 (by k_is) s3 (by kernel_rfl) fun h₉ M₉ => ?_
  obtain ⟨es, n, N₉, _, _, hfs⟩ := M₉.N
  obtain ⟨_, _, N₃, _⟩ := M₃.N
  obtain ⟨_, _, N₆, _⟩ := M₆.N
  have some' : ∀ {z : Addr} {o : Obj} {h : Heap}, h.get? z = some o → h.get? z ≠ none := fun q r => by rw [q] at r; cases r
  refine w_nil ⟨rfl, M₉.F.keep, Nat.le_of_lt (hL ▸ size_of_ns M₉.F.ns), b0, b1, b3, c0, c1, c3, hL ▸ Nat.le_of_lt (n0 L' (by obtain ⟨o', _, _, r, _⟩ := F.ns; exact some' r)), n1 _ (some' (N₃ _ (.tail _ (.tail _ (.head _)))).1), n3 _ (some' (N₆ _ (.tail _ (.tail _ (.head _)))).1),
    (N₉ _ (.tail _ (.tail _ (.tail _ (.tail _ (.head _)))))).1, (N₉ _ (.tail _ (.tail _ (.tail _ (.head _))))).1, (N₉ _ (.tail _ (.tail _ (.head _)))).1, (N₉ _ (.tail _ (.head _))).1, es, n, (N₉ _ (.head _)).1, hfs.perm fun q => ?_⟩
  simp only [List.mem_cons, List.not_mem_nil, or_false]
  exact ⟨fun h => by rcases h with h | h | h | h | h <;> simp only [h, true_or, or_true], fun h => by rcases h with h | h | h | h | h <;> simp only [h, true_or, or_true]⟩
theorem SeqAt.up (hle : Le l (h.hide b).get?) {a : Addr} {t : Bool} {vs : List Value} (x : SeqAt l a t vs) : SeqAt h.get? a t vs := let ⟨o, n, q, r⟩ := x; ⟨o, n, Heap.of_hide (hle _ _ q), r⟩
theorem paramsObj_w {a0 a1 a3 : Addr} {v2 v4 : Value} {t0 t1 t3 : Bool} {vs0 vs1 vs3 : List Value} (hB : BoxP Bx) (H : At w p loose mean mg mb A h) (hr : Room A 2) (hle : Le l (h.hide b).get?) (hbox : Bx h b C) (h0 : SeqAt l a0 t0 vs0) (h1 : SeqAt l a1 t1 vs1) (h3 : SeqAt l a3 t3 vs3)
    (z0 : vs0.length ≤ sizeLine) (z1 : vs1.length ≤ sizeLine) (z3 : vs3.length ≤ sizeLine) :
    WC prog w A (.call (.ref 172) ⟨[.ref a0, .ref a1, v2, .ref a3, v4], []⟩) h fun v h' => ∃ x b0 b1 b3 l', v = .ref x ∧ Stp Bx b l h l' h' C ∧ InsAt l' x 172 [(st "required", .ref b0), (st "optional", .ref b1), (st "rest", v2), (st "post", .ref b3), (st "block", v4)] ∧ SeqAt l' b0 false vs0 ∧ SeqAt l' b1 false vs1 ∧ SeqAt l' b3 false vs3 := by
  intro s R hs kk
  subst hs
  obtain ⟨hh, g, d, tk, os⟩ := s
  dsimp only at H hle hbox kk ⊢
  refine make_core (makes_of H.K (by k_is)) (looks_findIn H.K (by k_is)) (fun self => bind_fn H.K self (by k_is)) (.inl rfl) ?_
  have e0 : Ext hh ((hh.push emptyDict).push (instObj 172 hh.objs.size)) := fun z o q => Heap.get?_push_of_some _ (Heap.get?_push_of_some _ q)
  have z0' : ((hh.push emptyDict).push (instObj 172 hh.objs.size)).objs.size = hh.objs.size + 2 := by rw [Heap.size_push, Heap.size_push]
  have n1 : hh.get? (hh.objs.size + 1) = none := by
    cases c : hh.get? (hh.objs.size + 1) with
    | none => rfl
    | some o => exact absurd (Heap.lt_size c) (Nat.not_lt.mpr (Nat.le_succ _))
  refine paramsInit_w (g := hh) (x := hh.objs.size + 1) (dx := hh.objs.size) (H.under 172 _) (hr.under 172 _) (h0.up hle) (h1.up hle) (h3.up hle) z0 z1 z3 e0 (by rw [z0']; exact Nat.le_add_right _ _) ⟨?_, n1⟩ ⟨?_, size_none hh⟩ (Nat.ne_of_gt (Nat.lt_succ_self _)) _ _ rfl fun v h' tk' q => ?_
  · have := Heap.get?_push_size (o := instObj 172 hh.objs.size) (hh.push emptyDict) rfl
    rwa [Heap.size_push] at this
  · exact Heap.get?_push_of_some _ (Heap.get?_push_size _ rfl)
  obtain ⟨rfl, e, hz, b0, b1, b3, c0, c1, c3, p0, p1, p2, q0, q1, q2, q3, es, n, q4, q5⟩ := q
  have hsz : hh.objs.size ≤ h'.objs.size := by rw [z0'] at hz; exact Nat.le_trans (Nat.le_add_right _ _) hz
  refine ⟨rfl, kk _ _ _ ?_⟩
  rw [z0'] at p0
  have p0' : hh.objs.size + 1 < b0 := p0
  have p00 : hh.objs.size < b0 := Nat.lt_of_succ_lt p0'
  obtain ⟨l', S, i, _⟩ := Stp.sees hB hle hbox e hsz [(hh.objs.size, _), (hh.objs.size + 1, _), (b0, _), (b1, _), (b3, _)] (by
      intro q hq
      simp only [List.mem_cons, List.not_mem_nil, or_false] at hq
      rcases hq with rfl | rfl | rfl | rfl | rfl
      · exact ⟨q4, Nat.le_refl _⟩
      · exact ⟨q3, Nat.le_succ _⟩
      · exact ⟨q0, Nat.le_of_lt p00⟩
      · exact ⟨q1, Nat.le_of_lt (Nat.lt_trans p00 p1)⟩
      · exact ⟨q2, Nat.le_of_lt (Nat.lt_trans p00 (Nat.lt_trans p1 p2))⟩) (by
      refine .cons (fun q hq => ?_) (.cons (fun q hq => ?_) (.cons (fun q hq => ?_) (.cons (fun q hq => ?_) (.cons (fun _ h => nomatch h) .nil)))) <;> simp only [List.mem_cons, List.not_mem_nil, or_false] at hq
      · rcases hq with rfl | rfl | rfl | rfl
        · exact Nat.lt_succ_self _
        · exact p00
        · exact Nat.lt_trans p00 p1
        · exact Nat.lt_trans p00 (Nat.lt_trans p1 p2)
      · rcases hq with rfl | rfl | rfl
        · exact p0'
        · exact Nat.lt_trans p0' p1
        · exact Nat.lt_trans p0' (Nat.lt_trans p1 p2)
      · rcases hq with rfl | rfl
        · exact p1
        · exact Nat.lt_trans p1 p2
      · subst hq; exact p2)
  exact ⟨_, b0, b1, b3, l', rfl, S, ⟨_, es, n, #[], i _ (.tail _ (.head _)), i _ (.head _), q5⟩, ⟨_, _, i _ (.tail _ (.tail _ (.head _))), rfl, rfl⟩, ⟨_, _, i _ (.tail _ (.tail _ (.tail _ (.head _)))), rfl, rfl⟩, ⟨_, _, i _ (.tail _ (.tail _ (.tail _ (.tail _ (.head _))))), rfl, rfl⟩⟩
end
end Mine

end

section
open PySem PySem.W PyProof.Rows PySem.Calls
set_option Elab.async false
set_option maxRecDepth 100000
set_option maxHeartbeats 2000000
set_option linter.unusedVariables false
set_option pp.deepTerms false
set_option pp.deepTerms.threshold 4
set_option pp.maxSteps 4000
namespace Mine
def TalAt (h : Heap) (b : Addr) (C : Int) : Prop := ∃ t, h.IsList b #[.int C t]
theorem TalAt.p : BoxP TalAt where
  «at» := fun ⟨t, l⟩ e => ⟨t, l.at e⟩
  there := fun ⟨t, o, ho, _⟩ e => by rw [ho] at e; cases e
  cell := fun ⟨t, o, ho, _, _, hd⟩ ⟨o', ho', hd'⟩ => by rw [ho] at ho'; cases ho'; rw [hd] at hd'; cases hd'
abbrev MadeR (pl : Plan) (C : Int) (t : Tree) (C' : Int) : Prop := t.plan = pl ∧ t.Num C C' ∧ C ≤ C'
inductive Tagged (l : Lk) : Plan → Str → List Value → Prop
  | atom {d x} : AtomV x d → Tagged l (.atom d) (st "atom") [x]
  | node {k t u us ps} : isL l u us → PlansIn l ps us → Tagged l (.node k ps) (st "node") [.str k t, u]
  | list {u us ps} : isL l u us → PlansIn l ps us → Tagged l (.list ps) (st "list") [u]
  | params {u us ps} : isL l u us → PlansIn l ps us → Tagged l (.params ps) (st "params") [u]
theorem PlanIn.tag {l : Lk} {pl : Plan} {v : Value} (h : PlanIn l pl v) : ∃ a x t r, v = .ref a ∧ LIs l a (.str x t :: r) ∧ Tagged l pl x r := by
  cases pl with
  | atom d => simp only [PlanIn] at h; obtain ⟨t, x, ⟨a, e, i⟩, y⟩ := h; exact ⟨a, _, t, _, e, i, .atom y⟩
  | node k ps => simp only [PlanIn] at h; obtain ⟨t, t', u, us, ⟨a, e, i⟩, y, z⟩ := h; exact ⟨a, _, t, _, e, i, .node y z⟩
  | list ps => simp only [PlanIn] at h; obtain ⟨t, u, us, ⟨a, e, i⟩, y, z⟩ := h; exact ⟨a, _, t, _, e, i, .list y z⟩
  | params ps => simp only [PlanIn] at h; obtain ⟨t, u, us, ⟨a, e, i⟩, y, z⟩ := h; exact ⟨a, _, t, _, e, i, .params y z⟩
theorem LIs.up {l : Lk} {h : Heap} {b a : Addr} {vs : List Value} (x : LIs l a vs) (e : Le l (h.hide b).get?) : h.IsList a vs.toArray := let ⟨o, q, c, n, d⟩ := x; ⟨o, Heap.of_hide (e _ _ q), c, n, d⟩
theorem LIs.ne {l : Lk} {h : Heap} {b a : Addr} {vs : List Value} (x : LIs l a vs) (e : Le l (h.hide b).get?) : a ≠ b := fun r => by obtain ⟨o, q, _⟩ := x; have := e _ _ q; rw [r, Heap.hide_self] at this; cases this
theorem Chain.made {ps : List Plan} {ts : List Tree} {C C' : Int} (x : Chain (fun i C t C' => ∃ q, ps[i]? = some q ∧ MadeR q C t C') ts C C') : Tree.plans ts = ps.take ts.length ∧ Tree.Nums ts C C' ∧ C ≤ C' := by
  induction x with
  | nil => exact ⟨by simp only [Tree.plans, List.length_nil, List.take_zero], by simp only [Tree.Nums], Int.le_refl _⟩
  | @snoc as a C₁ C₂ C₃ _ r ih =>
    obtain ⟨q, hq, e, n, c⟩ := r
    refine ⟨?_, Tree.Nums.snoc n ih.2.1, Int.le_trans ih.2.2 c⟩
    have ap : ∀ ts : List Tree, Tree.plans (ts ++ [a]) = Tree.plans ts ++ [a.plan] := by
      intro ts
      induction ts with
      | nil => simp only [List.nil_append, Tree.plans]
      | cons u ts ih => simp only [List.cons_append, Tree.plans, ih]
    rw [ap, ih.1, e, List.length_append, List.length_singleton, List.take_add_one, hq]
    rfl
theorem KindAr.le {k : Str} {n : Nat} (h : KindAr k n) : n ≤ 5 := by
  obtain ⟨sp, hm, rfl⟩ := h
  rcases List.mem_append.mp hm with h | h
  · exact (kinds_ok _ _ h).1
  · exact Nat.le_trans (leaves_ok _ _ h).1 (by decide)
theorem spots_pos (q : Plan) : 1 ≤ q.spots := by cases q <;> simp only [Plan.spots] <;> omega
theorem len_spots : ∀ ps : List Plan, ps.length ≤ Plan.spotsAll ps
  | [] => Nat.zero_le _
  | q :: ps => by simp only [Plan.spotsAll, List.length_cons]; have := spots_pos q; have := len_spots ps; omega
theorem mem_spots {q : Plan} : ∀ {ps : List Plan}, q ∈ ps → q.spots ≤ Plan.spotsAll ps
  | p :: ps, h => by
    simp only [Plan.spotsAll]
    cases h with
    | head => omega
    | tail _ h => have := mem_spots h; omega
theorem list_len {a ps : List Plan} (h : Plan.list a ∈ ps) : a.length ≤ Plan.spotsAll ps := by
  have h1 := mem_spots h
  have h2 := len_spots a
  simp only [Plan.spots] at h1
  omega
theorem plans_len : ∀ ts : List Tree, (Tree.plans ts).length = ts.length
  | [] => by simp only [Tree.plans, List.length_nil]
  | t :: ts => by simp only [Tree.plans, List.length_cons, plans_len ts]
theorem list_of_plan {t : Tree} {a : List Plan} (h : t.plan = .list a) : ∃ x tup ts, t = .list x tup ts ∧ Tree.plans ts = a := by
  cases t <;> simp only [Tree.plan, Plan.list.injEq, reduceCtorEq] at h
  exact ⟨_, _, _, rfl, h⟩
section
variable {prog : Program} {w : World} {p : Program} {loose : List Str} {mean : ExcName → Option Value} {mg mb : Str → Option Value}
theorem w_ifexp {A : Around} {env : Env} {h : Heap} {t a c : Expr} {pos : Pos} {P : Bool → Prop} {Q : Value → Heap → Prop} (x : Ts prog w A env t h P) (y : P true → W prog w A (eval a env) h Q) (z : P false → W prog w A (eval c env) h Q) : W prog w A (eval (.IfExp t a c pos) env) h Q :=
  W.mk fun s Qs hh kk => wpAny_IfExp (x.run s _ hh fun b h' tk q => by
    obtain ⟨rfl, q⟩ := q
    cases b with
    | true => exact (y q).run _ _ rfl kk
    | false => exact (z q).run _ _ rfl kk)
theorem Sx.seen {A : Around} {g h h' h₀ : Heap} {l l₀ : Lk} {L b x : Addr} {m : Str → Option Value} {cs : List (Addr × Value)} {C : Int} {Bx : Heap → Addr → Int → Prop} {o : Obj} (X : Sx w p loose mean mg mb Bx A b g L m cs l₀ h₀ l h C) (hL : L = h₀.objs.size) (e : Ext h h') (lt : ∀ z, h.get? z ≠ none → z < x) (ho : h'.get? x = some o) :
    ∃ l', Le l l' ∧ l' x = some o ∧ Stp Bx b l₀ h₀ l' h' C := by
  have n : h.get? x = none := by
    cases c : h.get? x with
    | none => rfl
    | some o => exact absurd (lt x (by rw [c]; exact fun e => nomatch e)) (Nat.lt_irrefl _)
  have u := unseen X.le n
  have hl : L < x := lt L (by obtain ⟨o', _, _, r, _⟩ := X.F.ns; rw [r]; exact fun e => nomatch e)
  exact ⟨_, le_add o u, add_self _ _ _, ⟨(X.toStq.alloc X.bp e).see ho (hL ▸ Nat.le_of_lt hl) u (fun r => X.bp.there X.box (r ▸ n)), Nat.le_trans (Nat.le_of_lt (hL ▸ hl)) (Nat.le_of_lt (Heap.lt_size ho))⟩⟩
variable (prog w p loose mean mg mb) in
def MadeC (tup : Bool) (R : Nat) (pl : Plan) : Prop := ∀ (A : Around) (h : Heap) (l : Lk) (b : Addr) (C : Int) (v : Value), PlanIn l pl v → Room A R → At w p loose mean mg mb A (h.hide b) → Le l (h.hide b).get? → TalAt h b C → 0 ≤ C →
  WC prog w A (.call (.ref 252) ⟨[v, .ref b, .bool tup], []⟩) h (MkQ InTV TalAt b l h C (MadeR pl))
theorem made_w {tup : Bool} {R : Nat} {pl : Plan} (hR : 2 ≤ R) (hw : pl.Wf) (hsp : pl.spots ≤ 1000000) (IH : ∀ ps, (∃ k, pl = .node k ps) ∨ pl = .list ps ∨ pl = .params ps → ∀ q ∈ ps, MadeC prog w p loose mean mg mb tup R q) : MadeC prog w p loose mean mg mb tup (R + 1) pl := by
  intro A h l b C v hv hr H hle hbox hC0
  obtain ⟨pa, tag, tt, rr, rfl, hpa, hT⟩ := hv.tag
  refine' wc_enterC (binds := [(st "plan", .ref pa), (st "tally", .ref b), (st "as_tuples", .bool tup)]) (news := []) H (hide_ext _ _) (hide_sz _ _) (fun _ h => nomatch h) ?k6 ?k7 hr.room ?k9 ?kB ?kD ?_ ?c2 ?c3 ?c4
  case k6 => k_is
  case k7 => k_is
  case k9 => exact fun _ _ => BindsTo.of_eq rfl
  case kB => exact rfl
  case kD => decide +kernel
  case c2 => exact rfl
  case c3 => exact rfl
  case c4 => exact rfl
  intro L' h₁ cells base outer hA F N' Y B₁ e₁ _ hL
  obtain ⟨o1, o2, rfl, d1, d2⟩ := Y.two
  with_unfolding_all (change W _ _ _ (execs (_ :: _) (envOfC _ (Scope.mk _ _ _ _ _) _ _ _)) _ _)
  have X₁ := Sx.enter TalAt.p (cs := [(L' + 2, .bool tup), (L' + 1, .ref b)]) H hle hbox hC0 F e₁ hL (by intro q hq; simp only [List.mem_cons, List.not_mem_nil, or_false] at hq; rcases hq with rfl | rfl; exact ⟨o1, (N' _ (.head _)).1, d1⟩; exact ⟨o2, (N' _ (.tail _ (.head _))).1, d2⟩)
  have hcc : ∀ q ∈ [((L' + 2 : Addr), Value.bool tup), (L' + 1, .ref b)], q.1 ≠ L' := by intro q hq; simp only [List.mem_cons, List.not_mem_nil, or_false] at hq; rcases hq with rfl | rfl <;> (show L' + _ ≠ L'); exact Nat.ne_of_gt (by omega); exact Nat.ne_of_gt (by omega)
  have hrd := fun e => hr.deeper e
  have hp₁ := hpa.up X₁.le
  refine w_cons (w_asg (w_ev (ev_at (ev_fr X₁.F rfl rfl) hp₁ rfl rfl) fun v hv => ?_))
  subst hv
  refine X₁.w_st hL hcc fun h₂ X₂ => ?_
  have hp₂ := hpa.up X₂.le
  refine w_cons (w_if (ts_eqs (ev_fr X₂.F rfl ⟨_, rfl⟩) ev_str) (fun hc => ?_) (fun hc => w_nil ?_))
  · cases hT with
    | @atom d x hx =>
      exact w_cons (w_ret (w_ev (ev_at (ev_fr X₂.F rfl rfl) hp₂ rfl rfl) fun v hv => ⟨.atom x d, l, C, ⟨by simp only [Tree.plan], by simp only [Tree.Num], Int.le_refl _⟩, ⟨hv ▸ rfl, by simp only [InT]; exact hx⟩, X₂.toStp⟩))
    | node => exact absurd (hc.mp rfl) (by decide +kernel)
    | list => exact absurd (hc.mp rfl) (by decide +kernel)
    | params => exact absurd (hc.mp rfl) (by decide +kernel)
  have hna : tag ≠ st "atom" := fun e => nomatch hc.mpr e
  refine w_cons (w_if (ts_eqs (ev_fr X₂.F rfl ⟨_, rfl⟩) ev_str) (fun hc => ?_) (fun hc => w_nil ?_))
  · cases hT with
    | atom => exact absurd rfl hna
    | list => exact absurd (hc.mp rfl) (by decide +kernel)
    | params => exact absurd (hc.mp rfl) (by decide +kernel)
    | @node k t u us ps hu hps =>
      have IH := IH ps (.inl ⟨k, rfl⟩)
      simp only [Plan.Wf] at hw
      have hlen := Nat.le_trans hw.1.le (by decide : 5 ≤ 1000)
      obtain ⟨ns, hk, hn, _⟩ := kind_in w.params hw.1
      obtain ⟨ua, rfl, hua⟩ := hu
      obtain ⟨t0, hb₂⟩ := X₂.box
      refine w_cons (w_asg (w_ev (ev_at (ev_cell rfl (X₂.cell (.tail _ (.head _))) rfl) hb₂ rfl rfl) fun v hv => ?_))
      subst hv
      refine X₂.w_st hL hcc fun h₃ X₃ => ?_
      obtain ⟨t1, hb₃⟩ := X₃.box
      refine w_cons (w_put (ev_add (ev_at (ev_cell rfl (X₃.cell (.tail _ (.head _))) rfl) hb₃ rfl ⟨_, rfl⟩) ev_int) (ev_cell rfl (X₃.cell (.tail _ (.head _))) rfl) ev_int hb₃ (by decide) rfl (by decide) fun v h₄ hv hb₄ hs₄ => ?_)
      obtain ⟨t2, rfl⟩ := hv
      have X₄ := X₃.boxed hs₄ ⟨t2, hb₄⟩ (Int.le_trans hC0 (Int.le_add_of_nonneg_right (by decide)))
      have hp₄ := hpa.up X₄.le
      have hu₄ := hua.up X₄.le
      refine w_cons (w_ret (w_callee (ev_glob X₄.gl (by k_is)) (w_cw (g := h.hide b) ⟨H.K, H.T⟩ (by k_is) (w_arg (w_ev (ev_at (ev_fr X₄.F rfl rfl) hp₄ rfl rfl) fun v₁ hv₁ => w_arg ?_)))))
      subst hv₁
      refine' w_comp ?q1 ?q2 ?q3 ?q4 ?q5 ?q6
      case q1 => exact rfl
      case q2 => decide
      case q3 => exact rfl
      case q4 => decide
      case q5 => exact rfl
      refine w_ev (ev_at (ev_fr X₄.F rfl rfl) hp₄ rfl rfl) fun v₂ hv₂ => ?_
      subst hv₂
      refine w_itlist (b := b) (hrd _).1 hu₄ (X₄.bp.there X₄.box) (hua.ne X₄.le) fun I fp St h₅ src => ?_
      refine X₄.compR InTV.mono (Rel := fun i C t C' => ∃ q, ps[i]? = some q ∧ MadeR q C t C') (fun ⟨_, _, x⟩ => x.2.2) src (by rw [List.size_toArray, hps.length]; exact Nat.le_trans hlen (by decide : 1000 ≤ sizeLine)) ?_ ?_
      · intro i v h₆ l₆ C₆ m' as hi hv hl hch hn' hm hle₆ X₆
        obtain ⟨q, hq, hin⟩ := PlansIn.at hps (by simpa using hv)
        refine w_callee (ev_glob X₆.gl (by k_is)) (w_cw X₆.gl (by k_is) (w_arg (w_ev (ev_loc hn' hm rfl) fun v₁ hv₁ => w_arg (w_ev (ev_cell rfl (X₆.cell (.tail _ (.head _))) rfl) fun v₂ hv₂ => w_arg (w_ev (ev_cell rfl (X₆.cell (.head _)) rfl) fun v₃ hv₃ => w_arg0 ⟨fun _ _ e => e, ?_⟩)))))
        subst hv₁ hv₂ hv₃
        refine W.mono (WC.call (IH q (List.mem_of_getElem? hq) _ _ _ _ _ _ (hin.mono hle₆) (hrd _) (X₆.at rfl rfl) X₆.le X₆.box X₆.pos)) fun v' h' ⟨a, l', C', r, x, y⟩ => ⟨a, l', C', ⟨q, hq, r⟩, x, y⟩
      · intro ts l₆ C₆ h₆ ys D hl hch hall hD hle₆ _ X₆
        obtain ⟨D', hD', hD⟩ := hD
        cases hD'
        obtain ⟨c1, c2, c3⟩ := hch.made
        obtain ⟨a1, a2⟩ := hall.trees
        have hlen' : ts.length = ps.length := by rw [hl, List.size_toArray, hps.length]
        refine w_arg (w_ev (ev_fr X₆.F rfl rfl) fun v₃ hv₃ => w_arg0 ⟨X₆.F.keep, ?_⟩)
        subst hv₃
        refine W.mono (WC.call (node_w TalAt.p (X₆.atAll rfl rfl) ((hrd _).less hR) hk (by rw [a1, List.length_map, hlen', hn]) (by rw [hn]; exact hlen) X₆.le X₆.box hD)) fun v h₇ q => ?_
        obtain ⟨x, pt, l₇, rfl, S, i1, i2⟩ := q
        refine ⟨.node x k C pt ts, l₇, C₆, ⟨by simp only [Tree.plan]; rw [c1, hlen', List.take_length], by simp only [Tree.Num]; exact ⟨trivial, c2⟩, Int.le_trans (Int.le_add_of_nonneg_right (by decide)) c3⟩, ⟨rfl, ?_⟩, (X₆.next S (Int.le_refl _)).toStp⟩
        simp only [InT]
        exact ⟨⟨_, _, i1⟩, a1 ▸ i2, a2.mono S.grow.1⟩
  have hnn : tag ≠ st "node" := fun e => nomatch hc.mpr e
  obtain ⟨u, us, ps, hpl, rfl, hu, hps⟩ : ∃ u us ps, ((pl = .list ps ∧ tag = st "list") ∨ (pl = .params ps ∧ tag = st "params")) ∧ rr = [u] ∧ isL l u us ∧ PlansIn l ps us := by
    cases hT with
    | atom => exact absurd rfl hna
    | node => exact absurd rfl hnn
    | list a c => exact ⟨_, _, _, .inl ⟨rfl, rfl⟩, rfl, a, c⟩
    | params a c => exact ⟨_, _, _, .inr ⟨rfl, rfl⟩, rfl, a, c⟩
  clear hT
  have IH := IH ps (.inr (hpl.imp (·.1) (·.1)))
  have hsp' : Plan.spotsAll ps ≤ 1000000 := by
    rcases hpl with ⟨rfl, _⟩ | ⟨rfl, _⟩ <;> simp only [Plan.spots] at hsp <;> omega
  obtain ⟨ua, rfl, hua⟩ := hu
  have hu₂ := hua.up X₂.le
  refine w_cons ?_
  refine' w_asgcomp ?s0 ?s1 ?s2 ?s3 ?s4 ?s5 ?s6 ?s7 ?s8
  case s0 => exact rfl
  case s1 => exact rfl
  case s2 => decide
  case s3 => exact rfl
  case s4 => decide
  case s5 => exact rfl
  case s6 => exact rfl
  case s7 => exact rfl
  refine w_ev (ev_at (ev_fr X₂.F rfl rfl) hp₂ rfl rfl) fun v₂ hv₂ => ?_
  subst hv₂
  refine w_itlist (b := b) (hrd _).1 hu₂ (X₂.bp.there X₂.box) (hua.ne X₂.le) fun I fp St h₅ src => ?_
  refine X₂.compR InTV.mono (Rel := fun i C t C' => ∃ q, ps[i]? = some q ∧ MadeR q C t C') (fun ⟨_, _, x⟩ => x.2.2) src (by rw [List.size_toArray, hps.length]; exact Nat.le_trans (Nat.le_trans (len_spots ps) hsp') (by decide : 1000000 ≤ sizeLine)) ?_ ?_
  · intro i v h₆ l₆ C₆ m' as hi hv hl hch hn' hm hle₆ X₆
    obtain ⟨q, hq, hin⟩ := PlansIn.at hps (by simpa using hv)
    refine w_callee (ev_glob X₆.gl (by k_is)) (w_cw X₆.gl (by k_is) (w_arg (w_ev (ev_loc hn' hm rfl) fun v₁ hv₁ => w_arg (w_ev (ev_cell rfl (X₆.cell (.tail _ (.head _))) rfl) fun v₂ hv₂ => w_arg (w_ev (ev_cell rfl (X₆.cell (.head _)) rfl) fun v₃ hv₃ => w_arg0 ⟨fun _ _ e => e, ?_⟩)))))
    subst hv₁ hv₂ hv₃
    refine W.mono (WC.call (IH q (List.mem_of_getElem? hq) _ _ _ _ _ _ (hin.mono hle₆) (hrd _) (X₆.at rfl rfl) X₆.le X₆.box X₆.pos)) fun v' h' ⟨a, l', C', r, x, y⟩ => ⟨a, l', C', ⟨q, hq, r⟩, x, y⟩
  intro ts l₆ C₆ h₆ ys D hl hch hall hD hle₆ hu₆ X₆
  refine X₂.asgEnd hL rfl hcc src hu₆ X₆ fun h₇ X₇ => ?_
  obtain ⟨D', hD', hD⟩ := hD
  cases hD'
  obtain ⟨c1, c2, c3⟩ := hch.made
  obtain ⟨a1, a2⟩ := hall.trees
  have hlen' : ts.length = ps.length := by rw [hl, List.size_toArray, hps.length]
  rw [hlen', List.take_length] at c1
  have hD₇ := hD.up X₇.le
  refine w_cons (w_if (ts_eqs (ev_fr X₇.F rfl ⟨_, rfl⟩) ev_str) (fun hc => ?_) (fun hc => w_nil ?_))
  · obtain ⟨rfl, _⟩ := hpl.resolve_left fun q => absurd (q.2.symm.trans (hc.mp rfl)) (by decide +kernel)
    simp only [Plan.Wf] at hw
    obtain ⟨_, pa', pb', pc', pd', pe', rfl⟩ := hw
    obtain ⟨t0, t1, t2, t3, t4, rfl⟩ : ∃ t0 t1 t2 t3 t4, ts = [t0, t1, t2, t3, t4] := by
      match ts, hlen' with
      | [t0, t1, t2, t3, t4], _ => exact ⟨_, _, _, _, _, rfl⟩
    have cc := c1
    simp only [Tree.plans, List.cons.injEq, and_true] at c1
    obtain ⟨k0, k1, k2, k3, k4⟩ := c1
    obtain ⟨x0, u0, ts0, rfl, rfl⟩ := list_of_plan k0
    obtain ⟨x1, u1, ts1, rfl, rfl⟩ := list_of_plan k1
    obtain ⟨x3, u3, ts3, rfl, rfl⟩ := list_of_plan k3
    subst a1
    have zz : ∀ ts', Plan.list (Tree.plans ts') ∈ [Plan.list (Tree.plans ts0), .list (Tree.plans ts1), pc', .list (Tree.plans ts3), pe'] → (ts'.map Tree.val).length ≤ sizeLine := fun ts' h => by
      rw [List.length_map, ← plans_len]
      exact Nat.le_trans (Nat.le_trans (list_len h) hsp') (by decide : 1000000 ≤ sizeLine)
    simp only [InTs, InT] at a2
    obtain ⟨i0, i1, i2, i3, i4, _⟩ := a2
    refine w_cons (w_ret (w_callee (ev_glob X₇.gl (by k_is)) (w_cw X₇.gl (by k_is) (w_arg (w_ev (ev_at (ev_fr X₇.F rfl rfl) hD₇ rfl rfl) fun v0 hv0 => w_arg (w_ev (ev_at (ev_fr X₇.F rfl rfl) hD₇ rfl rfl) fun v1 hv1 => w_arg (w_ev (ev_at (ev_fr X₇.F rfl rfl) hD₇ rfl rfl) fun v2 hv2 => w_arg (w_ev (ev_at (ev_fr X₇.F rfl rfl) hD₇ rfl rfl) fun v3 hv3 => w_arg (w_ev (ev_at (ev_fr X₇.F rfl rfl) hD₇ rfl rfl) fun v4 hv4 => w_arg0 ⟨fun _ _ e => e, ?_⟩)))))))))
    subst hv0 hv1 hv2 hv3 hv4
    refine W.mono (WC.call (paramsObj_w TalAt.p (X₇.atAll rfl rfl) ((hrd _).less hR) X₇.le X₇.box i0.1 i1.1 i3.1 (zz _ (.head _)) (zz _ (.tail _ (.head _))) (zz _ (.tail _ (.tail _ (.tail _ (.head _))))))) fun v h₈ q => ?_
    obtain ⟨x, b0, b1, b3, l₈, rfl, S, j, j0, j1, j3⟩ := q
    have m := S.grow.1
    refine ⟨.params x [.list b0 false ts0, .list b1 false ts1, t2, .list b3 false ts3, t4], l₈, C₆, ⟨by simp only [Tree.plan, Tree.plans, k2, k4], by simp only [Tree.Num, Tree.Nums] at c2 ⊢; exact c2, c3⟩, ⟨rfl, ?_⟩, (X₇.next S (Int.le_refl _)).toStp⟩
    simp only [InT, InTs]
    exact ⟨⟨_, _, _, _, _, rfl, j⟩, ⟨_, _, _, _, _, _, _, _, rfl⟩, ⟨j0, i0.2.mono m⟩, ⟨j1, i1.2.mono m⟩, i2.mono m, ⟨j3, i3.2.mono m⟩, i4.mono m, trivial⟩
  · obtain ⟨rfl, _⟩ := hpl.resolve_right fun q => nomatch hc.mpr q.2
    refine w_cons (w_ret (w_ifexp (P := (· = tup)) (ts_ev (ev_cell rfl (X₇.cell (.head _)) rfl) fun v hv => by subst hv; exact W.still fun s _ _ k => wpAny_truthy_bool (k _ s.toks rfl)) (fun ht => ?_) (fun ht => ?_)))
    · subst ht
      refine w_callee (ev_boot X₇.gl (by k_is) boot_tuple (by decide)) (w_cwtype (w_arg (w_ev (ev_fr X₇.F rfl rfl) fun v hv => w_arg0 ?_)))
      subst hv
      refine w_tuplist hD₇ (by rw [a1, List.length_map, hlen']; exact Nat.le_trans (Nat.le_trans (len_spots ps) hsp') (by decide : 1000000 ≤ sizeLine)) fun x h₈ e₈ lt₈ ho => ?_
      obtain ⟨l₈, m₈, o₈, S₈⟩ := X₇.seen hL e₈ lt₈ ho
      refine ⟨.list x true ts, l₈, C₆, ⟨by simp only [Tree.plan]; rw [c1], by simp only [Tree.Num]; exact c2, c3⟩, ⟨rfl, ?_⟩, S₈⟩
      simp only [InT]
      exact ⟨⟨_, 0, o₈, rfl, by rw [← a1]⟩, a2.mono m₈⟩
    · subst ht
      refine w_ev (ev_fr X₇.F rfl rfl) fun v hv => ?_
      subst hv
      refine ⟨.list D false ts, l₆, C₆, ⟨by simp only [Tree.plan]; rw [c1], by simp only [Tree.Num]; exact c2, c3⟩, ⟨rfl, ?_⟩, X₇.toStp⟩
      simp only [InT]
      obtain ⟨o, r1, r2, n, r3⟩ := hD
      exact ⟨⟨o, n, r1, r2, a1 ▸ r3⟩, a2⟩
theorem wfAll_mem {q : Plan} : ∀ {ps : List Plan}, Plan.WfAll ps → q ∈ ps → q.Wf
  | p :: ps, h, hq => by
    simp only [Plan.WfAll] at h
    cases hq with
    | head => exact h.1
    | tail _ hq => exact wfAll_mem h.2 hq
theorem mem_dep {q : Plan} : ∀ {ps : List Plan}, q ∈ ps → q.dep ≤ Plan.depAll ps
  | p :: ps, h => by
    simp only [Plan.depAll]
    cases h with
    | head => exact Nat.le_max_left _ _
    | tail _ h => exact Nat.le_trans (mem_dep h) (Nat.le_max_right _ _)
theorem dep_pos (q : Plan) : 1 ≤ q.dep := by cases q <;> simp only [Plan.dep] <;> omega
theorem made_all {tup : Bool} : ∀ d pl, pl.dep ≤ d → pl.Wf → pl.spots ≤ 1000000 → MadeC prog w p loose mean mg mb tup (d + 2) pl
  | 0, pl, hd, _, _ => absurd (Nat.le_trans (dep_pos pl) hd) (by decide)
  | d + 1, pl, hd, hw, hs => by
    refine made_w (R := d + 2) (Nat.le_add_left _ _) hw hs fun ps hp q hq => ?_
    have h1 := mem_dep hq
    have h2 := mem_spots hq
    refine made_all d q ?_ ?_ ?_
    · rcases hp with ⟨k, rfl⟩ | rfl | rfl <;> simp only [Plan.dep] at hd <;> omega
    · rcases hp with ⟨k, rfl⟩ | rfl | rfl <;> simp only [Plan.Wf] at hw
      · exact wfAll_mem hw.2 hq
      · exact wfAll_mem hw hq
      · exact wfAll_mem hw.1 hq
    · rcases hp with ⟨k, rfl⟩ | rfl | rfl <;> simp only [Plan.spots] at hs <;> omega
end
end Mine

end

section
open PySem PySem.W PyProof.Rows PySem.Calls
set_option Elab.async false
set_option maxRecDepth 100000
set_option maxHeartbeats 400000
set_option linter.unusedVariables false
set_option pp.deepTerms false
set_option pp.deepTerms.threshold 4
set_option pp.maxSteps 4000
namespace Mine
section
variable {prog : Program} {w : World} {p : Program} {loose : List Str} {mean : ExcName → Option Value} {mg mb : Str → Option Value} {A : Around} {env : Env} {g h h' : Heap} {L b : Addr} {m : Str → Option Value}
structure CompP (prog : Program) (w : World) (A : Around) (env : Env) (scope : Scope) (cl : List (Str × Addr)) (x : Str) (elt : Expr) (Q : Value → Heap → Prop) (b : Addr) (n : Nat) (P Pv : Nat → Value → Prop) (h₁ h₂ : Heap) (I : Addr) (fp : List Addr) (St : Nat → Heap → Prop) : Prop where
  src : Src prog w A b n P h₁ h₂ I fp St
  sz : n ≤ sizeLine
  step : ∀ i v h₃ m, i < n → P i v → Ext h₁ h₃ → h₃.Ns (h₂.objs.size + 1) m → m x = some v → W prog w A (eval elt (compEnvC scope cl (h₂.objs.size + 1) env)) h₃ fun y h₄ => Ext h₃ h₄ ∧ Pv i y
  fin : ∀ (ys : List Value) (D : Addr) (h' : Heap), ys.length = n → (∀ i y, ys[i]? = some y → Pv i y) → Ext h₁ h' → (∀ z, h₁.get? z ≠ none → z < D) → h'.IsList D ys.toArray → Q (.ref D) h'
theorem CompP.comp {elt : Expr} {x : Str} {scope : Scope} {cl : List (Str × Addr)} {Q : Value → Heap → Prop} {n : Nat} {P Pv : Nat → Value → Prop} {h₁ h₂ : Heap} {I : Addr} {fp : List Addr} {St : Nat → Heap → Prop}
    (G : CompP prog w A env scope cl x elt Q b n P Pv h₁ h₂ I fp St) : CompW prog w A env scope cl x elt (fun v _ h' => Q v h') (.ref I) h₂ := by
  have far : ∀ z, h₂.objs.size ≤ z → h₁.get? z = none := fun z hz => by
    cases e : h₁.get? z with
    | none => rfl
    | some o => exact absurd (Heap.lt_size (G.src.ext _ _ e)) (Nat.not_lt.mpr hz)
  have ne : ∀ {y o z}, h₁.get? y = some o → h₁.get? z = none → y ≠ z := fun e q r => by rw [r, q] at e; cases e
  refine ⟨I, fp, [I], n, P, St, fun _ => False, fun i ys h => (∀ j y, ys[j]? = some y → Pv j y) ∧ Ext h₁ h, rfl, G.src.walks, G.sz, G.src.st, fun y hy => ⟨(G.src.lt y hy).1, fun e => e⟩, fun _ e => e.elim, ?_, ?_, ?_, ?_⟩
  · rintro i ys h h' ⟨a, e⟩ hk
    exact ⟨a, fun y o q => hk y o (ne q (far _ (Nat.le_refl _))) (ne q (far _ (Nat.le_succ _))) (by simpa using ne q G.src.new) (e _ _ q)⟩
  · intro h' e
    exact ⟨fun j y q => by simp at q, fun y o q => e _ _ (G.src.ext _ _ q)⟩
  · rintro i v ys h₃ m hi hP hl ⟨a, e⟩ hn hm hk hsz
    refine W.mono (G.step i v h₃ m hi hP e hn hm) fun y h₄ q => ⟨⟨fun j z hj => ?_, fun y o r => q.1 _ _ (e _ _ r)⟩, fun z o _ r => q.1 _ _ r⟩
    rcases Nat.lt_trichotomy j ys.length with h | h | h
    · rw [List.getElem?_append_left h] at hj; exact a j z hj
    · subst h; rw [List.getElem?_append_right (Nat.le_refl _)] at hj; simp at hj; subst hj; rw [hl]; exact q.2
    · rw [List.getElem?_eq_none (by simp; omega)] at hj; cases hj
  · rintro h' ys hl ⟨a, e⟩ hp hk
    exact G.fin ys _ h' hl a e (fun z q => lt_there q G.src.ext) hp.isList
theorem ev_neg1 {k : Nat} {p₁ pos : Pos} : Ev prog w A env (.UnaryOp .USub (.Constant (.int 1) k p₁) pos) h (IsI (-1)) :=
  W.mk fun s Qs hh kk => UnaryOp_ ((ev_int (i := 1)).run s _ hh fun v h' tk q => by
    obtain ⟨rfl, t, rfl⟩ := q
    exact PyProof.Rows.neg_int (kk _ _ _ ⟨rfl, _, rfl⟩))
theorem ev_last {e₁ e₂ : Expr} {pos : Pos} {a : Addr} {vs : List Value} {v : Value} {P : Value → Prop} (x : Ev prog w A env e₁ h (· = .ref a)) (y : Ev prog w A env e₂ h (IsI (-1))) (hl : h.IsList a vs.toArray) (hv : vs.getLast? = some v) (hp : P v)
    (hs : ∀ o j, subscripted e₂ false o j = operate [o, j] (getItem o j) := by intro _ _; rfl) : Ev prog w A env (.Subscript e₁ e₂ pos) h P :=
  w_sub (w_ev x fun o ho => w_ev y fun j hj => by
    subst ho
    obtain ⟨t, rfl⟩ := hj
    have hne : 1 ≤ vs.length := by cases vs with | nil => cases hv | cons _ _ => exact Nat.le_add_left _ _
    refine W.still fun s Qs hh k => tail_any (Heap.IsList.typeIs (by rw [hh]; exact hl)) slot_list_getitem.lookup (wpAny_getItem_list_neg (x := v) (by rw [hh]; exact hl) (by decide) ?_ (by decide) ?_ (k _ s.toks hp)) (hs _ _)
    · simp only [List.size_toArray]; omega
    · have : ((-1 : Int) + (vs.toArray.size : Int)).toNat = vs.length - 1 := by simp only [List.size_toArray]; omega
      rw [this]; simpa [List.getLast?_eq_getElem?] using hv)
theorem w_sum {a : Addr} {vs : List Value} {ns : List Int} {Q : Value → Heap → Prop} (hh : A.handled = none) (hl : h.IsList a vs.toArray) (hi : IntsAre vs ns) (k : ∀ t h', Ext h h' → Q (.int ns.sum t) h') : W prog w A (call (.builtin "sum") [.ref a]) h Q := W.mk fun s Qs hs kk => by
  subst hs
  obtain ⟨xs, e⟩ := hi.allInts.items
  have key : (numsOf (intItems xs).toList).sum = ns.sum := by rw [← e]; show (numsOf vs).sum = _; rw [hi.numsOf]
  rw [nums_intItems] at key
  refine sum_intListG hh (e ▸ hl) fun h' tk t' hk => ?_
  rw [preSum_eq, List.take_of_length_le (by simp), key]
  exact kk _ _ _ (k t' h' hk)
theorem Tagged.last {l : Lk} {pl : Plan} {x : Str} {r : List Value} (h : Tagged l pl x r) (hx : x ≠ st "atom") : ∃ u us ps, r.getLast? = some u ∧ isL l u us ∧ PlansIn l ps us ∧ pl.spots = Plan.spotsAll ps + 1 ∧ (∀ q ∈ ps, q.dep < pl.dep) := by
  have dd : ∀ {ps : List Plan} {q}, q ∈ ps → q.dep < Plan.depAll ps + 1 := fun h => Nat.lt_succ_of_le (mem_dep h)
  cases h with
  | atom => exact absurd rfl hx
  | node a c => exact ⟨_, _, _, rfl, a, c, by simp only [Plan.spots], fun q hq => by simp only [Plan.dep]; exact dd hq⟩
  | list a c => exact ⟨_, _, _, rfl, a, c, by simp only [Plan.spots], fun q hq => by simp only [Plan.dep]; exact dd hq⟩
  | params a c => exact ⟨_, _, _, rfl, a, c, by simp only [Plan.spots], fun q hq => by simp only [Plan.dep]; exact dd hq⟩
theorem ints_of : ∀ (ys : List Value) (ns : List Int), ys.length = ns.length → (∀ (i : Nat) (y : Value), ys[i]? = some y → ∃ n, ns[i]? = some n ∧ IsI n y) → IntsAre ys ns
  | [], [], _, _ => .nil
  | [], _ :: _, h, _ => by simp at h
  | _ :: _, [], h, _ => by simp at h
  | y :: ys, n :: ns, h, k => by
    obtain ⟨m, e, t, rfl⟩ := k 0 y rfl
    cases (Option.some.inj e : n = m)
    exact .cons n t (ints_of ys ns (by simpa using h) fun i z hz => by simpa using k (i + 1) z (by simpa using hz))
theorem sum_spots : ∀ ps : List Plan, (ps.map fun q => (q.spots : Int)).sum = Plan.spotsAll ps
  | [] => by simp only [Plan.spotsAll, List.map_nil, List.sum_nil]; rfl
  | q :: ps => by simp only [Plan.spotsAll, List.map_cons, List.sum_cons, sum_spots ps]; omega
theorem spots_w : ∀ (d : Nat) (pl : Plan), pl.dep ≤ d → pl.spots ≤ 1000000 → ∀ (A : Around) (h : Heap) (l : Lk) (v : Value), PlanIn l pl v → Le l h.get? → Room A d → At w p loose mean mg mb A h →
    WC prog w A (.call (.ref 257) ⟨[v], []⟩) h fun r h' => IsI pl.spots r ∧ Ext h h'
  | 0, pl, hd, _ => absurd (Nat.le_trans (dep_pos pl) hd) (by decide)
  | d + 1, pl, hd, hsp => by
    intro A h l v hv hle hr H
    obtain ⟨pa, tag, tt, rr, rfl, hpa, hT⟩ := hv.tag
    have hpa' : h.IsList pa (.str tag tt :: rr).toArray := by obtain ⟨o, q, c, n, d⟩ := hpa; exact ⟨o, hle _ _ q, c, n, d⟩
    refine' wc_enter (binds := [(st "plan", .ref pa)]) (news := []) H (fun _ _ e => e) (Nat.le_refl _) (fun _ h => nomatch h) ?k6 ?k7 hr.room ?k9 ?kB ?_ ?c2 ?c3 ?c4 ?c5
    case k6 => k_is
    case k7 => k_is
    case k9 => exact fun _ _ => BindsTo.of_eq rfl
    case kB => exact locs rfl
    case c2 => exact rfl
    case c3 => exact rfl
    case c4 => exact rfl
    case c5 => decide
    intro L' h₁ base outer hA F N B₁ e₁ hL
    with_unfolding_all (change W _ _ _ (execs (_ :: _) (envOf _ (Scope.mk _ _ _ _ _) _ _ _)) _ _)
    have G : Gl w p loose mean mg mb h₁ := Gl.ext ⟨H.K, H.T⟩ F.keep
    have hrd := fun e => hr.deeper e
    have hp₁ := hpa'.at (F.keep _)
    refine w_cons (w_if (ts_eqs (ev_at (ev_fr F rfl rfl) hp₁ rfl ⟨_, rfl⟩) ev_str) (fun hc => ?_) (fun hc => w_nil ?_))
    · cases hT with
      | atom => exact w_cons (w_ret (w_ev ev_int fun v hv => ⟨by show IsI _ v; simp only [Plan.spots]; exact hv, F.keep⟩))
      | node => exact absurd (hc.mp rfl) (by decide +kernel)
      | list => exact absurd (hc.mp rfl) (by decide +kernel)
      | params => exact absurd (hc.mp rfl) (by decide +kernel)
    have hna : tag ≠ st "atom" := fun e => nomatch hc.mpr e
    obtain ⟨u, us, ps, hlast, ⟨ua, rfl, hua⟩, hps, hspE, hdq⟩ := hT.last hna
    have hlast' : (Value.str tag tt :: rr).getLast? = some (.ref ua) := by rw [List.getLast?_cons, hlast]; rfl
    have hua' : h₁.IsList ua us.toArray := by obtain ⟨o, q, c, n, d⟩ := hua; exact ⟨o, F.keep _ _ (hle _ _ q), c, n, d⟩
    have hLt : h₁.get? L' ≠ none := by obtain ⟨o', _, _, r, _⟩ := F.ns; rw [r]; exact fun e => nomatch e
    have hne : ua ≠ L' := fun r => by
      obtain ⟨o, q, _⟩ := hua
      exact absurd (Heap.lt_size (hle _ _ q)) (by rw [r, hL]; exact Nat.lt_irrefl _)
    refine w_cons (w_ret (w_bin (w_ev ev_int fun v1 hv1 => w_callee (ev_boot G (by k_is) PyProof.Rows.boot_sum (by decide)) (w_cwb (w_arg ?_)))))
    refine' w_comp ?q1 ?q2 ?q3 ?q4 ?q5 ?q6
    case q1 => exact rfl
    case q2 => decide
    case q3 => exact rfl
    case q4 => decide
    case q5 => exact rfl
    refine w_ev (ev_last (ev_fr F rfl rfl) ev_neg1 hp₁ hlast' rfl) fun v2 hv2 => ?_
    subst hv2
    refine w_itlist (b := L') (hrd _).1 hua' hLt hne fun I fp St h₂ src => ?_
    refine CompP.comp (Pv := fun i y => ∃ q, ps[i]? = some q ∧ IsI q.spots y) ⟨src, by rw [List.size_toArray, hps.length]; exact Nat.le_trans (Nat.le_trans (len_spots ps) (by omega)) (by decide : 1000000 ≤ sizeLine), ?_, ?_⟩
    · intro i v h₃ m hi hv e₃ hn hm
      obtain ⟨q, hq, hin⟩ := PlansIn.at hps (by simpa using hv)
      have G₃ := G.ext e₃
      refine w_callee (ev_glob G₃ (by k_is)) (w_cw G₃ (by k_is) (w_arg (w_ev (ev_loc hn hm rfl) fun v₁ hv₁ => w_arg0 ⟨fun _ _ e => e, ?_⟩)))
      subst hv₁
      have hqm := List.mem_of_getElem? hq
      obtain ⟨base', outer', B'⟩ := H.B
      exact W.mono (WC.call (spots_w d q (Nat.le_of_lt_succ (Nat.lt_of_lt_of_le (hdq q hqm) hd)) (Nat.le_trans (mem_spots hqm) (by omega)) _ _ _ _ hin (fun _ _ r => e₃ _ _ (F.keep _ _ (hle _ _ r))) (hrd _) (At.here H.K H.T B' (F.keeps e₃) rfl rfl))) fun v' h' q' => ⟨q'.2, q, hq, q'.1⟩
    · intro ys D h₃ hl hP e₃ _ hD
      have hi : IntsAre ys (ps.map fun q => (q.spots : Int)) := ints_of _ _ (by rw [hl, List.size_toArray, hps.length, List.length_map]) fun i y hy => by
        obtain ⟨q, hq, hy⟩ := hP i y hy
        exact ⟨q.spots, by rw [List.getElem?_map, hq]; rfl, hy⟩
      refine w_arg0 (w_sum (hrd _).1 hD hi fun t h₄ e₄ => ?_)
      obtain ⟨t1, rfl⟩ := hv1
      refine W.mk fun s Qs hh kk => add_int (kk _ _ _ ⟨⟨s.toks, congrArg (fun z => Value.int z s.toks) ?_⟩, fun _ _ r => ?_⟩)
      · rw [sum_spots, hspE, Int.natCast_add, Int.add_comm]; rfl
      · rw [hh]; exact e₄ _ _ (e₃ _ _ (F.keep _ _ r))
end
end Mine

end

section
open PySem PySem.W PyProof.Rows PySem.Calls
set_option Elab.async false
set_option maxRecDepth 100000
set_option maxHeartbeats 400000
set_option linter.unusedVariables false
set_option pp.deepTerms false
set_option pp.deepTerms.threshold 4
set_option pp.maxSteps 4000
namespace Mine
abbrev bmX : List Value := [.ref 32, .type "ValueError", .type "Exception", .type "BaseException", .type "object"]
abbrev k45o : Obj := excClassObj (st "BadArgument") (st "BadArgument") 45 44 [.ref 32] bmX true [] [] false none none (some (.ref 36)) none (some (.str (st "BadArgument") 217)) (some (.str (st "BadArgument") 225)) (some (.bool true)) "ValueError.__new__"
theorem k45_is (P : Params) : (KK P).lookup 45 = some k45o := rfl
theorem tyX {T : String} (h : bmX.contains (.type T) = true) : (Value.ref 45 :: bmX).contains (.type T) = true := by rw [List.contains_cons, h, Bool.or_true]
theorem tyXn {T : String} (h : bmX.contains (.type T) = false) : (Value.ref 45 :: bmX).contains (.type T) = false := by rw [List.contains_cons, h]; rfl
section
variable {M : Model} {prog : Program} {w : World} {A : Around} {E : Value → Shared → Prop} {R : Result → Shared → Prop} {h : Heap} {g : Array GenState} {d : Drawn} {t : Nat} {os : OsState}
theorem chk_new {rest : List Value} {Q : Unit → Shared → Prop} (hC : h.get? 45 = some k45o) (hq : Q () ⟨h, g, d, t, os⟩) : wpAny M A (checkBuiltinCall "ValueError.__new__" ⟨.ref 45 :: rest, []⟩) Q E ⟨h, g, d, t, os⟩ := by
  have F := PySem.F.excBase_ValueError
  have hv := tyX (T := "ValueError") (by decide +kernel)
  have hstar := F.noStar
  simp only [checkBuiltinCall, F.newKind, F.newSplit, F.newRow]
  repeat (first | refine wpAny_loadPart_at hC ?_ | (refine wpAny_isSubtype_exc hC ?_; rw [hv]) | refine wpAny_staticBase_exc hC ?_ | refine wpAny_madeBy_exc hC ?_ | simp only [bne_self_eq_false, Bool.false_eq_true, if_false] | wp_step)
  exact hq
theorem exc_new {rest : List Value} (hC : h.get? 45 = some k45o) (hrest : rest.length ≤ sizeLine)
    (hq : R (.ok (.ret (.ref (h.objs.size + 1)))) ⟨(h.push { cls := .type "tuple", data := .seq rest.toArray }).push { cls := .ref 45, data := .fields #[.ref h.objs.size, .none, .none, .none, .bool false, .none] }, g, d, t, os⟩) :
    codeAny (model prog w) A (.builtin "ValueError.__new__" ⟨.ref 45 :: rest, []⟩) R ⟨h, g, d, t, os⟩ := by
  have F := PySem.F.excBase_ValueError
  have hends := F.ends
  have hv := tyX (T := "ValueError") (by decide +kernel)
  have ha := tyXn (T := "AttributeError") (by decide +kernel)
  have hn := tyXn (T := "NameError") (by decide +kernel)
  refine codeAny_builtinAt F.entry ?_
  unfold Builtin.«BaseException.__new__»
  refine PySem.wpAt_bind ?_
  show PySem.wpAt _ _ _ (stack >>= _) _ _ _
  refine PySem.wpAt_bind (PySem.wpAt_stack fun p below => PySem.wpAt_of_wpAny ?_)
  wp_walk
  refine PySem.wpAt_of_wpAny ?_
  rw [F.owner]
  repeat (first | with_reducible refine wpAny_madeHere_exc F.canon hC ?_ | with_reducible refine wpAny_loadPart_at hC ?_ | (with_reducible refine wpAny_isSubtype_exc hC ?_; first | rw [hv] | rw [ha] | rw [hn]) | wp_step)
  show R _ _
  rw [Heap.size_push]
  exact hq
theorem exc_core {rest : List Value} (X : (KK w.params).In h) (hrest : rest.length ≤ sizeLine)
    (hq : codeAny (model prog w) (A.under (.builtin "type.__call__" ⟨.ref 45 :: rest, []⟩)) (.call (.ref 29) ⟨.ref (h.objs.size + 1) :: rest, []⟩) (InitBack (h.objs.size + 1) R)
      ⟨(h.push { cls := .type "tuple", data := .seq rest.toArray }).push { cls := .ref 45, data := .fields #[.ref h.objs.size, .none, .none, .none, .bool false, .none] }, g, d, t, os⟩) :
    codeAny (model prog w) A (.call (.ref 45) ⟨rest, []⟩) R ⟨h, g, d, t, os⟩ := by
  have F := PySem.F.excBase_ValueError
  have hC : h.get? 45 = some k45o := X _ _ (k45_is _)
  have f1 := tc_lookup
  have f2 := tc_bind (.ref 45)
  have hT : (⟨h, g, d, t, os⟩ : Shared).TypeIs (.ref 45) "type" := ⟨_, hC, rfl⟩
  refine codeAny_of_tree ?_
  show wpAny _ _ (callAny (.ref 45) _) _ _ _
  repeat (any_goals (first | assumption | with_reducible refine wpAny_loadPart_at hC ?_ | wp_step))
  refine ⟨rfl, ?_⟩
  refine codeAny_call_builtin_at (Code.quiet_builtin _ (by decide +kernel)) entry_typeCall (wpAny_check_type_call_sub hC ?_)
  show wpAny _ _ (Builtin.«type.__call__» _) _ _ _
  repeat (first | with_reducible refine wpAny_loadPart_at hC ?_ | with_reducible refine wpAny_madeBy_exc hC ?_ | wp_step)
  refine codeAny_call_builtin_code (Code.quiet_builtin _ F.quiet) (chk_new hC ?_)
  refine exc_new hC hrest ?_
  show wpAny _ _ _ _ _ _
  have k : Ext h ((h.push { cls := .type "tuple", data := .seq rest.toArray }).push { cls := .ref 45, data := .fields #[.ref h.objs.size, .none, .none, .none, .bool false, .none] }) := fun b o e => Heap.get?_push_of_some _ (Heap.get?_push_of_some _ e)
  have hC₁ := k _ _ hC
  have X₁ := X.keeps k
  have hget : ((h.push { cls := .type "tuple", data := .seq rest.toArray }).push { cls := .ref 45, data := .fields #[.ref h.objs.size, .none, .none, .none, .bool false, .none] }).get? (h.objs.size + 1) = some
      { cls := .ref 45, data := .fields #[.ref h.objs.size, .none, .none, .none, .bool false, .none] } := by heap_get
  have hcC : (Value.ref 45 :: bmX).contains (.ref 45) = true := by simp
  unfold isInstance
  repeat (first | with_reducible refine wpAny_loadPart_at hget ?_ | (show wpAny _ _ (isSubtype (.ref 45) (.ref 45)) _ _ _; refine wpAny_isSubtype_exc hC₁ ?_; rw [hcC]) | wp_step)
  show wpAny _ _ (typeLookup (.ref 45) _) _ _ _
  refine (looks_findIn X₁ (t := .ref 45) (name := "__init__") (r := some (.ref 29)) (by k_is)).here ?_
  refine wpAny_holding (wpAny_bind ((bind_fn X₁ _ (by k_is)).here ?_))
  refine wpAny_bind (wpAny_call (codeAny_mono hq fun r s' z => ?_))
  rcases r with e | (v | _ | _ | _) <;> first | exact z | exact z.elim | skip
  obtain ⟨rfl, z⟩ := z
  exact wpAny_pure (wpAny_pure z)
end
end Mine

end

section
open PySem PySem.W PyProof.Rows PySem.Calls
open PySem.Builtin PySem.Builtin.ObjectAttr
set_option Elab.async false
set_option maxRecDepth 100000
set_option maxHeartbeats 400000
set_option linter.unusedVariables false
set_option pp.deepTerms false
set_option pp.deepTerms.threshold 4
set_option pp.maxSteps 4000
namespace Mine
section
variable {prog : Program} {w : World} {A : Around} {h : Heap} {e : Addr} {vs : Array Value} {sl : Array (Option Value)}
def Keep1 (e : Addr) (h h' : Heap) : Prop := ∀ b o, b ≠ e → h.get? b = some o → h'.get? b = some o
theorem ex_type {M : Model} {od : Option Addr} (he : h.get? e = some ⟨.ref 45, od, .fields vs, sl⟩) : Looks M h (typeOf (.ref e)) (.ref 45) := (Looks.ld he).andThen .now
theorem cls45 (P : Params) : ∃ cd, clsIn (KK P) 45 = some cd ∧ cd.mro = .ref 45 :: bmX ∧ cd.hasDict = true := ⟨_, rfl, rfl, rfl⟩
theorem ex_osa {s : Shared} {R : Result → Shared → Prop} (X : (KK w.params).In s.heap) (he : s.heap.get? e = some ⟨.ref 45, none, .fields vs, sl⟩) {name : Str} (hn : findIn (KK w.params) (.ref 45) name = some none) {v : Value} {tk : Tok}
    (k : ∀ h' dx tk', Keep1 e s.heap h' → s.heap.objs.size ≤ h'.objs.size → h'.get? e = some ⟨.ref 45, some dx, .fields vs, sl⟩ → R (.ok (.ret .none)) { s with heap := h', toks := tk' }) :
    codeAny (model prog w) A (.call (.builtin "object.__setattr__") ⟨[.ref e, .str name tk, v], []⟩) R s := by
  have SF := PySem.F.store_ValueError
  obtain ⟨cd, hcd, hmro, hdict⟩ := cls45 w.params
  have T := fun M => ex_type (M := M) he
  have sub : Looks (model prog w) s.heap (isInstance (.ref e) (.type "object")) true := (T _).andThen (looks_mroIn X (by k_is))
  refine codeAny_call_builtin SF.slot.plain SF.entry (@check_slot (model prog w) _ _ _ "object.__setattr__" "object" "__setattr__" (.ref e) [.str name tk, v] [] _ SF.kind SF.split sub (SF.args (.ref e) (.str name tk) v) ?_)
  have hm : Looks (model prog w) s.heap (mroOf (.ref 45)) (.ref 45 :: bmX) := hmro ▸ (looks_clsIn X hcd).andThen .now
  rw [osa_eq, refuse_eq]
  refine wpAny_bind (wpAny_bind ((T _).here (wpAny_bind (hm.here ?_))))
  rw [refuseLoop_ref, refuseLoop_ref, SF.passes]
  refine wpAny_pure (wpAny_bind ((T _).here (wpAny_bind ((looks_findIn X hn).here (wpAny_bind (wpAny_pure ?_))))))
  refine wpAny_bind (wpAny_pure (wpAny_bind (wpAny_bind (wpAny_loadPart he (wpAny_bind ((looks_clsIn X hcd).here ?_))))))
  rw [hdict]
  obtain ⟨h, g, d, t, os⟩ := s
  dsimp only at he k ⊢
  have hxs : e ≠ h.objs.size := Nat.ne_of_lt (Heap.lt_size he)
  have he₁ : (h.push { cls := .type "dict", data := .dict #[] }).get? e = some ⟨.ref 45, none, .fields vs, sl⟩ := Heap.get?_push_of_some _ he
  refine wpAny_bind (wpAny_alloc' ?_)
  refine wpAny_bind (wpAny_update' he₁ ?_)
  refine wpAny_pure ?_
  generalize hH : (h.push { cls := .type "dict", data := .dict #[] }).update e (fun o => { cls := o.cls, dict := some h.objs.size, data := o.data, slots := o.slots }) = H
  have hgd : H.get? h.objs.size = some { cls := .type "dict", data := .dict #[] } := by rw [← hH]; exact (Heap.get?_update_ne _ _ _ _ hxs.symm).trans (Heap.get?_push_at rfl rfl)
  have hge : H.get? e = some ⟨.ref 45, some h.objs.size, .fields vs, sl⟩ := by rw [← hH]; exact Heap.get?_update_self _ he₁ rfl
  have hsz : H.objs.size = h.objs.size + 1 := by rw [← hH, Heap.size_after_update, Heap.size_push]
  have hko : Keep1 e h H := fun b o hb q => by rw [← hH]; exact (Heap.get?_update_ne _ _ _ _ hb).trans (Heap.get?_push_of_some _ q)
  have hnd : H.Ns h.objs.size (fun _ => none) := ⟨_, #[], _, hgd, rfl, fun e he => absurd he (by simp), fun _ => rfl⟩
  show wpAny _ _ (storeInDict h.objs.size (.str name tk) name v) _ _ _
  unfold storeInDict newKeyGuard
  refine wpAny_bind (wpAny_pure (wpAny_bind (wpAny_nsSet1 (Heap.Ns1.of_empty hnd) fun h' hn' hs => ?_)))
  obtain ⟨oD, esD, epD, hoD, hdD, hcD⟩ := hn'.count (Within.cons name v Within.nil)
  refine wpAny_bind (wpAny_lookBehind hoD (by rw [hdD]; exact pastItsLine_dict (Nat.le_trans hcD (by rw [List.length_cons, List.length_nil, sizeLine_eq]; decide))) ?_)
  refine wpAny_pure ?_
  exact k h' h.objs.size _ (fun b o hb q => (hs.2 b (Nat.ne_of_lt (Heap.lt_size q))).trans (hko b o hb q)) (by rw [hs.1, hsz]; exact Nat.le_succ _) ((hs.2 e hxs).trans hge)
theorem ex_store (X : (KK w.params).In h) (he : h.get? e = some ⟨.ref 45, none, .fields vs, sl⟩) {name : Str} (hn : findIn (KK w.params) (.ref 45) name = some none) {v : Value} {Q : Unit → Heap → Prop}
    (k : ∀ h' dx, Keep1 e h h' → h.objs.size ≤ h'.objs.size → h'.get? e = some ⟨.ref 45, some dx, .fields vs, sl⟩ → Q () h') : W prog w A (setAttr (.ref e) name v) h Q := W.mk fun s Qs hh kk => by
  subst hh
  exact set_plain X (⟨he, rfl, rfl, trivial⟩ : InstAt s.heap e ⟨.ref 45, none, .fields vs, sl⟩ 45 none) (by k_is) (ex_osa (s := { s with toks := s.toks + 1 }) X he hn fun h' dx tk' a c d => kk () h' tk' (k h' dx a c d))
theorem chk_init {M : Model} {E : Value → Shared → Prop} {s : Shared} {rest : List Value} {Q : Unit → Shared → Prop} (X : (KK w.params).In s.heap) (he : s.heap.get? e = some ⟨.ref 45, none, .fields vs, sl⟩) (hq : Q () s) : wpAny M A (checkBuiltinCall "ValueError.__init__" ⟨.ref e :: rest, []⟩) Q E s := by
  have F := PySem.F.excBase_ValueError
  have hC : s.heap.get? 45 = some k45o := X _ _ (k45_is _)
  have hshort := F.noStar
  have T : Looks M s.heap (isInstance (.ref e) (.type "ValueError")) true := (ex_type (M := M) he).andThen (looks_mroIn (K := KK w.params) (C := 45) (base := .type "ValueError") (r := true) X (by k_is))
  simp only [checkBuiltinCall, F.initKind, F.initSplit, F.initRow]
  refine wpAny_bind (T.here ?_)
  repeat (first | wp_step)
  refine wpAny_onRaise ?_
  rw [show ∀ (a b : String) (n : Nat), Bind.check ⟨.positional, "*", "ValueError", .self, [⟨"args", .varPos, false⟩]⟩ a b n (List.map (fun x => x.fst) ({ pos := Value.ref e :: rest } : Args).kw) = pure () from
    fun a b n => check_star_args _ _ _ _ _ _]
  exact wpAny_pure hq
theorem init_w {rest : List Value} {t0 : Addr} {Q : Value → Heap → Prop} (X : (KK w.params).In h) (he : h.get? e = some ⟨.ref 45, none, .fields #[.ref t0, .none, .none, .none, .bool false, .none], sl⟩) (hr : rest.length ≤ sizeLine)
    (k : ∀ h' t2, Keep1 e h h' → h.objs.size ≤ h'.objs.size → h'.get? e = some ⟨.ref 45, none, .fields #[.ref t2, .none, .none, .none, .bool false, .none], sl⟩ → h.get? t2 = none → h'.get? t2 = some { cls := .type "tuple", data := .seq rest.toArray } → Q .none h') : W prog w A (call (.builtin "ValueError.__init__") (.ref e :: rest)) h Q := W.mk fun s Qs hh kk => by
  subst hh
  have F := PySem.F.excBase_ValueError
  refine wpAny_call (codeAny_call_builtin F.init.plain F.initEntry (chk_init X he ?_))
  obtain ⟨h, g, d, t, os⟩ := s
  dsimp only at he k kk ⊢
  wp_walk
  refine kk _ _ _ (k _ (h.objs.size) (fun b o hb q => ?_) ?_ ?_ (Heap.get?_none_of_le (Nat.le_refl _)) ?_)
  · rw [Heap.get?_update_other _ _ (Ne.symm hb)]
    exact Heap.get?_push_of_some _ q
  · rw [Heap.size_after_update, Heap.size_push]; exact Nat.le_succ _
  · rw [Heap.get?_update_self _ (Heap.get?_push_of_some _ he) rfl]; rfl
  · rw [Heap.get?_update_other _ _ (Nat.ne_of_lt (Heap.lt_size he))]; exact Heap.get?_push_at rfl rfl
end
end Mine

end

section
open PySem PySem.W PyProof.Rows PySem.Calls
set_option Elab.async false
set_option maxRecDepth 100000
set_option maxHeartbeats 400000
set_option linter.unusedVariables false
set_option pp.deepTerms false
set_option pp.deepTerms.threshold 4
set_option pp.maxSteps 4000
namespace Mine
section
variable {prog : Program} {w : World} {p : Program} {loose : List Str} {mean : ExcName → Option Value} {mg mb : Str → Option Value} {A : Around} {env : Env} {g h h' : Heap} {L b : Addr} {m : Str → Option Value}
theorem fr_keep1 {e : Addr} (F : Fr g L h m) (hg : g.get? e = none) (hL : e ≠ L) (k : Keep1 e h h') : Fr g L h' m :=
  ⟨F.ns.at' fun o q => k _ o (Ne.symm hL) q, fun b o q => k _ _ (fun r => by rw [r, hg] at q; cases q) (F.keep b o q), F.above⟩
theorem w_expr {e : Expr} {pos : Pos} {Q : Flow → Heap → Prop} (x : W prog w A (eval e env) h fun _ h' => Q .next h') (hi : interactive env = false := by rfl) (hs : swapsWith e none pos.line env = pure false := by rfl) : W prog w A (exec (.Expr e pos) env) h Q :=
  W.mk fun s Qs hh k => wpAny_Expr_any (x.run s _ hh fun _ _ _ q => k _ _ _ q) hi hs
theorem w_meth {o : Expr} {name : Str} {apos pos : Pos} {args : List Expr} {pl : Sem Bool} {Q : Value → Heap → Prop}
    (x : W prog w A (eval o env) h fun ov h₁ => W prog w A (getMethod ov name pl) h₁ fun fx h₂ => W prog w A (callWith pos fx.1 fx.2 (backTo pos (starEach args env)) []) h₂ Q)
    (he : eval (.Call (.Attribute o name apos) args [] pos) env = (do
      let ov ← eval o env
      standAt apos.atName
      let (f, first) ← holding [ov] (getMethod ov name pl)
      callWith pos f first (backTo pos (starEach args env)) []) := by rfl) : W prog w A (eval (.Call (.Attribute o name apos) args [] pos) env) h Q :=
  W.mk fun s Qs hh k => MethodCall_ (x.run s _ hh fun _ _ _ q => q.run _ _ rfl fun _ _ _ q => q.run _ _ rfl fun _ _ _ q => k _ _ _ q) he
theorem gm_type {T : String} {name : Str} {v : Value} {pl : Sem Bool} {Q : Value × List Value → Heap → Prop} (F : Fr g L h m) (X : (KK w.params).In g) (ht : typeOf (.type T) = pure (.type "type")) (hs : Manifest.isStub T = false)
    (e : findCls (KK w.params) (.type T) (.type "type") name = some (.val v)) (hh : handedIn v = true) (k : Q (v, []) h) : W prog w A (getMethod (.type T) name pl) h Q :=
  W.mk fun s Qs hs' kk => by subst hs'; exact method_type F X ht hs e hh (kk _ _ _ k)
theorem gemInit_w {x : Str} {t : Tok} {e t0 : Addr} (H : At w p loose mean mg mb A g) (hr : Room A 1) (e0 : Ext g h) (hs : g.objs.size ≤ h.objs.size)
    (he : h.get? e = some ⟨.ref 45, none, .fields #[.ref t0, .none, .none, .none, .bool false, .none], #[]⟩) (hg : g.get? e = none) :
    WC prog w A (.call (.ref 29) ⟨[.ref e, .str x t], []⟩) h fun v h' => v = .none ∧ Ext g h' ∧ h.objs.size ≤ h'.objs.size ∧ ∃ dx t2, h'.get? e = some ⟨.ref 45, some dx, .fields #[.ref t2, .none, .none, .none, .bool false, .none], #[]⟩ ∧ g.get? t2 = none ∧ h'.get? t2 = some { cls := .type "tuple", data := .seq [Value.str x t].toArray } := by
  refine' wc_enter (binds := [(st "self", .ref e), (st "reason", .str x t)]) (news := [(e, ⟨.ref 45, none, .fields #[.ref t0, .none, .none, .none, .bool false, .none], #[]⟩)]) H e0 hs ?n0 ?k6 ?k7 hr.room ?k9 ?kB ?_ ?c2 ?c3 ?c4 ?c5
  case n0 =>
    intro q hq
    cases hq with
    | head => exact ⟨he, hg⟩
    | tail _ hq => cases hq
  case k6 => k_is
  case k7 => k_is
  case k9 =>
    intro s hs'
    refine' binds_K (T := 22) (K := KK w.params) ?x1 rfl ?x2 ?x3 ?x4 ?x5
    case x1 => rw [hs']; exact H.K.keeps e0
    case x2 => k_is
    case x3 => exact rfl
    case x4 => exact rfl
    case x5 => exact rfl
  case kB => exact locs rfl
  case c2 => exact rfl
  case c3 => exact rfl
  case c4 => exact rfl
  case c5 => decide
  intro L' h₁ base outer hA F N B₁ e₁ hL
  with_unfolding_all (change W _ _ _ (execs (_ :: _) (envOf _ (Scope.mk _ _ _ _ _) _ _ _)) _ _)
  have X₁ := H.K.keeps F.keep
  have G : Gl w p loose mean mg mb h₁ := Gl.ext ⟨H.K, H.T⟩ F.keep
  obtain ⟨n1, n2, _⟩ := N _ (.head _)
  refine w_cons (w_expr (w_meth (w_ev (ev_boot G (by k_is) (v := .type "ValueError") rfl (by decide)) fun v hv => ?_)))
  subst hv
  refine gm_type (v := .builtin "ValueError.__init__") F H.K (by exact rfl) (by decide +kernel) (by k_is) (by exact rfl) ?_
  refine w_cwb (w_arg (w_ev (ev_fr F rfl rfl) fun v1 h1 => w_arg (w_ev (ev_fr F rfl rfl) fun v2 h2 => w_arg0 ?_)))
  subst h1 h2
  have gn : ∀ b, h₁.get? b = none → g.get? b = none := fun b q => by
    cases c : g.get? b with
    | none => rfl
    | some o => rw [F.keep _ _ c] at q; cases q
  refine init_w X₁ n1 (by show 1 ≤ sizeLine; decide) fun h₂ t2 k2 s2 o2 n3 o4 => ?_
  have F₂ := fr_keep1 F hg n2 k2
  refine w_cons (w_setattr (w_ev (ev_fr F₂ rfl rfl) fun v hv => w_ev (ev_fr F₂ rfl rfl) fun ov ho => ?_))
  subst hv ho
  refine ex_store (H.K.keeps F₂.keep) o2 (by k_is) fun h₃ dx k3 s3 o3 => w_nil ⟨rfl, (fr_keep1 F₂ hg n2 k3).keep, Nat.le_of_lt (hL ▸ size_of_ns (fr_keep1 F₂ hg n2 k3).ns), dx, t2, o3, gn t2 n3, k3 _ _ (fun r => by rw [r, n1] at n3; cases n3) o4⟩
theorem bad_w {x : Str} {t : Tok} (H : At w p loose mean mg mb A h) (hr : Room A 2) :
    WC prog w A (.call (.ref 45) ⟨[.str x t], []⟩) h fun v h' => ∃ e dx t2, v = .ref e ∧ Ext h h' ∧ h.objs.size ≤ h'.objs.size ∧ h.get? e = none ∧ h'.get? e = some ⟨.ref 45, some dx, .fields #[.ref t2, .none, .none, .none, .bool false, .none], #[]⟩ ∧ h.get? t2 = none ∧ h'.get? t2 = some { cls := .type "tuple", data := .seq [Value.str x t].toArray } := by
  intro s R hs kk
  subst hs
  obtain ⟨hh, g, d, tk, os⟩ := s
  dsimp only at H kk ⊢
  refine exc_core H.K (by show 1 ≤ sizeLine; decide) ?_
  have e0 : Ext hh ((hh.push { cls := .type "tuple", data := .seq [Value.str x t].toArray }).push { cls := .ref 45, data := .fields #[.ref hh.objs.size, .none, .none, .none, .bool false, .none] }) := fun z o q => Heap.get?_push_of_some _ (Heap.get?_push_of_some _ q)
  have n1 : hh.get? (hh.objs.size + 1) = none := Heap.get?_none_of_le (Nat.le_succ _)
  refine gemInit_w (g := hh) (t0 := hh.objs.size) (H.under 45 _) (hr.under 45 _) e0 (by rw [Heap.size_push, Heap.size_push]; exact Nat.le_succ_of_le (Nat.le_succ _)) (by heap_get) n1 _ _ rfl fun v h' tk' q => ?_
  obtain ⟨rfl, e, hz, dx, t2, o, o2, o3⟩ := q
  rw [Heap.size_push, Heap.size_push] at hz
  exact ⟨rfl, kk _ _ _ ⟨_, dx, t2, rfl, e, Nat.le_trans (Nat.le_succ_of_le (Nat.le_succ _)) hz, n1, o, o2, o3⟩⟩
end
end Mine

end

section
open PySem PySem.W PyProof.Rows PySem.Calls
set_option Elab.async false
set_option maxRecDepth 100000
set_option maxHeartbeats 400000
set_option linter.unusedVariables false
set_option pp.deepTerms false
set_option pp.deepTerms.threshold 4
set_option pp.maxSteps 4000
namespace Mine
abbrev exO (dx t2 : Addr) : Obj := ⟨.ref 45, some dx, .fields #[.ref t2, .none, .none, .none, .bool false, .none], #[]⟩
section
variable {prog : Program} {w : World} {p : Program} {loose : List Str} {mean : ExcName → Option Value} {mg mb : Str → Option Value} {A : Around} {env : Env} {g h h' : Heap} {L b : Addr} {m : Str → Option Value}
theorem raise_made {M : Model} {E : Value → Shared → Prop} {s : Shared} {x : Sem Value} {Q : Flow → Shared → Prop} (hh : A.handled = none)
    (y : wpAny M A x (fun v s₁ => ∃ e dx t2, v = .ref e ∧ s₁.heap.get? 45 = some k45o ∧ s₁.heap.get? e = some (exO dx t2) ∧ E (.ref e) s₁) E s) : wpAny M A (raiseStmt env (some x) none) Q E s := by
  have hcB := tyX (T := "BaseException") (by decide +kernel)
  unfold raiseStmt
  refine wpAny_bind (wpAny_mono y (fun v s₁ h₁ => ?_) fun _ _ x => x)
  obtain ⟨e, dx, t2, rfl, hC, he, hE⟩ := h₁
  obtain ⟨hp, g, d, tk, os⟩ := s₁
  repeat (first | with_reducible refine wpAny_loadPart_at he ?_ | with_reducible refine wpAny_loadPart_at hC ?_ | (show wpAny _ _ (isSubtype (.ref 45) (.type "BaseException")) _ _ _; refine wpAny_isSubtype_exc hC ?_; rw [hcB]) | wp_step)
  exact wpAny_raiseNew_none hh hE
theorem raise_W {E : Value → Shared → Prop} {s : Shared} {e : Expr} {pos : Pos} {Q : Flow → Shared → Prop} (hh : A.handled = none)
    (y : W prog w A (eval e env) s.heap fun v h₁ => ∃ e dx t2, v = .ref e ∧ (KK w.params).In h₁ ∧ h₁.get? e = some (exO dx t2) ∧ ∀ tk, E (.ref e) { s with heap := h₁, toks := tk }) : wpAny (model prog w) A (exec (.Raise (some e) none pos) env) Q E s := by
  rw [arm_exec_Raise]
  refine wpAny_bind (wpAny_standAt (raise_made hh (wpAny_bind ?_)))
  refine wpAny_mono (y.use (Qs := fun v s₁ => ∃ e dx t2, v = .ref e ∧ s₁.heap.get? 45 = some k45o ∧ s₁.heap.get? e = some (exO dx t2) ∧ E (.ref e) s₁) fun v h₁ tk q => ?_) (fun v s₁ q => wpAny_bind (wpAny_standAt (wpAny_pure q))) fun _ _ f => f.elim
  obtain ⟨e, dx, t2, rfl, X, o, k⟩ := q
  exact ⟨e, dx, t2, rfl, X _ _ (k45_is _), o, k tk⟩
end
end Mine

end

section
open PySem PySem.W PyProof.Rows PySem.Calls
set_option Elab.async false
set_option maxRecDepth 100000
set_option maxHeartbeats 400000
set_option linter.unusedVariables false
set_option pp.deepTerms false
set_option pp.deepTerms.threshold 4
set_option pp.maxSteps 4000
namespace Mine
section
variable {prog : Program} {w : World} {p : Program} {loose : List Str} {mean : ExcName → Option Value} {mg mb : Str → Option Value} {A : Around} {env : Env} {g h h' base : Heap} {L b : Addr} {m : Str → Option Value} {outer : List Env}
abbrev framesOf (l : List Env) : List Addr := l.filterMap (·.frame)
theorem leave_ex {M : Model} {E : Value → Shared → Prop} {s' : Shared} {Q : Unit → Shared → Prop} {name : Str} {scope : Scope} {a e dx t2 : Addr} {cd : Value} {vs : List Value} (K : Below A base outer g) (F : Fr g L h m) (hk : Ext h s'.heap) (hn : h.get? e = none) (he : s'.heap.get? e = some (exO dx t2))
    (htn : h.get? t2 = none) (ht : s'.heap.get? t2 = some { cls := .type "tuple", data := .seq vs.toArray }) (hs : scope.kind = .function)
    (hQ : ∀ h', RaisedS base g outer e (.ref 45) t2 vs [] h' → g.UpToSlots h' → Q () { s' with heap := h' }) : wpAny M (A.deeper (envOf name scope L a cd)) (leaving (envOf name scope L a cd) (.ref e)) Q E s' := by
  have K' := K.push (name := name) (a := a) (cd := cd) F hs
  have gL : g.get? L = none := kts_self F
  generalize hB : hideAll h (framesOf (envOf name scope L a cd :: outer)) = B
  have up : ∀ b o, B.get? b = some o → h.get? b = some o := fun b o q => by rw [← hB] at q; exact of_hideAll _ q
  have no : ∀ b, h.get? b = none → B.get? b = none := fun b q => by
    cases c : B.get? b with
    | none => rfl
    | some o => rw [up _ _ c] at q; cases q
  have st : base.StaysIn B := fun b o q => by
    rw [← hB]
    exact hideAll_get _ (K'.stays b o q) fun hm => by rw [(K'.frames.mem hm).1] at q; cases q
  have sg : ∀ b o, g.get? b = some o → b ∉ framesOf outer → B.get? b = some o := fun b o q nm => by
    rw [← hB]
    refine hideAll_get _ (F.keep b o q) fun hm => (kts_mem hm).elim (fun z => ?_) nm
    rw [z, gL] at q; cases q
  have ff : Heap.FunFrames h B (envOf name scope L a cd :: outer) := by
    rw [← hB]
    exact funFrames_hide K'.frames fun env he b hb => List.mem_filterMap.mpr ⟨env, he, hb⟩
  refine wpAny_leaving_firstW (base := B) (a0 := .ref t2) K'.stack (ff.of_keeps fun b o q _ => ⟨o, hk b o q, rfl⟩) rfl he (fun b o q => hk b o (up b o q)) (no e hn) rfl rfl rfl fun h' hL => ?_
  obtain ⟨k1, ⟨_, _, k2⟩, k3, k4⟩ := hL
  exact hQ h' ⟨⟨B, st, sg, (fun _ q => nomatch q), ⟨k1, no e hn, k2, k3⟩, no t2 htn⟩, Heap.TupAt.of_slots ⟨_, _, ht, rfl, rfl⟩ k4⟩ (((Heap.UpToSlots.of_keeps F.keep).trans (Heap.UpToSlots.of_keeps hk)).trans k4)
end
end Mine

end

section
open PySem PySem.W PyProof.Rows PySem.Calls
set_option Elab.async false
set_option maxRecDepth 100000
set_option maxHeartbeats 400000
set_option linter.unusedVariables false
set_option pp.deepTerms false
set_option pp.deepTerms.threshold 4
set_option pp.maxSteps 4000
namespace Mine
section
variable {prog : Program} {w : World} {p : Program} {loose : List Str} {mean : ExcName → Option Value} {mg mb : Str → Option Value} {A : Around} {env : Env} {g h h' base : Heap} {L b : Addr} {m : Str → Option Value} {outer : List Env}
abbrev IsSn (n : Nat) (v : Value) : Prop := ∃ x t, v = .str x t ∧ x.length ≤ n
theorem len_append (x y : Str) : (x ++ y).length = x.length + y.length := by
  show (x.cps ++ y.cps).size = _
  rw [Array.size_append]; rfl
theorem ev_adds {l r : Expr} {pos : Pos} {a c : Nat} (x : Ev prog w A env l h (IsSn a)) (y : Ev prog w A env r h (IsSn c)) (hz : a + c ≤ 100000 := by decide) : Ev prog w A env (.BinOp l .Add r pos) h (IsSn (a + c)) :=
  ev_bin x y fun _ _ ⟨x, t, e, hx⟩ ⟨y, u, e', hy⟩ => by
    subst e e'
    exact W.still fun s _ _ k => PyProof.Rows.add_str (fun t' tk => k _ tk ⟨x ++ y, t', rfl, by rw [len_append]; exact Nat.add_le_add hx hy⟩) (Nat.le_trans (Nat.add_le_add hx hy) (Nat.le_trans hz (by decide : 100000 ≤ sizeLine)))
theorem sn_of {x : Str} {n : Nat} {v : Value} (hz : Nat.ble x.length n = true) (e : IsS x v) : IsSn n v := let ⟨t, q⟩ := e; ⟨x, t, q, Nat.le_of_ble_eq_true hz⟩
theorem ev_strn {fe e : Expr} {pos : Pos} {i : Int} (en : Ev prog w A env fe h (· = .type "str")) (x : Ev prog w A env e h (IsI i)) (h0 : 0 ≤ i) (h1 : i < 1000)
    (he : eval (.Call fe [e] [] pos) env = (do callWith pos (← eval fe env) [] (backTo pos (starEach [e] env)) (backToKw pos (keywordEach [] env))) := by rfl)
    (s₁ : starEach [e] env = (false, eval e env) :: starEach [] env := by rfl) : Ev prog w A env (.Call fe [e] [] pos) h (IsSn 1100) :=
  w_callee en (w_cwtype (w_arg (w_ev x fun v hv => w_arg0 (by
    obtain ⟨t, rfl⟩ := hv
    refine W.mk fun s Qs hh kk => ?_
    subst hh
    refine str_of_int_fit (N := 1000) (by split <;> omega) (by decide) fun _ => kk _ _ _ ⟨rfl, _, _, rfl, ?_⟩
    have := len_str_of_int i
    omega)) s₁) s₁ (by rfl)) he
theorem if_raw {E : Value → Shared → Prop} {s : Shared} {t : Expr} {b o : List Stmt} {pos : Pos} {Q : Flow → Shared → Prop} (x : Ts prog w A env t s.heap (· = true)) (y : ∀ tk, wpAny (model prog w) A (execs b env) Q E { s with toks := tk }) :
    wpAny (model prog w) A (exec (.If t b o pos) env) Q E s :=
  wpAny_If (wpAny_mono (x.run s (fun c s' => c = true ∧ ∃ tk, s' = { s with toks := tk }) rfl fun c h' tk q => ⟨q.2, tk, by rw [q.1]⟩) (fun c s' q => by
    obtain ⟨rfl, tk, rfl⟩ := q
    exact y tk) fun _ _ f => f.elim)
theorem execs_raw {E : Value → Shared → Prop} {s : Shared} {st : Stmt} {rest : List Stmt} {Q : Flow → Shared → Prop} (x : wpAny (model prog w) A (exec st env) (fun _ _ => False) E s) : wpAny (model prog w) A (execs (st :: rest) env) Q E s :=
  wpAny_execs_cons (wpAny_mono x (fun _ _ f => f.elim) fun _ _ q => q)
def KindBad (K : Frag) (k : Str) (n : Nat) : Prop := nsIn K 48 k = some none ∨ ∃ ns, KindIn K k ns ∧ ns.length ≠ n ∧ ns.length ≤ 900
theorem nodeBad_c {k : Str} {t : Tok} {x pa : Addr} {vs : List Value} {R : Result → Shared → Prop} {s : Shared} (H : At w p loose mean mg mb A s.heap) (B : Below A base outer s.heap) (hr : Room A 3) (hk : KindBad (KK w.params) k vs.length) (hkl : k.length ≤ 100) (hvl : vs.length ≤ 900) (hp : SeqAt s.heap.get? pa true vs)
    (hR : ∀ h' e t2 vs' tk, RaisedS base s.heap outer e (.ref 45) t2 vs' [] h' → s.heap.UpToSlots h' → R (.error (.ref e)) { s with heap := h', toks := tk }) :
    codeAny (model prog w) A (.call (.ref 130) ⟨[.ref x, .str k t, .ref pa], []⟩) R s := by
  refine' enterL (binds := [(st "self", .ref x), (st "kind", .str k t), (st "parts", .ref pa), (st "line", .int 0 477)]) (news := []) H (fun _ _ e => e) (Nat.le_refl _) (fun _ h => nomatch h) ?k6 ?k7 hr.room ?k9 ?kB ?_ ?c2 ?c3 ?c4 ?c5
  case k6 => k_is
  case k7 => k_is
  case k9 =>
    refine' binds_K (T := 123) (K := KK w.params) ?x1 rfl ?x2 ?x3 ?x4 ?x5
    case x1 => exact H.K
    case x2 => k_is
    case x3 => exact rfl
    case x4 => exact rfl
    case x5 => exact rfl
  case kB => exact locs rfl
  case c2 => exact rfl
  case c3 => exact rfl
  case c4 => exact rfl
  case c5 => decide
  intro L' h₁ _ _ hA F N _ e₁ hL
  with_unfolding_all (change wpAny _ _ (execs (_ :: _) (envOf _ (Scope.mk _ _ _ _ _) _ _ _)) _ _ _)
  have X₀ := H.K.keeps F.keep
  have G : Gl w p loose mean mg mb h₁ := Gl.ext ⟨H.K, H.T⟩ F.keep
  have hpt : SeqAt h₁.get? pa true vs := hp.mono F.keep
  have hrd := fun e => hr.deeper e
  have hlen : ∀ {env : Env}, env.locals = L' → True := fun _ => trivial
  refine execs_raw (if_raw ?test fun tk => execs_raw (raise_W (hrd _).1 ?_))
  case test =>
    rcases hk with hk | ⟨ns, ⟨fa, fvs, hk1, hk2, hk3⟩, hne, hz⟩
    · exact ts_or (ts_notin X₀ (ev_fr F rfl ⟨_, rfl⟩) (ev_glob G (by k_is)) hk) (fun e => rfl) fun e => nomatch e
    · have hft : SeqAt h₁.get? fa true fvs := let ⟨n, sl, q⟩ := hk3 h₁ X₀; ⟨_, n, q, rfl, rfl⟩
      refine ts_or (ts_notin X₀ (ev_fr F rfl ⟨_, rfl⟩) (ev_glob G (by k_is)) hk1) (fun e => nomatch e) fun _ => ?_
      refine ev_mono (ts_nei (ev_len (ev_boot G (by k_is) boot_len (by decide)) (ev_field X₀ (ev_glob G (by k_is)) (ev_fr F rfl ⟨_, rfl⟩) hk1 rfl) hft ?_) (ev_len (ev_boot G (by k_is) boot_len (by decide)) (ev_fr F rfl rfl) hpt ?_)) fun c hc => ?_
      · rw [hk2.length]; exact Nat.le_trans hz (by decide)
      · exact Nat.le_trans hvl (by decide)
      · exact hc.mpr (by rw [hk2.length]; exact fun e => hne (by exact_mod_cast e))
  refine w_callee (ev_glob G (by k_is)) (w_cw G (by k_is) (w_arg (w_ev (ev_adds (ev_adds (ev_adds (ev_adds (a := 8) (c := 100) (ev_mono ev_str fun v q => sn_of rfl q) (ev_fr F rfl ⟨k, t, rfl, hkl⟩)) (c := 4) (ev_mono ev_str fun v q => sn_of rfl q)) (ev_strn (ev_boot G (by k_is) (v := .type "str") rfl (by decide)) (ev_len (ev_boot G (by k_is) boot_len (by decide)) (ev_fr F rfl rfl) hpt ?_) ?_ ?_)) (c := 6) (ev_mono ev_str fun v q => sn_of rfl q)) fun v hv => w_arg0 ⟨fun _ _ e => e, ?_⟩)))
  · exact Nat.le_trans hvl (by decide)
  · exact Int.natCast_nonneg _
  · exact Int.lt_of_le_of_lt (Int.ofNat_le.mpr hvl) (by decide)
  obtain ⟨y, u, rfl, _⟩ := hv
  refine W.mono (WC.call (bad_w (At.here H.K H.T B F rfl rfl) (hrd _))) fun v h₂ q => ?_
  obtain ⟨e, dx, t2, rfl, e₂, hz₂, hn, ho, ht, hto⟩ := q
  refine ⟨e, dx, t2, rfl, X₀.keeps e₂, ho, fun tk' => ?_⟩
  refine leave_ex (vs := [.str y u]) B F e₂ hn ho ht hto rfl fun h₃ Rz U => ?_
  exact hR h₃ e t2 _ _ Rz U
end
end Mine

end

section
open PySem PySem.W PyProof.Rows PySem.Calls
set_option Elab.async false
set_option maxRecDepth 100000
set_option maxHeartbeats 400000
set_option linter.unusedVariables false
set_option pp.deepTerms false
set_option pp.deepTerms.threshold 4
set_option pp.maxSteps 4000
namespace Mine
section
variable {prog : Program} {w : World} {p : Program} {loose : List Str} {mean : ExcName → Option Value} {mg mb : Str → Option Value} {A : Around} {env : Env} {g h h' base : Heap} {L b : Addr} {m : Str → Option Value} {outer : List Env}
theorem Below.ext' (B : Below A base outer h) (e : Ext h h') : Below A base outer h' := ⟨B.stack, fun b o q => e _ _ (B.stays b o q), B.frames.of_keeps fun b o q _ => ⟨o, e _ _ q, rfl⟩⟩
theorem Below.under' (B : Below A base outer h) (D : Addr) (as : List Value) : Below (A.under (mkC D as)) base outer h := ⟨B.stack, B.stays, B.frames⟩
theorem makeBad_c {k : Str} {t : Tok} {pa : Addr} {vs : List Value} {R : Result → Shared → Prop} {s : Shared} (H : At w p loose mean mg mb A s.heap) (B : Below A base outer s.heap) (hr : Room A 4) (hk : KindBad (KK w.params) k vs.length) (hkl : k.length ≤ 100) (hvl : vs.length ≤ 900) (hp : SeqAt s.heap.get? pa true vs)
    (hR : ∀ h' e t2 vs' tk, RaisedS base s.heap outer e (.ref 45) t2 vs' [] h' → s.heap.UpToSlots h' → R (.error (.ref e)) { s with heap := h', toks := tk }) :
    codeAny (model prog w) A (.call (.ref 140) ⟨[.str k t, .ref pa], []⟩) R s := by
  obtain ⟨hh, g, d, tk, os⟩ := s
  dsimp only at H B hp hR ⊢
  refine make_core (makes_of H.K (by k_is)) (looks_findIn H.K (by k_is)) (fun self => bind_fn H.K self (by k_is)) (.inl rfl) ?_
  have e0 : Ext hh ((hh.push emptyDict).push (instObj 140 hh.objs.size)) := fun z o q => Heap.get?_push_of_some _ (Heap.get?_push_of_some _ q)
  refine nodeBad_c (base := base) (outer := outer) ((H.under 140 _).ext e0) (Below.ext' (Below.under' B 140 _) e0) (hr.under 140 _) hk hkl hvl (hp.mono e0) fun h' e t2 vs' tk' Rz U => ?_
  refine hR h' e t2 vs' tk' ?_ ((Heap.UpToSlots.of_keeps e0).trans U)
  obtain ⟨⟨B', b1, b2, b3, b4, b5⟩, htup⟩ := Rz
  exact ⟨⟨B', b1, fun b o q nm => b2 b o (e0 _ _ q) nm, (fun _ q => nomatch q), b4, b5⟩, htup⟩
def Turned (fs : List Addr) (h h' : Heap) : Prop := (∀ b o, h.get? b = some o → b ∉ fs → h'.get? b = some o) ∧ ∀ b o, h.get? b = some o → b ∈ fs → ∃ sl, h'.get? b = some { o with slots := sl }
theorem refuses_w {k : Str} {t : Tok} {pa : Addr} {vs : List Value} (H : At w p loose mean mg mb A h) (B : Below A base outer h) (XB : (KK w.params).In base) (TB : Top p loose mean mg mb base) (D : KtsDicts (framesOf outer) h) (hr : Room A 5) (hk : KindBad (KK w.params) k vs.length) (hkl : k.length ≤ 100) (hvl : vs.length ≤ 900) (hp : SeqAt h.get? pa true vs) :
    WC prog w A (.call (.ref 271) ⟨[.str k t, .ref pa], []⟩) h fun v h' => v = .bool true ∧ Turned (framesOf outer) h h' := by
  intro s R hs kk
  subst hs
  refine' enterL (binds := [(st "kind", .str k t), (st "parts", .ref pa)]) (news := []) H (fun _ _ e => e) (Nat.le_refl _) (fun _ h => nomatch h) ?k6 ?k7 hr.room ?k9 ?kB ?_ ?c2 ?c3 ?c4 ?c5
  case k6 => k_is
  case k7 => k_is
  case k9 => exact BindsTo.of_eq rfl
  case kB => exact locs rfl
  case c2 => exact rfl
  case c3 => exact rfl
  case c4 => exact rfl
  case c5 => decide
  intro L' h₁ _ _ hA F N _ e₁ hL
  with_unfolding_all (change wpAny _ _ (execs (_ :: _) (envOf _ (Scope.mk _ _ _ _ _) _ _ _)) _ _ _)
  have G : Gl w p loose mean mg mb h₁ := Gl.ext ⟨H.K, H.T⟩ F.keep
  have hpt : SeqAt h₁.get? pa true vs := hp.mono F.keep
  have hrd := fun e => hr.deeper e
  refine wpAny_execs_cons (wpAny_Try_except (execs_raw (wpAny_Expr_any ?_)))
  refine Call_ (wpAny_mono ((ev_glob (v := .ref 140) G (by k_is)).run _ (fun v s' => v = .ref 140 ∧ s'.heap = h₁ ∧ ∃ tk, s' = { s with heap := h₁, toks := tk }) rfl fun v h' tk q => by obtain ⟨rfl, rfl⟩ := q; exact ⟨rfl, rfl, tk, rfl⟩) (fun v s' q => ?_) fun _ _ f => f.elim)
  obtain ⟨rfl, hs', tk, rfl⟩ := q
  refine callWith_K (K := KK w.params) G.K (by k_is) ?_
  refine wpAny_mono (W.run (h := h₁) (Q := fun vs h' => h' = h₁ ∧ vs = [.str k t, .ref pa]) (w_arg (w_ev (ev_fr F rfl rfl) fun v1 q1 => w_arg (w_ev (ev_fr F rfl rfl) fun v2 q2 => w_arg0 ⟨rfl, by rw [q1, q2]⟩))) _ (fun vs s' => vs = [.str k t, .ref pa] ∧ ∃ tk, s' = { s with heap := h₁, toks := tk }) rfl fun vs h' tk q => by obtain ⟨rfl, rfl⟩ := q; exact ⟨rfl, tk, rfl⟩) (fun vs s' q => ?_) fun _ _ f => f.elim
  obtain ⟨rfl, tk', rfl⟩ := q
  refine ⟨G.K, wpAny_call (makeBad_c (s := { s with heap := h₁, toks := tk' }) (base := base) (At.here H.K H.T B F rfl rfl) (B.push F) (hrd _) hk hkl hvl hpt fun h₂ e t2 vs' tk₂ Rz U => ?_)⟩
  refine caught_SO0 (KF := KK w.params) (C := 45) Rz F B U XB TB D KtsTurn.refl (by k_is) (by kernel_rfl) fun h₃ g' news₂ T F' N' _ _ K' X' P' D' => ?_
  refine wpAny_mono (W.run (h := h₃) (Q := fun fl h' => fl = .ret (.bool true) ∧ h' = h₃) (w_cons (w_ret (w_ev ev_bool fun v hv => ⟨by rw [hv], rfl⟩))) _ (fun fl s' => fl = .ret (.bool true) ∧ ∃ tk, s' = { s with heap := h₃, toks := tk }) rfl fun fl h' tk q => by obtain ⟨rfl, rfl⟩ := q; exact ⟨rfl, tk, rfl⟩) (fun fl s' q => ?_) fun _ _ f => f.elim
  obtain ⟨rfl, tk₃, rfl⟩ := q
  exact kk _ _ _ ⟨rfl, fun b o q nm => F'.keep _ _ (T.other b o q nm), fun b o q hm => by
    obtain ⟨sl, q'⟩ := T.frame b o q hm
    exact ⟨sl, F'.keep _ _ q'⟩⟩
end
end Mine

end

section
open PySem PySem.W PyProof.Rows PySem.Calls
set_option Elab.async false
set_option maxRecDepth 100000
set_option maxHeartbeats 400000
set_option linter.unusedVariables false
set_option pp.deepTerms false
set_option pp.deepTerms.threshold 5
set_option pp.maxSteps 4000
namespace Mine
def ixB (items : Array Value) (x : Value) (i : Nat) (_ : Option Fin × Unit) : Sem (ForInStep (Option Fin × Unit)) :=
  match items[i]? with
  | some y => do
    if ← eqBool y x then do
      let r ← retInt (i : Nat)
      pure (.done (some r, ()))
    else pure (.yield (none, ()))
  | _ => pure (.yield (none, ()))
theorem ix_loop {prog : Program} {w : World} {A : Around} {E : Value → Shared → Prop} {s : Shared} {items : Array Value} {x : Value} {e : Value → Bool} {Q : Option Fin × Unit → Shared → Prop} {j : Nat} (hj : j < items.size) (hit : e items[j] = true) (hno : ∀ m (hm : m < items.size), m < j → e items[m] = false)
    (he : ∀ y, y ∈ items → PySem.SeqAt.EqAt A s y x (e y)) (h : Q (some (.done (.ret (.int j s.toks))), ()) { s with toks := s.toks + 1 }) : ∀ k i, i + k = items.size → i ≤ j → wpAny (model prog w) A (forIn (List.range' i k) (none, ()) (ixB items x)) Q E s
  | 0, i, hk, hi => absurd hj (Nat.not_lt.mpr (hk ▸ hi))
  | k + 1, i, hk, hi => by
    have hlt : i < items.size := Nat.lt_of_le_of_lt hi hj
    rw [List.range'_succ, List.forIn_cons]
    refine wpAny_bind ?_
    unfold ixB
    rw [Array.getElem?_eq_getElem hlt]
    refine wpAny_bind (he _ (Array.getElem_mem hlt) prog w _ _ ?_)
    by_cases hij : i = j
    · subst hij
      rw [hit]
      simp only [if_true]
      unfold retInt
      refine wpAny_bind (wpAny_bind (wpAny_mkInt (wpAny_pure (wpAny_pure (wpAny_pure h)))))
    · have hlt' : i < j := Nat.lt_of_le_of_ne hi hij
      rw [hno i hlt hlt']
      simp only [Bool.false_eq_true, if_false]
      exact wpAny_pure (ix_loop hj hit hno he h k (i + 1) (by rw [Nat.add_right_comm]; exact hk) hlt')
theorem tuple_index (l : Addr) (items : Array Value) (n : Nat) (dd : Option Addr) (sl : Array (Option Value)) (x : Value) (e : Value → Bool) (j : Nat) (hj : j < items.size) (hit : e items[j] = true) (hno : ∀ m (hm : m < items.size), m < j → e items[m] = false) :
    Meets (Builtin.«tuple.index» ⟨[.ref l, x], []⟩)
      (fun A R s => s.heap.get? l = some { cls := .type "tuple", dict := dd, data := .seq items n, slots := sl } ∧ (∀ y, y ∈ items → PySem.SeqAt.EqAt A.in1 s y x (e y)) ∧ R (.ok (.ret (.int j s.toks))) { s with toks := s.toks + 1 }) := by
  intro prog w A R s h
  obtain ⟨hp, g, d, tk, os⟩ := s; obtain ⟨hl, he, h⟩ := h
  unfold Builtin.«tuple.index»
  simp only [Std.Legacy.Range.forIn_eq_forIn_range']
  wp_walk using AutoSeq1.wpAny_loadPart' hl
  show wpAny _ _ (forIn (List.range' 0 (Std.Legacy.Range.size [:min items.size items.size])) (none, ()) (ixB items x)) _ _ _
  have hz : Std.Legacy.Range.size [:min items.size items.size] = items.size := by simp [Std.Legacy.Range.size]
  rw [hz]
  refine ix_loop hj hit hno he ?_ items.size 0 (Nat.zero_add _) (Nat.zero_le _)
  exact wpAny_pure h
end Mine

end

section
open PySem PySem.W PyProof.Rows PySem.Calls
set_option Elab.async false
set_option maxRecDepth 100000
set_option maxHeartbeats 400000
set_option linter.unusedVariables false
set_option pp.deepTerms false
set_option pp.deepTerms.threshold 5
set_option pp.maxSteps 4000
namespace Mine
section
variable {prog : Program} {w : World} {p : Program} {loose : List Str} {mean : ExcName → Option Value} {mg mb : Str → Option Value} {A : Around} {env : Env} {g h h' : Heap} {L b : Addr} {m : Str → Option Value}
theorem InsAt.inst {x C : Addr} {fs : List (Str × Value)} (i : InsAt h.get? x C fs) : ∃ ox es n, InstAt h x ox C (some (dictOf es n)) ∧ FieldsAre fs es :=
  let ⟨dx, es, n, sl, a, c, d⟩ := i; ⟨_, es, n, ⟨a, rfl, rfl, c⟩, d⟩
theorem w_attr {e : Expr} {pos : Pos} {name : Str} {x C : Addr} {fs : List (Str × Value)} {v : Value} {Q : Value → Heap → Prop} (X : (KK w.params).In h) (y : Ev prog w A env e h (· = .ref x)) (i : InsAt h.get? x C fs) (hm : (name, v) ∈ fs) (hv : handedIn v = true)
    (hg : plainGet (KK w.params) C name = true) (hh : hasDictIn (KK w.params) C = true) (ha : findIn (KK w.params) (.ref C) name = some none) (k : Q v h)
    (he : eval (.Attribute e name pos) env = (do
      let o ← eval e env
      standAt pos.atName
      let r ← holding [o] (getAttr o name true)
      letTemporaryGo e o r
      pure r) := by with_unfolding_all rfl) : W prog w A (eval (.Attribute e name pos) env) h Q := W.mk fun s Qs hs kk => by
  subst hs
  refine Attribute_any_ (y.run s _ rfl fun o h' tk q => ?_) he
  obtain ⟨rfl, rfl⟩ := q
  obtain ⟨ox, es, n, I, hf⟩ := i.inst
  exact get_value (s := { s with toks := tk }) X I (plainGet_of hg).1 (findObj_own hh ha (by rfl) (hf.1 _ hm)) hv (kk _ _ _ k)
theorem ev_attr {e : Expr} {pos : Pos} {name : Str} {x C : Addr} {fs : List (Str × Value)} {v : Value} {P : Value → Prop} (X : (KK w.params).In h) (y : Ev prog w A env e h (· = .ref x)) (i : InsAt h.get? x C fs) (hm : (name, v) ∈ fs) (hv : handedIn v = true)
    (hg : plainGet (KK w.params) C name = true) (hh : hasDictIn (KK w.params) C = true) (ha : findIn (KK w.params) (.ref C) name = some none) (hp : P v)
    (he : eval (.Attribute e name pos) env = (do
      let o ← eval e env
      standAt pos.atName
      let r ← holding [o] (getAttr o name true)
      letTemporaryGo e o r
      pure r) := by with_unfolding_all rfl) : Ev prog w A env (.Attribute e name pos) h P := w_attr X y i hm hv hg hh ha ⟨rfl, hp⟩ he
theorem gm_inst {x C f : Addr} {name : Str} {fs : List (Str × Value)} {pl : Sem Bool} {Q : Value × List Value → Heap → Prop} (X : (KK w.params).In h) (i : InsAt h.get? x C fs) (hn : ∀ q ∈ fs, q.1 ≠ name) (hg : plainGet (KK w.params) C name = true)
    (hf : findIn (KK w.params) (.ref C) name = some (some (.ref f))) (ht : isFn (KK w.params) (.ref f) = true) (k : Q (.ref f, [.ref x]) h) : W prog w A (getMethod (.ref x) name pl) h Q := W.mk fun s Qs hs kk => by
  subst hs
  obtain ⟨ox, es, n, I, hfl⟩ := i.inst
  exact method_fn X I (plainGet_of hg).1 (plainGet_of hg).2 hf (beq_iff_eq.mp ht) (by show (lookIn name (dictOf es n)).map _ = _; rw [lookIn_dict, hfl.2 name hn]; rfl) (kk _ _ _ k)
theorem gm_tup {a : Addr} {items : Array Value} {name : Str} {id : String} {n : Nat} {sl : Array (Option Value)} {pl : Sem Bool} {Q : Value × List Value → Heap → Prop} (slot : Slot "tuple" name id) (hty : typeOf (.builtin id) = pure (.type "method_descriptor")) (ho : h.get? a = some ⟨.type "tuple", none, .seq items n, sl⟩) (k : Q (.builtin id, [.ref a]) h) : W prog w A (getMethod (.ref a) name pl) h Q := W.mk fun s Qs hs kk => by
  subst hs
  exact getMethod_builtin ⟨_, ho, rfl⟩ PySem.F.plainAttrs_tuple slot hty (fun a' e => by cases e; exact ⟨_, ho, rfl⟩) (kk _ _ _ k)
theorem gm_list {a : Addr} {items : Array Value} {name : Str} {id : String} {n : Nat} {sl : Array (Option Value)} {pl : Sem Bool} {Q : Value × List Value → Heap → Prop} (slot : Slot "list" name id) (hty : typeOf (.builtin id) = pure (.type "method_descriptor")) (ho : h.get? a = some ⟨.type "list", none, .seq items n, sl⟩) (k : Q (.builtin id, [.ref a]) h) : W prog w A (getMethod (.ref a) name pl) h Q := W.mk fun s Qs hs kk => by
  subst hs
  exact getMethod_builtin ⟨_, ho, rfl⟩ PySem.F.plainAttrs_list slot hty (fun a' e => by cases e; exact ⟨_, ho, rfl⟩) (kk _ _ _ k)
theorem w_index {a : Addr} {vs : List Value} {ns : List Str} {n : Nat} {sl : Array (Option Value)} {x : Str} {t : Tok} {i : Nat} {Q : Value → Heap → Prop} (ho : h.get? a = some ⟨.type "tuple", none, .seq vs.toArray n, sl⟩) (hs : StrsAre vs ns) (hn : ns.Nodup) (hi : ns[i]? = some x)
    (k : ∀ u, Q (.int i u) h) : W prog w A (call (.builtin "tuple.index") [.ref a, .str x t]) h Q := W.mk fun s Qs hs' kk => by
  subst hs'
  have hl := hs.length
  have hlt : i < ns.length := (List.getElem?_eq_some_iff.mp hi).1
  have hge : ns[i] = x := (List.getElem?_eq_some_iff.mp hi).2
  have at_ : ∀ {vs : List Value} {ns : List Str}, StrsAre vs ns → ∀ (j : Nat) (h1 : j < vs.length) (h2 : j < ns.length), isStrOf x vs[j] = (ns[j] == x) := by
    intro vs ns hs
    induction hs with
    | nil => intro j h1; exact absurd h1 (Nat.not_lt_zero _)
    | cons _ _ _ ih => intro j h1 h2; cases j with
      | zero => rfl
      | succ j => exact ih j (Nat.lt_of_succ_lt_succ h1) (Nat.lt_of_succ_lt_succ h2)
  refine call_meets PySem.F.slot_tuple_index ⟨_, ho, rfl⟩ PySem.F.entry_tuple_index (PySem.F.args_tuple_index_2 _ _) (tuple_index a vs.toArray n none sl (.str x t) (isStrOf x) i (by simpa [hl] using hlt) ?_ fun j hj hji => ?_) ⟨ho, fun y hy => (eq_isStrOf x t hs y (by simpa using hy)).at _ _, kk _ _ _ (k _)⟩
  · show isStrOf x vs[i] = true
    rw [at_ hs i (by omega) hlt, hge]; exact beq_self_eq_true x
  · have hjl : j < vs.length := by simpa using hj
    show isStrOf x vs[j] = false
    rw [at_ hs j hjl (by omega)]
    refine beq_eq_false_iff_ne.mpr fun e => ?_
    exact absurd ((List.getElem_inj hn).mp (e.trans hge.symm)) (Nat.ne_of_lt hji)
theorem w_subT {e₁ e₂ : Expr} {a : Addr} {vs : List Value} {i : Nat} {v : Value} {Q : Value → Heap → Prop} (hl : SeqAt h.get? a true vs) (hi : i < 1000) (hv : vs[i]? = some v) {u : Tok} (k : Q v h)
    (hs : ∀ o j, subscripted e₂ false o j = operate [o, j] (getItem o j) := by intro _ _; rfl) : W prog w A (subscriptTail e₁ e₂ (.ref a) (.int i u)) h Q := W.mk fun s Qs hh kk => by
  subst hh
  obtain ⟨o, n, q1, q2, q3⟩ := hl
  have ht : IsTup s.heap a vs.toArray := ⟨o, q1, q2, n, q3⟩
  have hj : seqIndex? (i : Int) vs.toArray.size = some i := by
    have := (List.getElem?_eq_some_iff.mp hv).1
    unfold seqIndex?
    have e : ¬ ((i : Int) < 0) := Int.not_lt.mpr (Int.natCast_nonneg i)
    simp only [if_neg e, List.size_toArray]
    rw [if_pos (by simp [this])]
    rfl
  exact tail_any ht.typeIs slot_tuple_getitem.lookup (getItem_tuple (j := i) ht (by omega) (by omega) hj (by simpa using hv) (kk _ _ s.toks k)) (hs _ _)
abbrev nodeFs (k : Str) (t : Tok) (pt : Addr) (line : Int) (u : Tok) : List (Str × Value) := [(st "kind", .str k t), (st "parts", .ref pt), (st "line", .int line u), (st "own", .none)]
theorem part_c {k nm : Str} {t tn u : Tok} {x pt : Addr} {line : Int} {vs : List Value} {ns : List Str} {i : Nat} {v : Value} (H : At w p loose mean mg mb A h) (hr : Room A 1) (ix : InsAt h.get? x 140 (nodeFs k t pt line u)) (hp : SeqAt h.get? pt true vs) (hk : KindIn (KK w.params) k ns) (hnd : ns.Nodup) (hz : vs.length ≤ 900) (hi : ns[i]? = some nm) (hv : vs[i]? = some v) :
    WC prog w A (.call (.ref 137) ⟨[.ref x, .str nm tn], []⟩) h fun r h' => r = v ∧ Ext h h' := by
  refine' wc_enter (binds := [(st "self", .ref x), (st "name", .str nm tn)]) (news := []) H (fun _ _ e => e) (Nat.le_refl _) (fun _ h => nomatch h) ?k6 ?k7 hr.room ?k9 ?kB ?_ ?c2 ?c3 ?c4 ?c5
  case k6 => k_is
  case k7 => k_is
  case k9 => exact fun _ _ => BindsTo.of_eq rfl
  case kB => exact locs rfl
  case c2 => exact rfl
  case c3 => exact rfl
  case c4 => exact rfl
  case c5 => decide
  intro L' h₁ base outer hA F N B₁ e₁ hL
  with_unfolding_all (change W _ _ _ (execs (_ :: _) (envOf _ (Scope.mk _ _ _ _ _) _ _ _)) _ _)
  have X₁ := H.K.keeps F.keep
  have G : Gl w p loose mean mg mb h₁ := Gl.ext ⟨H.K, H.T⟩ F.keep
  have i₁ := ix.mono F.keep
  obtain ⟨a, fvs, hk1, hk2, hk3⟩ := hk
  obtain ⟨n, sl, ho⟩ := hk3 h₁ X₁
  have hlt : i < vs.length := (List.getElem?_eq_some_iff.mp hv).1
  refine w_cons (w_ret (w_sub (w_ev (ev_attr X₁ (ev_fr F rfl rfl) i₁ (.tail _ (.head _)) rfl (by k_is) (by k_is) (by k_is) rfl) fun v1 h1 => w_meth (w_ev (ev_field X₁ (ev_glob G (by k_is)) (ev_attr X₁ (ev_fr F rfl rfl) i₁ (.head _) rfl (by k_is) (by k_is) (by k_is) ⟨_, rfl⟩) hk1 rfl) fun v2 h2 => ?_))))
  subst h1 h2
  refine gm_tup PySem.F.slot_tuple_index PySem.F.type_tuple_index ho (w_cwb (w_arg (w_ev (ev_fr F rfl rfl) fun v3 h3 => w_arg0 ?_)))
  subst h3
  exact w_index ho hk2 hnd hi fun u => w_subT (hp.mono F.keep) (Nat.lt_of_lt_of_le hlt (Nat.le_trans hz (by decide))) hv ⟨rfl, F.keep⟩
end
end Mine

end

section
open PySem PySem.W PyProof.Rows PySem.Calls
set_option Elab.async false
set_option maxRecDepth 100000
set_option maxHeartbeats 400000
set_option linter.unusedVariables false
set_option pp.deepTerms false
set_option pp.deepTerms.threshold 5
set_option pp.maxSteps 4000
namespace Mine
section
variable {prog : Program} {w : World} {A : Around} {env : Env} {g h h' : Heap} {L b : Addr} {m : Str → Option Value}
theorem turns_of {target : Expr} {I : Addr} {fp wr : List Addr} {n : Nat} {P : Nat → Value → Prop} {St : Nat → Heap → Prop} (W : Walks prog w A I fp wr n P St)
    (hgo : ∀ i v (s : Shared) (Q : Unit → Shared → Prop) (E : Value → Shared → Prop), St i s.heap → Q () s → wpAny (model prog w) A (letOwnedTupleGo target (.ref I) v) Q E s) :
    KTurns prog w A target I fp wr n (fun i v h => P i v ∧ St (i + 1) h) (fun i v h => P i v ∧ St (i + 1) h) St where
  sub := W.sub
  frame := W.frame
  item := fun i s Q E hi st hQ => W.item i s Q E hi st fun v h' tk hP st' hk => hQ v h' tk ⟨hP, st'⟩ hk
  go := fun i v s Q E hm hQ => hgo (i + 1) v s Q E hm.2 (hQ s.heap hm hm.2 fun _ _ _ e => e)
  done := W.done

structure ForP (prog : Program) (w : World) (A : Around) (env : Env) (target : Expr) (body : List Stmt) (Q : Flow → Heap → Prop) (g : Heap) (L : Addr) (Dx : Addr → Prop) (Inv : Nat → (Str → Option Value) → Lk → Prop) (vs : List Value) (h : Heap) : Prop where
  mono : ∀ i m l l', Le l l' → Inv i m l → Inv i m l'
  start : ∃ m, Fr g L h m ∧ Inv 0 m h.get?
  step : ∀ (i : Nat) (v : Value) (h₁ : Heap) (m : Str → Option Value) (I : Addr), vs[i]? = some v → Fr g L h₁ m → Inv i m (h₁.hide I).get? → h₁.get? I ≠ none → g.get? I = none → I ≠ L → ¬ Dx I → (∀ z o, z ≠ L → ¬ Dx z → h.get? z = some o → h₁.get? z = some o) →
    W prog w A (assign target env v) h₁ fun _ h₂ => W prog w A (execs body env) h₂ fun f h₃ => match f with
      | .next | .cont => (∃ m', Fr g L h₃ m' ∧ Inv (i + 1) m' (h₃.hide I).get?) ∧ ∀ z o, z ≠ L → ¬ Dx z → h₁.get? z = some o → h₃.get? z = some o
      | .brk => Q .next h₃
      | .ret v => Q (.ret v) h₃
  fin : ∀ (h' : Heap) (m : Str → Option Value), Fr g L h' m → Inv vs.length m h'.get? → (∀ z o, z ≠ L → ¬ Dx z → h.get? z = some o → h'.get? z = some o) → Q .next h'
theorem fr_butI {I : Addr} (F : Fr g L h m) (hg : g.get? I = none) (hL : I ≠ L) (k : ∀ y o, y ≠ I → h.get? y = some o → h'.get? y = some o) : Fr g L h' m :=
  ⟨F.ns.at' fun o q => k _ o (Ne.symm hL) q, fun b o q => k _ _ (fun r => by rw [r, hg] at q; cases q) (F.keep b o q), F.above⟩
theorem le_hide {I : Addr} (k : ∀ y o, y ≠ I → h.get? y = some o → h'.get? y = some o) : Le (h.hide I).get? (h'.hide I).get? := fun x o q => by
  by_cases hx : x = I
  · subst hx; rw [Heap.hide_self] at q; cases q
  · rw [Heap.hide_ne _ hx] at q ⊢; exact k _ _ hx q
theorem le_of_hide {I : Addr} : Le (h.hide I).get? h.get? := fun _ _ e => Heap.of_hide e
theorem for_core {target : Expr} {body : List Stmt} {Q : Flow → Heap → Prop} {Dx : Addr → Prop} {Inv : Nat → (Str → Option Value) → Lk → Prop} {vs : List Value} {I : Addr} {h₂ : Heap} {fp : List Addr} {P : Nat → Value → Prop} {St : Nat → Heap → Prop} (X : ForP prog w A env target body Q g L Dx Inv vs h)
    (Wk : Walks prog w A I fp [I] vs.length P St) (hgo : ∀ i v (s : Shared) (Q : Unit → Shared → Prop) (E : Value → Shared → Prop), St i s.heap → Q () s → wpAny (model prog w) A (letOwnedTupleGo target (.ref I) v) Q E s)
    (hP : ∀ i v, P i v → vs[i]? = some v) (hSt : ∀ i h, St i h → h.get? I ≠ none) (st : St 0 h₂) (e : Ext h h₂) (hI : h.get? I = none) (hfp : ∀ b ∈ fp, b = I ∨ (h.get? b ≠ none ∧ b ≠ L ∧ ¬ Dx b)) (hD : ¬ Dx I) : ForW prog w A env target body Q (.ref I) h₂ := by
  obtain ⟨m, F, i0⟩ := X.start
  have hIL : I ≠ L := fun r => by obtain ⟨o, _, _, q, _⟩ := F.ns; rw [← r, hI] at q; cases q
  have hIg : g.get? I = none := by
    cases c : g.get? I with
    | none => rfl
    | some o => rw [F.keep _ _ c] at hI; cases hI
  have ne : ∀ {y o}, h.get? y = some o → y ≠ I := fun q r => by rw [r, hI] at q; cases q
  refine ⟨I, fp, [I], vs.length, _, _, St, (fun z => z = L ∨ Dx z), fun i h' => (∃ m, Fr g L h' m ∧ Inv i m (h'.hide I).get?) ∧ ∀ z o, z ≠ L → ¬ Dx z → h.get? z = some o → h'.get? z = some o, rfl, turns_of Wk hgo, st, fun b hb => ?_, ?_, ⟨⟨m, F.keeps e, X.mono _ _ _ _ (fun x o q => ?_) i0⟩, fun z o _ _ q => e _ _ q⟩, ?_, ?_⟩
  · rcases hfp b hb with rfl | ⟨q, r, d⟩
    · exact fun z => z.elim hIL hD
    · exact fun z => z.elim r d
  · rintro i h₃ h₄ ⟨⟨m, F, q⟩, k⟩ hk
    have k' : ∀ y o, y ≠ I → h₃.get? y = some o → h₄.get? y = some o := fun y o hy => hk y o (by simpa using hy)
    exact ⟨⟨m, fr_butI F hIg hIL k', X.mono _ _ _ _ (le_hide k') q⟩, fun z o a c q => k' _ _ (ne q) (k z o a c q)⟩
  · exact (Heap.hide_ne _ (ne q)).trans (e _ _ q)
  · rintro i v h₁ hi ⟨hp, st'⟩ ⟨⟨m, F, q⟩, k⟩ _
    refine W.mono (X.step i v h₁ m I (hP i v hp) F q (hSt _ _ st') hIg hIL hD k) fun _ h₃ y => W.mono y fun f h₄ y => ?_
    cases f with
    | next => exact ⟨⟨y.1, fun z o a c q => y.2 z o a c (k z o a c q)⟩, fun z o hz q => y.2 z o (fun r => hz (.inl r)) (fun r => hz (.inr r)) q⟩
    | cont => exact ⟨⟨y.1, fun z o a c q => y.2 z o a c (k z o a c q)⟩, fun z o hz q => y.2 z o (fun r => hz (.inl r)) (fun r => hz (.inr r)) q⟩
    | brk => exact y
    | ret v => exact y
  · rintro h' ⟨⟨m, F, q⟩, k⟩ _
    exact X.fin h' m F (X.mono _ _ _ _ le_of_hide q) k
theorem w_forSE (hh : A.handled = none) {target iter : Expr} {body : List Stmt} {pos : Pos} {Q : Flow → Heap → Prop} {Dx : Addr → Prop} {Inv : Nat → (Str → Option Value) → Lk → Prop} {vs : List Value} {tup : Bool}
    (k : W prog w A (eval iter env) h fun xv h₁ => ∃ a, xv = .ref a ∧ SeqAt h₁.get? a tup vs ∧ a ≠ L ∧ ¬ Dx a ∧ (∀ z, Dx z → h₁.get? z ≠ none) ∧ ForP prog w A env target body Q g L Dx Inv vs h₁)
    (hs : ∀ x, foldedSetIterable iter env x = pure x := by intro _; rfl) : W prog w A (exec (.For target iter body [] pos) env) h Q := by
  refine w_for (W.mono k fun xv h₁ q => ?_) hs
  obtain ⟨a, rfl, ⟨o, n, q1, q2, q3⟩, haL, haD, hD, X⟩ := q
  have hlt : a < h₁.objs.size := Heap.lt_size q1
  have hDn : ¬ Dx h₁.objs.size := fun r => hD _ r (size_none h₁)
  have ea : h₁.get? a ≠ none := by rw [q1]; exact fun e => nomatch e
  cases tup with
  | false =>
    have hl : h₁.IsList a vs.toArray := ⟨o, q1, q2, n, q3⟩
    refine W.mk fun s Qs hs kk => wpAny_pyIter_list (by rw [hs]; exact hl) ?_
    subst hs
    have Wk := Walks.list (prog := prog) (w := w) hh s.heap.objs.size a (Nat.ne_of_lt hlt) vs.toArray
    rw [show vs.toArray.size = vs.length from by simp] at Wk
    refine kk _ _ s.toks (for_core X Wk (fun i v s Q E st q => letGo_listiter st.1 q) (fun i v q => by simpa using q) (fun i h st => ?_) ⟨⟨_, Heap.get?_push_size _ rfl, rfl, rfl⟩, hl.push _⟩ (fun _ _ e => Heap.get?_push_of_some _ e) (size_none _) (fun b hb => ?_) hDn)
    · obtain ⟨o, r, _⟩ := st.1; rw [r]; exact fun e => nomatch e
    · simp only [List.mem_cons, List.not_mem_nil, or_false] at hb
      rcases hb with rfl | rfl
      · exact .inl rfl
      · exact .inr ⟨ea, haL, haD⟩
  | true =>
    have hl : h₁.IsTuple a vs.toArray := ⟨o, q1, q2, n, q3⟩
    refine W.mk fun s Qs hs kk => wpAny_pyIter_tuple (by rw [hs]; exact hl) ?_
    subst hs
    have Wk := Walks.tuple (prog := prog) (w := w) hh s.heap.objs.size a (Nat.ne_of_lt hlt) vs.toArray
    rw [show vs.toArray.size = vs.length from by simp] at Wk
    refine kk _ _ s.toks (for_core X Wk (fun i v s Q E st q => letGo_tupleiter st.1 q) (fun i v q => by simpa using q) (fun i h st => ?_) ⟨⟨_, Heap.get?_push_size _ rfl, rfl, rfl⟩, hl.at fun o e => Heap.get?_push_of_some _ e⟩ (fun _ _ e => Heap.get?_push_of_some _ e) (size_none _) (fun b hb => ?_) hDn)
    · obtain ⟨o, r, _⟩ := st.1; rw [r]; exact fun e => nomatch e
    · simp only [List.mem_cons, List.not_mem_nil, or_false] at hb
      rcases hb with rfl | rfl
      · exact .inl rfl
      · exact .inr ⟨ea, haL, haD⟩
theorem w_forS (hh : A.handled = none) {target iter : Expr} {body : List Stmt} {pos : Pos} {Q : Flow → Heap → Prop} {Dx : Addr → Prop} {Inv : Nat → (Str → Option Value) → Lk → Prop} {vs : List Value} {a : Addr} {tup : Bool}
    (k : W prog w A (eval iter env) h fun xv h₁ => xv = .ref a ∧ SeqAt h₁.get? a tup vs ∧ a ≠ L ∧ ¬ Dx a ∧ (∀ z, Dx z → h₁.get? z ≠ none) ∧ ForP prog w A env target body Q g L Dx Inv vs h₁)
    (hs : ∀ x, foldedSetIterable iter env x = pure x := by intro _; rfl) : W prog w A (exec (.For target iter body [] pos) env) h Q :=
  w_forSE hh (W.mono k fun xv h₁ q => ⟨a, q⟩) hs
end
end Mine

end

section
open PySem PySem.W PyProof.Rows PySem.Calls
set_option Elab.async false
set_option maxRecDepth 100000
set_option maxHeartbeats 400000
set_option linter.unusedVariables false
set_option pp.deepTerms false
set_option pp.deepTerms.threshold 5
set_option pp.maxSteps 4000
namespace Mine
def PL (l : Lk) (a : Addr) (vs : List Value) : Prop := ∃ n, l a = some { cls := .type "list", data := .seq vs.toArray n }
theorem PL.mono {l l' : Lk} {a : Addr} {vs : List Value} (x : PL l a vs) (k : Le l l') : PL l' a vs := let ⟨n, e⟩ := x; ⟨n, k _ _ e⟩
theorem PL.lis {l : Lk} {a : Addr} {vs : List Value} (x : PL l a vs) : LIs l a vs := let ⟨n, e⟩ := x; ⟨_, e, rfl, n, rfl⟩
theorem PL.seq {l : Lk} {a : Addr} {vs : List Value} (x : PL l a vs) : SeqAt l a false vs := let ⟨n, e⟩ := x; ⟨_, n, e, rfl, rfl⟩
def vty : Value → Value
  | .none => .type "NoneType"
  | .bool _ => .type "bool"
  | .int .. => .type "int"
  | _ => .type "str"
def Tree.ty : Tree → Value
  | .atom v _ => vty v
  | .node .. => .ref 140
  | .list _ tup _ => .type (if tup then "tuple" else "list")
  | .params .. => .ref 172
def Tree.isNode : Tree → Bool | .node .. => true | _ => false
def Tree.isParams : Tree → Bool | .params .. => true | _ => false
def Tree.isSeq : Tree → Bool | .list .. => true | _ => false
def Tree.isBool : Tree → Bool | .atom (.bool _) _ => true | _ => false
section
variable {prog : Program} {w : World} {p : Program} {loose : List Str} {mean : ExcName → Option Value} {mg mb : Str → Option Value} {A : Around} {env : Env} {g h h' : Heap} {L b : Addr} {m : Str → Option Value}
theorem kit_own {x C : Addr} {fs : List (Str × Value)} (i : InsAt h.get? x C fs) (hg : plainGet (KK w.params) C "__class__" = true) (hdct : hasDictIn (KK w.params) C = true) (ha : findIn (KK w.params) (.ref C) "__class__" = some (some (.builtin "object.__class__")))
    (hm : mroIn (KK w.params) C (.type "object") = some true) : ∃ H, KitX (KK w.params) (.ref x) (.ref C) H ∧ H h := by
  obtain ⟨ox, es, n, I, _⟩ := i.inst
  exact ⟨_, kitx_own (ox := ox) (od := dictOf es n) hg hdct ha (by k_is) (by k_is) hm, I⟩
theorem kit_tree {t : Tree} (i : InT h.get? t) : ∃ H, KitX (KK w.params) t.val t.ty H ∧ H h := by
  cases t with
  | atom v d =>
    simp only [InT] at i
    cases i with
    | none => exact ⟨_, kitx_none, trivial⟩
    | bool b => exact ⟨_, kitx_bool, trivial⟩
    | int i t => exact ⟨_, kitx_int, trivial⟩
    | str x t => exact ⟨_, kitx_str, trivial⟩
  | node x k line pt ps =>
    simp only [InT] at i
    obtain ⟨⟨t, t', i⟩, _⟩ := i
    exact kit_own i (by k_is) (by k_is) (by k_is) (by k_is)
  | list a tup ps =>
    simp only [InT] at i
    obtain ⟨o, n, q1, q2, q3⟩ := i.1
    cases tup with
    | true => exact ⟨_, kitx_tuple, o, q1, q2⟩
    | false => exact ⟨_, kitx_list, o, q1, q2⟩
  | params x ps =>
    simp only [InT] at i
    obtain ⟨⟨a, b, c, d, e, _, i⟩, _⟩ := i
    exact kit_own i (by k_is) (by k_is) (by k_is) (by k_is)
theorem tree_notldr {t : Tree} (i : InT h.get? t) : t.val ≠ .builtin "__main__.__loader__#opaque" := by
  cases t with
  | atom v d =>
    simp only [InT] at i
    cases i <;> exact fun e => nomatch e
  | node => exact fun e => nomatch e
  | list => exact fun e => nomatch e
  | params => exact fun e => nomatch e
theorem ty_cases {l : Lk} {t : Tree} (i : InT l t) : t.ty = .type "NoneType" ∨ t.ty = .type "bool" ∨ t.ty = .type "int" ∨ t.ty = .type "str" ∨ t.ty = .type "list" ∨ t.ty = .type "tuple" ∨ t.ty = .ref 140 ∨ t.ty = .ref 172 := by
  cases t with
  | atom v d =>
    simp only [InT] at i
    cases i <;> simp only [Tree.ty, vty, true_or, or_true]
  | node => simp only [Tree.ty, true_or, or_true]
  | list a tup ps => cases tup <;> simp only [Tree.ty, Bool.false_eq_true, if_false, if_true, true_or, or_true]
  | params => simp only [Tree.ty, or_true]
theorem isN {l : Lk} {t : Tree} (i : InT l t) : kitOne (KK w.params) t.ty (.ref 140) = some (t.ty == .ref 140) := by rcases ty_cases i with e | e | e | e | e | e | e | e <;> rw [e] <;> kit_is
theorem isP {l : Lk} {t : Tree} (i : InT l t) : kitOne (KK w.params) t.ty (.ref 172) = some (t.ty == .ref 172) := by rcases ty_cases i with e | e | e | e | e | e | e | e <;> rw [e] <;> kit_is
theorem isB {l : Lk} {t : Tree} (i : InT l t) : kitOne (KK w.params) t.ty (.type "bool") = some (t.ty == .type "bool") := by rcases ty_cases i with e | e | e | e | e | e | e | e <;> rw [e] <;> kit_is
theorem isS {l : Lk} {t : Tree} (i : InT l t) : kitAny (KK w.params) t.ty [.type "list", .type "tuple"] = some (t.ty == .type "list" || t.ty == .type "tuple") := by rcases ty_cases i with e | e | e | e | e | e | e | e <;> rw [e] <;> kit_is
theorem tyN {l : Lk} {t : Tree} (i : InT l t) : (t.ty == .ref 140) = t.isNode := by
  cases t with
  | atom v d => simp only [InT] at i; cases i <;> rfl
  | list a tup ps => cases tup <;> rfl
  | _ => rfl
theorem tyP {l : Lk} {t : Tree} (i : InT l t) : (t.ty == .ref 172) = t.isParams := by
  cases t with
  | atom v d => simp only [InT] at i; cases i <;> rfl
  | list a tup ps => cases tup <;> rfl
  | _ => rfl
theorem tyS {l : Lk} {t : Tree} (i : InT l t) : (t.ty == .type "list" || t.ty == .type "tuple") = t.isSeq := by
  cases t with
  | atom v d => simp only [InT] at i; cases i <;> kernel_rfl
  | list a tup ps => cases tup <;> kernel_rfl
  | node => kernel_rfl
  | params => kernel_rfl
theorem tyB {l : Lk} {t : Tree} (i : InT l t) : (t.ty == .type "bool") = t.isBool := by
  cases t with
  | atom v d => simp only [InT] at i; cases i <;> kernel_rfl
  | list a tup ps => cases tup <;> kernel_rfl
  | node => kernel_rfl
  | params => kernel_rfl
theorem w_newtupO {vs : List Value} {Q : Value → Heap → Prop} (hsz : vs.length ≤ sizeLine) (k : ∀ h', h'.objs.size = h.objs.size + 1 → Ext h h' → h'.get? h.objs.size = some { cls := .type "tuple", data := .seq vs.toArray } → Q (.ref h.objs.size) h') : W prog w A (newTuple vs) h Q :=
  W.mk fun s Qs hh kk => by
    subst hh
    exact wpAny_newObj_type (kk _ _ s.toks (k _ (Heap.size_push _ _) (fun _ _ e => Heap.get?_push_of_some _ e) (Heap.get?_push_size _ rfl))) (by show vs.toArray.size ≤ sizeLine; rw [List.size_toArray]; exact hsz)
theorem w_newlistO {vs : List Value} {Q : Value → Heap → Prop} (hsz : vs.length ≤ sizeLine) (k : ∀ h', h'.objs.size = h.objs.size + 1 → Ext h h' → PL h'.get? h.objs.size vs → Q (.ref h.objs.size) h') : W prog w A (newList vs) h Q :=
  W.mk fun s Qs hh kk => by
    subst hh
    exact wpAny_newObj_type (kk _ _ s.toks (k _ (Heap.size_push _ _) (fun _ _ e => Heap.get?_push_of_some _ e) ⟨0, Heap.get?_push_size _ rfl⟩)) (by show vs.toArray.size ≤ sizeLine; rw [List.size_toArray]; exact hsz)
theorem ev_isi {fe e₁ e₂ : Expr} {pos : Pos} {t : Tree} {c : Value} {b : Bool} {P : Value → Prop} (X : (KK w.params).In h) (en : Ev prog w A env fe h (· = .builtin "isinstance")) (x : Ev prog w A env e₁ h (· = t.val)) (y : Ev prog w A env e₂ h (· = c)) (i : InT h.get? t) (hk : kitOne (KK w.params) t.ty c = some b) (hp : P (.bool b))
    (he : eval (.Call fe [e₁, e₂] [] pos) env = (do callWith pos (← eval fe env) [] (backTo pos (starEach [e₁, e₂] env)) (backToKw pos (keywordEach [] env))) := by rfl)
    (s₁ : starEach [e₁, e₂] env = (false, eval e₁ env) :: starEach [e₂] env := by rfl) (s₂ : starEach [e₂] env = (false, eval e₂ env) :: starEach [] env := by rfl)
    (h₁ : (backTo pos (starEach [e₂] env)).any (·.1) = false := by rfl) : Ev prog w A env (.Call fe [e₁, e₂] [] pos) h P :=
  w_callee en (w_cwb (w_arg (w_ev x fun v hv => w_arg (w_ev y fun v' hv' => w_arg0 (by
    subst hv hv'
    obtain ⟨H, Z, hH⟩ := kit_tree (w := w) i
    refine W.mk fun s Qs hs kk => ?_
    subst hs
    exact kia_one Z X hH hk (tree_notldr i) fun tk => kk _ _ tk ⟨rfl, hp⟩)) s₂) s₁) s₁ h₁) he
theorem ts_call {fe : Expr} {args : List Expr} {pos : Pos} {b : Bool} (x : Ev prog w A env (.Call fe args [] pos) h (· = .bool b)) (he : ∀ whole, isTrue (.Call fe args [] pos) env whole = (do let v ← whole; standAt (Expr.Call fe args [] pos).pos; holding [v] (truthy v)) := by intro _; rfl) : Ts prog w A env (.Call fe args [] pos) h (· = b) :=
  ts_ev x (fun v hv => by subst hv; exact W.still fun s _ _ k => wpAny_truthy_bool (k _ s.toks rfl)) he
theorem wt_isiS {fe e₁ e₂ e₃ : Expr} {kk : Nat} {pos pos' : Pos} {t : Tree} {Q : Bool → Heap → Prop} (G : Gl w p loose mean mg mb h) (en : Ev prog w A env fe h (· = .builtin "isinstance")) (x : Ev prog w A env e₁ h (· = t.val)) (y : Ev prog w A env e₂ h (· = .type "list")) (z : Ev prog w A env e₃ h (· = .type "tuple")) (i : InT h.get? t)
    (k : ∀ h', Ext h h' → h'.objs.size = h.objs.size + 1 → Q t.isSeq h')
    (he : eval (.Call fe [e₁, .Tuple [e₂, e₃] kk pos'] [] pos) env = (do callWith pos (← eval fe env) [] (backTo pos (starEach [e₁, .Tuple [e₂, e₃] kk pos'] env)) (backToKw pos (keywordEach [] env))) := by rfl)
    (s₁ : starEach [e₁, .Tuple [e₂, e₃] kk pos'] env = (false, eval e₁ env) :: starEach [.Tuple [e₂, e₃] kk pos'] env := by rfl) (s₂ : starEach [.Tuple [e₂, e₃] kk pos'] env = (false, eval (.Tuple [e₂, e₃] kk pos') env) :: starEach [] env := by rfl)
    (s₃ : starEach [e₂, e₃] env = (false, eval e₂ env) :: starEach [e₃] env := by rfl) (s₄ : starEach [e₃] env = (false, eval e₃ env) :: starEach [] env := by rfl)
    (h₁ : (backTo pos (starEach [.Tuple [e₂, e₃] kk pos'] env)).any (·.1) = false := by rfl)
    (he' : ∀ whole, isTrue (.Call fe [e₁, .Tuple [e₂, e₃] kk pos'] [] pos) env whole = (do let v ← whole; standAt (Expr.Call fe [e₁, .Tuple [e₂, e₃] kk pos'] [] pos).pos; holding [v] (truthy v)) := by intro _; rfl) :
    W prog w A (isTrue (.Call fe [e₁, .Tuple [e₂, e₃] kk pos'] [] pos) env (eval (.Call fe [e₁, .Tuple [e₂, e₃] kk pos'] [] pos) env)) h Q := by
  have key : W prog w A (eval (.Call fe [e₁, .Tuple [e₂, e₃] kk pos'] [] pos) env) h fun v h' => v = .bool t.isSeq ∧ Q t.isSeq h' := by
    refine w_callee en (w_cwb (w_arg (w_ev x fun v hv => w_arg (w_tup (w_arg (w_ev y fun v1 h1 => w_arg (w_ev z fun v2 h2 => w_arg0 ?_) s₄) s₃)) s₂) s₁) s₁ h₁) he
    subst hv h1 h2
    refine w_newtupO (by show 2 ≤ sizeLine; decide) fun h' hz e0 ho => w_arg0 ?_
    obtain ⟨H, Z, hH⟩ := kit_tree (w := w) (i.mono e0)
    refine W.mk fun s' Qs' hs' kk' => ?_
    subst hs'
    exact kia_tup (tp := h.objs.size) (dd := none) (n := 0) (sl := #[]) Z (G.K.keeps e0) hH ho (isS i) (tree_notldr i) fun tk => kk' _ _ tk ⟨by rw [tyS i], k _ e0 hz⟩
  exact W.mk fun s Qs hs kk => wpAny_isTrue_value (key.run s _ hs fun v h' tk q => by
    obtain ⟨rfl, q⟩ := q
    exact wpAny_truthy_bool (kk _ _ _ q)) (he' _)
end
end Mine

end

section
open PySem PySem.W PyProof.Rows PySem.Calls
set_option Elab.async false
set_option maxRecDepth 100000
set_option maxHeartbeats 400000
set_option linter.unusedVariables false
set_option pp.deepTerms false
set_option pp.deepTerms.threshold 5
set_option pp.maxSteps 4000
namespace Mine
namespace Tree
def snd? : Tree → Option Tree | .list _ _ [_, t] => some t | _ => none
def seconds : List Tree → List Tree | [_, .list _ _ os, _, _, _] => os.filterMap snd? | _ => []
mutual
def inner : Tree → List Tree
  | .atom .. => []
  | .node x k line pt ps => [.node x k line pt ps]
  | .list _ _ ps => inners ps
  | .params _ ps => seconds ps
def inners : List Tree → List Tree
  | [] => []
  | t :: ts => inner t ++ inners ts
end
theorem inners_append : ∀ (as bs : List Tree), inners (as ++ bs) = inners as ++ inners bs
  | [], bs => by simp only [inners, List.nil_append]
  | a :: as, bs => by simp only [List.cons_append, inners, inners_append as bs, List.append_assoc]
theorem inners_take {ts : List Tree} {i : Nat} {t : Tree} (h : ts[i]? = some t) : inners (ts.take (i + 1)) = inners (ts.take i) ++ t.inner := by
  rw [List.take_add_one, h, inners_append]
  simp only [Option.toList_some, inners, List.append_nil]
theorem plans_mem {t : Tree} : ∀ {ts : List Tree}, t ∈ ts → t.plan ∈ Tree.plans ts
  | _ :: _, h => by
    simp only [Tree.plans]
    cases h with
    | head => exact .head _
    | tail _ h => exact .tail _ (plans_mem h)
theorem plans_nil {ts : List Tree} (h : Tree.plans ts = []) : ts = [] := by cases ts with | nil => rfl | cons t ts => simp only [Tree.plans] at h; cases h
theorem plans_cons {ts : List Tree} {q : Plan} {r : List Plan} (h : Tree.plans ts = q :: r) : ∃ t ts', ts = t :: ts' ∧ t.plan = q ∧ Tree.plans ts' = r := by
  cases ts with
  | nil => simp only [Tree.plans] at h; cases h
  | cons t ts => simp only [Tree.plans, List.cons.injEq] at h; exact ⟨t, ts, rfl, h.1, h.2⟩
theorem atom_of {t : Tree} {d : PyData} (h : t.plan = .atom d) : ∃ v, t = .atom v d := by
  cases t <;> simp only [Tree.plan, Plan.atom.injEq, reduceCtorEq] at h
  exact ⟨_, by rw [h]⟩
theorem node_of {t : Tree} (h : t.plan.isNode = true) : t.isNode = true := by cases t <;> simp only [Tree.plan, Plan.isNode] at h <;> first | rfl | cases h
def Bare (t : Tree) : Prop := t.plan.isAtom = true ∨ (t.plan.isParams = true ∧ t.plan.nodes = 0)
def PairOf (t : Tree) : Prop := ∃ a tp v d nd, t = .list a tp [.atom v d, nd] ∧ nd.isNode = true
theorem params_shape {ps : List Tree} (h : Plan.PShape (Tree.plans ps)) : ∃ a0 u0 rs a1 u1 os v2 d2 a3 u3 qs v4 d4, ps = [.list a0 u0 rs, .list a1 u1 os, .atom v2 d2, .list a3 u3 qs, .atom v4 d4] ∧ (∀ t ∈ rs, Bare t) ∧ (∀ t ∈ qs, Bare t) ∧ ∀ t ∈ os, PairOf t := by
  obtain ⟨a, b, c, d, e, h, ha, hd, hb⟩ := h
  obtain ⟨t0, r, rfl, k0, h⟩ := plans_cons h
  obtain ⟨t1, r, rfl, k1, h⟩ := plans_cons h
  obtain ⟨t2, r, rfl, k2, h⟩ := plans_cons h
  obtain ⟨t3, r, rfl, k3, h⟩ := plans_cons h
  obtain ⟨t4, r, rfl, k4, h⟩ := plans_cons h
  obtain rfl := plans_nil h
  obtain ⟨a0, u0, rs, rfl, rfl⟩ := list_of_plan k0
  obtain ⟨a1, u1, os, rfl, rfl⟩ := list_of_plan k1
  obtain ⟨a3, u3, qs, rfl, rfl⟩ := list_of_plan k3
  obtain ⟨v2, rfl⟩ := atom_of k2
  obtain ⟨v4, rfl⟩ := atom_of k4
  refine ⟨a0, u0, rs, a1, u1, os, v2, c, a3, u3, qs, v4, e, rfl, fun t ht => ha _ (plans_mem ht), fun t ht => hd _ (plans_mem ht), fun t ht => ?_⟩
  obtain ⟨u, nd, hq, hn⟩ := hb _ (plans_mem ht)
  obtain ⟨x, tp, ts, rfl, h⟩ := list_of_plan hq
  obtain ⟨y, r, rfl, k5, h⟩ := plans_cons h
  obtain ⟨z, r, rfl, k6, h⟩ := plans_cons h
  obtain rfl := plans_nil h
  obtain ⟨v, rfl⟩ := atom_of k5
  exact ⟨x, tp, v, u, z, rfl, node_of (k6 ▸ hn)⟩
theorem pair_nodes {t : Tree} (h : PairOf t) : 1 ≤ t.plan.nodes := by
  obtain ⟨a, tp, v, d, nd, rfl, hn⟩ := h
  cases nd with
  | node => simp only [Tree.plan, Tree.plans, Plan.nodes, Plan.nodesAll]; omega
  | _ => cases hn
theorem nodes_mem {q : Plan} : ∀ {ps : List Plan}, q ∈ ps → q.nodes ≤ Plan.nodesAll ps
  | p :: ps, h => by
    simp only [Plan.nodesAll]
    cases h with
    | head => exact Nat.le_add_right _ _
    | tail _ h => exact Nat.le_trans (nodes_mem h) (Nat.le_add_left _ _)
theorem bare_nil {t : Tree} (ho : t.plan.Ok) (h : Bare t) : t.inner = [] := by
  cases t with
  | atom => simp only [inner]
  | node => rcases h with h | h <;> simp only [Tree.plan, Plan.isAtom, Plan.isParams, Bool.false_eq_true, false_and] at h
  | list => rcases h with h | h <;> simp only [Tree.plan, Plan.isAtom, Plan.isParams, Bool.false_eq_true, false_and] at h
  | params x ps =>
    simp only [Tree.plan, Plan.Ok] at ho
    have hn : Plan.nodesAll (Tree.plans ps) = 0 := by
      rcases h with h | h
      · simp only [Tree.plan, Plan.isAtom, Bool.false_eq_true] at h
      · simpa only [Tree.plan, Plan.nodes] using h.2
    obtain ⟨a0, u0, rs, a1, u1, os, v2, d2, a3, u3, qs, v4, d4, rfl, _, _, hb⟩ := params_shape ho.2
    simp only [inner, seconds]
    cases os with
    | nil => rfl
    | cons t os =>
      have h1 := pair_nodes (hb t (.head _))
      have h2 := nodes_mem (plans_mem (t := .list a1 u1 (t :: os)) (ts := [.list a0 u0 rs, .list a1 u1 (t :: os), .atom v2 d2, .list a3 u3 qs, .atom v4 d4]) (.tail _ (.head _)))
      simp only [Tree.plan, Tree.plans, Plan.nodes, Plan.nodesAll] at h2 hn
      omega
mutual
theorem inner_le : ∀ t : Tree, t.plan.Ok → t.inner.length ≤ t.plan.spots
  | .atom .., _ => by simp only [inner, List.length_nil]; exact Nat.zero_le _
  | .node x k line pt ps, _ => by simp only [inner, List.length_singleton, Tree.plan, Plan.spots]; exact Nat.le_add_left _ _
  | .list _ _ ps, h => by
    simp only [Tree.plan, Plan.Ok] at h
    simp only [inner, Tree.plan, Plan.spots]; exact Nat.le_succ_of_le (inners_le ps h)
  | .params _ ps, h => by
    simp only [Tree.plan, Plan.Ok] at h
    obtain ⟨a0, u0, rs, a1, u1, os, v2, d2, a3, u3, qs, v4, d4, rfl, _, _, hb⟩ := params_shape h.2
    simp only [inner, seconds]
    refine Nat.le_trans (List.length_filterMap_le _ _) ?_
    have := list_len (a := Tree.plans os) (ps := Tree.plans [.list a0 u0 rs, .list a1 u1 os, .atom v2 d2, .list a3 u3 qs, .atom v4 d4]) (by simp only [Tree.plans, Tree.plan]; exact .tail _ (.head _))
    rw [plans_len] at this
    simp only [Tree.plan, Plan.spots]
    exact Nat.le_succ_of_le this
theorem inners_le : ∀ ts : List Tree, Plan.OkAll (Tree.plans ts) → (inners ts).length ≤ Plan.spotsAll (Tree.plans ts)
  | [], _ => by simp only [inners, List.length_nil]; exact Nat.zero_le _
  | t :: ts, h => by
    simp only [Tree.plans, Plan.OkAll] at h
    simp only [inners, List.length_append, Tree.plans, Plan.spotsAll]; exact Nat.add_le_add (inner_le t h.1) (inners_le ts h.2)
end
theorem spotsAll_take : ∀ (ts : List Tree) (i : Nat), Plan.spotsAll (Tree.plans (ts.take i)) ≤ Plan.spotsAll (Tree.plans ts)
  | [], i => by simp
  | t :: ts, 0 => by simp [Tree.plans, Plan.spotsAll]
  | t :: ts, i + 1 => by simp only [List.take_succ_cons, Tree.plans, Plan.spotsAll]; exact Nat.add_le_add_left (spotsAll_take ts i) _
end Tree
section
variable {prog : Program} {w : World} {p : Program} {loose : List Str} {mean : ExcName → Option Value} {mg mb : Str → Option Value} {A : Around} {env : Env} {g h h' : Heap} {L b : Addr} {m : Str → Option Value}
theorem InTs.at {l : Lk} : ∀ {ts : List Tree} {i : Nat} {t : Tree}, InTs l ts → ts[i]? = some t → InT l t
  | t :: ts, 0, _, h, e => by simp only [InTs] at h; cases e; exact h.1
  | t :: ts, i + 1, _, h, e => by simp only [InTs] at h; exact InTs.at h.2 (by simpa using e)
theorem InTs.mem {l : Lk} {t : Tree} : ∀ {ts : List Tree}, InTs l ts → t ∈ ts → InT l t
  | _ :: ts, h, e => by
    simp only [InTs] at h
    cases e with
    | head => exact h.1
    | tail _ e => exact InTs.mem h.2 e
theorem OkAll.at {ts : List Tree} {t : Tree} (h : Plan.OkAll (Tree.plans ts)) (ht : t ∈ ts) : t.plan.Ok := Plan.OkAll.mem h _ (Tree.plans_mem ht)
theorem w_addlistO {a c : Addr} {vs ws : List Value} {Q : Value → Heap → Prop} (hl : h.IsList a vs.toArray) (hb : h.IsList c ws.toArray) (hsz : vs.length + ws.length ≤ sizeLine)
    (k : ∀ h', h'.objs.size = h.objs.size + 1 → Ext h h' → PL h'.get? h.objs.size (vs ++ ws) → Q (.ref h.objs.size) h') : W prog w A (binaryOp .Add (.ref a) (.ref c)) h Q := W.mk fun s Qs hh kk => by
  subst hh
  obtain ⟨⟨cls, dd, data, sl⟩, ho, hc, n, hd⟩ := id hl
  obtain ⟨⟨cls2, dd2, data2, sl2⟩, ho2, hc2, n2, hd2⟩ := id hb
  simp only at hc hd hc2 hd2
  subst hc hd hc2 hd2
  refine concat_meets ⟨_, ho, rfl⟩ ⟨_, ho2, rfl⟩ noFill_list_add seq_list_add PySem.F.slot_list_add PySem.F.entry_list_add (PySem.F.args_list_add_2 _ _) (list_addW a c vs.toArray ws.toArray n n2 dd dd2 sl sl2 (by simpa using hsz)) ⟨ho, ho2, ?_⟩
  rw [show vs.toArray ++ ws.toArray = (vs ++ ws).toArray from by simp]
  exact kk _ _ s.toks (k _ (Heap.size_push _ _) (fun _ _ e => Heap.get?_push_of_some _ e) ⟨_, Heap.get?_push_size _ rfl⟩)
theorem w_append {D : Addr} {vs : List Value} {v : Value} {Q : Value → Heap → Prop} (hl : PL h.get? D vs) (hsz : vs.length ≤ sizeLine) (k : ∀ h', PL h'.get? D (vs ++ [v]) → Heap.SameBut D h h' → Q .none h') : W prog w A (call (.builtin "list.append") [.ref D, v]) h Q := W.mk fun s Qs hh kk => by
  subst hh
  exact wpAny_list_append_plain (hsz := by simpa using hsz) (show s.heap.PlainList D vs.toArray from hl) fun h' a c => kk _ _ s.toks (k h' (by obtain ⟨n, e⟩ := a; exact ⟨n, by simpa using e⟩) c)
end
end Mine

end

section
open PySem PySem.W PyProof.Rows PySem.Calls
set_option Elab.async false
set_option maxRecDepth 100000
set_option maxHeartbeats 400000
set_option linter.unusedVariables false
set_option pp.deepTerms false
set_option pp.deepTerms.threshold 5
set_option pp.maxSteps 4000
namespace Mine
section
variable {prog : Program} {w : World} {p : Program} {loose : List Str} {mean : ExcName → Option Value} {mg mb : Str → Option Value} {A : Around} {env : Env} {g h h' : Heap} {L b : Addr} {m : Str → Option Value}
theorem w_unpackS {e₁ e₂ : Expr} {k : Nat} {pos : Pos} {t : Addr} {tup : Bool} {x₁ x₂ : Value} {Q : Unit → Heap → Prop} (hh : A.handled = none) (ht : SeqAt h.get? t tup [x₁, x₂])
    (y : ∀ h₁, Ext h h₁ → W prog w A (assign e₁ env x₁) h₁ fun _ h₂ => W prog w A (assign e₂ env x₂) h₂ Q)
    (he : assignEach [e₁, e₂] env = [(false, assign e₁ env), (false, assign e₂ env)] := by rfl) : W prog w A (assign (.Tuple [e₁, e₂] k pos) env (.ref t)) h Q := by
  obtain ⟨o, n, q1, q2, q3⟩ := ht
  cases tup with
  | true => exact w_unpack2 hh ⟨o, q1, q2, n, q3⟩ y he
  | false =>
    refine W.mk fun s Qs hs kk => ?_
    subst hs
    have hl : s.heap.IsList t #[x₁, x₂] := ⟨o, q1, q2, n, q3⟩
    rw [PyProof.Rows.assign_Tuple]
    refine wpAny_bind (wpAny_standAt ?_)
    unfold unpack
    rw [show (assignEach [e₁, e₂] env).length = (#[x₁, x₂] : Array Value).size from by rw [he]; rfl, show (assignEach [e₁, e₂] env).findIdx? (·.1) = none from by rw [he]; rfl]
    refine wpAny_bind (wpAny_holding (kun_itemsOf hh hl fun h' e => ?_))
    show wpAny _ _ (assignInOrder ((assignEach [e₁, e₂] env).map (·.2)) [x₁, x₂]) _ _ _
    rw [he]
    exact assignInOrder_cons ((y h' fun z o q => e z o (Nat.ne_of_lt (Heap.lt_size q)) q).run _ _ rfl fun _ h₂ tk q => assignInOrder_cons (q.run _ _ rfl fun _ h₃ tk q => assignInOrder_nil (kk _ _ _ q)))
variable (prog w p loose mean mg mb) in
def NodesC (R : Nat) (t : Tree) : Prop := ∀ (A : Around) (h : Heap), InT h.get? t → t.plan.Ok → t.plan.spots ≤ 1000000 → Room A R → At w p loose mean mg mb A h →
  WC prog w A (.call (.ref 190) ⟨[t.val], []⟩) h fun v h' => ∃ D, v = .ref D ∧ Ext h h' ∧ PL h'.get? D (t.inner.map Tree.val)
theorem none_of {a : Addr} (F : Fr g L h m) (n : h.get? a = none) : g.get? a = none ∧ a ≠ L := by
  refine ⟨?_, fun r => by obtain ⟨o, _, _, q, _⟩ := F.ns; rw [← r, n] at q; cases q⟩
  cases c : g.get? a with
  | none => rfl
  | some o => rw [F.keep _ _ c] at n; cases n
theorem seq_lt {a : Addr} {tup : Bool} {vs : List Value} (x : SeqAt h.get? a tup vs) : a < h.objs.size := let ⟨_, _, q, _⟩ := x; Heap.lt_size q
theorem PL.neL {D : Addr} {vs : List Value} (F : Fr g L h m) (x : PL h.get? D vs) : D ≠ L := fun r => by
  obtain ⟨n, q⟩ := x
  obtain ⟨o, _, _, q', c, _⟩ := F.ns
  rw [r, q'] at q
  cases q
  cases c
theorem InT.list {l : Lk} {a : Addr} {tup : Bool} {ps : List Tree} (i : InT l (.list a tup ps)) : SeqAt l a tup (ps.map Tree.val) := by simp only [InT] at i; exact i.1
theorem InT.listS {l : Lk} {a : Addr} {tup : Bool} {ps : List Tree} (i : InT l (.list a tup ps)) : InTs l ps := by simp only [InT] at i; exact i.2
theorem acc_w {x y f : Str} {px py pf p₁ p₂ p₃ pos : Pos} {D : Addr} {u : Value} {vs ws : List Value} {Q : Flow → Heap → Prop} (F : Fr g L h m) (G : Gl w p loose mean mg mb h) (hx : m x = some (.ref D)) (hy : m y = some u) (pl : PL h.get? D vs)
    (call : WC prog w A (.call (.ref 190) ⟨[u], []⟩) h fun v h' => ∃ D, v = .ref D ∧ Ext h h' ∧ PL h'.get? D ws) (hsz : vs.length + ws.length ≤ sizeLine)
    (hf : nsIn (KK w.params) mainGlobals f = some (some (.ref 190)))
    (k : ∀ h' D', Fr g L h' (fun z => if z = x then some (.ref D') else m z) → PL h'.get? D' (vs ++ ws) → (∀ z o, z ≠ L → h.get? z = some o → h'.get? z = some o) → h.get? D' = none → D' ≠ L → Q .next h')
    (hL : env.locals = L := by rfl) (hk : env.scope.kind = .function := by rfl) (hlx : env.kindOf x = some .local := by rfl) (hly : env.kindOf y = some .local := by rfl) (hlf : env.kindOf f = some .globalImplicit := by rfl) (hg : env.globals = mainGlobals := by rfl)
    (hdx : (x == ("__debug__" : Str)) = false := by decide) (hdy : (y == ("__debug__" : Str)) = false := by decide) (hdf : (f == ("__debug__" : Str)) = false := by decide)
    (hs : swapsWith (.BinOp (.Name x p₁) .Add (.Call (.Name f pf) [.Name y py] [] p₂) p₃) (some (.Name x px)) pos.line env = pure false := by rfl)
    (he : eval (.Call (.Name f pf) [.Name y py] [] p₂) env = (do callWith p₂ (← eval (.Name f pf) env) [] (backTo p₂ (starEach [.Name y py] env)) (backToKw p₂ (keywordEach [] env))) := by rfl)
    (he' : starEach [.Name y py] env = (false, eval (.Name y py) env) :: starEach [] env := by rfl) :
    W prog w A (exec (.Assign [.Name x px] (.BinOp (.Name x p₁) .Add (.Call (.Name f pf) [.Name y py] [] p₂) p₃) pos) env) h Q := by
  refine w_asg (w_bin (w_ev (ev_fr F hx rfl hL hk hlx hdx) fun v hv => w_callee (ev_glob G hf hg hk hlf hdf) (w_cw G (by k_is) (w_arg (w_ev (ev_fr F hy rfl hL hk hly hdy) fun v' hv' => w_arg0 ⟨fun _ _ e => e, ?_⟩) he') he') he)) hs
  subst hv hv'
  refine W.mono (WC.call call) fun v₂ h₂ q => ?_
  obtain ⟨D₂, rfl, e₂, p₂⟩ := q
  refine w_addlistO (pl.mono e₂).lis p₂.lis hsz fun h₃ z₃ e₃ p₃ => ?_
  have n₂ : h₂.get? h₂.objs.size = none := size_none _
  obtain ⟨n0, nL⟩ := none_of (F.keeps e₂) n₂
  refine w_st ((F.keeps e₂).keeps e₃) (fun h₄ F₄ s₄ => k h₄ _ F₄ ?_ (fun z o hz q => (s₄.2 z hz).trans (e₃ _ _ (e₂ _ _ q))) ?_ nL) hL hk hlx
  · obtain ⟨n, e⟩ := p₃
    exact ⟨n, (s₄.2 _ nL).trans e⟩
  · cases c : h.get? h₂.objs.size with
    | none => rfl
    | some o => rw [e₂ _ _ c] at n₂; cases n₂
theorem nodes_w {R : Nat} {t : Tree} (IH : ∀ u, u.plan.dep < t.plan.dep → NodesC prog w p loose mean mg mb R u) : NodesC prog w p loose mean mg mb (R + 1) t := by
  intro A h i ho hs hr H
  refine' wc_enter (binds := [(st "thing", t.val)]) (news := []) H (fun _ _ e => e) (Nat.le_refl _) (fun _ h => nomatch h) ?k6 ?k7 hr.room ?k9 ?kB ?_ ?c2 ?c3 ?c4 ?c5
  case k6 => k_is
  case k7 => k_is
  case k9 => exact fun _ _ => BindsTo.of_eq rfl
  case kB => exact locs rfl
  case c2 => exact rfl
  case c3 => exact rfl
  case c4 => exact rfl
  case c5 => decide
  intro L' h₁ base outer hA F N B₁ e₁ hL
  with_unfolding_all (change W _ _ _ (execs (_ :: _) (envOf _ (Scope.mk _ _ _ _ _) _ _ _)) _ _)
  have X₁ := H.K.keeps F.keep
  have G : Gl w p loose mean mg mb h₁ := Gl.ext ⟨H.K, H.T⟩ F.keep
  have i₁ := i.mono F.keep
  have hrd := fun e => hr.deeper e
  refine w_cons (w_if (ts_call (ev_isi X₁ (ev_boot G (by k_is) (v := .builtin "isinstance") rfl (by decide)) (ev_fr F rfl rfl) (ev_glob G (by k_is)) i₁ (isN i₁) rfl)) (fun hc => ?_) (fun hc => w_nil ?_))
  · rw [tyN i] at hc
    cases t with
    | node x k line pt ps =>
      refine w_cons (w_ret (w_list (w_arg (w_ev (ev_fr F rfl rfl) fun v hv => w_arg0 ?_))))
      subst hv
      exact w_newlistO (by show 1 ≤ sizeLine; decide) fun h₂ z₂ e₂ p₂ => ⟨_, rfl, fun z o q => e₂ _ _ (F.keep _ _ q), by simpa only [Tree.inner, List.map_cons, List.map_nil] using p₂⟩
    | _ => cases hc
  rw [tyN i] at hc
  have hNode : t.isNode = false := hc.symm
  refine w_cons (w_asg (w_list (w_arg0 (w_newlistO (by show 0 ≤ sizeLine; decide) fun h₂ z₂ e₂ p₂ => ?_))))
  obtain ⟨n0, nL⟩ := none_of F (size_none h₁)
  refine w_st (F.keeps e₂) fun h₃ F₃ s₃ => ?_
  have p₃ : PL h₃.get? h₁.objs.size [] := by obtain ⟨n, e⟩ := p₂; exact ⟨n, (s₃.2 _ nL).trans e⟩
  have G₃ : Gl w p loose mean mg mb h₃ := Gl.ext ⟨H.K, H.T⟩ F₃.keep
  have i₃ := i.mono F₃.keep
  generalize h₁.objs.size = D at *
  refine w_cons (w_if (ts_call (ev_isi G₃.K (ev_boot G₃ (by k_is) (v := .builtin "isinstance") rfl (by decide)) (ev_fr F₃ rfl rfl) (ev_glob G₃ (by k_is)) i₃ (isP i₃) rfl)) (fun hc => ?_) (fun hc => ?_))
  · rw [tyP i] at hc
    cases t with
    | atom => cases hc
    | node => cases hc
    | list => cases hc
    | params x ps =>
      have iP := i
      simp only [InT] at iP
      obtain ⟨⟨va, vb, vc, vd, ve, hv, iI⟩, ⟨b0, rs, b1, os, c, b3, qs, e, hp⟩, iS⟩ := iP
      simp only [Tree.plan, Plan.Ok] at ho
      obtain ⟨_, _, _, _, _, _, c', d', _, _, _, e', f', hp', ha, hd, hb⟩ := Tree.params_shape ho.2
      rw [hp] at hp'
      simp only [List.cons.injEq, Tree.list.injEq, and_true] at hp'
      obtain ⟨⟨rfl, rfl, rfl⟩, ⟨rfl, rfl, rfl⟩, rfl, ⟨rfl, rfl, rfl⟩, rfl⟩ := hp'
      subst hp
      simp only [List.map_cons, List.map_nil, Tree.val, List.cons.injEq, and_true] at hv
      obtain ⟨rfl, rfl, rfl, rfl, rfl⟩ := hv
      have iF := iI.mono F₃.keep
      simp only [InTs, InT, and_true] at iS
      obtain ⟨i0, i1, i2, i4, i5⟩ := iS
      have hpl : Tree.plans [.list b0 false rs, .list b1 false os, .atom c' d', .list b3 false qs, .atom e' f'] = [.list (Tree.plans rs), .list (Tree.plans os), .atom d', .list (Tree.plans qs), .atom f'] := by simp only [Tree.plans, Tree.plan]
      have hdep : (Tree.params x [.list b0 false rs, .list b1 false os, .atom c' d', .list b3 false qs, .atom e' f']).plan.dep = Plan.depAll [.list (Tree.plans rs), .list (Tree.plans os), .atom d', .list (Tree.plans qs), .atom f'] + 1 := by simp only [Tree.plan, Plan.dep, hpl]
      have hspo : (Tree.params x [.list b0 false rs, .list b1 false os, .atom c' d', .list b3 false qs, .atom e' f']).plan.spots = Plan.spotsAll [.list (Tree.plans rs), .list (Tree.plans os), .atom d', .list (Tree.plans qs), .atom f'] + 1 := by simp only [Tree.plan, Plan.spots, hpl]
      rw [hspo] at hs
      have ho1 := ho.1
      rw [hpl] at ho1
      simp only [Plan.OkAll, Plan.Ok] at ho1
      have hit : ∀ u ∈ rs ++ qs, Tree.Bare u ∧ InT h.get? u ∧ u.plan.Ok ∧ u.plan.spots ≤ 1000000 ∧ u.plan.dep < Plan.depAll [.list (Tree.plans rs), .list (Tree.plans os), .atom d', .list (Tree.plans qs), .atom f'] + 1 := by
        intro u hu
        have key : ∀ ts : List Tree, u ∈ ts → Plan.list (Tree.plans ts) ∈ [Plan.list (Tree.plans rs), .list (Tree.plans os), .atom d', .list (Tree.plans qs), .atom f'] → u.plan.spots ≤ 1000000 ∧ u.plan.dep < Plan.depAll [.list (Tree.plans rs), .list (Tree.plans os), .atom d', .list (Tree.plans qs), .atom f'] + 1 := fun ts hu hm => by
          have h1 := mem_dep hm
          have h2 := mem_spots hm
          have h3 := mem_dep (Tree.plans_mem hu)
          have h4 := mem_spots (Tree.plans_mem hu)
          simp only [Plan.dep] at h1
          simp only [Plan.spots] at h2
          exact ⟨by omega, by omega⟩
        rcases List.mem_append.mp hu with q | q
        · exact ⟨ha _ q, InTs.mem i0.2 q, OkAll.at ho1.1 q, key rs q (.head _)⟩
        · exact ⟨hd _ q, InTs.mem i4.2 q, OkAll.at ho1.2.2.2.1 q, key qs q (.tail _ (.tail _ (.tail _ (.head _))))⟩
      have hl0 : rs.length ≤ 1000000 := by have := list_len (a := Tree.plans rs) (ps := [.list (Tree.plans rs), .list (Tree.plans os), .atom d', .list (Tree.plans qs), .atom f']) (.head _); rw [plans_len] at this; omega
      have hl1 : os.length ≤ 1000000 := by have := list_len (a := Tree.plans os) (ps := [.list (Tree.plans rs), .list (Tree.plans os), .atom d', .list (Tree.plans qs), .atom f']) (.tail _ (.head _)); rw [plans_len] at this; omega
      have hl3 : qs.length ≤ 1000000 := by have := list_len (a := Tree.plans qs) (ps := [.list (Tree.plans rs), .list (Tree.plans os), .atom d', .list (Tree.plans qs), .atom f']) (.tail _ (.tail _ (.tail _ (.head _)))); rw [plans_len] at this; omega
      refine w_cons (w_forS (hrd _).1 (g := h) (L := L') (Dx := fun _ => False) (Inv := fun i m l => m (st "thing") = some (.ref x) ∧ ∃ D, m (st "found") = some (.ref D) ∧ PL l D [] ∧ h.get? D = none) (vs := (rs ++ qs).map Tree.val) (a := h₃.objs.size) (tup := false) (w_bin (w_ev (ev_attr G₃.K (ev_fr F₃ rfl rfl) iF (.head _) rfl (by k_is) (by k_is) (by k_is) rfl) fun v hv => w_ev (ev_attr G₃.K (ev_fr F₃ rfl rfl) iF (.tail _ (.tail _ (.tail _ (.head _)))) rfl (by k_is) (by k_is) (by k_is) rfl) fun v' hv' => ?_)))
      subst hv hv'
      have sLis : ∀ {l : Lk} {a : Addr} {vs : List Value}, SeqAt l a false vs → LIs l a vs := fun ⟨o, n, a, b, c⟩ => ⟨o, a, b, n, c⟩
      refine w_addlistO (sLis (i0.1.mono F₃.keep)) (sLis (i4.1.mono F₃.keep)) ?_ fun h₄ z₄ e₄ p₄ => ?_
      · have : 2000000 ≤ sizeLine := by decide
        rw [List.length_map, List.length_map]; omega
      rw [← List.map_append] at p₄
      obtain ⟨m0, mL⟩ := none_of F₃ (size_none h₃)
      have F₄ := F₃.keeps e₄
      refine ⟨rfl, p₄.seq, mL, id, fun _ q => q.elim, ?_, ?_, ?_, ?_⟩
      · exact fun i m l l' k ⟨y, D, a, c, d⟩ => ⟨y, D, a, c.mono k, d⟩
      · exact ⟨_, F₄, rfl, D, rfl, p₃.mono e₄, n0⟩
      · intro i' v h₅ m I hv F₅ inv hI hIg hIL _ keep
        obtain ⟨hth, D', q1, q2, q3⟩ := inv
        rw [List.getElem?_map, Option.map_eq_some_iff] at hv
        obtain ⟨u, hu, rfl⟩ := hv
        obtain ⟨u1, u2, u3, u4, u5⟩ := hit u (List.mem_of_getElem? hu)
        refine w_asgname (w_st F₅ fun h₆ F₆ s₆ => w_cons ?_)
        have G₆ : Gl w p loose mean mg mb h₆ := Gl.ext ⟨H.K, H.T⟩ F₆.keep
        have iu := u2.mono F₆.keep
        have D'L : D' ≠ L' := PL.neL F₅ (q2.mono le_of_hide)
        have q2' : PL h₆.get? D' [] := by obtain ⟨n', e⟩ := q2.mono le_of_hide; exact ⟨n', (s₆.2 _ D'L).trans e⟩
        have D'I : D' ≠ I := fun r => by obtain ⟨n', e⟩ := q2; rw [r, Heap.hide_self] at e; cases e
        refine w_if (ts_call (ev_isi G₆.K (ev_boot G₆ (by k_is) (v := .builtin "isinstance") rfl (by decide)) (ev_fr F₆ rfl rfl) (ev_glob G₆ (by k_is)) iu (isP iu) rfl)) (fun hc => w_cons ?_) (fun hc => w_nil (w_nil ⟨⟨_, F₆, hth, D', q1, ?_, q3⟩, fun z o hz _ q => (s₆.2 z hz).trans q⟩))
        · have cc := IH u (by rw [hdep]; exact u5)
          unfold NodesC at cc
          simp only [Tree.bare_nil u3 u1, List.map_nil] at cc
          refine acc_w F₆ G₆ q1 rfl q2' (cc _ _ iu u3 u4 (hrd _) (At.here H.K H.T B₁ F₆ rfl rfl)) (by show 0 ≤ sizeLine; decide) (by k_is) fun h₇ D'' F₇ p₇ k₇ n₇ nL₇ => w_nil (w_nil ⟨⟨_, F₇, hth, D'', rfl, ?_, (none_of F₆ n₇).1⟩, fun z o hz _ q => k₇ z o hz ((s₆.2 z hz).trans q)⟩)
          obtain ⟨n'', hD''⟩ := p₇
          exact ⟨n'', (Heap.hide_ne _ fun r => hI ((s₆.2 I hIL).symm.trans (by rw [← r]; exact n₇))).trans hD''⟩
        · obtain ⟨n', e⟩ := q2'
          exact ⟨n', (Heap.hide_ne _ D'I).trans e⟩
      · intro h₅ m F₅ inv keep
        obtain ⟨hth, D', q1, q2, q3⟩ := inv
        have G₅ : Gl w p loose mean mg mb h₅ := Gl.ext ⟨H.K, H.T⟩ F₅.keep
        have iF₅ := iI.mono F₅.keep
        have D'L : D' ≠ L' := PL.neL F₅ q2
        refine w_cons (w_forS (hrd _).1 (g := h) (L := L') (Dx := fun z => z = D') (Inv := fun i m l => m (st "found") = some (.ref D') ∧ PL l D' (((os.take i).filterMap Tree.snd?).map Tree.val)) (vs := os.map Tree.val) (a := b1) (tup := false) (w_ev (ev_attr G₅.K (ev_fr F₅ hth rfl) iF₅ (.tail _ (.head _)) rfl (by k_is) (by k_is) (by k_is) rfl) fun v hv => ⟨hv.symm, i1.1.mono F₅.keep, ?_, ?_, ?_, ?_, ?_, ?_, ?_⟩))
        · exact Nat.ne_of_lt (hL ▸ seq_lt i1.1)
        · rintro rfl; obtain ⟨o, _, q, _⟩ := i1.1; rw [q3] at q; cases q
        · rintro z rfl; obtain ⟨n, e⟩ := q2; rw [e]; exact fun e => nomatch e
        · exact fun i m l l' k ⟨a, c⟩ => ⟨a, c.mono k⟩
        · exact ⟨_, F₅, q1, by simpa only [List.take_zero, List.filterMap_nil, List.map_nil] using q2⟩
        · intro i' v h₆ m I hv F₆ inv hI hIg hIL hID keep
          obtain ⟨r1, r2⟩ := inv
          rw [List.getElem?_map, Option.map_eq_some_iff] at hv
          obtain ⟨u, hu, rfl⟩ := hv
          obtain ⟨a, tp, vu, du, nd, rfl, hn⟩ := hb u (List.mem_of_getElem? hu)
          have iu := InTs.at i1.2 hu
          refine w_unpackS (hrd _).1 (iu.list.mono F₆.keep) fun h₇ e₇ => w_asgname (w_st (F₆.keeps e₇) fun h₈ F₈ s₈ => w_asgname (w_st F₈ fun h₉ F₉ s₉ => w_cons ?_))
          have hD₉ : PL h₉.get? D' (((os.take i').filterMap Tree.snd?).map Tree.val) := by obtain ⟨n, e⟩ := r2.mono le_of_hide; exact ⟨n, (s₉.2 _ D'L).trans ((s₈.2 _ D'L).trans (e₇ _ _ e))⟩
          refine w_expr (w_meth (w_ev (ev_fr F₉ r1 rfl) fun v hv => ?_))
          subst hv
          obtain ⟨n₉, o₉⟩ := id hD₉
          refine gm_list PySem.F.slot_list_append PySem.F.type_list_append o₉ (w_cwb (w_arg (w_ev (ev_fr F₉ rfl rfl) fun v hv => w_arg0 ?_)))
          subst hv
          refine w_append hD₉ ?_ fun hA pA sA => w_nil ⟨⟨_, fr_butI F₉ q3 D'L fun y o hy q => (sA.2 y hy).trans q, r1, ?_⟩, fun z o hz hD q => (sA.2 z hD).trans ((s₉.2 z hz).trans ((s₈.2 z hz).trans (e₇ _ _ q)))⟩
          · have h1 := List.length_filterMap_le Tree.snd? (os.take i')
            have h2 := (List.take_sublist i' os).length_le
            have : 1000000 ≤ sizeLine := by decide
            rw [List.length_map]; omega
          · obtain ⟨n, e⟩ := pA
            refine ⟨n, (Heap.hide_ne _ fun r => hID r.symm).trans ?_⟩
            rw [List.take_add_one, hu, List.filterMap_append, List.map_append]
            exact e
        · intro hA m FA inv keep
          obtain ⟨r1, r2⟩ := inv
          refine w_nil (w_cons (w_ret (w_ev (ev_fr FA r1 rfl) fun v hv => ⟨D', hv.symm, FA.keep, ?_⟩)))
          rw [List.length_map, List.take_length] at r2
          simpa only [Tree.inner, Tree.seconds] using r2
  · rw [tyP i] at hc
    refine w_cons (w_ifW (wt_isiS G₃ (ev_boot G₃ (by k_is) (v := .builtin "isinstance") rfl (by decide)) (ev_fr F₃ rfl rfl) (ev_boot G₃ (by k_is) (v := .type "list") rfl (by decide)) (ev_boot G₃ (by k_is) (v := .type "tuple") rfl (by decide)) i₃ fun h₄ e₄ z₄ => ?_))
    have F₄ := F₃.keeps e₄
    have p₄ := p₃.mono e₄
    have G₄ := G₃.ext e₄
    cases t with
    | node => cases hNode
    | params => cases hc
    | atom v d =>
      refine w_nil (w_nil (w_cons (w_ret (w_ev (ev_fr F₄ rfl rfl) fun v hv => ⟨D, hv.symm, F₄.keep, ?_⟩))))
      simpa only [Tree.inner, List.map_nil] using p₄
    | list a tup ps =>
      have i₄ := i₃.mono e₄
      simp only [InT] at i₄
      simp only [Tree.plan, Plan.Ok] at ho
      simp only [Tree.plan, Plan.spots] at hs
      refine w_cons (w_forS (hrd _).1 (g := h) (L := L') (Dx := fun _ => False) (Inv := fun i m l => ∃ D, m (st "found") = some (.ref D) ∧ PL l D ((Tree.inners (ps.take i)).map Tree.val)) (vs := ps.map Tree.val) (a := a) (tup := tup) (w_ev (ev_fr F₄ rfl rfl) fun v hv => ⟨hv.symm, i₄.1, ?_, id, fun _ q => q.elim, ?_, ?_, ?_, ?_⟩))
      · exact Nat.ne_of_lt (hL ▸ seq_lt i.list)
      · exact fun i m l l' k ⟨D, a, c⟩ => ⟨D, a, c.mono k⟩
      · exact ⟨_, F₄, D, rfl, by simpa only [List.take_zero, Tree.inners, List.map_nil] using p₄⟩
      · intro i' v h₅ m I hv F₅ inv hI hIg hIL _ keep
        obtain ⟨D', q1, q2⟩ := inv
        rw [List.getElem?_map, Option.map_eq_some_iff] at hv
        obtain ⟨u, hu, rfl⟩ := hv
        have hm := List.mem_of_getElem? hu
        refine w_asgname (w_st F₅ fun h₆ F₆ s₆ => w_cons ?_)
        have iu := (InTs.mem i.listS hm).mono F₆.keep
        have q2' := q2.mono le_of_hide
        obtain ⟨n', hD'⟩ := id q2'
        have D'L : D' ≠ L' := PL.neL F₅ q2'
        have q3 : PL h₆.get? D' ((Tree.inners (ps.take i')).map Tree.val) := ⟨n', (s₆.2 _ D'L).trans hD'⟩
        refine acc_w F₆ (Gl.ext ⟨H.K, H.T⟩ F₆.keep) q1 rfl q3 (IH u ?_ _ _ iu (OkAll.at ho hm) ?_ (hrd _) (At.here H.K H.T B₁ F₆ rfl rfl)) ?_ (by k_is) fun h₇ D'' F₇ p₇ k₇ n₇ nL₇ => w_nil ⟨⟨_, F₇, D'', rfl, ?_⟩, ?_⟩
        · have := mem_dep (Tree.plans_mem hm)
          simp only [Tree.plan, Plan.dep]; omega
        · have := mem_spots (Tree.plans_mem hm)
          omega
        · have h1 : Tree.inners ps = Tree.inners (ps.take (i' + 1)) ++ Tree.inners (ps.drop (i' + 1)) := by rw [← Tree.inners_append, List.take_append_drop]
          have h2 := congrArg List.length h1
          rw [Tree.inners_take hu, List.length_append, List.length_append] at h2
          have h3 := Tree.inners_le ps ho
          have : 1000000 ≤ sizeLine := by decide
          rw [List.length_map, List.length_map]; omega
        · obtain ⟨n'', hD''⟩ := p₇
          rw [← List.map_append, ← Tree.inners_take hu] at hD''
          exact ⟨n'', (Heap.hide_ne _ fun r => hI ((s₆.2 I hIL).symm.trans (by rw [← r]; exact n₇))).trans hD''⟩
        · exact fun z o hz _ q => k₇ z o hz ((s₆.2 z hz).trans q)
      · intro h' m F' inv keep
        obtain ⟨D', q1, q2⟩ := inv
        refine w_nil (w_nil (w_cons (w_ret (w_ev (ev_fr F' q1 rfl) fun v hv => ⟨D', hv.symm, F'.keep, ?_⟩))))
        rw [List.length_map, List.take_length] at q2
        simpa only [Tree.inner] using q2
end
end Mine

end

section
open PySem PySem.W PyProof.Rows PySem.Calls
set_option Elab.async false
set_option maxRecDepth 100000
set_option maxHeartbeats 400000
set_option linter.unusedVariables false
set_option pp.deepTerms false
set_option pp.deepTerms.threshold 5
set_option pp.maxSteps 4000
namespace Mine
section
variable {prog : Program} {w : World} {p : Program} {loose : List Str} {mean : ExcName → Option Value} {mg mb : Str → Option Value} {A : Around} {env : Env} {g h h' : Heap} {L b : Addr} {m : Str → Option Value}
theorem w_while {test : Expr} {body : List Stmt} {pos : Pos} {Q : Flow → Heap → Prop} (J : Nat → Heap → Prop) (n₀ : Nat) (h0 : J n₀ h)
    (turn : ∀ n h₁, J n h₁ → W prog w A (isTrue test env (eval test env)) h₁ fun b h₂ => if b = true then W prog w A (execs body env) h₂ fun f h₃ => f = .next ∧ ∃ n', n' < n ∧ J n' h₃ else Q .next h₂) :
    W prog w A (exec (.While test body [] pos) env) h Q := W.mk fun s Qs hs kk => by
  refine wpAny_While (codeAny_whileLoop (fun n s' => ∃ h₁ tk₁, s' = { s with heap := h₁, toks := tk₁ } ∧ J n h₁) ?_ n₀ ⟨h, s.toks, by subst hs; rfl, h0⟩)
  rintro n s' ⟨h₁, tk₁, rfl, J₁⟩
  refine wpAny_mono ((turn n h₁ J₁).run _ (fun b s₂ => ∃ h₂ tk₂, s₂ = { s with heap := h₂, toks := tk₂ } ∧ if b = true then W prog w A (execs body env) h₂ fun f h₃ => f = .next ∧ ∃ n', n' < n ∧ J n' h₃ else Q .next h₂) rfl fun b h₂ tk₂ q => ⟨h₂, tk₂, rfl, q⟩) (fun b s₂ q => ?_) fun _ _ f => f.elim
  obtain ⟨h₂, tk₂, rfl, q⟩ := q
  cases b with
  | false =>
    simp only [Bool.false_eq_true, if_false] at q ⊢
    exact wpAny_execs_nil (kk _ _ _ q)
  | true =>
    simp only [if_true] at q ⊢
    refine wpAny_mono (q.run _ (fun f s₃ => f = .next ∧ ∃ n', n' < n ∧ ∃ h₃ tk₃, s₃ = { s with heap := h₃, toks := tk₃ } ∧ J n' h₃) rfl fun f h₃ tk₃ y => ⟨y.1, let ⟨n', a, c⟩ := y.2; ⟨n', a, h₃, tk₃, rfl, c⟩⟩) (fun f s₃ y => ?_) fun _ _ f => f.elim
    obtain ⟨rfl, n', a, h₃, tk₃, rfl, c⟩ := y
    exact ⟨n', a, h₃, tk₃, rfl, c⟩
theorem ts_list {e : Expr} {a : Addr} {vs : List Value} (x : Ev prog w A env e h (· = .ref a)) (hl : PL h.get? a vs) (hz : vs.length ≤ sizeLine)
    (he : ∀ whole, isTrue e env whole = (do let v ← whole; standAt e.pos; holding [v] (truthy v)) := by intro _; rfl) : Ts prog w A env e h (· = !vs.isEmpty) :=
  ts_ev x (fun v hv => by
    subst hv
    refine W.still fun s _ hs k => wpAny_truthy_list (by rw [hs]; exact hl.lis) ?_ (k _ _ ?_)
    · have : sizeLine < 2 ^ 63 := by decide
      simp only [List.size_toArray]; omega
    · cases vs <;> rfl) he
theorem w_pop {D : Addr} {vs : List Value} {v : Value} {Q : Value → Heap → Prop} (hl : PL h.get? D (vs ++ [v])) (hz : vs.length + 1 ≤ sizeLine) (k : ∀ h', PL h'.get? D vs → Heap.SameBut D h h' → Q v h') : W prog w A (call (.builtin "list.pop") [.ref D]) h Q := W.mk fun s Qs hs kk => by
  subst hs
  obtain ⟨n, e⟩ := hl
  refine Copied.pop_at e (y := v) (by simp) (fun h' hs he => kk _ _ s.toks (k h' ⟨n + 1, ?_⟩ hs)) (by simpa using hz)
  rw [he]
  simp
theorem mapSeq_app (its ys : Array Value) (n : Nat) : ∃ n', Obj.mapSeq (fun xs => xs ++ ys) { cls := .type "list", data := .seq its n } = { cls := .type "list", data := .seq (its ++ ys) n' } := by
  simp only [Obj.mapSeq]
  exact ⟨_, rfl⟩
theorem w_extend {D b : Addr} {vs ws : List Value} {Q : Value → Heap → Prop} (hl : PL h.get? D vs) (hb : PL h.get? b ws) (hz : vs.length + ws.length ≤ sizeLine) (k : ∀ h', PL h'.get? D (vs ++ ws) → Heap.SameBut D h h' → Q .none h') : W prog w A (call (.builtin "list.extend") [.ref D, .ref b]) h Q := W.mk fun s Qs hs kk => by
  subst hs
  obtain ⟨n, e⟩ := hl
  obtain ⟨n2, e2⟩ := hb
  have hlong : ¬ (!vs.toArray.isEmpty && Builtin.List.listTooLong (vs.toArray.size + ws.toArray.size)) = true := by
    have : Builtin.List.listTooLong (vs.toArray.size + ws.toArray.size) = false := by
      unfold Builtin.List.listTooLong
      simp only [List.size_toArray]
      exact decide_eq_false (by omega)
    rw [this, Bool.and_false]; exact Bool.false_ne_true
  obtain ⟨n', hm⟩ := mapSeq_app vs.toArray ws.toArray n
  refine call_meets PySem.F.slot_list_extend ⟨_, e, rfl⟩ PySem.F.entry_list_extend (PySem.F.args_list_extend_2 _ _) (PySem.AutoSeq1.list_extend_list_list_0 D vs.toArray n b ws.toArray n2 hlong (by simp only [List.size_toArray]; omega) (by simp only [List.size_toArray]; omega)) ⟨e, e2, kk _ _ s.toks (k _ ⟨n', ?_⟩ (Heap.SameBut.update ..))⟩
  rw [Heap.get?_update_self _ e (by rw [hm]; rfl), hm]
  simp
abbrev Pt (prog : Program) (w : World) (A : Around) (env : Env) (e : Option Expr) (h : Heap) (i : Option Int) : Prop := W prog w A (evalPart e env) h fun v h' => h' = h ∧ IsPart v i
theorem pt_none : Pt prog w A env none h none := W.pure ⟨rfl, .none⟩
theorem pt_some {e : Expr} {i : Int} (x : Ev prog w A env e h (IsI i)) : Pt prog w A env (some e) h (some i) := W.mono x fun v h' q => by obtain ⟨rfl, t, rfl⟩ := q; exact ⟨rfl, .int _ _⟩
theorem w_slc {e : Expr} {lower upper step : Option Expr} {p' pos : Pos} {a : Addr} {vs : List Value} {lo hi st : Option Int} {Q : Value → Heap → Prop} (x : Ev prog w A env e h (· = .ref a)) (pl : Pt prog w A env lower h lo) (pu : Pt prog w A env upper h hi) (ps : Pt prog w A env step h st)
    (hl : h.IsList a vs.toArray) (h0 : st ≠ some 0) (hz : vs.length ≤ sizeLine) (k : ∀ h', Ext h h' → PL h'.get? (h.objs.size + 1) (slicePick vs.toArray lo hi st).toList → Q (.ref (h.objs.size + 1)) h')
    {ops : List Value} (hs : subscripted (.Slice lower upper step p') false (.ref a) (.ref h.objs.size) = operate ops (getItem (.ref a) (.ref h.objs.size)) := by with_unfolding_all rfl) : W prog w A (eval (.Subscript e (.Slice lower upper step p') pos) env) h Q := by
  refine w_sub (w_ev x fun o ho => ?_)
  subst ho
  refine W.mk fun s Qs hh kk => wpAny_Slice ((w_ev pl fun vl hvl => ?_ : W prog w A (evalPart lower env) h fun vl h₁ => W prog w A (evalPart upper env) h₁ fun vu h₂ => W prog w A (evalPart step env) h₂ fun vk h₃ => h₃ = h ∧ IsPart vl lo ∧ IsPart vu hi ∧ IsPart vk st).run _ _ hh fun vl h₁ tk₁ q => q.run _ _ rfl fun vu h₂ tk₂ q => q.run _ _ rfl fun vk h₃ tk₃ q => ?_)
  · exact w_ev pu fun vu hvu => w_ev ps fun vk hvk => ⟨rfl, hvl, hvu, hvk⟩
  obtain ⟨rfl, i1, i2, i3⟩ := q
  refine kk _ _ _ (W.mk fun s' Qs' hs' kk' => ?_)
  have e1 : Ext h₃ s'.heap := fun z o q => by rw [hs']; exact Heap.get?_push_of_some _ q
  have hl' : s'.heap.IsList a vs.toArray := hl.at fun o q => e1 _ _ q
  refine tail_any hl'.typeIs list_getitem_lookup (wpAny_getItem_list_slice hl' (by rw [hs']; exact Heap.IsSliceOf.new ..) i1 i2 i3 h0 ?_ (by simpa using hz)) hs
  have hz' : s'.heap.objs.size = h₃.objs.size + 1 := by rw [hs', Heap.size_push]
  rw [hz']
  refine kk' _ _ s'.toks (k _ (fun z o q => Heap.get?_push_of_some _ (e1 _ _ q)) ⟨0, ?_⟩)
  rw [← hz', Heap.get?_push_size _ rfl]
end
end Mine

end

section
open PySem PySem.W PyProof.Rows PySem.Calls
set_option Elab.async false
set_option maxRecDepth 100000
set_option maxHeartbeats 400000
set_option linter.unusedVariables false
set_option pp.deepTerms false
set_option pp.deepTerms.threshold 5
set_option pp.maxSteps 4000
namespace Mine
namespace Tree
mutual
def pre : Tree → List Tree
  | .atom .. => []
  | .node x k line pt ps => .node x k line pt ps :: pres ps
  | .list _ _ ps => pres ps
  | .params _ ps => pres ps
def pres : List Tree → List Tree
  | [] => []
  | t :: ts => pre t ++ pres ts
end
theorem pres_append : ∀ (as bs : List Tree), pres (as ++ bs) = pres as ++ pres bs
  | [], bs => by simp only [pres, List.nil_append]
  | a :: as, bs => by simp only [List.cons_append, pres, pres_append as bs, List.append_assoc]
mutual
theorem pre_len : ∀ t : Tree, (pre t).length = t.plan.nodes
  | .atom .. => by simp only [pre, Tree.plan, Plan.nodes, List.length_nil]
  | .node x k line pt ps => by simp only [pre, Tree.plan, Plan.nodes, List.length_cons, pres_len ps]
  | .list _ _ ps => by simp only [pre, Tree.plan, Plan.nodes, pres_len ps]
  | .params _ ps => by simp only [pre, Tree.plan, Plan.nodes, pres_len ps]
theorem pres_len : ∀ ts : List Tree, (pres ts).length = Plan.nodesAll (Tree.plans ts)
  | [] => by simp only [pres, Tree.plans, Plan.nodesAll, List.length_nil]
  | t :: ts => by simp only [pres, Tree.plans, Plan.nodesAll, List.length_append, pre_len t, pres_len ts]
end
theorem bare_pre {t : Tree} (h : Bare t) : pre t = [] := by
  apply List.eq_nil_of_length_eq_zero
  rw [pre_len]
  rcases h with h | h
  · cases t <;> simp only [Tree.plan, Plan.isAtom, Bool.false_eq_true] at h
    simp only [Tree.plan, Plan.nodes]
  · exact h.2
theorem bares_pre : ∀ {ts : List Tree}, (∀ t ∈ ts, Bare t) → pres ts = []
  | [], _ => by simp only [pres]
  | t :: ts, h => by simp only [pres]; rw [bare_pre (h t (.head _)), bares_pre fun u hu => h u (.tail _ hu), List.nil_append]
theorem pairs_pre : ∀ {ts : List Tree}, (∀ t ∈ ts, PairOf t) → pres (ts.filterMap snd?) = pres ts
  | [], _ => by simp only [pres, List.filterMap_nil]
  | t :: ts, h => by
    obtain ⟨a, tp, v, d, nd, rfl, hn⟩ := h t (.head _)
    simp only [List.filterMap_cons, snd?, pres, pre, pairs_pre fun u hu => h u (.tail _ hu), List.nil_append, List.append_nil]
mutual
theorem inner_pre : ∀ t : Tree, t.plan.Ok → pres t.inner = pre t
  | .atom .., _ => by simp only [inner, pre, pres]
  | .node x k line pt ps, _ => by simp only [inner, pres, List.append_nil]
  | .list _ _ ps, h => by
    simp only [Tree.plan, Plan.Ok] at h
    simp only [inner, pre]; exact inners_pre ps h
  | .params _ ps, h => by
    simp only [Tree.plan, Plan.Ok] at h
    obtain ⟨a0, u0, rs, a1, u1, os, v2, d2, a3, u3, qs, v4, d4, rfl, ha, hd, hb⟩ := params_shape h.2
    simp only [inner, seconds, pre, pres, bares_pre ha, bares_pre hd, pairs_pre hb, List.append_nil, List.nil_append]
theorem inners_pre : ∀ ts : List Tree, Plan.OkAll (Tree.plans ts) → pres (inners ts) = pres ts
  | [], _ => by simp only [inners, pres]
  | t :: ts, h => by
    simp only [Tree.plans, Plan.OkAll] at h
    simp only [inners, pres_append, pres, inner_pre t h.1, inners_pre ts h.2]
end
mutual
theorem nodes_spots : ∀ t : Plan, t.nodes ≤ t.spots
  | .atom _ => by simp only [Plan.nodes, Plan.spots]; omega
  | .node _ ps => by simp only [Plan.nodes, Plan.spots]; exact Nat.succ_le_succ (nodes_spotsAll ps)
  | .list ps => by simp only [Plan.nodes, Plan.spots]; exact Nat.le_succ_of_le (nodes_spotsAll ps)
  | .params ps => by simp only [Plan.nodes, Plan.spots]; exact Nat.le_succ_of_le (nodes_spotsAll ps)
theorem nodes_spotsAll : ∀ ts : List Plan, Plan.nodesAll ts ≤ Plan.spotsAll ts
  | [] => by simp only [Plan.nodesAll, Plan.spotsAll]; exact Nat.le_refl _
  | t :: ts => by simp only [Plan.nodesAll, Plan.spotsAll]; exact Nat.add_le_add (nodes_spots t) (nodes_spotsAll ts)
end
structure Good (l : Lk) (d : Nat) (t : Tree) : Prop where
  «in» : InT l t
  node : t.isNode = true
  ok : t.plan.Ok
  spots : t.plan.spots ≤ 1000000
  dep : t.plan.dep ≤ d
theorem Good.mono {l l' : Lk} {d : Nat} {t : Tree} (x : Good l d t) (k : Le l l') : Good l' d t := ⟨x.in.mono k, x.node, x.ok, x.spots, x.dep⟩
mutual
theorem inner_good {l : Lk} {d : Nat} : ∀ t : Tree, InT l t → t.plan.Ok → t.plan.spots ≤ 1000000 → t.plan.dep ≤ d → ∀ u ∈ t.inner, Good l d u
  | .atom .., _, _, _, _ => by simp only [inner]; exact fun u hu => nomatch hu
  | .node x k line pt ps, i, o, s, e => by
    simp only [inner]
    intro u hu
    obtain rfl := List.mem_singleton.mp hu
    exact ⟨i, rfl, o, s, e⟩
  | .list _ _ ps, i, o, s, e => by
    simp only [InT] at i
    simp only [Tree.plan, Plan.Ok] at o
    simp only [Tree.plan, Plan.spots] at s
    simp only [Tree.plan, Plan.dep] at e
    simp only [inner]
    exact inners_good ps i.2 o (by omega) (by omega)
  | .params _ ps, i, o, s, e => by
    simp only [InT] at i
    simp only [Tree.plan, Plan.Ok] at o
    simp only [Tree.plan, Plan.spots] at s
    simp only [Tree.plan, Plan.dep] at e
    obtain ⟨a0, u0, rs, a1, u1, os, v2, d2, a3, u3, qs, v4, d4, rfl, ha, hd, hb⟩ := params_shape o.2
    simp only [inner, seconds]
    intro u hu
    obtain ⟨t, ht, hu⟩ := List.mem_filterMap.mp hu
    obtain ⟨a, tp, v, dd, nd, rfl, hn⟩ := hb t ht
    simp only [snd?, Option.some.injEq] at hu
    subst hu
    have i2 := i.2.2
    simp only [InTs, InT] at i2
    have i3 := InTs.mem i2.2.1.2 ht
    simp only [InT, InTs] at i3
    have o2 := o.1
    simp only [Tree.plans, Tree.plan, Plan.OkAll, Plan.Ok] at o2
    have o3 := OkAll.at o2.2.1 ht
    simp only [Tree.plans, Tree.plan, Plan.OkAll, Plan.Ok] at o3
    have m1 := mem_dep (Tree.plans_mem ht)
    have m2 := mem_spots (Tree.plans_mem ht)
    simp only [Tree.plans, Tree.plan, Plan.spots, Plan.spotsAll, Plan.dep, Plan.depAll] at m1 m2 s e
    exact ⟨i3.2.2.1, hn, o3.2.1, by omega, by omega⟩
theorem inners_good {l : Lk} {d : Nat} : ∀ ts : List Tree, InTs l ts → Plan.OkAll (Tree.plans ts) → Plan.spotsAll (Tree.plans ts) ≤ 1000000 → Plan.depAll (Tree.plans ts) ≤ d → ∀ u ∈ inners ts, Good l d u
  | [], _, _, _, _ => by simp only [inners]; exact fun u hu => nomatch hu
  | t :: ts, i, o, s, e => by
    simp only [InTs] at i
    simp only [Tree.plans, Plan.OkAll] at o
    simp only [Tree.plans, Plan.spotsAll] at s
    simp only [Tree.plans, Plan.depAll] at e
    simp only [inners]
    intro u hu
    rcases List.mem_append.mp hu with q | q
    · exact inner_good t i.1 o.1 (by omega) (by omega) u q
    · exact inners_good ts i.2 o.2 (by omega) (by omega) u q
end
end Tree
section
variable {prog : Program} {w : World} {p : Program} {loose : List Str} {mean : ExcName → Option Value} {mg mb : Str → Option Value} {A : Around} {env : Env} {g h h' : Heap} {L b : Addr} {m : Str → Option Value}
theorem nodes_all : ∀ d t, t.plan.dep ≤ d → NodesC prog w p loose mean mg mb d t
  | 0, t, hd => absurd (Nat.le_trans (dep_pos _) hd) (by decide)
  | d + 1, t, hd => nodes_w fun u hu => nodes_all d u (by omega)
end
end Mine

end

section
open PySem PySem.W PyProof.Rows PySem.Calls
set_option Elab.async false
set_option maxRecDepth 100000
set_option maxHeartbeats 400000
set_option linter.unusedVariables false
set_option pp.deepTerms false
set_option pp.deepTerms.threshold 5
set_option pp.maxSteps 4000
namespace Mine
section
variable {prog : Program} {w : World} {p : Program} {loose : List Str} {mean : ExcName → Option Value} {mg mb : Str → Option Value} {A : Around} {env : Env} {g h h' : Heap} {L b : Addr} {m : Str → Option Value}
theorem w_swap2 {e₁ e₂ : Expr} {x₁ x₂ : Str} {p₁ p₂ : Pos} {k k' : Nat} {tpos vpos pos : Pos} {Q : Flow → Heap → Prop} (hh : A.handled = none)
    (y : W prog w A (spliced (backTo vpos (starEach [e₁, e₂] env))) h fun vs h₁ => ∃ v₁ v₂, vs = [v₁, v₂] ∧ ∀ h₂, Ext h₁ h₂ → W prog w A (storeName env x₂ v₂) h₂ fun _ h₃ => W prog w A (storeName env x₁ v₁) h₃ fun _ h₄ => Q .next h₄)
    (hs : swapsWithSole [.Tuple [.Name x₁ p₁, .Name x₂ p₂] k tpos] (.Tuple [e₁, e₂] k' vpos) pos.line env = pure false := by rfl)
    (hw : swappedStores [.Tuple [.Name x₁ p₁, .Name x₂ p₂] k tpos] (.Tuple [e₁, e₂] k' vpos) env = pure (some [x₁, x₂]) := by rfl) :
    W prog w A (exec (.Assign [.Tuple [.Name x₁ p₁, .Name x₂ p₂] k tpos] (.Tuple [e₁, e₂] k' vpos) pos) env) h Q := W.mk fun s Qs hs' kk => by
  refine Assign_Tuple_swapped ?_ hs hw
  refine (w_tup (W.mono y fun vs h₁ q => ?_) : W prog w A (eval (.Tuple [e₁, e₂] k' vpos) env) h fun v h₁ => ∃ t v₁ v₂, v = .ref t ∧ IsTup h₁ t #[v₁, v₂] ∧ ∀ h₂, Ext h₁ h₂ → W prog w A (storeName env x₂ v₂) h₂ fun _ h₃ => W prog w A (storeName env x₁ v₁) h₃ fun _ h₄ => Q .next h₄).run _ _ hs' fun v h₁ tk q => ?_
  · obtain ⟨v₁, v₂, rfl, q⟩ := q
    exact w_newtupO (by show 2 ≤ sizeLine; decide) fun h₂ z₂ e₂ o₂ => ⟨_, v₁, v₂, rfl, ⟨_, o₂, rfl, _, rfl⟩, fun h₃ e₃ => q h₃ fun z o c => e₃ _ _ (e₂ _ _ c)⟩
  · obtain ⟨t, v₁, v₂, rfl, ht, q⟩ := q
    show wpAny _ _ (unpackItems (.ref t) (#[v₁, v₂] : Array Value).size none) _ _ _
    refine unpackItems_tuple hh ht fun h₂ e₂ => ?_
    show wpAny _ _ (assignInOrder [bindName env x₂, bindName env x₁] [v₂, v₁]) _ _ _
    exact assignInOrder_cons (bindName_ ((q h₂ fun z o c => e₂ z o (Nat.ne_of_lt (Heap.lt_size c)) c).run _ _ rfl fun _ h₃ tk q => assignInOrder_cons (bindName_ (q.run _ _ rfl fun _ h₄ tk q => assignInOrder_nil (kk _ _ _ q)))))
theorem slice_rev (vs : List Value) : (slicePick vs.toArray none none (some (-1))).toList = vs.reverse := by rw [krv_pick]
theorem isNode_node {t : Tree} (h : t.isNode = true) : ∃ x k line pt ps, t = .node x k line pt ps := by
  cases t <;> simp only [Tree.isNode, Bool.false_eq_true] at h
  exact ⟨_, _, _, _, _, rfl⟩
theorem Tree.pres_ge : ∀ ts : List Tree, (∀ u ∈ ts, u.isNode = true) → ts.length ≤ (Tree.pres ts).length
  | [], _ => Nat.zero_le _
  | t :: ts, h => by
    obtain ⟨x, k, line, pt, ps, rfl⟩ := isNode_node (h t (.head _))
    have := Tree.pres_ge ts fun u hu => h u (.tail _ hu)
    simp only [Tree.pres, Tree.pre, List.length_append, List.length_cons]; omega
theorem PL.but {D b : Addr} {vs : List Value} (x : PL h.get? D vs) (hD : D ≠ b) (s : Heap.SameBut b h h') : PL h'.get? D vs := let ⟨n, e⟩ := x; ⟨n, (s.2 _ hD).trans e⟩
theorem PL.turn {D I : Addr} {vs : List Value} (x : PL (h.hide I).get? D vs) (F : Fr g L h m) (k : ∀ z o, z ≠ L → h.get? z = some o → h'.get? z = some o) : PL (h'.hide I).get? D vs := by
  have dL := PL.neL F (x.mono le_of_hide)
  obtain ⟨n, e⟩ := x
  have dI : D ≠ I := fun r => by rw [r, Heap.hide_self] at e; cases e
  exact ⟨n, (Heap.hide_ne _ dI).trans (k _ _ dL ((Heap.hide_ne _ dI).symm.trans e))⟩
theorem walk_w {d : Nat} {t : Tree} (H : At w p loose mean mg mb A h) (hr : Room A (d + 1)) (gd : Tree.Good h.get? d t) :
    WC prog w A (.call (.ref 197) ⟨[t.val], []⟩) h fun v h' => ∃ D, v = .ref D ∧ Ext h h' ∧ PL h'.get? D (t.pre.map Tree.val) := by
  refine' wc_enter (binds := [(st "node", t.val)]) (news := []) H (fun _ _ e => e) (Nat.le_refl _) (fun _ h => nomatch h) ?k6 ?k7 hr.room ?k9 ?kB ?_ ?c2 ?c3 ?c4 ?c5
  case k6 => k_is
  case k7 => k_is
  case k9 => exact fun _ _ => BindsTo.of_eq rfl
  case kB => exact locs rfl
  case c2 => exact rfl
  case c3 => exact rfl
  case c4 => exact rfl
  case c5 => decide
  intro L' h₁ base outer hA F N B₁ e₁ hL
  with_unfolding_all (change W _ _ _ (execs (_ :: _) (envOf _ (Scope.mk _ _ _ _ _) _ _ _)) _ _)
  have G : Gl w p loose mean mg mb h₁ := Gl.ext ⟨H.K, H.T⟩ F.keep
  have hrd := fun e => hr.deeper e
  refine w_cons (w_swap2 (hrd _).1 (w_arg (w_list (w_arg0 (w_newlistO (by show 0 ≤ sizeLine; decide) fun h₂ z₂ e₂ p₂ => w_arg (w_list (w_arg (w_ev (ev_fr (F.keeps e₂) rfl rfl) fun v hv => w_arg0 (w_newlistO (by show 1 ≤ sizeLine; decide) fun h₃ z₃ e₃ p₃ => w_arg0 ⟨_, _, rfl, fun h₄ e₄ => ?_⟩)))))))))
  subst hv
  have F₄ := ((F.keeps e₂).keeps e₃).keeps e₄
  obtain ⟨a0, aL⟩ := none_of F (size_none h₁)
  obtain ⟨b0, bL⟩ := none_of (F.keeps e₂) (size_none h₂)
  have hab : h₁.objs.size ≠ h₂.objs.size := by rw [z₂]; exact Nat.ne_of_lt (Nat.lt_succ_self _)
  have p₄ := (p₂.mono e₃).mono e₄
  have p₄' := p₃.mono e₄
  generalize h₁.objs.size = Df at *
  generalize h₂.objs.size = Dw at *
  refine w_st F₄ fun h₅ F₅ s₅ => w_st F₅ fun h₆ F₆ s₆ => ?_
  have hnod := Tree.pre_len t
  have hsp := Tree.nodes_spots t.plan
  have hgs := gd.spots
  have hbig : 2000000 ≤ sizeLine := by decide
  refine w_cons (w_while (fun n h' => ∃ m Fs S, Fr h L' h' m ∧ m (st "found") = some (.ref Df) ∧ m (st "waiting") = some (.ref Dw) ∧ PL h'.get? Df (Fs.map Tree.val) ∧ PL h'.get? Dw (S.map Tree.val) ∧ Fs ++ Tree.pres S.reverse = t.pre ∧ (∀ u ∈ S, Tree.Good h.get? d u) ∧ n = (Tree.pres S.reverse).length) t.pre.length ⟨_, [], [t], F₆, rfl, rfl, ?_, ?_, ?_, ?_, ?_⟩ ?_)
  · obtain ⟨n, e⟩ := p₄; exact ⟨n, (s₆.2 _ aL).trans ((s₅.2 _ aL).trans e)⟩
  · obtain ⟨n, e⟩ := p₄'; exact ⟨n, (s₆.2 _ bL).trans ((s₅.2 _ bL).trans e)⟩
  · simp only [List.reverse_cons, List.reverse_nil, List.nil_append, Tree.pres, List.append_nil]
  · intro u hu; obtain rfl := List.mem_singleton.mp hu; exact gd
  · simp only [List.reverse_cons, List.reverse_nil, List.nil_append, Tree.pres, List.append_nil]
  clear s₅ s₆ F₅ F₆ F₄ p₄ p₄' e₃ p₃ e₄ p₂ e₂ z₂ z₃ h₅ h₆
  rintro n h₇ ⟨m, Fs, S, F₇, m1, m2, p1, p2, hpre, hgood, hn⟩
  have hlen := congrArg List.length hpre
  rw [List.length_append] at hlen
  have hSl : S.length ≤ (Tree.pres S.reverse).length := by
    have := Tree.pres_ge S.reverse fun u hu => (hgood u (List.mem_reverse.mp hu)).node
    rwa [List.length_reverse] at this
  refine w_ev (ts_list (ev_fr F₇ m2 rfl) p2 (by rw [List.length_map]; omega)) fun b hb => ?_
  subst hb
  cases hS : S.reverse with
  | nil =>
    have hS' : S = [] := List.reverse_eq_nil_iff.mp hS
    subst hS'
    simp only [List.reverse_nil, Tree.pres, List.append_nil] at hpre
    subst hpre
    exact w_cons (w_ret (w_ev (ev_fr F₇ m1 rfl) fun v hv => ⟨Df, hv.symm, F₇.keep, p1⟩))
  | cons u S' =>
    obtain rfl : S = S'.reverse ++ [u] := by rw [← List.reverse_reverse S, hS, List.reverse_cons]
    have hne : (!(List.map Tree.val (S'.reverse ++ [u])).isEmpty) = true := by simp
    rw [hne]
    simp only [if_true]
    have gu := hgood u (by simp)
    obtain ⟨x, k, line, pt, ps, rfl⟩ := isNode_node gu.node
    have iu := gu.in
    have ou := gu.ok
    have su := gu.spots
    have du := gu.dep
    simp only [InT] at iu
    simp only [Tree.plan, Plan.Ok] at ou
    simp only [Tree.plan, Plan.spots] at su
    simp only [Tree.plan, Plan.dep] at du
    obtain ⟨⟨tk, tl, iI⟩, iP, iS⟩ := iu
    rw [List.map_append, List.map_cons, List.map_nil] at p2
    have hrev : (S'.reverse ++ [Tree.node x k line pt ps]).reverse = Tree.node x k line pt ps :: S' := by simp
    rw [hrev] at hpre hn hlen hSl
    simp only [Tree.pres, Tree.pre, List.length_cons, List.length_append, List.cons_append, List.length_reverse, List.length_nil] at hpre hn hlen hSl
    have hin := Tree.inners_le ps ou.2
    have hip := Tree.inners_pre ps ou.2
    have F₇L : Df ≠ L' ∧ Dw ≠ L' := ⟨aL, bL⟩
    obtain ⟨nw, ow⟩ := id p2
    refine w_cons (w_asg (w_meth (w_ev (ev_fr F₇ m2 rfl) fun v hv => ?_)))
    subst hv
    refine gm_list PySem.F.slot_list_pop PySem.F.type_list_pop ow (w_cwb0 (w_pop p2 (by rw [List.length_map, List.length_reverse]; omega) fun h₈ q2 s₈ => ?_))
    have q1 : PL h₈.get? Df (Fs.map Tree.val) := by obtain ⟨n, e⟩ := p1; exact ⟨n, (s₈.2 _ hab).trans e⟩
    have F₈ := fr_butI F₇ b0 bL fun y o hy q => (s₈.2 y hy).trans q
    refine w_st F₈ fun h₉ F₉ s₉ => ?_
    replace q1 := q1.but aL s₉
    replace q2 := q2.but bL s₉
    obtain ⟨nf, of⟩ := id q1
    refine w_cons (w_expr (w_meth (w_ev (ev_fr F₉ m1 rfl) fun v hv => ?_)))
    subst hv
    refine gm_list PySem.F.slot_list_append PySem.F.type_list_append of (w_cwb (w_arg (w_ev (ev_fr F₉ rfl rfl) fun v hv => w_arg0 ?_)))
    subst hv
    refine w_append q1 (by rw [List.length_map]; omega) fun hA r1 sA => ?_
    have r2 := q2.but (Ne.symm hab) sA
    have FA := fr_butI F₉ a0 aL fun y o hy q => (sA.2 y hy).trans q
    refine w_cons (w_asg (w_list (w_arg0 (w_newlistO (by show 0 ≤ sizeLine; decide) fun hB zB eB pB => ?_))))
    obtain ⟨c0, cL⟩ := none_of FA (size_none hA)
    refine w_st (FA.keeps eB) fun hC FC sC => ?_
    have pC := pB.but cL sC
    have r1C := (r1.mono eB).but aL sC
    have r2C := (r2.mono eB).but bL sC
    have GC : Gl w p loose mean mg mb hC := Gl.ext ⟨H.K, H.T⟩ FC.keep
    refine w_cons (w_forS (hrd _).1 (g := h) (L := L') (Dx := fun _ => False) (Inv := fun i m l => m (st "found") = some (.ref Df) ∧ m (st "waiting") = some (.ref Dw) ∧ PL l Df (Fs.map Tree.val ++ [.ref x]) ∧ PL l Dw (S'.reverse.map Tree.val) ∧ ∃ D, m (st "within") = some (.ref D) ∧ PL l D ((Tree.inners (ps.take i)).map Tree.val)) (vs := ps.map Tree.val) (a := pt) (tup := true) (w_ev (ev_attr GC.K (ev_fr FC rfl rfl) (iI.mono FC.keep) (.tail _ (.head _)) rfl (by k_is) (by k_is) (by k_is) rfl) fun v hv => ⟨hv.symm, iP.mono FC.keep, Nat.ne_of_lt (hL ▸ seq_lt iP), id, fun _ q => q.elim, ?_, ?_, ?_, ?_⟩))
    · exact fun i m l l' k ⟨a, b, c, d, D, e, f⟩ => ⟨a, b, c.mono k, d.mono k, D, e, f.mono k⟩
    · exact ⟨_, FC, m1, m2, r1C, r2C, _, rfl, by simpa only [List.take_zero, Tree.inners, List.map_nil] using pC⟩
    · intro i' v hD m' I hv FD inv hI hIg hIL _ keep
      obtain ⟨n1, n2, t1, t2, D, n3, t3⟩ := inv
      rw [List.getElem?_map, Option.map_eq_some_iff] at hv
      obtain ⟨u, hu, rfl⟩ := hv
      have hm := List.mem_of_getElem? hu
      refine w_asgname (w_st FD fun hE FE sE => w_cons ?_)
      have iu := (InTs.mem iS hm).mono FE.keep
      have d1 := mem_dep (Tree.plans_mem hm)
      have d2 := mem_spots (Tree.plans_mem hm)
      refine acc_w FE (Gl.ext ⟨H.K, H.T⟩ FE.keep) n3 rfl ((t3.mono le_of_hide).but (PL.neL FD (t3.mono le_of_hide)) sE) (nodes_all d u (by omega) _ _ iu (OkAll.at ou.2 hm) (by omega) (hrd _) (At.here H.K H.T B₁ FE rfl rfl)) ?_ (by k_is) fun hF D' FF pF kF nF nL' => w_nil ⟨⟨_, FF, n1, n2, ?_, ?_, D', rfl, ?_⟩, ?_⟩
      · have h1 : Tree.inners ps = Tree.inners (ps.take (i' + 1)) ++ Tree.inners (ps.drop (i' + 1)) := by rw [← Tree.inners_append, List.take_append_drop]
        have h2 := congrArg List.length h1
        rw [Tree.inners_take hu, List.length_append, List.length_append] at h2
        rw [List.length_map, List.length_map]; omega
      · exact t1.turn FD fun z o hz q => kF z o hz ((sE.2 z hz).trans q)
      · exact t2.turn FD fun z o hz q => kF z o hz ((sE.2 z hz).trans q)
      · obtain ⟨n'', hD''⟩ := pF
        rw [← List.map_append, ← Tree.inners_take hu] at hD''
        exact ⟨n'', (Heap.hide_ne _ fun r => hI ((sE.2 I hIL).symm.trans (by rw [← r]; exact nF))).trans hD''⟩
      · exact fun z o hz _ q => kF z o hz ((sE.2 z hz).trans q)
    · intro hD m' FD inv keep
      obtain ⟨n1, n2, t1, t2, D, n3, t3⟩ := inv
      rw [List.length_map, List.take_length] at t3
      obtain ⟨nw', ow'⟩ := id t2
      refine w_cons (w_expr (w_meth (w_ev (ev_fr FD n2 rfl) fun v hv => ?_)))
      subst hv
      refine gm_list PySem.F.slot_list_extend PySem.F.type_list_extend ow' (w_cwb (w_arg (w_slc (ev_fr FD n3 rfl) pt_none pt_none (pt_some ev_neg1) t3.lis (by decide) (by rw [List.length_map]; omega) fun hE eE pE => w_arg0 ?_)))
      rw [slice_rev, ← List.map_reverse] at pE
      refine w_extend (t2.mono eE) pE (by rw [List.length_map, List.length_map, List.length_reverse, List.length_reverse]; omega) fun hF pF sF => ?_
      have FE := FD.keeps eE
      have FF := fr_butI FE b0 bL fun y o hy q => (sF.2 y hy).trans q
      refine w_nil ⟨rfl, n - 1, by omega, m', Fs ++ [.node x k line pt ps], S'.reverse ++ (Tree.inners ps).reverse, FF, n1, n2, ?_, ?_, ?_, ?_, ?_⟩
      · rw [List.map_append]; exact (t1.mono eE).but hab sF
      · rw [List.map_append]; exact pF
      · rw [List.reverse_append, List.reverse_reverse, List.reverse_reverse, Tree.pres_append, hip, List.append_assoc]; exact hpre
      · intro u hu
        rcases List.mem_append.mp hu with q | q
        · exact hgood u (List.mem_append_left _ q)
        · exact Tree.inners_good ps iS ou.2 (by omega) (by omega) u (List.mem_reverse.mp q)
      · rw [List.reverse_append, List.reverse_reverse, List.reverse_reverse, Tree.pres_append, hip, List.length_append]; omega
end
end Mine

end

section
open PySem PySem.W PyProof.Rows PySem.Calls
set_option Elab.async false
set_option maxRecDepth 100000
set_option maxHeartbeats 400000
set_option linter.unusedVariables false
set_option pp.deepTerms false
set_option pp.deepTerms.threshold 5
set_option pp.maxSteps 4000
namespace Mine
section
variable {prog : Program} {w : World} {A : Around} {E : Value → Shared → Prop} {s : Shared}
theorem tupNext {it l : Addr} {i : Nat} {items} {Q : Fin → Shared → Prop} {o : Obj} (ho : s.heap.get? it = some o) (hd : o.data = .fields #[.ref l, .int i 0]) (hl : s.heap.IsTuple l items)
    (k : wpAny (model prog w) A (match items[i]? with
      | some x => do setField (.ref it) 1 (rawInt ((i : Int) + 1)); ret x
      | none => do rule "tuple.iter.exhausted"; setField (.ref it) 0 .none; raiseNew (← newExc (.type "StopIteration") [])) Q E s) : wpAny (model prog w) A (Builtin.«tuple_iterator.__next__» ⟨[.ref it], []⟩) Q E s := by
  obtain ⟨ol, hol, _, nl, hdl⟩ := hl
  show wpAny _ _ (field (.ref it) 0 >>= _) _ _ s
  refine wpAny_bind (wpAny_field ho hd (x := .ref l) rfl ?_)
  show wpAny _ _ (if (Value.ref l == Value.none) = true then _ else _) _ _ s
  rw [if_neg (show ¬ ((Value.ref l == Value.none) = true) from Bool.false_ne_true)]
  show wpAny _ _ (field (.ref it) 1 >>= _) _ _ s
  refine wpAny_bind (wpAny_field ho hd (x := .int i 0) rfl ?_)
  show wpAny _ _ (seqItems? (.ref l) >>= _) _ _ s
  refine wpAny_bind (wpAny_seqItems hol hdl ?_)
  simp only [Int.toNat_natCast]
  cases hx : items[i]? with
  | some x => rw [hx] at k; exact k
  | none => rw [hx] at k; exact k
theorem nextOf_tup {it : Addr} {o : Obj} {Q : Value → Shared → Prop} (ho : s.heap.get? it = some o) (hc : o.cls = .type "tuple_iterator") (k : wpAny (model prog w) A.in1 (Builtin.«tuple_iterator.__next__» ⟨[.ref it], []⟩) (fun fin s' => ∃ v, fin = .done (.ret v) ∧ Q v s') E s) :
    wpAny (model prog w) A (Builtin.SmallTypes.nextOf (.ref it)) Q E s := by
  unfold Builtin.SmallTypes.nextOf
  refine wpAny_bind (wpAny_callSpecial?_slot (name := Str.ofString "__next__") ⟨o, ho, hc⟩ slot_tupleiter_next (wpAny_call_entry slot_tupleiter_next ⟨o, ho, hc⟩ entry_tupleiter_next ?_ (args_tupleiter_next _)))
  exact wpAny_mono k (fun fin s' q => let ⟨v, e, q⟩ := q; ⟨v, e, wpAny_pure q⟩) fun _ _ e => e
theorem draws_tuple (hh : A.handled = none) (it l : Addr) (hne : l ≠ it) (items : Array Value) :
    Draws prog w A it [it, l] items.size (fun i v => items[i]? = some v) (fun i h => h.IsTupleIter it l i ∧ h.IsTuple l items) where
  live := fun _ _ st => let ⟨o, ho, _⟩ := st.1; ⟨o, ho⟩
  frame := fun _ _ _ st hk => ⟨st.1.at fun o e => hk it (by simp) o e, st.2.at fun o e => hk l (by simp) o e⟩
  item := fun i s Q E hi st hQ => by
    obtain ⟨o, ho, hc, hd⟩ := id st.1
    refine nextOf_tup ho hc (tupNext ho hd st.2 ?_)
    rw [Array.getElem?_eq_getElem hi]
    refine wpAny_bind (wpAny_setField ho hd (by simp) (wpAny_pure ⟨_, rfl, hQ _ _ s.toks (Array.getElem?_eq_getElem hi) ⟨⟨_, Heap.get?_update_self _ ho (Obj.isFreed_of_fields (Obj.data_mapFields hd _)), (Obj.cls_mapFields ..).trans hc, ?_⟩, ?_⟩ (Heap.SameBut.update ..)⟩))
    · rw [Obj.data_mapFields hd]; simp [rawInt]
    · exact st.2.at fun o e => (Heap.SameBut.update ..).extBut _ _ hne e
  done := fun s Q E st hE => by
    obtain ⟨o, ho, hc, hd⟩ := id st.1
    refine nextOf_tup ho hc (tupNext ho hd st.2 ?_)
    rw [Array.getElem?_eq_none (Nat.le_refl _)]
    refine wpAny_bind (wpAny_rule (wpAny_bind (wpAny_setField ho hd (by simp) ?_)))
    show wpAny _ _ (newExc (.type "StopIteration") [] >>= _) _ _ _
    refine wpAny_bind ?_
    simp only [newExc, newTuple]
    refine wpAny_bind (wpAny_newObj_type ?_ (by size_fits))
    refine wpAny_bind (m := firstArgMember _ _) (wpAny_of_eq (a := Value.none) (by first | rfl | (simp only [firstArgMember]; rfl)) ?_)
    refine wpAny_newObj_type ?_ (by size_fits)
    simp only [raiseNew]
    refine wpAny_bind (wpAny_handled ?_)
    first | rw [show A.in1.handled = none from hh] | rw [hh]
    refine wpAny_bind (wpAny_pure (wpAny_throw ?_))
    exact hE _ _ (((Heap.SameBut.update ..).extBut.push _).push _) ⟨_, Heap.get?_push_size _ rfl, rfl⟩
theorem draws_seq (hh : A.handled = none) (it l : Addr) (hne : l ≠ it) (tup : Bool) (vs : List Value) :
    ∃ St, Draws prog w A it [it, l] vs.length (fun i v => vs[i]? = some v) St ∧ ∀ h : Heap, SeqAt h.get? l tup vs → (∃ o, h.get? it = some o ∧ o.cls = .type (if tup then "tuple_iterator" else "list_iterator") ∧ o.data = .fields #[.ref l, .int 0 0]) → St 0 h := by
  cases tup with
  | true =>
    have D := draws_tuple (prog := prog) (w := w) hh it l hne vs.toArray
    rw [List.size_toArray] at D
    simp only [List.getElem?_toArray] at D
    exact ⟨_, D, fun h ⟨o, n, a, b, c⟩ ⟨o', a', b', c'⟩ => ⟨⟨o', a', b', c'⟩, ⟨o, a, b, n, c⟩⟩⟩
  | false =>
    have D := Draws.list (prog := prog) (w := w) hh it l hne vs.toArray
    rw [List.size_toArray] at D
    simp only [List.getElem?_toArray] at D
    exact ⟨_, D, fun h ⟨o, n, a, b, c⟩ ⟨o', a', b', c'⟩ => ⟨⟨o', a', b', c'⟩, ⟨o, a, b, n, c⟩⟩⟩
structure ZAp (z TI TO i₁ i₂ : Addr) (f₁ f₂ : List Addr) : Prop where
  TIz : TI ≠ z
  TOz : TO ≠ z
  TITO : TI ≠ TO
  TI1 : TI ≠ i₁
  TI2 : TI ≠ i₂
  TO1 : TO ≠ i₁
  TO2 : TO ≠ i₂
  z1 : i₁ ≠ z
  z2 : i₂ ≠ z
  zf1 : z ∉ f₁
  zf2 : z ∉ f₂
  TOf1 : TO ∉ f₁
  TOf2 : TO ∉ f₂
  i2f1 : i₂ ∉ f₁
  i1f2 : i₁ ∉ f₂
def ZSt (z TI TO i₁ i₂ : Addr) (S₁ S₂ : Nat → Heap → Prop) (f0 : Value) (i : Nat) (h : Heap) : Prop := IsZip h z TI TO f0 ∧ IsPair h TI (.ref i₁) (.ref i₂) ∧ (∃ a b, IsPair h TO a b) ∧ S₁ i h ∧ S₂ i h
section
variable {z TI TO i₁ i₂ : Addr} {f₁ f₂ : List Addr} {n i : Nat} {P₁ P₂ : Nat → Value → Prop} {S₁ S₂ : Nat → Heap → Prop}
theorem sb {a b : Addr} {h h' : Heap} {o : Obj} (s : Heap.SameBut b h h') (hab : a ≠ b) (e : h.get? a = some o) : h'.get? a = some o := (s.2 a hab).trans e
theorem Draws.past {i : Nat} {it b : Addr} {fp : List Addr} {P : Nat → Value → Prop} {S : Nat → Heap → Prop} (D : Draws prog w A it fp n P S) {h h' : Heap} (st : S i h) (sm : Heap.SameBut b h h') (hb : b ∉ fp) : S i h' := D.frame i h h' st fun c hc o e => sb sm (fun r => hb (r ▸ hc)) e
theorem zipD_item {Q : Value → Shared → Prop} (Z : ZAp z TI TO i₁ i₂ f₁ f₂) (D₁ : Draws prog w A i₁ f₁ n P₁ S₁) (D₂ : Draws prog w A i₂ f₂ n P₂ S₂) (hi : i < n) (st : ZSt z TI TO i₁ i₂ S₁ S₂ .none i s.heap)
    (k : ∀ x y h' tk, P₁ i x → P₂ i y → ZSt z TI TO i₁ i₂ S₁ S₂ (rawInt s.heap.objs.size) (i + 1) h' → IsPair h' s.heap.objs.size x y → (∀ c o, c ≠ z → c ≠ TO → c ≠ i₁ → c ≠ i₂ → s.heap.get? c = some o → h'.get? c = some o) → Q (.ref s.heap.objs.size) { s with heap := h', toks := tk }) :
    wpAny (model prog w) A (Builtin.«zip.__next__» ⟨[.ref z], []⟩) (fun fin s' => ∃ v, fin = .done (.ret v) ∧ Q v s') E s := by
  obtain ⟨hz, hI, ⟨a, b, hO⟩, s1, s2⟩ := st
  show wpAny _ _ (field (.ref z) 2 >>= _) _ _ _
  refine wpAny_bind (wpAny_field hz rfl (x := .bool false) rfl ?_)
  show wpAny _ _ (field (.ref z) 3 >>= _) _ _ _
  refine wpAny_bind (wpAny_field hz rfl (x := .ref TI) rfl (wpAny_bind (wpAny_seqItems hI rfl ?_)))
  show wpAny _ _ (Builtin.SmallTypes.ownedTupleIsFree (.ref z) >>= _) _ _ _
  refine wpAny_bind ?_
  unfold Builtin.SmallTypes.ownedTupleIsFree
  refine wpAny_bind (wpAny_field hz rfl (x := .none) rfl (wpAny_pure ?_))
  simp only [if_true]
  refine wpAny_bind (wpAny_rule (wpAny_bind (wpAny_field hz rfl (x := .ref TO) rfl (wpAny_bind (wpAny_setField_rec hz (by simp) fun ha hza sa => ?_)))))
  refine wpAny_bind ?_
  simp only [List.zipIdx_cons, List.zipIdx_nil, List.forIn_cons, List.forIn_nil]
  refine wpAny_bind (wpAny_bind (wpAny_onRaise ?_))
  show wpAny _ _ (Builtin.SmallTypes.nextOf (.ref i₁) >>= _) _ _ _
  have hOa := sb sa Z.TOz hO
  refine wpAny_bind (D₁.item i _ _ _ hi (Draws.past D₁ s1 sa Z.zf1) fun x hb tb px s1b sb' => wpAny_pure ?_)
  have hOb := sb sb' Z.TO1 hOa
  refine wpAny_bind (wpAny_seqItems hOb rfl (wpAny_bind (wpAny_updateSeq_pair hOb fun hc hOc sc => ?_)))
  replace hOc : IsPair hc TO x b := hOc
  refine wpAny_bind (wpAny_letGo (wpAny_pure ?_))
  refine wpAny_bind (wpAny_bind (wpAny_onRaise ?_))
  show wpAny _ _ (Builtin.SmallTypes.nextOf (.ref i₂) >>= _) _ _ _
  refine wpAny_bind (D₂.item i _ _ _ hi (Draws.past D₂ (Draws.past D₂ (Draws.past D₂ s2 sa Z.zf2) sb' Z.i1f2) sc Z.TOf2) fun y hd td py s2d sd => wpAny_pure ?_)
  have hOd := sb sd Z.TO2 hOc
  refine wpAny_bind (wpAny_seqItems hOd rfl (wpAny_bind (wpAny_updateSeq_pair hOd fun he hOe se => ?_)))
  replace hOe : IsPair he TO x y := hOe
  refine wpAny_bind (wpAny_letGo (wpAny_pure (wpAny_pure ?_)))
  refine wpAny_bind (wpAny_seqItems hOe rfl (wpAny_bind (wpAny_newTuple ?_)))
  have hsz : he.objs.size = s.heap.objs.size := by rw [se.1, sd.1, sc.1, sb'.1, sa.1]
  have up : ∀ c o, c ≠ z → c ≠ TO → c ≠ i₁ → c ≠ i₂ → s.heap.get? c = some o → he.get? c = some o := fun c o c1 c2 c3 c4 e => sb se c2 (sb sd c4 (sb sc c2 (sb sb' c3 (sb sa c1 e))))
  have hze : IsZip he z TI TO .ellipsis := sb se (Ne.symm Z.TOz) (sb sd (Ne.symm Z.z2) (sb sc (Ne.symm Z.TOz) (sb sb' (Ne.symm Z.z1) hza)))
  show wpAny _ _ (Builtin.SmallTypes.ownedTupleHandOut (.ref z) (.ref he.objs.size) >>= _) _ _ _
  refine wpAny_bind ?_
  unfold Builtin.SmallTypes.ownedTupleHandOut
  have hzf : IsZip (he.push { cls := .type "tuple", data := .seq #[x, y] }) z TI TO .ellipsis := Heap.get?_push_of_some _ hze
  refine wpAny_bind (wpAny_setField_rec hzf (by simp) fun hg hzg sg => ?_)
  replace hzg : IsZip hg z TI TO (rawInt he.objs.size) := hzg
  refine wpAny_setField_rec hzg (by simp) fun hj hzj sj => wpAny_pure ⟨_, rfl, ?_⟩
  replace hzj : IsZip hj z TI TO (rawInt he.objs.size) := hzj
  have up2 : ∀ c o, c ≠ z → he.get? c = some o → hj.get? c = some o := fun c o c1 e => sb sj c1 (sb sg c1 (Heap.get?_push_of_some _ e))
  have hT : IsPair hj he.objs.size x y := sb sj (Nat.ne_of_gt (Heap.lt_size hze)) (sb sg (Nat.ne_of_gt (Heap.lt_size hze)) (Heap.get?_push_size _ rfl))
  rw [hsz] at hzj hT
  show Q (.ref he.objs.size) _
  rw [hsz]
  refine k x y hj _ px py ⟨hzj, up2 _ _ Z.TIz (up _ _ Z.TIz Z.TITO Z.TI1 Z.TI2 hI), ⟨x, y, up2 _ _ Z.TOz hOe⟩, ?_, ?_⟩ hT fun c o c1 c2 c3 c4 e => up2 _ _ c1 (up _ _ c1 c2 c3 c4 e)
  · exact D₁.frame _ _ _ (Draws.past D₁ (Draws.past D₁ (Draws.past D₁ s1b sc Z.TOf1) sd Z.i2f1) se Z.TOf1) fun c hc o e => up2 _ _ (fun r => Z.zf1 (r ▸ hc)) e
  · exact D₂.frame _ _ _ (Draws.past D₂ s2d se Z.TOf2) fun c hc o e => up2 _ _ (fun r => Z.zf2 (r ▸ hc)) e
theorem zipD_end {Q : Fin → Shared → Prop} (Z : ZAp z TI TO i₁ i₂ f₁ f₂) (D₁ : Draws prog w A i₁ f₁ n P₁ S₁) (st : ZSt z TI TO i₁ i₂ S₁ S₂ .none n s.heap)
    (hE : ∀ h' e, (∀ c o, c ≠ z → c ≠ TO → c ≠ i₁ → c ≠ i₂ → s.heap.get? c = some o → h'.get? c = some o) → (∃ o, h'.get? e = some o ∧ o.cls = .type "StopIteration") → E (.ref e) { s with heap := h' }) :
    wpAny (model prog w) A (Builtin.«zip.__next__» ⟨[.ref z], []⟩) Q E s := by
  obtain ⟨hz, hI, ⟨a, b, hO⟩, s1, s2⟩ := st
  show wpAny _ _ (field (.ref z) 2 >>= _) _ _ _
  refine wpAny_bind (wpAny_field hz rfl (x := .bool false) rfl ?_)
  show wpAny _ _ (field (.ref z) 3 >>= _) _ _ _
  refine wpAny_bind (wpAny_field hz rfl (x := .ref TI) rfl (wpAny_bind (wpAny_seqItems hI rfl ?_)))
  show wpAny _ _ (Builtin.SmallTypes.ownedTupleIsFree (.ref z) >>= _) _ _ _
  refine wpAny_bind ?_
  unfold Builtin.SmallTypes.ownedTupleIsFree
  refine wpAny_bind (wpAny_field hz rfl (x := .none) rfl (wpAny_pure ?_))
  simp only [if_true]
  refine wpAny_bind (wpAny_rule (wpAny_bind (wpAny_field hz rfl (x := .ref TO) rfl (wpAny_bind (wpAny_setField_rec hz (by simp) fun ha hza sa => ?_)))))
  replace hza : IsZip ha z TI TO .ellipsis := hza
  refine wpAny_bind ?_
  simp only [List.zipIdx_cons, List.zipIdx_nil, List.forIn_cons, List.forIn_nil]
  refine wpAny_bind (wpAny_bind (wpAny_onRaise ?_))
  show wpAny _ _ (Builtin.SmallTypes.nextOf (.ref i₁) >>= _) _ _ _
  refine wpAny_bind (D₁.done _ _ _ (Draws.past D₁ s1 sa Z.zf1) fun hb e kb ⟨oe, hoe, hce⟩ => ?_)
  have hzb : IsZip hb z TI TO .ellipsis := kb _ _ (Ne.symm Z.z1) hza
  have hez : e ≠ z := fun r => by rw [r, hzb] at hoe; cases hoe; simp at hce
  exact wpAny_setField_rec hzb (by simp) fun hc _ sc => hE hc e (fun c o c1 _ c3 _ q => sb sc c1 (kb _ _ c3 (sb sa c1 q))) ⟨oe, sb sc hez hoe, hce⟩
end
end
end Mine

end

section
open PySem PySem.W PyProof.Rows PySem.Calls
set_option Elab.async false
set_option maxRecDepth 100000
set_option maxHeartbeats 400000
set_option linter.unusedVariables false
set_option pp.deepTerms false
set_option pp.deepTerms.threshold 5
set_option pp.maxSteps 4000
namespace Mine
def itO (tup : Bool) (l : Addr) : Obj := { cls := .type (if tup then "tuple_iterator" else "list_iterator"), data := .fields #[.ref l, .int 0 0] }
abbrev zh1 (h : Heap) (l1 l2 : Addr) (t1 t2 : Bool) : Heap := h.push (itO t1 l1)
abbrev zh2 (h : Heap) (l1 l2 : Addr) (t1 t2 : Bool) : Heap := (zh1 h l1 l2 t1 t2).push (itO t2 l2)
abbrev zh3 (h : Heap) (l1 l2 : Addr) (t1 t2 : Bool) : Heap := (zh2 h l1 l2 t1 t2).push { cls := .type "tuple", data := .seq #[.ref h.objs.size, .ref (zh1 h l1 l2 t1 t2).objs.size] }
abbrev zh4 (h : Heap) (l1 l2 : Addr) (t1 t2 : Bool) : Heap := (zh3 h l1 l2 t1 t2).push { cls := .type "tuple", data := .seq #[.none, .none] }
abbrev zh5 (h : Heap) (l1 l2 : Addr) (t1 t2 : Bool) : Heap := (zh4 h l1 l2 t1 t2).push { cls := .type "zip", data := .fields #[.none, .bool false, .bool false, .ref (zh2 h l1 l2 t1 t2).objs.size, .ref (zh3 h l1 l2 t1 t2).objs.size] }
section
variable {prog : Program} {w : World} {A : Around} {E : Value → Shared → Prop} {s : Shared}
theorem pyIter_seq {l : Addr} {tup : Bool} {vs : List Value} {Q : Value → Shared → Prop} (hl : SeqAt s.heap.get? l tup vs) (hQ : Q (.ref s.heap.objs.size) { s with heap := s.heap.push (itO tup l) }) : wpAny (model prog w) A (pyIter (.ref l)) Q E s := by
  obtain ⟨o, n, a, b, c⟩ := hl
  cases tup with
  | true => exact wpAny_pyIter_tuple (items := vs.toArray) ⟨o, a, b, n, c⟩ hQ
  | false => exact wpAny_pyIter_list (items := vs.toArray) ⟨o, a, b, n, c⟩ hQ
theorem meets_zip_seq (l1 l2 : Addr) (t1 t2 : Bool) (xs ys : List Value) :
    Meets (Builtin.«zip.__new__» ⟨[.type "zip", .ref l1, .ref l2], []⟩) (fun _ R s => SeqAt s.heap.get? l1 t1 xs ∧ SeqAt s.heap.get? l2 t2 ys ∧ R (.ok (.ret (.ref (zh4 s.heap l1 l2 t1 t2).objs.size))) { s with heap := zh5 s.heap l1 l2 t1 t2 }) :=
  .of_wp fun prog w A R s h => by
    obtain ⟨hp, g, d, tk, os⟩ := s; obtain ⟨hl1, hl2, h⟩ := h
    have hsub := sub_zip
    have hL1 : SeqAt (Shared.heap ⟨hp, g, d, tk, os⟩).get? l1 t1 xs := hl1
    have hL2 : SeqAt (Shared.heap ⟨hp.push (itO t1 l1), g, d, tk, os⟩).get? l2 t2 ys := SeqAt.mono (fun _ _ e => Heap.get?_push_of_some _ e) hl2
    wp_walk using pyIter_seq hL1, pyIter_seq hL2
    exact ⟨_, rfl, h⟩
structure ZNew (h h' : Heap) (t1 : Bool) (l1 : Addr) (t2 : Bool) (l2 : Addr) : Prop where
  ext : Ext h h'
  zip : IsZip h' (h.objs.size + 4) (h.objs.size + 2) (h.objs.size + 3) .none
  inn : IsPair h' (h.objs.size + 2) (.ref h.objs.size) (.ref (h.objs.size + 1))
  out : IsPair h' (h.objs.size + 3) .none .none
  it1 : h'.get? h.objs.size = some (itO t1 l1)
  it2 : h'.get? (h.objs.size + 1) = some (itO t2 l2)
theorem call_zip {l1 l2 : Addr} {t1 t2 : Bool} {xs ys : List Value} {Q : Value → Shared → Prop} (hl1 : SeqAt s.heap.get? l1 t1 xs) (hl2 : SeqAt s.heap.get? l2 t2 ys)
    (k : ∀ h', ZNew s.heap h' t1 l1 t2 l2 → Q (.ref (s.heap.objs.size + 4)) { s with heap := h' }) : wpAny (model prog w) A (call (.type "zip") [.ref l1, .ref l2]) Q E s := by
  refine callType_new F.called_zip (by decide) (F.typeCall_zip_2 _ _) (F.newCall_zip_2 _ _) (fun obj => F.args_object_init_3 obj _ _) F.entry_zip_new (meets_zip_seq l1 l2 t1 t2 xs ys) ⟨hl1, hl2, ?_⟩
  have z1 : (zh1 s.heap l1 l2 t1 t2).objs.size = s.heap.objs.size + 1 := Heap.size_push ..
  have z2 : (zh2 s.heap l1 l2 t1 t2).objs.size = s.heap.objs.size + 2 := by rw [Heap.size_push, z1]
  have z3 : (zh3 s.heap l1 l2 t1 t2).objs.size = s.heap.objs.size + 3 := by rw [Heap.size_push, z2]
  have z4 : (zh4 s.heap l1 l2 t1 t2).objs.size = s.heap.objs.size + 4 := by rw [Heap.size_push, z3]
  have g5 : (zh5 s.heap l1 l2 t1 t2).get? (zh4 s.heap l1 l2 t1 t2).objs.size = some _ := Heap.get?_push_size _ rfl
  have g4 : (zh5 s.heap l1 l2 t1 t2).get? (zh3 s.heap l1 l2 t1 t2).objs.size = some _ := Heap.get?_push_of_some _ (Heap.get?_push_size _ rfl)
  have g3 : (zh5 s.heap l1 l2 t1 t2).get? (zh2 s.heap l1 l2 t1 t2).objs.size = some _ := Heap.get?_push_of_some _ (Heap.get?_push_of_some _ (Heap.get?_push_size _ rfl))
  have g2 : (zh5 s.heap l1 l2 t1 t2).get? (zh1 s.heap l1 l2 t1 t2).objs.size = some _ := Heap.get?_push_of_some _ (Heap.get?_push_of_some _ (Heap.get?_push_of_some _ (Heap.get?_push_size _ rfl)))
  have g1 : (zh5 s.heap l1 l2 t1 t2).get? s.heap.objs.size = some _ := Heap.get?_push_of_some _ (Heap.get?_push_of_some _ (Heap.get?_push_of_some _ (Heap.get?_push_of_some _ (Heap.get?_push_size _ rfl))))
  show _ ∧ _
  rw [z2, z3, z4] at g5
  rw [z1, z2] at g3
  rw [z3] at g4
  rw [z1] at g2
  rw [z4]
  exact ⟨⟨_, g5, rfl⟩, k _ ⟨fun c o x => Heap.get?_push_of_some _ (Heap.get?_push_of_some _ (Heap.get?_push_of_some _ (Heap.get?_push_of_some _ (Heap.get?_push_of_some _ x)))), g5, g3, g4, g1, g2⟩⟩
theorem turns_zip {elts : List Expr} {kk : Nat} {pos : Pos} {z TI TO i₁ i₂ : Addr} {f₁ f₂ : List Addr} {n : Nat} {P₁ P₂ : Nat → Value → Prop} {S₁ S₂ : Nat → Heap → Prop} (Z : ZAp z TI TO i₁ i₂ f₁ f₂) (D₁ : Draws prog w A.in1 i₁ f₁ n P₁ S₁) (D₂ : Draws prog w A.in1 i₂ f₂ n P₂ S₂) (m1 : i₁ ∈ f₁) (m2 : i₂ ∈ f₂) :
    KTurns prog w A (.Tuple elts kk pos) z (z :: TI :: TO :: (f₁ ++ f₂)) [z, TO, i₁, i₂] n (fun i v h => ∃ T x y, v = .ref T ∧ IsPair h T x y ∧ P₁ i x ∧ P₂ i y) (fun i v h => ∃ T x y, v = .ref T ∧ IsPair h T x y ∧ P₁ i x ∧ P₂ i y ∧ T ≠ z ∧ ZSt z TI TO i₁ i₂ S₁ S₂ (rawInt T) (i + 1) h) (ZSt z TI TO i₁ i₂ S₁ S₂ .none) where
  sub := by
    intro b hb
    simp only [List.mem_cons, List.not_mem_nil, or_false, List.mem_append] at hb ⊢
    rcases hb with rfl | rfl | rfl | rfl
    · exact .inl rfl
    · exact .inr (.inr (.inl rfl))
    · exact .inr (.inr (.inr (.inl m1)))
    · exact .inr (.inr (.inr (.inr m2)))
  frame := by
    rintro i h h' ⟨a, b, ⟨x, y, c⟩, d, e⟩ k
    refine ⟨k _ (.head _) _ a, k _ (.tail _ (.head _)) _ b, ⟨x, y, k _ (.tail _ (.tail _ (.head _))) _ c⟩, D₁.frame _ _ _ d fun b hb => k b (.tail _ (.tail _ (.tail _ (List.mem_append_left _ hb)))), D₂.frame _ _ _ e fun b hb => k b (.tail _ (.tail _ (.tail _ (List.mem_append_right _ hb))))⟩
  item := by
    intro i s Q E hi st hQ
    have hT : s.TypeIs (.ref z) "zip" := ⟨_, st.1, rfl⟩
    unfold pyNext
    refine wpAny_bind (wpAny_attempt (wpAny_callSpecial?_slot (name := Str.ofString "__next__") hT F.slot_zip_next (wpAny_call_entry F.slot_zip_next hT F.entry_zip_next (zipD_item Z D₁ D₂ hi st fun x y h' tk p1 p2 st' hp k => wpAny_pure (hQ _ h' tk ⟨_, x, y, rfl, hp, p1, p2, Nat.ne_of_gt (Heap.lt_size st.1), st'⟩ fun b o hb q => ?_)) (F.args_zip_next_1 _))))
    simp only [List.mem_cons, List.not_mem_nil, or_false, not_or] at hb
    exact k b o hb.1 hb.2.1 hb.2.2.1 hb.2.2.2 q
  go := by
    rintro i v s Q E ⟨T, x, y, rfl, hp, p1, p2, hT, a, b, ⟨c, d, e⟩, f, g⟩ hQ
    refine wpAny_letOwnedTupleGo_zip a fun h' hz' hs' => hQ h' ⟨T, x, y, rfl, sb hs' hT hp, p1, p2⟩ ⟨hz', sb hs' Z.TIz b, ⟨c, d, sb hs' Z.TOz e⟩, Draws.past D₁ f hs' Z.zf1, Draws.past D₂ g hs' Z.zf2⟩ fun b o hb q => sb hs' (fun r => hb (r ▸ .head _)) q
  done := by
    intro s Q E st hQ
    have hT : s.TypeIs (.ref z) "zip" := ⟨_, st.1, rfl⟩
    unfold pyNext
    refine wpAny_bind (wpAny_attempt (wpAny_callSpecial?_slot (name := Str.ofString "__next__") hT F.slot_zip_next (wpAny_call_entry F.slot_zip_next hT F.entry_zip_next (zipD_end Z D₁ st fun h' e k he => ?_) (F.args_zip_next_1 _))))
    obtain ⟨o, ho, hc⟩ := he
    refine wpAny_bind (wpAny_isInstance (T := "StopIteration") (b := true) ⟨o, ho, hc⟩ isSubtype_stop (wpAny_pure (hQ _ _ fun b o hb q => ?_)))
    simp only [List.mem_cons, List.not_mem_nil, or_false, not_or] at hb
    exact k b o hb.1 hb.2.1 hb.2.2.1 hb.2.2.2 q
end
end Mine

end

section
open PySem PySem.W PyProof.Rows PySem.Calls
set_option Elab.async false
set_option maxRecDepth 100000
set_option maxHeartbeats 400000
set_option linter.unusedVariables false
set_option pp.deepTerms false
set_option pp.deepTerms.threshold 5
set_option pp.maxSteps 4000
namespace Mine
section
variable {prog : Program} {w : World} {A : Around} {env : Env} {g h h' : Heap} {L b : Addr} {m : Str → Option Value}
theorem zap {n l1 l2 : Nat} (a1 : l1 < n) (a2 : l2 < n) : ZAp (n + 4) (n + 2) (n + 3) n (n + 1) [n, l1] [n + 1, l2] := by
  constructor <;> simp only [List.mem_cons, List.not_mem_nil, or_false, not_or, ne_eq] <;> first | (show ¬ (@Eq Nat _ _); omega) | exact ⟨(by show ¬ (@Eq Nat _ _); omega), (by show ¬ (@Eq Nat _ _); omega)⟩
theorem fr_new {S : List Addr} (F : Fr g L h m) (hs : ∀ b ∈ S, g.get? b = none ∧ b ≠ L) (k : ∀ y o, y ∉ S → h.get? y = some o → h'.get? y = some o) : Fr g L h' m :=
  ⟨F.ns.at' fun o q => k _ o (fun r => (hs _ r).2 rfl) q, fun b o q => k _ _ (fun r => by rw [(hs _ r).1] at q; cases q) (F.keep b o q), F.above⟩
structure ForZ (prog : Program) (w : World) (A : Around) (env : Env) (body : List Stmt) (Q : Flow → Heap → Prop) (g : Heap) (L : Addr) (Inv : Nat → Prop) (vs ws : List Value) (x₁ x₂ : Str) : Prop where
  start : Inv 0
  step : ∀ (i : Nat) (v u : Value) (h : Heap) (m : Str → Option Value), vs[i]? = some v → ws[i]? = some u → Inv i → Fr g L h m → m x₁ = some v → m x₂ = some u →
    W prog w A (execs body env) h fun f h' => match f with
      | .next | .cont => (∃ m', Fr g L h' m') ∧ Inv (i + 1) ∧ ∀ z o, z ≠ L → h.get? z = some o → h'.get? z = some o
      | .brk => Q .next h'
      | .ret v => Q (.ret v) h'
  fin : ∀ (h' : Heap) (m : Str → Option Value), Fr g L h' m → Inv vs.length → Q .next h'
theorem w_forZ (hh : A.handled = none) {x₁ x₂ : Str} {p₁ p₂ tpos pos : Pos} {kk : Nat} {iter : Expr} {body : List Stmt} {Q : Flow → Heap → Prop} {Inv : Nat → Prop} {vs ws : List Value} {l1 l2 : Addr} {t1 t2 : Bool} (hlen : vs.length = ws.length) (h12 : x₁ ≠ x₂)
    (k : W prog w A (eval iter env) h fun xv h₂ => ∃ h₁, xv = .ref (h₁.objs.size + 4) ∧ ZNew h₁ h₂ t1 l1 t2 l2 ∧ (∃ m, Fr g L h₁ m) ∧ SeqAt h₁.get? l1 t1 vs ∧ SeqAt h₁.get? l2 t2 ws ∧ l1 ≠ L ∧ l2 ≠ L)
    (X : ForZ prog w A env body Q g L Inv vs ws x₁ x₂)
    (hs : ∀ x, foldedSetIterable iter env x = pure x := by intro _; rfl) (hL : env.locals = L := by rfl) (hk : env.scope.kind = .function := by rfl) (hl1 : env.kindOf x₁ = some .local := by rfl) (hl2 : env.kindOf x₂ = some .local := by rfl)
    (he' : assignEach [.Name x₁ p₁, .Name x₂ p₂] env = [(false, assign (.Name x₁ p₁) env), (false, assign (.Name x₂ p₂) env)] := by rfl) : W prog w A (exec (.For (.Tuple [.Name x₁ p₁, .Name x₂ p₂] kk tpos) iter body [] pos) env) h Q := by
  refine w_for (W.mono k fun xv h₂ q => ?_) hs
  obtain ⟨h₁, rfl, N, ⟨m, F⟩, s1, s2, n1, n2⟩ := q
  refine W.mk fun s Qs hs' kk' => wpAny_pyIter_zip (by rw [hs']; exact N.zip) ?_
  subst hs'
  refine kk' _ _ s.toks ?_
  have a1 : l1 < h₁.objs.size := seq_lt s1
  have a2 : l2 < h₁.objs.size := seq_lt s2
  have hnone : ∀ j, h₁.get? (h₁.objs.size + j) = none := fun j => Heap.get?_none_of_le (Nat.le_add_right _ _)
  have hnew : ∀ b ∈ [h₁.objs.size + 4, h₁.objs.size + 3, h₁.objs.size, h₁.objs.size + 1], g.get? b = none ∧ b ≠ L := by
    intro b hb
    simp only [List.mem_cons, List.not_mem_nil, or_false] at hb
    rcases hb with rfl | rfl | rfl | rfl
    · exact none_of F (hnone 4)
    · exact none_of F (hnone 3)
    · exact none_of F (hnone 0)
    · exact none_of F (hnone 1)
  obtain ⟨S₁, D₁, b1⟩ := draws_seq (prog := prog) (w := w) (A := A.in1) hh h₁.objs.size l1 (Nat.ne_of_lt a1) t1 vs
  obtain ⟨S₂, D₂, b2⟩ := draws_seq (prog := prog) (w := w) (A := A.in1) hh (h₁.objs.size + 1) l2 (Nat.ne_of_lt (Nat.lt_succ_of_lt a2)) t2 ws
  rw [← hlen] at D₂
  have Z := zap a1 a2
  have T := turns_zip (elts := [.Name x₁ p₁, .Name x₂ p₂]) (kk := kk) (pos := tpos) Z D₁ D₂ (.head _) (.head _)
  refine ⟨_, _, _, _, _, _, _, (fun a => a = L), fun i h => (∃ m, Fr g L h m) ∧ Inv i, rfl, T, ?_, ?_, ?_, ?_, ?_, ?_⟩
  · exact ⟨N.zip, N.inn, ⟨_, _, N.out⟩, b1 _ (s1.mono N.ext) ⟨_, N.it1, rfl, rfl⟩, b2 _ (s2.mono N.ext) ⟨_, N.it2, rfl, rfl⟩⟩
  · intro b hb r
    subst r
    simp only [List.mem_cons, List.mem_append, List.not_mem_nil, or_false] at hb
    rcases hb with q | q | q | (q | q) | q | q
    · exact (none_of F (hnone 4)).2 q.symm
    · exact (none_of F (hnone 2)).2 q.symm
    · exact (none_of F (hnone 3)).2 q.symm
    · exact (none_of F (hnone 0)).2 q.symm
    · exact n1 q.symm
    · exact (none_of F (hnone 1)).2 q.symm
    · exact n2 q.symm
  · rintro i h h' ⟨⟨m, F⟩, q⟩ k
    exact ⟨⟨m, fr_new F hnew k⟩, q⟩
  · exact ⟨⟨m, F.keeps N.ext⟩, X.start⟩
  · rintro i v h₃ hi ⟨T, x, y, rfl, hp, p1, p2⟩ ⟨⟨m, F₃⟩, inv⟩ hk'
    refine w_unpack2 hh ⟨_, hp, rfl, _, rfl⟩ (fun h₄ e₄ => w_asgname (w_st (F₃.keeps e₄) (fun h₅ F₅ s₅ => w_asgname (w_st F₅ (fun h₆ F₆ s₆ => ?_) hL hk hl2)) hL hk hl1)) he'
    refine W.mono (X.step i x y h₆ _ p1 p2 inv F₆ (by simp [h12]) (by simp)) fun f h₇ q => ?_
    have up : ∀ z o, z ≠ L → h₃.get? z = some o → h₆.get? z = some o := fun z o hz q => (s₆.2 z hz).trans ((s₅.2 z hz).trans (e₄ _ _ q))
    cases f with
    | next => exact ⟨⟨q.1, q.2.1⟩, fun z o hz r => q.2.2 z o hz (up z o hz r)⟩
    | cont => exact ⟨⟨q.1, q.2.1⟩, fun z o hz r => q.2.2 z o hz (up z o hz r)⟩
    | brk => exact q
    | ret v => exact q
  · rintro h' ⟨⟨m, F'⟩, inv⟩ _
    exact X.fin h' m F' inv
end
end Mine

end

section
open PySem PySem.W PyProof.Rows PySem.Calls
set_option Elab.async false
set_option maxRecDepth 100000
set_option maxHeartbeats 400000
set_option linter.unusedVariables false
set_option pp.deepTerms false
set_option pp.deepTerms.threshold 5
set_option pp.maxSteps 4000
namespace Mine
namespace Plan
mutual
def Like : Plan → Plan → Prop
  | .atom _, .atom _ => True
  | .node k ps, .node k' qs => k ≠ k' ∨ LikeAll ps qs
  | .node _ _, _ => True
  | .list ps, .list qs => ps.length ≠ qs.length ∨ LikeAll ps qs
  | .params ps, .params qs => LikeAll ps qs
  | _, _ => False
def LikeAll : List Plan → List Plan → Prop
  | [], [] => True
  | p :: ps, q :: qs => Like p q ∧ LikeAll ps qs
  | _, _ => False
end
theorem LikeAll.len : ∀ {ps qs : List Plan}, LikeAll ps qs → ps.length = qs.length
  | [], [], _ => rfl
  | p :: ps, q :: qs, h => by simp only [LikeAll] at h; simp only [List.length_cons, LikeAll.len h.2]
  | [], _ :: _, h => by simp only [LikeAll] at h
  | _ :: _, [], h => by simp only [LikeAll] at h
theorem LikeAll.at {p q : Plan} : ∀ {ps qs : List Plan} {i : Nat}, LikeAll ps qs → ps[i]? = some p → qs[i]? = some q → Like p q
  | p :: ps, q :: qs, 0, h, e, e' => by simp only [LikeAll] at h; cases e; cases e'; exact h.1
  | p :: ps, q :: qs, i + 1, h, e, e' => by simp only [LikeAll] at h; exact LikeAll.at h.2 (by simpa using e) (by simpa using e')
  | [], [], i, h, e, e' => by simp at e
  | [], _ :: _, _, h, _, _ => by simp only [LikeAll] at h
  | _ :: _, [], _, h, _, _ => by simp only [LikeAll] at h
def isB : PyData → Bool | .bool _ => true | _ => false
end Plan
noncomputable def Tree.msr : Tree → Nat
  | .list _ _ ps => 2 * Plan.depAll (Tree.plans ps) + 1
  | t => 2 * t.plan.dep
theorem Tree.msr_le (t : Tree) : t.msr ≤ 2 * t.plan.dep := by
  cases t <;> simp only [Tree.msr, Tree.plan, Plan.dep] <;> omega
section
variable {prog : Program} {w : World} {p : Program} {loose : List Str} {mean : ExcName → Option Value} {mg mb : Str → Option Value} {A : Around} {env : Env} {g h h' : Heap} {L b : Addr} {m : Str → Option Value}
theorem atom_rc {v u : Value} {d e : PyData} (x : AtomV v d) (y : AtomV u e) (hb : Plan.isB d = Plan.isB e) : ∃ c : Bool, (∀ (A : Around) (s : Shared), PySem.SeqAt.RcAt A s v u c) ∧ (c = true ↔ d = e) := by
  cases x <;> cases y <;> simp only [Plan.isB, Bool.true_eq_false, Bool.false_eq_true] at hb
  · exact ⟨true, fun A s => PySem.SeqAt.RcAt.none_none, by simp⟩
  · exact ⟨false, fun A s => PySem.SeqAt.RcAt.none_int _ _, by simp⟩
  · exact ⟨false, fun A s => PySem.SeqAt.RcAt.none_str _ _, by simp⟩
  · exact ⟨_, fun A s => PySem.SeqAt.RcAt.bool_bool _ _, by simp⟩
  · exact ⟨false, fun A s => PySem.SeqAt.RcAt.int_none _ _, by simp⟩
  · exact ⟨_, fun A s => PySem.SeqAt.RcAt.int_int _ _ _ _, by simp⟩
  · exact ⟨false, fun A s => PySem.SeqAt.RcAt.int_str _ _ _ _, by simp⟩
  · exact ⟨false, fun A s => PySem.SeqAt.RcAt.str_none _ _, by simp⟩
  · exact ⟨false, fun A s => PySem.SeqAt.RcAt.str_int _ _ _ _, by simp⟩
  · exact ⟨_, fun A s => PySem.SeqAt.RcAt.str_str _ _ _ _, by simp⟩
theorem atom_isB {v : Value} {d : PyData} (x : AtomV v d) : (Tree.atom v d).isBool = Plan.isB d := by cases x <;> rfl
theorem w_andE {e₁ e₂ : Expr} {rest : List Expr} {pos : Pos} {Q : Value → Heap → Prop} (x : W prog w A (eval e₁ env) h fun v h₁ => ∃ b : Bool, v = .bool b ∧ if b = true then W prog w A (eval (.BoolOp .And (e₂ :: rest) pos) env) h₁ Q else Q (.bool false) h₁) :
    W prog w A (eval (.BoolOp .And (e₁ :: e₂ :: rest) pos) env) h Q := W.mk fun s Qs hs kk => BoolOp_and (x.run s _ hs fun v h₁ tk q => by
  obtain ⟨b, rfl, q⟩ := q
  refine wpAny_truthy_bool ?_
  cases b with
  | true => simp only [if_true] at q ⊢; exact q.run _ _ rfl kk
  | false => simp only [Bool.false_eq_true, if_false] at q ⊢; exact kk _ _ _ q)
theorem w_and1 {e : Expr} {pos : Pos} {Q : Value → Heap → Prop} (x : W prog w A (eval e env) h Q) : W prog w A (eval (.BoolOp .And [e] pos) env) h Q := W.mk fun s Qs hs kk => BoolOp_one (x.run s _ hs kk)
theorem ev_eqs {l r : Expr} {pos : Pos} {x y : Str} (a : Ev prog w A env l h (IsS x)) (c : Ev prog w A env r h (IsS y)) (hb : behindInMarks .Eq r = false := by rfl) : Ev prog w A env (.Compare l [.Eq] [r] pos) h (· = .bool (x == y)) :=
  ev_cmp a c (fun _ _ ⟨_, e⟩ ⟨_, e'⟩ => by
    subst e e'
    exact W.still fun s _ _ k => PySem.SeqAt.RcAt.str_str _ _ _ _ _ _ _ _ (k _ s.toks rfl)) hb
theorem ev_eqr {l r : Expr} {pos : Pos} {u v : Value} {c : Bool} (a : Ev prog w A env l h (· = u)) (d : Ev prog w A env r h (· = v)) (rc : ∀ (A : Around) (s : Shared), PySem.SeqAt.RcAt A s u v c) (hb : behindInMarks .Eq r = false := by rfl) : Ev prog w A env (.Compare l [.Eq] [r] pos) h (· = .bool c) :=
  ev_cmp a d (fun _ _ e e' => by
    subst e e'
    exact W.still fun s _ _ k => rc _ _ _ _ _ _ (k _ s.toks rfl)) hb
theorem ev_eqb {l r : Expr} {pos : Pos} {x y : Bool} (a : Ev prog w A env l h (· = .bool x)) (c : Ev prog w A env r h (· = .bool y)) (hb : behindInMarks .Eq r = false := by rfl) : Ev prog w A env (.Compare l [.Eq] [r] pos) h (· = .bool (x == y)) :=
  ev_eqr a c (fun _ _ => PySem.SeqAt.RcAt.bool_bool _ _) hb
theorem plain_c {x : Addr} {a b c d e : Value} (H : At w p loose mean mg mb A h) (hr : Room A 1) (ix : InsAt h.get? x 172 [(st "required", a), (st "optional", b), (st "rest", c), (st "post", d), (st "block", e)])
    (ha : handedIn a = true) (hb : handedIn b = true) (hc : handedIn c = true) (hd : handedIn d = true) (he : handedIn e = true) :
    WC prog w A (.call (.ref 169) ⟨[.ref x], []⟩) h fun r h' => ∃ D, r = .ref D ∧ Ext h h' ∧ SeqAt h'.get? D true [a, b, c, d, e] := by
  refine' wc_enter (binds := [(st "self", .ref x)]) (news := []) H (fun _ _ e => e) (Nat.le_refl _) (fun _ h => nomatch h) ?k6 ?k7 hr.room ?k9 ?kB ?_ ?c2 ?c3 ?c4 ?c5
  case k6 => k_is
  case k7 => k_is
  case k9 => exact fun _ _ => BindsTo.of_eq rfl
  case kB => exact locs rfl
  case c2 => exact rfl
  case c3 => exact rfl
  case c4 => exact rfl
  case c5 => decide
  intro L' h₁ base outer hA F N B₁ e₁ hL
  with_unfolding_all (change W _ _ _ (execs (_ :: _) (envOf _ (Scope.mk _ _ _ _ _) _ _ _)) _ _)
  have X₁ := H.K.keeps F.keep
  have i₁ := ix.mono F.keep
  refine w_cons (w_ret (w_tup (w_arg (w_ev (ev_attr X₁ (ev_fr F rfl rfl) i₁ (.head _) ha (by k_is) (by k_is) (by k_is) rfl) fun v1 h1 => w_arg (w_ev (ev_attr X₁ (ev_fr F rfl rfl) i₁ (.tail _ (.head _)) hb (by k_is) (by k_is) (by k_is) rfl) fun v2 h2 =>
    w_arg (w_ev (ev_attr X₁ (ev_fr F rfl rfl) i₁ (.tail _ (.tail _ (.head _))) hc (by k_is) (by k_is) (by k_is) rfl) fun v3 h3 => w_arg (w_ev (ev_attr X₁ (ev_fr F rfl rfl) i₁ (.tail _ (.tail _ (.tail _ (.head _)))) hd (by k_is) (by k_is) (by k_is) rfl) fun v4 h4 =>
    w_arg (w_ev (ev_attr X₁ (ev_fr F rfl rfl) i₁ (.tail _ (.tail _ (.tail _ (.tail _ (.head _))))) he (by k_is) (by k_is) (by k_is) rfl) fun v5 h5 => w_arg0 ?_))))))))
  subst h1 h2 h3 h4 h5
  exact w_newtupO (by show 5 ≤ sizeLine; decide) fun h₂ z₂ e₂ o₂ => ⟨_, rfl, fun z o q => e₂ _ _ (F.keep _ _ q), _, _, o₂, rfl, rfl⟩
end
end Mine

end

section
open PySem PySem.W PyProof.Rows PySem.Calls
set_option Elab.async false
set_option maxRecDepth 100000
set_option maxHeartbeats 400000
set_option linter.unusedVariables false
set_option pp.deepTerms false
set_option pp.deepTerms.threshold 5
set_option pp.maxSteps 4000
namespace Mine
section
variable {prog : Program} {w : World} {p : Program} {loose : List Str} {mean : ExcName → Option Value} {mg mb : Str → Option Value} {A : Around} {env : Env} {g h h' : Heap} {L b : Addr} {m : Str → Option Value}
theorem wt_not {e : Expr} {pos : Pos} {Q : Bool → Heap → Prop} (x : W prog w A (isTrue e env (eval e env)) h fun b h' => Q (!b) h') : W prog w A (isTrue (.UnaryOp .Not e pos) env (eval (.UnaryOp .Not e pos) env)) h Q :=
  W.mk fun s Qs hs k => wpAny_isTrue_Not (x.run s _ hs fun b h' tk q => k _ _ _ q)
theorem wt_call {e : Expr} {Q : Bool → Heap → Prop} (x : W prog w A (eval e env) h fun v h' => ∃ b, v = .bool b ∧ Q b h') (he : ∀ whole, isTrue e env whole = (do let v ← whole; standAt e.pos; holding [v] (truthy v)) := by intro _; rfl) : W prog w A (isTrue e env (eval e env)) h Q :=
  W.mk fun s Qs hs k => wpAny_isTrue_value (x.run s _ hs fun v h' tk q => by
    obtain ⟨b, rfl, q⟩ := q
    exact wpAny_truthy_bool (k _ _ _ q)) (he _)
theorem w_cwF0 {f : Value} {first : List Value} {pos : Pos} {Q : Value → Heap → Prop} (G : Gl w p loose mean mg mb h) (hk : keepIn (KK w.params) f = true) (x : W prog w A (call f first) h Q) : W prog w A (callWith pos f first (backTo pos (starEach [] env)) []) h Q :=
  W.mk fun s Qs hs k => callWith_K0 (by rw [hs]; exact G.K) hk (by rw [List.append_nil]; exact x.run s _ hs fun _ _ _ q' => k _ _ _ q')
theorem w_cwF {f : Value} {first : List Value} {e : Expr} {rest : List Expr} {pos : Pos} {Q : Value → Heap → Prop} (G : Gl w p loose mean mg mb g) (hk : keepIn (KK w.params) f = true)
    (x : W prog w A (spliced (backTo pos (starEach (e :: rest) env))) h fun vs h' => Ext g h' ∧ W prog w A (call f (first ++ vs)) h' Q)
    (he : starEach (e :: rest) env = (false, eval e env) :: starEach rest env := by rfl) (hplain : (backTo pos (starEach rest env)).any (·.1) = false := by rfl) : W prog w A (callWith pos f first (backTo pos (starEach (e :: rest) env)) []) h Q :=
  W.mk fun s Qs hs k => callWith_K G.K hk (x.run s _ hs fun vs h' tk q => ⟨G.K.keeps q.1, q.2.run _ _ rfl fun _ _ _ q' => k _ _ _ q'⟩) he hplain
theorem Tree.plans_map : ∀ ts : List Tree, Tree.plans ts = ts.map Tree.plan
  | [] => by simp only [Tree.plans, List.map_nil]
  | t :: ts => by simp only [Tree.plans, List.map_cons, Tree.plans_map ts]
theorem w_zip {l1 l2 : Addr} {t1 t2 : Bool} {xs ys : List Value} {Q : Value → Heap → Prop} (hl1 : SeqAt h.get? l1 t1 xs) (hl2 : SeqAt h.get? l2 t2 ys) (k : ∀ h', ZNew h h' t1 l1 t2 l2 → Q (.ref (h.objs.size + 4)) h') : W prog w A (call (.type "zip") [.ref l1, .ref l2]) h Q :=
  W.mk fun s Qs hs kk => by subst hs; exact call_zip hl1 hl2 fun h' Z => kk _ _ s.toks (k h' Z)
theorem InT.handed {l : Lk} {t : Tree} (i : InT l t) : handedIn t.val = true := by
  cases t with
  | atom v d => simp only [InT] at i; cases i <;> rfl
  | _ => rfl
variable (prog w p loose mean mg mb) in
def SameC (R : Nat) (t u : Tree) : Prop := ∀ (A : Around) (h : Heap), InT h.get? t → InT h.get? u → Plan.Like t.plan u.plan → t.plan.spots ≤ 1000000 → u.plan.spots ≤ 1000000 → Room A R → At w p loose mean mg mb A h →
  WC prog w A (.call (.ref 183) ⟨[t.val, u.val], []⟩) h fun v h' => ∃ b : Bool, v = .bool b ∧ Ext h h' ∧ (b = true ↔ t.plan = u.plan)
theorem same_w {R : Nat} {t u : Tree} (hR : 1 ≤ R) (IH : ∀ t' u', t'.msr < t.msr → SameC prog w p loose mean mg mb R t' u') : SameC prog w p loose mean mg mb (R + 1) t u := by
  intro A h it iu hlk st su hr H
  refine' wc_enter (binds := [(Mine.st "one", t.val), (Mine.st "other", u.val)]) (news := []) H (fun _ _ e => e) (Nat.le_refl _) (fun _ h => nomatch h) ?k6 ?k7 hr.room ?k9 ?kB ?_ ?c2 ?c3 ?c4 ?c5
  case k6 => k_is
  case k7 => k_is
  case k9 => exact fun _ _ => BindsTo.of_eq rfl
  case kB => exact locs rfl
  case c2 => exact rfl
  case c3 => exact rfl
  case c4 => exact rfl
  case c5 => decide
  intro L' h₁ base outer hA F N B₁ e₁ hL
  with_unfolding_all (change W _ _ _ (execs (_ :: _) (envOf _ (Scope.mk _ _ _ _ _) _ _ _)) _ _)
  have G : Gl w p loose mean mg mb h₁ := Gl.ext ⟨H.K, H.T⟩ F.keep
  have hrd := fun e => hr.deeper e
  have it₁ := it.mono F.keep
  have iu₁ := iu.mono F.keep
  refine w_cons (w_if (ts_call (ev_isi G.K (ev_boot G (by k_is) (v := .builtin "isinstance") rfl (by decide)) (ev_fr F rfl rfl) (ev_glob G (by k_is)) it₁ (isN it₁) rfl)) (fun hc => ?_) (fun hc => w_nil ?_))
  · rw [tyN it] at hc
    cases t with
    | atom => cases hc
    | list => cases hc
    | params => cases hc
    | node x k line pt ps =>
      refine w_cons (w_ret (w_andE (w_ev (ev_isi (P := (· = .bool (u.ty == .ref 140))) G.K (ev_boot G (by k_is) (v := .builtin "isinstance") rfl (by decide)) (ev_fr F rfl rfl) (ev_glob G (by k_is)) iu₁ (isN iu₁) rfl) fun v hv => ⟨_, hv, ?_⟩)))
      rw [tyN iu]
      cases u with
      | atom => exact ⟨false, rfl, F.keep, by simp only [Tree.plan, reduceCtorEq]⟩
      | list => exact ⟨false, rfl, F.keep, by simp only [Tree.plan, reduceCtorEq]⟩
      | params => exact ⟨false, rfl, F.keep, by simp only [Tree.plan, reduceCtorEq]⟩
      | node x' k' line' pt' qs =>
        have it' := it
        have iu' := iu
        simp only [InT] at it' iu'
        obtain ⟨⟨tk, tl, iI⟩, iP, iS⟩ := it'
        obtain ⟨⟨tk', tl', jI⟩, jP, jS⟩ := iu'
        have iI₁ := iI.mono F.keep
        have jI₁ := jI.mono F.keep
        simp only [Tree.isNode, if_true]
        refine w_andE (w_ev (ev_eqs (x := k) (y := k') (ev_attr G.K (ev_fr F rfl rfl) iI₁ (.head _) rfl (by k_is) (by k_is) (by k_is) ⟨_, rfl⟩) (ev_attr G.K (ev_fr F rfl rfl) jI₁ (.head _) rfl (by k_is) (by k_is) (by k_is) ⟨_, rfl⟩)) fun v hv => ⟨_, hv, ?_⟩)
        cases hk : (k == k') with
        | false => exact ⟨false, rfl, F.keep, by simp only [Tree.plan, Plan.node.injEq, Bool.false_eq_true, false_iff]; exact fun e => absurd e.1 (by simpa using hk)⟩
        | true =>
          have hk : k = k' := by simpa using hk
          simp only [Tree.plan, Plan.Like] at hlk
          have hlk := hlk.resolve_left fun e => e hk
          simp only [if_true]
          refine w_and1 (w_callee (ev_glob G (by k_is)) (w_cw G (by k_is) (w_arg (w_ev (ev_attr G.K (ev_fr F rfl rfl) iI₁ (.tail _ (.head _)) rfl (by k_is) (by k_is) (by k_is) rfl) fun v1 h1 => w_arg (w_ev (ev_attr G.K (ev_fr F rfl rfl) jI₁ (.tail _ (.head _)) rfl (by k_is) (by k_is) (by k_is) rfl) fun v2 h2 => w_arg0 ⟨fun _ _ e => e, ?_⟩)))))
          subst h1 h2
          refine W.mono (WC.call (IH (.list pt true ps) (.list pt' true qs) ?_ _ _ ?_ ?_ ?_ ?_ ?_ (hrd _) (At.here H.K H.T B₁ F rfl rfl))) fun v h' q => ?_
          · simp only [Tree.msr, Tree.plan, Plan.dep]; omega
          · simp only [InT]; exact ⟨iP.mono F.keep, iS.mono F.keep⟩
          · simp only [InT]; exact ⟨jP.mono F.keep, jS.mono F.keep⟩
          · simp only [Tree.plan, Plan.Like]; exact .inr hlk
          · simpa only [Tree.plan, Plan.spots] using st
          · simpa only [Tree.plan, Plan.spots] using su
          · obtain ⟨c, rfl, e, q⟩ := q
            refine ⟨c, rfl, fun z o r => e _ _ (F.keep _ _ r), ?_⟩
            simpa only [Tree.plan, Plan.list.injEq, Plan.node.injEq, hk, true_and] using q
  rw [tyN it] at hc
  have hNode : t.isNode = false := hc.symm
  refine w_cons (w_if (ts_call (ev_isi G.K (ev_boot G (by k_is) (v := .builtin "isinstance") rfl (by decide)) (ev_fr F rfl rfl) (ev_glob G (by k_is)) it₁ (isP it₁) rfl)) (fun hc => ?_) (fun hc => w_nil ?_))
  · rw [tyP it] at hc
    cases t with
    | atom => cases hc
    | list => cases hc
    | node => cases hc
    | params x ps =>
      cases u with
      | atom => simp only [Tree.plan, Plan.Like] at hlk
      | list => simp only [Tree.plan, Plan.Like] at hlk
      | node => simp only [Tree.plan, Plan.Like] at hlk
      | params x' qs =>
        have it' := it
        have iu' := iu
        simp only [InT] at it' iu'
        obtain ⟨⟨a, b, c, d, e, va, iI⟩, _, iS⟩ := it'
        obtain ⟨⟨a', b', c', d', e', vb, jI⟩, _, jS⟩ := iu'
        simp only [Tree.plan, Plan.Like] at hlk
        have hva : ∀ v ∈ [a, b, c, d, e], handedIn v = true := fun v hv => by
          rw [← va] at hv
          obtain ⟨t', ht, rfl⟩ := List.mem_map.mp hv
          exact (InTs.mem iS ht).handed
        have hvb : ∀ v ∈ [a', b', c', d', e'], handedIn v = true := fun v hv => by
          rw [← vb] at hv
          obtain ⟨t', ht, rfl⟩ := List.mem_map.mp hv
          exact (InTs.mem jS ht).handed
        refine w_cons (w_ret (w_andE (w_ev (ev_isi (P := (· = .bool true)) G.K (ev_boot G (by k_is) (v := .builtin "isinstance") rfl (by decide)) (ev_fr F rfl rfl) (ev_glob G (by k_is)) iu₁ (isP iu₁) (by rw [tyP iu]; rfl)) fun v hv => ⟨true, hv, ?_⟩)))
        simp only [if_true]
        refine w_and1 (w_callee (ev_glob G (by k_is)) (w_cw G (by k_is) (w_arg (w_meth (w_ev (ev_fr F rfl rfl) fun v1 h1 => ?_)))))
        subst h1
        refine gm_inst (f := 169) G.K (iI.mono F.keep) (by intro q hq; simp only [List.mem_cons, List.not_mem_nil, or_false] at hq; rcases hq with rfl | rfl | rfl | rfl | rfl <;> (show Mine.st _ ≠ Str.ofString "plain"; decide)) (by k_is) (by k_is) (by k_is) ?_
        refine w_cwF0 G (by k_is) (W.mono (WC.call (plain_c (prog := prog) (At.here H.K H.T B₁ F rfl rfl) ((hrd _).less hR) (iI.mono F.keep) (hva _ (.head _)) (hva _ (.tail _ (.head _))) (hva _ (.tail _ (.tail _ (.head _)))) (hva _ (.tail _ (.tail _ (.tail _ (.head _))))) (hva _ (.tail _ (.tail _ (.tail _ (.tail _ (.head _)))))))) fun v2 h₂ q => ?_)
        obtain ⟨D, rfl, e₂, sD⟩ := q
        have F₂ := F.keeps e₂
        have G₂ := G.ext e₂
        refine w_arg (w_meth (w_ev (ev_fr F₂ rfl rfl) fun v1 h1 => ?_))
        subst h1
        refine gm_inst (f := 169) G₂.K (jI.mono F₂.keep) (by intro q hq; simp only [List.mem_cons, List.not_mem_nil, or_false] at hq; rcases hq with rfl | rfl | rfl | rfl | rfl <;> (show Mine.st _ ≠ Str.ofString "plain"; decide)) (by k_is) (by k_is) (by k_is) ?_
        refine w_cwF0 G₂ (by k_is) (W.mono (WC.call (plain_c (prog := prog) (At.here H.K H.T B₁ F₂ rfl rfl) ((hrd _).less hR) (jI.mono F₂.keep) (hvb _ (.head _)) (hvb _ (.tail _ (.head _))) (hvb _ (.tail _ (.tail _ (.head _)))) (hvb _ (.tail _ (.tail _ (.tail _ (.head _))))) (hvb _ (.tail _ (.tail _ (.tail _ (.tail _ (.head _)))))))) fun v3 h₃ q => ?_)
        obtain ⟨D', rfl, e₃, sD'⟩ := q
        have F₃ := F₂.keeps e₃
        refine w_arg0 ⟨fun z o q => e₃ _ _ (e₂ _ _ q), ?_⟩
        rw [← va] at sD
        rw [← vb] at sD'
        refine W.mono (WC.call (IH (.list D true ps) (.list D' true qs) ?_ _ _ ?_ ?_ ?_ ?_ ?_ (hrd _) (At.here H.K H.T B₁ F₃ rfl rfl))) fun v h' q => ?_
        · simp only [Tree.msr, Tree.plan, Plan.dep]; omega
        · simp only [InT]; exact ⟨sD.mono e₃, iS.mono F₃.keep⟩
        · simp only [InT]; exact ⟨sD', jS.mono F₃.keep⟩
        · simp only [Tree.plan, Plan.Like]; exact .inr hlk
        · simpa only [Tree.plan, Plan.spots] using st
        · simpa only [Tree.plan, Plan.spots] using su
        · obtain ⟨c, rfl, e, q⟩ := q
          refine ⟨c, rfl, fun z o r => e _ _ (F₃.keep _ _ r), ?_⟩
          simpa only [Tree.plan, Plan.list.injEq, Plan.params.injEq] using q
  rw [tyP it] at hc
  have hPar : t.isParams = false := hc.symm
  refine w_cons (w_ifW (wt_isiS G (ev_boot G (by k_is) (v := .builtin "isinstance") rfl (by decide)) (ev_fr F rfl rfl) (ev_boot G (by k_is) (v := .type "list") rfl (by decide)) (ev_boot G (by k_is) (v := .type "tuple") rfl (by decide)) it₁ fun h₂ e₂ z₂ => ?_))
  have F₂ := F.keeps e₂
  have G₂ := G.ext e₂
  cases t with
  | node => cases hNode
  | params => cases hPar
  | atom v d =>
    cases u with
    | list => simp only [Tree.plan, Plan.Like] at hlk
    | node => simp only [Tree.plan, Plan.Like] at hlk
    | params => simp only [Tree.plan, Plan.Like] at hlk
    | atom v' d' =>
      have it' := it
      have iu' := iu
      simp only [InT] at it' iu'
      have it₂ := it₁.mono e₂
      have iu₂ := iu₁.mono e₂
      refine w_nil (w_cons (w_ret (w_andE (w_ev (ev_eqb (x := Plan.isB d) (y := Plan.isB d') (ev_isi G₂.K (ev_boot G₂ (by k_is) (v := .builtin "isinstance") rfl (by decide)) (ev_fr F₂ rfl rfl) (ev_boot G₂ (by k_is) (v := .type "bool") rfl (by decide)) it₂ (isB it₂) (by rw [tyB it, atom_isB it'])) (ev_isi G₂.K (ev_boot G₂ (by k_is) (v := .builtin "isinstance") rfl (by decide)) (ev_fr F₂ rfl rfl) (ev_boot G₂ (by k_is) (v := .type "bool") rfl (by decide)) iu₂ (isB iu₂) (by rw [tyB iu, atom_isB iu']))) fun v hv => ⟨_, hv, ?_⟩))))
      cases hq : (Plan.isB d == Plan.isB d') with
      | false =>
        refine ⟨false, rfl, F₂.keep, ?_⟩
        simp only [Tree.plan, Plan.atom.injEq, Bool.false_eq_true, false_iff]
        rintro rfl
        simp at hq
      | true =>
        obtain ⟨c, rc, hcc⟩ := atom_rc it' iu' (by simpa using hq)
        simp only [if_true]
        exact w_and1 (w_ev (ev_eqr (ev_fr F₂ rfl rfl) (ev_fr F₂ rfl rfl) rc) fun v hv => ⟨c, hv, F₂.keep, by simpa only [Tree.plan, Plan.atom.injEq] using hcc⟩)
  | list a tup ps =>
    cases u with
    | atom => simp only [Tree.plan, Plan.Like] at hlk
    | node => simp only [Tree.plan, Plan.Like] at hlk
    | params => simp only [Tree.plan, Plan.Like] at hlk
    | list a' tup' qs =>
      have it' := it
      have iu' := iu
      simp only [InT] at it' iu'
      obtain ⟨iP, iS⟩ := it'
      obtain ⟨jP, jS⟩ := iu'
      simp only [Tree.plan, Plan.spots] at st su
      simp only [Tree.plan, Plan.Like] at hlk
      have lp := len_spots (Tree.plans ps)
      have lq := len_spots (Tree.plans qs)
      rw [plans_len] at lp lq
      refine w_cons (w_ifW (wt_or (wt_not (wt_isiS G₂ (ev_boot G₂ (by k_is) (v := .builtin "isinstance") rfl (by decide)) (ev_fr F₂ rfl rfl) (ev_boot G₂ (by k_is) (v := .type "list") rfl (by decide)) (ev_boot G₂ (by k_is) (v := .type "tuple") rfl (by decide)) (iu₁.mono e₂) fun h₃ e₃ z₃ => ?_))))
      have F₃ := F₂.keeps e₃
      have G₃ := G₂.ext e₃
      simp only [Tree.isSeq, Bool.not_true, Bool.false_eq_true, if_false]
      refine w_ev (ts_nei (ev_lenB (ev_boot G₃ (by k_is) (v := .builtin "len") rfl (by decide)) (ev_fr F₃ rfl rfl) (iP.mono F₃.keep) (by rw [List.length_map]; omega)) (ev_lenB (ev_boot G₃ (by k_is) (v := .builtin "len") rfl (by decide)) (ev_fr F₃ rfl rfl) (jP.mono F₃.keep) (by rw [List.length_map]; omega))) fun c hc => ?_
      rw [List.length_map, List.length_map] at hc
      cases c with
      | true =>
        have hne := hc.mp rfl
        refine w_cons (w_ret (w_ev ev_bool fun v hv => ⟨false, hv, F₃.keep, ?_⟩))
        simp only [Tree.plan, Plan.list.injEq, Bool.false_eq_true, false_iff]
        intro e
        have := congrArg List.length e
        rw [plans_len, plans_len] at this
        exact hne (by rw [this])
      | false =>
        have hlen : ps.length = qs.length := by
          have : ¬ ((ps.length : Int) ≠ qs.length) := fun e => nomatch hc.mpr e
          omega
        have hlk := hlk.resolve_left fun e => e (by rw [plans_len, plans_len, hlen])
        refine w_nil (w_cons (w_forZ (hrd _).1 (g := h) (L := L') (Inv := fun i => Tree.plans (ps.take i) = Tree.plans (qs.take i)) (vs := ps.map Tree.val) (ws := qs.map Tree.val) (t1 := tup) (t2 := tup') (l1 := a) (l2 := a') (by rw [List.length_map, List.length_map, hlen]) (by decide) (w_callee (ev_boot G₃ (by k_is) (v := .type "zip") rfl (by decide)) (w_cwtype (w_arg (w_ev (ev_fr F₃ rfl rfl) fun v1 h1 => w_arg (w_ev (ev_fr F₃ rfl rfl) fun v2 h2 => w_arg0 ?_))))) ⟨rfl, ?_, ?_⟩))
        · subst h1 h2
          exact w_zip (iP.mono F₃.keep) (jP.mono F₃.keep) fun h₄ Z => ⟨h₃, rfl, Z, ⟨_, F₃⟩, iP.mono F₃.keep, jP.mono F₃.keep, Nat.ne_of_lt (hL ▸ seq_lt iP), Nat.ne_of_lt (hL ▸ seq_lt jP)⟩
        · intro i v v' h₄ m hv hv' inv F₄ m1 m2
          rw [List.getElem?_map, Option.map_eq_some_iff] at hv hv'
          obtain ⟨t', ht, rfl⟩ := hv
          obtain ⟨u', hu, rfl⟩ := hv'
          have mt := List.mem_of_getElem? ht
          have mu := List.mem_of_getElem? hu
          have G₄ : Gl w p loose mean mg mb h₄ := Gl.ext ⟨H.K, H.T⟩ F₄.keep
          refine w_cons (w_ifW (wt_not (wt_call (w_callee (ev_glob G₄ (by k_is)) (w_cw G₄ (by k_is) (w_arg (w_ev (ev_fr F₄ m1 rfl) fun v1 h1 => w_arg (w_ev (ev_fr F₄ m2 rfl) fun v2 h2 => w_arg0 ⟨fun _ _ e => e, ?_⟩))))))))
          subst h1 h2
          have d1 := mem_dep (Tree.plans_mem mt)
          have d2 := t'.msr_le
          have s1 := mem_spots (Tree.plans_mem mt)
          have s2 := mem_spots (Tree.plans_mem mu)
          refine W.mono (WC.call (IH t' u' ?_ _ _ ((InTs.mem iS mt).mono F₄.keep) ((InTs.mem jS mu).mono F₄.keep) ?_ (by omega) (by omega) (hrd _) (At.here H.K H.T B₁ F₄ rfl rfl))) fun v h₅ q => ?_
          · simp only [Tree.msr] at d2 ⊢; omega
          · exact Plan.LikeAll.at hlk (by rw [Tree.plans_map, List.getElem?_map, ht]; rfl) (by rw [Tree.plans_map, List.getElem?_map, hu]; rfl)
          obtain ⟨c, rfl, e₅, q⟩ := q
          refine ⟨c, rfl, ?_⟩
          cases c with
          | true =>
            simp only [Bool.not_true, Bool.false_eq_true, if_false]
            refine w_nil (w_nil ⟨⟨_, F₄.keeps e₅⟩, ?_, fun z o _ q => e₅ _ _ q⟩)
            rw [Tree.plans_map, Tree.plans_map] at inv ⊢
            rw [List.take_add_one, List.take_add_one, ht, hu, List.map_append, List.map_append, inv]
            simp only [Option.toList_some, List.map_cons, List.map_nil, q.mp rfl]
          | false =>
            simp only [Bool.not_false, if_true]
            refine w_cons (w_ret (w_ev ev_bool fun v hv => ⟨false, hv, fun z o r => e₅ _ _ (F₄.keep _ _ r), ?_⟩))
            simp only [Tree.plan, Plan.list.injEq, Bool.false_eq_true, false_iff]
            intro e
            rw [Tree.plans_map, Tree.plans_map] at e
            have := congrArg (fun l => l[i]?) e
            simp only [List.getElem?_map, ht, hu, Option.map_some, Option.some.injEq] at this
            exact nomatch q.mpr this
        · intro h₄ m F₄ inv
          rw [List.length_map, List.take_length, hlen, List.take_length] at inv
          exact w_cons (w_ret (w_ev ev_bool fun v hv => ⟨true, hv, F₄.keep, by simp only [Tree.plan, Plan.list.injEq, true_iff]; exact inv⟩))
theorem same_all : ∀ n t u, t.msr ≤ n → SameC prog w p loose mean mg mb (n + 2) t u
  | 0, t, u, h => same_w (Nat.le_add_left _ _) fun t' u' hlt => absurd hlt (by omega)
  | n + 1, t, u, h => same_w (Nat.le_add_left _ _) fun t' u' hlt => same_all n t' u' (by omega)
end
end Mine

end

section
open PySem PySem.W PyProof.Rows PySem.Calls
set_option Elab.async false
set_option maxRecDepth 100000
set_option maxHeartbeats 400000
set_option linter.unusedVariables false
set_option pp.deepTerms false
set_option pp.deepTerms.threshold 5
set_option pp.maxSteps 4000
namespace Mine
section
variable {prog : Program} {w : World} {p : Program} {loose : List Str} {mean : ExcName → Option Value} {mg mb : Str → Option Value} {A : Around} {env : Env} {g h h' : Heap} {L b : Addr} {m : Str → Option Value}
theorem slice_upto (vs : List Value) (n : Nat) : (slicePick vs.toArray none (some (n : Int)) none).toList = vs.take n := by
  rw [kms_pick_eq]
  unfold kms_pick kms_lo kms_hi
  have e : ¬ ((n : Int) < 0) := by omega
  simp only [if_neg e, Int.toNat_natCast, List.drop_zero, Nat.sub_zero]
  exact kmk_take_min vs n
theorem slice_but1 (vs : List Value) : (slicePick vs.toArray none (some (-1)) none).toList = vs.take (vs.length - 1) := by
  rw [kms_pick_eq]
  unfold kms_pick kms_lo kms_hi
  simp only [show ((-1 : Int) < 0) from by decide, if_true, List.drop_zero, Nat.sub_zero]
  rfl
theorem ev_pow {l r : Expr} {pos : Pos} {a n : Int} (x : Ev prog w A env l h (IsI a)) (y : Ev prog w A env r h (IsI n)) (hn : 0 ≤ n) (hn2 : n ≤ 1000000) (ha : a.natAbs < 2 ^ 64) : Ev prog w A env (.BinOp l .Pow r pos) h (IsI (a ^ n.toNat)) :=
  ev_bin x y fun _ _ ⟨_, e⟩ ⟨_, e'⟩ => by subst e e'; exact W.still fun s _ _ k => pow_int_small hn hn2 ha (k _ _ ⟨_, rfl⟩)
theorem ev_abs {fe e : Expr} {pos : Pos} {a : Int} (en : Ev prog w A env fe h (· = .builtin "abs")) (x : Ev prog w A env e h (IsI a))
    (he : eval (.Call fe [e] [] pos) env = (do callWith pos (← eval fe env) [] (backTo pos (starEach [e] env)) (backToKw pos (keywordEach [] env))) := by rfl)
    (s₁ : starEach [e] env = (false, eval e env) :: starEach [] env := by rfl) : Ev prog w A env (.Call fe [e] [] pos) h (IsI (if a < 0 then -a else a)) :=
  w_callee en (w_cwb (w_arg (w_ev x fun v hv => w_arg0 (by
    obtain ⟨t, rfl⟩ := hv
    refine W.mk fun s Qs hh kk => call_abs_int fun u tk => ?_
    subst hh
    exact kk _ _ _ ⟨rfl, _, rfl⟩)) s₁) s₁ (by rfl)) he
theorem ev_ltB {l r : Expr} {pos : Pos} {a b : Int} (x : Ev prog w A env l h (IsI a)) (y : Ev prog w A env r h (IsI b)) (hb : behindInMarks .Lt r = false := by rfl) : Ev prog w A env (.Compare l [.Lt] [r] pos) h (fun v => ∃ c, v = .bool c) :=
  ev_cmp x y (fun _ _ ⟨_, e⟩ ⟨_, e'⟩ => by subst e e'; exact W.still fun s _ _ k => lt_int (k _ s.toks ⟨_, rfl⟩)) hb
theorem ev_intB {fe e : Expr} {pos : Pos} (en : Ev prog w A env fe h (· = .type "int")) (x : Ev prog w A env e h (fun v => ∃ c, v = .bool c))
    (he : eval (.Call fe [e] [] pos) env = (do callWith pos (← eval fe env) [] (backTo pos (starEach [e] env)) (backToKw pos (keywordEach [] env))) := by rfl)
    (s₁ : starEach [e] env = (false, eval e env) :: starEach [] env := by rfl) : Ev prog w A env (.Call fe [e] [] pos) h (fun v => ∃ i t, v = .int i t ∧ 0 ≤ i ∧ i ≤ 1) :=
  w_callee en (w_cwtype (w_arg (w_ev x fun v hv => w_arg0 (by
    obtain ⟨c, rfl⟩ := hv
    refine W.mk fun s Qs hh kk => call_int_bool ?_
    subst hh
    exact kk _ _ _ ⟨rfl, _, _, rfl, by cases c <;> decide, by cases c <;> decide⟩)) s₁) s₁ (by rfl)) he
theorem ints_mem {vs : List Value} {ns : List Int} (h : IntsAre vs ns) {v : Value} (hv : v ∈ vs) : ∃ c t, v = .int c t := by
  induction h with
  | nil => cases hv
  | cons n t _ ih =>
    cases hv with
    | head => exact ⟨_, _, rfl⟩
    | tail _ hv => exact ih hv
theorem pow2_le {a b : Nat} (h : a ≤ b) : (2 : Int) ^ a ≤ 2 ^ b := by
  have := Nat.pow_le_pow_right (n := 2) (by decide) h
  exact_mod_cast this
theorem pow2_lt {a b : Nat} (h : a < b) : (2 : Int) ^ a < 2 ^ b := by
  have := Nat.pow_lt_pow_right (a := 2) (by decide) h
  exact_mod_cast this
theorem great_le {G c i : Int} {n : Nat} (h0 : 0 ≤ G) (h1 : G < 2 ^ (102 + 20 * n)) (hi0 : 0 ≤ i) (hi1 : i ≤ 1) : 0 ≤ G * 1000003 + (if c < 0 then -c else c).fmod (10 ^ 30) * 2 + i ∧ G * 1000003 + (if c < 0 then -c else c).fmod (10 ^ 30) * 2 + i < 2 ^ (102 + 20 * (n + 1)) := by
  have f0 := Int.fmod_nonneg_of_pos (if c < 0 then -c else c) (show (0 : Int) < 10 ^ 30 by decide)
  have f1 := Int.fmod_lt_of_pos (if c < 0 then -c else c) (show (0 : Int) < 10 ^ 30 by decide)
  have e : (2 : Int) ^ (102 + 20 * (n + 1)) = 2 ^ (102 + 20 * n) * 1048576 := by
    rw [show 102 + 20 * (n + 1) = (102 + 20 * n) + 20 from by omega, Int.pow_add]; rfl
  have b : (2 : Int) ^ 102 ≤ 2 ^ (102 + 20 * n) := pow2_le (Nat.le_add_right _ _)
  have t : (10 : Int) ^ 30 * 2 + 2 ≤ 2 ^ 102 := by decide
  rw [e]
  generalize (2 : Int) ^ (102 + 20 * n) = P at *
  generalize (2 : Int) ^ 102 = P0 at *
  generalize (if c < 0 then -c else c).fmod (10 ^ 30) = f at *
  generalize (10 : Int) ^ 30 = T at *
  omega
theorem box_w {sc : Addr} {vs : List Value} {ns : List Int} (H : At w p loose mean mg mb A h) (hr : Room A 1) (hl : SeqAt h.get? sc false vs) (hi : IntsAre vs ns) (hz : vs.length ≤ 100) :
    WC prog w A (.call (.ref 218) ⟨[.ref sc], []⟩) h fun v h' => ∃ b, v = .ref b ∧ Ext h h' ∧ h.get? b = none ∧ BoxAt h' b 0 := by
  refine' wc_enter (binds := [(st "script", .ref sc)]) (news := []) H (fun _ _ e => e) (Nat.le_refl _) (fun _ h => nomatch h) ?k6 ?k7 hr.room ?k9 ?kB ?_ ?c2 ?c3 ?c4 ?c5
  case k6 => k_is
  case k7 => k_is
  case k9 => exact fun _ _ => BindsTo.of_eq rfl
  case kB => exact locs rfl
  case c2 => exact rfl
  case c3 => exact rfl
  case c4 => exact rfl
  case c5 => decide
  intro L' h₁ base outer hA F N B₁ e₁ hL
  with_unfolding_all (change W _ _ _ (execs (_ :: _) (envOf _ (Scope.mk _ _ _ _ _) _ _ _)) _ _)
  have hrd := fun e => hr.deeper e
  have sLis : ∀ {l : Lk} {a : Addr} {vs : List Value}, SeqAt l a false vs → LIs l a vs := fun ⟨o, n, a, b, c⟩ => ⟨o, a, b, n, c⟩
  refine w_cons (w_asg (w_ev ev_int fun v hv => ?_))
  obtain ⟨t0, rfl⟩ := hv
  refine w_st F fun h₂ F₂ s₂ => ?_
  refine w_cons (w_forS (hrd _).1 (g := h) (L := L') (Dx := fun _ => False) (Inv := fun i m l => m (st "script") = some (.ref sc) ∧ ∃ G t, m (st "great") = some (.int G t) ∧ 0 ≤ G ∧ G < 2 ^ (102 + 20 * i)) (vs := vs.take 24) (a := h₂.objs.size + 1) (tup := false) (w_slc (ev_fr F₂ rfl rfl) pt_none (pt_some ev_int) pt_none (sLis (hl.mono F₂.keep)) (by decide) (Nat.le_trans hz (by decide)) fun h₃ e₃ p₃ => ?_))
  rw [show (24 : Int) = ((24 : Nat) : Int) from rfl, slice_upto] at p₃
  have F₃ := F₂.keeps e₃
  refine ⟨rfl, p₃.seq, ?_, id, fun _ q => q.elim, ?_, ?_, ?_, ?_⟩
  · exact PL.neL F₃ p₃
  · exact fun i m l l' k q => q
  · exact ⟨_, F₃, rfl, 0, t0, rfl, by decide, by decide⟩
  · rintro i v h₄ m I hv F₄ ⟨q1, G, t, q2, q3, q4⟩ hI hIg hIL _ keep
    obtain ⟨c, tc, rfl⟩ : ∃ c tc, v = .int c tc := by
      have hm : v ∈ vs := List.mem_of_mem_take (List.mem_of_getElem? hv)
      exact ints_mem hi hm
    refine w_asgname (w_st F₄ fun h₅ F₅ s₅ => w_cons (w_asg ?_))
    have G₅ : Gl w p loose mean mg mb h₅ := Gl.ext ⟨H.K, H.T⟩ F₅.keep
    refine w_ev (ev_bin (P := fun v => ∃ G' t', v = .int G' t' ∧ 0 ≤ G' ∧ G' < 2 ^ (102 + 20 * (i + 1))) (ev_add (ev_mul (ev_fr F₅ q2 ⟨_, rfl⟩) ev_int (IntMulOk.of_right (by decide))) (ev_mul (ev_mod (ev_abs (ev_boot G₅ (by k_is) (v := .builtin "abs") rfl (by decide)) (ev_fr F₅ rfl ⟨tc, rfl⟩)) (ev_pow ev_int ev_int (by decide) (by decide) (by decide)) (by decide)) ev_int (IntMulOk.of_right (by decide)))) (ev_intB (ev_boot G₅ (by k_is) (v := .type "int") rfl (by decide)) (ev_ltB (ev_fr F₅ rfl ⟨tc, rfl⟩) ev_int)) ?_) fun v hv => ?_
    · rintro _ _ ⟨_, rfl⟩ ⟨j, tj, rfl, j0, j1⟩
      have := great_le (c := c) q3 q4 j0 j1
      exact W.still fun s _ _ k => add_int (k _ _ ⟨_, _, rfl, this.1, this.2⟩)
    · obtain ⟨G', t', rfl, g0, g1⟩ := hv
      exact w_st F₅ fun h₆ F₆ s₆ => w_nil ⟨⟨_, F₆, q1, G', t', rfl, g0, g1⟩, fun z o hz _ q => (s₆.2 z hz).trans ((s₅.2 z hz).trans q)⟩
  · rintro h₄ m F₄ ⟨q1, G, t, q2, q3, q4⟩ keep
    have G₄ : Gl w p loose mean mg mb h₄ := Gl.ext ⟨H.K, H.T⟩ F₄.keep
    refine w_cons (w_ret (w_list (w_arg (w_ev (ev_fr F₄ q2 rfl) fun v1 h1 => w_arg (w_ev ev_int fun v2 h2 => w_arg (w_ev (P := fun v => ∃ d, IsI d v) (w_ifexp (ts_gt (ev_lenB (ev_boot G₄ (by k_is) (v := .builtin "len") rfl (by decide)) (ev_fr F₄ q1 rfl) (hl.mono F₄.keep) (Nat.le_trans hz (by decide))) ev_int) (fun _ => ev_mono ev_int fun v q => ⟨_, q⟩) (fun _ => ev_mono ev_int fun v q => ⟨_, q⟩)) fun v3 h3 => w_arg0 ?_))))))
    subst h1
    obtain ⟨t2, rfl⟩ := h2
    obtain ⟨d, t3, rfl⟩ := h3
    refine w_newlistO (by show 3 ≤ sizeLine; decide) fun h₅ z₅ e₅ p₅ => ⟨_, rfl, fun z o q => e₅ _ _ (F₄.keep _ _ q), (none_of F₄ (size_none h₄)).1, G, d, t, t2, t3, q3, ?_, p₅.lis⟩
    refine Int.lt_trans q4 ?_
    have : (vs.take 24).length ≤ 24 := by rw [List.length_take]; omega
    exact pow2_lt (by omega)
end
end Mine

end

section
open PySem PySem.W PyProof.Rows PySem.Calls
set_option Elab.async false
set_option maxRecDepth 100000
set_option maxHeartbeats 400000
set_option linter.unusedVariables false
set_option pp.deepTerms false
set_option pp.deepTerms.threshold 5
set_option pp.maxSteps 4000
namespace Mine
theorem str_ext {a b : Str} (h : a.cps.toList = b.cps.toList) : a = b := by
  cases a; cases b
  congr 1
  exact Array.toList_inj.mp h
theorem cps_app (a b : Str) : (a ++ b).cps.toList = a.cps.toList ++ b.cps.toList := by
  rw [Str.cps_append, Array.toList_append]
theorem app_left {a b c : Str} (h : a ++ b = a ++ c) : b = c := by
  have := congrArg (·.cps.toList) h
  simp only [cps_app] at this
  exact str_ext (List.append_cancel_left this)
theorem app_right {a b c : Str} (h : a ++ c = b ++ c) : a = b := by
  have := congrArg (·.cps.toList) h
  simp only [cps_app] at this
  exact str_ext (List.append_cancel_right this)
theorem join_inj {sep a b : Str} : ∀ (as cs : List Str), Str.join sep (as ++ a :: cs) = Str.join sep (as ++ b :: cs) → a = b
  | [], [], h => by simpa only [List.nil_append, Str.join] using h
  | [], c :: cs, h => by
    simp only [List.nil_append, Str.join] at h
    exact app_right (app_right h)
  | [x], cs, h => by
    simp only [List.cons_append, List.nil_append, Str.join] at h
    exact join_inj [] cs (app_left h)
  | x :: y :: as, cs, h => by
    simp only [List.cons_append, Str.join] at h
    exact join_inj (y :: as) cs (app_left h)
theorem join_len {sep : Str} : ∀ l : List Str, (Str.join sep l).length ≤ (l.map fun x => x.length + sep.length).sum
  | [] => by simp only [Str.join]; exact Nat.zero_le _
  | [x] => by simp only [Str.join, List.map_cons, List.map_nil, List.sum_cons, List.sum_nil]; omega
  | x :: y :: r => by
    have := join_len (sep := sep) (y :: r)
    simp only [Str.join, Str.length_append, List.map_cons, List.sum_cons] at this ⊢
    omega
theorem join_longer {sep : Str} : ∀ (as bs : List Str), (∀ b ∈ bs, 0 < b.length) → bs ≠ [] → (Str.join sep as).length < (Str.join sep (as ++ bs)).length
  | [], [], _, h => absurd rfl h
  | [], [b], hb, _ => by simp only [List.nil_append, Str.join]; exact hb b (.head _)
  | [], b :: c :: r, hb, _ => by
    simp only [List.nil_append, Str.join, Str.length_append]
    have := hb b (.head _)
    have e : (Str.empty).length = 0 := rfl
    omega
  | [x], [], _, h => absurd rfl h
  | [x], b :: r, hb, _ => by
    have h1 := join_longer (sep := sep) [] (b :: r) hb (by simp)
    simp only [List.nil_append, Str.join] at h1
    simp only [List.cons_append, List.nil_append, Str.join, Str.length_append]
    have e : (Str.empty).length = 0 := rfl
    omega
  | x :: y :: as, bs, hb, h => by
    have h1 := join_longer (sep := sep) (y :: as) bs hb h
    simp only [List.cons_append, Str.join, Str.length_append] at h1 ⊢
    omega
theorem shown_list_inj {as cs : List PyData} {a b : PyData} (h : (PyData.list (as ++ a :: cs)).shown = (PyData.list (as ++ b :: cs)).shown) : a.shown = b.shown := by
  rw [PyData.shown_list, PyData.shown_list] at h
  have h := app_left (app_right h)
  have e : ∀ (as : List PyData) (x : PyData), PyData.shownAll (as ++ x :: cs) = PyData.shownAll as ++ x.shown :: PyData.shownAll cs := by
    intro as x
    induction as with
    | nil => rw [List.nil_append, PyData.shownAll_cons, PyData.shownAll_nil, List.nil_append]
    | cons y as ih => rw [List.cons_append, PyData.shownAll_cons, PyData.shownAll_cons, ih, List.cons_append]
  rw [e, e] at h
  exact join_inj _ _ h
namespace Plan
theorem encAll_map : ∀ ps : List Plan, encAll ps = ps.map enc
  | [] => by simp only [encAll, List.map_nil]
  | p :: ps => by simp only [encAll, List.map_cons, encAll_map ps]
def isList : Plan → Bool | .list _ => true | _ => false
mutual
theorem Like.refl : ∀ p : Plan, Like p p
  | .atom _ => by simp only [Like]
  | .node k ps => by simp only [Like]; exact .inr (LikeAll.refl ps)
  | .list ps => by simp only [Like]; exact .inr (LikeAll.refl ps)
  | .params ps => by simp only [Like]; exact LikeAll.refl ps
theorem LikeAll.refl : ∀ ps : List Plan, LikeAll ps ps
  | [] => by simp only [LikeAll]
  | p :: ps => by simp only [LikeAll]; exact ⟨Like.refl p, LikeAll.refl ps⟩
end
end Plan
open Plan
structure BtR (p q : Plan) : Prop where
  eq : q = p ∨ q.enc.shown ≠ p.enc.shown
  lk : Like p q
  kl : Like q p
  wf : q.Wf
  sp : q.spots ≤ p.spots + 1
  dp : q.dep ≤ p.dep + 1
  sh : q.isList = p.isList
theorem BtR.refl {p : Plan} (h : p.Wf) : BtR p p := ⟨.inl rfl, Like.refl p, Like.refl p, h, Nat.le_succ _, Nat.le_succ _, rfl⟩
structure BtA (ps qs : List Plan) : Prop where
  len : qs.length = ps.length
  eq : qs = ps ∨ ∃ as a b cs, ps = as ++ a :: cs ∧ qs = as ++ b :: cs ∧ b.enc.shown ≠ a.enc.shown
  lk : LikeAll ps qs
  kl : LikeAll qs ps
  wf : WfAll qs
  sp : spotsAll qs ≤ spotsAll ps + 1
  dp : depAll qs ≤ depAll ps + 1
  sh : qs.map isList = ps.map isList
theorem BtA.refl : ∀ {ps : List Plan}, WfAll ps → BtA ps ps := fun h => ⟨rfl, .inl rfl, LikeAll.refl _, LikeAll.refl _, h, Nat.le_succ _, Nat.le_succ _, rfl⟩
theorem BtA.at {p q : Plan} (b : BtR p q) : ∀ {as cs : List Plan}, WfAll (as ++ p :: cs) → BtA (as ++ p :: cs) (as ++ q :: cs)
  | [], cs, h => by
    simp only [List.nil_append, WfAll] at h ⊢
    refine ⟨rfl, ?_, ?_, ?_, ?_, ?_, ?_, ?_⟩
    · exact b.eq.imp (fun e => by rw [e]) fun e => ⟨[], p, q, cs, rfl, rfl, e⟩
    · simp only [LikeAll]; exact ⟨b.lk, LikeAll.refl _⟩
    · simp only [LikeAll]; exact ⟨b.kl, LikeAll.refl _⟩
    · simp only [WfAll]; exact ⟨b.wf, h.2⟩
    · simp only [spotsAll]; have := b.sp; omega
    · simp only [depAll]; have := b.dp; omega
    · simp only [List.map_cons, b.sh]
  | x :: as, cs, h => by
    simp only [List.cons_append, WfAll] at h ⊢
    have ih := BtA.at b (as := as) (cs := cs) h.2
    refine ⟨by simp only [List.length_cons, ih.len], ?_, ?_, ?_, ?_, ?_, ?_, ?_⟩
    · refine ih.eq.imp (fun e => by rw [e]) ?_
      rintro ⟨as', a, c, cs', e1, e2, e3⟩
      exact ⟨x :: as', a, c, cs', by rw [e1]; rfl, by rw [e2]; rfl, e3⟩
    · simp only [LikeAll]; exact ⟨Like.refl _, ih.lk⟩
    · simp only [LikeAll]; exact ⟨Like.refl _, ih.kl⟩
    · simp only [WfAll]; exact ⟨h.1, ih.wf⟩
    · simp only [spotsAll]; have := ih.sp; omega
    · simp only [depAll]; have := ih.dp; omega
    · simp only [List.map_cons, ih.sh]
theorem encAll_ne {ps qs : List Plan} (b : BtA ps qs) : qs = ps ∨ (PyData.list (encAll qs)).shown ≠ (PyData.list (encAll ps)).shown := by
  refine b.eq.imp id ?_
  rintro ⟨as, a, c, cs, rfl, rfl, e⟩ h
  simp only [encAll_map, List.map_append, List.map_cons] at h
  exact e (shown_list_inj h)
theorem BtR.node {k : Str} {ps qs : List Plan} (h : (Plan.node k ps).Wf) (b : BtA ps qs) : BtR (.node k ps) (.node k qs) := by
  simp only [Wf] at h
  refine ⟨?_, ?_, ?_, ?_, ?_, ?_, rfl⟩
  · refine (encAll_ne b).imp (fun e => by rw [e]) fun e h => e ?_
    simp only [enc] at h
    exact shown_list_inj (as := [_, _]) (cs := []) h
  · simp only [Like]; exact .inr b.lk
  · simp only [Like]; exact .inr b.kl
  · simp only [Wf]; exact ⟨by rw [b.len]; exact h.1, b.wf⟩
  · simp only [spots]; have := b.sp; omega
  · simp only [dep]; have := b.dp; omega
theorem BtR.list {ps qs : List Plan} (b : BtA ps qs) : BtR (.list ps) (.list qs) := by
  refine ⟨?_, ?_, ?_, ?_, ?_, ?_, rfl⟩
  · refine (encAll_ne b).imp (fun e => by rw [e]) fun e h => e ?_
    simp only [enc] at h
    exact shown_list_inj (as := [_]) (cs := []) h
  · simp only [Like]; exact .inr b.lk
  · simp only [Like]; exact .inr b.kl
  · simp only [Wf]; exact b.wf
  · simp only [spots]; have := b.sp; omega
  · simp only [dep]; have := b.dp; omega
theorem isList_list {p : Plan} (h : p.isList = true) : ∃ ps, p = .list ps := by
  cases p <;> simp only [isList, Bool.false_eq_true] at h
  exact ⟨_, rfl⟩
theorem BtR.params {ps qs : List Plan} (h : (Plan.params ps).Wf) (b : BtA ps qs) : BtR (.params ps) (.params qs) := by
  simp only [Wf] at h
  refine ⟨?_, ?_, ?_, ?_, ?_, ?_, rfl⟩
  · refine (encAll_ne b).imp (fun e => by rw [e]) fun e h => e ?_
    simp only [enc] at h
    exact shown_list_inj (as := [_]) (cs := []) h
  · simp only [Like]; exact b.lk
  · simp only [Like]; exact b.kl
  · simp only [Wf]
    refine ⟨b.wf, ?_⟩
    obtain ⟨x, y, c, d, e, rfl⟩ := h.2
    have hs := b.sh
    have hl := b.len
    match qs, hl with
    | [q0, q1, q2, q3, q4], _ =>
      simp only [List.map_cons, List.map_nil, List.cons.injEq, and_true] at hs
      obtain ⟨e0, e1, _, e3, _⟩ := hs
      obtain ⟨_, rfl⟩ := isList_list (e0.trans rfl)
      obtain ⟨_, rfl⟩ := isList_list (e1.trans rfl)
      obtain ⟨_, rfl⟩ := isList_list (e3.trans rfl)
      exact ⟨_, _, _, _, _, rfl⟩
  · simp only [spots]; have := b.sp; omega
  · simp only [dep]; have := b.dp; omega
end Mine

end

section
open PySem PySem.W PyProof.Rows PySem.Calls
set_option Elab.async false
set_option maxRecDepth 100000
set_option maxHeartbeats 400000
set_option linter.unusedVariables false
set_option pp.deepTerms false
set_option pp.deepTerms.threshold 5
set_option pp.maxSteps 4000
namespace Mine
open Plan
noncomputable def tabS : List (PyData × PyData) := [(.str (st "x"), .str (st "y")), (.str (st "y"), .str (st "x")), (.str (st ""), .none)]
noncomputable def tabK : List (PyData × PyData) := [(.str (st "and"), .str (st "or")), (.str (st "or"), .str (st "and")), (.str (st "seq"), .str (st "array")), (.str (st "array"), .str (st "seq")), (.str (st "sym"), .str (st "lvar"))]
noncomputable def bendA : PyData → PyData
  | .str s => (Spec.lookup (.str s) tabS).getD (.str (st "x"))
  | .bool b => .int (if b then 1 else 0)
  | .int i => if i = 1 then .bool true else .int 1
  | _ => .int 1
theorem bendA_ok {d : PyData} (h : AtomOk d) : AtomOk (bendA d) ∧ (bendA d).shown ≠ d.shown := by
  cases d with
  | none => exact ⟨.inr (.inl rfl), by show (PyData.int 1).shown ≠ PyData.none.shown; rw [PyData.shown_int, PyData.shown_none]; decide +kernel⟩
  | bool b => cases b with
    | true => exact ⟨.inr (.inl rfl), by show (PyData.int 1).shown ≠ (PyData.bool true).shown; rw [PyData.shown_int, PyData.shown_bool]; decide +kernel⟩
    | false => exact ⟨.inl rfl, by show (PyData.int 0).shown ≠ (PyData.bool false).shown; rw [PyData.shown_int, PyData.shown_bool]; decide +kernel⟩
  | int i =>
    rcases h with rfl | rfl | rfl
    · exact ⟨.inr (.inl rfl), by show (PyData.int 1).shown ≠ (PyData.int 0).shown; rw [PyData.shown_int, PyData.shown_int]; decide +kernel⟩
    · exact ⟨trivial, by show (PyData.bool true).shown ≠ (PyData.int 1).shown; rw [PyData.shown_int, PyData.shown_bool]; decide +kernel⟩
    · exact ⟨.inr (.inl rfl), by show (PyData.int 1).shown ≠ (PyData.int 2).shown; rw [PyData.shown_int, PyData.shown_int]; decide +kernel⟩
  | str s =>
    have e (a b : Str) (hb : bendA (.str a) = .str b) (hw : b ∈ words) (hn : reprText b ≠ reprText a) : AtomOk (bendA (.str a)) ∧ (bendA (.str a)).shown ≠ (PyData.str a).shown := by
      rw [hb]; exact ⟨hw, by rw [PyData.shown_str, PyData.shown_str]; exact hn⟩
    have hs : s ∈ [st "x", st "y", st "", st "u", st "v", st "o", st "z"] := h
    simp only [List.mem_cons, List.not_mem_nil, or_false] at hs
    rcases hs with rfl | rfl | rfl | rfl | rfl | rfl | rfl
    · exact e _ (st "y") (by kernel_rfl) (by decide +kernel) (by decide +kernel)
    · exact e _ (st "x") (by kernel_rfl) (by decide +kernel) (by decide +kernel)
    · rw [show bendA (.str (st "")) = .none from by kernel_rfl]
      exact ⟨trivial, by rw [PyData.shown_str, PyData.shown_none]; decide +kernel⟩
    · exact e _ (st "x") (by kernel_rfl) (by decide +kernel) (by decide +kernel)
    · exact e _ (st "x") (by kernel_rfl) (by decide +kernel) (by decide +kernel)
    · exact e _ (st "x") (by kernel_rfl) (by decide +kernel) (by decide +kernel)
    · exact e _ (st "x") (by kernel_rfl) (by decide +kernel) (by decide +kernel)
  | _ => exact h.elim
theorem BtR.atom {d : PyData} (h : (Plan.atom d).Wf) : BtR (.atom d) (.atom (bendA d)) := by
  simp only [Wf] at h
  obtain ⟨h1, h2⟩ := bendA_ok h
  refine ⟨.inr fun e => h2 ?_, by simp only [Like], by simp only [Like], by simp only [Wf]; exact h1, by simp only [spots]; omega, by simp only [dep]; omega, rfl⟩
  simp only [enc] at e
  exact shown_list_inj (as := [_]) (cs := []) e
noncomputable def bendK (k : Str) : Str := match Spec.lookup (.str k) tabK with | some (.str y) => y | _ => k
theorem lookup_mem {k d : PyData} : ∀ {D : List (PyData × PyData)}, Spec.lookup k D = some d → ∃ q ∈ D, q.2 = d
  | [], h => nomatch h
  | (a, b) :: r, h => by
    simp only [Spec.lookup] at h
    split at h
    · exact ⟨_, .head _, Option.some.inj h⟩
    · obtain ⟨q, hq, e⟩ := lookup_mem h
      exact ⟨q, .tail _ hq, e⟩
theorem bendK_look (k : Str) : (Spec.lookup (.str k) tabK).getD (.str k) = .str (bendK k) := by
  unfold bendK
  cases h : Spec.lookup (.str k) tabK with
  | none => rfl
  | some d =>
    have key : ∀ q ∈ tabK, ∃ y, q.2 = .str y := by
      intro q hq
      simp only [tabK, List.mem_cons, List.not_mem_nil, or_false] at hq
      rcases hq with rfl | rfl | rfl | rfl | rfl <;> exact ⟨_, rfl⟩
    obtain ⟨q, hq, e⟩ := lookup_mem h
    obtain ⟨y, e'⟩ := key q hq
    rw [e] at e'
    subst e'
    rfl
theorem kinds_bend : ((kinds ++ leaves).all fun q => ((kinds ++ leaves).any fun r => decide (r.1 = bendK q.1) && decide (r.2.cps.size = q.2.cps.size)) && (decide (bendK q.1 = q.1) || decide (reprText (bendK q.1) ≠ reprText q.1))) = true := by decide +kernel
theorem BtR.kind {k : Str} {ps : List Plan} (h : (Plan.node k ps).Wf) : BtR (.node k ps) (.node (bendK k) ps) := by
  by_cases e : bendK k = k
  · rw [e]; exact BtR.refl h
  simp only [Wf] at h
  obtain ⟨⟨sp, hm, hs⟩, hw⟩ := h
  have := List.all_eq_true.mp kinds_bend _ hm
  simp only [Bool.and_eq_true, Bool.or_eq_true, decide_eq_true_eq, List.any_eq_true] at this
  obtain ⟨⟨⟨k', sp'⟩, hm', e1, e2⟩, hr⟩ := this
  have hr := hr.resolve_left e
  simp only at e1 e2
  refine ⟨.inr fun q => hr ?_, by simp only [Like]; exact .inl (Ne.symm e), by simp only [Like]; exact .inl e, ?_, by simp only [spots]; omega, by simp only [dep]; omega, rfl⟩
  · simp only [enc] at q
    have := shown_list_inj (as := [_]) (cs := [_]) q
    rwa [PyData.shown_str, PyData.shown_str] at this
  · simp only [Wf]
    exact ⟨⟨sp', e1 ▸ hm', e2.trans hs⟩, hw⟩
theorem shown_pos (p : Plan) : 0 < p.enc.shown.length := by
  cases p <;> simp only [enc] <;> rw [PyData.shown_list, Str.length_append, Str.length_append] <;> (have : (("[" : Str)).length = 1 := by decide +kernel) <;> omega
theorem shownAll_map : ∀ xs : List PyData, PyData.shownAll xs = xs.map PyData.shown
  | [] => by rw [PyData.shownAll_nil, List.map_nil]
  | x :: xs => by rw [PyData.shownAll_cons, List.map_cons, shownAll_map xs]
theorem shown_longer {ps rs : List Plan} (h : rs ≠ []) : (PyData.list (encAll ps)).shown ≠ (PyData.list (encAll (ps ++ rs))).shown := by
  intro e
  rw [PyData.shown_list, PyData.shown_list] at e
  have e := congrArg Str.length (app_left (app_right e))
  rw [shownAll_map, shownAll_map, encAll_map, encAll_map, List.map_append, List.map_append] at e
  have := join_longer (sep := ", ") ((ps.map enc).map PyData.shown) ((rs.map enc).map PyData.shown) (fun b hb => by
    obtain ⟨d, hd, rfl⟩ := List.mem_map.mp hb
    obtain ⟨q, _, rfl⟩ := List.mem_map.mp hd
    exact shown_pos q) (by simpa using h)
  omega
noncomputable def cut (ps : List Plan) : List Plan := if ps.length = 0 then [.atom .none] else ps.take (ps.length - 1)
theorem wfAll_take : ∀ {ps : List Plan} (n : Nat), WfAll ps → WfAll (ps.take n)
  | [], n, _ => by simp only [List.take_nil, WfAll]
  | p :: ps, 0, _ => by simp only [List.take_zero, WfAll]
  | p :: ps, n + 1, h => by simp only [List.take_succ_cons, WfAll] at h ⊢; exact ⟨h.1, wfAll_take n h.2⟩
theorem spotsAll_take' : ∀ (ps : List Plan) (n : Nat), spotsAll (ps.take n) ≤ spotsAll ps
  | [], n => by simp only [List.take_nil]; exact Nat.le_refl _
  | p :: ps, 0 => by simp only [List.take_zero, spotsAll]; exact Nat.zero_le _
  | p :: ps, n + 1 => by simp only [List.take_succ_cons, spotsAll]; exact Nat.add_le_add_left (spotsAll_take' ps n) _
theorem depAll_take' : ∀ (ps : List Plan) (n : Nat), depAll (ps.take n) ≤ depAll ps
  | [], n => by simp only [List.take_nil]; exact Nat.le_refl _
  | p :: ps, 0 => by simp only [List.take_zero, depAll]; exact Nat.zero_le _
  | p :: ps, n + 1 => by simp only [List.take_succ_cons, depAll]; have := depAll_take' ps n; omega
theorem BtR.cut {ps : List Plan} (h : (Plan.list ps).Wf) : BtR (.list ps) (.list (Mine.cut ps)) := by
  simp only [Wf] at h
  have hlen : (Mine.cut ps).length ≠ ps.length := by
    unfold Mine.cut
    split
    · rename_i e; rw [e]; decide
    · rw [List.length_take]; omega
  refine ⟨.inr fun q => ?_, by simp only [Like]; exact .inl (Ne.symm hlen), by simp only [Like]; exact .inl hlen, ?_, ?_, ?_, rfl⟩
  · simp only [enc] at q
    have q := shown_list_inj (as := [_]) (cs := []) q
    unfold Mine.cut at q
    split at q
    · rename_i e
      obtain rfl := List.eq_nil_of_length_eq_zero e
      exact shown_longer (ps := []) (rs := [.atom .none]) (by simp) q.symm
    · rename_i e
      have := shown_longer (ps := ps.take (ps.length - 1)) (rs := ps.drop (ps.length - 1)) (by
        intro e'
        have := congrArg List.length e'
        rw [List.length_drop, List.length_nil] at this
        omega)
      rw [List.take_append_drop] at this
      exact this q
  · simp only [Wf]
    unfold Mine.cut
    split
    · simp only [WfAll, Wf]; exact ⟨trivial, trivial⟩
    · exact wfAll_take _ h
  · simp only [spots]
    unfold Mine.cut
    split
    · simp only [spotsAll, spots]; omega
    · have := spotsAll_take' ps (ps.length - 1); omega
  · simp only [dep]
    unfold Mine.cut
    split
    · simp only [depAll, dep]; omega
    · have := depAll_take' ps (ps.length - 1); omega
theorem len_list2 (a b : PyData) : (PyData.list [a, b]).shown.length = a.shown.length + b.shown.length + 4 := by
  rw [PyData.shown_list, shownAll_map, Str.length_append, Str.length_append]
  simp only [List.map_cons, List.map_nil, Str.join, Str.length_append]
  have h1 : ("[" : Str).length = 1 := by decide +kernel
  have h2 : (", " : Str).length = 2 := by decide +kernel
  have h3 : ("]" : Str).length = 1 := by decide +kernel
  omega
theorem len_list3 (a b c : PyData) : (PyData.list [a, b, c]).shown.length = a.shown.length + b.shown.length + c.shown.length + 6 := by
  rw [PyData.shown_list, shownAll_map, Str.length_append, Str.length_append]
  simp only [List.map_cons, List.map_nil, Str.join, Str.length_append]
  have h1 : ("[" : Str).length = 1 := by decide +kernel
  have h2 : (", " : Str).length = 2 := by decide +kernel
  have h3 : ("]" : Str).length = 1 := by decide +kernel
  omega
theorem len_listN (xs : List PyData) : (PyData.list xs).shown.length ≤ 2 + ((xs.map PyData.shown).map fun x => x.length + 2).sum := by
  rw [PyData.shown_list, shownAll_map, Str.length_append, Str.length_append]
  have h1 : ("[" : Str).length = 1 := by decide +kernel
  have h3 : ("]" : Str).length = 1 := by decide +kernel
  have := join_len (sep := ", ") (xs.map PyData.shown)
  have h2 : (", " : Str).length = 2 := by decide +kernel
  rw [h2] at this
  omega
theorem kinds_len : ((kinds ++ leaves).all fun q => decide ((reprText q.1).length ≤ 9)) = true := by decide +kernel
theorem atom_len {d : PyData} (h : AtomOk d) : d.shown.length ≤ 5 := by
  cases d with
  | none => rw [PyData.shown_none]; decide +kernel
  | bool b => rw [PyData.shown_bool]; cases b <;> decide +kernel
  | int i => rw [PyData.shown_int]; rcases h with rfl | rfl | rfl <;> decide +kernel
  | str s =>
    rw [PyData.shown_str]
    have hs : s ∈ [st "x", st "y", st "", st "u", st "v", st "o", st "z"] := h
    simp only [List.mem_cons, List.not_mem_nil, or_false] at hs
    rcases hs with rfl | rfl | rfl | rfl | rfl | rfl | rfl <;> decide +kernel
  | _ => exact h.elim
theorem tag_len : (PyData.str (st "atom")).shown.length = 6 ∧ (PyData.str (st "node")).shown.length = 6 ∧ (PyData.str (st "list")).shown.length = 6 ∧ (PyData.str (st "params")).shown.length = 8 := by
  rw [PyData.shown_str, PyData.shown_str, PyData.shown_str, PyData.shown_str]; decide +kernel
mutual
theorem shown_le : ∀ p : Plan, p.Wf → p.enc.shown.length + 2 ≤ 30 * p.spots
  | .atom d, h => by
    simp only [Wf] at h
    have := atom_len h
    simp only [enc, spots]; rw [len_list2, tag_len.1]; omega
  | .node k ps, h => by
    simp only [Wf] at h
    obtain ⟨⟨sp, hm, _⟩, hw⟩ := h
    have h1 : (PyData.str k).shown.length ≤ 9 := by rw [PyData.shown_str]; simpa using List.all_eq_true.mp kinds_len _ hm
    have h2 := len_listN (encAll ps)
    have h3 := shownAll_le ps hw
    simp only [enc, spots]; rw [len_list3, tag_len.2.1]; omega
  | .list ps, h => by
    simp only [Wf] at h
    have h2 := len_listN (encAll ps)
    have h3 := shownAll_le ps h
    simp only [enc, spots]; rw [len_list2, tag_len.2.2.1]; omega
  | .params ps, h => by
    simp only [Wf] at h
    have h2 := len_listN (encAll ps)
    have h3 := shownAll_le ps h.1
    simp only [enc, spots]; rw [len_list2, tag_len.2.2.2]; omega
theorem shownAll_le : ∀ ps : List Plan, WfAll ps → (((encAll ps).map PyData.shown).map fun x => x.length + 2).sum ≤ 30 * spotsAll ps
  | [], _ => by simp only [encAll, List.map_nil, List.sum_nil]; exact Nat.zero_le _
  | p :: ps, h => by
    simp only [WfAll] at h
    have h1 := shown_le p h.1
    have h2 := shownAll_le ps h.2
    simp only [encAll, List.map_cons, List.sum_cons, spotsAll]; omega
end
theorem show_atom {d : PyData} (h : AtomOk d) : d.showable = true ∧ d.depth ≤ 1 ∧ d.hasDict = false := by
  cases d with
  | none => simp [PyData.showable, PyData.depth, PyData.hasDict]
  | bool b => simp [PyData.showable, PyData.depth, PyData.hasDict]
  | int i => rcases h with rfl | rfl | rfl <;> refine ⟨?_, by simp [PyData.depth], by simp [PyData.hasDict]⟩ <;> simp only [PyData.showable] <;> decide +kernel
  | str s => simp [PyData.showable, PyData.depth, PyData.hasDict]
  | _ => exact h.elim
mutual
theorem show_enc : ∀ p : Plan, p.Wf → p.enc.showable = true ∧ p.enc.depth ≤ 2 * p.dep ∧ p.enc.hasDict = false
  | .atom d, h => by
    simp only [Wf] at h
    obtain ⟨a, b, c⟩ := show_atom h
    refine ⟨?_, ?_, ?_⟩
    · simp only [enc, PyData.showable, PyData.showableAll, a, Bool.and_self]
    · simp only [enc, PyData.depth, PyData.depthAll, dep]; omega
    · simp only [enc, PyData.hasDict, PyData.hasDictAll, c, Bool.or_self]
  | .node k ps, h => by
    simp only [Wf] at h
    obtain ⟨a, b, c⟩ := show_encs ps h.2
    refine ⟨?_, ?_, ?_⟩
    · simp only [enc, PyData.showable, PyData.showableAll, a, Bool.and_self]
    · simp only [enc, PyData.depth, PyData.depthAll, dep]; omega
    · simp only [enc, PyData.hasDict, PyData.hasDictAll, c, Bool.or_self]
  | .list ps, h => by
    simp only [Wf] at h
    obtain ⟨a, b, c⟩ := show_encs ps h
    refine ⟨?_, ?_, ?_⟩
    · simp only [enc, PyData.showable, PyData.showableAll, a, Bool.and_self]
    · simp only [enc, PyData.depth, PyData.depthAll, dep]; omega
    · simp only [enc, PyData.hasDict, PyData.hasDictAll, c, Bool.or_self]
  | .params ps, h => by
    simp only [Wf] at h
    obtain ⟨a, b, c⟩ := show_encs ps h.1
    refine ⟨?_, ?_, ?_⟩
    · simp only [enc, PyData.showable, PyData.showableAll, a, Bool.and_self]
    · simp only [enc, PyData.depth, PyData.depthAll, dep]; omega
    · simp only [enc, PyData.hasDict, PyData.hasDictAll, c, Bool.or_self]
theorem show_encs : ∀ ps : List Plan, WfAll ps → PyData.showableAll (encAll ps) = true ∧ PyData.depthAll (encAll ps) ≤ 2 * depAll ps ∧ PyData.hasDictAll (encAll ps) = false
  | [], _ => by simp [encAll, PyData.showableAll, PyData.depthAll, PyData.hasDictAll]
  | p :: ps, h => by
    simp only [WfAll] at h
    obtain ⟨a, b, c⟩ := show_enc p h.1
    obtain ⟨a', b', c'⟩ := show_encs ps h.2
    refine ⟨?_, ?_, ?_⟩
    · simp only [encAll, PyData.showableAll, a, a', Bool.and_self]
    · simp only [encAll, PyData.depthAll, depAll]; omega
    · simp only [encAll, PyData.hasDictAll, c, c', Bool.or_self]
end
end Mine

end

section
open PySem PySem.W PyProof.Rows PySem.Calls
set_option Elab.async false
set_option maxRecDepth 100000
set_option maxHeartbeats 400000
set_option linter.unusedVariables false
set_option pp.deepTerms false
set_option pp.deepTerms.threshold 5
set_option pp.maxSteps 4000
namespace Mine
section
variable {prog : Program} {w : World} {p : Program} {loose : List Str} {mean : ExcName → Option Value} {mg mb : Str → Option Value} {A : Around} {env : Env} {g h h' : Heap} {L b : Addr} {m : Str → Option Value}
theorem ts_eqI {l r : Expr} {pos : Pos} {a c : Int} (x : Ev prog w A env l h (IsI a)) (y : Ev prog w A env r h (IsI c)) (hb : behindInMarks .Eq r = false := by rfl) : Ts prog w A env (.Compare l [.Eq] [r] pos) h (fun v => v = true ↔ a = c) :=
  ts_cmp x y (fun _ _ ⟨_, e⟩ ⟨_, e'⟩ => by subst e e'; exact (W.still fun s _ _ k => eq_int (k _ s.toks ⟨_, rfl, by simp⟩))) hb
theorem ts_chain {l r₁ r₂ : Expr} {pos : Pos} {a b c : Int} (x : Ev prog w A env l h (IsI a)) (y : Ev prog w A env r₁ h (IsI b)) (z : Ev prog w A env r₂ h (IsI c)) (hm : lastMarks [.LtE, .Lt] [r₁, r₂] = false := by with_unfolding_all rfl) :
    Ts prog w A env (.Compare l [.LtE, .Lt] [r₁, r₂] pos) h (fun v => v = true ↔ a ≤ b ∧ b < c) := W.mk fun s Qs hs kk => by
  refine isTrue_chain (x.run s _ hs fun v h₁ tk q => ?_) hm
  obtain ⟨rfl, t1, rfl⟩ := q
  refine test_link (y.run _ _ rfl fun v h₁ tk q => ?_)
  obtain ⟨rfl, t2, rfl⟩ := q
  refine le_int (wpAny_truthy_bool ?_)
  cases hc : decide (a ≤ b) with
  | false =>
    simp only [Bool.false_eq_true, if_false]
    exact kk _ _ _ ⟨rfl, by simp at hc ⊢; omega⟩
  | true =>
    simp only [if_true]
    refine test_last (z.run _ _ rfl fun v h₁ tk q => ?_)
    obtain ⟨rfl, t3, rfl⟩ := q
    refine lt_int (wpAny_truthy_bool (kk _ _ _ ⟨rfl, ?_⟩))
    simp at hc ⊢; omega
theorem w_ifexpW {t a c : Expr} {pos : Pos} {Q : Value → Heap → Prop} (x : W prog w A (isTrue t env (eval t env)) h fun b h' => if b = true then W prog w A (eval a env) h' Q else W prog w A (eval c env) h' Q) : W prog w A (eval (.IfExp t a c pos) env) h Q :=
  W.mk fun s Qs hh kk => wpAny_IfExp (x.run s _ hh fun b h' tk q => by
    cases b with
    | true => simp only [if_true] at q; exact q.run _ _ rfl kk
    | false => simp only [Bool.false_eq_true, if_false] at q; exact q.run _ _ rfl kk)
theorem wt_neNil {l : Expr} {lp pos : Pos} {a : Addr} {vs : List Value} {Q : Bool → Heap → Prop} (hu : A.units < cLine) (x : Ev prog w A env l h (· = .ref a)) (hl : h.IsList a vs.toArray) (k : ∀ h', Ext h h' → h'.objs.size = h.objs.size + 1 → Q (decide (vs.length ≠ 0)) h')
    (hb : behindInMarks .NotEq (.List [] lp) = false := by rfl) : W prog w A (isTrue (.Compare l [.NotEq] [.List [] lp] pos) env (eval (.Compare l [.NotEq] [.List [] lp] pos) env)) h Q :=
  W.mk fun s Qs hs kk => wpAny_isTrue_Compare1 (x.run s _ hs fun v h₁ tk q => by
    obtain ⟨rfl, rfl⟩ := q
    refine (w_list (w_arg0 (w_newlistO (by show 0 ≤ sizeLine; decide) fun h₂ z₂ e₂ p₂ => ⟨_, rfl, e₂, z₂, p₂⟩)) : W prog w A (eval (.List [] lp) env) h₁ fun v h₂ => ∃ b, v = .ref b ∧ Ext h₁ h₂ ∧ h₂.objs.size = h₁.objs.size + 1 ∧ PL h₂.get? b []).run _ _ rfl fun v h₂ tk q => ?_
    obtain ⟨b, rfl, e₂, z₂, p₂⟩ := q
    have hl₂ : Heap.IsList (Shared.heap { s with heap := h₂, toks := tk }) a vs.toArray := hl.at (e₂ _)
    have lb : Heap.IsList (Shared.heap { s with heap := h₂, toks := tk }) b (([] : List Value).toArray) := p₂.lis
    by_cases hv : vs.length = 0
    · refine PySem.SeqAt.RcNeAt.lists (e := fun _ => true) hl₂ lb (by simp [hv]) hu (fun j h1 _ => by simp [hv] at h1) _ _ _ _ (wpAny_truthy_bool ?_)
      have := kk _ _ tk (k h₂ e₂ z₂)
      simpa [hv] using this
    · refine PySem.SeqAt.RcNeAt.lists_lengths hl₂ lb (by simpa using hv) hu _ _ _ _ (wpAny_truthy_bool ?_)
      have := kk _ _ tk (k h₂ e₂ z₂)
      simpa [hv] using this) hb
theorem gm_dget {d : Addr} {D : List (PyData × PyData)} {pl : Sem Bool} {Q : Value × List Value → Heap → Prop} (T : StrTab prog w h d D) (k : Q (.builtin "dict.get", [.ref d]) h) : W prog w A (getMethod (.ref d) "get" pl) h Q := W.mk fun s Qs hs kk => by
  subst hs
  exact getMethod_strTab_get T (kk _ _ s.toks k)
theorem w_dget {d : Addr} {D : List (PyData × PyData)} {x : Str} {t : Tok} {dflt : Value} {dd : PyData} {Q : Value → Heap → Prop} (T : StrTab prog w h d D) (hx : PyProof.V.Flat dflt dd) (k : ∀ v, PyProof.V.Flat v ((Spec.lookup (.str x) D).getD dd) → Q v h) : W prog w A (call (.builtin "dict.get") [.ref d, .str x t, dflt]) h Q := W.mk fun s Qs hs kk => by
  subst hs
  exact call_get2_strTab T hx fun v hv => kk _ _ _ (k v hv)
theorem flat_atom {v : Value} {d : PyData} (f : PyProof.V.Flat v d) (h : AtomOk d) : AtomV v d := by
  cases d with
  | none => obtain rfl := f.none_inv; exact .none
  | bool b => obtain rfl := f.bool_inv; exact .bool b
  | int i => obtain ⟨t, rfl⟩ := f.int_inv; exact .int i t
  | str s => obtain ⟨t, rfl⟩ := f.str_inv; exact .str s t
  | _ => exact h.elim
theorem grow_list {l : Lk} {a n : Addr} {vs : List Value} (e : Le l h.get?) (hn : n ≤ a) (u : l a = none) (x : PL h.get? a vs) : ∃ l', Grow n l l' ∧ Le l' h.get? ∧ LIs l' a vs := by
  obtain ⟨k, q⟩ := x
  refine ⟨add l a ⟨.type "list", none, .seq vs.toArray k, #[]⟩, ⟨le_add _ u, fun z o r => ?_⟩, fun z o r => ?_, ⟨_, add_self _ _ _, rfl, k, rfl⟩⟩
  · unfold add at r
    split at r
    · rename_i hz; subst hz; exact .inr hn
    · exact .inl r
  · unfold add at r
    split at r
    · rename_i hz; subst hz; cases r; exact q
    · exact e _ _ r
end
end Mine

end

section
open PySem PySem.W PyProof.Rows PySem.Calls
set_option Elab.async false
set_option maxRecDepth 100000
set_option maxHeartbeats 600000
set_option linter.unusedVariables false
set_option pp.deepTerms false
set_option pp.deepTerms.threshold 5
set_option pp.maxSteps 4000
namespace Mine
theorem PlansIn.take {l : Lk} : ∀ {ps : List Plan} {us : List Value} (n : Nat), PlansIn l ps us → PlansIn l (ps.take n) (us.take n)
  | [], us, n, h => by simp only [PlansIn] at h; subst h; simp only [List.take_nil, PlansIn]
  | p :: ps, us, 0, h => by simp only [List.take_zero, PlansIn]
  | p :: ps, us, n + 1, h => by
    simp only [PlansIn] at h
    obtain ⟨v, r, rfl, a, b⟩ := h
    simp only [List.take_succ_cons, PlansIn]
    exact ⟨v, _, rfl, a, PlansIn.take n b⟩
section
variable {prog : Program} {w : World} {p : Program} {loose : List Str} {mean : ExcName → Option Value} {mg mb : Str → Option Value} {A : Around} {env : Env} {g h h' : Heap} {L b : Addr} {m : Str → Option Value}
theorem isStr {t : Tree} {l : Lk} (i : InT l t) : kitOne (KK w.params) t.ty (.type "str") = some (t.ty == .type "str") := by rcases ty_cases i with e | e | e | e | e | e | e | e <;> rw [e] <;> kit_is
theorem le_none {l : Lk} {a : Addr} (e : Le l h.get?) (n : h.get? a = none) : l a = none := by
  cases c : l a with
  | none => rfl
  | some o => rw [e _ _ c] at n; cases n
theorem Tagged.lastR {l : Lk} {pl : Plan} {x : Str} {r : List Value} (h : Tagged l pl x r) (hx : x ≠ st "atom") (hw : pl.Wf) : ∃ u us ps, r.getLast? = some u ∧ isL l u us ∧ PlansIn l ps us ∧ pl.spots = Plan.spotsAll ps + 1 ∧ (∀ q ∈ ps, q.dep < pl.dep) ∧ Plan.WfAll ps ∧
    ∀ qs, BtA ps qs → ∃ q', BtR pl q' ∧ ∀ (l' : Lk) (a D : Addr) (ws : List Value) (t : Tok), LIs l' a ((Value.str x t :: r).take r.length ++ [.ref D]) → LIs l' D ws → PlansIn l' qs ws → PlanIn l' q' (.ref a) := by
  have dd : ∀ {ps : List Plan} {q}, q ∈ ps → q.dep < Plan.depAll ps + 1 := fun h => Nat.lt_succ_of_le (mem_dep h)
  cases h with
  | atom => exact absurd rfl hx
  | node a c => exact ⟨_, _, _, rfl, a, c, by simp only [Plan.spots], fun q hq => by simp only [Plan.dep]; exact dd hq, by simp only [Plan.Wf] at hw; exact hw.2, fun qs b => ⟨_, BtR.node hw b, fun l' a D ws t i1 i2 i3 => PlanIn.node' ⟨_, rfl, i1⟩ ⟨_, rfl, i2⟩ i3⟩⟩
  | list a c => exact ⟨_, _, _, rfl, a, c, by simp only [Plan.spots], fun q hq => by simp only [Plan.dep]; exact dd hq, by simp only [Plan.Wf] at hw; exact hw, fun qs b => ⟨_, BtR.list b, fun l' a D ws t i1 i2 i3 => PlanIn.list' ⟨_, rfl, i1⟩ ⟨_, rfl, i2⟩ i3⟩⟩
  | params a c => exact ⟨_, _, _, rfl, a, c, by simp only [Plan.spots], fun q hq => by simp only [Plan.dep]; exact dd hq, by simp only [Plan.Wf] at hw; exact hw.1, fun qs b => ⟨_, BtR.params hw b, fun l' a D ws t i1 i2 i3 => by simp only [PlanIn]; exact ⟨_, _, _, ⟨_, rfl, i1⟩, ⟨_, rfl, i2⟩, i3⟩⟩⟩
def BtP (ps : List Plan) (i : Nat) (left : Int) (qs : List Plan) : Prop := (qs = ps.take i ∧ 0 ≤ left) ∨ (left < 0 ∧ ∃ as p q cs, ps.take i = as ++ p :: cs ∧ qs = as ++ q :: cs ∧ BtR p q)
variable (prog w p loose mean mg mb) in
def BentC (R : Nat) (pl : Plan) : Prop := ∀ (A : Around) (h : Heap) (l : Lk) (v : Value) (spot : Int) (t : Tok), PlanIn l pl v → Le l h.get? → pl.Wf → pl.spots ≤ 1000000 → 0 ≤ spot → spot < pl.spots → Room A R → At w p loose mean mg mb A h →
  WC prog w A (.call (.ref 264) ⟨[v, .int spot t], []⟩) h fun v' h' => ∃ q l', Ext h h' ∧ Grow h.objs.size l l' ∧ Le l' h'.get? ∧ PlanIn l' q v' ∧ BtR pl q
theorem bent_w {d : Nat} {pl : Plan} (hd : pl.dep ≤ d + 1) (IH : ∀ q : Plan, q.dep ≤ d → BentC prog w p loose mean mg mb (d + 1) q) : BentC prog w p loose mean mg mb (d + 2) pl := by
  intro A h l v spot ts hv hle hw hsz h0 hsp hr H
  obtain ⟨pa, tag, tt, rr, rfl, hpa, hT⟩ := hv.tag
  refine' wc_enter (binds := [(st "plan", .ref pa), (st "spot", .int spot ts)]) (news := []) H (fun _ _ e => e) (Nat.le_refl _) (fun _ h => nomatch h) ?k6 ?k7 hr.room ?k9 ?kB ?_ ?c2 ?c3 ?c4 ?c5
  case k6 => k_is
  case k7 => k_is
  case k9 => exact fun _ _ => BindsTo.of_eq rfl
  case kB => exact locs rfl
  case c2 => exact rfl
  case c3 => exact rfl
  case c4 => exact rfl
  case c5 => decide
  intro L' h₁ base outer hA F N B₁ e₁ hL
  with_unfolding_all (change W _ _ _ (execs (_ :: _) (envOf _ (Scope.mk _ _ _ _ _) _ _ _)) _ _)
  have G : Gl w p loose mean mg mb h₁ := Gl.ext ⟨H.K, H.T⟩ F.keep
  have hrd := fun e => hr.deeper e
  have hle₁ : Le l h₁.get? := fun z o q => F.keep _ _ (hle _ _ q)
  have hL0 : h.get? L' = none := hL ▸ size_none h
  have lL : l L' = none := le_none hle hL0
  have up : ∀ {a : Addr} {vs : List Value}, LIs l a vs → h₁.IsList a vs.toArray := fun ⟨o, q, c, n, d⟩ => ⟨o, hle₁ _ _ q, c, n, d⟩
  have hp₁ := up hpa
  have far : ∀ {h' : Heap} {m : Str → Option Value}, Fr h L' h' m → h.objs.size ≤ h'.objs.size := fun F' => Nat.le_of_lt (hL ▸ size_of_ns F'.ns)
  have hT' := hT
  refine w_cons (w_if (P := fun c => c = true ↔ (spot = 0 ∧ tag = st "atom")) (ts_and (ts_eqI (ev_fr F rfl ⟨_, rfl⟩) ev_int) (fun q => ⟨(fun e => nomatch e), (fun e => nomatch q.mpr e.1)⟩) (fun q => W.mono (ts_eqs (ev_at (ev_fr F rfl rfl) hp₁ rfl ⟨_, rfl⟩) ev_str) fun c h' y => ⟨y.1, y.2.trans ⟨(fun e => ⟨q.mp rfl, e⟩), (fun e => e.2)⟩⟩)) (fun hc => ?_) (fun hc => w_nil ?_))
  · obtain ⟨rfl, hta⟩ := hc.mp rfl
    cases hT with
    | @atom dd x hx =>
      simp only [Plan.Wf] at hw
      have iT : InT h₁.get? (.atom x dd) := by simp only [InT]; exact hx
      refine w_cons (w_asg (w_ev (ev_at (v := x) (ev_fr F rfl rfl) hp₁ rfl rfl) fun v1 h1 => ?_))
      subst h1
      refine w_st F fun h₂ F₂ s₂ => ?_
      have G₂ : Gl w p loose mean mg mb h₂ := Gl.ext ⟨H.K, H.T⟩ F₂.keep
      refine w_cons (w_ret (w_list (w_arg (w_ev ev_str fun v1 h1 => w_arg (W.mono (Q := fun v h₃ => Ext h₂ h₃ ∧ AtomV v (bendA dd)) ?key fun v2 h₃ q => w_arg0 (w_newlistO (by show 2 ≤ sizeLine; decide) fun h₄ z₄ e₄ p₄ => ?_))))))
      case key =>
        have iT₂ : InT h₂.get? (.atom x dd) := by simp only [InT]; exact hx
        refine w_ifexp (ts_call (ev_isi (t := .atom x dd) G₂.K (ev_boot G₂ (by k_is) (v := .builtin "isinstance") rfl (by decide)) (ev_fr F₂ rfl rfl) (ev_boot G₂ (by k_is) (v := .type "str") rfl (by decide)) iT₂ (isStr iT₂) rfl)) (fun hb => ?_) (fun hb => w_ifexp (ts_call (ev_isi (t := .atom x dd) G₂.K (ev_boot G₂ (by k_is) (v := .builtin "isinstance") rfl (by decide)) (ev_fr F₂ rfl rfl) (ev_boot G₂ (by k_is) (v := .type "bool") rfl (by decide)) iT₂ (isB iT₂) rfl)) (fun hb' => ?_) (fun hb' => ?_))
        · cases hx with
          | str y t =>
            refine w_meth (w_dict (D := tabS) (by kernel_rfl) (by kernel_rfl) (by decide +kernel) rfl rfl (fun e => nomatch e) (by decide) (big_K G₂.K) fun a h₃ e₃ s₃ T => gm_dget T (w_cwb (w_arg (w_ev (ev_fr (F₂.keeps e₃) rfl rfl) fun v3 h3 => w_arg (w_ev ev_str fun v4 h4 => w_arg0 ?_)))))
            subst h3
            obtain ⟨t4, rfl⟩ := h4
            exact w_dget T (PyProof.V.Flat.str _ _) fun v hv => ⟨e₃, flat_atom hv (bendA_ok hw).1⟩
          | _ => cases hb
        · cases hx with
          | bool bb =>
            refine w_callee (ev_boot G₂ (by k_is) (v := .type "int") rfl (by decide)) (w_cwtype (w_arg (w_ev (ev_fr F₂ rfl rfl) fun v3 h3 => w_arg0 ?_)))
            subst h3
            refine W.mk fun s Qs hs kk => call_int_bool ?_
            subst hs
            exact kk _ _ _ ⟨fun _ _ e => e, .int _ _⟩
          | _ => cases hb'
        · cases hx with
          | str => cases hb
          | bool => cases hb'
          | none =>
            refine w_ifexp (P := (· = false)) (ts_cmp (ev_fr F₂ rfl rfl) ev_int (fun a b e1 e2 => by
              subst e1
              obtain ⟨t, rfl⟩ := e2
              exact W.still fun s _ _ k => PySem.SeqAt.RcAt.none_int _ _ _ _ _ _ (k _ s.toks ⟨false, rfl, rfl⟩))) (fun e => nomatch e) (fun _ => w_ev ev_int fun v h3 => ?_)
            obtain ⟨t, rfl⟩ := h3
            exact ⟨fun _ _ e => e, .int _ _⟩
          | int i t =>
            refine w_ifexp (ts_eqI (ev_fr F₂ rfl ⟨_, rfl⟩) ev_int) (fun q => w_ev ev_bool fun v h3 => ?_) (fun q => w_ev ev_int fun v h3 => ?_)
            · subst h3
              have : bendA (.int i) = .bool true := if_pos (q.mp rfl)
              rw [this]; exact ⟨fun _ _ e => e, .bool _⟩
            · obtain ⟨t, rfl⟩ := h3
              have : bendA (.int i) = .int 1 := if_neg fun e => nomatch q.mpr e
              rw [this]; exact ⟨fun _ _ e => e, .int _ _⟩
      · obtain ⟨e₃, hv2⟩ := q
        obtain ⟨t1, rfl⟩ := h1
        have F₃ := F₂.keeps e₃
        have hle₃ : Le l h₃.get? := fun z o q => F₃.keep _ _ (hle _ _ q)
        obtain ⟨l', gr, le', il⟩ := grow_list (n := h.objs.size) (l := l) (fun z o q => e₄ _ _ (hle₃ z o q)) (far F₃) (le_none hle₃ (size_none h₃)) p₄
        exact ⟨.atom (bendA dd), l', (F₃.keeps e₄).keep, gr, le', PlanIn.atom' ⟨_, rfl, il⟩ hv2, BtR.atom (by simp only [Plan.Wf]; exact hw)⟩
    | node => exact absurd hta (by decide +kernel)
    | list => exact absurd hta (by decide +kernel)
    | params => exact absurd hta (by decide +kernel)
  have hna : ¬ (spot = 0 ∧ tag = Mine.st "atom") := fun e => nomatch hc.mpr e
  refine w_cons (w_if (P := fun c => c = true ↔ (spot = 0 ∧ tag = Mine.st "list")) (ts_and (ts_eqI (ev_fr F rfl ⟨_, rfl⟩) ev_int) (fun q => ⟨(fun e => nomatch e), (fun e => nomatch q.mpr e.1)⟩) (fun q => W.mono (ts_eqs (ev_at (ev_fr F rfl rfl) hp₁ rfl ⟨_, rfl⟩) ev_str) fun c h' y => ⟨y.1, y.2.trans ⟨(fun e => ⟨q.mp rfl, e⟩), (fun e => e.2)⟩⟩)) (fun hc => ?_) (fun hc => w_nil ?_))
  · obtain ⟨rfl, hta⟩ := hc.mp rfl
    cases hT with
    | atom => exact absurd hta (by decide +kernel)
    | node => exact absurd hta (by decide +kernel)
    | params => exact absurd hta (by decide +kernel)
    | @list u us ps hu hps =>
      obtain ⟨ua, rfl, hua⟩ := hu
      have hul : us.length = ps.length := hps.length
      have hpl : ps.length ≤ 1000000 := by have := len_spots ps; simp only [Plan.spots] at hsz; omega
      have hbig : 1000000 ≤ sizeLine := by decide
      refine w_cons (w_ret (w_list (w_arg (w_ev ev_str fun v1 h1 => w_arg (W.mono (Q := fun v h₃ => ∃ l' us', Ext h₁ h₃ ∧ Grow h.objs.size l l' ∧ Le l' h₃.get? ∧ isL l' v us' ∧ PlansIn l' (cut ps) us') ?key fun v2 h₃ q => w_arg0 (w_newlistO (by show 2 ≤ sizeLine; decide) fun h₄ z₄ e₄ p₄ => ?_))))))
      case key =>
        refine w_ifexpW (wt_neNil (by have := hr.2.2; show A.units + 3 < 9900; omega) (ev_at (v := .ref ua) (ev_fr F rfl rfl) hp₁ rfl rfl) (up hua) fun h₂ e₂ z₂ => ?_)
        have F₂ := F.keeps e₂
        have hle₂ : Le l h₂.get? := fun z o q => e₂ _ _ (hle₁ _ _ q)
        by_cases hz : us.length = 0
        · rw [show decide (us.length ≠ 0) = false from by simp [hz]]
          simp only [Bool.false_eq_true, if_false]
          refine w_list (w_arg (w_list (w_arg (w_ev ev_str fun v2 h2 => w_arg (w_ev ev_none fun v3 h3 => w_arg0 (w_newlistO (by show 2 ≤ sizeLine; decide) fun h₃ z₃ e₃ p₃ => w_arg0 (w_newlistO (by show 1 ≤ sizeLine; decide) fun h₄ z₄ e₄ p₄ => ?_)))))))
          obtain ⟨t2, rfl⟩ := h2
          subst h3
          have F₃ := F₂.keeps e₃
          obtain ⟨l', gr, le', il⟩ := grow_list (n := h.objs.size) (l := l) (fun z o q => e₃ _ _ (hle₂ z o q)) (far F₂) (le_none hle₂ (size_none h₂)) p₃
          obtain ⟨l'', gr2, le'', il2⟩ := grow_list (n := h.objs.size) (l := l') (fun z o q => e₄ _ _ (le' z o q)) (far F₃) (le_none le' (size_none h₃)) p₄
          refine ⟨l'', _, fun z o q => e₄ _ _ (e₃ _ _ (e₂ _ _ q)), gr.trans gr2 (Nat.le_refl _), le'', ⟨_, rfl, il2⟩, ?_⟩
          rw [show cut ps = [.atom .none] from if_pos (hul ▸ hz)]
          simp only [PlansIn]
          exact ⟨_, _, rfl, PlanIn.mono gr2.1 (PlanIn.atom' ⟨_, rfl, il⟩ .none), rfl⟩
        · rw [show decide (us.length ≠ 0) = true from by simpa using hz]
          simp only [if_true]
          have hua₂ : LIs h₂.get? ua us := hua.mono hle₂
          have hp₂ : h₂.IsList pa (Value.str (Mine.st "list") tt :: [.ref ua]).toArray := hp₁.at (e₂ _)
          refine w_slc (ev_at (v := .ref ua) (ev_fr F₂ rfl rfl) hp₂ rfl rfl) pt_none (pt_some ev_neg1) pt_none hua₂ (by decide) (by rw [hul]; omega) fun h₃ e₃ p₃ => ?_
          rw [slice_but1] at p₃
          have n₃ : h₂.get? (h₂.objs.size + 1) = none := Heap.get?_none_of_le (Nat.le_succ _)
          obtain ⟨l', gr, le', il⟩ := grow_list (n := h.objs.size) (l := l) (fun z o q => e₃ _ _ (hle₂ z o q)) (Nat.le_succ_of_le (far F₂)) (le_none hle₂ n₃) p₃
          refine ⟨l', _, fun z o q => e₃ _ _ (e₂ _ _ q), gr, le', ⟨_, rfl, il⟩, ?_⟩
          rw [show cut ps = ps.take (ps.length - 1) from if_neg (hul ▸ hz), hul]
          exact PlansIn.take _ (hps.mono gr.1)
      · obtain ⟨l', us', e₃, gr, le', iu, ip⟩ := q
        obtain ⟨t1, rfl⟩ := h1
        have F₃ := F.keeps e₃
        obtain ⟨l'', gr2, le'', il⟩ := grow_list (n := h.objs.size) (l := l') (fun z o q => e₄ _ _ (le' z o q)) (far F₃) (le_none le' (size_none h₃)) p₄
        exact ⟨.list (cut ps), l'', (F₃.keeps e₄).keep, gr.trans gr2 (Nat.le_refl _), le'', PlanIn.list' ⟨_, rfl, il⟩ (iu.mono gr2.1) (ip.mono gr2.1), BtR.cut hw⟩
  have hnl : ¬ (spot = 0 ∧ tag = Mine.st "list") := fun e => nomatch hc.mpr e
  refine w_cons (w_if (P := fun c => c = true ↔ (spot = 0 ∧ tag = Mine.st "node")) (ts_and (ts_eqI (ev_fr F rfl ⟨_, rfl⟩) ev_int) (fun q => ⟨(fun e => nomatch e), (fun e => nomatch q.mpr e.1)⟩) (fun q => W.mono (ts_eqs (ev_at (ev_fr F rfl rfl) hp₁ rfl ⟨_, rfl⟩) ev_str) fun c h' y => ⟨y.1, y.2.trans ⟨(fun e => ⟨q.mp rfl, e⟩), (fun e => e.2)⟩⟩)) (fun hc => ?_) (fun hc => w_nil ?_))
  · obtain ⟨rfl, hta⟩ := hc.mp rfl
    cases hT with
    | atom => exact absurd hta (by decide +kernel)
    | list => exact absurd hta (by decide +kernel)
    | params => exact absurd hta (by decide +kernel)
    | @node k tk u us ps hu hps =>
      obtain ⟨ua, rfl, hua⟩ := hu
      refine w_cons (w_ret (w_list (w_arg (w_ev ev_str fun v1 h1 => w_arg (w_meth (w_dict (D := tabK) (by kernel_rfl) (by kernel_rfl) (by decide +kernel) rfl rfl (fun e => nomatch e) (by decide) (big_K G.K) fun a h₂ e₂ s₂ T => gm_dget T (w_cwb (w_arg ?_))))))))
      have F₂ := F.keeps e₂
      have hle₂ : Le l h₂.get? := fun z o q => e₂ _ _ (hle₁ _ _ q)
      have hp₂ : h₂.IsList pa (Value.str (Mine.st "node") tt :: [.str k tk, .ref ua]).toArray := hp₁.at (e₂ _)
      refine w_ev (ev_at (v := .str k tk) (ev_fr F₂ rfl rfl) hp₂ rfl rfl) fun v3 h3 => w_arg (w_ev (ev_at (v := .str k tk) (ev_fr F₂ rfl rfl) hp₂ rfl rfl) fun v4 h4 => w_arg0 ?_)
      subst h3 h4
      refine w_dget T (PyProof.V.Flat.str _ _) fun v5 h5 => w_arg (w_ev (ev_at (v := .ref ua) (ev_fr F₂ rfl rfl) hp₂ rfl rfl) fun v6 h6 => w_arg0 (w_newlistO (by show 3 ≤ sizeLine; decide) fun h₃ z₃ e₃ p₃ => ?_))
      subst h6
      obtain ⟨t1, rfl⟩ := h1
      rw [bendK_look] at h5
      obtain ⟨t5, rfl⟩ := h5.str_inv
      obtain ⟨l', gr, le', il⟩ := grow_list (n := h.objs.size) (l := l) (fun z o q => e₃ _ _ (hle₂ z o q)) (far F₂) (le_none hle₂ (size_none h₂)) p₃
      exact ⟨.node (bendK k) ps, l', (F₂.keeps e₃).keep, gr, le', PlanIn.node' ⟨_, rfl, il⟩ (isL.mono ⟨_, rfl, hua⟩ gr.1) (hps.mono gr.1), BtR.kind hw⟩
  have hnn : ¬ (spot = 0 ∧ tag = Mine.st "node") := fun e => nomatch hc.mpr e
  refine w_cons (w_if (ts_eqI (ev_fr F rfl ⟨_, rfl⟩) ev_int) (fun hc => ?_) (fun hc => w_nil ?_))
  · exact w_cons (w_ret (w_ev (ev_fr F rfl rfl) fun v hv' => ⟨pl, l, F.keep, Grow.refl _ _, hle₁, hv' ▸ hv, BtR.refl hw⟩))
  have hs0 : spot ≠ 0 := fun e => nomatch hc.mpr e
  have hta : tag ≠ Mine.st "atom" := by
    cases hT with
    | atom => simp only [Plan.spots] at hsp; omega
    | node => decide +kernel
    | list => decide +kernel
    | params => decide +kernel
  obtain ⟨u, us, ps, hlast, ⟨ua, rfl, hua⟩, hps, hspE, hdq, hwA, hfin⟩ := hT.lastR hta hw
  have hlast' : (Value.str tag tt :: rr).getLast? = some (.ref ua) := by rw [List.getLast?_cons, hlast]; rfl
  have hul : us.length = ps.length := hps.length
  have hpl : ps.length ≤ 1000000 := by have := len_spots ps; omega
  have hbig : 2000000 ≤ sizeLine := by decide
  refine w_cons (w_swap2 (hrd _).1 (w_arg (w_ev (ev_sub (ev_fr F rfl ⟨_, rfl⟩) ev_int) fun v1 h1 => w_arg (w_list (w_arg0 (w_newlistO (by show 0 ≤ sizeLine; decide) fun h₂ z₂ e₂ p₂ => w_arg0 ⟨_, _, rfl, fun h₃ e₃ => ?_⟩))))))
  obtain ⟨t1, rfl⟩ := h1
  obtain ⟨d0, dL⟩ := none_of F (size_none h₁)
  have lD : l h₁.objs.size = none := le_none hle d0
  have dge : h.objs.size ≤ h₁.objs.size := far F
  have p₃ := p₂.mono e₃
  have F₃ := (F.keeps e₂).keeps e₃
  generalize h₁.objs.size = D at *
  refine w_st F₃ fun h₄ F₄ s₄ => w_st F₄ fun h₅ F₅ s₅ => ?_
  have p₅ : PL h₅.get? D [] := (p₃.but dL s₄).but dL s₅
  have hp₅ : h₅.IsList pa (Value.str tag tt :: rr).toArray := hpa.mono fun z o q => F₅.keep _ _ (hle _ _ q)
  have hle₅ : Le l h₅.get? := fun z o q => F₅.keep _ _ (hle _ _ q)
  have sq : ∀ {lk : Lk} {a : Addr} {vs : List Value}, LIs lk a vs → SeqAt lk a false vs := fun ⟨o, a, b, n, c⟩ => ⟨o, n, a, b, c⟩
  refine w_cons (w_forS (hrd _).1 (g := h) (L := L') (Dx := fun z => z = D) (Inv := fun i m lk => m (st "plan") = some (.ref pa) ∧ m (st "found") = some (.ref D) ∧ ∃ left t, m (st "left") = some (.int left t) ∧ ∃ li qs ws, Grow h.objs.size l li ∧ Le li lk ∧ li L' = none ∧ li D = none ∧ PlansIn li qs ws ∧ PL lk D ws ∧ ws.length ≤ i ∧ BtP ps i left qs) (vs := us) (a := ua) (tup := false) (w_ev (ev_last (ev_fr F₅ rfl rfl) ev_neg1 hp₅ hlast' rfl) fun v hv => ⟨hv.symm, sq (hua.mono hle₅), ?_, ?_, ?_, ?_, ?_, ?_, ?_⟩))
  · rintro rfl; obtain ⟨o, q, _⟩ := hua; rw [lL] at q; cases q
  · rintro rfl; obtain ⟨o, q, _⟩ := hua; rw [lD] at q; cases q
  · rintro z rfl; obtain ⟨n, e⟩ := p₅; rw [e]; exact fun e => nomatch e
  · exact fun i m lk lk' k ⟨a, b, left, t, c, li, qs, ws, d1, d2, d3, d4, d5, d6, d7⟩ => ⟨a, b, left, t, c, li, qs, ws, d1, d2.trans k, d3, d4, d5, d6.mono k, d7⟩
  · exact ⟨_, F₅, rfl, rfl, _, t1, rfl, l, [], [], Grow.refl _ _, hle₅, lL, lD, by simp only [PlansIn], p₅, Nat.le_refl _, .inl ⟨by rw [List.take_zero], by omega⟩⟩
  · rintro i v h₆ m I hv F₆ ⟨m1, m2, left, tl, m3, li, qs, ws, gr, lei, liL, liD, pin, plD, hwl, hbp⟩ hI hIg hIL hID keep
    obtain ⟨q, hq, hin⟩ := PlansIn.at hps hv
    have hqm := List.mem_of_getElem? hq
    have liI : li I = none := by
      cases c : li I with
      | none => rfl
      | some o => have := lei _ _ c; rw [Heap.hide_self] at this; cases this
    have hqd : q.dep ≤ d := by have := hdq q hqm; omega
    have hqs : q.spots ≤ 1000000 := by have := mem_spots hqm; omega
    have hqw := wfAll_mem hwA hqm
    have D6 : D ≠ I := Ne.symm hID
    refine w_asgname (w_st F₆ fun h₇ F₇ s₇ => w_cons (w_asg ?_))
    have lei₆ : Le li h₆.get? := lei.trans le_of_hide
    have lei₇ : Le li h₇.get? := fun z o c => (s₇.2 z (fun r => by rw [r, liL] at c; cases c)).trans (lei₆ _ _ c)
    have hle₇ : Le l h₇.get? := gr.1.trans lei₇
    have G₇ : Gl w p loose mean mg mb h₇ := Gl.ext ⟨H.K, H.T⟩ F₇.keep
    refine w_callee (ev_glob G₇ (by k_is)) (w_cw G₇ (by k_is) (w_arg (w_ev (ev_fr F₇ rfl rfl) fun v1 h1 => w_arg0 ⟨fun _ _ e => e, ?_⟩)))
    subst h1
    refine W.mono (WC.call (spots_w (d + 1) q (by omega) hqs _ _ _ _ hin hle₇ (hrd _) (At.here H.K H.T B₁ F₇ rfl rfl))) fun v2 h₈ q2 => ?_
    obtain ⟨⟨t2, rfl⟩, e₈⟩ := q2
    have F₈ := F₇.keeps e₈
    refine w_st F₈ fun h₉ F₉ s₉ => ?_
    have lei₉ : Le li h₉.get? := fun z o c => (s₉.2 z (fun r => by rw [r, liL] at c; cases c)).trans (e₈ _ _ (lei₇ _ _ c))
    have pl₉ : PL h₉.get? D ws := (((plD.mono le_of_hide).but dL s₇).mono e₈).but dL s₉
    have hI₉ : h₉.get? I ≠ none := by
      rw [s₉.2 I hIL]
      cases c : h₇.get? I with
      | none => exact absurd ((s₇.2 I hIL).symm.trans c) hI
      | some o => rw [e₈ _ _ c]; exact fun e => nomatch e
    have ltL : L' < h₉.objs.size := by obtain ⟨o, _, _, c, _⟩ := F₉.ns; exact Heap.lt_size c
    have ltD : D < h₉.objs.size := by obtain ⟨n, c⟩ := pl₉; exact Heap.lt_size c
    have ltI : I < h₉.objs.size := by
      cases c : h₉.get? I with
      | none => exact absurd c hI₉
      | some o => exact Heap.lt_size c
    obtain ⟨nD, oD⟩ := id pl₉
    refine w_cons (w_expr (w_meth (w_ev (ev_fr F₉ m2 rfl) fun v hv => ?_)))
    subst hv
    refine gm_list PySem.F.slot_list_append PySem.F.type_list_append oD (w_cwb (w_arg (W.mono (Q := fun v h' => ∃ q' li', Ext h₉ h' ∧ Grow h₉.objs.size li li' ∧ Le li' h'.get? ∧ PlanIn li' q' v ∧ ((0 ≤ left ∧ left < q.spots ∧ BtR q q') ∨ (¬ (0 ≤ left ∧ left < q.spots) ∧ q' = q))) ?karg fun v3 hA q3 => w_arg0 ?_)))
    case karg =>
      refine w_ifexp (ts_chain ev_int (ev_fr F₉ m3 ⟨_, rfl⟩) (ev_fr F₉ rfl ⟨_, rfl⟩)) (fun hb => ?_) (fun hb => ?_)
      · obtain ⟨b0, b1⟩ := hb.mp rfl
        have G₉ : Gl w p loose mean mg mb h₉ := Gl.ext ⟨H.K, H.T⟩ F₉.keep
        refine w_callee (ev_glob G₉ (by k_is)) (w_cw G₉ (by k_is) (w_arg (w_ev (ev_fr F₉ rfl rfl) fun v4 h4 => w_arg (w_ev (ev_fr F₉ m3 rfl) fun v5 h5 => w_arg0 ⟨fun _ _ e => e, ?_⟩))))
        subst h4 h5
        refine W.mono (WC.call (IH q hqd _ _ li _ _ _ (hin.mono gr.1) lei₉ hqw hqs b0 b1 (hrd _) (At.here H.K H.T B₁ F₉ rfl rfl))) fun v6 hA q6 => ?_
        obtain ⟨q', l', a1, a2, a3, a4, a5⟩ := q6
        exact ⟨q', l', a1, a2, a3, a4, .inl ⟨b0, b1, a5⟩⟩
      · refine w_ev (ev_fr F₉ rfl rfl) fun v4 h4 => ⟨q, li, fun _ _ e => e, Grow.refl _ _, lei₉, h4 ▸ hin.mono gr.1, .inr ⟨(fun e => nomatch hb.mpr e), rfl⟩⟩
    obtain ⟨q', li', eA, grA, leA, pA, hcase⟩ := q3
    have FA := F₉.keeps eA
    refine w_append (pl₉.mono eA) (by have := List.getElem?_eq_some_iff.mp hv; obtain ⟨hlt, _⟩ := this; omega) fun hB pB sB => ?_
    have FB := fr_butI FA d0 dL fun y o hy c => (sB.2 y hy).trans c
    have liL' := grA.none liL ltL
    have liD' := grA.none liD ltD
    have liI' := grA.none liI ltI
    refine w_cons (w_asg (w_ev (ev_sub (ev_fr FB m3 ⟨_, rfl⟩) (ev_fr FB rfl ⟨_, rfl⟩)) fun v7 h7 => w_st FB fun hC FC sC => w_nil ?_))
    obtain ⟨t7, rfl⟩ := h7
    have leC : Le li' hC.get? := fun z o c => (sC.2 z (fun r => by rw [r, liL'] at c; cases c)).trans ((sB.2 z (fun r => by rw [r, liD'] at c; cases c)).trans (leA _ _ c))
    refine ⟨⟨_, FC, m1, m2, _, t7, rfl, li', qs ++ [q'], ws ++ [v3], gr.trans grA (Nat.le_trans (far F₈) (Nat.le_of_eq s₉.1.symm)), fun z o c => (Heap.hide_ne _ (fun r => by rw [r, liI'] at c; cases c)).trans (leC _ _ c), liL', liD', ?_, ?_, ?_, ?_⟩, ?_⟩
    · exact PlansIn.snoc pA (pin.mono grA.1)
    · obtain ⟨n, c⟩ := pB.but dL sC
      exact ⟨n, (Heap.hide_ne _ D6).trans c⟩
    · rw [List.length_append, List.length_singleton]; omega
    · have tk : ps.take (i + 1) = ps.take i ++ [q] := by rw [List.take_add_one, hq]; rfl
      rcases hbp with ⟨b1, b2⟩ | ⟨b1, as, x, y, cs, b2, b3, b4⟩
      · rcases hcase with ⟨c1, c2, c3⟩ | ⟨c1, c2⟩
        · exact .inr ⟨by omega, ps.take i, q, q', [], tk, by rw [b1], c3⟩
        · refine .inl ⟨by rw [b1, c2, tk], ?_⟩
          have : ¬ left < q.spots := fun e => c1 ⟨b2, e⟩
          omega
      · rcases hcase with ⟨c1, _⟩ | ⟨c1, c2⟩
        · omega
        · refine .inr ⟨?_, as, x, y, cs ++ [q], by rw [tk, b2, List.append_assoc]; rfl, by rw [b3, c2, List.append_assoc]; rfl, b4⟩
          omega
    · exact fun z o hz hD c => (sC.2 z hz).trans ((sB.2 z hD).trans (eA _ _ ((s₉.2 z hz).trans (e₈ _ _ ((s₇.2 z hz).trans c)))))
  · rintro hA m FA ⟨m1, m2, left, tl, m3, li, qs, ws, gr, lei, liL, liD, pin, plD, hwl, hbp⟩ keep
    rw [hul] at hbp
    unfold BtP at hbp
    rw [List.take_length] at hbp
    have hbA : BtA ps qs := by
      rcases hbp with ⟨rfl, _⟩ | ⟨_, as, x, y, cs, rfl, rfl, b⟩
      · exact BtA.refl hwA
      · exact BtA.at b hwA
    obtain ⟨q', hq', hbuild⟩ := hfin qs hbA
    have hpA : hA.IsList pa (Value.str tag tt :: rr).toArray := hpa.mono fun z o q => FA.keep _ _ (hle _ _ q)
    have hrl : rr.length ≤ 2 := by cases hT' <;> simp
    refine w_cons (w_ret (w_bin (w_slc (ev_fr FA m1 rfl) pt_none (pt_some ev_neg1) pt_none hpA (by decide) (by rw [List.length_cons]; omega) fun hB eB pB => w_list (w_arg (w_ev (ev_fr (FA.keeps eB) m2 rfl) fun v5 h5 => w_arg0 (w_newlistO (by show 1 ≤ sizeLine; decide) fun hC zC eC pC => ?_))))))
    subst h5
    rw [slice_but1, List.length_cons, Nat.add_sub_cancel] at pB
    have FB := FA.keeps eB
    have FC := FB.keeps eC
    refine w_addlistO (pB.mono eC).lis pC.lis (by rw [List.length_take, List.length_cons, List.length_singleton]; omega) fun hE zE eE pE => ?_
    obtain ⟨l1, g1, e1', il1⟩ := grow_list (n := h.objs.size) (l := li) (fun z o c => eC _ _ (eB _ _ (lei _ _ c))) dge liD ((plD.mono eB).mono eC)
    obtain ⟨l2, g2, e2', il2⟩ := grow_list (n := h.objs.size) (l := l1) (fun z o c => eE _ _ (e1' _ _ c)) (far FC) (le_none e1' (size_none hC)) pE
    exact ⟨q', l2, (FC.keeps eE).keep, (gr.trans g1 (Nat.le_refl _)).trans g2 (Nat.le_refl _), e2', hbuild l2 _ D ws tt il2 (il1.mono g2.1) (pin.mono (g1.1.trans g2.1)), hq'⟩
theorem bent_all : ∀ d pl, pl.dep ≤ d → BentC prog w p loose mean mg mb (d + 1) pl
  | 0, pl, hd => absurd (Nat.le_trans (dep_pos pl) hd) (by decide)
  | d + 1, pl, hd => bent_w hd fun q hq => bent_all d q hq
end
end Mine

end

section
open PySem PySem.W PyProof.Rows PySem.Calls
set_option Elab.async false
set_option maxRecDepth 100000
set_option maxHeartbeats 400000
set_option linter.unusedVariables false
set_option pp.deepTerms false
set_option pp.deepTerms.threshold 5
set_option pp.maxSteps 4000
namespace Mine
section
variable {prog : Program} {w : World} {p : Program} {loose : List Str} {mean : ExcName → Option Value} {mg mb : Str → Option Value} {A : Around} {env : Env} {g h h' : Heap} {L b : Addr} {m : Str → Option Value}
theorem w_stcell {x : Str} {v : Value} {c : Addr} {v₀ : Option Value} {Q : Unit → Heap → Prop} (hv : h.IsCell c v₀) (k : ∀ h', h'.IsCell c (some v) → Heap.SameBut c h h' → Q () h') (hc : env.cells.lookup x = some c := by rfl) (hk : env.scope.kind = .function := by rfl) (hl : env.kindOf x = some .cell := by rfl) : W prog w A (storeName env x v) h Q :=
  W.mk fun s Qs hs kk => wpAny_storeName_cell hk hl hc (by rw [hs]; exact hv) fun h' a e => kk _ _ s.toks (k h' a (by rw [← hs]; exact e))
theorem w_addtup {a c : Addr} {vs : List Value} {v : Value} {Q : Value → Heap → Prop} (hl : SeqAt h.get? a true vs) (hb : SeqAt h.get? c true [v]) (hsz : vs.length + 1 ≤ sizeLine)
    (k : ∀ h' r, Ext h h' → SeqAt h'.get? r true (vs ++ [v]) → Q (.ref r) h') : W prog w A (binaryOp .Add (.ref a) (.ref c)) h Q := W.mk fun s Qs hh kk => by
  subst hh
  obtain ⟨⟨cls, dd, data, sl⟩, n, ho, hc, hd⟩ := id hl
  obtain ⟨⟨cls2, dd2, data2, sl2⟩, n2, ho2, hc2, hd2⟩ := id hb
  simp only [if_true] at hc hd hc2 hd2
  subst hc hd hc2 hd2
  by_cases he : vs = []
  · subst he
    exact concat_meets ⟨_, ho, rfl⟩ ⟨_, ho2, rfl⟩ noFill_tuple_add seq_tuple_add PySem.F.slot_tuple_add PySem.F.entry_tuple_add (PySem.F.args_tuple_add_2 _ _) (tuple_addW0 a c _ _ n n2 dd dd2 sl sl2 rfl) ⟨ho, ho2, kk _ _ s.toks (k _ _ (fun _ _ e => e) hb)⟩
  · refine concat_meets ⟨_, ho, rfl⟩ ⟨_, ho2, rfl⟩ noFill_tuple_add seq_tuple_add PySem.F.slot_tuple_add PySem.F.entry_tuple_add (PySem.F.args_tuple_add_2 _ _) (tuple_addW2 a c vs.toArray [v].toArray n n2 dd dd2 sl sl2 (by simpa using he) (by simp) (by simpa using hsz)) ⟨ho, ho2, kk _ _ s.toks (k _ _ (fun _ _ e => Heap.get?_push_of_some _ e) ⟨_, _, Heap.get?_push_size _ rfl, rfl, by simp; rfl⟩)⟩
theorem w_slcT {e lw : Expr} {p' pos : Pos} {a : Addr} {vs : List Value} {Q : Value → Heap → Prop} (x : Ev prog w A env e h (· = .ref a)) (pl : Ev prog w A env lw h (IsI 1)) (hl : SeqAt h.get? a true vs) (h1 : 1 ≤ vs.length) (hz : vs.length ≤ sizeLine)
    (k : ∀ h', Ext h h' → SeqAt h'.get? (h.objs.size + 1) true (vs.drop 1) → Q (.ref (h.objs.size + 1)) h')
    {ops : List Value} (hs : subscripted (.Slice (some lw) none none p') false (.ref a) (.ref h.objs.size) = operate ops (getItem (.ref a) (.ref h.objs.size)) := by with_unfolding_all rfl) : W prog w A (eval (.Subscript e (.Slice (some lw) none none p') pos) env) h Q := by
  refine w_sub (w_ev x fun o ho => ?_)
  subst ho
  refine W.mk fun s Qs hh kk => wpAny_Slice ((w_ev pl fun vl hvl => ?_ : W prog w A (evalPart (some lw) env) h fun vl h₁ => W prog w A (evalPart none env) h₁ fun vu h₂ => W prog w A (evalPart none env) h₂ fun vk h₃ => h₃ = h ∧ IsI 1 vl ∧ vu = .none ∧ vk = .none).run _ _ hh fun vl h₁ tk₁ q => q.run _ _ rfl fun vu h₂ tk₂ q => q.run _ _ rfl fun vk h₃ tk₃ q => ?_)
  · exact W.pure (W.pure ⟨rfl, hvl, rfl, rfl⟩)
  obtain ⟨rfl, ⟨t, rfl⟩, rfl, rfl⟩ := q
  refine kk _ _ _ (W.mk fun s' Qs' hs' kk' => ?_)
  have e1 : Ext h₃ s'.heap := fun z o q => by rw [hs']; exact Heap.get?_push_of_some _ q
  obtain ⟨o, n, q1, q2, q3⟩ := hl
  have hl' : IsTup s'.heap a vs.toArray := ⟨o, e1 _ _ q1, q2, n, q3⟩
  refine tail_any hl'.typeIs slot_tuple_getitem.lookup (getItem_tuple_from (a := 1) (u := t) hl' (by rw [hs']; exact Heap.IsSliceOf.new ..) (Nat.le_refl _) (by simpa using h1) ?_ (by simpa using hz)) hs
  have hz' : s'.heap.objs.size = h₃.objs.size + 1 := by rw [hs', Heap.size_push]
  rw [hz']
  refine kk' _ _ s'.toks (k _ (fun z o q => Heap.get?_push_of_some _ (e1 _ _ q)) ⟨{ cls := .type "tuple", data := .seq (vs.drop 1).toArray }, 0, ?_, rfl, rfl⟩)
  rw [← hz', Heap.get?_push_size _ rfl]
theorem w_ittup (hh : A.handled = none) {a : Addr} {items : Array Value} {Q : Value → Heap → Prop} (hl : h.IsTuple a items) (hb : h.get? b ≠ none) (hab : a ≠ b) (k : ∀ I fp St h₂, Src prog w A b items.size (fun i v => items[i]? = some v) h h₂ I fp St → Q (.ref I) h₂) : W prog w A (pyIter (.ref a)) h Q :=
  W.mk fun s Qs hs kk => wpAny_pyIter_tuple (by rw [hs]; exact hl) (by
    subst hs
    have hlt : a < s.heap.objs.size := by obtain ⟨o, ho, _⟩ := hl; exact Heap.lt_size ho
    refine kk _ _ s.toks (k _ _ _ _ ⟨Walks.tuple hh _ a (Nat.ne_of_lt hlt) items, ⟨⟨_, Heap.get?_push_size _ rfl, rfl, rfl⟩, hl.push _⟩, fun _ _ e => Heap.get?_push_of_some _ e, size_none _, by rw [Heap.size_push]; exact Nat.le_succ _, by simp, fun y hy => ?_⟩)
    simp only [List.mem_cons, List.not_mem_nil, or_false] at hy
    rcases hy with rfl | rfl
    · exact ⟨by rw [Heap.size_push]; exact Nat.lt_succ_self _, fun q => hb (q ▸ size_none _)⟩
    · exact ⟨by rw [Heap.size_push]; exact Nat.lt_succ_of_lt hlt, hab⟩)
theorem items_ints {acc : Array Value} {n : Nat} (h : ItemsOf (fun i v => ∃ t, v = .int (0 + i * 1) t) acc n) : acc.size = n ∧ ∀ i (hi : i < acc.size), ∃ t, acc[i] = .int i t := by
  refine ⟨h.1, fun i hi => ?_⟩
  obtain ⟨t, e⟩ := h.2 i acc[i] (Array.getElem?_eq_getElem hi)
  exact ⟨t, by rw [e]; congr 1; omega⟩
theorem w_listrange (hh : A.handled = none) {d : Int} {t : Tok} {Q : Value → Heap → Prop} (h0 : 0 ≤ d) (hd : d ≤ 2 ^ 24) (k : ∀ h' a vs, Ext h h' → h'.IsList a vs → (vs.size : Int) = d → (∀ i (hi : i < vs.size), ∃ t, vs[i] = .int i t) → Q (.ref a) h') :
    W prog w A (call (.type "range") [.int d t]) h fun r h₁ => W prog w A (call (.type "list") [r]) h₁ Q := W.mk fun s Qs hs kk => call_range_1 (by
  subst hs
  refine kk _ _ _ (W.mk fun s' Qs' hs' kk' => ?_)
  refine call_list_range (n := d.toNat) hh (by rw [hs']; exact IsRange.new _ _ _ _ _ _ _) ?_ ?_ ?_ fun h' tk acc c' e o it => ?_
  · exact small_one (by decide) (by decide) (by omega) (by omega)
  · rw [rangeSize_nat, Int.sub_zero]
  · omega
  · obtain ⟨i1, i2⟩ := items_ints it
    exact kk' _ _ _ (k _ _ _ (fun z o q => e _ _ (by rw [hs']; exact Heap.get?_push_of_some _ q)) ⟨_, o, rfl, _, rfl⟩ (by omega) i2))
theorem ne_false {a c : Addr} {xs ys : Array Value} {Q : Value → Heap → Prop} (hu : A.units < cLine) (hl : h.IsList a xs) (hb : h.IsList c ys) (hz : xs.size = ys.size) (he : ∀ (A : Around) (s : Shared) j (h1 : j < xs.size) (h2 : j < ys.size), PySem.SeqAt.EqAt A s xs[j] ys[j] true) (k : Q (.bool false) h) : W prog w A (compareOp .NotEq (.ref a) (.ref c)) h Q := W.mk fun s Qs hs kk => by
  subst hs
  have := PySem.SeqAt.RcNeAt.lists (A := A) (s := s) (e := fun _ => true) hl hb hz hu (fun j h1 h2 => he _ _ j h1 h2)
  refine this _ _ _ _ ?_
  have hall : (List.range xs.size).all (fun _ => true) = true := by simp
  rw [hall]
  exact kk _ _ s.toks k
theorem ev_isnotNone {l r : Expr} {pos : Pos} (x : Ev prog w A env l h (· = .none)) (y : Ev prog w A env r h (· = .none)) (hb : behindInMarks .IsNot r = false := by rfl) : Ts prog w A env (.Compare l [.IsNot] [r] pos) h (· = false) :=
  ts_cmp x y (fun _ _ e e' => by subst e e'; exact W.still fun s _ _ k => wpAny_isNot_self (by rfl) (k _ s.toks ⟨_, rfl, rfl⟩)) hb
theorem w_repr {pl : Plan} {v : Value} {l : Lk} {Q : Value → Heap → Prop} (hg : A.guards = some []) (hu : A.units + (2 * pl.dep + 1) < cLine) (hin : PlanIn l pl v) (hle : Le l h.get?) (hw : pl.Wf) (hs : pl.spots ≤ 500000) (k : ∀ h' u, Ext h h' → Q (.str pl.enc.shown u) h') : W prog w A (call (.builtin "repr") [v]) h Q := W.mk fun s Qs hh kk => by
  subst hh
  obtain ⟨as, r⟩ := (hin.mono hle).reads
  obtain ⟨a, x, t, rr, rfl, _⟩ := hin.tag
  obtain ⟨s1, s2, s3⟩ := show_enc pl hw
  have hl := shown_le pl hw
  have : 500000 * 30 ≤ sizeLine := by decide
  exact repr_of_reads' r s1 (PyData.noDict_hsm s3) hg (by omega) (fun _ _ e => e) (fun h' u tk e => kk _ _ _ (k h' u e)) (by omega)
structure ForR (prog : Program) (w : World) (A : Around) (env : Env) (target : Expr) (body : List Stmt) (Q : Flow → Heap → Prop) (g : Heap) (L : Addr) (Dx : Addr → Prop) (Inv : Nat → (Str → Option Value) → Lk → Prop) (n : Nat) (h : Heap) : Prop where
  mono : ∀ i m l l', Le l l' → Inv i m l → Inv i m l'
  start : ∃ m, Fr g L h m ∧ Inv 0 m h.get?
  step : ∀ (i : Nat) (t : Tok) (h₁ : Heap) (m : Str → Option Value) (I : Addr), i < n → Fr g L h₁ m → Inv i m (h₁.hide I).get? → h₁.get? I ≠ none → g.get? I = none → I ≠ L → ¬ Dx I → (∀ z o, z ≠ L → ¬ Dx z → h.get? z = some o → h₁.get? z = some o) →
    W prog w A (assign target env (.int i t)) h₁ fun _ h₂ => W prog w A (execs body env) h₂ fun f h₃ => match f with
      | .next | .cont => (∃ m', Fr g L h₃ m' ∧ Inv (i + 1) m' (h₃.hide I).get?) ∧ ∀ z o, z ≠ L → ¬ Dx z → h₁.get? z = some o → h₃.get? z = some o
      | .brk => Q .next h₃
      | .ret v => Q (.ret v) h₃
  fin : ∀ (h' : Heap) (m : Str → Option Value), Fr g L h' m → Inv n m h'.get? → (∀ z o, z ≠ L → ¬ Dx z → h.get? z = some o → h'.get? z = some o) → Q .next h'
theorem w_forR (hh : A.handled = none) {x : Str} {px : Pos} {iter : Expr} {body : List Stmt} {pos : Pos} {Q : Flow → Heap → Prop} {Dx : Addr → Prop} {Inv : Nat → (Str → Option Value) → Lk → Prop} {b : Addr}
    (k : W prog w A (eval iter env) h fun xv h₁ => ∃ n, (∀ Q' : Value → Heap → Prop, (∀ I fp St h₂, Src prog w A b n (fun i v => ∃ t, v = .int (0 + i * 1) t) h₁ h₂ I fp St → fp = [I] → (∀ j h, St j h → h.get? I ≠ none) → Q' (.ref I) h₂) → W prog w A (pyIter xv) h₁ Q') ∧ (∀ z, Dx z → h₁.get? z ≠ none) ∧ ForR prog w A env (.Name x px) body Q g L Dx Inv n h₁)
    (hs : ∀ x, foldedSetIterable iter env x = pure x := by intro _; rfl) : W prog w A (exec (.For (.Name x px) iter body [] pos) env) h Q := by
  refine w_for (W.mono k fun xv h₁ q => ?_) hs
  obtain ⟨n, hit, hDx, X⟩ := q
  refine hit _ fun I fp St h₂ src hfp hSt => ?_
  obtain ⟨m, F, i0⟩ := X.start
  have hI := src.new
  have hIL : I ≠ L := fun r => by obtain ⟨o, _, _, q, _⟩ := F.ns; rw [← r, hI] at q; cases q
  have hIg : g.get? I = none := by
    cases c : g.get? I with
    | none => rfl
    | some o => rw [F.keep _ _ c] at hI; cases hI
  have hD : ¬ Dx I := fun r => hDx _ r hI
  have ne : ∀ {y o}, h₁.get? y = some o → y ≠ I := fun q r => by rw [r, hI] at q; cases q
  refine ⟨I, fp, [I], n, _, _, St, (fun z => z = L ∨ Dx z), fun i h' => (∃ m, Fr g L h' m ∧ Inv i m (h'.hide I).get?) ∧ ∀ z o, z ≠ L → ¬ Dx z → h₁.get? z = some o → h'.get? z = some o, rfl, turns_of src.walks (fun i v s Q E _ hq => ?_), src.st, fun b hb => ?_, ?_, ⟨⟨m, F.keeps src.ext, X.mono _ _ _ _ (fun x o q => ?_) i0⟩, fun z o _ _ q => src.ext _ _ q⟩, ?_, ?_⟩
  · exact wpAny_pure hq
  · subst hfp
    obtain rfl := List.mem_singleton.mp hb
    exact fun z => z.elim hIL hD
  · rintro i h₃ h₄ ⟨⟨m, F, q⟩, k⟩ hk
    have k' : ∀ y o, y ≠ I → h₃.get? y = some o → h₄.get? y = some o := fun y o hy => hk y o (by simpa using hy)
    exact ⟨⟨m, fr_butI F hIg hIL k', X.mono _ _ _ _ (le_hide k') q⟩, fun z o a c q => k' _ _ (ne q) (k z o a c q)⟩
  · exact (Heap.hide_ne _ (ne q)).trans (src.ext _ _ q)
  · rintro i v h₃ hi ⟨⟨t, hv⟩, st'⟩ ⟨⟨m, F, q⟩, k⟩ _
    obtain rfl : v = .int i t := by rw [hv]; congr 1; omega
    refine W.mono (X.step i t h₃ m I hi F q (hSt _ _ st') hIg hIL hD k) fun _ h₃ y => W.mono y fun f h₄ y => ?_
    cases f with
    | next => exact ⟨⟨y.1, fun z o a c q => y.2 z o a c (k z o a c q)⟩, fun z o hz q => y.2 z o (fun r => hz (.inl r)) (fun r => hz (.inr r)) q⟩
    | cont => exact ⟨⟨y.1, fun z o a c q => y.2 z o a c (k z o a c q)⟩, fun z o hz q => y.2 z o (fun r => hz (.inl r)) (fun r => hz (.inr r)) q⟩
    | brk => exact y
    | ret v => exact y
  · rintro h' ⟨⟨m, F, q⟩, k⟩ _
    exact X.fin h' m F (X.mono _ _ _ _ le_of_hide q) k
end
end Mine

end

section
open PySem PySem.W PyProof.Rows PySem.Calls
set_option Elab.async false
set_option maxRecDepth 100000
set_option maxHeartbeats 1000000
set_option linter.unusedVariables false
set_option pp.deepTerms false
set_option pp.deepTerms.threshold 5
set_option pp.maxSteps 4000
namespace Mine
section
variable {prog : Program} {w : World} {p : Program} {loose : List Str} {mean : ExcName → Option Value} {mg mb : Str → Option Value} {A : Around} {env : Env} {g h h' : Heap} {L b : Addr} {m : Str → Option Value}
theorem wt_cmp {l r : Expr} {op : CmpOp} {pos : Pos} {Q : Bool → Heap → Prop} (x : W prog w A (eval l env) h fun a h₁ => W prog w A (eval r env) h₁ fun b h₂ => W prog w A (compareOp op a b) h₂ fun v h₃ => ∃ c, v = .bool c ∧ Q c h₃) (hb : behindInMarks op r = false := by rfl) : W prog w A (isTrue (.Compare l [op] [r] pos) env (eval (.Compare l [op] [r] pos) env)) h Q :=
  W.mk fun s Qs hs k => wpAny_isTrue_Compare1 (x.run s _ hs fun a h₁ tk q => q.run _ _ rfl fun b h₂ tk q => q.run _ _ rfl fun v h₃ tk q => by
    obtain ⟨c, rfl, q⟩ := q
    exact wpAny_truthy_bool (k _ _ _ q)) hb
def Tree.line : Tree → Int | .node _ _ l _ _ => l | _ => 0
mutual
theorem num_pre : ∀ (t : Tree) (C C' : Int), t.Num C C' → C' = C + (Tree.pre t).length ∧ ∀ (i : Nat) (u : Tree), (Tree.pre t)[i]? = some u → u.line = C + (i : Int)
  | .atom .., C, C', h => by simp only [Tree.Num] at h; subst h; simp [Tree.pre]
  | .node x k line pt ps, C, C', h => by
    simp only [Tree.Num] at h
    obtain ⟨rfl, h⟩ := h
    obtain ⟨a, b⟩ := nums_pre ps _ _ h
    refine ⟨by simp only [Tree.pre, List.length_cons]; omega, fun i u hu => ?_⟩
    simp only [Tree.pre] at hu
    cases i with
    | zero => simp at hu; subst hu; simp [Tree.line]
    | succ i => have := b i u (by simpa using hu); omega
  | .list _ _ ps, C, C', h => by simp only [Tree.Num] at h; simp only [Tree.pre]; exact nums_pre ps _ _ h
  | .params _ ps, C, C', h => by simp only [Tree.Num] at h; simp only [Tree.pre]; exact nums_pre ps _ _ h
theorem nums_pre : ∀ (ts : List Tree) (C C' : Int), Tree.Nums ts C C' → C' = C + (Tree.pres ts).length ∧ ∀ (i : Nat) (u : Tree), (Tree.pres ts)[i]? = some u → u.line = C + (i : Int)
  | [], C, C', h => by simp only [Tree.Nums] at h; subst h; simp [Tree.pres]
  | t :: ts, C, C', h => by
    simp only [Tree.Nums] at h
    obtain ⟨C₁, h1, h2⟩ := h
    obtain ⟨a, b⟩ := num_pre t _ _ h1
    obtain ⟨c, d⟩ := nums_pre ts _ _ h2
    refine ⟨by simp only [Tree.pres, List.length_append]; omega, fun i u hu => ?_⟩
    simp only [Tree.pres] at hu
    by_cases hlt : i < (Tree.pre t).length
    · rw [List.getElem?_append_left hlt] at hu; exact b i u hu
    · rw [List.getElem?_append_right (by omega)] at hu
      have := d _ u hu; omega
end
mutual
theorem pre_good {l : Lk} {d : Nat} : ∀ t : Tree, InT l t → t.plan.Ok → t.plan.spots ≤ 1000000 → t.plan.dep ≤ d → ∀ u ∈ t.pre, Tree.Good l d u
  | .atom .., _, _, _, _ => by simp only [Tree.pre]; exact fun u hu => nomatch hu
  | .node x k line pt ps, i, o, s, e => by
    have i' := i
    have o' := o
    simp only [InT] at i'
    simp only [Tree.plan, Plan.Ok] at o'
    have s' := s
    have e' := e
    simp only [Tree.plan, Plan.spots] at s'
    simp only [Tree.plan, Plan.dep] at e'
    simp only [Tree.pre]
    intro u hu
    cases hu with
    | head => exact ⟨i, rfl, o, s, e⟩
    | tail _ hu => exact pres_good ps i'.2.2 o'.2 (by omega) (by omega) u hu
  | .list _ _ ps, i, o, s, e => by
    simp only [InT] at i
    simp only [Tree.plan, Plan.Ok] at o
    simp only [Tree.plan, Plan.spots] at s
    simp only [Tree.plan, Plan.dep] at e
    simp only [Tree.pre]
    exact pres_good ps i.2 o (by omega) (by omega)
  | .params _ ps, i, o, s, e => by
    simp only [InT] at i
    simp only [Tree.plan, Plan.Ok] at o
    simp only [Tree.plan, Plan.spots] at s
    simp only [Tree.plan, Plan.dep] at e
    simp only [Tree.pre]
    exact pres_good ps i.2.2 o.1 (by omega) (by omega)
theorem pres_good {l : Lk} {d : Nat} : ∀ ts : List Tree, InTs l ts → Plan.OkAll (Tree.plans ts) → Plan.spotsAll (Tree.plans ts) ≤ 1000000 → Plan.depAll (Tree.plans ts) ≤ d → ∀ u ∈ Tree.pres ts, Tree.Good l d u
  | [], _, _, _, _ => by simp only [Tree.pres]; exact fun u hu => nomatch hu
  | t :: ts, i, o, s, e => by
    simp only [InTs] at i
    simp only [Tree.plans, Plan.OkAll] at o
    simp only [Tree.plans, Plan.spotsAll] at s
    simp only [Tree.plans, Plan.depAll] at e
    simp only [Tree.pres]
    intro u hu
    rcases List.mem_append.mp hu with q | q
    · exact pre_good t i.1 o.1 (by omega) (by omega) u q
    · exact pres_good ts i.2 o.2 (by omega) (by omega) u q
end
end
end Mine

end

section
open PySem PySem.W PyProof.Rows PySem.Calls
set_option Elab.async false
set_option maxRecDepth 100000
set_option maxHeartbeats 2000000
set_option linter.unusedVariables false
set_option pp.deepTerms false
set_option pp.deepTerms.threshold 5
set_option pp.maxSteps 4000
namespace Mine
section
variable {prog : Program} {w : World} {p : Program} {loose : List Str} {mean : ExcName → Option Value} {mg mb : Str → Option Value} {A : Around} {env : Env} {g h h' : Heap} {L b : Addr} {m : Str → Option Value}
def BoxL (lk : Lk) (b : Addr) (C : Int) : Prop := ∃ G D t1 t2 t3, 0 ≤ G ∧ G < 2 ^ 4000 ∧ LIs lk b [.int G t1, .int C t2, .int D t3]
theorem BoxL.mono {lk lk' : Lk} {b : Addr} {C : Int} (x : BoxL lk b C) (k : Le lk lk') : BoxL lk' b C := let ⟨G, D, t1, t2, t3, a, c, d⟩ := x; ⟨G, D, t1, t2, t3, a, c, d.mono k⟩
def CellL (lk : Lk) (c : Addr) : Prop := ∃ o v, lk c = some o ∧ o.data = .cell v
theorem CellL.mono {lk lk' : Lk} {c : Addr} (x : CellL lk c) (k : Le lk lk') : CellL lk' c := let ⟨o, v, a, d⟩ := x; ⟨o, v, k _ _ a, d⟩
theorem fr_turned (F : Fr g L h m) (k : ∀ z o, h.get? z = some o → z ∉ [L] → h'.get? z = some o) (kL : ∀ o, h.get? L = some o → ∃ sl, h'.get? L = some { o with slots := sl }) : Fr g L h' m := by
  refine ⟨?_, fun b o q => k b o (F.keep b o q) (fun r => ?_), F.above⟩
  · obtain ⟨o, es, ep, q, d, r⟩ := F.ns
    obtain ⟨sl, q'⟩ := kL o q
    exact ⟨_, es, ep, q', d, r⟩
  · have := List.mem_singleton.mp r
    have h1 := Heap.lt_size q
    have h2 := F.above
    rw [this] at h1
    exact absurd (Nat.lt_of_lt_of_le h1 h2) (Nat.lt_irrefl _)
theorem kinds_name : ((kinds ++ leaves).all fun q => decide (q.1.length ≤ 100)) = true := by decide +kernel
theorem kindAr_name {k : Str} {n : Nat} (h : KindAr k n) : k.length ≤ 100 := by
  obtain ⟨sp, hm, _⟩ := h
  simpa using List.all_eq_true.mp kinds_name _ hm
theorem wt_refuse {k : Str} {t : Tok} {pa : Addr} {us : List Value} {Q : Value → Heap → Prop} {env₀ : Env} (K : (KK w.params).In g) (T : Top p loose mean mg mb g) (F : Fr g L h m) (hf : env₀.frame = some L) (hk₀ : env₀.scope.kind = .function) (hr : Room (callerA.deeper env₀) 5) (B : Below (callerA.deeper env₀) g [env₀] h) (hfr : framesOf [env₀] = [L])
    (hk : KindBad (KK w.params) k us.length) (hkl : k.length ≤ 100) (hvl : us.length ≤ 900) (hp : SeqAt h.get? pa true us) (kk : ∀ h', Fr g L h' m → (∀ z o, z ≠ L → h.get? z = some o → h'.get? z = some o) → Q (.bool true) h') :
    W prog w (callerA.deeper env₀) (call (.ref 271) [.str k t, .ref pa]) h Q := by
  have H : At w p loose mean mg mb (callerA.deeper env₀) h := At.here K T (below_caller g) F hf hk₀
  have D : KtsDicts (framesOf [env₀]) h := by
    rw [hfr]
    intro b hb
    obtain rfl := List.mem_singleton.mp hb
    obtain ⟨o, es, ep, q, d, _⟩ := F.ns
    exact ⟨o, es, ep, q, d⟩
  refine W.mono (WC.call (refuses_w (base := g) (outer := [env₀]) H B K T D hr hk hkl hvl hp)) fun v h' q => ?_
  obtain ⟨rfl, q1, q2⟩ := q
  rw [hfr] at q1 q2
  exact kk h' (fr_turned F q1 fun o q => q2 L o q (.head _)) fun z o hz q => q1 z o q (by simpa using hz)
end
end Mine

end

section
open PySem PySem.W PyProof.Rows PySem.Calls
set_option Elab.async false
set_option maxRecDepth 100000
set_option maxHeartbeats 8000000
set_option linter.unusedVariables false
set_option pp.deepTerms false
set_option pp.deepTerms.threshold 5
set_option pp.maxSteps 4000
namespace Mine
section
variable {prog : Program} {w : World} {p : Program} {loose : List Str} {mean : ExcName → Option Value} {mg mb : Str → Option Value} {A : Around} {env : Env} {g h h' : Heap} {L b : Addr} {m : Str → Option Value}
theorem strs_at : ∀ {vs : List Value} {ns : List Str} {i : Nat} {v : Value}, StrsAre vs ns → vs[i]? = some v → ∃ x t, v = .str x t ∧ ns[i]? = some x
  | _, _, i, v, .nil, e => by simp at e
  | _, _, 0, v, .cons x t r, e => by cases e; exact ⟨x, t, rfl, rfl⟩
  | _, _, i + 1, v, .cons x t r, e => by
    obtain ⟨y, u, a, b⟩ := strs_at r (i := i) (by simpa using e)
    exact ⟨y, u, a, by simpa using b⟩
theorem wt_or3 {l r s : Expr} {pos : Pos} {Q : Bool → Heap → Prop} (x : W prog w A (isTrue l env (eval l env)) h fun c h' => if c = true then Q true h' else W prog w A (isTrue r env (eval r env)) h' fun c h' => if c = true then Q true h' else W prog w A (isTrue s env (eval s env)) h' Q) : W prog w A (isTrue (.BoolOp .Or [l, r, s] pos) env (eval (.BoolOp .Or [l, r, s] pos) env)) h Q :=
  W.mk fun s₀ Qs hs k => wpAny_isTrue_BoolOp (wpAny_allTrue_Or_cons (x.run s₀ _ hs fun b h' tk q => by
    cases b with
    | true => exact k _ _ _ q
    | false => exact wpAny_allTrue_Or_cons (q.run _ _ rfl fun b h'' tk' q' => by
        cases b with
        | true => exact k _ _ _ q'
        | false => exact wpAny_allTrue_Or_cons (q'.run _ _ rfl fun b h'' tk' q' => by
            cases b with
            | true => exact k _ _ _ q'
            | false => exact wpAny_allTrue_Or_nil (k _ _ _ q')))))
theorem w_cmpE {l r : Expr} {op : CmpOp} {pos : Pos} {Q : Value → Heap → Prop} (x : W prog w A (eval l env) h fun a h₁ => W prog w A (eval r env) h₁ fun b h₂ => W prog w A (compareOp op a b) h₂ Q) (hb : behindInMarks op r = false := by rfl) : W prog w A (eval (.Compare l [op] [r] pos) env) h Q :=
  W.mk fun s Qs hs k => wpAny_Compare1 (x.run s _ hs fun a h₁ tk q => q.run _ _ rfl fun b h₂ tk q => q.run _ _ rfl fun v h₃ tk q => k _ _ _ q) hb
theorem ev_gtB {l r : Expr} {pos : Pos} {a b : Int} (x : Ev prog w A env l h (IsI a)) (y : Ev prog w A env r h (IsI b)) (hb : behindInMarks .Gt r = false := by rfl) : Ev prog w A env (.Compare l [.Gt] [r] pos) h (fun v => ∃ c, v = .bool c) :=
  ev_cmp x y (fun _ _ ⟨_, e⟩ ⟨_, e'⟩ => by subst e e'; exact W.still fun s _ _ k => gt_int (k _ s.toks ⟨_, rfl⟩)) hb
theorem w_eqs {x y : Str} {t u : Tok} {Q : Value → Heap → Prop} (k : Q (.bool (x == y)) h) : W prog w A (compareOp .Eq (.str x t) (.str y u)) h Q := W.mk fun s Qs hs kk => PySem.SeqAt.RcAt.str_str _ _ _ _ _ _ _ _ (by subst hs; exact kk _ _ s.toks k)
theorem w_neb {x y : Bool} {Q : Value → Heap → Prop} (k : Q (.bool (!(x == y))) h) : W prog w A (compareOp .NotEq (.bool x) (.bool y)) h Q := W.mk fun s Qs hs kk => PySem.SeqAt.RcNeAt.bool_bool _ _ _ _ _ _ (by subst hs; exact kk _ _ s.toks k)
theorem same_call {n : Nat} {t u : Tree} {Q : Bool → Heap → Prop} (H : At w p loose mean mg mb A h) (hr : Room A (n + 2)) (hn : t.msr ≤ n) (i : InT h.get? t) (j : InT h.get? u) (hl : Plan.Like t.plan u.plan) (s1 : t.plan.spots ≤ 1000000) (s2 : u.plan.spots ≤ 1000000) (k : ∀ h' b, Ext h h' → (b = true ↔ t.plan = u.plan) → Q b h') :
    W prog w A (call (.ref 183) [t.val, u.val]) h fun v h' => ∃ b, v = .bool b ∧ Q b h' :=
  W.mono (WC.call (same_all n t u hn _ _ i j hl s1 s2 hr H)) fun v h' ⟨b, e, x, y⟩ => ⟨b, e, k h' b x y⟩
theorem law_w {sc : Addr} {vs : List Value} {ns : List Int} (K : (KK w.params).In h) (T : Top p loose mean mg mb h) (hl : SeqAt h.get? sc false vs) (hi : IntsAre vs ns) (hz : vs.length ≤ 100) :
    WC prog w callerA (.call (.ref 276) ⟨[.ref sc], []⟩) h fun v h' => v = .bool true ∧ Ext h h' := by
  have B := below_caller h
  have H : At w p loose mean mg mb callerA h := ⟨K, T, _, _, B⟩
  refine' wc_enterC (binds := [(st "script", .ref sc)]) (news := []) H (fun _ _ e => e) (Nat.le_refl _) (fun _ h => nomatch h) ?k6 ?k7 ?k8 ?k9 ?kB ?kD ?_ ?c2 ?c3 ?c4
  case k6 => k_is
  case k7 => k_is
  case k8 => decide
  case k9 => exact fun _ _ => BindsTo.of_eq rfl
  case kB => exact rfl
  case kD => decide +kernel
  case c2 => exact rfl
  case c3 => exact rfl
  case c4 => exact rfl
  intro L' h₁ cells base outer hA F N' Y B₁ e₁ _ hL
  with_unfolding_all (change W _ _ _ (execs (_ :: _) (envOfC _ (Scope.mk _ _ _ _ _) _ _ _)) _ _)
  obtain ⟨co, rfl, hco⟩ := Y.one
  have hrd : ∀ e, Room (callerA.deeper e) 200 := fun e => Room.deeper (n := 200) (A := callerA) (by exact ⟨rfl, by decide, by decide⟩) e
  have G : ∀ {h' : Heap} {m : Str → Option Value}, Fr h L' h' m → Gl w p loose mean mg mb h' := fun F' => Gl.ext ⟨K, T⟩ F'.keep
  obtain ⟨hc₁, _, gc⟩ := N' _ (.head _)
  have cell₁ : h₁.IsCell (L' + 1) _ := ⟨co, hc₁, hco⟩
  have cL : L' + 1 ≠ L' := Nat.succ_ne_self _
  generalize hcc : L' + 1 = c at *
  refine w_cons (w_asg (w_callee (ev_glob (G F) (by k_is)) (w_cw (G F) (by k_is) (w_arg (w_ev (ev_fr F rfl rfl) fun v hv => w_arg0 ⟨fun _ _ e => e, ?_⟩)))))
  subst hv
  refine W.mono (WC.call (box_w (At.here K T B F rfl rfl) ((hrd _).less (by decide)) (hl.mono F.keep) hi hz)) fun v h₂ q => ?_
  obtain ⟨b, rfl, e₂, nb, bx⟩ := q
  obtain ⟨gb, bL⟩ := none_of F nb
  have bc : c ≠ b := fun r => by rw [← r, hc₁] at nb; cases nb
  refine w_st (F.keeps e₂) fun h₃ F₃ s₃ => ?_
  have bx₃ : BoxAt h₃ b 0 := BoxAt.p.at bx fun o q => (s₃.2 b bL).trans q
  have cell₃ := IsCell_ext cell₁ fun o q => (s₃.2 c cL).trans (e₂ _ _ q)
  refine w_cons (w_asg (w_callee (ev_glob (G F₃) (by k_is)) (w_cw (G F₃) (by k_is) (w_arg (w_ev (ev_fr F₃ rfl rfl) fun v1 h1 => w_arg (w_ev ev_int fun v2 h2 => w_arg0 ⟨fun _ _ e => e, ?_⟩))))))
  subst h1
  obtain ⟨t2, rfl⟩ := h2
  refine W.mono (WC.call (plan_all 3 (by decide) _ _ (fun _ => none) b 0 _ ⟨t2, rfl⟩ ((hrd _).less (by decide +kernel)) (At.here K T B (fr_hide F₃ gb bL) rfl rfl) (fun _ _ e => nomatch e) bx₃ (Int.le_refl _) (by decide +kernel))) fun vp h₄ q => ?_
  obtain ⟨pl, l₄, C₄, ⟨hok, hspb, hdpb, hnode, _⟩, pin, S₄, c0, c1⟩ := q
  have hnode := hnode rfl
  have hwf := hok.wf
  have hB3 : Bd 3 = 441432 := by decide +kernel
  have hD3 : Eb (Mine.st "n") + Dp 3 = 21 := by decide +kernel
  have hKb : Kb (Mine.st "n") (Bd 3) = 441432 := by decide +kernel
  rw [hKb] at hspb
  rw [hD3] at hdpb
  have k₄ : ∀ z o, z ≠ b → h₃.get? z = some o → h₄.get? z = some o := fun z o hz q => S₄.ext _ _ ((Heap.hide_ne _ hz).trans q)
  have F₄ := fr_butI F₃ gb bL k₄
  have cell₄ := IsCell_ext cell₃ fun o q => k₄ _ o bc q
  have ltL3 : L' < h₃.objs.size := by obtain ⟨o, _, _, q, _⟩ := F₃.ns; exact Heap.lt_size q
  have ltb3 : b < h₃.objs.size := by
    cases q : h₃.get? b with
    | none => exact absurd q (BoxAt.p.there bx₃)
    | some o => exact Heap.lt_size q
  have ltc3 : c < h₃.objs.size := by obtain ⟨o, q, _⟩ := cell₃; exact Heap.lt_size q
  have l₄L := S₄.grow.none rfl ltL3
  have l₄b := S₄.grow.none rfl ltb3
  have l₄c := S₄.grow.none rfl ltc3
  have le₄ : Le l₄ h₄.get? := S₄.le.trans le_of_hide
  refine w_st F₄ fun h₅ F₅ s₅ => ?_
  have bx₅ : BoxAt h₅ b C₄ := BoxAt.p.at S₄.box fun o q => (s₅.2 b bL).trans q
  have cell₅ := IsCell_ext cell₄ fun o q => (s₅.2 c cL).trans q
  have le₅ : Le l₄ h₅.get? := fun z o q => (s₅.2 z (fun r => by rw [r, l₄L] at q; cases q)).trans (le₄ _ _ q)
  refine w_cons (w_asg (w_list (w_arg (w_ev ev_int fun v1 h1 => w_arg0 (w_newlistO (by show 1 ≤ sizeLine; decide) fun h₆ z₆ e₆ p₆ => ?_)))))
  obtain ⟨t1, rfl⟩ := h1
  have F₆ := F₅.keeps e₆
  obtain ⟨gT, TL⟩ := none_of F₅ (size_none h₅)
  have Tb : h₅.objs.size ≠ b := fun r => BoxAt.p.there bx₅ (by rw [← r]; exact size_none h₅)
  have Tc : h₅.objs.size ≠ c := fun r => by obtain ⟨o, q, _⟩ := cell₅; rw [← r, size_none h₅] at q; cases q
  have l₄T : l₄ h₅.objs.size = none := le_none le₅ (size_none h₅)
  generalize h₅.objs.size = Ta at *
  refine w_st F₆ fun h₇ F₇ s₇ => ?_
  have p₇ := p₆.but TL s₇
  have bx₇ : BoxAt h₇ b C₄ := BoxAt.p.at bx₅ fun o q => (s₇.2 b bL).trans (e₆ _ _ q)
  have cell₇ := IsCell_ext cell₅ fun o q => (s₇.2 c cL).trans (e₆ _ _ q)
  have le₇ : Le l₄ (h₇.hide Ta).get? := fun z o q => (Heap.hide_ne _ (fun r => by rw [r, l₄T] at q; cases q)).trans ((s₇.2 z (fun r => by rw [r, l₄L] at q; cases q)).trans (e₆ _ _ (le₅ _ _ q)))
  refine w_cons (w_asg (w_callee (ev_glob (G F₇) (by k_is)) (w_cw (G F₇) (by k_is) (w_arg (w_ev (ev_fr F₇ rfl rfl) fun v1 h1 => w_arg (w_ev (ev_fr F₇ rfl rfl) fun v2 h2 => w_arg (w_ev ev_bool fun v3 h3 => w_arg0 ⟨fun _ _ e => e, ?_⟩)))))))
  subst h1 h2 h3
  refine W.mono (WC.call (made_all 21 pl hdpb hwf (by omega) _ _ l₄ Ta 0 vp pin ((hrd _).less (by decide)) (At.here K T B (fr_hide F₇ gT TL) rfl rfl) le₇ ⟨t1, p₇.lis⟩ (Int.le_refl _))) fun v h₈ q => ?_
  obtain ⟨t, l₈, C₈, ⟨htp, hnum, _⟩, ⟨rfl, hit⟩, S₈⟩ := q
  have k₈ : ∀ z o, z ≠ Ta → h₇.get? z = some o → h₈.get? z = some o := fun z o hz q => S₈.ext _ _ ((Heap.hide_ne _ hz).trans q)
  have F₈ := fr_butI F₇ gT TL k₈
  have bx₈ : BoxAt h₈ b C₄ := BoxAt.p.at bx₇ fun o q => k₈ _ o (Ne.symm Tb) q
  have cell₈ := IsCell_ext cell₇ fun o q => k₈ _ o (Ne.symm Tc) q
  have ltL7 : L' < h₇.objs.size := by obtain ⟨o, _, _, q, _⟩ := F₇.ns; exact Heap.lt_size q
  have ltb7 : b < h₇.objs.size := by
    cases q : h₇.get? b with
    | none => exact absurd q (BoxAt.p.there bx₇)
    | some o => exact Heap.lt_size q
  have ltc7 : c < h₇.objs.size := by obtain ⟨o, q, _⟩ := cell₇; exact Heap.lt_size q
  have l₈L := S₈.grow.none l₄L ltL7
  have l₈b := S₈.grow.none l₄b ltb7
  have l₈c := S₈.grow.none l₄c ltc7
  have le₈ : Le l₈ h₈.get? := S₈.le.trans le_of_hide
  have pin₈ := pin.mono S₈.grow.1
  obtain ⟨tt, tal₈⟩ := S₈.box
  refine w_st F₈ fun h₉ F₉ s₉ => ?_
  have bx₉ : BoxAt h₉ b C₄ := BoxAt.p.at bx₈ fun o q => (s₉.2 b bL).trans q
  have cell₉ := IsCell_ext cell₈ fun o q => (s₉.2 c cL).trans q
  have le₉ : Le l₈ h₉.get? := fun z o q => (s₉.2 z (fun r => by rw [r, l₈L] at q; cases q)).trans (le₈ _ _ q)
  have tal₉ : h₉.IsList Ta #[.int C₈ tt] := tal₈.at fun o q => (s₉.2 Ta TL).trans q
  have hgd : ∀ {h' : Heap}, Le l₈ h'.get? → Tree.Good h'.get? 21 t := fun le => ⟨hit.mono le, by cases t <;> simp only [Tree.plan] at htp <;> subst htp <;> simp only [Plan.isNode, Bool.false_eq_true] at hnode <;> rfl, htp ▸ hok, by rw [htp]; omega, by rw [htp]; exact hdpb⟩
  obtain ⟨hC₈, hlines⟩ := num_pre t 0 C₈ hnum
  have hpl := Tree.pre_len t
  have hns := Tree.nodes_spots t.plan
  rw [htp] at hpl hns
  have hpg : ∀ {h' : Heap}, Le l₈ h'.get? → ∀ u ∈ t.pre, Tree.Good h'.get? 21 u := fun le => pre_good t (hgd le).in (hgd le).ok (hgd le).spots (hgd le).dep
  have hbig : 1000000 ≤ sizeLine := by decide
  refine w_cons (w_ifW (wt_cmp ?_))
  refine' w_comp ?q1 ?q2 ?q3 ?q4 ?q5 ?q6
  case q1 => exact rfl
  case q2 => decide
  case q3 => exact rfl
  case q4 => decide
  case q5 => exact rfl
  refine w_callee (ev_glob (G F₉) (by k_is)) (w_cw (G F₉) (by k_is) (w_arg (w_ev (ev_fr F₉ rfl rfl) fun v1 h1 => w_arg0 ⟨fun _ _ e => e, ?_⟩)))
  subst h1
  refine W.mono (WC.call (walk_w (d := 21) (At.here K T B F₉ rfl rfl) ((hrd _).less (by decide)) (hgd le₉))) fun v hA q => ?_
  obtain ⟨D, rfl, eA, pA⟩ := q
  have FA := F₉.keeps eA
  have leA : Le l₈ hA.get? := le₉.trans eA
  have ltA : hA.get? L' ≠ none := by obtain ⟨o, _, _, q, _⟩ := FA.ns; rw [q]; exact fun e => nomatch e
  refine w_itlist (b := L') (hrd _).1 pA.lis ltA (PL.neL FA pA) fun I fp St hB src => ?_
  refine CompP.comp (Pv := fun i y => ∃ u, t.pre[i]? = some u ∧ IsI u.line y) ⟨src, by rw [List.size_toArray, List.length_map]; omega, ?_, ?_⟩
  · intro i v hC mC hiC hv eC hn hm
    rw [List.getElem?_toArray, List.getElem?_map, Option.map_eq_some_iff] at hv
    obtain ⟨u, hu, rfl⟩ := hv
    have gu := hpg (leA.trans eC) u (List.mem_of_getElem? hu)
    obtain ⟨x, k, line, pt, ps, rfl⟩ := isNode_node gu.node
    have iu := gu.in
    simp only [InT] at iu
    obtain ⟨⟨tk, tl, iI⟩, _⟩ := iu
    exact W.mono (ev_attr (P := IsI line) (Gl.ext (G FA) eC).K (ev_loc hn hm rfl) iI (.tail _ (.tail _ (.head _))) rfl (by k_is) (by k_is) (by k_is) ⟨_, rfl⟩) fun v h' q => ⟨by obtain ⟨rfl, _⟩ := q; exact fun _ _ e => e, _, hu, q.2⟩
  intro ys D₂ hC hylen hys eC _ hD₂
  rw [List.size_toArray, List.length_map] at hylen
  have FC := FA.keeps eC
  have tal_C : hC.IsList Ta #[.int C₈ tt] := tal₉.at fun o q => eC _ _ (eA _ _ q)
  refine w_callee (ev_boot (G FC) (by k_is) (v := .type "list") rfl (by decide)) (w_cwtype (w_arg (w_callee (ev_boot (G FC) (by k_is) (v := .type "range") rfl (by decide)) (w_cwtype (w_arg (w_ev (ev_at (v := .int C₈ tt) (ev_fr FC rfl rfl) tal_C rfl rfl) fun v1 h1 => w_arg0 ?_))))))
  subst h1
  refine W.mono (w_listrange (Q := fun v h' => ∃ a vs, v = .ref a ∧ Ext hC h' ∧ h'.IsList a vs ∧ (vs.size : Int) = C₈ ∧ ∀ i (hi : i < vs.size), ∃ t, vs[i] = .int i t) (hrd _).1 (by omega) (by omega) fun h' a vs e1 e2 e3 e4 => ⟨a, vs, rfl, e1, e2, e3, e4⟩) fun r hr q => w_arg0 (W.mono q fun v hE q => ?_)
  obtain ⟨aR, rs, rfl, eE, hR, hRz, hRi⟩ := q
  have FE := FC.keeps eE
  have hz2 : ys.length = rs.size := by omega
  refine ne_false (by show callerA.units + 3 < cLine; decide) (hD₂.at fun o q => eE _ _ q) hR (by rw [List.size_toArray]; exact hz2) (fun A s j j1 j2 => ?_) ⟨false, rfl, ?_⟩
  · obtain ⟨u, hu, tu, hyu⟩ := hys j ys[j] (List.getElem?_eq_getElem (by simpa using j1))
    obtain ⟨tr, hr⟩ := hRi j j2
    have hl' := hlines j u hu
    have ey : ys.toArray[j] = .int u.line tu := by simpa using hyu
    rw [ey, hr, hl']
    have : (0 + (j : Int) == (j : Int)) = true := by simp
    rw [← this]
    exact PySem.SeqAt.EqAt.int_int _ _ _ _
  simp only [Bool.false_eq_true, if_false]
  refine w_nil ?_
  have leE : Le l₈ hE.get? := leA.trans (Le.trans eC eE)
  have bxE : BoxAt hE b C₄ := BoxAt.p.at bx₉ fun o q => eE _ _ (eC _ _ (eA _ _ q))
  have cellE := IsCell_ext cell₉ fun o q => eE _ _ (eC _ _ (eA _ _ q))
  have cellE' : CellL hE.get? c := let ⟨o, q, d⟩ := cellE; ⟨o, _, q, d⟩
  clear src hys hlines hRi hR tal_C tal₉ tal₈ hD₂ pA S₈ S₄ k₈ k₄ le₄ le₅ le₇ p₇ p₆
  refine w_cons (w_forSE (hrd _).1 (g := h) (L := L') (Dx := fun z => z = c) (Inv := fun i m lk => m (st "box") = some (.ref b) ∧ m (st "plan") = some vp ∧ m (st "tree") = some t.val ∧ m (st "script") = some (.ref sc) ∧ BoxL lk b C₄ ∧ Le l₈ lk ∧ CellL lk c) (vs := t.pre.map Tree.val) (tup := false) (w_callee (ev_glob (G FE) (by k_is)) (w_cw (G FE) (by k_is) (w_arg (w_ev (ev_fr FE rfl rfl) fun v1 h1 => w_arg0 ⟨fun _ _ e => e, ?_⟩)))))
  subst h1
  refine W.mono (WC.call (walk_w (d := 21) (At.here K T B FE rfl rfl) ((hrd _).less (by decide)) (hgd leE))) fun v hF q => ?_
  obtain ⟨D, rfl, eF, pF⟩ := q
  have FF := FE.keeps eF
  have Dc : D ≠ c := fun r => by
    obtain ⟨o, q, d⟩ := cellE
    obtain ⟨n, q'⟩ := pF
    rw [r, eF _ _ q] at q'
    cases q'
    cases d
  refine ⟨D, rfl, pF.seq, PL.neL FF pF, Dc, ?_, ?_, ?_, ?_, ?_⟩
  · rintro z rfl; obtain ⟨o, q, _⟩ := cellE; rw [eF _ _ q]; exact fun e => nomatch e
  · exact fun i m lk lk' k ⟨a1, a2, a3, a4, a5, a6, a7⟩ => ⟨a1, a2, a3, a4, a5.mono k, a6.trans k, a7.mono k⟩
  · exact ⟨_, FF, rfl, rfl, rfl, rfl, BoxL.mono bxE eF, leE.trans eF, cellE'.mono eF⟩
  · rintro i v hG mG I hv FG ⟨a1, a2, a3, a4, a5, a6, oc, vc, ca, cd⟩ hI hIg hIL hIc keep
    rw [List.getElem?_map, Option.map_eq_some_iff] at hv
    obtain ⟨u, hu, rfl⟩ := hv
    refine w_asgname (w_stcell (c := c) (v₀ := vc) (hc := by rw [← hcc]; rfl) ⟨oc, le_of_hide _ _ ca, cd⟩ fun hH cH sH => ?_)
    have FH := fr_butI FG gc cL fun y o hy q => (sH.2 y hy).trans q
    have kH : ∀ z o, z ≠ c → hG.get? z = some o → hH.get? z = some o := fun z o hz q => (sH.2 z hz).trans q
    have leH : Le l₈ hH.get? := fun z o q => kH z o (fun r => by rw [r, l₈c] at q; cases q) (le_of_hide _ _ (a6 _ _ q))
    have gu := hpg leH u (List.mem_of_getElem? hu)
    obtain ⟨x, k, line, pt, ps, rfl⟩ := isNode_node gu.node
    have iu := gu.in
    have ou := gu.ok
    simp only [InT] at iu
    simp only [Tree.plan, Plan.Ok] at ou
    obtain ⟨⟨tk, tl, iI⟩, iP, iS⟩ := iu
    obtain ⟨nsk, hkin, hnl, hnd⟩ := kind_in w.params ou.1
    rw [plans_len] at hnl
    have hp5 : ps.length ≤ 5 := by have := ou.1.le; rwa [plans_len] at this
    obtain ⟨ka, kvs, hk1, hk2, hk3⟩ := id hkin
    obtain ⟨kn, ksl, hko⟩ := hk3 hH (G FH).K
    have hkl : kvs.length = nsk.length := hk2.length
    refine w_cons (w_ifW (wt_or (wt_cmp ?_)))
    refine' w_comp ?r1 ?r2 ?r3 ?r4 ?r5 ?r6
    case r1 => exact rfl
    case r2 => decide
    case r3 => exact rfl
    case r4 => decide
    case r5 => exact rfl
    refine w_ev (ev_field (P := (· = .ref ka)) (G FH).K (ev_glob (G FH) (by k_is)) (ev_attr (P := IsS k) (G FH).K (ev_cell (by rw [← hcc]; rfl) cH rfl) iI (.head _) rfl (by k_is) (by k_is) (by k_is) ⟨_, rfl⟩) hk1 rfl) fun v1 h1 => ?_
    subst h1
    have ltH : hH.get? L' ≠ none := by obtain ⟨o, _, _, q, _⟩ := FH.ns; rw [q]; exact fun e => nomatch e
    have kaL : ka ≠ L' := fun r => by
      have := FH.keep ka
      obtain ⟨kn0, ksl0, hko0⟩ := hk3 h K
      rw [r] at hko0
      exact absurd (Heap.lt_size hko0) (by rw [hL]; exact Nat.lt_irrefl _)
    refine w_ittup (b := L') (hrd _).1 (items := kvs.toArray) ⟨_, hko, rfl, _, rfl⟩ ltH kaL fun I2 fp St hB2 src => ?_
    refine CompP.comp (Pv := fun i y => (ps.map Tree.val)[i]? = some y) ⟨src, Nat.le_trans (by rw [List.size_toArray, hkl, hnl]; exact hp5) (by decide : 5 ≤ sizeLine), ?_, ?_⟩
    · intro i v hK mK hiK hv eK hn hm
      obtain ⟨nm, tn, rfl, hnm⟩ := strs_at hk2 (by simpa using hv)
      have FK := FH.keeps eK
      have iI₂ := (iI.mono eK)
      have hilt : i < ps.length := by rw [← hnl]; exact (List.getElem?_eq_some_iff.mp hnm).1
      refine w_meth (w_ev (ev_cell (by rw [← hcc]; rfl) (IsCell_ext cH fun o q => eK _ _ q) rfl) fun v1 h1 => ?_)
      subst h1
      refine gm_inst (f := 137) (G FK).K iI₂ (by intro q hq; simp only [List.mem_cons, List.not_mem_nil, or_false] at hq; rcases hq with rfl | rfl | rfl | rfl <;> (show Mine.st _ ≠ Str.ofString "part"; decide)) (by k_is) (by k_is) (by k_is) (w_cwF (g := hH) (G FH) (by k_is) (w_arg (w_ev (ev_loc hn hm rfl) fun v2 h2 => w_arg0 ⟨eK, ?_⟩)))
      subst h2
      refine W.mono (WC.call (part_c (vs := ps.map Tree.val) (v := ps[i].val) (At.here K T B FK rfl rfl) ((hrd _).less (by decide)) iI₂ (iP.mono eK) hkin hnd (by rw [List.length_map]; omega) hnm (by rw [List.getElem?_map, List.getElem?_eq_getElem hilt]; rfl))) fun r h' q => ⟨q.2, ?_⟩
      rw [q.1, List.getElem?_map, List.getElem?_eq_getElem hilt]; rfl
    intro ys D₂ hJ hylen hys eJ _ hD₂
    rw [List.size_toArray, hkl, hnl] at hylen
    have FJ := FH.keeps eJ
    have cJ := IsCell_ext cH fun o q => eJ _ _ q
    refine w_callee (ev_boot (G FJ) (by k_is) (v := .type "list") rfl (by decide)) (w_cwtype (w_arg (w_ev (ev_attr (G FJ).K (ev_cell (by rw [← hcc]; rfl) cJ rfl) (iI.mono eJ) (.tail _ (.head _)) rfl (by k_is) (by k_is) (by k_is) rfl) fun v1 h1 => w_arg0 ?_)))
    subst h1
    have h5s : 5 ≤ sizeLine := by decide
    refine w_listcopy (iP.mono eJ) (by rw [List.length_map]; omega) fun aL hM cM eM _ oM => ?_
    have FM := FJ.keeps eM
    have cM' := IsCell_ext cJ fun o q => eM _ _ q
    refine ne_false (by show callerA.units + 3 < cLine; decide) (hD₂.at fun o q => eM _ _ q) ⟨_, oM, rfl, _, rfl⟩ (by rw [List.size_toArray, List.size_toArray, List.length_map]; exact hylen) (fun A s j j1 j2 => ?_) ⟨false, rfl, ?_⟩
    · have e1 := hys j ys[j] (List.getElem?_eq_getElem (by simpa using j1))
      have e2 : ys.toArray[j] = (ps.map Tree.val).toArray[j] := by
        have := (List.getElem?_eq_some_iff.mp e1).2
        simpa using this.symm
      rw [e2]
      exact PySem.SeqAt.EqAt.same _
    simp only [Bool.false_eq_true, if_false]
    refine w_ev (ev_isnotNone (ev_attr (G FM).K (ev_cell (by rw [← hcc]; rfl) cM' rfl) ((iI.mono eJ).mono eM) (.tail _ (.tail _ (.tail _ (.head _)))) rfl (by k_is) (by k_is) (by k_is) rfl) ev_none) fun cb hcb => ?_
    subst hcb
    simp only [Bool.false_eq_true, if_false]
    refine w_nil ?_
    have iIM := (iI.mono eJ).mono eM
    have iPM := (iP.mono eJ).mono eM
    have leM : Le l₈ hM.get? := (leH.trans eJ).trans eM
    clear src hys hD₂ oM
    have cMM : CellL hM.get? c := let ⟨o, q, d⟩ := cM'; ⟨o, _, q, d⟩
    have fin : ∀ hZ, Fr h L' hZ mG → (∀ z o, z ≠ L' → hM.get? z = some o → hZ.get? z = some o) → (∃ m', Fr h L' hZ m' ∧ m' (Mine.st "box") = some (.ref b) ∧ m' (Mine.st "plan") = some vp ∧ m' (Mine.st "tree") = some t.val ∧ m' (Mine.st "script") = some (.ref sc) ∧ BoxL (hZ.hide I).get? b C₄ ∧ Le l₈ (hZ.hide I).get? ∧ CellL (hZ.hide I).get? c) ∧ ∀ z o, z ≠ L' → ¬ z = c → hG.get? z = some o → hZ.get? z = some o := by
      intro hZ FZ kZ
      have up : ∀ z o, z ≠ L' → z ≠ c → hG.get? z = some o → hZ.get? z = some o := fun z o z1 z2 q => kZ z o z1 (eM _ _ (eJ _ _ (kH z o z2 q)))
      have up2 : ∀ z o, z ≠ L' → z ≠ c → (hG.hide I).get? z = some o → (hZ.hide I).get? z = some o := fun z o z1 z2 q => by
        have zI : z ≠ I := fun r => by rw [r, Heap.hide_self] at q; cases q
        rw [Heap.hide_ne _ zI] at q ⊢
        exact up z o z1 z2 q
      refine ⟨⟨mG, FZ, a1, a2, a3, a4, ?_, fun z o q => up2 z o (fun r => by rw [r, l₈L] at q; cases q) (fun r => by rw [r, l₈c] at q; cases q) (a6 _ _ q), ?_⟩, up⟩
      · obtain ⟨G', D', t1, t2, t3, g0, g1, o, q, d⟩ := a5
        exact ⟨G', D', t1, t2, t3, g0, g1, o, up2 b o bL (Ne.symm bc) q, d⟩
      · obtain ⟨o, v, q, d⟩ := cMM
        exact ⟨o, v, (Heap.hide_ne _ (Ne.symm hIc)).trans (kZ c o cL q), d⟩
    refine w_cons (w_ifW (wt_or (wt_not (wt_call (w_callee (ev_glob (G FM) (by k_is)) (w_cw (g := hM) (G FM) (by k_is) (w_arg (w_ev (ev_attr (P := IsS k) (G FM).K (ev_cell (by rw [← hcc]; rfl) cM' rfl) iIM (.head _) rfl (by k_is) (by k_is) (by k_is) ⟨_, rfl⟩) fun v1 h1 => w_arg (w_bin (w_ev (ev_attr (G FM).K (ev_cell (by rw [← hcc]; rfl) cM' rfl) iIM (.tail _ (.head _)) rfl (by k_is) (by k_is) (by k_is) rfl) fun v2 h2 => w_tup (w_arg (w_ev ev_none fun v3 h3 => w_arg0 (w_newtupO (by show 1 ≤ sizeLine; decide) fun hN zN eN oN => ?_)))))))))))))
    subst h2 h3
    obtain ⟨tk1, rfl⟩ := h1
    refine w_addtup (iPM.mono eN) ⟨_, _, oN, rfl, rfl⟩ (by rw [List.length_map]; omega) fun hO rO eO sO => w_arg0 ⟨fun _ _ q => eO _ _ (eN _ _ q), ?_⟩
    have FO := (FM.keeps eN).keeps eO
    refine wt_refuse K T FO rfl rfl ((hrd _).less (by decide)) (pushX B FO rfl rfl) rfl (.inr ⟨nsk, hkin, ?_, by omega⟩) (kindAr_name ou.1) ?_ sO fun hP FP kP => ⟨true, rfl, ?_⟩
    · rw [List.length_append, List.length_map, List.length_singleton]; omega
    · rw [List.length_append, List.length_map, List.length_singleton]; omega
    simp only [Bool.not_true, Bool.false_eq_true, if_false]
    have kP' : ∀ z o, z ≠ L' → hM.get? z = some o → hP.get? z = some o := fun z o hz q => kP z o hz (eO _ _ (eN _ _ q))
    have leP : Le l₈ hP.get? := fun z o q => kP' z o (fun r => by rw [r, l₈L] at q; cases q) (leM _ _ q)
    have gp := (hpg leP _ (List.mem_of_getElem? hu)).in
    simp only [InT] at gp
    obtain ⟨⟨tk2, tl2, iIP⟩, iPP, _⟩ := gp
    have cP := IsCell_ext cM' fun o q => kP' c o cL q
    refine wt_and (w_ev (ts_gt (ev_lenB (ev_boot (G FP) (by k_is) (v := .builtin "len") rfl (by decide)) (ev_attr (G FP).K (ev_cell (by rw [← hcc]; rfl) cP rfl) iIP (.tail _ (.head _)) rfl (by k_is) (by k_is) (by k_is) rfl) iPP (by rw [List.length_map]; omega)) ev_int) fun cb hcb => ?_)
    cases cb with
    | false =>
      simp only [Bool.false_eq_true, if_false]
      exact w_nil (w_nil (fin hP FP kP'))
    | true =>
      have hpos : 1 ≤ ps.length := by have := hcb.mp rfl; rw [List.length_map] at this; omega
      simp only [if_true]
      refine wt_not (wt_call (w_callee (ev_glob (G FP) (by k_is)) (w_cw (g := hP) (G FP) (by k_is) (w_arg (w_ev (ev_attr (P := IsS k) (G FP).K (ev_cell (by rw [← hcc]; rfl) cP rfl) iIP (.head _) rfl (by k_is) (by k_is) (by k_is) ⟨_, rfl⟩) fun v1 h1 => w_arg (w_slcT (ev_attr (G FP).K (ev_cell (by rw [← hcc]; rfl) cP rfl) iIP (.tail _ (.head _)) rfl (by k_is) (by k_is) (by k_is) rfl) ev_int iPP (by rw [List.length_map]; exact hpos) (by rw [List.length_map]; omega) fun hR eR sR => w_arg0 ⟨eR, ?_⟩))))))
      obtain ⟨tk1, rfl⟩ := h1
      have FR := FP.keeps eR
      refine wt_refuse K T FR rfl rfl ((hrd _).less (by decide)) (pushX B FR rfl rfl) rfl (.inr ⟨nsk, hkin, ?_, by omega⟩) (kindAr_name ou.1) ?_ sR fun hS FS kS => ⟨true, rfl, ?_⟩
      · rw [List.length_drop, List.length_map]; omega
      · rw [List.length_drop, List.length_map]; omega
      simp only [Bool.not_true, Bool.false_eq_true, if_false]
      exact w_nil (w_nil (fin hS FS fun z o hz q => kS z o hz (eR _ _ (kP' z o hz q))))
  · rintro hG mG FG ⟨a1, a2, a3, a4, a5, a6, _⟩ _
    have ht42 : t.msr ≤ 42 := by have := t.msr_le; rw [htp] at this; omega
    have hsp1 : t.plan.spots ≤ 441432 := by rw [htp]; exact hspb
    have gS : ∀ {h' : Heap} {m : Str → Option Value}, Fr h L' h' m → keepIn (KK w.params) (.ref 183) = true := fun _ => by k_is
    refine w_cons (w_ifW (wt_or3 (wt_not (wt_call (w_callee (ev_glob (G FG) (by k_is)) (w_cw (g := hG) (G FG) (by k_is) (w_arg (w_ev (ev_fr FG a3 rfl) fun v1 h1 => w_arg (w_callee (ev_glob (G FG) (by k_is)) (w_cw (g := hG) (G FG) (by k_is) (w_arg (w_ev (ev_fr FG a2 rfl) fun v2 h2 => w_arg (w_list (w_arg (w_ev ev_int fun v3 h3 => w_arg0 (w_newlistO (by show 1 ≤ sizeLine; decide) fun hN zN eN pN => w_arg (w_ev ev_bool fun v4 h4 => w_arg0 ⟨eN, ?_⟩)))))))))))))))))
    subst h1 h2 h4
    obtain ⟨t3, rfl⟩ := h3
    have FN := FG.keeps eN
    obtain ⟨gT2, T2L⟩ := none_of FG (size_none hG)
    have l₈T2 : l₈ hG.objs.size = none := le_none a6 (size_none hG)
    have le_N : Le l₈ (hN.hide hG.objs.size).get? := fun z o q => (Heap.hide_ne _ (fun r => by rw [r, l₈T2] at q; cases q)).trans (eN _ _ (a6 _ _ q))
    refine W.mono (WC.call (made_all 21 pl hdpb hwf (by omega) _ _ l₈ hG.objs.size 500 vp pin₈ ((hrd _).less (by decide)) (At.here K T B (fr_hide FN gT2 T2L) rfl rfl) le_N ⟨t3, pN.lis⟩ (by decide))) fun v hO q => ?_
    obtain ⟨t', l', C', ⟨htp', _, _⟩, ⟨rfl, hit'⟩, S'⟩ := q
    have kO : Ext hG hO := fun z o q => S'.ext _ _ ((Heap.hide_ne _ (fun r => by rw [r, size_none hG] at q; cases q)).trans (eN _ _ q))
    have FO := FG.keeps kO
    have leO : Le l' hO.get? := S'.le.trans le_of_hide
    refine w_arg0 ⟨kO, same_call (n := 42) (At.here K T B FO rfl rfl) ((hrd _).less (by decide)) ht42 (hit.mono (Le.trans a6 kO)) (hit'.mono leO) (by rw [htp, htp']; exact Plan.Like.refl _) (by omega) (by rw [htp']; omega) fun hP b1 eP hb1 => ?_⟩
    obtain rfl : b1 = true := hb1.mpr (by rw [htp, htp'])
    simp only [Bool.not_true, Bool.false_eq_true, if_false]
    have FP := FO.keeps eP
    have leP : Le l₈ hP.get? := (Le.trans a6 kO).trans eP
    refine wt_call (w_callee (ev_glob (G FP) (by k_is)) (w_cw (g := hP) (G FP) (by k_is) (w_arg (w_ev (ev_fr FP a3 rfl) fun v1 h1 => w_arg (w_ev ev_int fun v2 h2 => w_arg0 ⟨fun _ _ e => e, ?_⟩)))))
    subst h1
    obtain ⟨t5, rfl⟩ := h2
    refine same_call (n := 42) (u := .atom (.int 5 t5) (.int 5)) (At.here K T B FP rfl rfl) ((hrd _).less (by decide)) ht42 (hit.mono leP) (by simp only [InT]; exact .int _ _) ?_ (by omega) (by simp only [Tree.plan, Plan.spots]; decide) fun hR b2 eR hb2 => ?_
    · rw [htp]; cases pl <;> simp only [Plan.isNode, Bool.false_eq_true] at hnode
      simp only [Tree.plan, Plan.Like]
    obtain rfl : b2 = false := by
      cases b2 with
      | false => rfl
      | true => have := hb2.mp rfl; rw [htp] at this; simp only [Tree.plan] at this; rw [this] at hnode; cases hnode
    simp only [Bool.false_eq_true, if_false]
    have FR := FP.keeps eR
    have leR : Le l₈ hR.get? := leP.trans eR
    refine wt_call (w_callee (ev_glob (G FR) (by k_is)) (w_cw (g := hR) (G FR) (by k_is) (w_arg (w_list (w_arg (w_ev (ev_fr FR a3 rfl) fun v1 h1 => w_arg0 (w_newlistO (by show 1 ≤ sizeLine; decide) fun hS zS eS pS => w_arg (w_list (w_arg (w_ev (ev_fr (FR.keeps eS) a3 rfl) fun v2 h2 => w_arg (w_ev (ev_fr (FR.keeps eS) a3 rfl) fun v3 h3 => w_arg0 (w_newlistO (by show 2 ≤ sizeLine; decide) fun hU zU eU pU => w_arg0 ⟨fun _ _ q => eU _ _ (eS _ _ q), ?_⟩))))))))))))
    subst h1 h2 h3
    have FU := (FR.keeps eS).keeps eU
    have leU : Le l₈ hU.get? := (leR.trans eS).trans eU
    have spt : t.plan.spots ≤ 441432 := hsp1
    refine same_call (n := 43) (t := .list hR.objs.size false [t]) (u := .list hS.objs.size false [t, t]) (At.here K T B FU rfl rfl) ((hrd _).less (by decide)) ?_ ?_ ?_ ?_ ?_ ?_ fun hV b3 eV hb3 => ?_
    · simp only [Tree.msr, Tree.plans, Plan.depAll]; rw [htp]; omega
    · simp only [InT, InTs, List.map_cons, List.map_nil]; exact ⟨(pS.mono eU).seq, hit.mono leU, trivial⟩
    · simp only [InT, InTs, List.map_cons, List.map_nil]; exact ⟨pU.seq, hit.mono leU, hit.mono leU, trivial⟩
    · simp only [Tree.plan, Tree.plans, Plan.Like]; exact .inl (by simp only [List.length_cons, List.length_nil]; omega)
    · simp only [Tree.plan, Tree.plans, Plan.spots, Plan.spotsAll]; omega
    · simp only [Tree.plan, Tree.plans, Plan.spots, Plan.spotsAll]; omega
    obtain rfl : b3 = false := by
      cases b3 with
      | false => rfl
      | true => have := hb3.mp rfl; simp only [Tree.plan, Tree.plans, Plan.list.injEq] at this; exact absurd (congrArg List.length this) (by simp only [List.length_cons, List.length_nil]; omega)
    simp only [Bool.false_eq_true, if_false]
    refine w_nil ?_
    have FV := FU.keeps eV
    have leV : Le l₈ hV.get? := leU.trans eV
    have eGV : Ext hG hV := fun _ _ q => eV _ _ (eU _ _ (eS _ _ (eR _ _ (eP _ _ (kO _ _ q)))))
    have bxV : BoxL hV.get? b C₄ := a5.mono eGV
    have gbV : hV.get? b ≠ none := by obtain ⟨_, _, _, _, _, _, _, o, q, _⟩ := bxV; rw [q]; exact fun e => nomatch e
    refine w_cons (w_forR (hrd _).1 (g := h) (L := L') (b := L') (Dx := fun z => z = b) (Inv := fun i m lk => m (Mine.st "box") = some (.ref b) ∧ m (Mine.st "plan") = some vp ∧ m (Mine.st "tree") = some t.val ∧ Le l₈ lk ∧ ∃ C, 0 ≤ C ∧ C ≤ C₄ + i ∧ BoxL lk b C) ?_)
    · refine w_callee (ev_boot (G FV) (by k_is) (v := .type "range") rfl (by decide)) (w_cwtype (w_arg (w_ev (P := fun v => ∃ d t, v = .int d t ∧ (d = 1 ∨ d = 4)) (ev_bin (P₂ := fun v => ∃ d t, v = .int d t ∧ (d = 0 ∨ d = 3)) ev_int (ev_bin ev_int (ev_intB (ev_boot (G FV) (by k_is) (v := .type "int") rfl (by decide)) (ev_gtB (ev_lenB (ev_boot (G FV) (by k_is) (v := .builtin "len") rfl (by decide)) (ev_fr FV a4 rfl) (hl.mono FV.keep) (Nat.le_trans hz (by decide))) ev_int)) ?_) ?_) fun v hv => w_arg0 ?_)))
      · rintro _ _ ⟨_, rfl⟩ ⟨j, tj, rfl, j0, j1⟩
        exact W.still fun s _ _ k => mul_int (k _ _ ⟨_, _, rfl, by omega⟩) (IntMulOk.of_left (by decide))
      · rintro _ _ ⟨_, rfl⟩ ⟨j, tj, rfl, hj⟩
        exact W.still fun s _ _ k => add_int (k _ _ ⟨_, _, rfl, by omega⟩)
      obtain ⟨d, td, rfl, hd⟩ := hv
      have ltV : hV.get? L' ≠ none := by obtain ⟨o, _, _, q, _⟩ := FV.ns; rw [q]; exact fun e => nomatch e
      refine w_rngF (b := L') (hrd _).1 ltV (by rcases hd with rfl | rfl <;> decide) (by rcases hd with rfl | rfl <;> decide) fun r hW zW eW hrng => ⟨d.toNat, hrng, ?_, ?_, ?_, ?_, ?_⟩
      · rintro z rfl; obtain ⟨_, _, _, _, _, _, _, o, q, _⟩ := bxV; rw [eW _ _ q]; exact fun e => nomatch e
      · exact fun i m lk lk' k ⟨b1, b2, b3, b4, C, b5, b6, b7⟩ => ⟨b1, b2, b3, b4.trans k, C, b5, b6, b7.mono k⟩
      · exact ⟨_, FV.keeps eW, a1, a2, a3, leV.trans eW, C₄, c0, by omega, bxV.mono eW⟩
      · rintro i ti h₃' m I hi₁ F₃' ⟨b1, b2, b3, b4, C, b5, b6, b7⟩ hI hIg hIL hIb keep
        have l₈I : l₈ I = none := by
          cases q : l₈ I with
          | none => rfl
          | some o => have := b4 _ _ q; rw [Heap.hide_self] at this; cases this
        refine w_asgname (w_st F₃' fun hb Fb sb => ?_)
        have GT : Gl w p loose mean mg mb h := ⟨K, T⟩
        have leb : Le l₈ hb.get? := fun z o q => (sb.2 z (fun r => by rw [r, l₈L] at q; cases q)).trans (le_of_hide _ _ (b4 _ _ q))
        have bxb : BoxAt hb b C := BoxAt.p.at (show BoxAt h₃' b C from b7.mono le_of_hide) fun o q => (sb.2 b bL).trans q
        have hIb' : hb.get? I ≠ none := by rw [sb.2 I hIL]; exact hI
        have hi4 : i < 4 := by rcases hd with rfl | rfl <;> (simp at hi₁; omega)
        have hC40 : C ≤ 441432 + 4 := by rw [hB3] at c1; omega
        refine w_cons (w_asg (w_callee (ev_glob (G Fb) (by k_is)) (w_cw (g := h) GT (by k_is) (w_arg (w_ev (ev_fr Fb b2 rfl) fun v1 h1 => w_arg (w_callee (ev_glob (G Fb) (by k_is)) (w_cw (g := h) GT (by k_is) (w_arg (w_ev (ev_fr Fb b1 rfl) fun v2 h2 => w_arg (w_callee (ev_glob (G Fb) (by k_is)) (w_cw (g := h) GT (by k_is) (w_arg (w_ev (ev_fr Fb b2 rfl) fun v3 h3 => w_arg0 ⟨Fb.keep, ?_⟩)))))))))))))
        subst h1 h2 h3
        refine W.mono (WC.call (spots_w 21 pl hdpb (by omega) _ _ l₈ vp pin₈ leb ((hrd _).less (by decide)) (At.here K T B Fb rfl rfl))) fun v hc q => ?_
        obtain ⟨⟨ts1, rfl⟩, ec⟩ := q
        have Fc := Fb.keeps ec
        have bxc : BoxAt hc b C := BoxAt.p.at bxb fun o q => ec _ _ q
        have hps := spots_pos pl
        refine w_arg0 ⟨Fc.keep, W.mono (WC.call (take_w (At.here K T B (fr_hide Fc gb bL) rfl rfl) bxc b5 (by omega) (by omega) (by omega) (hrd _).room)) fun v hd' q => ?_⟩
        obtain ⟨dg, C', ⟨tdg, rfl⟩, d0, d1, C1, C2, ed, szd, bxd⟩ := q
        have kd : ∀ z o, z ≠ b → hc.get? z = some o → hd'.get? z = some o := fun z o hz q => ed _ _ ((Heap.hide_ne _ hz).trans q)
        have Fd := fr_butI Fc gb bL kd
        have led : Le l₈ hd'.get? := fun z o q => kd z o (fun r => by rw [r, l₈b] at q; cases q) (ec _ _ (leb _ _ q))
        refine w_arg0 ⟨Fd.keep, W.mono (WC.call (bent_all 21 pl hdpb _ _ l₈ vp dg tdg pin₈ led hwf (by omega) d0 d1 ((hrd _).less (by decide)) (At.here K T B Fd rfl rfl))) fun v he q => ?_⟩
        obtain ⟨q', lq, ee, gr, lqe, pq, bt⟩ := q
        have Fe := Fd.keeps ee
        have bxe : BoxAt he b C' := BoxAt.p.at bxd fun o q => ee _ _ q
        have ltLd : L' < hd'.objs.size := by obtain ⟨o, _, _, q, _⟩ := Fd.ns; exact Heap.lt_size q
        have ltbd : b < hd'.objs.size := by
          cases q : hd'.get? b with
          | none => exact absurd q (BoxAt.p.there bxd)
          | some o => exact Heap.lt_size q
        have lqL := gr.none l₈L ltLd
        have lqb := gr.none l₈b ltbd
        have qd : q'.dep ≤ 22 := by have := bt.dp; omega
        have qs : q'.spots ≤ 441433 := by have := bt.sp; omega
        refine w_st Fe fun hf Ff sf => ?_
        have lqf : Le lq hf.get? := fun z o q => (sf.2 z (fun r => by rw [r, lqL] at q; cases q)).trans (lqe _ _ q)
        have bxf : BoxAt hf b C' := BoxAt.p.at bxe fun o q => (sf.2 b bL).trans q
        refine w_cons (w_asg (w_cmpE (w_callee (ev_boot (G Ff) (by k_is) (v := .builtin "repr") rfl (by decide)) (w_cwb (w_arg (w_ev (ev_fr Ff rfl rfl) fun v1 h1 => w_arg0 ?_))))))
        subst h1
        refine w_repr (pl := q') (by exact rfl) (Nat.lt_trans (Nat.add_lt_add_left (by omega : 2 * q'.dep + 1 < 4 * 200) _) (hrd _).2.2) pq lqf bt.wf (by omega) fun hg1 u1 eg1 => ?_
        have Fg1 := Ff.keeps eg1
        refine w_callee (ev_boot (G Fg1) (by k_is) (v := .builtin "repr") rfl (by decide)) (w_cwb (w_arg (w_ev (ev_fr Fg1 b2 rfl) fun v1 h1 => w_arg0 ?_)))
        subst h1
        refine w_repr (pl := pl) (by exact rfl) (Nat.lt_trans (Nat.add_lt_add_left (by omega : 2 * pl.dep + 1 < 4 * 200) _) (hrd _).2.2) (pin₈.mono gr.1) (Le.trans lqf eg1) hwf (by omega) fun hg2 u2 eg2 => w_eqs ?_
        have Fg2 := Fg1.keeps eg2
        refine w_st Fg2 fun hh Fh sh => ?_
        have lqh : Le lq hh.get? := fun z o q => (sh.2 z (fun r => by rw [r, lqL] at q; cases q)).trans (eg2 _ _ (eg1 _ _ (lqf _ _ q)))
        have bxh : BoxAt hh b C' := BoxAt.p.at bxf fun o q => (sh.2 b bL).trans (eg2 _ _ (eg1 _ _ q))
        refine w_cons (w_asg (w_callee (ev_glob (G Fh) (by k_is)) (w_cw (g := h) GT (by k_is) (w_arg (w_ev (ev_fr Fh rfl rfl) fun v1 h1 => w_arg (w_list (w_arg (w_ev ev_int fun v2 h2 => w_arg0 (w_newlistO (by show 1 ≤ sizeLine; decide) fun hk zk ek pk => w_arg (we_eqi (n := 1) (w_ev (ev_mod (ev_fr (Fh.keeps ek) rfl ⟨_, rfl⟩) ev_int (by decide)) fun v3 h3 => ?_)))))))))))
        subst h1
        obtain ⟨t2', rfl⟩ := h2
        obtain ⟨t3', rfl⟩ := h3
        have Fk := Fh.keeps ek
        refine ⟨_, _, rfl, ev_int, w_arg0 ⟨Fk.keep, ?_⟩⟩
        obtain ⟨gT3, T3L⟩ := none_of Fh (size_none hh)
        have lqT3 : lq hh.objs.size = none := le_none lqh (size_none hh)
        have le_k : Le lq (hk.hide hh.objs.size).get? := fun z o q => (Heap.hide_ne _ (fun r => by rw [r, lqT3] at q; cases q)).trans (ek _ _ (lqh _ _ q))
        refine W.mono (WC.call (made_all 22 q' qd bt.wf (by omega) _ _ lq hh.objs.size 0 _ pq ((hrd _).less (by decide)) (At.here K T B (fr_hide Fk gT3 T3L) rfl rfl) le_k ⟨t2', pk.lis⟩ (by decide))) fun v hm q => ?_
        obtain ⟨t3, l3, C3, ⟨ht3, _, _⟩, ⟨rfl, hit3⟩, S3⟩ := q
        have km : Ext hh hm := fun z o q => S3.ext _ _ ((Heap.hide_ne _ (fun r => by rw [r, size_none hh] at q; cases q)).trans (ek _ _ q))
        have Fm := Fh.keeps km
        have le3 : Le l3 hm.get? := S3.le.trans le_of_hide
        have lm : Le l₈ hm.get? := (gr.1.trans lqh).trans km
        have ltLk : L' < hk.objs.size := by obtain ⟨o, _, _, q, _⟩ := Fk.ns; exact Heap.lt_size q
        have l3L := S3.grow.none lqL ltLk
        have bxm : BoxAt hm b C' := BoxAt.p.at bxh fun o q => km _ _ q
        refine w_st Fm fun hn Fn sn => ?_
        have le3n : Le l3 hn.get? := fun z o q => (sn.2 z (fun r => by rw [r, l3L] at q; cases q)).trans (le3 _ _ q)
        have ln : Le l₈ hn.get? := fun z o q => (sn.2 z (fun r => by rw [r, l₈L] at q; cases q)).trans (lm _ _ q)
        have bxn : BoxAt hn b C' := BoxAt.p.at bxm fun o q => (sn.2 b bL).trans q
        have hdue : (q'.enc.shown == pl.enc.shown) = true ↔ pl = q' := by
          rw [beq_iff_eq]
          constructor
          · intro e
            rcases bt.eq with r | r
            · exact r.symm
            · exact absurd e r
          · rintro rfl; rfl
        have s3 : t3.plan.spots ≤ 1000000 := by rw [ht3]; omega
        have m3 : t3.msr ≤ 44 := by have := t3.msr_le; rw [ht3] at this; omega
        refine w_cons (w_ifW (wt_or (wt_cmp (w_callee (ev_glob (G Fn) (by k_is)) (w_cw (g := h) GT (by k_is) (w_arg (w_ev (ev_fr Fn b3 rfl) fun v1 h1 => w_arg (w_ev (ev_fr Fn rfl rfl) fun v2 h2 => w_arg0 ⟨Fn.keep, ?_⟩))))))))
        subst h1 h2
        refine W.mono (same_call (n := 42) (Q := fun bb h' => Ext hn h' ∧ (bb = true ↔ t.plan = t3.plan)) (At.here K T B Fn rfl rfl) ((hrd _).less (by decide)) ht42 (hit.mono ln) (hit3.mono le3n) (by rw [htp, ht3]; exact bt.lk) (by omega) s3 fun h' bb e1 e2 => ⟨e1, e2⟩) fun v ho q => ?_
        obtain ⟨bb, rfl, eo, hbb⟩ := q
        have Fo := Fn.keeps eo
        refine w_ev (ev_fr Fo rfl rfl) fun v1 h1 => ?_
        subst h1
        refine w_neb ⟨_, rfl, ?_⟩
        have e1 : bb = (q'.enc.shown == pl.enc.shown) := by
          rw [Bool.eq_iff_iff, hbb, hdue, htp, ht3]
        rw [e1]
        simp only [beq_self_eq_true, Bool.not_true, Bool.false_eq_true, if_false]
        refine wt_cmp (w_callee (ev_glob (G Fo) (by k_is)) (w_cw (g := h) GT (by k_is) (w_arg (w_ev (ev_fr Fo rfl rfl) fun v1 h1 => w_arg (w_ev (ev_fr Fo b3 rfl) fun v2 h2 => w_arg0 ⟨Fo.keep, ?_⟩)))))
        subst h1 h2
        refine W.mono (same_call (n := 44) (Q := fun bb h' => Ext ho h' ∧ (bb = true ↔ t3.plan = t.plan)) (At.here K T B Fo rfl rfl) ((hrd _).less (by decide)) m3 (hit3.mono (Le.trans le3n eo)) (hit.mono (Le.trans ln eo)) (by rw [htp, ht3]; exact bt.kl) s3 (by omega) fun h' bb e1 e2 => ⟨e1, e2⟩) fun v hp' q => ?_
        obtain ⟨bb2, rfl, ep, hbb2⟩ := q
        have Fp := Fo.keeps ep
        refine w_ev (ev_fr Fp rfl rfl) fun v1 h1 => ?_
        subst h1
        refine w_neb ⟨_, rfl, ?_⟩
        have e2 : bb2 = (q'.enc.shown == pl.enc.shown) := by
          rw [Bool.eq_iff_iff, hbb2, hdue, htp, ht3]; exact eq_comm
        rw [e2]
        simp only [beq_self_eq_true, Bool.not_true, Bool.false_eq_true, if_false]
        have up : ∀ z o, z ≠ L' → z ≠ b → h₃'.get? z = some o → hp'.get? z = some o := fun z o z1 z2 q =>
          ep _ _ (eo _ _ ((sn.2 z z1).trans (km _ _ ((sh.2 z z1).trans (eg2 _ _ (eg1 _ _ ((sf.2 z z1).trans (ee _ _ (kd z o z2 (ec _ _ ((sb.2 z z1).trans q)))))))))))
        have bxp : BoxL hp'.get? b C' := BoxAt.p.at bxn fun o q => ep _ _ (eo _ _ q)
        have bI : b ≠ I := fun r => hIb r.symm
        refine w_nil (w_nil ⟨⟨_, Fp, b1, b2, b3, fun z o q => ?_, C', by omega, by omega, ?_⟩, up⟩)
        · have zI : z ≠ I := fun r => by rw [r, l₈I] at q; cases q
          exact (Heap.hide_ne _ zI).trans (ep _ _ (eo _ _ (ln _ _ q)))
        · obtain ⟨G', D', u1', u2', u3', g0, g1, o, q, d⟩ := bxp
          exact ⟨G', D', u1', u2', u3', g0, g1, o, (Heap.hide_ne _ bI).trans q, d⟩
      · rintro hz m' F' _ _
        refine w_cons (w_ifW (wt_or3 (wt_call (w_callee (ev_glob (G F') (by k_is)) (w_cw (g := h) ⟨K, T⟩ (by k_is) (w_arg (w_list (w_arg (w_ev ev_int fun v1 h1 => w_arg0 (w_newlistO (by show 1 ≤ sizeLine; decide) fun ha1 za1 ea1 pa1 => w_arg (w_tup (w_arg (w_ev ev_bool fun v2 h2 => w_arg0 (w_newtupO (by show 1 ≤ sizeLine; decide) fun ha2 za2 ea2 oa2 => w_arg0 ⟨((F'.keeps ea1).keeps ea2).keep, ?_⟩))))))))))))))
        obtain ⟨tk1, rfl⟩ := h1
        subst h2
        have Fa2 := (F'.keeps ea1).keeps ea2
        refine same_call (n := 3) (t := .list _ false [.atom (.int 1 tk1) (.int 1)]) (u := .list _ true [.atom (.bool true) (.bool true)]) (At.here K T B Fa2 rfl rfl) ((hrd _).less (by decide)) ?_ ?_ ?_ ?_ ?_ ?_ fun hb1 c1 eb1 hc1 => ?_
        · simp only [Tree.msr, Tree.plans, Tree.plan, Plan.depAll, Plan.dep]; decide
        · simp only [InT, InTs, List.map_cons, List.map_nil, Tree.val]; exact ⟨(pa1.mono ea2).seq, .int _ _, trivial⟩
        · simp only [InT, InTs, List.map_cons, List.map_nil, Tree.val]; exact ⟨⟨_, _, oa2, rfl, rfl⟩, .bool _, trivial⟩
        · simp only [Tree.plan, Tree.plans, Plan.Like, Plan.LikeAll]; exact .inr ⟨trivial, trivial⟩
        · simp only [Tree.plan, Tree.plans, Plan.spots, Plan.spotsAll]; decide
        · simp only [Tree.plan, Tree.plans, Plan.spots, Plan.spotsAll]; decide
        obtain rfl : c1 = false := by
          cases c1 with
          | false => rfl
          | true => have := hc1.mp rfl; simp [Tree.plan, Tree.plans] at this
        simp only [Bool.false_eq_true, if_false]
        have Fb1 := Fa2.keeps eb1
        refine wt_call (w_callee (ev_glob (G Fb1) (by k_is)) (w_cw (g := h) ⟨K, T⟩ (by k_is) (w_arg (w_list (w_arg (w_ev ev_int fun v1 h1 => w_arg0 (w_newlistO (by show 1 ≤ sizeLine; decide) fun ha1 za1 ea1 pa1 => w_arg (w_list (w_arg (w_ev ev_bool fun v2 h2 => w_arg0 (w_newlistO (by show 1 ≤ sizeLine; decide) fun ha2 za2 ea2 pa2 => w_arg0 ⟨((Fb1.keeps ea1).keeps ea2).keep, ?_⟩)))))))))))
        obtain ⟨tk1, rfl⟩ := h1
        subst h2
        have Fa2 := (Fb1.keeps ea1).keeps ea2
        refine same_call (n := 3) (t := .list _ false [.atom (.int 0 tk1) (.int 0)]) (u := .list _ false [.atom (.bool false) (.bool false)]) (At.here K T B Fa2 rfl rfl) ((hrd _).less (by decide)) ?_ ?_ ?_ ?_ ?_ ?_ fun hb2 c2 eb2 hc2 => ?_
        · simp only [Tree.msr, Tree.plans, Tree.plan, Plan.depAll, Plan.dep]; decide
        · simp only [InT, InTs, List.map_cons, List.map_nil, Tree.val]; exact ⟨(pa1.mono ea2).seq, .int _ _, trivial⟩
        · simp only [InT, InTs, List.map_cons, List.map_nil, Tree.val]; exact ⟨pa2.seq, .bool _, trivial⟩
        · simp only [Tree.plan, Tree.plans, Plan.Like, Plan.LikeAll]; exact .inr ⟨trivial, trivial⟩
        · simp only [Tree.plan, Tree.plans, Plan.spots, Plan.spotsAll]; decide
        · simp only [Tree.plan, Tree.plans, Plan.spots, Plan.spotsAll]; decide
        obtain rfl : c2 = false := by
          cases c2 with
          | false => rfl
          | true => have := hc2.mp rfl; simp [Tree.plan, Tree.plans] at this
        simp only [Bool.false_eq_true, if_false]
        have Fb2 := Fa2.keeps eb2
        refine wt_not (wt_call (w_callee (ev_glob (G Fb2) (by k_is)) (w_cw (g := h) ⟨K, T⟩ (by k_is) (w_arg (w_list (w_arg (w_ev ev_int fun v1 h1 => w_arg (w_ev ev_str fun v2 h2 => w_arg (w_ev ev_none fun v3 h3 => w_arg0 (w_newlistO (by show 3 ≤ sizeLine; decide) fun ha1 za1 ea1 pa1 => w_arg (w_tup (w_arg (w_ev ev_int fun v4 h4 => w_arg (w_ev ev_str fun v5 h5 => w_arg (w_ev ev_none fun v6 h6 => w_arg0 (w_newtupO (by show 3 ≤ sizeLine; decide) fun ha2 za2 ea2 oa2 => w_arg0 ⟨((Fb2.keeps ea1).keeps ea2).keep, ?_⟩))))))))))))))))
        obtain ⟨tk1, rfl⟩ := h1
        obtain ⟨tk2, rfl⟩ := h2
        obtain ⟨tk4, rfl⟩ := h4
        obtain ⟨tk5, rfl⟩ := h5
        subst h3 h6
        have Fa2 := (Fb2.keeps ea1).keeps ea2
        refine same_call (n := 3) (t := .list _ false [.atom (.int 1 tk1) (.int 1), .atom (.str (Mine.st "x") tk2) (.str (Mine.st "x")), .atom .none .none]) (u := .list _ true [.atom (.int 1 tk4) (.int 1), .atom (.str (Mine.st "x") tk5) (.str (Mine.st "x")), .atom .none .none]) (At.here K T B Fa2 rfl rfl) ((hrd _).less (by decide)) ?_ ?_ ?_ ?_ ?_ ?_ fun hb3 c3 eb3 hc3 => ?_
        · simp only [Tree.msr, Tree.plans, Tree.plan, Plan.depAll, Plan.dep]; decide
        · simp only [InT, InTs, List.map_cons, List.map_nil, Tree.val]; exact ⟨(pa1.mono ea2).seq, .int _ _, .str _ _, .none, trivial⟩
        · simp only [InT, InTs, List.map_cons, List.map_nil, Tree.val]; exact ⟨⟨_, _, oa2, rfl, rfl⟩, .int _ _, .str _ _, .none, trivial⟩
        · simp only [Tree.plan, Tree.plans, Plan.Like, Plan.LikeAll]; exact .inr ⟨trivial, trivial, trivial, trivial⟩
        · simp only [Tree.plan, Tree.plans, Plan.spots, Plan.spotsAll]; decide
        · simp only [Tree.plan, Tree.plans, Plan.spots, Plan.spotsAll]; decide
        obtain rfl : c3 = true := hc3.mpr (by simp only [Tree.plan, Tree.plans])
        simp only [Bool.not_true, Bool.false_eq_true, if_false]
        have Fb3 := Fa2.keeps eb3
        refine w_nil (w_cons (w_ret (w_andE (w_callee (ev_glob (G Fb3) (by k_is)) (w_cw (g := h) ⟨K, T⟩ (by k_is) (w_arg (w_ev ev_str fun v1 h1 => w_arg (w_tup (w_arg0 (w_newtupO (by show 0 ≤ sizeLine; decide) fun ha1 za1 ea1 oa1 => w_arg0 ⟨(Fb3.keeps ea1).keep, ?_⟩))))))))))
        obtain ⟨tk1, rfl⟩ := h1
        have Fa1 := Fb3.keeps ea1
        refine wt_refuse K T Fa1 rfl rfl ((hrd _).less (by decide)) (pushX B Fa1 rfl rfl) rfl (us := []) (.inl (by k_is)) (by decide) (by decide) ⟨_, _, oa1, rfl, rfl⟩ fun hc1 Fc1 kc1 => ⟨true, rfl, ?_⟩
        simp only [if_true]
        refine w_and1 (w_callee (ev_glob (G Fc1) (by k_is)) (w_cw (g := h) ⟨K, T⟩ (by k_is) (w_arg (w_ev ev_str fun v1 h1 => w_arg (w_tup (w_arg (w_ev ev_int fun v2 h2 => w_arg0 (w_newtupO (by show 1 ≤ sizeLine; decide) fun ha1 za1 ea1 oa1 => w_arg0 ⟨(Fc1.keeps ea1).keep, ?_⟩))))))))
        obtain ⟨tk1, rfl⟩ := h1
        obtain ⟨tk2, rfl⟩ := h2
        have Fa1 := Fc1.keeps ea1
        exact wt_refuse K T Fa1 rfl rfl ((hrd _).less (by decide)) (pushX B Fa1 rfl rfl) rfl (us := [.int 1 tk2]) (.inl (by k_is)) (by decide) (by show 1 ≤ 900; decide) ⟨_, _, oa1, rfl, rfl⟩ fun hc2 Fc2 kc2 => ⟨rfl, Fc2.keep⟩
end
end Mine

end

section
open PySem PySem.W PyProof.Rows
set_option Elab.async false
set_option maxRecDepth 100000
set_option maxHeartbeats 8000000
namespace Mine
abbrev fn0 (name qual : Str) (params : Arguments) (body : List Stmt) (scope : Scope) : FuncData := { name, qualname := qual, params, body := .stmts body, scope, globals := 0, closure := [], defaults := .none, kwdefaults := .none, builtins := 0 }
noncomputable def b12pre : Obj := ⟨.none, none, .fields #[], #[]⟩
noncomputable def b13pre : Obj := ⟨.type "code", none, .fields #[.str (st "<module>") 182, .str (st "<module>") 183, .str (st "/claim/cut.py") 184, .int 1 0, .int 0 0, .int 0 0, .int 0 0, .int 0 0, .ref 11, .bool false, .int 181 0, .ref 12, .none, .none, .none, .none, .int 185 0, .int 1 0, .str (st "/claim/cut.py") 186], #[]⟩
noncomputable def b14pre : Obj := ⟨.type "frame", none, .plain, #[some (.ref 13), some (.ref 3), some (.ref 3), none, some (.str (st "__main__") 164), none, some (.ref 0)]⟩
noncomputable def b3p3 (P : Params) : Obj := ⟨.type "dict", none, .dict #[⟨PyData.keyHash P (st "__name__"), .str (st "__name__") 165, .str (st "gemrows.nodes") 233⟩, ⟨PyData.keyHash P (st "__doc__"), .str (st "__doc__") 166, .none⟩, ⟨PyData.keyHash P (st "__package__"), .str (st "__package__") 167, .none⟩, ⟨PyData.keyHash P (st "__loader__"), .str (st "__loader__") 168, .builtin "__main__.__loader__#opaque"⟩, ⟨PyData.keyHash P (st "__spec__"), .str (st "__spec__") 169, .none⟩, ⟨PyData.keyHash P (st "__annotations__"), .str (st "__annotations__") 170, .ref 6⟩, ⟨PyData.keyHash P (st "__builtins__"), .str (st "__builtins__") 171, .ref 4⟩, ⟨PyData.keyHash P (st "__file__"), .str (st "__file__") 173, .str (st "/claim/cut.py") 172⟩, ⟨PyData.keyHash P (st "__cached__"), .str (st "__cached__") 174, .none⟩, ⟨PyData.keyHash P (st "GemError"), .str (st "GemError") 216, .ref 32⟩, ⟨PyData.keyHash P (st "BadArgument"), .str (st "BadArgument") 232, .ref 45⟩] 11, #[]⟩
noncomputable def b47p3 : Obj := ⟨.type "builtin_function_or_method", none, .fields #[.builtin "object.__init_subclass__", .ref 45], #[]⟩
noncomputable def b19p3 : Obj := ⟨.none, none, .fields #[.int 4 0, .int 4 0, .ref 28], #[]⟩
noncomputable def b35p3 : Obj := ⟨.type "builtin_function_or_method", none, .fields #[.builtin "object.__init_subclass__", .ref 32], #[]⟩
noncomputable def b27p3 : Obj := ⟨.none, none, .func (fn0 (st "__init__") (st "GemError.__init__") (fArgs (clsSt 1 0)) (fBody (clsSt 1 0)) (fScope (clsSt 1 0))), #[]⟩
noncomputable def b17p3 (P : Params) : Obj := ⟨.type "dict", none, .dict #[⟨PyData.keyHash P (st "__module__"), .str (st "__module__") 196, .str (st "gemrows.errors") 187⟩, ⟨PyData.keyHash P (st "__qualname__"), .str (st "__qualname__") 198, .str (st "GemError") 197⟩, ⟨PyData.keyHash P (st "__firstlineno__"), .str (st "__firstlineno__") 200, .int 2 199⟩, ⟨PyData.keyHash P (st "__init__"), .str (st "__init__") 209, .ref 29⟩, ⟨PyData.keyHash P (st "__static_attributes__"), .str (st "__static_attributes__") 211, .ref 30⟩] 5, #[]⟩
noncomputable def b25p3 : Obj := ⟨.type "tuple", none, .seq #[.str (st "self") 205, .str (st "reason") 206] 0, #[]⟩
noncomputable def b41p3 : Obj := ⟨.type "code", none, .fields #[.str (st "BadArgument") 219, .str (st "BadArgument") 220, .str (st "/claim/cut.py") 221, .int 7 0, .int 0 0, .int 0 0, .int 0 0, .int 0 0, .ref 39, .bool false, .int 181 0, .ref 40, .none, .none, .none, .none, .int 222 0, .int 7 0, .str (st "/claim/cut.py") 223], #[]⟩
noncomputable def b21p3 : Obj := ⟨.type "frame", none, .plain, #[some (.ref 20), some (.ref 3), some (.ref 17), none, some (.str (st "gemrows.errors") 187), none, some (.ref 0)]⟩
noncomputable def b37p3 : Obj := ⟨.type "builtin_function_or_method", none, .fields #[.builtin "type.__prepare__", .type "type"], #[]⟩
noncomputable def b12p3 : Obj := ⟨.none, none, .fields #[.int 2 0, .int 0 0, .ref 20, .int 7 0, .int 0 0, .ref 41], #[]⟩
noncomputable def b20p3 : Obj := ⟨.type "code", none, .fields #[.str (st "GemError") 191, .str (st "GemError") 192, .str (st "/claim/cut.py") 193, .int 2 0, .int 0 0, .int 0 0, .int 0 0, .int 0 0, .ref 18, .bool false, .int 181 0, .ref 19, .none, .none, .none, .none, .int 194 0, .int 2 0, .str (st "/claim/cut.py") 195], #[]⟩
noncomputable def b34p3 : Obj := ⟨.type "super", none, .fields #[.ref 32, .ref 32, .ref 32], #[]⟩
noncomputable def b42p3 : Obj := ⟨.type "frame", none, .plain, #[some (.ref 41), some (.ref 3), some (.ref 38), none, some (.str (st "gemrows.errors") 187), none, some (.ref 0)]⟩
noncomputable def b38p3 (P : Params) : Obj := ⟨.type "dict", none, .dict #[⟨PyData.keyHash P (st "__module__"), .str (st "__module__") 224, .str (st "gemrows.errors") 187⟩, ⟨PyData.keyHash P (st "__qualname__"), .str (st "__qualname__") 226, .str (st "BadArgument") 225⟩, ⟨PyData.keyHash P (st "__firstlineno__"), .str (st "__firstlineno__") 228, .int 7 227⟩, ⟨PyData.keyHash P (st "__static_attributes__"), .str (st "__static_attributes__") 229, .ref 43⟩] 4, #[]⟩
noncomputable def b30p3 : Obj := ⟨.type "tuple", none, .seq #[.str (st "reason") 210] 0, #[]⟩
noncomputable def b46p3 : Obj := ⟨.type "super", none, .fields #[.ref 45, .ref 45, .ref 45], #[]⟩
noncomputable def b3p4 (P : Params) : Obj := ⟨.type "dict", none, .dict #[⟨PyData.keyHash P (st "__name__"), .str (st "__name__") 165, .str (st "gemrows.nodes") 233⟩, ⟨PyData.keyHash P (st "__doc__"), .str (st "__doc__") 166, .none⟩, ⟨PyData.keyHash P (st "__package__"), .str (st "__package__") 167, .none⟩, ⟨PyData.keyHash P (st "__loader__"), .str (st "__loader__") 168, .builtin "__main__.__loader__#opaque"⟩, ⟨PyData.keyHash P (st "__spec__"), .str (st "__spec__") 169, .none⟩, ⟨PyData.keyHash P (st "__annotations__"), .str (st "__annotations__") 170, .ref 6⟩, ⟨PyData.keyHash P (st "__builtins__"), .str (st "__builtins__") 171, .ref 4⟩, ⟨PyData.keyHash P (st "__file__"), .str (st "__file__") 173, .str (st "/claim/cut.py") 172⟩, ⟨PyData.keyHash P (st "__cached__"), .str (st "__cached__") 174, .none⟩, ⟨PyData.keyHash P (st "GemError"), .str (st "GemError") 216, .ref 32⟩, ⟨PyData.keyHash P (st "BadArgument"), .str (st "BadArgument") 232, .ref 45⟩, ⟨PyData.keyHash P (st "FIELDS"), .str (st "FIELDS") 464, .ref 48⟩] 12, #[]⟩
noncomputable def b84p4 (P : Params) : Obj := ⟨.type "dict", none, .dict #[⟨PyData.keyHash P (st "not"), .str (st "not") 348, .ref 85⟩, ⟨PyData.keyHash P (st "super"), .str (st "super") 351, .ref 86⟩, ⟨PyData.keyHash P (st "yield"), .str (st "yield") 355, .ref 87⟩, ⟨PyData.keyHash P (st "lambda"), .str (st "lambda") 358, .ref 88⟩, ⟨PyData.keyHash P (st "defined"), .str (st "defined") 362, .ref 89⟩, ⟨PyData.keyHash P (st "seq"), .str (st "seq") 365, .ref 90⟩, ⟨PyData.keyHash P (st "if"), .str (st "if") 368, .ref 91⟩, ⟨PyData.keyHash P (st "while"), .str (st "while") 373, .ref 92⟩, ⟨PyData.keyHash P (st "case"), .str (st "case") 378, .ref 93⟩, ⟨PyData.keyHash P (st "casein"), .str (st "casein") 383, .ref 94⟩, ⟨PyData.keyHash P (st "matchp"), .str (st "matchp") 388, .ref 95⟩, ⟨PyData.keyHash P (st "matchq"), .str (st "matchq") 392, .ref 96⟩, ⟨PyData.keyHash P (st "begin"), .str (st "begin") 396, .ref 97⟩, ⟨PyData.keyHash P (st "break"), .str (st "break") 402, .ref 98⟩, ⟨PyData.keyHash P (st "next"), .str (st "next") 405, .ref 99⟩, ⟨PyData.keyHash P (st "return"), .str (st "return") 408, .ref 100⟩, ⟨PyData.keyHash P (st "def"), .str (st "def") 411, .ref 101⟩] 17, #[]⟩
noncomputable def b66p4 (P : Params) : Obj := ⟨.type "dict", none, .dict #[⟨PyData.keyHash P (st "t_local"), .str (st "t_local") 284, .ref 67⟩, ⟨PyData.keyHash P (st "t_ivar"), .str (st "t_ivar") 287, .ref 68⟩, ⟨PyData.keyHash P (st "t_gvar"), .str (st "t_gvar") 290, .ref 69⟩, ⟨PyData.keyHash P (st "t_const"), .str (st "t_const") 293, .ref 70⟩, ⟨PyData.keyHash P (st "t_index"), .str (st "t_index") 296, .ref 71⟩, ⟨PyData.keyHash P (st "t_attr"), .str (st "t_attr") 300, .ref 72⟩, ⟨PyData.keyHash P (st "t_splat"), .str (st "t_splat") 304, .ref 73⟩, ⟨PyData.keyHash P (st "t_group"), .str (st "t_group") 307, .ref 74⟩, ⟨PyData.keyHash P (st "assign"), .str (st "assign") 310, .ref 75⟩, ⟨PyData.keyHash P (st "masgn"), .str (st "masgn") 314, .ref 76⟩, ⟨PyData.keyHash P (st "opasgn"), .str (st "opasgn") 318, .ref 77⟩, ⟨PyData.keyHash P (st "call"), .str (st "call") 323, .ref 78⟩, ⟨PyData.keyHash P (st "vcall"), .str (st "vcall") 330, .ref 79⟩, ⟨PyData.keyHash P (st "block"), .str (st "block") 333, .ref 80⟩, ⟨PyData.keyHash P (st "blockpass"), .str (st "blockpass") 337, .ref 81⟩, ⟨PyData.keyHash P (st "and"), .str (st "and") 340, .ref 82⟩, ⟨PyData.keyHash P (st "or"), .str (st "or") 344, .ref 83⟩] 17, #[]⟩
noncomputable def b102p4 (P : Params) : Obj := ⟨.type "dict", none, .dict #[⟨PyData.keyHash P (st "class"), .str (st "class") 417, .ref 103⟩, ⟨PyData.keyHash P (st "module"), .str (st "module") 421, .ref 104⟩, ⟨PyData.keyHash P (st "sclass"), .str (st "sclass") 424, .ref 105⟩, ⟨PyData.keyHash P (st "alias"), .str (st "alias") 427, .ref 106⟩, ⟨PyData.keyHash P (st "undef"), .str (st "undef") 430, .ref 107⟩, ⟨PyData.keyHash P (st "p_value"), .str (st "p_value") 432, .ref 108⟩, ⟨PyData.keyHash P (st "p_bind"), .str (st "p_bind") 434, .ref 109⟩, ⟨PyData.keyHash P (st "p_pin"), .str (st "p_pin") 436, .ref 110⟩, ⟨PyData.keyHash P (st "p_alt"), .str (st "p_alt") 438, .ref 111⟩, ⟨PyData.keyHash P (st "p_as"), .str (st "p_as") 440, .ref 112⟩, ⟨PyData.keyHash P (st "p_array"), .str (st "p_array") 443, .ref 113⟩, ⟨PyData.keyHash P (st "p_hash"), .str (st "p_hash") 448, .ref 114⟩] 12, #[]⟩
noncomputable def b3p10 (P : Params) : Obj := ⟨.type "dict", none, .dict #[⟨PyData.keyHash P (st "__name__"), .str (st "__name__") 165, .str (st "law_nz0037_01") 585⟩, ⟨PyData.keyHash P (st "__doc__"), .str (st "__doc__") 166, .none⟩, ⟨PyData.keyHash P (st "__package__"), .str (st "__package__") 167, .none⟩, ⟨PyData.keyHash P (st "__loader__"), .str (st "__loader__") 168, .builtin "__main__.__loader__#opaque"⟩, ⟨PyData.keyHash P (st "__spec__"), .str (st "__spec__") 169, .none⟩, ⟨PyData.keyHash P (st "__annotations__"), .str (st "__annotations__") 170, .ref 6⟩, ⟨PyData.keyHash P (st "__builtins__"), .str (st "__builtins__") 171, .ref 4⟩, ⟨PyData.keyHash P (st "__file__"), .str (st "__file__") 173, .str (st "/claim/cut.py") 172⟩, ⟨PyData.keyHash P (st "__cached__"), .str (st "__cached__") 174, .none⟩, ⟨PyData.keyHash P (st "GemError"), .str (st "GemError") 216, .ref 32⟩, ⟨PyData.keyHash P (st "BadArgument"), .str (st "BadArgument") 232, .ref 45⟩, ⟨PyData.keyHash P (st "FIELDS"), .str (st "FIELDS") 464, .ref 48⟩, ⟨PyData.keyHash P (st "Node"), .str (st "Node") 507, .ref 140⟩, ⟨PyData.keyHash P (st "Params"), .str (st "Params") 551, .ref 172⟩, ⟨PyData.keyHash P (st "same_tree"), .str (st "same_tree") 561, .ref 183⟩, ⟨PyData.keyHash P (st "nodes_in"), .str (st "nodes_in") 572, .ref 190⟩, ⟨PyData.keyHash P (st "walk_nodes"), .str (st "walk_nodes") 584, .ref 197⟩] 17, #[]⟩
noncomputable def b143p10 : Obj := ⟨.type "super", none, .fields #[.ref 140, .ref 140, .ref 140], #[]⟩
noncomputable def b175p10 : Obj := ⟨.type "super", none, .fields #[.ref 172, .ref 172, .ref 172], #[]⟩
noncomputable def b135p10 : Obj := ⟨.none, none, .func (fn0 (st "part") (st "Node.part") (fArgs (clsSt 5 1)) (fBody (clsSt 5 1)) (fScope (clsSt 5 1))), #[]⟩
noncomputable def b167p10 : Obj := ⟨.none, none, .func (fn0 (st "plain") (st "Params.plain") (fArgs (clsSt 6 1)) (fBody (clsSt 6 1)) (fScope (clsSt 6 1))), #[]⟩
noncomputable def b151p10 : Obj := ⟨.type "frame", none, .plain, #[some (.ref 150), some (.ref 3), some (.ref 147), none, some (.str (st "gemrows.nodes") 233), none, some (.ref 0)]⟩
noncomputable def b119p10 : Obj := ⟨.none, none, .fields #[.int 13 0, .int 4 0, .ref 129, .int 21 0, .int 4 0, .ref 136], #[]⟩
noncomputable def b195p10 : Obj := ⟨.none, none, .func (fn0 (st "walk_nodes") (st "walk_nodes") (fArgs s9) (fBody s9) (fScope s9)), #[]⟩
noncomputable def b147p10 (P : Params) : Obj := ⟨.type "dict", none, .dict #[⟨PyData.keyHash P (st "__module__"), .str (st "__module__") 515, .str (st "gemrows.nodes") 233⟩, ⟨PyData.keyHash P (st "__qualname__"), .str (st "__qualname__") 517, .str (st "Params") 516⟩, ⟨PyData.keyHash P (st "__firstlineno__"), .str (st "__firstlineno__") 519, .int 23 518⟩, ⟨PyData.keyHash P (st "__init__"), .str (st "__init__") 531, .ref 162⟩, ⟨PyData.keyHash P (st "plain"), .str (st "plain") 538, .ref 169⟩, ⟨PyData.keyHash P (st "__static_attributes__"), .str (st "__static_attributes__") 544, .ref 170⟩] 6, #[]⟩
noncomputable def b179p10 : Obj := ⟨.type "tuple", none, .seq #[.str (st "one") 555, .str (st "other") 556, .str (st "left") 557, .str (st "right") 558] 0, #[]⟩
noncomputable def b193p10 : Obj := ⟨.type "tuple", none, .seq #[.str (st "node") 576, .str (st "found") 577, .str (st "waiting") 578, .str (st "here") 579, .str (st "within") 580, .str (st "part") 581] 0, #[]⟩
noncomputable def b121p10 : Obj := ⟨.type "frame", none, .plain, #[some (.ref 120), some (.ref 3), some (.ref 117), none, some (.str (st "gemrows.nodes") 233), none, some (.ref 0)]⟩
noncomputable def b133p10 : Obj := ⟨.type "tuple", none, .seq #[.str (st "self") 491, .str (st "name") 492] 0, #[]⟩
noncomputable def b165p10 : Obj := ⟨.type "tuple", none, .seq #[.str (st "self") 535] 0, #[]⟩
noncomputable def b149p10 : Obj := ⟨.none, none, .fields #[.int 25 0, .int 4 0, .ref 161, .int 32 0, .int 4 0, .ref 168], #[]⟩
noncomputable def b117p10 (P : Params) : Obj := ⟨.type "dict", none, .dict #[⟨PyData.keyHash P (st "__module__"), .str (st "__module__") 472, .str (st "gemrows.nodes") 233⟩, ⟨PyData.keyHash P (st "__qualname__"), .str (st "__qualname__") 474, .str (st "Node") 473⟩, ⟨PyData.keyHash P (st "__firstlineno__"), .str (st "__firstlineno__") 476, .int 11 475⟩, ⟨PyData.keyHash P (st "__init__"), .str (st "__init__") 487, .ref 130⟩, ⟨PyData.keyHash P (st "part"), .str (st "part") 495, .ref 137⟩, ⟨PyData.keyHash P (st "__static_attributes__"), .str (st "__static_attributes__") 500, .ref 138⟩] 6, #[]⟩
noncomputable def b181p10 : Obj := ⟨.none, none, .func (fn0 (st "same_tree") (st "same_tree") (fArgs s7) (fBody s7) (fScope s7)), #[]⟩
noncomputable def b128p10 : Obj := ⟨.none, none, .func (fn0 (st "__init__") (st "Node.__init__") (fArgs (clsSt 5 0)) (fBody (clsSt 5 0)) (fScope (clsSt 5 0))), #[]⟩
noncomputable def b160p10 : Obj := ⟨.none, none, .func (fn0 (st "__init__") (st "Params.__init__") (fArgs (clsSt 6 0)) (fBody (clsSt 6 0)) (fScope (clsSt 6 0))), #[]⟩
noncomputable def b144p10 : Obj := ⟨.type "builtin_function_or_method", none, .fields #[.builtin "object.__init_subclass__", .ref 140], #[]⟩
noncomputable def b176p10 : Obj := ⟨.type "builtin_function_or_method", none, .fields #[.builtin "object.__init_subclass__", .ref 172], #[]⟩
noncomputable def b120p10 : Obj := ⟨.type "code", none, .fields #[.str (st "Node") 467, .str (st "Node") 468, .str (st "/claim/cut.py") 469, .int 11 0, .int 0 0, .int 0 0, .int 0 0, .int 0 0, .ref 118, .bool false, .int 181 0, .ref 119, .none, .none, .none, .none, .int 470 0, .int 11 0, .str (st "/claim/cut.py") 471], #[]⟩
noncomputable def b12p10 : Obj := ⟨.none, none, .fields #[.int 2 0, .int 0 0, .ref 20, .int 7 0, .int 0 0, .ref 41, .int 11 0, .int 0 0, .ref 120, .int 23 0, .int 0 0, .ref 150, .int 34 0, .int 0 0, .ref 182, .int 47 0, .int 0 0, .ref 189, .int 61 0, .int 0 0, .ref 196], #[]⟩
noncomputable def b188p10 : Obj := ⟨.none, none, .func (fn0 (st "nodes_in") (st "nodes_in") (fArgs s8) (fBody s8) (fScope s8)), #[]⟩
noncomputable def b138p10 : Obj := ⟨.type "tuple", none, .seq #[.str (st "kind") 496, .str (st "line") 497, .str (st "own") 498, .str (st "parts") 499] 0, #[]⟩
noncomputable def b170p10 : Obj := ⟨.type "tuple", none, .seq #[.str (st "block") 539, .str (st "optional") 540, .str (st "post") 541, .str (st "required") 542, .str (st "rest") 543] 0, #[]⟩
noncomputable def b186p10 : Obj := ⟨.type "tuple", none, .seq #[.str (st "thing") 565, .str (st "found") 566, .str (st "item") 567, .str (st "name") 568, .str (st "value") 569] 0, #[]⟩
noncomputable def b150p10 : Obj := ⟨.type "code", none, .fields #[.str (st "Params") 510, .str (st "Params") 511, .str (st "/claim/cut.py") 512, .int 23 0, .int 0 0, .int 0 0, .int 0 0, .int 0 0, .ref 148, .bool false, .int 181 0, .ref 149, .none, .none, .none, .none, .int 513 0, .int 23 0, .str (st "/claim/cut.py") 514], #[]⟩
noncomputable def b158p10 : Obj := ⟨.type "tuple", none, .seq #[.str (st "self") 523, .str (st "required") 524, .str (st "optional") 525, .str (st "rest") 526, .str (st "post") 527, .str (st "block") 528] 0, #[]⟩
noncomputable def b126p10 : Obj := ⟨.type "tuple", none, .seq #[.str (st "self") 481, .str (st "kind") 482, .str (st "parts") 483, .str (st "line") 484] 0, #[]⟩
noncomputable def b255p23 : Obj := ⟨.none, none, .func (fn0 (st "_law_spots") (st "_law_spots") (fArgs s20) (fBody s20) (fScope s20)), #[]⟩
noncomputable def b223p23 : Obj := ⟨.none, none, .func (fn0 (st "_law_take") (st "_law_take") (fArgs s14) (fBody s14) (fScope s14)), #[]⟩
noncomputable def b267p23 : Obj := ⟨.type "tuple", none, .seq #[.str (st "kind") 672, .str (st "parts") 673] 0, #[]⟩
noncomputable def b209p23 : Obj := ⟨.none, none, .func (fn0 (st "_law_leaves") (st "_law_leaves") (fArgs s12) (fBody s12) (fScope s12)), #[]⟩
noncomputable def b233p23 : Obj := ⟨.none, none, .func (fn0 (st "_law_some") (st "_law_some") (fArgs s16) (fBody s16) (fScope s16)), #[]⟩
noncomputable def b245p23 : Obj := ⟨.none, none, .func (fn0 (st "_law_params") (st "_law_params") (fArgs s18) (fBody s18) (fScope s18)), #[]⟩
noncomputable def b269p23 : Obj := ⟨.none, none, .func (fn0 (st "_law_refuses") (st "_law_refuses") (fArgs s22) (fBody s22) (fScope s22)), #[]⟩
noncomputable def b221p23 : Obj := ⟨.type "tuple", none, .seq #[.str (st "box") 611, .str (st "many") 612, .str (st "digit") 613] 0, #[]⟩
noncomputable def b240p23 : Obj := ⟨.none, none, .func (fn0 (st "_law_part") (st "_law_part") (fArgs s17) (fBody s17) (fScope s17)), #[]⟩
noncomputable def b216p23 : Obj := ⟨.none, none, .func (fn0 (st "_law_box") (st "_law_box") (fArgs s13) (fBody s13) (fScope s13)), #[]⟩
noncomputable def b12p23 : Obj := ⟨.none, none, .fields #[.int 2 0, .int 0 0, .ref 20, .int 7 0, .int 0 0, .ref 41, .int 11 0, .int 0 0, .ref 120, .int 23 0, .int 0 0, .ref 150, .int 34 0, .int 0 0, .ref 182, .int 47 0, .int 0 0, .ref 189, .int 61 0, .int 0 0, .ref 196, .int 72 0, .int 0 0, .ref 203, .int 74 0, .int 0 0, .ref 210, .int 76 0, .int 0 0, .ref 217, .int 81 0, .int 0 0, .ref 224, .int 88 0, .int 0 0, .ref 229, .int 95 0, .int 0 0, .ref 234, .int 97 0, .int 0 0, .ref 241, .int 119 0, .int 0 0, .ref 246, .int 126 0, .int 0 0, .ref 251, .int 138 0, .int 0 0, .ref 256, .int 142 0, .int 0 0, .ref 263, .int 158 0, .int 0 0, .ref 270, .int 164 0, .int 0 0, .ref 275], #[]⟩
noncomputable def b260p23 : Obj := ⟨.type "tuple", none, .seq #[.str (st "plan") 659, .str (st "spot") 660, .str (st "value") 661, .str (st "left") 662, .str (st "found") 663, .str (st "one") 664, .str (st "many") 665] 0, #[]⟩
noncomputable def b228p23 : Obj := ⟨.none, none, .func (fn0 (st "_law_plan") (st "_law_plan") (fArgs s15) (fBody s15) (fScope s15)), #[]⟩
noncomputable def b274p23 : Obj := ⟨.none, none, .func (fn0 (st "law") (st "law") (fArgs s23) (fBody s23) (fScope s23)), #[]⟩
noncomputable def b202p23 : Obj := ⟨.none, none, .func (fn0 (st "_law_shapes") (st "_law_shapes") (fArgs s11) (fBody s11) (fScope s11)), #[]⟩
noncomputable def b250p23 : Obj := ⟨.none, none, .func (fn0 (st "_law_made") (st "_law_made") (fArgs s19) (fBody s19) (fScope s19)), #[]⟩
noncomputable def b262p23 : Obj := ⟨.none, none, .func (fn0 (st "_law_bent") (st "_law_bent") (fArgs s21) (fBody s21) (fScope s21)), #[]⟩
noncomputable def b214p23 : Obj := ⟨.type "tuple", none, .seq #[.str (st "script") 602, .str (st "great") 603, .str (st "cell") 604] 0, #[]⟩
noncomputable def b238p23 : Obj := ⟨.type "tuple", none, .seq #[.str (st "box") 632, .str (st "sort") 633, .str (st "deep") 634] 0, #[]⟩
noncomputable def hp (P : Params) : Heap := ⟨⟨(boot_o_0 P) :: (boot_o_1 P) :: (boot_o_2 P) :: (boot_o_3 P) :: (boot_o_4 P) :: (boot_o_5 P) :: (boot_o_6 P) :: (boot_o_7 P) :: (boot_o_8 P) :: (boot_o_9 P) :: (boot_o_10 P) :: k154 :: b12pre :: b13pre :: b14pre :: []⟩, {}⟩
noncomputable def t0 (P : Params) : BT := .node (boot_o_0 P) (.node (boot_o_1 P) (.node (boot_o_3 P) (.node (boot_o_7 P) .nil .nil) (.node k154 .nil .nil)) (.node (boot_o_5 P) (.node (boot_o_9 P) .nil .nil) (.node b13pre .nil .nil))) (.node (boot_o_2 P) (.node (boot_o_4 P) (.node (boot_o_8 P) .nil .nil) (.node b12pre .nil .nil)) (.node (boot_o_6 P) (.node (boot_o_10 P) .nil .nil) (.node b14pre .nil .nil)))
noncomputable def t1 (P : Params) : BT := .node (boot_o_0 P) (.node (boot_o_1 P) (.node (b3p3 P) (.node (boot_o_7 P) (.node k15 (.node (k31 P) .nil .nil) (.node b47p3 .nil .nil)) (.node k154 (.node k154 .nil .nil) .nil)) (.node k154 (.node b19p3 (.node b35p3 .nil .nil) .nil) (.node b27p3 (.node k154 .nil .nil) .nil))) (.node (boot_o_5 P) (.node (boot_o_9 P) (.node (b17p3 P) (.node k33 .nil .nil) .nil) (.node b25p3 (.node b41p3 .nil .nil) .nil)) (.node b13pre (.node b21p3 (.node b37p3 .nil .nil) .nil) (.node k29 (.node k45 .nil .nil) .nil)))) (.node (boot_o_2 P) (.node (boot_o_4 P) (.node (boot_o_8 P) (.node b37p3 (.node k32 .nil .nil) .nil) (.node b12pre (.node b12pre .nil .nil) .nil)) (.node b12p3 (.node b20p3 (.node k36 .nil .nil) .nil) (.node k28 (.node (k44 P) .nil .nil) .nil))) (.node (boot_o_6 P) (.node (boot_o_10 P) (.node k154 (.node b34p3 .nil .nil) .nil) (.node k154 (.node b42p3 .nil .nil) .nil)) (.node b14pre (.node k22 (.node (b38p3 P) .nil .nil) .nil) (.node b30p3 (.node b46p3 .nil .nil) .nil))))
noncomputable def t2 (P : Params) : BT := .node (boot_o_0 P) (.node (boot_o_1 P) (.node (b3p4 P) (.node (boot_o_7 P) (.node k15 (.node (k31 P) (.node k63 .nil .nil) (.node k95 .nil .nil)) (.node b47p3 (.node k79 .nil .nil) (.node k111 .nil .nil))) (.node k154 (.node k154 (.node k71 .nil .nil) (.node k103 .nil .nil)) (.node k55 (.node k87 .nil .nil) .nil))) (.node k154 (.node b19p3 (.node b35p3 (.node k67 .nil .nil) (.node k99 .nil .nil)) (.node k154 (.node k83 .nil .nil) .nil)) (.node b27p3 (.node k154 (.node k75 .nil .nil) (.node k107 .nil .nil)) (.node k59 (.node k91 .nil .nil) .nil)))) (.node (boot_o_5 P) (.node (boot_o_9 P) (.node (b17p3 P) (.node k33 (.node k65 .nil .nil) (.node k97 .nil .nil)) (.node k154 (.node k81 .nil .nil) (.node k113 .nil .nil))) (.node b25p3 (.node b41p3 (.node k73 .nil .nil) (.node k105 .nil .nil)) (.node k57 (.node k89 .nil .nil) .nil))) (.node b13pre (.node b21p3 (.node b37p3 (.node k69 .nil .nil) (.node k101 .nil .nil)) (.node k154 (.node k85 .nil .nil) .nil)) (.node k29 (.node k45 (.node k77 .nil .nil) (.node k109 .nil .nil)) (.node k61 (.node k93 .nil .nil) .nil))))) (.node (boot_o_2 P) (.node (boot_o_4 P) (.node (boot_o_8 P) (.node b37p3 (.node k32 (.node k64 .nil .nil) (.node k96 .nil .nil)) (.node (k48 P) (.node k80 .nil .nil) (.node k112 .nil .nil))) (.node b12pre (.node b12pre (.node k72 .nil .nil) (.node k104 .nil .nil)) (.node k56 (.node k88 .nil .nil) .nil))) (.node b12p3 (.node b20p3 (.node k36 (.node k68 .nil .nil) (.node k100 .nil .nil)) (.node k154 (.node (b84p4 P) .nil .nil) .nil)) (.node k28 (.node (k44 P) (.node k76 .nil .nil) (.node k108 .nil .nil)) (.node k60 (.node k92 .nil .nil) .nil)))) (.node (boot_o_6 P) (.node (boot_o_10 P) (.node k154 (.node b34p3 (.node (b66p4 P) .nil .nil) (.node k98 .nil .nil)) (.node k154 (.node k82 .nil .nil) (.node k114 .nil .nil))) (.node k154 (.node b42p3 (.node k74 .nil .nil) (.node k106 .nil .nil)) (.node k58 (.node k90 .nil .nil) .nil))) (.node b14pre (.node k22 (.node (b38p3 P) (.node k70 .nil .nil) (.node (b102p4 P) .nil .nil)) (.node k54 (.node k86 .nil .nil) .nil)) (.node b30p3 (.node b46p3 (.node k78 .nil .nil) (.node k110 .nil .nil)) (.node k62 (.node k94 .nil .nil) .nil)))))
noncomputable def t3 (P : Params) : BT := .node (boot_o_0 P) (.node (boot_o_1 P) (.node (b3p10 P) (.node (boot_o_7 P) (.node k15 (.node (k31 P) (.node k63 (.node k154 .nil .nil) (.node k154 .nil .nil)) (.node k95 (.node k154 .nil .nil) .nil)) (.node b47p3 (.node k79 (.node b143p10 .nil .nil) .nil) (.node k111 (.node b175p10 .nil .nil) .nil))) (.node k154 (.node k154 (.node k71 (.node b135p10 .nil .nil) .nil) (.node k103 (.node b167p10 .nil .nil) .nil)) (.node k55 (.node k87 (.node b151p10 .nil .nil) .nil) (.node b119p10 (.node k183 .nil .nil) .nil)))) (.node k154 (.node b19p3 (.node b35p3 (.node k67 (.node k154 .nil .nil) (.node b195p10 .nil .nil)) (.node k99 (.node k154 .nil .nil) .nil)) (.node k154 (.node k83 (.node (b147p10 P) .nil .nil) .nil) (.node k154 (.node b179p10 .nil .nil) .nil))) (.node b27p3 (.node k154 (.node k75 (.node (k139 P) .nil .nil) .nil) (.node k107 (.node (k171 P) .nil .nil) .nil)) (.node k59 (.node k91 (.node k155 .nil .nil) .nil) (.node k123 (.node k154 .nil .nil) .nil))))) (.node (boot_o_5 P) (.node (boot_o_9 P) (.node (b17p3 P) (.node k33 (.node k65 (.node k129 .nil .nil) (.node b193p10 .nil .nil)) (.node k97 (.node k161 .nil .nil) .nil)) (.node k154 (.node k81 (.node k154 .nil .nil) .nil) (.node k113 (.node k154 .nil .nil) .nil))) (.node b25p3 (.node b41p3 (.node k73 (.node k137 .nil .nil) .nil) (.node k105 (.node k169 .nil .nil) .nil)) (.node k57 (.node k89 (.node k154 .nil .nil) .nil) (.node b121p10 (.node b12pre .nil .nil) .nil)))) (.node b13pre (.node b21p3 (.node b37p3 (.node k69 (.node b133p10 .nil .nil) (.node k197 .nil .nil)) (.node k101 (.node b165p10 .nil .nil) .nil)) (.node k154 (.node k85 (.node b149p10 .nil .nil) .nil) (.node (b117p10 P) (.node b181p10 .nil .nil) .nil))) (.node k29 (.node k45 (.node k77 (.node k141 .nil .nil) .nil) (.node k109 (.node k173 .nil .nil) .nil)) (.node k61 (.node k93 (.node b12pre .nil .nil) .nil) (.node b12pre (.node k189 .nil .nil) .nil)))))) (.node (boot_o_2 P) (.node (boot_o_4 P) (.node (boot_o_8 P) (.node b37p3 (.node k32 (.node k64 (.node b128p10 .nil .nil) (.node b12pre .nil .nil)) (.node k96 (.node b160p10 .nil .nil) .nil)) (.node (k48 P) (.node k80 (.node b144p10 .nil .nil) .nil) (.node k112 (.node b176p10 .nil .nil) .nil))) (.node b12pre (.node b12pre (.node k72 (.node k136 .nil .nil) .nil) (.node k104 (.node k168 .nil .nil) .nil)) (.node k56 (.node k88 (.node k154 .nil .nil) .nil) (.node b120p10 (.node k154 .nil .nil) .nil)))) (.node b12p10 (.node b20p3 (.node k36 (.node k68 (.node b12pre .nil .nil) (.node k196 .nil .nil)) (.node k100 (.node b12pre .nil .nil) .nil)) (.node k154 (.node (b84p4 P) (.node k154 .nil .nil) .nil) (.node b37p3 (.node k154 .nil .nil) .nil))) (.node k28 (.node (k44 P) (.node k76 (.node k140 .nil .nil) .nil) (.node k108 (.node k172 .nil .nil) .nil)) (.node k60 (.node k92 (.node k154 .nil .nil) .nil) (.node k154 (.node b188p10 .nil .nil) .nil))))) (.node (boot_o_6 P) (.node (boot_o_10 P) (.node k154 (.node b34p3 (.node (b66p4 P) (.node k130 .nil .nil) (.node k154 .nil .nil)) (.node k98 (.node k162 .nil .nil) .nil)) (.node k154 (.node k82 (.node b37p3 .nil .nil) .nil) (.node k114 (.node b12pre .nil .nil) .nil))) (.node k154 (.node b42p3 (.node k74 (.node b138p10 .nil .nil) .nil) (.node k106 (.node b170p10 .nil .nil) .nil)) (.node k58 (.node k90 (.node k154 .nil .nil) .nil) (.node k154 (.node b186p10 .nil .nil) .nil)))) (.node b14pre (.node k22 (.node (b38p3 P) (.node k70 (.node k154 .nil .nil) .nil) (.node (b102p4 P) (.node k154 .nil .nil) .nil)) (.node k54 (.node k86 (.node b150p10 .nil .nil) .nil) (.node k154 (.node k182 .nil .nil) .nil))) (.node b30p3 (.node b46p3 (.node k78 (.node k142 .nil .nil) .nil) (.node k110 (.node k174 .nil .nil) .nil)) (.node k62 (.node k94 (.node b158p10 .nil .nil) .nil) (.node b126p10 (.node k190 .nil .nil) .nil))))))
noncomputable def t4 (P : Params) : BT := .node (boot_o_0 P) (.node (boot_o_1 P) (.node (k3 P) (.node (boot_o_7 P) (.node k15 (.node (k31 P) (.node k63 (.node k154 (.node b255p23 .nil .nil) .nil) (.node k154 .nil .nil)) (.node k95 (.node k154 .nil .nil) (.node b223p23 .nil .nil))) (.node b47p3 (.node k79 (.node b143p10 (.node k271 .nil .nil) .nil) (.node k154 .nil .nil)) (.node k111 (.node b175p10 .nil .nil) (.node k154 .nil .nil)))) (.node k154 (.node k154 (.node k71 (.node b135p10 (.node k263 .nil .nil) .nil) (.node b12pre .nil .nil)) (.node k103 (.node b167p10 .nil .nil) (.node k154 .nil .nil))) (.node k55 (.node k87 (.node b151p10 .nil .nil) (.node k154 .nil .nil)) (.node b119p10 (.node k183 .nil .nil) (.node k247 .nil .nil))))) (.node k154 (.node b19p3 (.node b35p3 (.node k67 (.node k154 (.node b12pre .nil .nil) .nil) (.node b195p10 .nil .nil)) (.node k99 (.node k154 .nil .nil) (.node b12pre .nil .nil))) (.node k154 (.node k83 (.node (b147p10 P) (.node k275 .nil .nil) .nil) (.node k211 .nil .nil)) (.node k154 (.node b179p10 .nil .nil) (.node k154 .nil .nil)))) (.node b27p3 (.node k154 (.node k75 (.node (k139 P) (.node b267p23 .nil .nil) .nil) (.node k203 .nil .nil)) (.node k107 (.node (k171 P) .nil .nil) (.node k235 .nil .nil))) (.node k59 (.node k91 (.node k155 .nil .nil) (.node k154 .nil .nil)) (.node k123 (.node k154 .nil .nil) (.node k251 .nil .nil)))))) (.node (boot_o_5 P) (.node (boot_o_9 P) (.node (b17p3 P) (.node k33 (.node k65 (.node k129 (.node k257 .nil .nil) .nil) (.node b193p10 .nil .nil)) (.node k97 (.node k161 .nil .nil) (.node k225 .nil .nil))) (.node k154 (.node k81 (.node k154 (.node b12pre .nil .nil) .nil) (.node b209p23 .nil .nil)) (.node k113 (.node k154 .nil .nil) (.node k241 .nil .nil)))) (.node b25p3 (.node b41p3 (.node k73 (.node k137 (.node k154 .nil .nil) .nil) (.node k154 .nil .nil)) (.node k105 (.node k169 .nil .nil) (.node b233p23 .nil .nil))) (.node k57 (.node k89 (.node k154 .nil .nil) (.node k217 .nil .nil)) (.node b121p10 (.node b12pre .nil .nil) (.node b12pre .nil .nil))))) (.node b13pre (.node b21p3 (.node b37p3 (.node k69 (.node b133p10 (.node k154 .nil .nil) .nil) (.node k197 .nil .nil)) (.node k101 (.node b165p10 .nil .nil) (.node k229 .nil .nil))) (.node k154 (.node k85 (.node b149p10 .nil .nil) (.node b12pre .nil .nil)) (.node (b117p10 P) (.node b181p10 .nil .nil) (.node b245p23 .nil .nil)))) (.node k29 (.node k45 (.node k77 (.node k141 (.node b269p23 .nil .nil) .nil) (.node k154 .nil .nil)) (.node k109 (.node k173 .nil .nil) (.node b12pre .nil .nil))) (.node k61 (.node k93 (.node b12pre .nil .nil) (.node b221p23 .nil .nil)) (.node b12pre (.node k189 .nil .nil) (.node k154 .nil .nil))))))) (.node (boot_o_2 P) (.node (boot_o_4 P) (.node (boot_o_8 P) (.node b37p3 (.node k32 (.node k64 (.node b128p10 (.node k256 .nil .nil) .nil) (.node b12pre .nil .nil)) (.node k96 (.node b160p10 .nil .nil) (.node k224 .nil .nil))) (.node (k48 P) (.node k80 (.node b144p10 (.node k154 .nil .nil) .nil) (.node k154 .nil .nil)) (.node k112 (.node b176p10 .nil .nil) (.node b240p23 .nil .nil)))) (.node b12pre (.node b12pre (.node k72 (.node k136 (.node k264 .nil .nil) .nil) (.node k154 .nil .nil)) (.node k104 (.node k168 .nil .nil) (.node b12pre .nil .nil))) (.node k56 (.node k88 (.node k154 .nil .nil) (.node b216p23 .nil .nil)) (.node b120p10 (.node k154 .nil .nil) (.node k154 .nil .nil))))) (.node b12p23 (.node b20p3 (.node k36 (.node k68 (.node b12pre (.node b260p23 .nil .nil) .nil) (.node k196 .nil .nil)) (.node k100 (.node b12pre .nil .nil) (.node b228p23 .nil .nil))) (.node k154 (.node (b84p4 P) (.node k154 (.node k276 .nil .nil) .nil) (.node k154 .nil .nil)) (.node b37p3 (.node k154 .nil .nil) (.node b12pre .nil .nil)))) (.node k28 (.node (k44 P) (.node k76 (.node k140 (.node k154 .nil .nil) .nil) (.node k204 .nil .nil)) (.node k108 (.node k172 .nil .nil) (.node k154 .nil .nil))) (.node k60 (.node k92 (.node k154 .nil .nil) (.node b12pre .nil .nil)) (.node k154 (.node b188p10 .nil .nil) (.node k252 .nil .nil)))))) (.node (boot_o_6 P) (.node (boot_o_10 P) (.node k154 (.node b34p3 (.node (b66p4 P) (.node k130 (.node k154 .nil .nil) .nil) (.node k154 .nil .nil)) (.node k98 (.node k162 .nil .nil) (.node k154 .nil .nil))) (.node k154 (.node k82 (.node b37p3 (.node b274p23 .nil .nil) .nil) (.node k210 .nil .nil)) (.node k114 (.node b12pre .nil .nil) (.node k242 .nil .nil)))) (.node k154 (.node b42p3 (.node k74 (.node b138p10 (.node b12pre .nil .nil) .nil) (.node b202p23 .nil .nil)) (.node k106 (.node b170p10 .nil .nil) (.node k234 .nil .nil))) (.node k58 (.node k90 (.node k154 .nil .nil) (.node k218 .nil .nil)) (.node k154 (.node b186p10 .nil .nil) (.node b250p23 .nil .nil))))) (.node b14pre (.node k22 (.node (b38p3 P) (.node k70 (.node k154 (.node b262p23 .nil .nil) .nil) (.node k154 .nil .nil)) (.node (b102p4 P) (.node k154 .nil .nil) (.node k230 .nil .nil))) (.node k54 (.node k86 (.node b150p10 .nil .nil) (.node b214p23 .nil .nil)) (.node k154 (.node k182 .nil .nil) (.node k246 .nil .nil)))) (.node b30p3 (.node b46p3 (.node k78 (.node k142 (.node k270 .nil .nil) .nil) (.node b12pre .nil .nil)) (.node k110 (.node k174 .nil .nil) (.node b238p23 .nil .nil))) (.node k62 (.node k94 (.node b158p10 .nil .nil) (.node k154 .nil .nil)) (.node b126p10 (.node k190 .nil .nil) (.node b12pre .nil .nil)))))))
noncomputable def hf (P : Params) : Heap := ⟨⟨(boot_o_0 P) :: (boot_o_1 P) :: (boot_o_2 P) :: (k3 P) :: (boot_o_4 P) :: (boot_o_5 P) :: (boot_o_6 P) :: (boot_o_7 P) :: (boot_o_8 P) :: (boot_o_9 P) :: (boot_o_10 P) :: k154 :: b12p23 :: b13pre :: b14pre :: k15 :: b37p3 :: (b17p3 P) :: k154 :: b19p3 :: b20p3 :: b21p3 :: k22 :: k154 :: b12pre :: b25p3 :: k154 :: b27p3 :: k28 :: k29 :: b30p3 :: (k31 P) :: k32 :: k33 :: b34p3 :: b35p3 :: k36 :: b37p3 :: (b38p3 P) :: k154 :: b12pre :: b41p3 :: b42p3 :: k154 :: (k44 P) :: k45 :: b46p3 :: b47p3 :: (k48 P) :: k154 :: k154 :: k154 :: k154 :: k154 :: k54 :: k55 :: k56 :: k57 :: k58 :: k59 :: k60 :: k61 :: k62 :: k63 :: k64 :: k65 :: (b66p4 P) :: k67 :: k68 :: k69 :: k70 :: k71 :: k72 :: k73 :: k74 :: k75 :: k76 :: k77 :: k78 :: k79 :: k80 :: k81 :: k82 :: k83 :: (b84p4 P) :: k85 :: k86 :: k87 :: k88 :: k89 :: k90 :: k91 :: k92 :: k93 :: k94 :: k95 :: k96 :: k97 :: k98 :: k99 :: k100 :: k101 :: (b102p4 P) :: k103 :: k104 :: k105 :: k106 :: k107 :: k108 :: k109 :: k110 :: k111 :: k112 :: k113 :: k114 :: k154 :: b37p3 :: (b117p10 P) :: k154 :: b119p10 :: b120p10 :: b121p10 :: k154 :: k123 :: k154 :: b12pre :: b126p10 :: k154 :: b128p10 :: k129 :: k130 :: k154 :: b12pre :: b133p10 :: k154 :: b135p10 :: k136 :: k137 :: b138p10 :: (k139 P) :: k140 :: k141 :: k142 :: b143p10 :: b144p10 :: k154 :: b37p3 :: (b147p10 P) :: k154 :: b149p10 :: b150p10 :: b151p10 :: k154 :: k154 :: k154 :: k155 :: k154 :: b12pre :: b158p10 :: k154 :: b160p10 :: k161 :: k162 :: k154 :: b12pre :: b165p10 :: k154 :: b167p10 :: k168 :: k169 :: b170p10 :: (k171 P) :: k172 :: k173 :: k174 :: b175p10 :: b176p10 :: k154 :: b12pre :: b179p10 :: k154 :: b181p10 :: k182 :: k183 :: k154 :: b12pre :: b186p10 :: k154 :: b188p10 :: k189 :: k190 :: k154 :: b12pre :: b193p10 :: k154 :: b195p10 :: k196 :: k197 :: k154 :: b12pre :: k154 :: k154 :: b202p23 :: k203 :: k204 :: k154 :: b12pre :: k154 :: k154 :: b209p23 :: k210 :: k211 :: k154 :: b12pre :: b214p23 :: k154 :: b216p23 :: k217 :: k218 :: k154 :: b12pre :: b221p23 :: k154 :: b223p23 :: k224 :: k225 :: k154 :: b12pre :: b228p23 :: k229 :: k230 :: k154 :: b12pre :: b233p23 :: k234 :: k235 :: k154 :: b12pre :: b238p23 :: k154 :: b240p23 :: k241 :: k242 :: k154 :: b12pre :: b245p23 :: k246 :: k247 :: k154 :: b12pre :: b250p23 :: k251 :: k252 :: k154 :: b12pre :: b255p23 :: k256 :: k257 :: k154 :: b12pre :: b260p23 :: k154 :: b262p23 :: k263 :: k264 :: k154 :: b12pre :: b267p23 :: k154 :: b269p23 :: k270 :: k271 :: k154 :: b12pre :: b274p23 :: k275 :: k276 :: []⟩, {}⟩
end Mine

end

section
open PySem PySem.W PyProof.Rows
set_option Elab.async false
set_option maxRecDepth 100000
set_option maxHeartbeats 8000000
namespace Mine
def envT : Env := { scope := PP.main.scope, locals := mainNs, globals := mainNs, cells := [], code := .ref 13, frame := some 14 }
def cT : Code := .body (behindTheImports PP) envT
def z0 : Pos := ⟨0, 0, 0, 0⟩
def z1 : Pos := ⟨9, 0, 9, 8⟩
def z2 : Pos := ⟨10, 0, 10, 6⟩
def z3 : Pos := ⟨71, 0, 71, 8⟩
def z4 : Pos := ⟨164, 0, 186, 62⟩
def sA : List Stmt := [s0, s1, s2, s3]
def sB : List Stmt := [s4]
def sC : List Stmt := [s5, s6, s7, s8, s9, s10]
def sD : List Stmt := [s11, s12, s13, s14, s15, s16, s17, s18, s19, s20, s21, s22, s23]
def ST (t : Params → BT) (n k : Nat) (w : World) (os : OsState) : SharedT := ⟨t w.params, n, {}, ⟨[]⟩, {}, k, os⟩
theorem r_pre (w : World) : (fun os => topGo treeTable PP w 11 (some (.ref 6)) 12 ⟨boot_heap w.params, ⟨[]⟩, boot_drawn, boot_toks, os⟩ (topStub PP)) = fun os => some (⟨hp w.params, ⟨[]⟩, {}, 187, os⟩, ⟨denote treeTable cT, cT, z0, [topFrame z0]⟩) := by
  rw [Fast.te15667345088766844465, Fast.te11892475500146522536, Fast.te14364793385576792824]; kernel_rfl
theorem r_block (w : World) : (fun os => segRun treeTable PP w 11 (some (.ref 6)) 1 1 ⟨hp w.params, ⟨[]⟩, {}, 187, os⟩ (blockOf (behindTheImports PP) envT cT z0 [topFrame z0])) = fun os => some (.next, (ST t0 15 187 w os).abs, cT, z0) := by
  rw [Fast.te14374325043358763698, Fast.te14364793385576792824]; kernel_rfl
theorem r_A (w : World) : (fun os => segRunT treeTable PP w 11 (some (.ref 6)) 1 452 (ST t0 15 187 w os) (piecesOf sA envT cT z0 [topFrame z0])) = fun os => some (.next, ST t1 48 235 w os, cT, z1) := by
  rw [Fast.te10110043849684766642, Fast.te14364793385576792824]; kernel_rfl
theorem r_B0 (w : World) : (fun os => segRunT treeTable PP (w.withFollow "special-get-raises" false) 11 (some (.ref 6)) 1 1419 (ST t1 48 235 (w.withFollow "special-get-raises" false) os) (piecesOf sB envT cT z1 [topFrame z0])) = fun os => some (.next, ST t2 115 465 (w.withFollow "special-get-raises" false) os, cT, z2) := by
  rw [Fast.te10110043849684766642, Fast.te14364793385576792824]; kernel_rfl
theorem r_B1 (w : World) : (fun os => segRunT treeTable PP (w.withFollow "special-get-raises" true) 11 (some (.ref 6)) 1 1419 (ST t1 48 235 (w.withFollow "special-get-raises" true) os) (piecesOf sB envT cT z1 [topFrame z0])) = fun os => some (.next, ST t2 115 465 (w.withFollow "special-get-raises" true) os, cT, z2) := by
  rw [Fast.te10110043849684766642, Fast.te14364793385576792824]; kernel_rfl
theorem r_C (w : World) : (fun os => segRunT treeTable PP w 11 (some (.ref 6)) 1 640 (ST t2 115 465 w os) (piecesOf sC envT cT z2 [topFrame z0])) = fun os => some (.next, ST t3 198 587 w os, cT, z3) := by
  rw [Fast.te10110043849684766642, Fast.te14364793385576792824]; kernel_rfl
theorem r_D (w : World) : (fun os => segRunT treeTable PP w 11 (some (.ref 6)) 1 371 (ST t3 198 587 w os) (piecesOf sD envT cT z3 [topFrame z0])) = fun os => some (.next, ST t4 277 683 w os, cT, z4) := by
  rw [Fast.te10110043849684766642, Fast.te14364793385576792824]; kernel_rfl
theorem r_fin (w : World) : (fun os => topRun treeTable PP w 11 (some (.ref 6)) 2 (ST t4 277 683 w os).abs ⟨doneF .next, cT, z4, [topFrame z0]⟩) = fun os => some ⟨hf w.params, ⟨[]⟩, {}, 683, os⟩ := by
  rw [Fast.te14082659384304107361, Fast.te14364793385576792824]; kernel_rfl
end Mine

end

section
open PySem PySem.W PyProof.Rows
set_option Elab.async false
set_option maxRecDepth 100000
set_option maxHeartbeats 8000000
namespace Mine
theorem r_B (w : World) : (fun os => segRunT treeTable PP w 11 (some (.ref 6)) 1 1419 (ST t1 48 235 w os) (piecesOf sB envT cT z1 [topFrame z0])) = fun os => some (.next, ST t2 115 465 w os, cT, z2) :=
  byRow2 "special-get-raises" (P := fun w => (fun os => segRunT treeTable PP w 11 (some (.ref 6)) 1 1419 (ST t1 48 235 w os) (piecesOf sB envT cT z1 [topFrame z0])) = fun os => some (.next, ST t2 115 465 w os, cT, z2)) r_B0 r_B1 w
theorem body_eq : behindTheImports PP = sA ++ (sB ++ (sC ++ (sD ++ []))) := by kernel_rfl
noncomputable def SF (w : World) (os : OsState) : Shared := ⟨hf w.params, ⟨[]⟩, {}, 683, os⟩
theorem t_run (w : World) (os : OsState) : topRun treeTable PP w 11 (some (.ref 6)) (12 + (1 + (452 + (1419 + (640 + (371 + 2)))))) ⟨boot_heap w.params, ⟨[]⟩, boot_drawn, boot_toks, os⟩ (topStub PP) = some ⟨hf w.params, ⟨[]⟩, {}, 683, os⟩ := by
  refine go_top (congrFun (r_pre w) os) (piece_block (congrFun (r_block w) os) ?_)
  rw [body_eq]
  exact piece_app (segRun_of (congrFun (r_A w) os)) (piece_app (segRun_of (congrFun (r_B w) os)) (piece_app (segRun_of (congrFun (r_C w) os)) (piece_app (segRun_of (congrFun (r_D w) os)) (congrFun (r_fin w) os))))
def QQ : Program := { PP with main := { PP.main with body := [s1, s2, s4, s5, s6, s7, s8, s9, s11, s12, s13, s14, s15, s16, s17, s18, s19, s20, s21, s22, s23] } }
abbrev loo : List Str := [Str.ofString "GemError", Str.ofString "FIELDS", Str.ofString "Node", Str.ofString "Params"]
noncomputable def HK : Hook := kHook KK KKas (fun _ => by kernel_rfl)
theorem l_1 (w : World) : (fun os => staticsOk (importedModules PP.main.body) (boot_heap w.params) (hf w.params) && namesBound PP (hf w.params) && gensDone (SF w os) && laidKept (boot_heap w.params) (hf w.params)) = fun _ => true := by
  rw [Fast.te5923862056798008813]; kernel_rfl
theorem l_2 (w : World) : (fun os => seen ((recsOf QQ).map (·.name)) (ownsOf QQ) [] { SF w os with gens := #[] }) = fun _ => expectedOf QQ := by
  rw [Fast.te5160383126252970620, Fast.te3399658132070893891, Fast.te5991557255702980513]; kernel_rfl
theorem l_3 (w : World) : (fun os => (SF w os).heap.bltView) = fun _ => bltViewBooted := by kernel_rfl
theorem l_4 (w : World) : (fun os => (SF w os).heap.keysOk (looseW QQ loo) ((recsOf QQ).map (·.name)) ((litsOf QQ).map (·.1)) ((clssOf QQ (looseW QQ loo)).map (·.name)) && (SF w os).heap.accountedOkI (importedModules PP.main.body) && (SF w os).heap.isNs mainGlobals && (SF w os).heap.isNs builtinsNs && tablesOk QQ (SF w os).heap && (xlAt QQ [] (SF w os) && recOk LL.row.records (SF w os)) && (if true then (SF w os).gens.size == 0 else !leftWithCleanup (SF w os).gens)) = fun _ => true := by
  rw [Fast.te10880121769531294198, Fast.te821141287760084731, Fast.te3399658132070893891, Fast.te7409074990110511671, Fast.te13664370479719496447, Fast.te14722251495701143533, Fast.te5923862056798008813, Fast.te10994771534591457954]; kernel_rfl
theorem l_5 (w : World) : (fun os => tabsOk QQ (SF w os)) = fun _ => true := by rw [Fast.te479339242167458305]; kernel_rfl
theorem l_6 (w : World) : (fun os => pinSeenD QQ (drecsOf QQ) (SF w os)) = fun _ => pinGoodD (drecsOf QQ) := by rw [Fast.te16090120013241838585, Fast.te3247288618530077131]; kernel_rfl
theorem l_7 (w : World) : (fun os => plainSeenE QQ (looseW QQ loo) (SF w os)) = fun _ => plainGoodE QQ (looseW QQ loo) := by rw [Fast.te2386780881361962483, Fast.te821141287760084731]; kernel_rfl
theorem l_8 (w : World) : (fun os => plainSeenD QQ loo (SF w os)) = fun _ => plainGoodD QQ loo := by rw [Fast.te11698064438423848299]; kernel_rfl
theorem l_9 (w : World) : (fun os => wideSeen QQ (SF w os)) = fun _ => wideGood QQ := by rw [Fast.te7317090234206586261]; kernel_rfl
theorem l_10 (w : World) : (fun os => clsSeenW QQ loo (SF w os)) = fun _ => clsGoodW QQ loo := by rw [Fast.te7369524293546568484]; kernel_rfl
theorem l_11 (w : World) : (fun os => HK.obs (SF w os)) = fun _ => HK.val w := by kernel_rfl
theorem t_left : LeftO LL.row.prog QQ loo (fun s => xlAt QQ [] s && recOk LL.row.records s) HK.obs HK.val 5882 :=
  LeftO.of_pieces (p := PP) (H₀ := boot_heap) (H₁ := hf) (gs₀ := ⟨[]⟩) (gs₁ := ⟨[]⟩) (d₀ := boot_drawn) (d₁ := {}) (k₀ := boot_toks) (k₁ := 683) (m₀ := 11) (ann := some (.ref 6)) (M := 12 + (1 + (452 + (1419 + (640 + (371 + 2))))))
    (boot_open (by kernel_rfl) (by kernel_rfl) (fun s => by kernel_rfl)) (fun w => by rw [Fast.te8920871248978507458]; kernel_rfl) t_run (by kernel_rfl)
    (fun w => funext fun os => Prod.ext (congrFun (l_1 w) os) (Prod.ext (Prod.ext (congrFun (l_2 w) os) (Prod.ext (congrFun (l_3 w) os) (Prod.ext (congrFun (l_4 w) os) (Prod.ext (congrFun (l_5 w) os) (Prod.ext (congrFun (l_6 w) os) (Prod.ext (congrFun (l_7 w) os) (Prod.ext (congrFun (l_8 w) os) (Prod.ext (congrFun (l_9 w) os) (congrFun (l_10 w) os))))))))) (congrFun (l_11 w) os)))
end Mine

end

section
open PySem PySem.W PyProof.Rows
set_option Elab.async false
set_option maxRecDepth 100000
set_option maxHeartbeats 8000000
namespace Mine
theorem said : LL.wellSaid = true := by kernel_rfl
theorem holds_of (hc : ∀ said : LL.row.wellSaid = true, ∀ (d : DefRec) (kwd : List (Str × Expr)), defOf QQ LL.row.name = some (d, kwd) → WalkO QQ loo (XL QQ []) HK.says LL.row.toRowW d kwd fun f vs => PySem.call f vs) : LL.Holds := by
  w_on; refine holds_law said fun said => ?_
  refine PySem.W.holds_open (q := QQ) (loose := loo) (Xt := fun s => xlAt QQ [] s && recOk LL.row.records s) (XP := XL QQ []) (Yf := HK.obs) (Ya := HK.val) (YP := HK.says) (N := 5882) t_left HK.of HK.keeps (fun s e => xl_of s (Bool.and_eq_true_iff.mp e).1) XL.keeps (by rfl) (by rfl) (by rfl) (fun s e => recFacts_of (Bool.and_eq_true_iff.mp e).2) (by rfl) (by assumption) (by decide +kernel) ⟨rfl, rfl, rfl, rfl, rfl, by decide +kernel⟩ ?hw (hc said _ _ (by rfl))
  case hw => w_witness2
end Mine

end

section
open PySem PySem.W PyProof.Rows PySem.Calls
set_option Elab.async false
set_option maxRecDepth 100000
set_option maxHeartbeats 8000000
set_option linter.unusedVariables false
set_option pp.deepTerms false
set_option pp.deepTerms.threshold 6
set_option pp.maxSteps 6000
namespace Mine
theorem law_end {prog : Program} {w : World} {p : Program} {loose : List Str} {mean : ExcName → Option Value} {mg mb : Str → Option Value} {s₁ : Shared} {fa sc : Addr} {vs : List Value} {ns : List Int} {c : ClaimW} {cl : Str → Option Addr} {mean' : ExcName → Option Value} {args : List WData}
    (K : (KK w.params).In s₁.heap) (T : Top p loose mean mg mb s₁.heap) (hmg : mg (st "law") = some (.ref fa)) (hl : s₁.heap.IsList sc vs.toArray) (hi : IntsAre vs ns) (hz : ns.length ≤ 63) (hg : s₁.gens = #[]) (hr : ∀ cls, c.raises args cls = false) (hp : c.post args (.bool true) args = true) :
    codeAny (model prog w) callerA (.call (.ref fa) ⟨[.ref sc], []⟩) (GoodW c cl mean' args s₁) s₁ := by
  have e : mg (st "law") = some (.ref 276) := mg_of K T.g (by k_is)
  rw [e] at hmg
  obtain rfl : 276 = fa := by injection hmg with q; injection q
  have hl' : SeqAt s₁.heap.get? sc false vs := let ⟨o, a, b, n, d⟩ := hl; ⟨o, n, a, b, d⟩
  refine law_w K T hl' hi (by rw [hi.length]; omega) s₁ _ rfl fun v h' tk q => ?_
  obtain ⟨rfl, ext⟩ := q
  exact ⟨.inl ⟨_, _, [], rfl, hr, ReadsW.bool true, hp, fun _ => ⟨List.nodup_nil, fun _ hm => (nomatch hm)⟩⟩, ext, rfl, hg⟩
theorem top_hc : ∀ said : LL.row.wellSaid = true, ∀ (d : DefRec) (kwd : List (Str × Expr)), defOf QQ LL.row.name = some (d, kwd) → WalkO QQ loo (XL QQ []) HK.says LL.row.toRowW d kwd fun f vs => PySem.call f vs := by
  intro said d kwd hd
  obtain ⟨rfl, rfl⟩ := Prod.mk.inj (Option.some.inj (hd.symm.trans (by rfl)))
  clear hd
  w_strict (
    k_fill
    intro w s₀ s₁ mg mb G Y fa o pm cd doc dV kV ho hd hcd hD hmg hg args vals as hpre hlay hrd hwl hlo
    have KX := kIn_of Y
    have X := (Ground.X G).1
    have V := (Ground.X G).2
    refine Ground.open G ?_
    intro T B D TE TW
    try (refine guard_noD D (by decide +kernel) ?_; clear D)
    wrow_args hpre hlay hrd hwl hlo
    all_goals (
      first | refine callC_kw (enter_call ?_) | refine enter_call ?_ | refine callC_kw (enter_callW ?_) | refine enter_callW ?_ | w_how
      w_top on
      try refine codeAny_mono ?_ (fun _ _ g => GoodW.toG g)
      exact law_end KX T hmg (by assumption) (by assumption) (by omega) hg (fun _ => rfl) (by first | rfl | wrow_post)))
theorem cw_nz0037_01_holds' : PySem.Challenge.rw_nz0037_01.Holds := by
  rw [rw_eq]
  exact holds_of top_hc
end Mine

end

theorem PySem.Challenge.cw_nz0037_01_holds : PySem.Challenge.rw_nz0037_01.Holds := by
  exact Mine.cw_nz0037_01_holds'
