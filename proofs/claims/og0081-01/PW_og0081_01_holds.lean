import PyProof.Rows.All
import Wide.All
import OpenK.AllK
import Wide.FinOn
import PySem.Challenge.RW_og0081_01
set_option bootstrap.genMatcherCode false
set_option genSizeOf false
open PySem PySem.W PyProof.Rows
set_option Elab.async false
namespace Mine
noncomputable def nthS : List Stmt → Nat → Stmt
  | [], _ => .Pass default
  | s :: _, 0 => s
  | _ :: r, n + 1 => nthS r n
noncomputable def stm (i : Nat) : Stmt := nthS PySem.Challenge.pw_og0081_01.main.body i
noncomputable def ins : Stmt → Nat → Stmt
  | .ClassDef _ _ _ body _ _ _ _ _ _ _, j => nthS body j
  | s, _ => s
noncomputable def argsOf : Stmt → Arguments
  | .FunctionDef _ a _ _ _ _ _ _ _ _ => a
  | _ => default
noncomputable def bodyOf : Stmt → List Stmt
  | .FunctionDef _ _ b _ _ _ _ _ _ _ => b
  | _ => []
noncomputable def scopeOf : Stmt → Scope
  | .FunctionDef _ _ _ _ _ _ s _ _ _ => s
  | _ => default
noncomputable def fob (st : Stmt) (name qual : Str) (cl : List (Str × Addr)) (dV kV doc pm : Value) (an : Option Addr) (cdv ct : Value) : Obj :=
  { cls := .type "function", data := .func { name, qualname := qual, params := argsOf st, body := .stmts (bodyOf st), scope := scopeOf st, globals := mainGlobals, closure := cl, defaults := dV, kwdefaults := kV, doc, pyModule := pm, annotations := an, code := cdv, closureTuple := ct, builtins := builtinsNs } }
set_option maxRecDepth 100000 in
noncomputable def KK : Params → Frag := fun P => 
  (nat_lit 2, { cls := PySem.Value.none, data := PySem.Data.dict #[{ hash := PySem.PyData.keyHash P (PySem.Str.ofString "type.__subclasses__.Exception.0"), key := PySem.Value.str (PySem.Str.ofString "type.__subclasses__.Exception.0") 225, val := PySem.Value.int 40 0 }, { hash := PySem.PyData.keyHash P (PySem.Str.ofString "type.__subclasses__.Exception.n"), key := PySem.Value.str (PySem.Str.ofString "type.__subclasses__.Exception.n") 226, val := PySem.Value.int 1 0 }] 2 }) ::
  (nat_lit 3, { cls := PySem.Value.type "dict",   data :=     PySem.Data.dict       #[{ hash := PySem.PyData.keyHash P (PySem.Str.ofString "__name__"), key := PySem.Value.str (PySem.Str.ofString "__name__") 165, val := PySem.Value.str (PySem.Str.ofString "law_og0081_01") 450 }, { hash := PySem.PyData.keyHash P (PySem.Str.ofString "__doc__"), key := PySem.Value.str (PySem.Str.ofString "__doc__") 166, val := PySem.Value.none }, { hash := PySem.PyData.keyHash P (PySem.Str.ofString "__package__"), key := PySem.Value.str (PySem.Str.ofString "__package__") 167, val := PySem.Value.none }, { hash := PySem.PyData.keyHash P (PySem.Str.ofString "__loader__"), key := PySem.Value.str (PySem.Str.ofString "__loader__") 168, val := PySem.Value.builtin "__main__.__loader__#opaque" }, { hash := PySem.PyData.keyHash P (PySem.Str.ofString "__spec__"), key := PySem.Value.str (PySem.Str.ofString "__spec__") 169, val := PySem.Value.none }, { hash := PySem.PyData.keyHash P (PySem.Str.ofString "__annotations__"), key := PySem.Value.str (PySem.Str.ofString "__annotations__") 170, val := PySem.Value.ref 6 }, { hash := PySem.PyData.keyHash P (PySem.Str.ofString "__builtins__"), key := PySem.Value.str (PySem.Str.ofString "__builtins__") 171, val := PySem.Value.ref 4 }, { hash := PySem.PyData.keyHash P (PySem.Str.ofString "__file__"), key := PySem.Value.str (PySem.Str.ofString "__file__") 173, val := PySem.Value.str (PySem.Str.ofString "/claim/cut.py") 172 }, { hash := PySem.PyData.keyHash P (PySem.Str.ofString "__cached__"), key := PySem.Value.str (PySem.Str.ofString "__cached__") 174, val := PySem.Value.none }, { hash := PySem.PyData.keyHash P (PySem.Str.ofString "LedgerError"), key := PySem.Value.str (PySem.Str.ofString "LedgerError") 228, val := PySem.Value.ref 40 }, { hash := PySem.PyData.keyHash P (PySem.Str.ofString "RunFault"), key := PySem.Value.str (PySem.Str.ofString "RunFault") 244, val := PySem.Value.ref 53 }, { hash := PySem.PyData.keyHash P (PySem.Str.ofString "lies_at"), key := PySem.Value.str (PySem.Str.ofString "lies_at") 255, val := PySem.Value.ref 62 }, { hash := PySem.PyData.keyHash P (PySem.Str.ofString "first_at"), key := PySem.Value.str (PySem.Str.ofString "first_at") 265, val := PySem.Value.ref 69 }, { hash := PySem.PyData.keyHash P (PySem.Str.ofString "sent_part"), key := PySem.Value.str (PySem.Str.ofString "sent_part") 274, val := PySem.Value.ref 76 }, { hash := PySem.PyData.keyHash P (PySem.Str.ofString "strung"), key := PySem.Value.str (PySem.Str.ofString "strung") 289, val := PySem.Value.ref 83 }, { hash := PySem.PyData.keyHash P (PySem.Str.ofString "delimiter_at"), key := PySem.Value.str (PySem.Str.ofString "delimiter_at") 300, val := PySem.Value.ref 90 }, { hash := PySem.PyData.keyHash P (PySem.Str.ofString "behind_delimiter"), key := PySem.Value.str (PySem.Str.ofString "behind_delimiter") 311, val := PySem.Value.ref 97 }, { hash := PySem.PyData.keyHash P (PySem.Str.ofString "next_piece"), key := PySem.Value.str (PySem.Str.ofString "next_piece") 322, val := PySem.Value.ref 104 }, { hash := PySem.PyData.keyHash P (PySem.Str.ofString "unstrung"), key := PySem.Value.str (PySem.Str.ofString "unstrung") 336, val := PySem.Value.ref 111 }, { hash := PySem.PyData.keyHash P (PySem.Str.ofString "cut_by_sizes"), key := PySem.Value.str (PySem.Str.ofString "cut_by_sizes") 348, val := PySem.Value.ref 118 }, { hash := PySem.PyData.keyHash P (PySem.Str.ofString "Hands"), key := PySem.Value.str (PySem.Str.ofString "Hands") 389, val := PySem.Value.ref 135 }, { hash := PySem.PyData.keyHash P (PySem.Str.ofString "lone_octets"), key := PySem.Value.str (PySem.Str.ofString "lone_octets") 397, val := PySem.Value.ref 146 }, { hash := PySem.PyData.keyHash P (PySem.Str.ofString "pointed"), key := PySem.Value.str (PySem.Str.ofString "pointed") 405, val := PySem.Value.ref 153 }, { hash := PySem.PyData.keyHash P (PySem.Str.ofString "moved_on"), key := PySem.Value.str (PySem.Str.ofString "moved_on") 414, val := PySem.Value.ref 160 },         { hash := PySem.PyData.keyHash P (PySem.Str.ofString "string_with"), key := PySem.Value.str (PySem.Str.ofString "string_with") 429, val := PySem.Value.ref 167 }, { hash := PySem.PyData.keyHash P (PySem.Str.ofString "lay_pieces"), key := PySem.Value.str (PySem.Str.ofString "lay_pieces") 443, val := PySem.Value.ref 174 }, { hash := PySem.PyData.keyHash P (PySem.Str.ofString "unstring_with"), key := PySem.Value.str (PySem.Str.ofString "unstring_with") 449, val := PySem.Value.ref 179 }, { hash := PySem.PyData.keyHash P (PySem.Str.ofString "_law_pen"), key := PySem.Value.str (PySem.Str.ofString "_law_pen") 457, val := PySem.Value.ref 184 }, { hash := PySem.PyData.keyHash P (PySem.Str.ofString "_law_draw"), key := PySem.Value.str (PySem.Str.ofString "_law_draw") 470, val := PySem.Value.ref 191 }, { hash := PySem.PyData.keyHash P (PySem.Str.ofString "_law_pick"), key := PySem.Value.str (PySem.Str.ofString "_law_pick") 478, val := PySem.Value.ref 198 }, { hash := PySem.PyData.keyHash P (PySem.Str.ofString "_law_ref"), key := PySem.Value.str (PySem.Str.ofString "_law_ref") 485, val := PySem.Value.ref 205 }, { hash := PySem.PyData.keyHash P (PySem.Str.ofString "_law_fetch"), key := PySem.Value.str (PySem.Str.ofString "_law_fetch") 494, val := PySem.Value.ref 212 }, { hash := PySem.PyData.keyHash P (PySem.Str.ofString "_law_put"), key := PySem.Value.str (PySem.Str.ofString "_law_put") 503, val := PySem.Value.ref 219 }, { hash := PySem.PyData.keyHash P (PySem.Str.ofString "_law_bring"), key := PySem.Value.str (PySem.Str.ofString "_law_bring") 514, val := PySem.Value.ref 226 }, { hash := PySem.PyData.keyHash P (PySem.Str.ofString "_law_spot"), key := PySem.Value.str (PySem.Str.ofString "_law_spot") 522, val := PySem.Value.ref 233 }, { hash := PySem.PyData.keyHash P (PySem.Str.ofString "_law_hands"), key := PySem.Value.str (PySem.Str.ofString "_law_hands") 534, val := PySem.Value.ref 240 }, { hash := PySem.PyData.keyHash P (PySem.Str.ofString "_law_string_due"), key := PySem.Value.str (PySem.Str.ofString "_law_string_due") 554, val := PySem.Value.ref 247 }, { hash := PySem.PyData.keyHash P (PySem.Str.ofString "_law_piece"), key := PySem.Value.str (PySem.Str.ofString "_law_piece") 560, val := PySem.Value.ref 252 }, { hash := PySem.PyData.keyHash P (PySem.Str.ofString "_law_unstring_due"), key := PySem.Value.str (PySem.Str.ofString "_law_unstring_due") 566, val := PySem.Value.ref 257 }, { hash := PySem.PyData.keyHash P (PySem.Str.ofString "_law_operand"), key := PySem.Value.str (PySem.Str.ofString "_law_operand") 572, val := PySem.Value.ref 262 }, { hash := PySem.PyData.keyHash P (PySem.Str.ofString "_law_mark"), key := PySem.Value.str (PySem.Str.ofString "_law_mark") 579, val := PySem.Value.ref 269 }, { hash := PySem.PyData.keyHash P (PySem.Str.ofString "_law_string"), key := PySem.Value.str (PySem.Str.ofString "_law_string") 585, val := PySem.Value.ref 274 }, { hash := PySem.PyData.keyHash P (PySem.Str.ofString "_law_unstring"), key := PySem.Value.str (PySem.Str.ofString "_law_unstring") 591, val := PySem.Value.ref 279 }, { hash := PySem.PyData.keyHash P (PySem.Str.ofString "_law_is_done"), key := PySem.Value.str (PySem.Str.ofString "_law_is_done") 606, val := PySem.Value.ref 286 }, { hash := PySem.PyData.keyHash P (PySem.Str.ofString "law"), key := PySem.Value.str (PySem.Str.ofString "law") 612, val := PySem.Value.ref 291 }]       45 }) ::
  (nat_lit 15, { cls := PySem.Value.type "tuple", data := PySem.Data.seq #[PySem.Value.type "Exception"] }) ::
  (nat_lit 22, { cls := PySem.Value.type "tuple", data := PySem.Data.seq #[PySem.Value.int 0 201, PySem.Value.int 0 202] }) ::
  (nat_lit 23, { cls := PySem.Value.type "tuple", data := PySem.Data.seq #[PySem.Value.ref 22] }) ::
  (nat_lit 24, { cls := PySem.Value.type "tuple", data := PySem.Data.seq #[] }) ::
  (nat_lit 26, { cls := PySem.Value.type "tuple", data := PySem.Data.seq #[PySem.Value.str (PySem.Str.ofString "self") 206, PySem.Value.str (PySem.Str.ofString "what") 207, PySem.Value.str (PySem.Str.ofString "at") 208] }) ::
  (nat_lit 27, { cls := PySem.Value.type "tuple", data := PySem.Data.seq #[] }) ::
  (nat_lit 29, { cls := PySem.Value.type "code", data := PySem.Data.fields #[PySem.Value.str (PySem.Str.ofString "__init__") 203, PySem.Value.str (PySem.Str.ofString "LedgerError.__init__") 204, PySem.Value.str (PySem.Str.ofString "/claim/cut.py") 205, PySem.Value.int 4 0, PySem.Value.int 3 0, PySem.Value.int 0 0, PySem.Value.int 0 0, PySem.Value.int 3 0, PySem.Value.ref 24, PySem.Value.bool Bool.true, PySem.Value.int 181 0, PySem.Value.ref 25, PySem.Value.none, PySem.Value.ref 26, PySem.Value.ref 27, PySem.Value.ref 28, PySem.Value.int 209 0, PySem.Value.int 4 0, PySem.Value.str (PySem.Str.ofString "/claim/cut.py") 210] }) ::
  (nat_lit 30, Mine.fob (Mine.ins (Mine.stm 1) 0) (PySem.Str.ofString "__init__") (PySem.Str.ofString "LedgerError.__init__") ([]) (PySem.Value.ref 23) (PySem.Value.none) (PySem.Value.none) (PySem.Value.str (PySem.Str.ofString "ledgerspeak.errors") 187) (Option.none) (PySem.Value.ref 29) (PySem.Value.none)) ::
  (nat_lit 31, { cls := PySem.Value.type "tuple", data := PySem.Data.seq #[] }) ::
  (nat_lit 33, { cls := PySem.Value.type "tuple", data := PySem.Data.seq #[PySem.Value.str (PySem.Str.ofString "self") 215] }) ::
  (nat_lit 34, { cls := PySem.Value.type "tuple", data := PySem.Data.seq #[] }) ::
  (nat_lit 36, { cls := PySem.Value.type "code", data := PySem.Data.fields #[PySem.Value.str (PySem.Str.ofString "told") 212, PySem.Value.str (PySem.Str.ofString "LedgerError.told") 213, PySem.Value.str (PySem.Str.ofString "/claim/cut.py") 214, PySem.Value.int 9 0, PySem.Value.int 1 0, PySem.Value.int 0 0, PySem.Value.int 0 0, PySem.Value.int 3 0, PySem.Value.ref 31, PySem.Value.bool Bool.true, PySem.Value.int 181 0, PySem.Value.ref 32, PySem.Value.none, PySem.Value.ref 33, PySem.Value.ref 34, PySem.Value.ref 35, PySem.Value.int 216 0, PySem.Value.int 9 0, PySem.Value.str (PySem.Str.ofString "/claim/cut.py") 217] }) ::
  (nat_lit 37, Mine.fob (Mine.ins (Mine.stm 1) 1) (PySem.Str.ofString "told") (PySem.Str.ofString "LedgerError.told") ([]) (PySem.Value.none) (PySem.Value.none) (PySem.Value.none) (PySem.Value.str (PySem.Str.ofString "ledgerspeak.errors") 187) (Option.none) (PySem.Value.ref 36) (PySem.Value.none)) ::
  (nat_lit 38, { cls := PySem.Value.type "tuple", data := PySem.Data.seq #[PySem.Value.str (PySem.Str.ofString "at") 219, PySem.Value.str (PySem.Str.ofString "what") 220] }) ::
  (nat_lit 39, { cls := PySem.Value.type "dict", data := PySem.Data.dict #[{ hash := PySem.PyData.keyHash P (PySem.Str.ofString "__module__"), key := PySem.Value.str (PySem.Str.ofString "__module__") 196, val := PySem.Value.str (PySem.Str.ofString "ledgerspeak.errors") 187 }, { hash := PySem.PyData.keyHash P (PySem.Str.ofString "__firstlineno__"), key := PySem.Value.str (PySem.Str.ofString "__firstlineno__") 200, val := PySem.Value.int 2 199 }, { hash := PySem.PyData.keyHash P (PySem.Str.ofString "__init__"), key := PySem.Value.str (PySem.Str.ofString "__init__") 211, val := PySem.Value.ref 30 }, { hash := PySem.PyData.keyHash P (PySem.Str.ofString "told"), key := PySem.Value.str (PySem.Str.ofString "told") 218, val := PySem.Value.ref 37 }, { hash := PySem.PyData.keyHash P (PySem.Str.ofString "__static_attributes__"), key := PySem.Value.str (PySem.Str.ofString "__static_attributes__") 221, val := PySem.Value.ref 38 }, { hash := PySem.PyData.keyHash P (PySem.Str.ofString "__weakref__"), key := PySem.Value.str (PySem.Str.ofString "__weakref__") 223, val := PySem.Value.ref 41 }, { hash := PySem.PyData.keyHash P (PySem.Str.ofString "__doc__"), key := PySem.Value.str (PySem.Str.ofString "__doc__") 224, val := PySem.Value.none }] 3 }) ::
  (nat_lit 40, { cls := PySem.Value.type "type", data := PySem.Data.cls { name := PySem.Str.ofString "LedgerError", bases := [PySem.Value.type "Exception"], mro := [PySem.Value.ref 40, PySem.Value.type "Exception", PySem.Value.type "BaseException", PySem.Value.type "object"], ns := 39, qualname := PySem.Str.ofString "LedgerError", subclasses := [PySem.Value.ref 53] }, slots := #[Option.some (PySem.Value.ref 15), Option.none, Option.some (PySem.Value.str (PySem.Str.ofString "LedgerError") 189), Option.some (PySem.Value.str (PySem.Str.ofString "LedgerError") 197), Option.some (PySem.Value.builtin "Exception.__new__"), Option.some (PySem.Value.bool Bool.true)] }) ::
  (nat_lit 41, { cls := PySem.Value.type "getset_descriptor", data := PySem.Data.fields #[PySem.Value.str (PySem.Str.ofString "__weakref__") 222, PySem.Value.ref 40, PySem.Value.builtin "ExceptionGroup.__weakref__", PySem.Value.none] }) ::
  (nat_lit 44, { cls := PySem.Value.type "tuple", data := PySem.Data.seq #[PySem.Value.ref 40] }) ::
  (nat_lit 51, { cls := PySem.Value.type "tuple", data := PySem.Data.seq #[] }) ::
  (nat_lit 52, { cls := PySem.Value.type "dict", data := PySem.Data.dict #[{ hash := PySem.PyData.keyHash P (PySem.Str.ofString "__module__"), key := PySem.Value.str (PySem.Str.ofString "__module__") 236, val := PySem.Value.str (PySem.Str.ofString "ledgerspeak.errors") 187 }, { hash := PySem.PyData.keyHash P (PySem.Str.ofString "__firstlineno__"), key := PySem.Value.str (PySem.Str.ofString "__firstlineno__") 240, val := PySem.Value.int 11 239 }, { hash := PySem.PyData.keyHash P (PySem.Str.ofString "__static_attributes__"), key := PySem.Value.str (PySem.Str.ofString "__static_attributes__") 241, val := PySem.Value.ref 51 }, { hash := PySem.PyData.keyHash P (PySem.Str.ofString "__doc__"), key := PySem.Value.str (PySem.Str.ofString "__doc__") 242, val := PySem.Value.none }] 2 }) ::
  (nat_lit 53, { cls := PySem.Value.type "type", data := PySem.Data.cls { name := PySem.Str.ofString "RunFault", bases := [PySem.Value.ref 40], mro := [PySem.Value.ref 53, PySem.Value.ref 40, PySem.Value.type "Exception", PySem.Value.type "BaseException", PySem.Value.type "object"], ns := 52, qualname := PySem.Str.ofString "RunFault" }, slots := #[Option.some (PySem.Value.ref 44), Option.none, Option.some (PySem.Value.str (PySem.Str.ofString "RunFault") 229), Option.some (PySem.Value.str (PySem.Str.ofString "RunFault") 237), Option.some (PySem.Value.builtin "Exception.__new__"), Option.some (PySem.Value.bool Bool.true)] }) ::
  (nat_lit 56, { cls := PySem.Value.type "tuple", data := PySem.Data.seq #[] }) ::
  (nat_lit 58, { cls := PySem.Value.type "tuple", data := PySem.Data.seq #[PySem.Value.str (PySem.Str.ofString "octets") 250, PySem.Value.str (PySem.Str.ofString "wanted") 251, PySem.Value.str (PySem.Str.ofString "at") 252] }) ::
  (nat_lit 59, { cls := PySem.Value.type "tuple", data := PySem.Data.seq #[] }) ::
  (nat_lit 61, { cls := PySem.Value.type "code", data := PySem.Data.fields #[PySem.Value.str (PySem.Str.ofString "lies_at") 247, PySem.Value.str (PySem.Str.ofString "lies_at") 248, PySem.Value.str (PySem.Str.ofString "/claim/cut.py") 249, PySem.Value.int 14 0, PySem.Value.int 3 0, PySem.Value.int 0 0, PySem.Value.int 0 0, PySem.Value.int 3 0, PySem.Value.ref 56, PySem.Value.bool Bool.true, PySem.Value.int 181 0, PySem.Value.ref 57, PySem.Value.none, PySem.Value.ref 58, PySem.Value.ref 59, PySem.Value.ref 60, PySem.Value.int 253 0, PySem.Value.int 14 0, PySem.Value.str (PySem.Str.ofString "/claim/cut.py") 254] }) ::
  (nat_lit 62, Mine.fob (Mine.stm 4) (PySem.Str.ofString "lies_at") (PySem.Str.ofString "lies_at") ([]) (PySem.Value.none) (PySem.Value.none) (PySem.Value.none) (PySem.Value.str (PySem.Str.ofString "ledgerspeak.stringing") 245) (Option.none) (PySem.Value.ref 61) (PySem.Value.none)) ::
  (nat_lit 63, { cls := PySem.Value.type "tuple", data := PySem.Data.seq #[] }) ::
  (nat_lit 65, { cls := PySem.Value.type "tuple", data := PySem.Data.seq #[PySem.Value.str (PySem.Str.ofString "octets") 259, PySem.Value.str (PySem.Str.ofString "wanted") 260, PySem.Value.str (PySem.Str.ofString "begin") 261, PySem.Value.str (PySem.Str.ofString "at") 262] }) ::
  (nat_lit 66, { cls := PySem.Value.type "tuple", data := PySem.Data.seq #[] }) ::
  (nat_lit 68, { cls := PySem.Value.type "code", data := PySem.Data.fields #[PySem.Value.str (PySem.Str.ofString "first_at") 256, PySem.Value.str (PySem.Str.ofString "first_at") 257, PySem.Value.str (PySem.Str.ofString "/claim/cut.py") 258, PySem.Value.int 16 0, PySem.Value.int 3 0, PySem.Value.int 0 0, PySem.Value.int 0 0, PySem.Value.int 3 0, PySem.Value.ref 63, PySem.Value.bool Bool.true, PySem.Value.int 181 0, PySem.Value.ref 64, PySem.Value.none, PySem.Value.ref 65, PySem.Value.ref 66, PySem.Value.ref 67, PySem.Value.int 263 0, PySem.Value.int 16 0, PySem.Value.str (PySem.Str.ofString "/claim/cut.py") 264] }) ::
  (nat_lit 69, Mine.fob (Mine.stm 5) (PySem.Str.ofString "first_at") (PySem.Str.ofString "first_at") ([]) (PySem.Value.none) (PySem.Value.none) (PySem.Value.none) (PySem.Value.str (PySem.Str.ofString "ledgerspeak.stringing") 245) (Option.none) (PySem.Value.ref 68) (PySem.Value.none)) ::
  (nat_lit 70, { cls := PySem.Value.type "tuple", data := PySem.Data.seq #[] }) ::
  (nat_lit 72, { cls := PySem.Value.type "tuple", data := PySem.Data.seq #[PySem.Value.str (PySem.Str.ofString "octets") 269, PySem.Value.str (PySem.Str.ofString "delimiter") 270, PySem.Value.str (PySem.Str.ofString "at") 271] }) ::
  (nat_lit 73, { cls := PySem.Value.type "tuple", data := PySem.Data.seq #[] }) ::
  (nat_lit 75, { cls := PySem.Value.type "code", data := PySem.Data.fields #[PySem.Value.str (PySem.Str.ofString "sent_part") 266, PySem.Value.str (PySem.Str.ofString "sent_part") 267, PySem.Value.str (PySem.Str.ofString "/claim/cut.py") 268, PySem.Value.int 23 0, PySem.Value.int 2 0, PySem.Value.int 0 0, PySem.Value.int 0 0, PySem.Value.int 3 0, PySem.Value.ref 70, PySem.Value.bool Bool.true, PySem.Value.int 181 0, PySem.Value.ref 71, PySem.Value.none, PySem.Value.ref 72, PySem.Value.ref 73, PySem.Value.ref 74, PySem.Value.int 272 0, PySem.Value.int 23 0, PySem.Value.str (PySem.Str.ofString "/claim/cut.py") 273] }) ::
  (nat_lit 76, Mine.fob (Mine.stm 6) (PySem.Str.ofString "sent_part") (PySem.Str.ofString "sent_part") ([]) (PySem.Value.none) (PySem.Value.none) (PySem.Value.none) (PySem.Value.str (PySem.Str.ofString "ledgerspeak.stringing") 245) (Option.none) (PySem.Value.ref 75) (PySem.Value.none)) ::
  (nat_lit 77, { cls := PySem.Value.type "tuple", data := PySem.Data.seq #[] }) ::
  (nat_lit 79, { cls := PySem.Value.type "tuple", data := PySem.Data.seq #[PySem.Value.str (PySem.Str.ofString "rows") 278, PySem.Value.str (PySem.Str.ofString "goal") 279, PySem.Value.str (PySem.Str.ofString "begin") 280, PySem.Value.str (PySem.Str.ofString "following") 281, PySem.Value.str (PySem.Str.ofString "octets") 282, PySem.Value.str (PySem.Str.ofString "delimiter") 283, PySem.Value.str (PySem.Str.ofString "piece") 284, PySem.Value.str (PySem.Str.ofString "room") 285, PySem.Value.str (PySem.Str.ofString "head") 286] }) ::
  (nat_lit 80, { cls := PySem.Value.type "tuple", data := PySem.Data.seq #[] }) ::
  (nat_lit 82, { cls := PySem.Value.type "code", data := PySem.Data.fields #[PySem.Value.str (PySem.Str.ofString "strung") 275, PySem.Value.str (PySem.Str.ofString "strung") 276, PySem.Value.str (PySem.Str.ofString "/claim/cut.py") 277, PySem.Value.int 28 0, PySem.Value.int 3 0, PySem.Value.int 0 0, PySem.Value.int 0 0, PySem.Value.int 3 0, PySem.Value.ref 77, PySem.Value.bool Bool.true, PySem.Value.int 181 0, PySem.Value.ref 78, PySem.Value.none, PySem.Value.ref 79, PySem.Value.ref 80, PySem.Value.ref 81, PySem.Value.int 287 0, PySem.Value.int 28 0, PySem.Value.str (PySem.Str.ofString "/claim/cut.py") 288] }) ::
  (nat_lit 83, Mine.fob (Mine.stm 7) (PySem.Str.ofString "strung") (PySem.Str.ofString "strung") ([]) (PySem.Value.none) (PySem.Value.none) (PySem.Value.none) (PySem.Value.str (PySem.Str.ofString "ledgerspeak.stringing") 245) (Option.none) (PySem.Value.ref 82) (PySem.Value.none)) ::
  (nat_lit 84, { cls := PySem.Value.type "tuple", data := PySem.Data.seq #[] }) ::
  (nat_lit 86, { cls := PySem.Value.type "tuple", data := PySem.Data.seq #[PySem.Value.str (PySem.Str.ofString "octets") 293, PySem.Value.str (PySem.Str.ofString "delimiters") 294, PySem.Value.str (PySem.Str.ofString "at") 295, PySem.Value.str (PySem.Str.ofString "mark") 296, PySem.Value.str (PySem.Str.ofString "is_all") 297] }) ::
  (nat_lit 87, { cls := PySem.Value.type "tuple", data := PySem.Data.seq #[] }) ::
  (nat_lit 89, { cls := PySem.Value.type "code", data := PySem.Data.fields #[PySem.Value.str (PySem.Str.ofString "delimiter_at") 290, PySem.Value.str (PySem.Str.ofString "delimiter_at") 291, PySem.Value.str (PySem.Str.ofString "/claim/cut.py") 292, PySem.Value.int 41 0, PySem.Value.int 3 0, PySem.Value.int 0 0, PySem.Value.int 0 0, PySem.Value.int 3 0, PySem.Value.ref 84, PySem.Value.bool Bool.true, PySem.Value.int 181 0, PySem.Value.ref 85, PySem.Value.none, PySem.Value.ref 86, PySem.Value.ref 87, PySem.Value.ref 88, PySem.Value.int 298 0, PySem.Value.int 41 0, PySem.Value.str (PySem.Str.ofString "/claim/cut.py") 299] }) ::
  (nat_lit 90, Mine.fob (Mine.stm 8) (PySem.Str.ofString "delimiter_at") (PySem.Str.ofString "delimiter_at") ([]) (PySem.Value.none) (PySem.Value.none) (PySem.Value.none) (PySem.Value.str (PySem.Str.ofString "ledgerspeak.stringing") 245) (Option.none) (PySem.Value.ref 89) (PySem.Value.none)) ::
  (nat_lit 91, { cls := PySem.Value.type "tuple", data := PySem.Data.seq #[] }) ::
  (nat_lit 93, { cls := PySem.Value.type "tuple", data := PySem.Data.seq #[PySem.Value.str (PySem.Str.ofString "octets") 304, PySem.Value.str (PySem.Str.ofString "mark") 305, PySem.Value.str (PySem.Str.ofString "is_all") 306, PySem.Value.str (PySem.Str.ofString "at") 307, PySem.Value.str (PySem.Str.ofString "behind") 308] }) ::
  (nat_lit 94, { cls := PySem.Value.type "tuple", data := PySem.Data.seq #[] }) ::
  (nat_lit 96, { cls := PySem.Value.type "code", data := PySem.Data.fields #[PySem.Value.str (PySem.Str.ofString "behind_delimiter") 301, PySem.Value.str (PySem.Str.ofString "behind_delimiter") 302, PySem.Value.str (PySem.Str.ofString "/claim/cut.py") 303, PySem.Value.int 48 0, PySem.Value.int 4 0, PySem.Value.int 0 0, PySem.Value.int 0 0, PySem.Value.int 3 0, PySem.Value.ref 91, PySem.Value.bool Bool.true, PySem.Value.int 181 0, PySem.Value.ref 92, PySem.Value.none, PySem.Value.ref 93, PySem.Value.ref 94, PySem.Value.ref 95, PySem.Value.int 309 0, PySem.Value.int 48 0, PySem.Value.str (PySem.Str.ofString "/claim/cut.py") 310] }) ::
  (nat_lit 97, Mine.fob (Mine.stm 9) (PySem.Str.ofString "behind_delimiter") (PySem.Str.ofString "behind_delimiter") ([]) (PySem.Value.none) (PySem.Value.none) (PySem.Value.none) (PySem.Value.str (PySem.Str.ofString "ledgerspeak.stringing") 245) (Option.none) (PySem.Value.ref 96) (PySem.Value.none)) ::
  (nat_lit 98, { cls := PySem.Value.type "tuple", data := PySem.Data.seq #[] }) ::
  (nat_lit 100, { cls := PySem.Value.type "tuple", data := PySem.Data.seq #[PySem.Value.str (PySem.Str.ofString "octets") 315, PySem.Value.str (PySem.Str.ofString "delimiters") 316, PySem.Value.str (PySem.Str.ofString "begin") 317, PySem.Value.str (PySem.Str.ofString "at") 318, PySem.Value.str (PySem.Str.ofString "hit") 319] }) ::
  (nat_lit 101, { cls := PySem.Value.type "tuple", data := PySem.Data.seq #[] }) ::
  (nat_lit 103, { cls := PySem.Value.type "code", data := PySem.Data.fields #[PySem.Value.str (PySem.Str.ofString "next_piece") 312, PySem.Value.str (PySem.Str.ofString "next_piece") 313, PySem.Value.str (PySem.Str.ofString "/claim/cut.py") 314, PySem.Value.int 53 0, PySem.Value.int 3 0, PySem.Value.int 0 0, PySem.Value.int 0 0, PySem.Value.int 3 0, PySem.Value.ref 98, PySem.Value.bool Bool.true, PySem.Value.int 181 0, PySem.Value.ref 99, PySem.Value.none, PySem.Value.ref 100, PySem.Value.ref 101, PySem.Value.ref 102, PySem.Value.int 320 0, PySem.Value.int 53 0, PySem.Value.str (PySem.Str.ofString "/claim/cut.py") 321] }) ::
  (nat_lit 104, Mine.fob (Mine.stm 10) (PySem.Str.ofString "next_piece") (PySem.Str.ofString "next_piece") ([]) (PySem.Value.none) (PySem.Value.none) (PySem.Value.none) (PySem.Value.str (PySem.Str.ofString "ledgerspeak.stringing") 245) (Option.none) (PySem.Value.ref 103) (PySem.Value.none)) ::
  (nat_lit 105, { cls := PySem.Value.type "tuple", data := PySem.Data.seq #[] }) ::
  (nat_lit 107, { cls := PySem.Value.type "tuple", data := PySem.Data.seq #[PySem.Value.str (PySem.Str.ofString "octets") 326, PySem.Value.str (PySem.Str.ofString "delimiters") 327, PySem.Value.str (PySem.Str.ofString "begin") 328, PySem.Value.str (PySem.Str.ofString "many") 329, PySem.Value.str (PySem.Str.ofString "pieces") 330, PySem.Value.str (PySem.Str.ofString "at") 331, PySem.Value.str (PySem.Str.ofString "piece") 332, PySem.Value.str (PySem.Str.ofString "mark") 333] }) ::
  (nat_lit 108, { cls := PySem.Value.type "tuple", data := PySem.Data.seq #[] }) ::
  (nat_lit 110, { cls := PySem.Value.type "code", data := PySem.Data.fields #[PySem.Value.str (PySem.Str.ofString "unstrung") 323, PySem.Value.str (PySem.Str.ofString "unstrung") 324, PySem.Value.str (PySem.Str.ofString "/claim/cut.py") 325, PySem.Value.int 59 0, PySem.Value.int 4 0, PySem.Value.int 0 0, PySem.Value.int 0 0, PySem.Value.int 3 0, PySem.Value.ref 105, PySem.Value.bool Bool.true, PySem.Value.int 181 0, PySem.Value.ref 106, PySem.Value.none, PySem.Value.ref 107, PySem.Value.ref 108, PySem.Value.ref 109, PySem.Value.int 334 0, PySem.Value.int 59 0, PySem.Value.str (PySem.Str.ofString "/claim/cut.py") 335] }) ::
  (nat_lit 111, Mine.fob (Mine.stm 11) (PySem.Str.ofString "unstrung") (PySem.Str.ofString "unstrung") ([]) (PySem.Value.none) (PySem.Value.none) (PySem.Value.none) (PySem.Value.str (PySem.Str.ofString "ledgerspeak.stringing") 245) (Option.none) (PySem.Value.ref 110) (PySem.Value.none)) ::
  (nat_lit 112, { cls := PySem.Value.type "tuple", data := PySem.Data.seq #[] }) ::
  (nat_lit 114, { cls := PySem.Value.type "tuple", data := PySem.Data.seq #[PySem.Value.str (PySem.Str.ofString "octets") 340, PySem.Value.str (PySem.Str.ofString "sizes") 341, PySem.Value.str (PySem.Str.ofString "begin") 342, PySem.Value.str (PySem.Str.ofString "pieces") 343, PySem.Value.str (PySem.Str.ofString "at") 344, PySem.Value.str (PySem.Str.ofString "size") 345] }) ::
  (nat_lit 115, { cls := PySem.Value.type "tuple", data := PySem.Data.seq #[] }) ::
  (nat_lit 117, { cls := PySem.Value.type "code", data := PySem.Data.fields #[PySem.Value.str (PySem.Str.ofString "cut_by_sizes") 337, PySem.Value.str (PySem.Str.ofString "cut_by_sizes") 338, PySem.Value.str (PySem.Str.ofString "/claim/cut.py") 339, PySem.Value.int 67 0, PySem.Value.int 3 0, PySem.Value.int 0 0, PySem.Value.int 0 0, PySem.Value.int 3 0, PySem.Value.ref 112, PySem.Value.bool Bool.true, PySem.Value.int 181 0, PySem.Value.ref 113, PySem.Value.none, PySem.Value.ref 114, PySem.Value.ref 115, PySem.Value.ref 116, PySem.Value.int 346 0, PySem.Value.int 67 0, PySem.Value.str (PySem.Str.ofString "/claim/cut.py") 347] }) ::
  (nat_lit 118, Mine.fob (Mine.stm 12) (PySem.Str.ofString "cut_by_sizes") (PySem.Str.ofString "cut_by_sizes") ([]) (PySem.Value.none) (PySem.Value.none) (PySem.Value.none) (PySem.Value.str (PySem.Str.ofString "ledgerspeak.stringing") 245) (Option.none) (PySem.Value.ref 117) (PySem.Value.none)) ::
  (nat_lit 126, { cls := PySem.Value.type "tuple", data := PySem.Data.seq #[] }) ::
  (nat_lit 128, { cls := PySem.Value.type "tuple", data := PySem.Data.seq #[PySem.Value.str (PySem.Str.ofString "self") 364, PySem.Value.str (PySem.Str.ofString "fetch") 365, PySem.Value.str (PySem.Str.ofString "plant") 366, PySem.Value.str (PySem.Str.ofString "amount") 367, PySem.Value.str (PySem.Str.ofString "keep") 368, PySem.Value.str (PySem.Str.ofString "spot") 369, PySem.Value.str (PySem.Str.ofString "bring") 370, PySem.Value.str (PySem.Str.ofString "room") 371] }) ::
  (nat_lit 129, { cls := PySem.Value.type "tuple", data := PySem.Data.seq #[] }) ::
  (nat_lit 131, { cls := PySem.Value.type "code", data := PySem.Data.fields #[PySem.Value.str (PySem.Str.ofString "__init__") 361, PySem.Value.str (PySem.Str.ofString "Hands.__init__") 362, PySem.Value.str (PySem.Str.ofString "/claim/cut.py") 363, PySem.Value.int 78 0, PySem.Value.int 8 0, PySem.Value.int 0 0, PySem.Value.int 0 0, PySem.Value.int 3 0, PySem.Value.ref 126, PySem.Value.bool Bool.true, PySem.Value.int 181 0, PySem.Value.ref 127, PySem.Value.none, PySem.Value.ref 128, PySem.Value.ref 129, PySem.Value.ref 130, PySem.Value.int 372 0, PySem.Value.int 78 0, PySem.Value.str (PySem.Str.ofString "/claim/cut.py") 373] }) ::
  (nat_lit 132, Mine.fob (Mine.ins (Mine.stm 13) 0) (PySem.Str.ofString "__init__") (PySem.Str.ofString "Hands.__init__") ([]) (PySem.Value.none) (PySem.Value.none) (PySem.Value.none) (PySem.Value.str (PySem.Str.ofString "ledgerspeak.stringing") 245) (Option.none) (PySem.Value.ref 131) (PySem.Value.none)) ::
  (nat_lit 133, { cls := PySem.Value.type "tuple", data := PySem.Data.seq #[PySem.Value.str (PySem.Str.ofString "amount") 375, PySem.Value.str (PySem.Str.ofString "bring") 376, PySem.Value.str (PySem.Str.ofString "fetch") 377, PySem.Value.str (PySem.Str.ofString "keep") 378, PySem.Value.str (PySem.Str.ofString "plant") 379, PySem.Value.str (PySem.Str.ofString "room") 380, PySem.Value.str (PySem.Str.ofString "spot") 381] }) ::
  (nat_lit 134, { cls := PySem.Value.type "dict", data := PySem.Data.dict #[{ hash := PySem.PyData.keyHash P (PySem.Str.ofString "__module__"), key := PySem.Value.str (PySem.Str.ofString "__module__") 356, val := PySem.Value.str (PySem.Str.ofString "ledgerspeak.stringing") 245 }, { hash := PySem.PyData.keyHash P (PySem.Str.ofString "__firstlineno__"), key := PySem.Value.str (PySem.Str.ofString "__firstlineno__") 360, val := PySem.Value.int 76 359 }, { hash := PySem.PyData.keyHash P (PySem.Str.ofString "__init__"), key := PySem.Value.str (PySem.Str.ofString "__init__") 374, val := PySem.Value.ref 132 }, { hash := PySem.PyData.keyHash P (PySem.Str.ofString "__static_attributes__"), key := PySem.Value.str (PySem.Str.ofString "__static_attributes__") 382, val := PySem.Value.ref 133 }, { hash := PySem.PyData.keyHash P (PySem.Str.ofString "__dict__"), key := PySem.Value.str (PySem.Str.ofString "__dict__") 384, val := PySem.Value.ref 136 }, { hash := PySem.PyData.keyHash P (PySem.Str.ofString "__weakref__"), key := PySem.Value.str (PySem.Str.ofString "__weakref__") 386, val := PySem.Value.ref 137 }, { hash := PySem.PyData.keyHash P (PySem.Str.ofString "__doc__"), key := PySem.Value.str (PySem.Str.ofString "__doc__") 387, val := PySem.Value.none }] 4 }) ::
  (nat_lit 135, { cls := PySem.Value.type "type", data := PySem.Data.cls { name := PySem.Str.ofString "Hands", bases := [PySem.Value.type "object"], mro := [PySem.Value.ref 135, PySem.Value.type "object"], ns := 134, qualname := PySem.Str.ofString "Hands" }, slots := #[Option.none, Option.none, Option.some (PySem.Value.str (PySem.Str.ofString "Hands") 349), Option.some (PySem.Value.str (PySem.Str.ofString "Hands") 357), Option.some (PySem.Value.builtin "object.__new__"), Option.some (PySem.Value.bool Bool.true)] }) ::
  (nat_lit 136, { cls := PySem.Value.type "getset_descriptor", data := PySem.Data.fields #[PySem.Value.str (PySem.Str.ofString "__dict__") 383, PySem.Value.ref 135, PySem.Value.builtin "function.__dict__", PySem.Value.builtin "function.__dict__#set"] }) ::
  (nat_lit 137, { cls := PySem.Value.type "getset_descriptor", data := PySem.Data.fields #[PySem.Value.str (PySem.Str.ofString "__weakref__") 385, PySem.Value.ref 135, PySem.Value.builtin "ExceptionGroup.__weakref__", PySem.Value.none] }) ::
  (nat_lit 140, { cls := PySem.Value.type "tuple", data := PySem.Data.seq #[] }) ::
  (nat_lit 142, { cls := PySem.Value.type "tuple", data := PySem.Data.seq #[PySem.Value.str (PySem.Str.ofString "operand") 393, PySem.Value.str (PySem.Str.ofString "hands") 394] }) ::
  (nat_lit 143, { cls := PySem.Value.type "tuple", data := PySem.Data.seq #[] }) ::
  (nat_lit 145, { cls := PySem.Value.type "code", data := PySem.Data.fields #[PySem.Value.str (PySem.Str.ofString "lone_octets") 390, PySem.Value.str (PySem.Str.ofString "lone_octets") 391, PySem.Value.str (PySem.Str.ofString "/claim/cut.py") 392, PySem.Value.int 86 0, PySem.Value.int 2 0, PySem.Value.int 0 0, PySem.Value.int 0 0, PySem.Value.int 3 0, PySem.Value.ref 140, PySem.Value.bool Bool.true, PySem.Value.int 181 0, PySem.Value.ref 141, PySem.Value.none, PySem.Value.ref 142, PySem.Value.ref 143, PySem.Value.ref 144, PySem.Value.int 395 0, PySem.Value.int 86 0, PySem.Value.str (PySem.Str.ofString "/claim/cut.py") 396] }) ::
  (nat_lit 146, Mine.fob (Mine.stm 14) (PySem.Str.ofString "lone_octets") (PySem.Str.ofString "lone_octets") ([]) (PySem.Value.none) (PySem.Value.none) (PySem.Value.none) (PySem.Value.str (PySem.Str.ofString "ledgerspeak.stringing") 245) (Option.none) (PySem.Value.ref 145) (PySem.Value.none)) ::
  (nat_lit 147, { cls := PySem.Value.type "tuple", data := PySem.Data.seq #[] }) ::
  (nat_lit 149, { cls := PySem.Value.type "tuple", data := PySem.Data.seq #[PySem.Value.str (PySem.Str.ofString "pointer") 401, PySem.Value.str (PySem.Str.ofString "hands") 402] }) ::
  (nat_lit 150, { cls := PySem.Value.type "tuple", data := PySem.Data.seq #[] }) ::
  (nat_lit 152, { cls := PySem.Value.type "code", data := PySem.Data.fields #[PySem.Value.str (PySem.Str.ofString "pointed") 398, PySem.Value.str (PySem.Str.ofString "pointed") 399, PySem.Value.str (PySem.Str.ofString "/claim/cut.py") 400, PySem.Value.int 88 0, PySem.Value.int 2 0, PySem.Value.int 0 0, PySem.Value.int 0 0, PySem.Value.int 3 0, PySem.Value.ref 147, PySem.Value.bool Bool.true, PySem.Value.int 181 0, PySem.Value.ref 148, PySem.Value.none, PySem.Value.ref 149, PySem.Value.ref 150, PySem.Value.ref 151, PySem.Value.int 403 0, PySem.Value.int 88 0, PySem.Value.str (PySem.Str.ofString "/claim/cut.py") 404] }) ::
  (nat_lit 153, Mine.fob (Mine.stm 15) (PySem.Str.ofString "pointed") (PySem.Str.ofString "pointed") ([]) (PySem.Value.none) (PySem.Value.none) (PySem.Value.none) (PySem.Value.str (PySem.Str.ofString "ledgerspeak.stringing") 245) (Option.none) (PySem.Value.ref 152) (PySem.Value.none)) ::
  (nat_lit 154, { cls := PySem.Value.type "tuple", data := PySem.Data.seq #[] }) ::
  (nat_lit 156, { cls := PySem.Value.type "tuple", data := PySem.Data.seq #[PySem.Value.str (PySem.Str.ofString "pointer") 409, PySem.Value.str (PySem.Str.ofString "position") 410, PySem.Value.str (PySem.Str.ofString "hands") 411] }) ::
  (nat_lit 157, { cls := PySem.Value.type "tuple", data := PySem.Data.seq #[] }) ::
  (nat_lit 159, { cls := PySem.Value.type "code", data := PySem.Data.fields #[PySem.Value.str (PySem.Str.ofString "moved_on") 406, PySem.Value.str (PySem.Str.ofString "moved_on") 407, PySem.Value.str (PySem.Str.ofString "/claim/cut.py") 408, PySem.Value.int 90 0, PySem.Value.int 3 0, PySem.Value.int 0 0, PySem.Value.int 0 0, PySem.Value.int 3 0, PySem.Value.ref 154, PySem.Value.bool Bool.true, PySem.Value.int 181 0, PySem.Value.ref 155, PySem.Value.none, PySem.Value.ref 156, PySem.Value.ref 157, PySem.Value.ref 158, PySem.Value.int 412 0, PySem.Value.int 90 0, PySem.Value.str (PySem.Str.ofString "/claim/cut.py") 413] }) ::
  (nat_lit 160, Mine.fob (Mine.stm 16) (PySem.Str.ofString "moved_on") (PySem.Str.ofString "moved_on") ([]) (PySem.Value.none) (PySem.Value.none) (PySem.Value.none) (PySem.Value.str (PySem.Str.ofString "ledgerspeak.stringing") 245) (Option.none) (PySem.Value.ref 159) (PySem.Value.none)) ::
  (nat_lit 161, { cls := PySem.Value.type "tuple", data := PySem.Data.seq #[] }) ::
  (nat_lit 163, { cls := PySem.Value.type "tuple", data := PySem.Data.seq #[PySem.Value.str (PySem.Str.ofString "statement") 418, PySem.Value.str (PySem.Str.ofString "hands") 419, PySem.Value.str (PySem.Str.ofString "pairs") 420, PySem.Value.str (PySem.Str.ofString "operand") 421, PySem.Value.str (PySem.Str.ofString "delimiter") 422, PySem.Value.str (PySem.Str.ofString "mark") 423, PySem.Value.str (PySem.Str.ofString "octets") 424, PySem.Value.str (PySem.Str.ofString "following") 425, PySem.Value.str (PySem.Str.ofString "over") 426] }) ::
  (nat_lit 164, { cls := PySem.Value.type "tuple", data := PySem.Data.seq #[] }) ::
  (nat_lit 166, { cls := PySem.Value.type "code", data := PySem.Data.fields #[PySem.Value.str (PySem.Str.ofString "string_with") 415, PySem.Value.str (PySem.Str.ofString "string_with") 416, PySem.Value.str (PySem.Str.ofString "/claim/cut.py") 417, PySem.Value.int 93 0, PySem.Value.int 2 0, PySem.Value.int 0 0, PySem.Value.int 0 0, PySem.Value.int 3 0, PySem.Value.ref 161, PySem.Value.bool Bool.true, PySem.Value.int 181 0, PySem.Value.ref 162, PySem.Value.none, PySem.Value.ref 163, PySem.Value.ref 164, PySem.Value.ref 165, PySem.Value.int 427 0, PySem.Value.int 93 0, PySem.Value.str (PySem.Str.ofString "/claim/cut.py") 428] }) ::
  (nat_lit 167, Mine.fob (Mine.stm 17) (PySem.Str.ofString "string_with") (PySem.Str.ofString "string_with") ([]) (PySem.Value.none) (PySem.Value.none) (PySem.Value.none) (PySem.Value.str (PySem.Str.ofString "ledgerspeak.stringing") 245) (Option.none) (PySem.Value.ref 166) (PySem.Value.none)) ::
  (nat_lit 168, { cls := PySem.Value.type "tuple", data := PySem.Data.seq #[] }) ::
  (nat_lit 170, { cls := PySem.Value.type "tuple", data := PySem.Data.seq #[PySem.Value.str (PySem.Str.ofString "pieces") 433, PySem.Value.str (PySem.Str.ofString "rows") 434, PySem.Value.str (PySem.Str.ofString "spots") 435, PySem.Value.str (PySem.Str.ofString "mark_spots") 436, PySem.Value.str (PySem.Str.ofString "hands") 437, PySem.Value.str (PySem.Str.ofString "at") 438, PySem.Value.str (PySem.Str.ofString "piece") 439, PySem.Value.str (PySem.Str.ofString "mark") 440] }) ::
  (nat_lit 171, { cls := PySem.Value.type "tuple", data := PySem.Data.seq #[] }) ::
  (nat_lit 173, { cls := PySem.Value.type "code", data := PySem.Data.fields #[PySem.Value.str (PySem.Str.ofString "lay_pieces") 430, PySem.Value.str (PySem.Str.ofString "lay_pieces") 431, PySem.Value.str (PySem.Str.ofString "/claim/cut.py") 432, PySem.Value.int 102 0, PySem.Value.int 5 0, PySem.Value.int 0 0, PySem.Value.int 0 0, PySem.Value.int 3 0, PySem.Value.ref 168, PySem.Value.bool Bool.true, PySem.Value.int 181 0, PySem.Value.ref 169, PySem.Value.none, PySem.Value.ref 170, PySem.Value.ref 171, PySem.Value.ref 172, PySem.Value.int 441 0, PySem.Value.int 102 0, PySem.Value.str (PySem.Str.ofString "/claim/cut.py") 442] }) ::
  (nat_lit 174, Mine.fob (Mine.stm 18) (PySem.Str.ofString "lay_pieces") (PySem.Str.ofString "lay_pieces") ([]) (PySem.Value.none) (PySem.Value.none) (PySem.Value.none) (PySem.Value.str (PySem.Str.ofString "ledgerspeak.stringing") 245) (Option.none) (PySem.Value.ref 173) (PySem.Value.none)) ::
  (nat_lit 175, { cls := PySem.Value.type "tuple", data := PySem.Data.seq #[] }) ::
  (nat_lit 178, { cls := PySem.Value.type "code", data := PySem.Data.fields #[PySem.Value.str (PySem.Str.ofString "unstring_with") 444, PySem.Value.str (PySem.Str.ofString "unstring_with") 445, PySem.Value.str (PySem.Str.ofString "/claim/cut.py") 446, PySem.Value.int 110 0, PySem.Value.int 2 0, PySem.Value.int 0 0, PySem.Value.int 0 0, PySem.Value.int 3 0, PySem.Value.ref 175, PySem.Value.bool Bool.true, PySem.Value.int 181 0, PySem.Value.ref 176, PySem.Value.none, PySem.Value.none, PySem.Value.none, PySem.Value.ref 177, PySem.Value.int 447 0, PySem.Value.int 110 0, PySem.Value.str (PySem.Str.ofString "/claim/cut.py") 448] }) ::
  (nat_lit 179, Mine.fob (Mine.stm 19) (PySem.Str.ofString "unstring_with") (PySem.Str.ofString "unstring_with") ([]) (PySem.Value.none) (PySem.Value.none) (PySem.Value.none) (PySem.Value.str (PySem.Str.ofString "ledgerspeak.stringing") 245) (Option.none) (PySem.Value.ref 178) (PySem.Value.none)) ::
  (nat_lit 180, { cls := PySem.Value.type "tuple", data := PySem.Data.seq #[] }) ::
  (nat_lit 183, { cls := PySem.Value.type "code", data := PySem.Data.fields #[PySem.Value.str (PySem.Str.ofString "_law_pen") 452, PySem.Value.str (PySem.Str.ofString "_law_pen") 453, PySem.Value.str (PySem.Str.ofString "/claim/cut.py") 454, PySem.Value.int 126 0, PySem.Value.int 1 0, PySem.Value.int 0 0, PySem.Value.int 0 0, PySem.Value.int 3 0, PySem.Value.ref 180, PySem.Value.bool Bool.true, PySem.Value.int 181 0, PySem.Value.ref 181, PySem.Value.none, PySem.Value.none, PySem.Value.none, PySem.Value.ref 182, PySem.Value.int 455 0, PySem.Value.int 126 0, PySem.Value.str (PySem.Str.ofString "/claim/cut.py") 456] }) ::
  (nat_lit 184, Mine.fob (Mine.stm 21) (PySem.Str.ofString "_law_pen") (PySem.Str.ofString "_law_pen") ([]) (PySem.Value.none) (PySem.Value.none) (PySem.Value.none) (PySem.Value.str (PySem.Str.ofString "law_og0081_01") 450) (Option.none) (PySem.Value.ref 183) (PySem.Value.none)) ::
  (nat_lit 185, { cls := PySem.Value.type "tuple", data := PySem.Data.seq #[] }) ::
  (nat_lit 187, { cls := PySem.Value.type "tuple", data := PySem.Data.seq #[PySem.Value.str (PySem.Str.ofString "pen") 461, PySem.Value.str (PySem.Str.ofString "many") 462, PySem.Value.str (PySem.Str.ofString "digit") 463, PySem.Value.str (PySem.Str.ofString "turn") 464, PySem.Value.str (PySem.Str.ofString "cell") 465, PySem.Value.str (PySem.Str.ofString "great") 466, PySem.Value.str (PySem.Str.ofString "mixed") 467] }) ::
  (nat_lit 188, { cls := PySem.Value.type "tuple", data := PySem.Data.seq #[] }) ::
  (nat_lit 190, { cls := PySem.Value.type "code", data := PySem.Data.fields #[PySem.Value.str (PySem.Str.ofString "_law_draw") 458, PySem.Value.str (PySem.Str.ofString "_law_draw") 459, PySem.Value.str (PySem.Str.ofString "/claim/cut.py") 460, PySem.Value.int 128 0, PySem.Value.int 2 0, PySem.Value.int 0 0, PySem.Value.int 0 0, PySem.Value.int 3 0, PySem.Value.ref 185, PySem.Value.bool Bool.true, PySem.Value.int 181 0, PySem.Value.ref 186, PySem.Value.none, PySem.Value.ref 187, PySem.Value.ref 188, PySem.Value.ref 189, PySem.Value.int 468 0, PySem.Value.int 128 0, PySem.Value.str (PySem.Str.ofString "/claim/cut.py") 469] }) ::
  (nat_lit 191, Mine.fob (Mine.stm 22) (PySem.Str.ofString "_law_draw") (PySem.Str.ofString "_law_draw") ([]) (PySem.Value.none) (PySem.Value.none) (PySem.Value.none) (PySem.Value.str (PySem.Str.ofString "law_og0081_01") 450) (Option.none) (PySem.Value.ref 190) (PySem.Value.none)) ::
  (nat_lit 192, { cls := PySem.Value.type "tuple", data := PySem.Data.seq #[] }) ::
  (nat_lit 194, { cls := PySem.Value.type "tuple", data := PySem.Data.seq #[PySem.Value.str (PySem.Str.ofString "pen") 474, PySem.Value.str (PySem.Str.ofString "some") 475] }) ::
  (nat_lit 195, { cls := PySem.Value.type "tuple", data := PySem.Data.seq #[] }) ::
  (nat_lit 197, { cls := PySem.Value.type "code", data := PySem.Data.fields #[PySem.Value.str (PySem.Str.ofString "_law_pick") 471, PySem.Value.str (PySem.Str.ofString "_law_pick") 472, PySem.Value.str (PySem.Str.ofString "/claim/cut.py") 473, PySem.Value.int 145 0, PySem.Value.int 2 0, PySem.Value.int 0 0, PySem.Value.int 0 0, PySem.Value.int 3 0, PySem.Value.ref 192, PySem.Value.bool Bool.true, PySem.Value.int 181 0, PySem.Value.ref 193, PySem.Value.none, PySem.Value.ref 194, PySem.Value.ref 195, PySem.Value.ref 196, PySem.Value.int 476 0, PySem.Value.int 145 0, PySem.Value.str (PySem.Str.ofString "/claim/cut.py") 477] }) ::
  (nat_lit 198, Mine.fob (Mine.stm 23) (PySem.Str.ofString "_law_pick") (PySem.Str.ofString "_law_pick") ([]) (PySem.Value.none) (PySem.Value.none) (PySem.Value.none) (PySem.Value.str (PySem.Str.ofString "law_og0081_01") 450) (Option.none) (PySem.Value.ref 197) (PySem.Value.none)) ::
  (nat_lit 199, { cls := PySem.Value.type "tuple", data := PySem.Data.seq #[] }) ::
  (nat_lit 201, { cls := PySem.Value.type "tuple", data := PySem.Data.seq #[PySem.Value.str (PySem.Str.ofString "name") 482] }) ::
  (nat_lit 202, { cls := PySem.Value.type "tuple", data := PySem.Data.seq #[] }) ::
  (nat_lit 204, { cls := PySem.Value.type "code", data := PySem.Data.fields #[PySem.Value.str (PySem.Str.ofString "_law_ref") 479, PySem.Value.str (PySem.Str.ofString "_law_ref") 480, PySem.Value.str (PySem.Str.ofString "/claim/cut.py") 481, PySem.Value.int 147 0, PySem.Value.int 1 0, PySem.Value.int 0 0, PySem.Value.int 0 0, PySem.Value.int 3 0, PySem.Value.ref 199, PySem.Value.bool Bool.true, PySem.Value.int 181 0, PySem.Value.ref 200, PySem.Value.none, PySem.Value.ref 201, PySem.Value.ref 202, PySem.Value.ref 203, PySem.Value.int 483 0, PySem.Value.int 147 0, PySem.Value.str (PySem.Str.ofString "/claim/cut.py") 484] }) ::
  (nat_lit 205, Mine.fob (Mine.stm 24) (PySem.Str.ofString "_law_ref") (PySem.Str.ofString "_law_ref") ([]) (PySem.Value.none) (PySem.Value.none) (PySem.Value.none) (PySem.Value.str (PySem.Str.ofString "law_og0081_01") 450) (Option.none) (PySem.Value.ref 204) (PySem.Value.none)) ::
  (nat_lit 206, { cls := PySem.Value.type "tuple", data := PySem.Data.seq #[] }) ::
  (nat_lit 208, { cls := PySem.Value.type "tuple", data := PySem.Data.seq #[PySem.Value.str (PySem.Str.ofString "items") 489, PySem.Value.str (PySem.Str.ofString "operand") 490, PySem.Value.str (PySem.Str.ofString "size") 491] }) ::
  (nat_lit 209, { cls := PySem.Value.type "tuple", data := PySem.Data.seq #[] }) ::
  (nat_lit 211, { cls := PySem.Value.type "code", data := PySem.Data.fields #[PySem.Value.str (PySem.Str.ofString "_law_fetch") 486, PySem.Value.str (PySem.Str.ofString "_law_fetch") 487, PySem.Value.str (PySem.Str.ofString "/claim/cut.py") 488, PySem.Value.int 149 0, PySem.Value.int 3 0, PySem.Value.int 0 0, PySem.Value.int 0 0, PySem.Value.int 3 0, PySem.Value.ref 206, PySem.Value.bool Bool.true, PySem.Value.int 181 0, PySem.Value.ref 207, PySem.Value.none, PySem.Value.ref 208, PySem.Value.ref 209, PySem.Value.ref 210, PySem.Value.int 492 0, PySem.Value.int 149 0, PySem.Value.str (PySem.Str.ofString "/claim/cut.py") 493] }) ::
  (nat_lit 212, Mine.fob (Mine.stm 25) (PySem.Str.ofString "_law_fetch") (PySem.Str.ofString "_law_fetch") ([]) (PySem.Value.none) (PySem.Value.none) (PySem.Value.none) (PySem.Value.str (PySem.Str.ofString "law_og0081_01") 450) (Option.none) (PySem.Value.ref 211) (PySem.Value.none)) ::
  (nat_lit 213, { cls := PySem.Value.type "tuple", data := PySem.Data.seq #[] }) ::
  (nat_lit 215, { cls := PySem.Value.type "tuple", data := PySem.Data.seq #[PySem.Value.str (PySem.Str.ofString "table") 498, PySem.Value.str (PySem.Str.ofString "name") 499, PySem.Value.str (PySem.Str.ofString "worth") 500] }) ::
  (nat_lit 216, { cls := PySem.Value.type "tuple", data := PySem.Data.seq #[] }) ::
  (nat_lit 218, { cls := PySem.Value.type "code", data := PySem.Data.fields #[PySem.Value.str (PySem.Str.ofString "_law_put") 495, PySem.Value.str (PySem.Str.ofString "_law_put") 496, PySem.Value.str (PySem.Str.ofString "/claim/cut.py") 497, PySem.Value.int 153 0, PySem.Value.int 3 0, PySem.Value.int 0 0, PySem.Value.int 0 0, PySem.Value.int 3 0, PySem.Value.ref 213, PySem.Value.bool Bool.true, PySem.Value.int 181 0, PySem.Value.ref 214, PySem.Value.none, PySem.Value.ref 215, PySem.Value.ref 216, PySem.Value.ref 217, PySem.Value.int 501 0, PySem.Value.int 153 0, PySem.Value.str (PySem.Str.ofString "/claim/cut.py") 502] }) ::
  (nat_lit 219, Mine.fob (Mine.stm 26) (PySem.Str.ofString "_law_put") (PySem.Str.ofString "_law_put") ([]) (PySem.Value.none) (PySem.Value.none) (PySem.Value.none) (PySem.Value.str (PySem.Str.ofString "law_og0081_01") 450) (Option.none) (PySem.Value.ref 218) (PySem.Value.none)) ::
  (nat_lit 220, { cls := PySem.Value.type "tuple", data := PySem.Data.seq #[] }) ::
  (nat_lit 222, { cls := PySem.Value.type "tuple", data := PySem.Data.seq #[PySem.Value.str (PySem.Str.ofString "items") 507, PySem.Value.str (PySem.Str.ofString "seen") 508, PySem.Value.str (PySem.Str.ofString "name") 509, PySem.Value.str (PySem.Str.ofString "octets") 510, PySem.Value.str (PySem.Str.ofString "size") 511] }) ::
  (nat_lit 223, { cls := PySem.Value.type "tuple", data := PySem.Data.seq #[] }) ::
  (nat_lit 225, { cls := PySem.Value.type "code", data := PySem.Data.fields #[PySem.Value.str (PySem.Str.ofString "_law_bring") 504, PySem.Value.str (PySem.Str.ofString "_law_bring") 505, PySem.Value.str (PySem.Str.ofString "/claim/cut.py") 506, PySem.Value.int 155 0, PySem.Value.int 4 0, PySem.Value.int 0 0, PySem.Value.int 0 0, PySem.Value.int 3 0, PySem.Value.ref 220, PySem.Value.bool Bool.true, PySem.Value.int 181 0, PySem.Value.ref 221, PySem.Value.none, PySem.Value.ref 222, PySem.Value.ref 223, PySem.Value.ref 224, PySem.Value.int 512 0, PySem.Value.int 155 0, PySem.Value.str (PySem.Str.ofString "/claim/cut.py") 513] }) ::
  (nat_lit 226, Mine.fob (Mine.stm 27) (PySem.Str.ofString "_law_bring") (PySem.Str.ofString "_law_bring") ([]) (PySem.Value.none) (PySem.Value.none) (PySem.Value.none) (PySem.Value.str (PySem.Str.ofString "law_og0081_01") 450) (Option.none) (PySem.Value.ref 225) (PySem.Value.none)) ::
  (nat_lit 227, { cls := PySem.Value.type "tuple", data := PySem.Data.seq #[] }) ::
  (nat_lit 229, { cls := PySem.Value.type "tuple", data := PySem.Data.seq #[PySem.Value.str (PySem.Str.ofString "seen") 518, PySem.Value.str (PySem.Str.ofString "ref") 519] }) ::
  (nat_lit 230, { cls := PySem.Value.type "tuple", data := PySem.Data.seq #[] }) ::
  (nat_lit 232, { cls := PySem.Value.type "code", data := PySem.Data.fields #[PySem.Value.str (PySem.Str.ofString "_law_spot") 515, PySem.Value.str (PySem.Str.ofString "_law_spot") 516, PySem.Value.str (PySem.Str.ofString "/claim/cut.py") 517, PySem.Value.int 159 0, PySem.Value.int 2 0, PySem.Value.int 0 0, PySem.Value.int 0 0, PySem.Value.int 3 0, PySem.Value.ref 227, PySem.Value.bool Bool.true, PySem.Value.int 181 0, PySem.Value.ref 228, PySem.Value.none, PySem.Value.ref 229, PySem.Value.ref 230, PySem.Value.ref 231, PySem.Value.int 520 0, PySem.Value.int 159 0, PySem.Value.str (PySem.Str.ofString "/claim/cut.py") 521] }) ::
  (nat_lit 233, Mine.fob (Mine.stm 28) (PySem.Str.ofString "_law_spot") (PySem.Str.ofString "_law_spot") ([]) (PySem.Value.none) (PySem.Value.none) (PySem.Value.none) (PySem.Value.str (PySem.Str.ofString "law_og0081_01") 450) (Option.none) (PySem.Value.ref 232) (PySem.Value.none)) ::
  (nat_lit 234, { cls := PySem.Value.type "tuple", data := PySem.Data.seq #[] }) ::
  (nat_lit 236, { cls := PySem.Value.type "tuple", data := PySem.Data.seq #[PySem.Value.str (PySem.Str.ofString "items") 526, PySem.Value.str (PySem.Str.ofString "numbers") 527, PySem.Value.str (PySem.Str.ofString "seen") 528] }) ::
  (nat_lit 237, { cls := PySem.Value.type "tuple", data := PySem.Data.seq #[PySem.Value.str (PySem.Str.ofString "items") 529, PySem.Value.str (PySem.Str.ofString "numbers") 530, PySem.Value.str (PySem.Str.ofString "seen") 531] }) ::
  (nat_lit 239, { cls := PySem.Value.type "code", data := PySem.Data.fields #[PySem.Value.str (PySem.Str.ofString "_law_hands") 523, PySem.Value.str (PySem.Str.ofString "_law_hands") 524, PySem.Value.str (PySem.Str.ofString "/claim/cut.py") 525, PySem.Value.int 162 0, PySem.Value.int 3 0, PySem.Value.int 0 0, PySem.Value.int 0 0, PySem.Value.int 3 0, PySem.Value.ref 234, PySem.Value.bool Bool.true, PySem.Value.int 181 0, PySem.Value.ref 235, PySem.Value.none, PySem.Value.ref 236, PySem.Value.ref 237, PySem.Value.ref 238, PySem.Value.int 532 0, PySem.Value.int 162 0, PySem.Value.str (PySem.Str.ofString "/claim/cut.py") 533] }) ::
  (nat_lit 240, Mine.fob (Mine.stm 29) (PySem.Str.ofString "_law_hands") (PySem.Str.ofString "_law_hands") ([]) (PySem.Value.none) (PySem.Value.none) (PySem.Value.none) (PySem.Value.str (PySem.Str.ofString "law_og0081_01") 450) (Option.none) (PySem.Value.ref 239) (PySem.Value.none)) ::
  (nat_lit 241, { cls := PySem.Value.type "tuple", data := PySem.Data.seq #[] }) ::
  (nat_lit 243, { cls := PySem.Value.type "tuple", data := PySem.Data.seq #[PySem.Value.str (PySem.Str.ofString "items") 538, PySem.Value.str (PySem.Str.ofString "numbers") 539, PySem.Value.str (PySem.Str.ofString "statement") 540, PySem.Value.str (PySem.Str.ofString "place") 541, PySem.Value.str (PySem.Str.ofString "goal") 542, PySem.Value.str (PySem.Str.ofString "name") 543, PySem.Value.str (PySem.Str.ofString "word") 544, PySem.Value.str (PySem.Str.ofString "line") 545, PySem.Value.str (PySem.Str.ofString "operand") 546, PySem.Value.str (PySem.Str.ofString "delimiter") 547, PySem.Value.str (PySem.Str.ofString "octets") 548, PySem.Value.str (PySem.Str.ofString "mark") 549, PySem.Value.str (PySem.Str.ofString "at") 550, PySem.Value.str (PySem.Str.ofString "octet") 551] }) ::
  (nat_lit 244, { cls := PySem.Value.type "tuple", data := PySem.Data.seq #[] }) ::
  (nat_lit 246, { cls := PySem.Value.type "code", data := PySem.Data.fields #[PySem.Value.str (PySem.Str.ofString "_law_string_due") 535, PySem.Value.str (PySem.Str.ofString "_law_string_due") 536, PySem.Value.str (PySem.Str.ofString "/claim/cut.py") 537, PySem.Value.int 171 0, PySem.Value.int 3 0, PySem.Value.int 0 0, PySem.Value.int 0 0, PySem.Value.int 3 0, PySem.Value.ref 241, PySem.Value.bool Bool.true, PySem.Value.int 181 0, PySem.Value.ref 242, PySem.Value.none, PySem.Value.ref 243, PySem.Value.ref 244, PySem.Value.ref 245, PySem.Value.int 552 0, PySem.Value.int 171 0, PySem.Value.str (PySem.Str.ofString "/claim/cut.py") 553] }) ::
  (nat_lit 247, Mine.fob (Mine.stm 30) (PySem.Str.ofString "_law_string_due") (PySem.Str.ofString "_law_string_due") ([]) (PySem.Value.none) (PySem.Value.none) (PySem.Value.none) (PySem.Value.str (PySem.Str.ofString "law_og0081_01") 450) (Option.none) (PySem.Value.ref 246) (PySem.Value.none)) ::
  (nat_lit 248, { cls := PySem.Value.type "tuple", data := PySem.Data.seq #[] }) ::
  (nat_lit 251, { cls := PySem.Value.type "code", data := PySem.Data.fields #[PySem.Value.str (PySem.Str.ofString "_law_piece") 555, PySem.Value.str (PySem.Str.ofString "_law_piece") 556, PySem.Value.str (PySem.Str.ofString "/claim/cut.py") 557, PySem.Value.int 194 0, PySem.Value.int 4 0, PySem.Value.int 0 0, PySem.Value.int 0 0, PySem.Value.int 3 0, PySem.Value.ref 248, PySem.Value.bool Bool.true, PySem.Value.int 181 0, PySem.Value.ref 249, PySem.Value.none, PySem.Value.none, PySem.Value.none, PySem.Value.ref 250, PySem.Value.int 558 0, PySem.Value.int 194 0, PySem.Value.str (PySem.Str.ofString "/claim/cut.py") 559] }) ::
  (nat_lit 252, Mine.fob (Mine.stm 31) (PySem.Str.ofString "_law_piece") (PySem.Str.ofString "_law_piece") ([]) (PySem.Value.none) (PySem.Value.none) (PySem.Value.none) (PySem.Value.str (PySem.Str.ofString "law_og0081_01") 450) (Option.none) (PySem.Value.ref 251) (PySem.Value.none)) ::
  (nat_lit 253, { cls := PySem.Value.type "tuple", data := PySem.Data.seq #[] }) ::
  (nat_lit 256, { cls := PySem.Value.type "code", data := PySem.Data.fields #[PySem.Value.str (PySem.Str.ofString "_law_unstring_due") 561, PySem.Value.str (PySem.Str.ofString "_law_unstring_due") 562, PySem.Value.str (PySem.Str.ofString "/claim/cut.py") 563, PySem.Value.int 206 0, PySem.Value.int 4 0, PySem.Value.int 0 0, PySem.Value.int 0 0, PySem.Value.int 3 0, PySem.Value.ref 253, PySem.Value.bool Bool.true, PySem.Value.int 181 0, PySem.Value.ref 254, PySem.Value.none, PySem.Value.none, PySem.Value.none, PySem.Value.ref 255, PySem.Value.int 564 0, PySem.Value.int 206 0, PySem.Value.str (PySem.Str.ofString "/claim/cut.py") 565] }) ::
  (nat_lit 257, Mine.fob (Mine.stm 32) (PySem.Str.ofString "_law_unstring_due") (PySem.Str.ofString "_law_unstring_due") ([]) (PySem.Value.none) (PySem.Value.none) (PySem.Value.none) (PySem.Value.str (PySem.Str.ofString "law_og0081_01") 450) (Option.none) (PySem.Value.ref 256) (PySem.Value.none)) ::
  (nat_lit 258, { cls := PySem.Value.type "tuple", data := PySem.Data.seq #[] }) ::
  (nat_lit 261, { cls := PySem.Value.type "code", data := PySem.Data.fields #[PySem.Value.str (PySem.Str.ofString "_law_operand") 567, PySem.Value.str (PySem.Str.ofString "_law_operand") 568, PySem.Value.str (PySem.Str.ofString "/claim/cut.py") 569, PySem.Value.int 230 0, PySem.Value.int 2 0, PySem.Value.int 0 0, PySem.Value.int 0 0, PySem.Value.int 3 0, PySem.Value.ref 258, PySem.Value.bool Bool.true, PySem.Value.int 181 0, PySem.Value.ref 259, PySem.Value.none, PySem.Value.none, PySem.Value.none, PySem.Value.ref 260, PySem.Value.int 570 0, PySem.Value.int 230 0, PySem.Value.str (PySem.Str.ofString "/claim/cut.py") 571] }) ::
  (nat_lit 262, Mine.fob (Mine.stm 33) (PySem.Str.ofString "_law_operand") (PySem.Str.ofString "_law_operand") ([]) (PySem.Value.none) (PySem.Value.none) (PySem.Value.none) (PySem.Value.str (PySem.Str.ofString "law_og0081_01") 450) (Option.none) (PySem.Value.ref 261) (PySem.Value.none)) ::
  (nat_lit 263, { cls := PySem.Value.type "tuple", data := PySem.Data.seq #[] }) ::
  (nat_lit 265, { cls := PySem.Value.type "tuple", data := PySem.Data.seq #[PySem.Value.str (PySem.Str.ofString "pen") 576] }) ::
  (nat_lit 266, { cls := PySem.Value.type "tuple", data := PySem.Data.seq #[] }) ::
  (nat_lit 268, { cls := PySem.Value.type "code", data := PySem.Data.fields #[PySem.Value.str (PySem.Str.ofString "_law_mark") 573, PySem.Value.str (PySem.Str.ofString "_law_mark") 574, PySem.Value.str (PySem.Str.ofString "/claim/cut.py") 575, PySem.Value.int 234 0, PySem.Value.int 1 0, PySem.Value.int 0 0, PySem.Value.int 0 0, PySem.Value.int 3 0, PySem.Value.ref 263, PySem.Value.bool Bool.true, PySem.Value.int 181 0, PySem.Value.ref 264, PySem.Value.none, PySem.Value.ref 265, PySem.Value.ref 266, PySem.Value.ref 267, PySem.Value.int 577 0, PySem.Value.int 234 0, PySem.Value.str (PySem.Str.ofString "/claim/cut.py") 578] }) ::
  (nat_lit 269, Mine.fob (Mine.stm 34) (PySem.Str.ofString "_law_mark") (PySem.Str.ofString "_law_mark") ([]) (PySem.Value.none) (PySem.Value.none) (PySem.Value.none) (PySem.Value.str (PySem.Str.ofString "law_og0081_01") 450) (Option.none) (PySem.Value.ref 268) (PySem.Value.none)) ::
  (nat_lit 270, { cls := PySem.Value.type "tuple", data := PySem.Data.seq #[] }) ::
  (nat_lit 273, { cls := PySem.Value.type "code", data := PySem.Data.fields #[PySem.Value.str (PySem.Str.ofString "_law_string") 580, PySem.Value.str (PySem.Str.ofString "_law_string") 581, PySem.Value.str (PySem.Str.ofString "/claim/cut.py") 582, PySem.Value.int 236 0, PySem.Value.int 1 0, PySem.Value.int 0 0, PySem.Value.int 0 0, PySem.Value.int 3 0, PySem.Value.ref 270, PySem.Value.bool Bool.true, PySem.Value.int 181 0, PySem.Value.ref 271, PySem.Value.none, PySem.Value.none, PySem.Value.none, PySem.Value.ref 272, PySem.Value.int 583 0, PySem.Value.int 236 0, PySem.Value.str (PySem.Str.ofString "/claim/cut.py") 584] }) ::
  (nat_lit 274, Mine.fob (Mine.stm 35) (PySem.Str.ofString "_law_string") (PySem.Str.ofString "_law_string") ([]) (PySem.Value.none) (PySem.Value.none) (PySem.Value.none) (PySem.Value.str (PySem.Str.ofString "law_og0081_01") 450) (Option.none) (PySem.Value.ref 273) (PySem.Value.none)) ::
  (nat_lit 275, { cls := PySem.Value.type "tuple", data := PySem.Data.seq #[] }) ::
  (nat_lit 278, { cls := PySem.Value.type "code", data := PySem.Data.fields #[PySem.Value.str (PySem.Str.ofString "_law_unstring") 586, PySem.Value.str (PySem.Str.ofString "_law_unstring") 587, PySem.Value.str (PySem.Str.ofString "/claim/cut.py") 588, PySem.Value.int 239 0, PySem.Value.int 1 0, PySem.Value.int 0 0, PySem.Value.int 0 0, PySem.Value.int 3 0, PySem.Value.ref 275, PySem.Value.bool Bool.true, PySem.Value.int 181 0, PySem.Value.ref 276, PySem.Value.none, PySem.Value.none, PySem.Value.none, PySem.Value.ref 277, PySem.Value.int 589 0, PySem.Value.int 239 0, PySem.Value.str (PySem.Str.ofString "/claim/cut.py") 590] }) ::
  (nat_lit 279, Mine.fob (Mine.stm 36) (PySem.Str.ofString "_law_unstring") (PySem.Str.ofString "_law_unstring") ([]) (PySem.Value.none) (PySem.Value.none) (PySem.Value.none) (PySem.Value.str (PySem.Str.ofString "law_og0081_01") 450) (Option.none) (PySem.Value.ref 278) (PySem.Value.none)) ::
  (nat_lit 280, { cls := PySem.Value.type "tuple", data := PySem.Data.seq #[] }) ::
  (nat_lit 282, { cls := PySem.Value.type "tuple", data := PySem.Data.seq #[PySem.Value.str (PySem.Str.ofString "items") 595, PySem.Value.str (PySem.Str.ofString "numbers") 596, PySem.Value.str (PySem.Str.ofString "statement") 597, PySem.Value.str (PySem.Str.ofString "fresh") 598, PySem.Value.str (PySem.Str.ofString "counted") 599, PySem.Value.str (PySem.Str.ofString "seen") 600, PySem.Value.str (PySem.Str.ofString "due_seen") 601, PySem.Value.str (PySem.Str.ofString "word") 602, PySem.Value.str (PySem.Str.ofString "told") 603] }) ::
  (nat_lit 283, { cls := PySem.Value.type "tuple", data := PySem.Data.seq #[] }) ::
  (nat_lit 285, { cls := PySem.Value.type "code", data := PySem.Data.fields #[PySem.Value.str (PySem.Str.ofString "_law_is_done") 592, PySem.Value.str (PySem.Str.ofString "_law_is_done") 593, PySem.Value.str (PySem.Str.ofString "/claim/cut.py") 594, PySem.Value.int 247 0, PySem.Value.int 3 0, PySem.Value.int 0 0, PySem.Value.int 0 0, PySem.Value.int 3 0, PySem.Value.ref 280, PySem.Value.bool Bool.true, PySem.Value.int 181 0, PySem.Value.ref 281, PySem.Value.none, PySem.Value.ref 282, PySem.Value.ref 283, PySem.Value.ref 284, PySem.Value.int 604 0, PySem.Value.int 247 0, PySem.Value.str (PySem.Str.ofString "/claim/cut.py") 605] }) ::
  (nat_lit 286, Mine.fob (Mine.stm 37) (PySem.Str.ofString "_law_is_done") (PySem.Str.ofString "_law_is_done") ([]) (PySem.Value.none) (PySem.Value.none) (PySem.Value.none) (PySem.Value.str (PySem.Str.ofString "law_og0081_01") 450) (Option.none) (PySem.Value.ref 285) (PySem.Value.none)) ::
  (nat_lit 287, { cls := PySem.Value.type "tuple", data := PySem.Data.seq #[] }) ::
  (nat_lit 290, { cls := PySem.Value.type "code", data := PySem.Data.fields #[PySem.Value.str (PySem.Str.ofString "law") 607, PySem.Value.str (PySem.Str.ofString "law") 608, PySem.Value.str (PySem.Str.ofString "/claim/cut.py") 609, PySem.Value.int 254 0, PySem.Value.int 1 0, PySem.Value.int 0 0, PySem.Value.int 0 0, PySem.Value.int 3 0, PySem.Value.ref 287, PySem.Value.bool Bool.true, PySem.Value.int 181 0, PySem.Value.ref 288, PySem.Value.none, PySem.Value.none, PySem.Value.none, PySem.Value.ref 289, PySem.Value.int 610 0, PySem.Value.int 254 0, PySem.Value.str (PySem.Str.ofString "/claim/cut.py") 611] }) ::
  (nat_lit 291, Mine.fob (Mine.stm 38) (PySem.Str.ofString "law") (PySem.Str.ofString "law") ([]) (PySem.Value.none) (PySem.Value.none) (PySem.Value.none) (PySem.Value.str (PySem.Str.ofString "law_og0081_01") 450) (Option.none) (PySem.Value.ref 290) (PySem.Value.none)) :: []
end Mine
namespace Mine
open PySem PySem.W PySem.Calls PyProof.Rows
inductive V where
  | none | bool (b : Bool) | int (i : Int) | str (x : Str) | bytes (b : List UInt8)
  | tup (ds : List V) | loc (i : Nat) | fn (a : Addr) | bi (id : String) | ty (n : String)
  | rng (lo hi : Int) | ilist (ns : List Int) | hands (li ln ls : Nat) | code (q : Str)
inductive Cell where
  | list (xs : List V)
  | dict (es : List (Str × V))
  | tab (q : Str)
noncomputable def tabP : Addr := 235
noncomputable def codeP : Addr := 239
set_option genInjectivity false
abbrev Loc := List (Option V)
abbrev Sto := List Cell
def LamAt (hb : Heap) (f : Addr) (params : Arguments) (body : Expr) (scope : Scope) (cl : List (Str × Addr)) : Prop :=
  ∃ qual pm c' ctv, hb.get? f = some (kla_obj "<lambda>" qual params body scope cl pm c' ctv) ∧ hb.CodeRec (.ref c') qual
structure LamT where
  params : Arguments
  body : Expr
  scope : Scope
noncomputable def lamOf : Expr → LamT
  | .Lambda p b s _ => ⟨p, b, s⟩
  | _ => ⟨default, .Constant .none 0 default, default⟩
noncomputable def nthE : List Expr → Nat → Expr
  | [], _ => .Constant .none 0 default
  | s :: _, 0 => s
  | _ :: r, n + 1 => nthE r n
noncomputable def callArgs : Expr → List Expr
  | .Call _ es _ _ => es
  | _ => []
noncomputable def retOfS : Stmt → Expr
  | .Return (some e) _ => e
  | _ => .Constant .none 0 default
noncomputable def HL (i : Nat) : LamT := lamOf (nthE (callArgs (retOfS (nthS (bodyOf (stm 29)) 0))) i)
structure HandsIs (w : World) (hb : Heap) (x ai an as dx : Addr) (f : Nat → Addr) (t : Nat → Tok) (n : Nat) (ci cn cs : Addr) : Prop where
  ox : hb.get? x = some (instObj 135 dx)
  od : hb.get? dx = some (dictOf [⟨PyData.keyHash w.params (Str.ofString "fetch"), .str (Str.ofString "fetch") (t 0), .ref (f 0)⟩, ⟨PyData.keyHash w.params (Str.ofString "plant"), .str (Str.ofString "plant") (t 1), .ref (f 1)⟩,
      ⟨PyData.keyHash w.params (Str.ofString "amount"), .str (Str.ofString "amount") (t 2), .ref (f 2)⟩, ⟨PyData.keyHash w.params (Str.ofString "keep"), .str (Str.ofString "keep") (t 3), .ref (f 3)⟩,
      ⟨PyData.keyHash w.params (Str.ofString "spot"), .str (Str.ofString "spot") (t 4), .ref (f 4)⟩, ⟨PyData.keyHash w.params (Str.ofString "bring"), .str (Str.ofString "bring") (t 5), .ref (f 5)⟩,
      ⟨PyData.keyHash w.params (Str.ofString "room"), .str (Str.ofString "room") (t 6), .ref (f 6)⟩] n)
  ne : ci ≠ cs
  c1 : hb.IsCell ci (some (.ref ai))
  c2 : hb.IsCell cn (some (.ref an))
  c3 : hb.IsCell cs (some (.ref as))
  l : ∀ i clos, (i, clos) ∈ [(0, [(Str.ofString "items", ci)]), (1, [(Str.ofString "items", ci)]), (2, [(Str.ofString "numbers", cn)]), (3, [(Str.ofString "numbers", cn)]), (4, [(Str.ofString "seen", cs)]), (5, [(Str.ofString "seen", cs), (Str.ofString "items", ci)]), (6, [(Str.ofString "items", ci)])] →
    LamAt hb (f i) (HL i).params (HL i).body (HL i).scope clos
structure HandsAt (w : World) (hb : Heap) (x ai an as : Addr) : Prop where
  ex : ∃ (dx : Addr) (f : Nat → Addr) (t : Nat → Tok) (n : Nat) (ci cn cs : Addr), HandsIs w hb x ai an as dx f t n ci cn cs
structure Fix where
  w : World
  hb : Heap
mutual
inductive VRel (Γ : Fix) (α : List Addr) (h : Heap) : Value → V → Prop
  | none : VRel Γ α h .none .none
  | bool (b : Bool) : VRel Γ α h (.bool b) (.bool b)
  | int (i : Int) (t : Tok) : VRel Γ α h (.int i t) (.int i)
  | str (x : Str) (t : Tok) : VRel Γ α h (.str x t) (.str x)
  | bytes (b : List UInt8) (t : Tok) : b.length ≤ 16777216 → VRel Γ α h (.bytes b.toArray t) (.bytes b)
  | tup {a : Addr} {vs : List Value} {ds : List V} : h.IsTuple a vs.toArray → VAll Γ α h vs ds → vs.length ≤ 1000000 → VRel Γ α h (.ref a) (.tup ds)
  | loc {i : Nat} {a : Addr} : α[i]? = some a → VRel Γ α h (.ref a) (.loc i)
  | fn (a : Addr) : VRel Γ α h (.ref a) (.fn a)
  | bi (id : String) : VRel Γ α h (.builtin id) (.bi id)
  | ty (n : String) : VRel Γ α h (.type n) (.ty n)
  | rng {a : Addr} {lo hi : Int} {t u v : Tok} : IsRange h a lo hi 1 t u v → VRel Γ α h (.ref a) (.rng lo hi)
  | ilist {a : Addr} {vs : List Value} {ns : List Int} : Γ.hb.IsList a vs.toArray → IntsAre vs ns → VRel Γ α h (.ref a) (.ilist ns)
  | hands {x : Addr} {li ln ls : Nat} {ai an as : Addr} : α[li]? = some ai → α[ln]? = some an → α[ls]? = some as → HandsAt Γ.w Γ.hb x ai an as → VRel Γ α h (.ref x) (.hands li ln ls)
  | code {c : Addr} {q : Str} : h.CodeRec (.ref c) q → VRel Γ α h (.ref c) (.code q)
inductive VAll (Γ : Fix) (α : List Addr) (h : Heap) : List Value → List V → Prop
  | nil : VAll Γ α h [] []
  | cons {v : Value} {d : V} {vs : List Value} {ds : List V} : VRel Γ α h v d → VAll Γ α h vs ds → VAll Γ α h (v :: vs) (d :: ds)
end
def VInv (Γ : Fix) (α : List Addr) (h : Heap) : V → Value → Prop
  | .none, v => v = .none
  | .bool b, v => v = .bool b
  | .int i, v => ∃ t, v = .int i t
  | .str x, v => ∃ t, v = .str x t
  | .bytes b, v => ∃ t, v = .bytes b.toArray t ∧ b.length ≤ 16777216
  | .tup ds, v => ∃ a vs, v = .ref a ∧ h.IsTuple a vs.toArray ∧ VAll Γ α h vs ds ∧ vs.length ≤ 1000000
  | .loc i, v => ∃ a, v = .ref a ∧ α[i]? = some a
  | .fn a, v => v = .ref a
  | .bi id, v => v = .builtin id
  | .ty n, v => v = .type n
  | .rng lo hi, v => ∃ a t u w, v = .ref a ∧ IsRange h a lo hi 1 t u w
  | .ilist ns, v => ∃ a vs, v = .ref a ∧ Γ.hb.IsList a vs.toArray ∧ IntsAre vs ns
  | .hands li ln ls, v => ∃ x ai an as, v = .ref x ∧ α[li]? = some ai ∧ α[ln]? = some an ∧ α[ls]? = some as ∧ HandsAt Γ.w Γ.hb x ai an as
  | .code q, v => ∃ c, v = .ref c ∧ h.CodeRec (.ref c) q
theorem VRel.inv {Γ : Fix} {α : List Addr} {h : Heap} {v : Value} {d : V} (x : VRel Γ α h v d) : VInv Γ α h d v :=
  @VRel.casesOn Γ α h (fun v d _ => VInv Γ α h d v) v d x rfl (fun _ => rfl) (fun _ t => ⟨t, rfl⟩) (fun _ t => ⟨t, rfl⟩) (fun _ t z => ⟨t, rfl, z⟩) (fun a b c => ⟨_, _, rfl, a, b, c⟩) (fun a => ⟨_, rfl, a⟩) (fun _ => rfl) (fun _ => rfl) (fun _ => rfl) (fun a => ⟨_, _, _, _, rfl, a⟩) (fun a b => ⟨_, _, rfl, a, b⟩) (fun a b c d => ⟨_, _, _, _, rfl, a, b, c, d⟩) (fun a => ⟨_, rfl, a⟩)
theorem VRel.gen {Γ Γ' : Fix} {α α' : List Addr} {h h' : Heap} (P : V → Prop) (hP : ∀ ds, P (.tup ds) → ∀ d ∈ ds, P d)
    (hl : ∀ (i : Nat) (a : Addr), P (.loc i) → α[i]? = some a → α'[i]? = some a) (ht : ∀ a items, h.IsTuple a items → h'.IsTuple a items) (hr : ∀ a lo hi t u v, IsRange h a lo hi 1 t u v → IsRange h' a lo hi 1 t u v)
    (hi : ∀ ns a vs, P (.ilist ns) → Γ.hb.IsList a vs → Γ'.hb.IsList a vs)
    (hh : ∀ li ln ls x ai an as, P (.hands li ln ls) → α[li]? = some ai → α[ln]? = some an → α[ls]? = some as → HandsAt Γ.w Γ.hb x ai an as → α'[li]? = some ai ∧ α'[ln]? = some an ∧ α'[ls]? = some as ∧ HandsAt Γ'.w Γ'.hb x ai an as)
    (hc : ∀ c q, h.CodeRec (.ref c) q → h'.CodeRec (.ref c) q) {v : Value} {d : V} (x : VRel Γ α h v d) : P d → VRel Γ' α' h' v d :=
  VRel.rec (motive_1 := fun v d _ => P d → VRel Γ' α' h' v d) (motive_2 := fun vs ds _ => (∀ d ∈ ds, P d) → VAll Γ' α' h' vs ds)
    (fun _ => .none) (fun b _ => .bool b) (fun i t _ => .int i t) (fun y t _ => .str y t) (fun b t z _ => .bytes b t z) (fun a _ z ih p => .tup (ht _ _ a) (ih (hP _ p)) z) (fun a p => .loc (hl _ _ p a)) (fun a _ => .fn a) (fun a _ => .bi a) (fun a _ => .ty a) (fun a _ => .rng (hr _ _ _ _ _ _ a))
    (fun a b p => .ilist (hi _ _ _ p a) b) (fun a b c d p => let ⟨a', b', c', d'⟩ := hh _ _ _ _ _ _ _ p a b c d; .hands a' b' c' d') (fun a _ => .code (hc _ _ a))
    (fun _ => .nil) (fun _ _ i1 i2 p => .cons (i1 (p _ (List.mem_cons_self ..))) (i2 fun d hd => p d (List.mem_cons_of_mem _ hd))) x
theorem VAll.mp {Γ Γ' : Fix} {α α' : List Addr} {h h' : Heap} (up : ∀ v d, VRel Γ α h v d → VRel Γ' α' h' v d) {vs : List Value} {ds : List V} (x : VAll Γ α h vs ds) : VAll Γ' α' h' vs ds :=
  VAll.rec (motive_1 := fun _ _ _ => True) (motive_2 := fun vs ds _ => VAll Γ' α' h' vs ds) trivial (fun _ => trivial) (fun _ _ => trivial) (fun _ _ => trivial) (fun _ _ _ => trivial) (fun _ _ _ _ => trivial) (fun _ => trivial) (fun _ => trivial) (fun _ => trivial) (fun _ => trivial) (fun _ => trivial) (fun _ _ => trivial) (fun _ _ _ _ => trivial) (fun _ => trivial)
    .nil (fun a _ _ ih => .cons (up _ _ a) ih) x
theorem VAll.ind {Γ : Fix} {α : List Addr} {h : Heap} {M : List Value → List V → Prop} (h0 : M [] []) (h1 : ∀ v d vs ds, VRel Γ α h v d → VAll Γ α h vs ds → M vs ds → M (v :: vs) (d :: ds)) {vs : List Value} {ds : List V} (x : VAll Γ α h vs ds) : M vs ds :=
  VAll.rec (motive_1 := fun _ _ _ => True) (motive_2 := fun vs ds _ => M vs ds) trivial (fun _ => trivial) (fun _ _ => trivial) (fun _ _ => trivial) (fun _ _ _ => trivial) (fun _ _ _ _ => trivial) (fun _ => trivial) (fun _ => trivial) (fun _ => trivial) (fun _ => trivial) (fun _ => trivial) (fun _ _ => trivial) (fun _ _ _ _ => trivial) (fun _ => trivial)
    h0 (fun a b _ ih => h1 _ _ _ _ a b ih) x
theorem VAll.inv {Γ : Fix} {α : List Addr} {h : Heap} {vs : List Value} {d : V} {ds : List V} (x : VAll Γ α h vs (d :: ds)) : ∃ v vs', vs = v :: vs' ∧ VRel Γ α h v d ∧ VAll Γ α h vs' ds := by
  cases x with
  | cons a b => exact ⟨_, _, rfl, a, b⟩
theorem VAll.inv0 {Γ : Fix} {α : List Addr} {h : Heap} {vs : List Value} (x : VAll Γ α h vs []) : vs = [] := by cases x; rfl
section
variable {Γ : Fix} {α α' : List Addr} {h h' : Heap}
theorem VRel.mono (ha : ∀ (i : Nat) (a : Addr), α[i]? = some a → α'[i]? = some a) (ht : ∀ a items, h.IsTuple a items → h'.IsTuple a items) (hr : ∀ a lo hi t u v, IsRange h a lo hi 1 t u v → IsRange h' a lo hi 1 t u v) (hc : ∀ c q, h.CodeRec (.ref c) q → h'.CodeRec (.ref c) q)
    {v : Value} {d : V} (x : VRel Γ α h v d) : VRel Γ α' h' v d :=
  x.gen (fun _ => True) (fun _ _ _ _ => trivial) (fun i a _ => ha i a) ht hr (fun _ _ _ _ z => z) (fun _ _ _ _ _ _ _ _ a b c d => ⟨ha _ _ a, ha _ _ b, ha _ _ c, d⟩) hc trivial
theorem VAll.mono (ha : ∀ (i : Nat) (a : Addr), α[i]? = some a → α'[i]? = some a) (ht : ∀ a items, h.IsTuple a items → h'.IsTuple a items) (hr : ∀ a lo hi t u v, IsRange h a lo hi 1 t u v → IsRange h' a lo hi 1 t u v) (hc : ∀ c q, h.CodeRec (.ref c) q → h'.CodeRec (.ref c) q)
    {vs : List Value} {ds : List V} (x : VAll Γ α h vs ds) : VAll Γ α' h' vs ds := x.mp fun _ _ y => y.mono ha ht hr hc
theorem VAll.length {vs : List Value} {ds : List V} (x : VAll Γ α h vs ds) : vs.length = ds.length := x.ind (M := fun vs ds => vs.length = ds.length) rfl fun _ _ _ _ _ _ ih => congrArg Nat.succ ih
theorem VAll.get {vs : List Value} {ds : List V} (x : VAll Γ α h vs ds) : ∀ {i : Nat} {d : V}, ds[i]? = some d → ∃ v, vs[i]? = some v ∧ VRel Γ α h v d :=
  x.ind (M := fun vs ds => ∀ {i : Nat} {d : V}, ds[i]? = some d → ∃ v, vs[i]? = some v ∧ VRel Γ α h v d) (fun e => by cases e) fun _ _ _ _ a _ ih i d e => by
    cases i with
    | zero => cases e; exact ⟨_, rfl, a⟩
    | succ i => exact ih (i := i) e
theorem VAll.append {vs ws : List Value} {ds es : List V} (x : VAll Γ α h vs ds) (k : VAll Γ α h ws es) : VAll Γ α h (vs ++ ws) (ds ++ es) := x.ind (M := fun vs ds => VAll Γ α h (vs ++ ws) (ds ++ es)) k fun _ _ _ _ a _ ih => .cons a ih
theorem VAll.set {vs : List Value} {ds : List V} (x : VAll Γ α h vs ds) : ∀ (i : Nat) {v : Value} {d : V}, VRel Γ α h v d → VAll Γ α h (vs.set i v) (ds.set i d) :=
  x.ind (M := fun vs ds => ∀ (i : Nat) {v : Value} {d : V}, VRel Γ α h v d → VAll Γ α h (vs.set i v) (ds.set i d)) (fun _ _ _ _ => .nil) fun _ _ _ _ a b ih i _ _ k => by
    cases i with
    | zero => exact .cons k b
    | succ i => exact .cons a (ih i k)
theorem VAll.drop {vs : List Value} {ds : List V} (x : VAll Γ α h vs ds) : ∀ n, VAll Γ α h (vs.drop n) (ds.drop n) :=
  x.ind (M := fun vs ds => ∀ n, VAll Γ α h (vs.drop n) (ds.drop n)) (fun n => by rw [List.drop_nil, List.drop_nil]; exact .nil) fun _ _ _ _ a b ih n => by
    cases n with
    | zero => exact .cons a b
    | succ n => exact ih n
theorem VAll.take {vs : List Value} {ds : List V} (x : VAll Γ α h vs ds) : ∀ n, VAll Γ α h (vs.take n) (ds.take n) :=
  x.ind (M := fun vs ds => ∀ n, VAll Γ α h (vs.take n) (ds.take n)) (fun n => by rw [List.take_nil, List.take_nil]; exact .nil) fun _ _ _ _ a b ih n => by
    cases n with
    | zero => exact .nil
    | succ n => exact .cons a (ih n)
end
inductive KvAll (Γ : Fix) (α : List Addr) (h : Heap) : List (Str × Value) → List (Str × V) → Prop
  | nil : KvAll Γ α h [] []
  | cons {k : Str} {v : Value} {d : V} {vs : List (Str × Value)} {ds : List (Str × V)} : VRel Γ α h v d → KvAll Γ α h vs ds → KvAll Γ α h ((k, v) :: vs) ((k, d) :: ds)
theorem KvAll.mono {Γ Γ' : Fix} {α α' : List Addr} {h h' : Heap} (hv : ∀ v d, VRel Γ α h v d → VRel Γ' α' h' v d) {vs : List (Str × Value)} {ds : List (Str × V)} (x : KvAll Γ α h vs ds) : KvAll Γ' α' h' vs ds :=
  KvAll.rec (motive := fun vs ds _ => KvAll Γ' α' h' vs ds) .nil (fun a _ ih => .cons (hv _ _ a) ih) x
theorem KvAll.monoP {Γ Γ' : Fix} {α α' : List Addr} {h h' : Heap} {P : V → Prop} (hv : ∀ v d, P d → VRel Γ α h v d → VRel Γ' α' h' v d) {vs : List (Str × Value)} {ds : List (Str × V)} (x : KvAll Γ α h vs ds) : (∀ d ∈ ds.map (·.2), P d) → KvAll Γ' α' h' vs ds :=
  KvAll.rec (motive := fun vs ds _ => (∀ d ∈ ds.map (fun p : Str × V => p.2), P d) → KvAll Γ' α' h' vs ds) (fun _ => .nil) (fun a _ ih p => .cons (hv _ _ (p _ (.head _)) a) (ih fun d hd => p d (.tail _ hd))) x
theorem VAll.monoP {Γ Γ' : Fix} {α α' : List Addr} {h h' : Heap} {P : V → Prop} (hv : ∀ v d, P d → VRel Γ α h v d → VRel Γ' α' h' v d) {vs : List Value} {ds : List V} (x : VAll Γ α h vs ds) : (∀ d ∈ ds, P d) → VAll Γ' α' h' vs ds :=
  x.ind (M := fun vs ds => (∀ d ∈ ds, P d) → VAll Γ' α' h' vs ds) (fun _ => .nil) fun _ _ _ _ a _ ih p => .cons (hv _ _ (p _ (List.mem_cons_self ..)) a) (ih fun d hd => p d (List.mem_cons_of_mem _ hd))
inductive CellAt (prog : Program) (Γ : Fix) (α : List Addr) (h : Heap) (a : Addr) : Cell → Prop
  | list {vs : List Value} {xs : List V} : h.PlainList a vs.toArray → VAll Γ α h vs xs → vs.length ≤ 1000000 → CellAt prog Γ α h a (.list xs)
  | dict {kvs : List (Str × Value)} {es : List (Str × V)} : h.DictOf (strKind prog Γ.w) a kvs → KvAll Γ α h kvs es → kvs.length ≤ 1000 → CellAt prog Γ α h a (.dict es)
  | tab {ps : Array Value} {q : Str} : a = tabP → h.get? a = some (tabObj ps) → TriplesOk ps.toList → (∀ pos cv, codeAmong pos ps.toList = some cv → ∃ c', cv = .ref c' ∧ VRel Γ α h (.ref c') (.code q)) → CellAt prog Γ α h a (.tab q)
structure SlotOk (Γ : Fix) (sc : Scope) (cl : List (Str × Addr)) (α : List Addr) (h : Heap) (m : Str → Option Value) (x : Str) (k : NameKind) (d : V) : Prop where
  ex : ∃ v, VRel Γ α h v d ∧ (k = .local → m x = some v) ∧ ((k = .cell ∨ k = .free) → ∃ c, cl.lookup x = some c ∧ h.IsCell c (some v))
structure St (prog : Program) (Γ : Fix) (sc : Scope) (L : Addr) (cl : List (Str × Addr)) (ρ : Loc) (α : List Addr) (σ : Sto) (h : Heap) : Prop where
  keep : ∀ b o, Γ.hb.get? b = some o → h.get? b = some o
  len : α.length = σ.length
  cell : ∀ (i : Nat) (c : Cell), σ[i]? = some c → ∃ a, α[i]? = some a ∧ CellAt prog Γ α h a c ∧ Γ.hb.get? a = none
  nodup : α.Nodup
  hbL : Γ.hb.get? L = none
  Lα : L ∉ α
  fr : ∃ m, h.Ns L m ∧ ∀ (i : Nat) (d : V), ρ[i]? = some (some d) → ∃ x k, sc.names[i]? = some (x, k) ∧ SlotOk Γ sc cl α h m x k d
  cells : ∀ p ∈ cl, p.2 ∉ α ∧ p.2 ≠ L ∧ ∃ v, h.IsCell p.2 v
  own : ∀ x, sc.names.lookup x = some .cell → ∃ c, cl.lookup x = some c ∧ Γ.hb.get? c = none
  apart : cl.Pairwise fun x y => x.2 ≠ y.2
  names : (sc.names.map (·.1)).Nodup
structure Step (L : Addr) (cl : List (Str × Addr)) (α α' : List Addr) (h h' : Heap) : Prop where
  pre : ∃ β, α' = α ++ β ∧ ∀ a ∈ β, h.get? a = none
  alive : ∀ b o, h.get? b = some o → ∃ o', h'.get? b = some o'
  frame : ∀ b o, h.get? b = some o → b ≠ L → (∀ p ∈ cl, b ≠ p.2) → b ∉ α → h'.get? b = some o
theorem Step.keeps {L : Addr} {cl : List (Str × Addr)} {α : List Addr} {h h' : Heap} (k : ∀ b o, h.get? b = some o → h'.get? b = some o) : Step L cl α α h h' := ⟨⟨[], by simp, by simp⟩, fun b o e => ⟨o, k b o e⟩, fun b o e _ _ _ => k b o e⟩
theorem Step.refl (L : Addr) (cl : List (Str × Addr)) (α : List Addr) (h : Heap) : Step L cl α α h h := Step.keeps fun _ _ e => e
theorem Step.trans {L : Addr} {cl : List (Str × Addr)} {α β γ : List Addr} {h₁ h₂ h₃ : Heap} (x : Step L cl α β h₁ h₂) (y : Step L cl β γ h₂ h₃) : Step L cl α γ h₁ h₃ := by
  obtain ⟨⟨b1, e1, s1⟩, z1, f1⟩ := x
  obtain ⟨⟨b2, e2, s2⟩, z2, f2⟩ := y
  refine ⟨⟨b1 ++ b2, by rw [e2, e1, List.append_assoc], fun a ha => ?_⟩, fun b o e => ?_, fun b o e hL hc hα => ?_⟩
  · rcases List.mem_append.mp ha with ha | ha
    · exact s1 a ha
    · have h2 := s2 a ha
      cases q : h₁.get? a with
      | none => rfl
      | some o => obtain ⟨o', ho'⟩ := z1 a o q; rw [h2] at ho'; cases ho'
  · obtain ⟨o', ho'⟩ := z1 b o e
    exact z2 b o' ho'
  · refine f2 b o (f1 b o e hL hc hα) hL hc fun hb => ?_
    rw [e1] at hb
    rcases List.mem_append.mp hb with hb | hb
    · exact hα hb
    · rw [s1 b hb] at e; cases e
theorem Step.get {L : Addr} {cl : List (Str × Addr)} {α β : List Addr} {h₁ h₂ : Heap} (x : Step L cl α β h₁ h₂) {i : Nat} {a : Addr} (e : α[i]? = some a) : β[i]? = some a := by
  obtain ⟨⟨b1, e1, _⟩, _, _⟩ := x
  rw [e1, List.getElem?_append_left]
  · exact e
  · exact (List.getElem?_eq_some_iff.mp e).1
section
variable {prog : Program} {Γ : Fix} {sc : Scope} {L : Addr} {cl : List (Str × Addr)} {ρ : Loc} {α α' : List Addr} {σ : Sto} {h h' : Heap}
theorem CellAt.noTuple {a : Addr} {c : Cell} (x : CellAt prog Γ α h a c) : ∃ o, h.get? a = some o ∧ (o.cls = .type "list" ∨ o.cls = .type "dict" ∨ o.cls = .none) := by
  cases x with
  | list hl _ _ => obtain ⟨n, ho⟩ := hl; exact ⟨_, ho, .inl rfl⟩
  | dict hd _ _ => obtain ⟨o, es, ep, ho, hc, _⟩ := hd; exact ⟨o, ho, .inr (.inl hc.1)⟩
  | tab _ ho _ _ => exact ⟨_, ho, .inr (.inr rfl)⟩
theorem St.memα (S : St prog Γ sc L cl ρ α σ h) {a : Addr} (ha : a ∈ α) : ∃ (i : Nat) (c : Cell), α[i]? = some a ∧ σ[i]? = some c ∧ CellAt prog Γ α h a c ∧ Γ.hb.get? a = none := by
  obtain ⟨i, hi, rfl⟩ := List.mem_iff_getElem.mp ha
  have hi' : i < σ.length := by rw [← S.len]; exact hi
  obtain ⟨a', e1, e2, e3⟩ := S.cell i σ[i] (List.getElem?_eq_getElem hi')
  rw [List.getElem?_eq_getElem hi] at e1
  cases e1
  exact ⟨i, σ[i], List.getElem?_eq_getElem hi, List.getElem?_eq_getElem hi', e2, e3⟩
theorem St.other (S : St prog Γ sc L cl ρ α σ h) {b : Addr} {o : Obj} (e : h.get? b = some o) (h1 : ∀ es n, o.data ≠ .dict es n) (h2 : ∀ v, o.data ≠ .cell v) (h3 : o.cls ≠ .type "list" ∨ ∀ vs n, o.data ≠ .seq vs n) (h4 : o.cls ≠ .none ∨ ∀ ps, o.data = .fields ps → ¬ TriplesOk ps.toList) :
    b ≠ L ∧ (∀ p ∈ cl, b ≠ p.2) ∧ b ∉ α := by
  refine ⟨?_, ?_, ?_⟩
  · rintro rfl
    obtain ⟨m, ⟨o', es, ep, ho, hd, _⟩, _⟩ := S.fr
    rw [e] at ho; cases ho; exact h1 _ _ hd
  · rintro p hp rfl
    obtain ⟨_, _, v, o', ho, hd⟩ := S.cells p hp
    rw [e] at ho; cases ho; exact h2 _ hd
  · intro hb
    obtain ⟨i, c, _, _, x, _⟩ := S.memα hb
    cases x with
    | list hl _ _ =>
      obtain ⟨n, ho⟩ := hl; rw [e] at ho; cases ho
      rcases h3 with h3 | h3
      · exact h3 rfl
      · exact h3 _ _ rfl
    | dict hd _ _ => obtain ⟨o', es, ep, ho, hc, hd, _⟩ := hd; rw [e] at ho; cases ho; exact h1 _ _ hd
    | tab _ ho ht _ =>
      rw [e] at ho; cases ho
      rcases h4 with h4 | h4
      · exact h4 rfl
      · exact h4 _ rfl ht
theorem St.tuple (S : St prog Γ sc L cl ρ α σ h) (T : Step L cl α α' h h') {a : Addr} {items : Array Value} (x : h.IsTuple a items) : h'.IsTuple a items := by
  obtain ⟨o, ho, hc, n, hd⟩ := x
  obtain ⟨h1, h2, h3⟩ := S.other ho (fun es n q => by rw [hd] at q; cases q) (fun v q => by rw [hd] at q; cases q) (.inl (by rw [hc]; decide)) (.inl (by rw [hc]; intro q; cases q))
  exact ⟨o, T.frame a o ho h1 h2 h3, hc, n, hd⟩
theorem St.range (S : St prog Γ sc L cl ρ α σ h) (T : Step L cl α α' h h') {a : Addr} {lo hi : Int} {t u v : Tok} (x : IsRange h a lo hi 1 t u v) : IsRange h' a lo hi 1 t u v := by
  obtain ⟨h1, h2, h3⟩ := S.other x (fun es n q => by cases q) (fun v q => by cases q) (.inl fun q => absurd (Value.type.inj q) (by decide)) (.inl (by intro q; cases q))
  exact T.frame a _ x h1 h2 h3
theorem noTriples {vs : Array Value} {q : Str} {t : Tok} (e : vs[1]? = some (.str q t)) : ¬ TriplesOk vs.toList := by
  obtain ⟨l⟩ := vs
  intro h
  cases l with
  | nil => cases e
  | cons a r =>
    cases r with
    | nil => cases e
    | cons b r =>
      cases e
      cases a <;> exact h
theorem St.code (S : St prog Γ sc L cl ρ α σ h) (T : Step L cl α α' h h') {c : Addr} {q : Str} (x : h.CodeRec (.ref c) q) : h'.CodeRec (.ref c) q := by
  obtain ⟨c', o, vs, t, e, ho, hd, hv⟩ := x
  cases e
  obtain ⟨h1, h2, h3⟩ := S.other ho (fun es n q => by rw [hd] at q; cases q) (fun v q => by rw [hd] at q; cases q) (.inr fun vs n q => by rw [hd] at q; cases q) (.inr fun ps e => by rw [hd] at e; cases e; exact noTriples hv)
  exact ⟨c, o, vs, t, rfl, T.frame c o ho h1 h2 h3, hd, hv⟩
theorem St.up (S : St prog Γ sc L cl ρ α σ h) (T : Step L cl α α' h h') {v : Value} {d : V} (x : VRel Γ α h v d) : VRel Γ α' h' v d :=
  x.mono (fun _ _ e => T.get e) (fun _ _ e => S.tuple T e) (fun _ _ _ _ _ _ e => S.range T e) (fun _ _ e => S.code T e)
theorem St.upAll (S : St prog Γ sc L cl ρ α σ h) (T : Step L cl α α' h h') {vs : List Value} {ds : List V} (x : VAll Γ α h vs ds) : VAll Γ α' h' vs ds :=
  x.mono (fun _ _ e => T.get e) (fun _ _ e => S.tuple T e) (fun _ _ _ _ _ _ e => S.range T e) (fun _ _ e => S.code T e)
end
end Mine
set_option genInjectivity false
namespace Mine
open PySem PySem.W PySem.Calls PyProof.Rows
abbrev PM (β : Type) := Loc → Sto → Option (β × Loc × Sto)
noncomputable def pret {β : Type} (a : β) : PM β := fun ρ σ => some (a, ρ, σ)
noncomputable def pbind {β γ : Type} (f : PM β) (g : β → PM γ) : PM γ := fun ρ σ => match f ρ σ with | none => none | some (a, ρ', σ') => g a ρ' σ'
noncomputable def plift {β : Type} (x : Option β) : PM β := fun ρ σ => match x with | none => none | some a => some (a, ρ, σ)
noncomputable def pvar (i : Nat) : PM V := fun ρ σ => match ρ[i]? with | some (some d) => some (d, ρ, σ) | _ => none
theorem pbind_some {β γ : Type} {f : PM β} {g : β → PM γ} {ρ ρ' : Loc} {σ σ' : Sto} {c : γ} (h : pbind f g ρ σ = some (c, ρ', σ')) : ∃ a ρ₁ σ₁, f ρ σ = some (a, ρ₁, σ₁) ∧ g a ρ₁ σ₁ = some (c, ρ', σ') := by
  unfold pbind at h
  split at h
  · cases h
  · rename_i a ρ₁ σ₁ e; exact ⟨a, ρ₁, σ₁, e, h⟩
theorem pbind_elim {P : Prop} {β γ : Type} {f : PM β} {g : β → PM γ} {ρ ρ' : Loc} {σ σ' : Sto} {c : γ} (h : pbind f g ρ σ = some (c, ρ', σ')) (k : ∀ a ρ₁ σ₁, f ρ σ = some (a, ρ₁, σ₁) → g a ρ₁ σ₁ = some (c, ρ', σ') → P) : P :=
  let ⟨a, ρ₁, σ₁, e1, e2⟩ := pbind_some h
  k a ρ₁ σ₁ e1 e2
theorem plift_some {β : Type} {x : Option β} {ρ ρ' : Loc} {σ σ' : Sto} {c : β} (h : plift x ρ σ = some (c, ρ', σ')) : x = some c ∧ ρ' = ρ ∧ σ' = σ := by
  unfold plift at h
  split at h
  · cases h
  · cases h; exact ⟨rfl, rfl, rfl⟩
theorem pret_some {β : Type} {a c : β} {ρ ρ' : Loc} {σ σ' : Sto} (h : pret a ρ σ = some (c, ρ', σ')) : c = a ∧ ρ' = ρ ∧ σ' = σ := by
  cases h; exact ⟨rfl, rfl, rfl⟩
theorem pvar_some {i : Nat} {c : V} {ρ ρ' : Loc} {σ σ' : Sto} (h : pvar i ρ σ = some (c, ρ', σ')) : ρ[i]? = some (some c) ∧ ρ' = ρ ∧ σ' = σ := by
  unfold pvar at h
  split at h
  · rename_i d e; cases h; exact ⟨e, rfl, rfl⟩
  · cases h
structure Room (n : Nat) (A : Around) : Prop where
  hh : A.handled = none
  depth : A.depth + n < 1000
  units : A.units + 8 * n < 9900
theorem Room.le {m n : Nat} {A : Around} (R : Room n A) (h : m ≤ n) : Room m A := ⟨R.hh, by have := R.depth; lia, by have := R.units; lia⟩
theorem Room.deeper {n : Nat} {A : Around} (R : Room (n + 1) A) (env : Env) : Room n (A.deeper env) := ⟨R.hh, by have := R.depth; show A.depth + 1 + n < 1000; lia, by have := R.units; show A.units + 3 + 8 * n < 9900; lia⟩
theorem Room.in1 {n : Nat} {A : Around} (R : Room (n + 1) A) : Room n A.in1 := ⟨R.hh, by have := R.depth; show A.depth + n < 1000; lia, by have := R.units; show A.units + 1 + 8 * n < 9900; lia⟩
theorem Room.u {n : Nat} {A : Around} (R : Room n A) : A.units < cLine := by have := R.units; show A.units < 9900; lia
theorem Room.d {n : Nat} {A : Around} (R : Room n A) : A.depth < recursionLimit := by have := R.depth; show A.depth < 1000; lia
structure EnvOk (env : Env) (sc : Scope) : Prop where
  scp : env.scope = sc
  kind : sc.kind = .function
  glob : env.globals = mainGlobals
  blt : env.builtins = builtinsNs
theorem EnvOk.kindOf {env : Env} {sc : Scope} (O : EnvOk env sc) (x : Str) : env.kindOf x = sc.names.lookup x := by rw [← O.scp]; rfl
theorem EnvOk.k {env : Env} {sc : Scope} (O : EnvOk env sc) : env.scope.kind = .function := by rw [O.scp]; exact O.kind
theorem EnvOk.p {env : Env} {sc : Scope} (O : EnvOk env sc) : (env.scope.kind == .class || (env.scope.kind == .module && env.locals != env.globals)) = false := by rw [O.k]; rfl
structure Good (prog : Program) (K : Params → Frag) (Γ : Fix) : Prop where
  X : (K Γ.w.params).In Γ.hb
  top : ∃ p loose mg mb, TopRead p loose mg mb Γ.hb ∧ Γ.hb.BuiltinsAt mg tabP
  nosys : (Γ.hb.get? sysModules).isSome = true
  tabs : CodeHd Γ.hb codeP tabP
def Tri (prog : Program) (K : Params → Frag) {β δ : Type} (n : Nat) (sc : Scope) (t : Env → Sem β) (f : PM δ) (rel : Fix → List Addr → Heap → β → δ → Prop) : Prop :=
  ∀ (Γ : Fix) (A : Around) (env : Env) (ρ : Loc) (α : List Addr) (σ : Sto) (a : δ) (ρ' : Loc) (σ' : Sto) (s : Shared) (Q : β → Shared → Prop) (E : Value → Shared → Prop),
    Good prog K Γ → f ρ σ = some (a, ρ', σ') → Room n A → EnvOk env sc → St prog Γ sc env.locals env.cells ρ α σ s.heap →
    (∀ b tk h' α', St prog Γ sc env.locals env.cells ρ' α' σ' h' → Step env.locals env.cells α α' s.heap h' → rel Γ α' h' b a → Q b { s with heap := h', toks := tk }) →
    wpAny (model prog Γ.w) A (t env) Q E s
abbrev JE (prog : Program) (K : Params → Frag) (n : Nat) (sc : Scope) (e : Expr) (f : PM V) : Prop := Tri prog K n sc (eval e) f VRel
abbrev JT (prog : Program) (K : Params → Frag) (n : Nat) (sc : Scope) (e : Expr) (f : PM Bool) : Prop := Tri prog K n sc (fun env => isTrue e env (eval e env)) f fun _ _ _ b a => b = a
abbrev JA (prog : Program) (K : Params → Frag) (n : Nat) (sc : Scope) (pos : Pos) (es : List Expr) (f : PM (List V)) : Prop := Tri prog K n sc (fun env => spliced (backTo pos (starEach es env))) f VAll
section
variable {prog : Program} {K : Params → Frag} {n : Nat} {sc : Scope}
theorem JE_int (i : Int) {k : Nat} {pos : Pos} : JE prog K n sc (.Constant (.int i) k pos) (pret (.int i)) := by
  intro Γ A env ρ α σ a ρ' σ' s Q E G hf R O S hQ
  obtain ⟨rfl, rfl, rfl⟩ := pret_some hf
  exact wpAny_Constant_int (hQ _ _ s.heap α S (Step.refl ..) (.int ..))
theorem JE_str (x : Str) {k : Nat} {pos : Pos} : JE prog K n sc (.Constant (.str x) k pos) (pret (.str x)) := by
  intro Γ A env ρ α σ a ρ' σ' s Q E G hf R O S hQ
  obtain ⟨rfl, rfl, rfl⟩ := pret_some hf
  exact wpAny_Constant_str (hQ _ _ s.heap α S (Step.refl ..) (.str ..))
theorem JE_bytes (x : List UInt8) {k : Nat} {pos : Pos} (hz : x.length ≤ 16777216 := by decide) : JE prog K n sc (.Constant (.bytes x) k pos) (pret (.bytes x)) := by
  intro Γ A env ρ α σ a ρ' σ' s Q E G hf R O S hQ
  obtain ⟨rfl, rfl, rfl⟩ := pret_some hf
  exact Constant_bytes (hQ _ _ s.heap α S (Step.refl ..) (.bytes _ _ hz))
theorem JE_none {k : Nat} {pos : Pos} : JE prog K n sc (.Constant .none k pos) (pret .none) := by
  intro Γ A env ρ α σ a ρ' σ' s Q E G hf R O S hQ
  obtain ⟨rfl, rfl, rfl⟩ := pret_some hf
  exact wpAny_Constant_none (hQ _ s.toks s.heap α S (Step.refl ..) .none)
theorem JE_bool (b : Bool) {k : Nat} {pos : Pos} : JE prog K n sc (.Constant (.bool b) k pos) (pret (.bool b)) := by
  intro Γ A env ρ α σ a ρ' σ' s Q E G hf R O S hQ
  obtain ⟨rfl, rfl, rfl⟩ := pret_some hf
  exact wpAny_Constant_bool (hQ _ s.toks s.heap α S (Step.refl ..) (.bool ..))
noncomputable def slotOf : List (Str × NameKind) → Str → Option (Nat × NameKind)
  | [], _ => none
  | (y, k) :: r, x => if x == y then some (0, k) else (slotOf r x).map fun p => (p.1 + 1, p.2)
theorem slotOf_get : ∀ {names : List (Str × NameKind)} {x : Str} {i : Nat} {k : NameKind}, slotOf names x = some (i, k) → names[i]? = some (x, k) ∧ names.lookup x = some k
  | (y, k') :: r, x, i, k, h => by
    unfold slotOf at h
    cases hx : x == y with
    | true => rw [hx, if_pos rfl] at h; cases h; rw [beq_iff_eq.mp hx]; exact ⟨rfl, by simp⟩
    | false =>
      rw [hx, if_neg (by decide)] at h
      obtain ⟨⟨j, k₂⟩, e, e'⟩ := Option.map_eq_some_iff.mp h
      cases e'
      obtain ⟨h1, h2⟩ := slotOf_get e
      exact ⟨by simpa using h1, by simpa [List.lookup_cons, hx] using h2⟩
theorem nodup_get : ∀ {names : List (Str × NameKind)} {i j : Nat} {x : Str} {k k' : NameKind}, (names.map (·.1)).Nodup → names[i]? = some (x, k) → names[j]? = some (x, k') → i = j := by
  intro names i j x k k' hn h1 h2
  have e1 : (names.map (·.1))[i]? = some x := by rw [List.getElem?_map, h1]; rfl
  have e2 : (names.map (·.1))[j]? = some x := by rw [List.getElem?_map, h2]; rfl
  exact (List.getElem?_inj (List.getElem?_eq_some_iff.mp e1).1 hn).mp (e1.trans e2.symm)
theorem JE_var {x : Str} {pos : Pos} {i : Nat} {k : NameKind} (hx : slotOf sc.names x = some (i, k)) (hk : k = .local ∨ k = .cell ∨ k = .free) (hd : (x == ("__debug__" : Str)) = false) (hn : (x == ("__classdict__" : Str)) = false) :
    JE prog K n sc (.Name x pos) (pvar i) := by
  intro Γ A env ρ α σ a ρ' σ' s Q E G hf R O S hQ
  obtain ⟨e, rfl, rfl⟩ := pvar_some hf
  obtain ⟨h1, h2⟩ := slotOf_get hx
  obtain ⟨m, hns, hsl⟩ := S.fr
  obtain ⟨x', k', e', ⟨v, hv, hl, hc⟩⟩ := hsl i a e
  rw [h1] at e'; cases e'
  have fin : Q v s := hQ v s.toks s.heap α S (Step.refl ..) hv
  have hkd := (O.kindOf x).trans h2
  rcases hk with rfl | rfl | rfl
  · exact wpAny_Name (wpAny_loadName_local O.k hkd hns (hl rfl) fin) hd
  · obtain ⟨c, hc1, hc2⟩ := hc (.inl rfl)
    exact wpAny_Name (wpAny_loadName_cell O.k hkd hc1 hc2 fin) hd
  · obtain ⟨c, hc1, hc2⟩ := hc (.inr rfl)
    exact wpAny_Name (wpAny_loadName_free O.k hkd hc1 hc2 fin hn) hd
theorem JE_fn {x : Str} {pos : Pos} {f : Addr} (hx : sc.names.lookup x = some .globalImplicit) (e : ∀ P, nsIn (K P) mainGlobals x = some (some (.ref f))) (hd : (x == ("__debug__" : Str)) = false) :
    JE prog K n sc (.Name x pos) (pret (.fn f)) := by
  intro Γ A env ρ α σ a ρ' σ' s Q E G hf R O S hQ
  obtain ⟨rfl, rfl, rfl⟩ := pret_some hf
  obtain ⟨p, loose, mg, mb, T, _⟩ := G.top
  refine wpAny_Name ?_ hd
  rw [loadName_read O.k ((O.kindOf x).trans hx)]
  exact loadGlobal_global (by rw [O.glob]; exact T.g.keeps S.keep) (mg_of G.X T.g (e _)) (hQ _ s.toks s.heap α S (Step.refl ..) (.fn f))
theorem JE_blt {x : Str} {pos : Pos} {v : Value} {d : V} (hx : sc.names.lookup x = some .globalImplicit) (e : ∀ P, nsIn (K P) mainGlobals x = some none) (hb : bootBuiltins x = some v) (hv : ∀ Γ α h, VRel Γ α h v d) (hn : x ≠ "__name__") (hd : (x == ("__debug__" : Str)) = false) :
    JE prog K n sc (.Name x pos) (pret d) := by
  intro Γ A env ρ α σ a ρ' σ' s Q E G hf R O S hQ
  obtain ⟨rfl, rfl, rfl⟩ := pret_some hf
  obtain ⟨p, loose, mg, mb, T, _⟩ := G.top
  refine wpAny_Name ?_ hd
  rw [loadName_read O.k ((O.kindOf x).trans hx)]
  exact loadGlobal_builtin (by rw [O.glob]; exact T.g.keeps S.keep) (mg_none_of G.X T.g (e _)) (by rw [O.blt]; exact T.b.keeps S.keep) ((T.builtins x hn).trans hb) (hQ _ s.toks s.heap α S (Step.refl ..) (hv ..))
noncomputable def vI {β : Type} (a : V) (k : Int → Option β) : Option β := match a with | .int x => k x | _ => none
noncomputable def vB {β : Type} (a : V) (k : List UInt8 → Option β) : Option β := match a with | .bytes x => k x | _ => none
noncomputable def vS {β : Type} (a : V) (k : Str → Option β) : Option β := match a with | .str x => k x | _ => none
theorem vI_some {β : Type} {a : V} {k : Int → Option β} {c : β} (h : vI a k = some c) : ∃ x, a = .int x ∧ k x = some c := by cases a <;> first | exact ⟨_, rfl, h⟩ | cases h
theorem vB_some {β : Type} {a : V} {k : List UInt8 → Option β} {c : β} (h : vB a k = some c) : ∃ x, a = .bytes x ∧ k x = some c := by cases a <;> first | exact ⟨_, rfl, h⟩ | cases h
theorem vS_some {β : Type} {a : V} {k : Str → Option β} {c : β} (h : vS a k = some c) : ∃ x, a = .str x ∧ k x = some c := by cases a <;> first | exact ⟨_, rfl, h⟩ | cases h
noncomputable def vadd (a b : V) : Option V := match a with
  | .int x => vI b fun y => some (.int (x + y))
  | .bytes x => vB b fun y => if x.length + y.length ≤ 16777216 then some (.bytes (x ++ y)) else none
  | .str x => vS b fun y => if x.length + y.length ≤ sizeLine then some (.str (x ++ y)) else none
  | _ => none
noncomputable def vmul (a b : V) : Option V := match a with
  | .int x => vI b fun y => if x.natAbs < 2 ^ 64 then some (.int (x * y)) else none
  | .bytes x => vI b fun y => if x ≠ [] ∧ x.length ≤ 16 ∧ -1048576 ≤ y ∧ y ≤ 1048576 then some (.bytes (List.replicate y.toNat x).flatten) else none
  | _ => none
noncomputable def vbin (op : Operator) (a b : V) : Option V := match op with
  | .Add => vadd a b
  | .Mult => vmul a b
  | .Sub => vI a fun x => vI b fun y => some (.int (x - y))
  | .FloorDiv => vI a fun x => vI b fun y => if y ≠ 0 ∧ y.natAbs < 1073741824 then some (.int (x.fdiv y)) else none
  | .Mod => vI a fun x => vI b fun y => if y = 0 then none else some (.int (x.fmod y))
  | .Pow => vI a fun x => vI b fun y => if 0 ≤ y ∧ y ≤ 1000 ∧ x.natAbs < 2 ^ 64 then some (.int (x ^ y.toNat)) else none
  | _ => none
theorem rep_len {l : List UInt8} {n : Int} (h1 : l.length ≤ 16) (h2 : n ≤ 1048576) : (List.replicate n.toNat l).flatten.length ≤ 16777216 := by
  have e : (List.replicate n.toNat l).flatten.length = n.toNat * l.length := by simp
  rw [e]
  have := Nat.mul_le_mul (show n.toNat ≤ 1048576 by lia) h1
  lia
section
variable {w : World} {Γ : Fix} {α : List Addr} {A : Around} {s : Shared} {v₁ v₂ : Value} {a b c : V} {Q : Value → Shared → Prop} {E : Value → Shared → Prop}
theorem ite_some {β : Type} {p : Prop} {_ : Decidable p} {x c : β} (h : (if p then some x else none) = some c) : p ∧ x = c := by
  split at h
  · rename_i q; cases h; exact ⟨q, rfl⟩
  · cases h
theorem vadd_sound (e : vadd a b = some c) (h1 : VRel Γ α s.heap v₁ a) (h2 : VRel Γ α s.heap v₂ b) (h : ∀ v tk, VRel Γ α s.heap v c → Q v { s with toks := tk }) : wpAny (model prog w) A (binaryOp .Add v₁ v₂) Q E s := by
  unfold vadd at e
  split at e
  · obtain ⟨t, rfl⟩ := h1.inv
    obtain ⟨y, rfl, e⟩ := vI_some e
    obtain ⟨u, rfl⟩ := h2.inv
    cases e
    exact add_int (h _ _ (.int ..))
  · obtain ⟨t, rfl, _⟩ := h1.inv
    obtain ⟨y, rfl, e⟩ := vB_some e
    obtain ⟨u, rfl, _⟩ := h2.inv
    obtain ⟨hz, rfl⟩ := ite_some e
    refine KBy.add_bytes (by simpa using hz) fun t' k => ?_
    rw [List.append_toArray]
    exact h _ _ (.bytes _ _ (by rw [List.length_append]; exact hz))
  · obtain ⟨t, rfl⟩ := h1.inv
    obtain ⟨y, rfl, e⟩ := vS_some e
    obtain ⟨u, rfl⟩ := h2.inv
    obtain ⟨hz, rfl⟩ := ite_some e
    exact PyProof.Rows.add_str (fun t' k => h _ _ (.str ..)) hz
  · cases e
theorem vmul_sound (e : vmul a b = some c) (h1 : VRel Γ α s.heap v₁ a) (h2 : VRel Γ α s.heap v₂ b) (h : ∀ v tk, VRel Γ α s.heap v c → Q v { s with toks := tk }) : wpAny (model prog w) A (binaryOp .Mult v₁ v₂) Q E s := by
  unfold vmul at e
  split at e
  · obtain ⟨t, rfl⟩ := h1.inv
    obtain ⟨y, rfl, e⟩ := vI_some e
    obtain ⟨u, rfl⟩ := h2.inv
    obtain ⟨hz, rfl⟩ := ite_some e
    exact PyProof.Rows.mul_int (h _ _ (.int ..)) (IntMulOk.of_left (intBits_le hz))
  · obtain ⟨t, rfl, _⟩ := h1.inv
    obtain ⟨y, rfl, e⟩ := vI_some e
    obtain ⟨u, rfl⟩ := h2.inv
    obtain ⟨hz, rfl⟩ := ite_some e
    exact bytes_mul_any hz.1 hz.2.2.1 hz.2.2.2 hz.2.1 fun t' k => h _ _ (.bytes _ _ (rep_len hz.2.1 hz.2.2.2))
  · cases e
theorem vint_sound {k : Int → Int → Option V} {T : Value → Value → Sem Value} (e : (vI a fun x => vI b fun y => k x y) = some c) (h1 : VRel Γ α s.heap v₁ a) (h2 : VRel Γ α s.heap v₂ b)
    (h : ∀ x y t u, k x y = some c → wpAny (model prog w) A (T (.int x t) (.int y u)) Q E s) : wpAny (model prog w) A (T v₁ v₂) Q E s := by
  obtain ⟨x, rfl, e2⟩ := vI_some e
  obtain ⟨y, rfl, e⟩ := vI_some (a := b) e2
  obtain ⟨t, rfl⟩ := h1.inv
  obtain ⟨u, rfl⟩ := h2.inv
  exact h x y t u e
theorem vbin_sound {op : Operator} (e : vbin op a b = some c) (h1 : VRel Γ α s.heap v₁ a) (h2 : VRel Γ α s.heap v₂ b) (h : ∀ v tk, VRel Γ α s.heap v c → Q v { s with toks := tk }) : wpAny (model prog w) A (binaryOp op v₁ v₂) Q E s := by
  unfold vbin at e
  split at e
  · exact vadd_sound e h1 h2 h
  · exact vmul_sound e h1 h2 h
  · exact vint_sound e h1 h2 fun x y t u e => by cases e; exact sub_int' (h _ _ (.int ..))
  · exact vint_sound e h1 h2 fun x y t u e => by obtain ⟨hz, rfl⟩ := ite_some e; exact floordiv_int hz.1 (h _ _ (.int ..)) (.inl (PyProof.noPylong_small hz.2))
  · exact vint_sound e h1 h2 fun x y t u e => by
      split at e
      · cases e
      · rename_i hz; cases e; exact mod_int' hz (h _ _ (.int ..))
  · exact vint_sound e h1 h2 fun x y t u e => by obtain ⟨hz, rfl⟩ := ite_some e; exact pow_int_small hz.1 (by lia) hz.2.2 (h _ _ (.int ..))
  · cases e
end
theorem JE_bin {l r : Expr} {op : Operator} {pos : Pos} {f g : PM V} (h1 : JE prog K n sc l f) (h2 : JE prog K n sc r g) :
    JE prog K n sc (.BinOp l op r pos) (pbind f fun a => pbind g fun b => plift (vbin op a b)) := by
  intro Γ A env ρ α σ c ρ' σ' s Q E G hf R O S hQ
  refine pbind_elim hf fun a ρ1 σ1 e1 hf => ?_
  refine pbind_elim hf fun b ρ2 σ2 e2 hf => ?_
  obtain ⟨e3, rfl, rfl⟩ := plift_some hf
  refine wpAny_BinOp (h1 Γ A env ρ α σ a ρ1 σ1 s _ E G e1 R O S fun v1 tk1 H1 α1 S1 T1 r1 => ?_)
  refine h2 Γ A env ρ1 α1 σ1 b _ _ _ _ E G e2 R O S1 fun v2 tk2 H2 α2 S2 T2 r2 => ?_
  exact vbin_sound e3 (S1.up T2 r1) r2 fun v tk hv => hQ v tk H2 α2 S2 (T1.trans T2) hv
noncomputable def veqB (a b : V) : Option Bool := match a with
  | .int x => vI b fun y => some (x == y)
  | .bytes x => vB b fun y => some (x == y)
  | .str x => vS b fun y => some (x == y)
  | _ => none
noncomputable def vneB (a b : V) : Option Bool := match a with
  | .int x => vI b fun y => some (x != y)
  | .bytes x => vB b fun y => some (x != y)
  | _ => none
noncomputable def visN (a b : V) : Option Bool := match b with
  | .none => match a with
    | .none => some true
    | .tup _ => some false
    | .bytes _ => some false
    | .str _ => some false
    | _ => none
  | _ => none
noncomputable def vcmp (op : CmpOp) (a b : V) : Option Bool := match op with
  | .Eq => veqB a b
  | .NotEq => vneB a b
  | .Lt => vI a fun x => vI b fun y => some (decide (x < y))
  | .LtE => vI a fun x => vI b fun y => some (decide (x ≤ y))
  | .Gt => vI a fun x => vI b fun y => some (decide (y < x))
  | .GtE => vI a fun x => vI b fun y => some (decide (y ≤ x))
  | .Is => visN a b
  | .IsNot => (visN a b).map (!·)
  | _ => none
section
variable {w : World} {Γ : Fix} {α : List Addr} {A : Around} {s : Shared} {v₁ v₂ : Value} {a b : V} {c : Bool} {Q : Value → Shared → Prop} {E : Value → Shared → Prop}
theorem visN_some (e : visN a b = some c) (h1 : VRel Γ α s.heap v₁ a) (h2 : VRel Γ α s.heap v₂ b) : v₂ = .none ∧ ((v₁ = .none ∧ c = true) ∨ (c = false ∧ ((∃ r, v₁ = .ref r) ∨ (∃ x t, v₁ = .bytes x t) ∨ ∃ x t, v₁ = .str x t))) := by
  unfold visN at e
  split at e
  · refine ⟨h2.inv, ?_⟩
    split at e
    · cases e; exact .inl ⟨h1.inv, rfl⟩
    · cases e; obtain ⟨r, _, rfl, _⟩ := h1.inv; exact .inr ⟨rfl, .inl ⟨_, rfl⟩⟩
    · cases e; obtain ⟨t, rfl, _⟩ := h1.inv; exact .inr ⟨rfl, .inr (.inl ⟨_, _, rfl⟩)⟩
    · cases e; obtain ⟨t, rfl⟩ := h1.inv; exact .inr ⟨rfl, .inr (.inr ⟨_, _, rfl⟩)⟩
    · cases e
  · cases e
theorem veqB_sound (e : veqB a b = some c) (h1 : VRel Γ α s.heap v₁ a) (h2 : VRel Γ α s.heap v₂ b) (h : Q (.bool c) s) : wpAny (model prog w) A (compareOp .Eq v₁ v₂) Q E s := by
  unfold veqB at e
  split at e
  · obtain ⟨t, rfl⟩ := h1.inv
    obtain ⟨y, rfl, e⟩ := vI_some e
    obtain ⟨u, rfl⟩ := h2.inv
    cases e
    exact eq_int h
  · obtain ⟨t, rfl, _⟩ := h1.inv
    obtain ⟨y, rfl, e⟩ := vB_some e
    obtain ⟨u, rfl, _⟩ := h2.inv
    cases e
    exact eq_bytes (by simpa using h)
  · obtain ⟨t, rfl⟩ := h1.inv
    obtain ⟨y, rfl, e⟩ := vS_some e
    obtain ⟨u, rfl⟩ := h2.inv
    cases e
    exact PyProof.Rows.eq_str h
  · cases e
theorem vneB_sound (e : vneB a b = some c) (h1 : VRel Γ α s.heap v₁ a) (h2 : VRel Γ α s.heap v₂ b) (h : Q (.bool c) s) : wpAny (model prog w) A (compareOp .NotEq v₁ v₂) Q E s := by
  unfold vneB at e
  split at e
  · obtain ⟨t, rfl⟩ := h1.inv
    obtain ⟨y, rfl, e⟩ := vI_some e
    obtain ⟨u, rfl⟩ := h2.inv
    cases e
    exact ne_int h
  · obtain ⟨t, rfl, _⟩ := h1.inv
    obtain ⟨y, rfl, e⟩ := vB_some e
    obtain ⟨u, rfl, _⟩ := h2.inv
    cases e
    exact ne_bytes (by simpa using h)
  · cases e
theorem vintC_sound {k : Int → Int → Bool} {T : Value → Value → Sem Value} (e : (vI a fun x => vI b fun y => some (k x y)) = some c) (h1 : VRel Γ α s.heap v₁ a) (h2 : VRel Γ α s.heap v₂ b)
    (h : ∀ x y t u, k x y = c → wpAny (model prog w) A (T (.int x t) (.int y u)) Q E s) : wpAny (model prog w) A (T v₁ v₂) Q E s := by
  obtain ⟨x, rfl, e2⟩ := vI_some e
  obtain ⟨y, rfl, e⟩ := vI_some (a := b) e2
  obtain ⟨t, rfl⟩ := h1.inv
  obtain ⟨u, rfl⟩ := h2.inv
  exact h x y t u (Option.some.inj e)
theorem vcmp_sound {op : CmpOp} (e : vcmp op a b = some c) (h1 : VRel Γ α s.heap v₁ a) (h2 : VRel Γ α s.heap v₂ b) (h : Q (.bool c) s) : wpAny (model prog w) A (compareOp op v₁ v₂) Q E s := by
  unfold vcmp at e
  split at e
  · exact veqB_sound e h1 h2 h
  · exact vneB_sound e h1 h2 h
  · exact vintC_sound e h1 h2 fun x y t u e => lt_int (e ▸ h)
  · exact vintC_sound e h1 h2 fun x y t u e => PyProof.Rows.le_int (e ▸ h)
  · exact vintC_sound e h1 h2 fun x y t u e => gt_int (e ▸ h)
  · exact vintC_sound e h1 h2 fun x y t u e => PyProof.Rows.ge_int (e ▸ h)
  · obtain ⟨rfl, ⟨rfl, rfl⟩ | ⟨rfl, ⟨_, rfl⟩ | ⟨_, _, rfl⟩ | ⟨_, _, rfl⟩⟩⟩ := visN_some e h1 h2 <;> exact is_none h
  · obtain ⟨d, e2, rfl⟩ := Option.map_eq_some_iff.mp e
    obtain ⟨rfl, ⟨rfl, rfl⟩ | ⟨rfl, ⟨_, rfl⟩ | ⟨_, _, rfl⟩ | ⟨_, _, rfl⟩⟩⟩ := visN_some e2 h1 h2 <;> exact isNot_none h
  · cases e
end
end
end Mine
namespace Mine
open PySem PySem.W PySem.Calls PyProof.Rows
section
variable {β : Type} {c : β}
noncomputable def hd (ds : List V) (k : V → List V → Option β) : Option β := match ds with | x :: r => k x r | [] => none
noncomputable def nl (ds : List V) (x : Option β) : Option β := match ds with | [] => x | _ :: _ => none
theorem hd_some {ds : List V} {k : V → List V → Option β} (h : hd ds k = some c) : ∃ x r, ds = x :: r ∧ k x r = some c := by
  cases ds with
  | nil => cases h
  | cons x r => exact ⟨x, r, rfl, h⟩
theorem nl_some {ds : List V} {x : Option β} (h : nl ds x = some c) : ds = [] ∧ x = some c := by
  cases ds with
  | nil => exact ⟨rfl, h⟩
  | cons x r => cases h
noncomputable def a1 (ds : List V) (k : V → Option β) : Option β := hd ds fun x r => nl r (k x)
noncomputable def a2 (ds : List V) (k : V → V → Option β) : Option β := hd ds fun x r => a1 r (k x)
noncomputable def a3 (ds : List V) (k : V → V → V → Option β) : Option β := hd ds fun x r => a2 r (k x)
noncomputable def a4 (ds : List V) (k : V → V → V → V → Option β) : Option β := hd ds fun x r => a3 r (k x)
noncomputable def a5 (ds : List V) (k : V → V → V → V → V → Option β) : Option β := hd ds fun x r => a4 r (k x)
theorem a1_some {ds : List V} {k : V → Option β} (h : a1 ds k = some c) : ∃ x, ds = [x] ∧ k x = some c :=
  let ⟨x, r, e, h⟩ := hd_some h; let ⟨e2, h⟩ := nl_some h; ⟨x, by rw [e, e2], h⟩
theorem a2_some {ds : List V} {k : V → V → Option β} (h : a2 ds k = some c) : ∃ x y, ds = [x, y] ∧ k x y = some c :=
  let ⟨x, _, e, h⟩ := hd_some h; let ⟨y, e2, h⟩ := a1_some h; ⟨x, y, by rw [e, e2], h⟩
theorem a3_some {ds : List V} {k : V → V → V → Option β} (h : a3 ds k = some c) : ∃ x y z, ds = [x, y, z] ∧ k x y z = some c :=
  let ⟨x, _, e, h⟩ := hd_some h; let ⟨y, z, e2, h⟩ := a2_some h; ⟨x, y, z, by rw [e, e2], h⟩
theorem a4_some {ds : List V} {k : V → V → V → V → Option β} (h : a4 ds k = some c) : ∃ x y z w, ds = [x, y, z, w] ∧ k x y z w = some c :=
  let ⟨x, _, e, h⟩ := hd_some h; let ⟨y, z, w, e2, h⟩ := a3_some h; ⟨x, y, z, w, by rw [e, e2], h⟩
theorem a5_some {ds : List V} {k : V → V → V → V → V → Option β} (h : a5 ds k = some c) : ∃ x y z w v, ds = [x, y, z, w, v] ∧ k x y z w v = some c :=
  let ⟨x, _, e, h⟩ := hd_some h; let ⟨y, z, w, v, e2, h⟩ := a4_some h; ⟨x, y, z, w, v, by rw [e, e2], h⟩
noncomputable def vL (a : V) (k : Nat → Option β) : Option β := match a with | .loc x => k x | _ => none
noncomputable def vT (a : V) (k : List V → Option β) : Option β := match a with | .tup x => k x | _ => none
noncomputable def vBo (a : V) (k : Bool → Option β) : Option β := match a with | .bool x => k x | _ => none
theorem vL_some {a : V} {k : Nat → Option β} (h : vL a k = some c) : ∃ x, a = .loc x ∧ k x = some c := by
  unfold vL at h
  split at h
  · exact ⟨_, rfl, h⟩
  · cases h
theorem vT_some {a : V} {k : List V → Option β} (h : vT a k = some c) : ∃ x, a = .tup x ∧ k x = some c := by
  unfold vT at h
  split at h
  · exact ⟨_, rfl, h⟩
  · cases h
theorem vBo_some {a : V} {k : Bool → Option β} (h : vBo a k = some c) : ∃ x, a = .bool x ∧ k x = some c := by
  unfold vBo at h
  split at h
  · exact ⟨_, rfl, h⟩
  · cases h
noncomputable def vH (a : V) (k : Nat → Nat → Nat → Option β) : Option β := match a with | .hands x y z => k x y z | _ => none
theorem vH_some {a : V} {k : Nat → Nat → Nat → Option β} (h : vH a k = some c) : ∃ x y z, a = .hands x y z ∧ k x y z = some c := by
  unfold vH at h
  split at h
  · exact ⟨_, _, _, rfl, h⟩
  · cases h
noncomputable def vN (a : V) (k0 k1 : Option β) : Option β := match a with | .none => k0 | _ => k1
noncomputable def nlB (l : List UInt8) (x : Option β) : Option β := match l with | [] => x | _ :: _ => none
noncomputable def hdB (l : List UInt8) (k : UInt8 → Option β) : Option β := match l with | m :: r => nlB r (k m) | [] => none
noncomputable def vO (a : V) (k : UInt8 → Option β) : Option β := vB a fun l => hdB l k
theorem vO_some {a : V} {k : UInt8 → Option β} (h : vO a k = some c) : ∃ x, a = .bytes [x] ∧ k x = some c := by
  obtain ⟨l, rfl, h⟩ := vB_some h
  cases l with
  | nil => cases h
  | cons m r =>
    cases r with
    | nil => exact ⟨m, rfl, h⟩
    | cons _ _ => cases h
noncomputable def sL (σ : Sto) (l : Nat) (k : List V → Option β) : Option β := match σ[l]? with | some (.list xs) => k xs | _ => none
noncomputable def sD (σ : Sto) (l : Nat) (k : List (Str × V) → Option β) : Option β := match σ[l]? with | some (.dict xs) => k xs | _ => none
theorem sL_of {σ : Sto} {l : Nat} {xs : List V} {k : List V → Option β} (h : σ[l]? = some (.list xs)) : sL σ l k = k xs := by unfold sL; rw [h]
theorem sD_of {σ : Sto} {l : Nat} {xs : List (Str × V)} {k : List (Str × V) → Option β} (h : σ[l]? = some (.dict xs)) : sD σ l k = k xs := by unfold sD; rw [h]
theorem sL_some {σ : Sto} {l : Nat} {k : List V → Option β} (h : sL σ l k = some c) : ∃ xs, σ[l]? = some (.list xs) ∧ k xs = some c := by
  unfold sL at h
  split at h
  · rename_i q; exact ⟨_, q, h⟩
  · cases h
theorem sD_some {σ : Sto} {l : Nat} {k : List (Str × V) → Option β} (h : sD σ l k = some c) : ∃ xs, σ[l]? = some (.dict xs) ∧ k xs = some c := by
  unfold sD at h
  split at h
  · rename_i q; exact ⟨_, q, h⟩
  · cases h
noncomputable def vo {γ : Type} (x : Option γ) (k : γ → Option β) : Option β := match x with | some a => k a | none => none
theorem vo_of {γ : Type} {x : Option γ} {a : γ} {k : γ → Option β} (h : x = some a) : vo x k = k a := by rw [h]; rfl
theorem vo_some {γ : Type} {x : Option γ} {k : γ → Option β} (h : vo x k = some c) : ∃ a, x = some a ∧ k a = some c := by
  cases x with
  | none => cases h
  | some a => exact ⟨a, rfl, h⟩
end
end Mine
namespace Mine
open PySem PySem.W PySem.Calls PyProof.Rows
section
variable {prog : Program} {Γ : Fix} {sc : Scope} {L : Addr} {cl : List (Str × Addr)} {ρ : Loc} {α α' : List Addr} {σ : Sto} {h h' : Heap}
theorem CellAt.mp {b : Addr} {c : Cell} (x : CellAt prog Γ α h b c) (e : ∀ o, h.get? b = some o → h'.get? b = some o) (up : ∀ v d, VRel Γ α h v d → VRel Γ α' h' v d) : CellAt prog Γ α' h' b c := by
  cases x with
  | list hl hv z => exact .list (hl.at e) (hv.mp up) z
  | dict hd hv z => obtain ⟨o, es, ep, ho, r⟩ := hd; exact .dict ⟨o, es, ep, e o ho, r⟩ (hv.mono up) z
  | tab ha ho ht hc => exact .tab ha (e _ ho) ht fun pos cv q => let ⟨c', q1, q2⟩ := hc pos cv q; ⟨c', q1, up _ _ q2⟩
theorem SlotOk.mp {m : Str → Option Value} {x : Str} {k : NameKind} {d : V} (s : SlotOk Γ sc cl α h m x k d) (up : ∀ v d, VRel Γ α h v d → VRel Γ α' h' v d) (hc : ∀ c v, cl.lookup x = some c → h.IsCell c v → h'.IsCell c v) : SlotOk Γ sc cl α' h' m x k d := by
  obtain ⟨v, h1, h2, h3⟩ := s
  exact ⟨v, up _ _ h1, h2, fun q => let ⟨c, e, i⟩ := h3 q; ⟨c, e, hc c _ e i⟩⟩
theorem St.dead (S : St prog Γ sc L cl ρ α σ h) {a : Addr} (e : h.get? a = none) : a ∉ α ∧ a ≠ L ∧ (∀ p ∈ cl, p.2 ≠ a) ∧ Γ.hb.get? a = none := by
  refine ⟨fun ha => ?_, ?_, ?_, ?_⟩
  · obtain ⟨i, c, _, _, x, _⟩ := S.memα ha
    obtain ⟨o, ho, _⟩ := x.noTuple
    rw [e] at ho; cases ho
  · rintro rfl
    obtain ⟨m, ⟨o', es, ep, ho, hd, _⟩, _⟩ := S.fr
    rw [e] at ho; cases ho
  · rintro p hp rfl
    obtain ⟨_, _, v, o', ho, hd⟩ := S.cells p hp
    rw [e] at ho; cases ho
  · cases q : Γ.hb.get? a with
    | none => rfl
    | some o => rw [S.keep a o q] at e; cases e
theorem St.keeps (S : St prog Γ sc L cl ρ α σ h) (k : ∀ b o, h.get? b = some o → h'.get? b = some o) : St prog Γ sc L cl ρ α σ h' := by
  have up : ∀ v d, VRel Γ α h v d → VRel Γ α h' v d := fun v d x => S.up (Step.keeps k) x
  refine ⟨fun b o e => k b o (S.keep b o e), S.len, fun i c e => ?_, S.nodup, S.hbL, S.Lα, ?_, fun p hp => ?_, S.own, S.apart, S.names⟩
  · obtain ⟨a, e1, x, e2⟩ := S.cell i c e
    exact ⟨a, e1, x.mp (fun o q => k a o q) up, e2⟩
  · obtain ⟨m, hn, hs⟩ := S.fr
    refine ⟨m, hn.keeps k, fun i d e => ?_⟩
    obtain ⟨x, k', e', s⟩ := hs i d e
    exact ⟨x, k', e', s.mp up fun c v _ q => q.keeps k⟩
  · obtain ⟨h1, h2, v, h3⟩ := S.cells p hp
    exact ⟨h1, h2, v, h3.keeps k⟩
theorem St.newCell (S : St prog Γ sc L cl ρ α σ h) {a : Addr} {c : Cell} (k : ∀ b o, h.get? b = some o → h'.get? b = some o) (ha : h.get? a = none) (hc : CellAt prog Γ (α ++ [a]) h' a c) :
    St prog Γ sc L cl ρ (α ++ [a]) (σ ++ [c]) h' ∧ Step L cl α (α ++ [a]) h h' := by
  obtain ⟨d1, d2, d3, d4⟩ := S.dead ha
  have T : Step L cl α (α ++ [a]) h h' := ⟨⟨[a], rfl, fun b hb => by rw [List.mem_singleton.mp hb]; exact ha⟩, fun b o e => ⟨o, k b o e⟩, fun b o e _ _ _ => k b o e⟩
  have up : ∀ v d, VRel Γ α h v d → VRel Γ (α ++ [a]) h' v d := fun v d x => S.up T x
  refine ⟨⟨fun b o e => k b o (S.keep b o e), by rw [List.length_append, List.length_append, S.len]; rfl, fun i c' e => ?_, ?_, S.hbL, ?_, ?_, fun p hp => ?_, S.own, S.apart, S.names⟩, T⟩
  · by_cases hi : i < σ.length
    · rw [List.getElem?_append_left hi] at e
      obtain ⟨b, e1, x, e2⟩ := S.cell i c' e
      exact ⟨b, T.get e1, x.mp (fun o q => k b o q) up, e2⟩
    · have hlen : i = σ.length := by
        have := (List.getElem?_eq_some_iff.mp e).1
        rw [List.length_append, List.length_singleton] at this
        lia
      subst hlen
      rw [List.getElem?_append_right (Nat.le_refl _), Nat.sub_self] at e
      cases e
      refine ⟨a, ?_, hc, d4⟩
      rw [List.getElem?_append_right (by rw [S.len]; exact Nat.le_refl _), S.len, Nat.sub_self]; rfl
  · exact List.nodup_append.mpr ⟨S.nodup, by simp, fun x hx y hy q => d1 (by rw [List.mem_singleton.mp hy] at q; exact q ▸ hx)⟩
  · intro q
    rcases List.mem_append.mp q with q | q
    · exact S.Lα q
    · exact d2 (List.mem_singleton.mp q).symm
  · obtain ⟨m, hn, hs⟩ := S.fr
    refine ⟨m, hn.keeps k, fun i d e => ?_⟩
    obtain ⟨x, k', e', s⟩ := hs i d e
    exact ⟨x, k', e', s.mp up fun c v _ q => q.keeps k⟩
  · obtain ⟨h1, h2, v, h3⟩ := S.cells p hp
    refine ⟨fun q => ?_, h2, v, h3.keeps k⟩
    rcases List.mem_append.mp q with q | q
    · exact h1 q
    · exact d3 p hp (List.mem_singleton.mp q)
theorem St.updCell (S : St prog Γ sc L cl ρ α σ h) {i : Nat} {a : Addr} {c : Cell} (hi : α[i]? = some a) (hx : Heap.ExtBut a h h') (hc : (∀ v d, VRel Γ α h v d → VRel Γ α h' v d) → CellAt prog Γ α h' a c) (hal : ∃ o, h'.get? a = some o) :
    St prog Γ sc L cl ρ α (σ.set i c) h' ∧ Step L cl α α h h' := by
  have ha : a ∈ α := List.mem_of_getElem? hi
  have T : Step L cl α α h h' := ⟨⟨[], by simp, by simp⟩, fun b o e => by
      by_cases q : b = a
      · rw [q]; exact hal
      · exact ⟨o, hx b o q e⟩, fun b o e _ _ q => hx b o (fun z => q (z ▸ ha)) e⟩
  have up : ∀ v d, VRel Γ α h v d → VRel Γ α h' v d := fun v d x => S.up T x
  obtain ⟨_, _, _, _, _, hbn⟩ := S.memα ha
  refine ⟨⟨fun b o e => hx b o (fun z => by rw [z, hbn] at e; cases e) (S.keep b o e), by rw [List.length_set]; exact S.len, fun j c' e => ?_, S.nodup, S.hbL, S.Lα, ?_, fun p hp => ?_, S.own, S.apart, S.names⟩, T⟩
  · by_cases q : i = j
    · subst q
      have hlt : i < σ.length := by
        have := (List.getElem?_eq_some_iff.mp e).1
        rwa [List.length_set] at this
      rw [List.getElem?_set_self hlt] at e
      cases e
      exact ⟨a, hi, hc up, hbn⟩
    · rw [List.getElem?_set_ne q] at e
      obtain ⟨b, e1, x, e2⟩ := S.cell j c' e
      have hne : b ≠ a := fun z => q ((List.getElem?_inj (List.getElem?_eq_some_iff.mp hi).1 S.nodup).mp (hi.trans (z ▸ e1.symm)))
      exact ⟨b, e1, x.mp (fun o z => hx b o hne z) up, e2⟩
  · obtain ⟨m, hn, hs⟩ := S.fr
    refine ⟨m, hn.extBut hx (fun z => S.Lα (z ▸ ha)), fun i d e => ?_⟩
    obtain ⟨x, k', e', s⟩ := hs i d e
    refine ⟨x, k', e', s.mp up fun c v hcl q => ?_⟩
    obtain ⟨o, ho, hd⟩ := q
    exact ⟨o, hx c o (fun z => (S.cells (x, c) (mem_of_lookup hcl)).1 (z ▸ ha)) ho, hd⟩
  · obtain ⟨h1, h2, v, o, ho, hd⟩ := S.cells p hp
    exact ⟨h1, h2, v, o, hx _ o (fun z => h1 (z ▸ ha)) ho, hd⟩
theorem St.setLocal (S : St prog Γ sc L cl ρ α σ h) {x : Str} {i : Nat} {v : Value} {d : V} (hx : slotOf sc.names x = some (i, .local)) (hv : VRel Γ α h v d)
    (hn : ∀ m, h.Ns L m → h'.Ns L (fun y => if y = x then some v else m y)) (hs : Heap.SameBut L h h') :
    St prog Γ sc L cl (ρ.set i (some d)) α σ h' ∧ Step L cl α α h h' := by
  obtain ⟨m, hns, hsl⟩ := S.fr
  have hn' := hn m hns
  have T : Step L cl α α h h' := ⟨⟨[], by simp, by simp⟩, fun b o e => by
      by_cases q : b = L
      · subst q; obtain ⟨o', _, _, ho, _⟩ := hn'; exact ⟨o', ho⟩
      · exact ⟨o, hs.extBut b o q e⟩, fun b o e q _ _ => hs.extBut b o q e⟩
  have up : ∀ v d, VRel Γ α h v d → VRel Γ α h' v d := fun v d x => S.up T x
  obtain ⟨g1, g2⟩ := slotOf_get hx
  refine ⟨⟨fun b o e => hs.extBut b o (fun z => by rw [z, S.hbL] at e; cases e) (S.keep b o e), S.len, fun j c e => ?_, S.nodup, S.hbL, S.Lα, ?_, fun p hp => ?_, S.own, S.apart, S.names⟩, T⟩
  · obtain ⟨a, e1, y, e2⟩ := S.cell j c e
    exact ⟨a, e1, y.mp (fun o z => hs.extBut a o (fun q => S.Lα (q ▸ List.mem_of_getElem? e1)) z) up, e2⟩
  · refine ⟨_, hn', fun j d' e => ?_⟩
    have cellOk : ∀ c v y, cl.lookup y = some c → h.IsCell c v → h'.IsCell c v := fun c v y hcl q => q.sameBut hs (S.cells (y, c) (mem_of_lookup hcl)).2.1
    by_cases q : i = j
    · subst q
      have hlt : i < ρ.length := by
        have := (List.getElem?_eq_some_iff.mp e).1
        rwa [List.length_set] at this
      rw [List.getElem?_set_self hlt] at e
      cases e
      exact ⟨x, .local, g1, ⟨v, up _ _ hv, fun _ => by simp, fun z => by rcases z with z | z <;> cases z⟩⟩
    · rw [List.getElem?_set_ne q] at e
      obtain ⟨y, k, e', ⟨v', s1, s2, s3⟩⟩ := hsl j d' e
      have hne : y ≠ x := fun z => q (nodup_get S.names g1 (z ▸ e'))
      exact ⟨y, k, e', ⟨v', up _ _ s1, fun z => by simp only [if_neg hne]; exact s2 z, fun z => let ⟨c, a1, a2⟩ := s3 z; ⟨c, a1, cellOk c _ y a1 a2⟩⟩⟩
  · obtain ⟨h1, h2, v, h3⟩ := S.cells p hp
    exact ⟨h1, h2, v, h3.sameBut hs h2⟩
theorem St.setCellVar (S : St prog Γ sc L cl ρ α σ h) {x : Str} {i : Nat} {c : Addr} {v : Value} {d : V} (hx : slotOf sc.names x = some (i, .cell)) (hcl : cl.lookup x = some c) (hv : VRel Γ α h v d)
    (hc : h'.IsCell c (some v)) (hs : Heap.SameBut c h h') :
    St prog Γ sc L cl (ρ.set i (some d)) α σ h' ∧ Step L cl α α h h' := by
  obtain ⟨m, hns, hsl⟩ := S.fr
  have hmem := mem_of_lookup hcl
  obtain ⟨n1, n2, _⟩ := S.cells _ hmem
  have T : Step L cl α α h h' := ⟨⟨[], by simp, by simp⟩, fun b o e => by
      by_cases q : b = c
      · subst q; obtain ⟨o', ho, _⟩ := hc; exact ⟨o', ho⟩
      · exact ⟨o, hs.extBut b o q e⟩, fun b o e _ q _ => hs.extBut b o (q _ hmem) e⟩
  have up : ∀ v d, VRel Γ α h v d → VRel Γ α h' v d := fun v d x => S.up T x
  obtain ⟨g1, g2⟩ := slotOf_get hx
  obtain ⟨c', hc', hbn⟩ := S.own x g2
  rw [hcl] at hc'; cases hc'
  refine ⟨⟨fun b o e => hs.extBut b o (fun z => by rw [z, hbn] at e; cases e) (S.keep b o e), S.len, fun j c₂ e => ?_, S.nodup, S.hbL, S.Lα, ?_, fun p hp => ?_, S.own, S.apart, S.names⟩, T⟩
  · obtain ⟨a, e1, y, e2⟩ := S.cell j c₂ e
    exact ⟨a, e1, y.mp (fun o z => hs.extBut a o (fun q => n1 (q ▸ List.mem_of_getElem? e1)) z) up, e2⟩
  · refine ⟨m, hns.sameBut hs (Ne.symm n2), fun j d' e => ?_⟩
    by_cases q : i = j
    · subst q
      have hlt : i < ρ.length := by
        have := (List.getElem?_eq_some_iff.mp e).1
        rwa [List.length_set] at this
      rw [List.getElem?_set_self hlt] at e
      cases e
      exact ⟨x, .cell, g1, ⟨v, up _ _ hv, (fun z => by cases z), fun _ => ⟨c, hcl, hc⟩⟩⟩
    · rw [List.getElem?_set_ne q] at e
      obtain ⟨y, k, e', ⟨v', s1, s2, s3⟩⟩ := hsl j d' e
      have hne : y ≠ x := fun z => q (nodup_get S.names g1 (z ▸ e'))
      refine ⟨y, k, e', ⟨v', up _ _ s1, s2, fun z => ?_⟩⟩
      obtain ⟨c₂, a1, a2⟩ := s3 z
      exact ⟨c₂, a1, a2.sameBut hs fun w => hne (name_of_addr S.apart (mem_of_lookup a1) (w ▸ hmem))⟩
  · obtain ⟨h1, h2, v', h3⟩ := S.cells p hp
    by_cases q : p.2 = c
    · exact ⟨h1, h2, some v, q ▸ hc⟩
    · exact ⟨h1, h2, v', h3.sameBut hs q⟩
end
theorem store_sound {prog : Program} {w : World} {Γ : Fix} {sc : Scope} {A : Around} {env : Env} {ρ : Loc} {α : List Addr} {σ : Sto} {s : Shared} {x : Str} {i : Nat} {k : NameKind} {v : Value} {d : V} {Q : Unit → Shared → Prop} {E : Value → Shared → Prop}
    (hx : slotOf sc.names x = some (i, k)) (hk : k = .local ∨ k = .cell) (O : EnvOk env sc) (S : St prog Γ sc env.locals env.cells ρ α σ s.heap) (hv : VRel Γ α s.heap v d)
    (h : ∀ tk h', St prog Γ sc env.locals env.cells (ρ.set i (some d)) α σ h' → Step env.locals env.cells α α s.heap h' → Q () { s with heap := h', toks := tk }) : wpAny (model prog w) A (storeName env x v) Q E s := by
  obtain ⟨g1, g2⟩ := slotOf_get hx
  have hkd := (O.kindOf x).trans g2
  rcases hk with rfl | rfl
  · obtain ⟨m, hns, _⟩ := S.fr
    refine wpAny_storeName_local hkd hns (fun h' hn' hs' => ?_) O.p
    obtain ⟨S', T'⟩ := S.setLocal hx hv (h' := h') (fun m₂ hn₂ => by
      obtain ⟨o, es, ep, ho, hd, hk, hf⟩ := hns
      obtain ⟨o₂, es₂, ep₂, ho₂, hd₂, hk₂, hf₂⟩ := hn₂
      rw [ho] at ho₂; cases ho₂
      rw [hd] at hd₂; cases hd₂
      have e : m₂ = m := funext fun y => by rw [← hf, ← hf₂]
      rw [e]; exact hn') hs'
    exact h _ h' S' T'
  · obtain ⟨c, hcl, _⟩ := S.own x g2
    obtain ⟨_, _, v0, hc0⟩ := S.cells _ (mem_of_lookup hcl)
    refine wpAny_storeName_cell O.k hkd hcl hc0 fun h' hc' hs' => ?_
    obtain ⟨S', T'⟩ := S.setCellVar hx hcl hv hc' hs'
    exact h s.toks h' S' T'
end Mine
namespace Mine
open PySem PySem.W PySem.Calls PyProof.Rows
noncomputable def psto {β : Type} (g : Sto → Option β) : PM β := fun ρ σ => match g σ with | none => none | some a => some (a, ρ, σ)
theorem psto_some {β : Type} {g : Sto → Option β} {ρ ρ' : Loc} {σ σ' : Sto} {c : β} (h : psto g ρ σ = some (c, ρ', σ')) : g σ = some c ∧ ρ' = ρ ∧ σ' = σ := by
  unfold psto at h
  split at h
  · cases h
  · rename_i e; cases h; exact ⟨e, rfl, rfl⟩
noncomputable def valOf' : List (Str × V) → Str → Option V
  | [], _ => none
  | (k, d) :: r, x => if k = x then some d else valOf' r x
noncomputable def vidx (a b : V) (σ : Sto) : Option V := match a with
  | .tup ds => vI b fun k => if 0 ≤ k then ds[k.toNat]? else none
  | .bytes x => vI b fun k => if 0 ≤ k then (x[k.toNat]?).map fun c => .int c.toNat else none
  | .loc l => match σ[l]? with
    | some (.list xs) => vI b fun k => if 0 ≤ k then xs[k.toNat]? else none
    | some (.dict es) => vS b fun x => valOf' es x
    | _ => none
  | _ => none
theorem ite_none {β : Type} {p : Prop} {_ : Decidable p} {x : Option β} {c : β} (h : (if p then x else none) = some c) : p ∧ x = some c := by
  split at h
  · rename_i q; exact ⟨q, h⟩
  · cases h
theorem KvAll.valueAt {Γ : Fix} {α : List Addr} {h : Heap} {kvs : List (Str × Value)} {es : List (Str × V)} (y : KvAll Γ α h kvs es) : ∀ {x : Str} {d : V}, valOf' es x = some d → ∃ v, PySem.valueAt kvs x = some v ∧ VRel Γ α h v d := by
  induction y with
  | nil => intro x d e; cases e
  | @cons k _ _ _ _ a b ih =>
    intro x d e
    unfold valOf' at e
    by_cases q : k = x
    · rw [if_pos q] at e; cases e
      exact ⟨_, by simp [PySem.valueAt, q], a⟩
    · rw [if_neg q] at e
      obtain ⟨v, h1, h2⟩ := ih e
      exact ⟨v, by simpa [PySem.valueAt, List.find?_cons, q] using h1, h2⟩
section
variable {prog : Program} {K : Params → Frag} {n : Nat} {sc : Scope}
theorem St.cellOf {Γ : Fix} {L : Addr} {cl : List (Str × Addr)} {ρ : Loc} {α : List Addr} {σ : Sto} {h : Heap} (S : St prog Γ sc L cl ρ α σ h) {l : Nat} {c : Cell} {a : Addr} (e : σ[l]? = some c) (ha : α[l]? = some a) : CellAt prog Γ α h a c := by
  obtain ⟨a', e1, x, _⟩ := S.cell l c e
  rw [ha] at e1; cases e1; exact x
theorem St.listOf {Γ : Fix} {L : Addr} {cl : List (Str × Addr)} {ρ : Loc} {α : List Addr} {σ : Sto} {h : Heap} (S : St prog Γ sc L cl ρ α σ h) {l : Nat} {xs : List V} {a : Addr} (e : σ[l]? = some (.list xs)) (ha : α[l]? = some a) :
    ∃ vs, h.PlainList a vs.toArray ∧ VAll Γ α h vs xs ∧ vs.length ≤ 1000000 := by
  cases S.cellOf e ha with
  | list hl hv hz => exact ⟨_, hl, hv, hz⟩
theorem St.dictOf {Γ : Fix} {L : Addr} {cl : List (Str × Addr)} {ρ : Loc} {α : List Addr} {σ : Sto} {h : Heap} (S : St prog Γ sc L cl ρ α σ h) {l : Nat} {es : List (Str × V)} {a : Addr} (e : σ[l]? = some (.dict es)) (ha : α[l]? = some a) :
    ∃ kvs, h.DictOf (strKind prog Γ.w) a kvs ∧ KvAll Γ α h kvs es ∧ kvs.length ≤ 1000 := by
  cases S.cellOf e ha with
  | dict hl hv hz => exact ⟨_, hl, hv, hz⟩
section
variable {Γ : Fix} {L : Addr} {cl : List (Str × Addr)} {ρ : Loc} {α : List Addr} {σ : Sto} {A : Around} {s : Shared} {value slice : Expr} {v₁ v₂ : Value} {a b c : V} {Q : Value → Shared → Prop} {E : Value → Shared → Prop}
theorem vidx_sound (S : St prog Γ sc L cl ρ α σ s.heap) (e : vidx a b σ = some c) (h1 : VRel Γ α s.heap v₁ a) (h2 : VRel Γ α s.heap v₂ b)
    (hs : ∀ o i, subscripted slice false o i = operate [o, i] (getItem o i)) (h : ∀ v tk, VRel Γ α s.heap v c → Q v { s with toks := tk }) : wpAny (model prog Γ.w) A (subscriptTail value slice v₁ v₂) Q E s := by
  unfold vidx at e
  split at e
  · obtain ⟨k, rfl, e⟩ := vI_some e
    obtain ⟨h0, e⟩ := ite_none e
    obtain ⟨_, vs, rfl, ht, hv, hz⟩ := h1.inv
    obtain ⟨t, rfl⟩ := h2.inv
    obtain ⟨v, hx, hr⟩ := hv.get e
    have hlt := (List.getElem?_eq_some_iff.mp hx).1
    exact tail_any (T := "tuple") ht.typeIs slot_tuple_getitem.lookup (PyProof.Rows.getItem_tuple ht (by lia) (by lia) (seqIndex_of h0 (by simp; lia)) (by simpa using hx) (h v s.toks hr)) (hs _ _)
  · rename_i b
    obtain ⟨k, rfl, e⟩ := vI_some e
    obtain ⟨h0, e⟩ := ite_none e
    obtain ⟨c', hc, rfl⟩ := Option.map_eq_some_iff.mp e
    obtain ⟨u, rfl, hz⟩ := h1.inv
    obtain ⟨t, rfl⟩ := h2.inv
    have hlt := (List.getElem?_eq_some_iff.mp hc).1
    refine tail_any (typeIs_bytes _ _ _) FB.slot_bytes_getitem.lookup (getItem_bytes (by lia) h0 (by lia) ?_) (hs _ _)
    have e2 : b.getD k.toNat 0 = c' := by rw [List.getD_eq_getElem?_getD, hc]; rfl
    rw [e2]
    exact h _ _ (.int ..)
  · obtain ⟨ax, rfl, ha⟩ := h1.inv
    split at e
    · rename_i xs he
      obtain ⟨k, rfl, e⟩ := vI_some e
      obtain ⟨h0, e⟩ := ite_none e
      obtain ⟨t, rfl⟩ := h2.inv
      obtain ⟨vs, hl, hv, hz⟩ := S.listOf he ha
      have hl := hl.isList
      obtain ⟨v, hx, hr⟩ := hv.get e
      have hlt := (List.getElem?_eq_some_iff.mp hx).1
      exact tail_any hl.typeIs slot_list_getitem.lookup (wpAny_getItem_list hl h0 (by lia) (by simpa using hx) (h v s.toks hr)) (hs _ _)
    · rename_i es he
      obtain ⟨x, rfl, e⟩ := vS_some e
      obtain ⟨t, rfl⟩ := h2.inv
      obtain ⟨kvs, hd, hv, hz⟩ := S.dictOf he ha
      obtain ⟨v, hx, hr⟩ := hv.valueAt e
      exact tail_any hd.typeIs slot_dict_getitem.lookup (wpAny_getItem_of (strKind_is prog Γ.w _ _) hd.mapOf hx (h v _ hr)) (hs _ _)
    · cases e
  · cases e
end
theorem JE_sub {value slice : Expr} {pos : Pos} {f g : PM V} (h1 : JE prog K n sc value f) (h2 : JE prog K n sc slice g) (hs : ∀ o i, subscripted slice false o i = operate [o, i] (getItem o i)) :
    JE prog K n sc (.Subscript value slice pos) (pbind f fun a => pbind g fun b => psto (vidx a b)) := by
  intro Γ A env ρ α σ c ρ' σ' s Q E G hf R O S hQ
  refine pbind_elim hf fun a ρ1 σ1 e1 hf1 => ?_
  refine pbind_elim hf1 fun b ρ2 σ2 e2 hf2 => ?_
  obtain ⟨e3, rfl, rfl⟩ := psto_some hf2
  refine Subscript_ (h1 Γ A env ρ α σ a ρ1 σ1 s _ E G e1 R O S fun v1 tk1 H1 α1 S1 T1 r1 => ?_)
  refine h2 Γ A env ρ1 α1 σ1 b _ _ _ _ E G e2 R O S1 fun v2 tk2 H2 α2 S2 T2 r2 => ?_
  exact vidx_sound S2 e3 (S1.up T2 r1) r2 hs fun v tk hv => hQ v tk H2 α2 S2 (T1.trans T2) hv
abbrev JP (prog : Program) (K : Params → Frag) (n : Nat) (sc : Scope) (x : Option Expr) (f : PM (Option Int)) : Prop := Tri prog K n sc (evalPart x) f fun _ _ _ v o => IsPart v o
noncomputable def asInt : V → Option (Option Int)
  | .int i => some (some i)
  | _ => none
theorem JP_none : JP prog K n sc none (pret none) := by
  intro Γ A env ρ α σ c ρ' σ' s Q E G hf R O S hQ
  obtain ⟨rfl, rfl, rfl⟩ := pret_some hf
  rw [evalPart_none]
  exact wpAny_pure (hQ _ s.toks s.heap α S (Step.refl ..) .none)
theorem JP_some {e : Expr} {f : PM V} (h1 : JE prog K n sc e f) : JP prog K n sc (some e) (pbind f fun a => plift (asInt a)) := by
  intro Γ A env ρ α σ c ρ' σ' s Q E G hf R O S hQ
  refine pbind_elim hf fun a ρ1 σ1 e1 hf1 => ?_
  obtain ⟨e3, rfl, rfl⟩ := plift_some hf1
  rw [evalPart_some]
  refine h1 Γ A env ρ α σ a _ _ s _ E G e1 R O S fun v1 tk1 H1 α1 S1 T1 r1 => hQ v1 tk1 H1 α1 S1 T1 ?_
  unfold asInt at e3
  split at e3
  · cases e3; obtain ⟨t, rfl⟩ := r1.inv; exact .int ..
  · cases e3
noncomputable def sl {β : Type} (xs : List β) (lo hi : Option Int) : List β := match hi with
  | none => xs.drop (lo.elim 0 Int.toNat)
  | some h => (xs.drop (lo.elim 0 Int.toNat)).take (h.toNat - lo.elim 0 Int.toNat)
noncomputable def slOk (lo hi : Option Int) : Bool := lo.all (fun i => decide (0 ≤ i)) && hi.all fun i => decide (0 ≤ i)
theorem clipAt_of {n : Nat} {i : Int} (h : 0 ≤ i) : clipAt n i = min i.toNat n := by
  obtain ⟨j, rfl⟩ := Int.eq_ofNat_of_zero_le h
  exact clipAt_nat n j
theorem sl_eq {β : Type} (xs : List β) {lo hi : Option Int} (h : slOk lo hi = true) : (xs.drop (lo.elim 0 (clipAt xs.length))).take (hi.elim xs.length (clipAt xs.length) - lo.elim 0 (clipAt xs.length)) = sl xs lo hi := by
  unfold slOk at h
  rw [Bool.and_eq_true] at h
  have key : ∀ (a : Nat) (b : Nat), (xs.drop (min a xs.length)).take (min b xs.length - min a xs.length) = (xs.drop a).take (b - a) := by
    intro a b
    apply List.ext_getElem?
    intro i
    simp only [List.getElem?_take, List.getElem?_drop]
    by_cases h1 : a ≤ xs.length
    · rw [Nat.min_eq_left h1]
      by_cases h2 : b ≤ xs.length
      · rw [Nat.min_eq_left h2]
      · rw [Nat.min_eq_right (by lia)]
        by_cases h3 : i < xs.length - a
        · rw [if_pos h3, if_pos (by lia)]
        · rw [if_neg h3]
          by_cases h4 : i < b - a
          · rw [if_pos h4, List.getElem?_eq_none (by lia)]
          · rw [if_neg h4]
    · rw [Nat.min_eq_right (show xs.length ≤ a by lia)]
      rw [if_neg (by lia)]
      by_cases h4 : i < b - a
      · rw [if_pos h4, List.getElem?_eq_none (by lia)]
      · rw [if_neg h4]
  have key0 : ∀ (a : Nat), (xs.drop (min a xs.length)).take (xs.length - min a xs.length) = xs.drop a := by
    intro a
    have := key a xs.length
    rw [Nat.min_self] at this
    rw [this, List.take_of_length_le (by rw [List.length_drop]; exact Nat.le_refl _)]
  cases lo with
  | none =>
    cases hi with
    | none => simp [sl]
    | some b =>
      have hb : 0 ≤ b := by simpa using h.2
      have := key 0 b.toNat
      simp only [Option.elim, sl, clipAt_of hb]
      simp at this ⊢
  | some a =>
    have ha : 0 ≤ a := by simpa using h.1
    cases hi with
    | none => simp only [Option.elim, sl, clipAt_of ha]; exact key0 _
    | some b =>
      have hb : 0 ≤ b := by simpa using h.2
      simp only [Option.elim, sl, clipAt_of ha, clipAt_of hb]
      exact key _ _
theorem sl_length_le {β : Type} (xs : List β) (lo hi : Option Int) : (sl xs lo hi).length ≤ xs.length := by
  unfold sl
  split
  · rw [List.length_drop]; omega
  · rw [List.length_take, List.length_drop]; omega
theorem VAll.sl {Γ : Fix} {α : List Addr} {h : Heap} {vs : List Value} {ds : List V} (x : VAll Γ α h vs ds) (lo hi : Option Int) : VAll Γ α h (Mine.sl vs lo hi) (Mine.sl ds lo hi) := by
  unfold Mine.sl
  split
  · exact x.drop _
  · exact (x.drop _).take _
theorem VAll.ints {Γ : Fix} {α : List Addr} {h : Heap} {vs : List Value} {ns : List Int} (y : IntsAre vs ns) : VAll Γ α h vs (ns.map V.int) := by
  induction y with
  | nil => exact .nil
  | cons n t _ ih => exact .cons (.int n t) ih
noncomputable def pslice (a : V) (lo hi : Option Int) : PM V := fun ρ σ =>
  if slOk lo hi = true then
    match a with
    | .bytes b => some (.bytes (sl b lo hi), ρ, σ)
    | .loc l => match σ[l]? with | some (.list xs) => some (.loc σ.length, ρ, σ ++ [.list (sl xs lo hi)]) | _ => none
    | .ilist ns => if ns.length ≤ 1000000 then some (.loc σ.length, ρ, σ ++ [.list (sl (ns.map V.int) lo hi)]) else none
    | _ => none
  else none
theorem St.upNew {Γ : Fix} {L : Addr} {cl : List (Str × Addr)} {ρ : Loc} {α : List Addr} {σ : Sto} {h h' : Heap} (S : St prog Γ sc L cl ρ α σ h) (kp : ∀ b o, h.get? b = some o → h'.get? b = some o) (a : Addr) : ∀ v d, VRel Γ α h v d → VRel Γ (α ++ [a]) h' v d := fun v d x =>
  (S.up (Step.keeps kp) x).mono (fun i a e => by rw [List.getElem?_append_left (List.getElem?_eq_some_iff.mp e).1]; exact e) (fun _ _ e => e) (fun _ _ _ _ _ _ e => e) (fun _ _ e => e)
theorem St.lastLoc {Γ : Fix} {L : Addr} {cl : List (Str × Addr)} {ρ : Loc} {α : List Addr} {σ : Sto} {h h' : Heap} (S : St prog Γ sc L cl ρ α σ h) (a : Addr) : VRel Γ (α ++ [a]) h' (.ref a) (.loc σ.length) :=
  .loc (by rw [List.getElem?_append_right (by rw [S.len]; exact Nat.le_refl _), S.len, Nat.sub_self]; rfl)
theorem push_keeps (h : Heap) (o : Obj) : ∀ b x, h.get? b = some x → (h.push o).get? b = some x := fun _ _ e => Heap.get?_push_of_some _ e
theorem newList_sound {Γ : Fix} {L : Addr} {cl : List (Str × Addr)} {ρ : Loc} {α : List Addr} {σ : Sto} {h : Heap} {vs : List Value} {ds : List V} (S : St prog Γ sc L cl ρ α σ h) (hv : VAll Γ α h vs ds) (hz : ds.length ≤ 1000000) :
    St prog Γ sc L cl ρ (α ++ [h.objs.size]) (σ ++ [.list ds]) (h.push { cls := .type "list", data := .seq vs.toArray }) ∧ Step L cl α (α ++ [h.objs.size]) h (h.push { cls := .type "list", data := .seq vs.toArray }) ∧
      VRel Γ (α ++ [h.objs.size]) (h.push { cls := .type "list", data := .seq vs.toArray }) (.ref h.objs.size) (.loc σ.length) :=
  let ⟨S2, T2⟩ := S.newCell (c := .list ds) (push_keeps h _) (Heap.get?_none_of_le (Nat.le_refl _)) (.list (vs := vs) ⟨0, Heap.get?_push_size _ rfl⟩ (hv.mp (S.upNew (push_keeps h _) _)) (by rw [hv.length]; exact hz))
  ⟨S2, T2, S.lastLoc _⟩
section
variable {Γ : Fix} {L : Addr} {cl : List (Str × Addr)} {ρ ρ' : Loc} {α : List Addr} {σ σ' : Sto} {A : Around} {s : Shared} {value : Expr} {lw up : Option Expr} {p : Pos} {v₁ l u : Value} {a c : V} {lo hi : Option Int} {Q : Value → Shared → Prop} {E : Value → Shared → Prop}
noncomputable abbrev sliceO (l u : Value) : Obj := { cls := .type "slice", data := .fields #[l, u, .none] }
theorem pslice_list (S : St prog Γ sc L cl ρ α σ s.heap) (hok : slOk lo hi = true) (hl : IsPart l lo) (hu : IsPart u hi) {ax : Addr} {vs : List Value} {ds : List V} (hl' : s.heap.IsList ax vs.toArray) (hv : VAll Γ α s.heap vs ds) (hz : vs.length ≤ 1000000)
    (h : ∀ v tk h' α', St prog Γ sc L cl ρ α' (σ ++ [.list (sl ds lo hi)]) h' → Step L cl α α' s.heap h' → VRel Γ α' h' v (.loc σ.length) → Q v { s with heap := h', toks := tk }) :
    wpAny (model prog Γ.w) A (subscriptTail value (.Slice lw up none p) (.ref ax) (.ref s.heap.objs.size)) Q E { s with heap := s.heap.push (sliceO l u) } := by
  have S1 := S.keeps (push_keeps s.heap (sliceO l u))
  have T1 : Step L cl α α s.heap _ := Step.keeps (push_keeps s.heap (sliceO l u))
  refine tail_any (hl'.push _).typeIs slot_list_getitem.lookup ?_ (ops := [.ref s.heap.objs.size, .ref ax]) rfl
  refine wpAny_getItem_list_slice (hl'.push _) (Heap.IsSliceOf.new ..) hl hu .none (by simp) ?_ (by rw [List.size_toArray, sizeLine_eq]; lia)
  have e2 : slicePick vs.toArray lo hi none = (sl vs lo hi).toArray := by
    rw [slicePick_plain]
    simp only [List.size_toArray]
    rw [sl_eq vs hok]
  obtain ⟨S2, T2, r2⟩ := newList_sound S1 ((S.upAll T1 hv).sl lo hi) (by rw [← ((S.upAll T1 hv).sl lo hi).length]; exact Nat.le_trans (sl_length_le _ _ _) hz)
  rw [← e2] at S2 T2 r2
  exact h _ s.toks _ _ S2 (T1.trans T2) r2
theorem pslice_sound (S : St prog Γ sc L cl ρ α σ s.heap) (e : pslice a lo hi ρ σ = some (c, ρ', σ')) (h1 : VRel Γ α s.heap v₁ a) (hl : IsPart l lo) (hu : IsPart u hi)
    (h : ∀ v tk h' α', St prog Γ sc L cl ρ' α' σ' h' → Step L cl α α' s.heap h' → VRel Γ α' h' v c → Q v { s with heap := h', toks := tk }) :
    wpAny (model prog Γ.w) A (subscriptTail value (.Slice lw up none p) v₁ (.ref s.heap.objs.size)) Q E { s with heap := s.heap.push { cls := .type "slice", data := .fields #[l, u, .none] } } := by
  unfold pslice at e
  have hok := (ite_none e).1
  replace e := (ite_none e).2
  split at e
  · rename_i b
    cases e
    obtain ⟨t, rfl, hz⟩ := h1.inv
    refine tail_any (typeIs_bytes _ _ _) FB.slot_bytes_getitem.lookup ?_ (ops := [.ref s.heap.objs.size, .bytes b.toArray t]) rfl
    refine getItem_meets (typeIs_bytes _ _ _) (by decide) FB.slot_bytes_getitem FB.entry_bytes_getitem (FB.args_bytes_getitem_2 _ _) (KBc.meets_slice2 b.toArray t _ hl hu) ⟨Heap.IsSliceOf.new .., ?_, fun t' k => ?_⟩
    · exact Nat.le_trans (KBc.size_picked_le _ lo hi) (by rw [List.size_toArray, sizeLine_eq]; exact hz)
    · have e2 : KBy.picked b.toArray lo hi = (sl b lo hi).toArray := by
        rw [KBc.picked_eq]
        simp only [List.size_toArray]
        rw [sl_eq b hok]
      rw [e2]
      exact h _ _ _ _ (S.keeps (push_keeps s.heap (sliceO l u))) (Step.keeps (push_keeps s.heap (sliceO l u))) (.bytes _ _ (Nat.le_trans (sl_length_le _ _ _) hz))
  · split at e
    · rename_i lc xs he
      cases e
      obtain ⟨ax, rfl, ha⟩ := h1.inv
      obtain ⟨vs, hl', hv, hz⟩ := S.listOf he ha
      exact pslice_list S hok hl hu hl'.isList hv hz h
    · cases e
  · have hz := (ite_none e).1
    replace e := (ite_none e).2
    cases e
    obtain ⟨ax, vs, rfl, hl', hi'⟩ := h1.inv
    exact pslice_list S hok hl hu (hl'.at fun o e => S.keep _ o e) (VAll.ints hi') (by rw [hi'.length]; exact hz) h
  · cases e
end
theorem JE_slice {value : Expr} {lw up : Option Expr} {p pos : Pos} {f : PM V} {g1 g2 : PM (Option Int)} (h1 : JE prog K n sc value f) (h2 : JP prog K n sc lw g1) (h3 : JP prog K n sc up g2) :
    JE prog K n sc (.Subscript value (.Slice lw up none p) pos) (pbind f fun a => pbind g1 fun lo => pbind g2 fun hi => pslice a lo hi) := by
  intro Γ A env ρ α σ c ρ' σ' s Q E G hf R O S hQ
  refine pbind_elim hf fun a ρ1 σ1 e1 hf1 => ?_
  refine pbind_elim hf1 fun lo ρ2 σ2 e2 hf2 => ?_
  refine pbind_elim hf2 fun hi ρ3 σ3 e3 hf3 => ?_
  refine Subscript_ (h1 Γ A env ρ α σ a ρ1 σ1 s _ E G e1 R O S fun v1 tk1 H1 α1 S1 T1 r1 => ?_)
  refine wpAny_Slice ?_
  refine h2 Γ A env ρ1 α1 σ1 lo _ _ _ _ E G e2 R O S1 fun v2 tk2 H2 α2 S2 T2 r2 => ?_
  refine h3 Γ A env ρ2 α2 σ2 hi _ _ _ _ E G e3 R O S2 fun v3 tk3 H3 α3 S3 T3 r3 => ?_
  rw [evalPart_none]
  refine wpAny_pure ?_
  exact pslice_sound (s := { s with heap := H3, toks := tk3 }) S3 hf3 (S2.up T3 (S1.up T2 r1)) r2 r3 fun v tk h' α' S' T' hv => hQ v tk h' α' S' (((T1.trans T2).trans T3).trans T') hv
theorem JA_nil {pos : Pos} : JA prog K n sc pos [] (pret []) := by
  intro Γ A env ρ α σ c ρ' σ' s Q E G hf R O S hQ
  obtain ⟨rfl, rfl, rfl⟩ := pret_some hf
  exact wpAny_items_nil (hQ _ s.toks s.heap α S (Step.refl ..) .nil)
theorem JA_cons {pos : Pos} {e : Expr} {es : List Expr} {f : PM V} {g : PM (List V)} (h1 : JE prog K n sc e f) (h2 : JA prog K n sc pos es g) (he : ∀ env, starEach (e :: es) env = (false, eval e env) :: starEach es env) :
    JA prog K n sc pos (e :: es) (pbind f fun a => pbind g fun as => pret (a :: as)) := by
  intro Γ A env ρ α σ c ρ' σ' s Q E G hf R O S hQ
  refine pbind_elim hf fun a ρ1 σ1 e1 hf1 => ?_
  refine pbind_elim hf1 fun as ρ2 σ2 e2 hf2 => ?_
  obtain ⟨rfl, rfl, rfl⟩ := pret_some hf2
  refine wpAny_items_cons (h1 Γ A env ρ α σ a ρ1 σ1 s _ E G e1 R O S fun v1 tk1 H1 α1 S1 T1 r1 => ?_) (he env)
  exact h2 Γ A env ρ1 α1 σ1 as _ _ _ _ E G e2 R O S1 fun v2 tk2 H2 α2 S2 T2 r2 => hQ _ tk2 H2 α2 S2 (T1.trans T2) (.cons (S1.up T2 r1) r2)
noncomputable def ptup (ds : List V) : PM V := fun ρ σ => if ds.length ≤ 1000000 then some (.tup ds, ρ, σ) else none
theorem newTup_sound {Γ : Fix} {L : Addr} {cl : List (Str × Addr)} {ρ : Loc} {α : List Addr} {σ : Sto} {h : Heap} {vs : List Value} {ds : List V} (S : St prog Γ sc L cl ρ α σ h) (hv : VAll Γ α h vs ds) (hz : ds.length ≤ 1000000) :
    St prog Γ sc L cl ρ α σ (h.push { cls := .type "tuple", data := .seq vs.toArray }) ∧ Step L cl α α h (h.push { cls := .type "tuple", data := .seq vs.toArray }) ∧ VRel Γ α (h.push { cls := .type "tuple", data := .seq vs.toArray }) (.ref h.objs.size) (.tup ds) := by
  have kp : ∀ b o, h.get? b = some o → (h.push { cls := .type "tuple", data := .seq vs.toArray }).get? b = some o := fun b o e => Heap.get?_push_of_some _ e
  exact ⟨S.keeps kp, Step.keeps kp, .tup ⟨_, Heap.get?_push_size _ rfl, rfl, 0, rfl⟩ (S.upAll (Step.keeps kp) hv) (by rw [hv.length]; exact hz)⟩
theorem JE_tuple {es : List Expr} {k : Nat} {pos : Pos} {g : PM (List V)} (h1 : JA prog K n sc pos es g) : JE prog K n sc (.Tuple es k pos) (pbind g ptup) := by
  intro Γ A env ρ α σ c ρ' σ' s Q E G hf R O S hQ
  refine pbind_elim hf fun as ρ1 σ1 e1 hf1 => ?_
  unfold ptup at hf1
  split at hf1
  · rename_i hz
    cases hf1
    refine wpAny_Tuple (h1 Γ A env ρ α σ as _ _ s _ E G e1 R O S fun v1 tk1 H1 α1 S1 T1 r1 => ?_)
    obtain ⟨S2, T2, r2⟩ := newTup_sound S1 r1 hz
    exact ⟨by rw [r1.length, sizeLine_eq]; lia, hQ _ tk1 _ α1 S2 (T1.trans T2) r2⟩
  · cases hf1
noncomputable def plist (ds : List V) : PM V := fun ρ σ => if ds.length ≤ 1000000 then some (.loc σ.length, ρ, σ ++ [.list ds]) else none
theorem JE_list {es : List Expr} {pos : Pos} {g : PM (List V)} (h1 : JA prog K n sc pos es g) : JE prog K n sc (.List es pos) (pbind g plist) := by
  intro Γ A env ρ α σ c ρ' σ' s Q E G hf R O S hQ
  refine pbind_elim hf fun as ρ1 σ1 e1 hf1 => ?_
  unfold plist at hf1
  split at hf1
  · rename_i hz
    cases hf1
    refine wpAny_List (h1 Γ A env ρ α σ as _ _ s _ E G e1 R O S fun v1 tk1 H1 α1 S1 T1 r1 => ?_)
    obtain ⟨S2, T2, r2⟩ := newList_sound S1 r1 hz
    exact ⟨by rw [r1.length, sizeLine_eq]; lia, hQ _ tk1 _ _ S2 (T1.trans T2) r2⟩
  · cases hf1
end
end Mine
namespace Mine
open PySem PySem.W PySem.Calls PyProof.Rows
inductive Src where
  | list (l : Nat) (xs : List V)
  | tup (ds : List V)
  | rng (lo hi : Int)
noncomputable def Src.items : Src → List V
  | .list _ xs => xs
  | .tup ds => ds
  | .rng lo hi => (List.range (hi - lo).toNat).map fun (i : Nat) => V.int (lo + (i : Int))
noncomputable def Src.ok : Src → Sto → Prop
  | .list l xs, σ => σ[l]? = some (.list xs)
  | _, _ => True
noncomputable def rngOk (lo hi : Int) : Bool := decide (lo.natAbs ≤ 100000 ∧ hi.natAbs ≤ 100000)
theorem rngOk_of {lo hi : Int} (h1 : 0 ≤ lo) (h2 : lo ≤ 100000) (h3 : 0 ≤ hi) (h4 : hi ≤ 100000) : rngOk lo hi = true := by
  unfold rngOk
  exact decide_eq_true (by lia)
noncomputable def psrc : V → Sto → Option Src
  | .tup ds, _ => some (.tup ds)
  | .loc l, σ => match σ[l]? with | some (.list xs) => some (.list l xs) | _ => none
  | .rng lo hi, _ => if rngOk lo hi = true then some (.rng lo hi) else none
  | _, _ => none
inductive ItOk (Γ : Fix) (α : List Addr) (h : Heap) (I : Addr) : Src → Nat → Prop
  | list {l : Nat} {ax : Addr} {xs : List V} {i : Nat} : α[l]? = some ax → h.IsListIter I ax i → ItOk Γ α h I (.list l xs) i
  | tup {t : Addr} {vs : List Value} {ds : List V} {i : Nat} : h.IsTupleIter I t i → h.IsTuple t vs.toArray → VAll Γ α h vs ds → ItOk Γ α h I (.tup ds) i
  | rng {lo hi : Int} {i : Nat} : IsRangeIter h I (lo + (i : Int)) (((hi - lo).toNat : Int) - (i : Int)) 1 → ItOk Γ α h I (.rng lo hi) i
structure ItObj (h : Heap) (I : Addr) : Prop where
  ex : ∃ o vs n, h.get? I = some o ∧ o.cls = .type n ∧ o.data = .fields vs ∧ (n = "list_iterator" ∨ n = "tuple_iterator" ∨ n = "range_iterator") ∧ ∀ x t, vs[1]? ≠ some (.str x t)
theorem ItOk.obj {Γ : Fix} {α : List Addr} {h : Heap} {I : Addr} {src : Src} {i : Nat} (x : ItOk Γ α h I src i) : ItObj h I := by
  cases x with
  | list _ hi => obtain ⟨o, ho, hc, hd⟩ := hi; exact ⟨o, _, _, ho, hc, hd, .inl rfl, fun x t e => by simp at e⟩
  | tup hi _ _ => obtain ⟨o, ho, hc, hd⟩ := hi; exact ⟨o, _, _, ho, hc, hd, .inr (.inl rfl), fun x t e => by simp at e⟩
  | rng hi => exact ⟨_, _, _, hi, rfl, rfl, .inr (.inr rfl), fun x t e => by simp [rawInt] at e⟩
theorem ItObj.ne_tuple {h : Heap} {I b : Addr} {items : Array Value} (x : ItObj h I) (y : h.IsTuple b items) : b ≠ I := by
  rintro rfl
  obtain ⟨o, vs, n, ho, hc, hd, _⟩ := x
  obtain ⟨o', ho', hc', n', hd'⟩ := y
  rw [ho] at ho'; cases ho'
  rw [hd] at hd'; cases hd'
theorem ItObj.ne_range {h : Heap} {I b : Addr} {lo hi : Int} {t u v : Tok} (x : ItObj h I) (y : IsRange h b lo hi 1 t u v) : b ≠ I := by
  rintro rfl
  obtain ⟨o, vs, n, ho, hc, hd, hn⟩ := x
  rw [y] at ho; cases ho
  have e : n = "range" := (Value.type.inj hc).symm
  subst e
  rcases hn with ⟨q | q | q, _⟩ <;> exact absurd q (by decide)
theorem ItObj.code {h h' : Heap} {I : Addr} (x : ItObj h I) (e : Heap.ExtBut I h h') {c : Addr} {q : Str} (y : h.CodeRec (.ref c) q) : h'.CodeRec (.ref c) q := by
  obtain ⟨c', oc, vc, t, e', hoc, hdc, hvc⟩ := y
  cases e'
  refine ⟨c, oc, vc, t, rfl, e c oc (fun z => ?_) hoc, hdc, hvc⟩
  obtain ⟨o, vs, n, ho, hc, hd, hn, hs⟩ := x
  rw [z, ho] at hoc; cases hoc
  rw [hd] at hdc; cases hdc
  exact hs _ _ hvc
section
variable {prog : Program} {Γ : Fix} {sc : Scope} {L : Addr} {cl : List (Str × Addr)} {ρ : Loc} {α α' : List Addr} {σ : Sto} {h h' : Heap}
theorem ItObj.away (S : St prog Γ sc L cl ρ α σ h) {I : Addr} (x : ItObj h I) : I ≠ L ∧ (∀ p ∈ cl, I ≠ p.2) ∧ I ∉ α := by
  obtain ⟨o, vs, n, ho, hc, hd, hn⟩ := x
  refine S.other ho (fun es n q => by rw [hd] at q; cases q) (fun v q => by rw [hd] at q; cases q) (.inr fun vs n q => by rw [hd] at q; cases q) (.inl (by rw [hc]; intro q; cases q))
theorem ItObj.up {I : Addr} (x : ItObj h I) (e : Heap.ExtBut I h h') {v : Value} {d : V} (y : VRel Γ α h v d) : VRel Γ α h' v d :=
  y.mono (fun _ _ e => e) (fun _ _ z => z.extBut e (x.ne_tuple z)) (fun a _ _ _ _ _ z => e a _ (x.ne_range z) z) fun _ _ z => x.code e z
theorem St.ext (S : St prog Γ sc L cl ρ α σ h) {I : Addr} (x : ItObj h I) (hbn : Γ.hb.get? I = none) (e : Heap.ExtBut I h h') : St prog Γ sc L cl ρ α σ h' := by
  obtain ⟨n1, n2, n3⟩ := x.away S
  have up : ∀ v d, VRel Γ α h v d → VRel Γ α h' v d := fun v d y => x.up e y
  refine ⟨fun b o q => e b o (fun z => by rw [z, hbn] at q; cases q) (S.keep b o q), S.len, fun j c q => ?_, S.nodup, S.hbL, S.Lα, ?_, fun p hp => ?_, S.own, S.apart, S.names⟩
  · obtain ⟨a, e1, y, e2⟩ := S.cell j c q
    exact ⟨a, e1, y.mp (fun o z => e a o (fun w => n3 (w ▸ List.mem_of_getElem? e1)) z) up, e2⟩
  · obtain ⟨m, hn, hs⟩ := S.fr
    refine ⟨m, hn.extBut e (Ne.symm n1), fun i d q => ?_⟩
    obtain ⟨y, k', e', s⟩ := hs i d q
    refine ⟨y, k', e', s.mp up fun c v hcl z => ?_⟩
    obtain ⟨o, ho, hd⟩ := z
    exact ⟨o, e c o (Ne.symm (n2 (y, c) (mem_of_lookup hcl))) ho, hd⟩
  · obtain ⟨h1, h2, v, o, ho, hd⟩ := S.cells p hp
    exact ⟨h1, h2, v, o, e _ o (Ne.symm (n2 p hp)) ho, hd⟩
theorem Step.ext {h₀ : Heap} (T : Step L cl α α' h₀ h) {I : Addr} (hI : h₀.get? I = none) (e : Heap.ExtBut I h h') : Step L cl α α' h₀ h' := by
  obtain ⟨a, b, c⟩ := T
  have ne : ∀ b o, h₀.get? b = some o → b ≠ I := fun b o q z => by rw [z, hI] at q; cases q
  exact ⟨a, fun x o q => let ⟨o', ho'⟩ := b x o q; ⟨o', e x o' (ne x o q) ho'⟩, fun x o q h1 h2 h3 => e x o (ne x o q) (c x o q h1 h2 h3)⟩
theorem ItOk.step (S : St prog Γ sc L cl ρ α σ h) (T : Step L cl α α' h h') {I : Addr} {src : Src} {i : Nat} (x : ItOk Γ α h I src i) : ItOk Γ α' h' I src i := by
  obtain ⟨n1, n2, n3⟩ := x.obj.away S
  have g : ∀ o, h.get? I = some o → h'.get? I = some o := fun o q => T.frame I o q n1 n2 n3
  cases x with
  | list ha hi => exact .list (T.get ha) (hi.at g)
  | tup hi ht hv => obtain ⟨o, ho, r⟩ := hi; exact .tup ⟨o, g o ho, r⟩ (S.tuple T ht) (S.upAll T hv)
  | rng hi => exact .rng (g _ hi)
end
section
variable {prog : Program} {K : Params → Frag} {n : Nat} {sc : Scope}
theorem range_fits {lo hi : Int} (hz : lo.natAbs ≤ 100000 ∧ hi.natAbs ≤ 100000) : Builtin.Range.rangeSize lo hi 1 = ((hi - lo).toNat : Int) ∧ Builtin.Range.small lo hi 1 = true := by
  have hrs : Builtin.Range.rangeSize lo hi 1 = ((hi - lo).toNat : Int) := by
    unfold Builtin.Range.rangeSize
    simp only [show ((1 : Int) > 0) = True from by simp, if_true]
    split <;> lia
  refine ⟨hrs, ?_⟩
  unfold Builtin.Range.small
  rw [hrs]
  have fit : ∀ i : Int, -(2 ^ 62) ≤ i → i < 2 ^ 62 → Builtin.Range.rangeFitsLong i = true := fun i h1 h2 => by
    unfold Builtin.Range.rangeFitsLong
    rw [Bool.and_eq_true, decide_eq_true_eq, decide_eq_true_eq]
    lia
  rw [fit lo (by lia) (by lia), fit hi (by lia) (by lia), fit 1 (by lia) (by lia), fit ((hi - lo).toNat : Int) (by lia) (by lia)]
  rw [if_pos (by lia), fit (hi + (1 - 1)) (by lia) (by lia)]
  simp
theorem iter_sound {Γ : Fix} {L : Addr} {cl : List (Str × Addr)} {ρ : Loc} {α : List Addr} {σ : Sto} {A : Around} {s : Shared} {v : Value} {a : V} {src : Src} {Q : Value → Shared → Prop} {E : Value → Shared → Prop}
    (S : St prog Γ sc L cl ρ α σ s.heap) (e : psrc a σ = some src) (hv : VRel Γ α s.heap v a)
    (h : ∀ I h', s.heap.get? I = none → (∀ b o, s.heap.get? b = some o → h'.get? b = some o) → ItOk Γ α h' I src 0 → Q (.ref I) { s with heap := h' }) : wpAny (model prog Γ.w) A (pyIter v) Q E s := by
  have hn : s.heap.get? s.heap.objs.size = none := Heap.get?_none_of_le (Nat.le_refl _)
  unfold psrc at e
  split at e
  · cases e
    obtain ⟨_, vs, rfl, ht, hv, hz⟩ := hv.inv
    exact wpAny_pyIter_tuple ht (h _ _ hn (push_keeps _ _) (.tup ⟨_, Heap.get?_push_size _ rfl, rfl, rfl⟩ (ht.push _) (S.upAll (Step.keeps (push_keeps _ _)) hv)))
  · split at e
    · rename_i xs he
      cases e
      obtain ⟨_, rfl, ha⟩ := hv.inv
      obtain ⟨vs, hl, hv, hz⟩ := S.listOf he ha
      exact wpAny_pyIter_list hl.isList (h _ _ hn (push_keeps _ _) (.list ha ⟨_, Heap.get?_push_size _ rfl, rfl, rfl⟩))
    · cases e
  · rename_i lo hi
    have hz := of_decide_eq_true (ite_some e).1
    replace e := (ite_some e).2
    subst e
    obtain ⟨_, t, u, w, rfl, hr⟩ := hv.inv
    obtain ⟨hrs, hsm⟩ := range_fits hz
    refine wpAny_pyIter_range hr hsm (h _ _ hn (push_keeps _ _) (.rng ?_))
    rw [hrs]
    simpa using Heap.get?_push_size s.heap (o := { cls := .type "range_iterator", data := .fields #[rawInt lo, rawInt ((hi - lo).toNat : Int), rawInt 1] }) rfl
  · cases e
end
end Mine
namespace Mine
open PySem PySem.W PySem.Calls PyProof.Rows
section
variable {prog : Program} {K : Params → Frag} {n : Nat} {sc : Scope}
theorem next_item {Γ : Fix} {L : Addr} {cl : List (Str × Addr)} {ρ : Loc} {α : List Addr} {σ : Sto} {A : Around} {s : Shared} {I : Addr} {src : Src} {i : Nat} {d : V} {Q : Option Value → Shared → Prop} {E : Value → Shared → Prop}
    (S : St prog Γ sc L cl ρ α σ s.heap) (X : ItOk Γ α s.heap I src i) (ok : src.ok σ) (e : src.items[i]? = some d)
    (h : ∀ v tk h', Heap.SameBut I s.heap h' → ItOk Γ α h' I src (i + 1) → VRel Γ α h' v d → Q (some v) { s with heap := h', toks := tk }) : wpAny (model prog Γ.w) A (pyNext (.ref I)) Q E s := by
  have X0 := X.obj
  cases X with
  | list ha hi =>
    cases S.cellOf ok ha with
    | list hl hv hz =>
      have hl := hl.isList
      obtain ⟨v, hx, hr⟩ := hv.get e
      exact wpAny_pyNext_list_item hi hl (by simpa using hx) fun h' hi' hs => h v s.toks h' hs (.list ha hi') (X0.up hs.extBut hr)
  | tup hi ht hv =>
    obtain ⟨v, hx, hr⟩ := hv.get e
    refine wpAny_pyNext_tuple_item hi ht (by simpa using hx) fun h' hi' hs => h v s.toks h' hs (.tup hi' (ht.extBut hs.extBut (X0.ne_tuple ht)) ?_) (X0.up hs.extBut hr)
    exact hv.mp fun _ _ y => X0.up hs.extBut y
  | rng hi =>
    rename_i lo hi'
    have hlt : i < (hi' - lo).toNat := by
      have := (List.getElem?_eq_some_iff.mp e).1
      simpa [Src.items] using this
    have hd : d = .int (lo + (i : Int)) := by
      simp only [Src.items, List.getElem?_map, List.getElem?_range hlt, Option.map_some] at e
      exact (Option.some.inj e).symm
    subst hd
    refine wpAny_pyNext_range_item hi (by lia) fun h' hi₁ hs => h _ _ h' hs (.rng ?_) (.int ..)
    have e1 : lo + ((i + 1 : Nat) : Int) = lo + (i : Int) + 1 := by push_cast; lia
    have e2 : ((hi' - lo).toNat : Int) - ((i + 1 : Nat) : Int) = ((hi' - lo).toNat : Int) - (i : Int) - 1 := by push_cast; lia
    rw [e1, e2]; exact hi₁
theorem next_end {Γ : Fix} {L : Addr} {cl : List (Str × Addr)} {ρ : Loc} {α : List Addr} {σ : Sto} {A : Around} {s : Shared} {I : Addr} {src : Src} {i : Nat} {Q : Option Value → Shared → Prop} {E : Value → Shared → Prop}
    (hh : A.handled = none) (S : St prog Γ sc L cl ρ α σ s.heap) (X : ItOk Γ α s.heap I src i) (ok : src.ok σ) (e : src.items.length ≤ i)
    (h : ∀ h', Heap.ExtBut I s.heap h' → Q none { s with heap := h' }) : wpAny (model prog Γ.w) A (pyNext (.ref I)) Q E s := by
  cases X with
  | list ha hi =>
    cases S.cellOf ok ha with
    | list hl hv hz => exact wpAny_pyNext_list_end hh hi hl.isList (by simpa [hv.length, Src.items] using e) h
  | tup hi ht hv => exact wpAny_pyNext_tuple_end hh hi ht (by simpa [hv.length, Src.items] using e) h
  | rng hi => exact wpAny_pyNext_range_end hh hi (by have e' : (_ : Nat) ≤ i := e; simp only [Src.items, List.length_map, List.length_range] at e'; lia) h
theorem letOwned {w : World} {A : Around} {s : Shared} {target : Expr} {I : Addr} {v : Value} {Q : Unit → Shared → Prop} {E : Value → Shared → Prop} (X : ItObj s.heap I) (h : Q () s) :
    wpAny (model prog w) A (letOwnedTupleGo target (.ref I) v) Q E s := by
  obtain ⟨o, vs, n, ho, hc, hd, hn⟩ := X
  have seen : wpAny (model prog w) A (letOwnedTupleGo (.Tuple [] 0 default) (.ref I) v) Q E s := by
    cases v with
    | ref a =>
      show wpAny _ _ (load I >>= _) Q E s
      refine wpAny_bind (wpAny_load ho ?_)
      rw [hc, hd]
      refine wpAny_ite_split (fun q => absurd (Bool.and_eq_true_iff.mp q).1 ?_) fun _ => wpAny_pure h
      rcases hn with ⟨r | r | r, _⟩ <;> (rw [r]; decide)
    | _ => exact wpAny_pure h
  cases target with
  | Tuple _ _ _ => exact seen
  | List _ _ => exact seen
  | _ => exact wpAny_pure h
def JS (prog : Program) (K : Params → Frag) (n : Nat) (sc : Scope) (t : Expr) (f : V → PM Unit) : Prop :=
  ∀ (Γ : Fix) (A : Around) (env : Env) (ρ : Loc) (α : List Addr) (σ : Sto) (d : V) (ρ' : Loc) (σ' : Sto) (s : Shared) (v : Value) (Q : Unit → Shared → Prop) (E : Value → Shared → Prop),
    Good prog K Γ → f d ρ σ = some ((), ρ', σ') → Room n A → EnvOk env sc → St prog Γ sc env.locals env.cells ρ α σ s.heap → VRel Γ α s.heap v d →
    (∀ tk h' α', St prog Γ sc env.locals env.cells ρ' α' σ' h' → Step env.locals env.cells α α' s.heap h' → Q () { s with heap := h', toks := tk }) →
    wpAny (model prog Γ.w) A (assign t env v) Q E s
structure JSs (prog : Program) (K : Params → Frag) (n : Nat) (sc : Scope) (ts : List Expr) (f : List V → PM Unit) : Prop where
  len : ∀ env, (assignEach ts env).length = ts.length
  star : ∀ env, (assignEach ts env).findIdx? (·.1) = none
  run : ∀ (Γ : Fix) (A : Around) (env : Env) (ρ : Loc) (α : List Addr) (σ : Sto) (ds : List V) (ρ' : Loc) (σ' : Sto) (s : Shared) (vs : List Value) (Q : Unit → Shared → Prop) (E : Value → Shared → Prop),
    Good prog K Γ → f ds ρ σ = some ((), ρ', σ') → Room n A → EnvOk env sc → St prog Γ sc env.locals env.cells ρ α σ s.heap → VAll Γ α s.heap vs ds →
    (vs.length = ts.length → ∀ tk h' α', St prog Γ sc env.locals env.cells ρ' α' σ' h' → Step env.locals env.cells α α' s.heap h' → Q () { s with heap := h', toks := tk }) →
    wpAny (model prog Γ.w) A (assignInOrder ((assignEach ts env).map (·.2)) vs) Q E s
  size : ∀ ds ρ σ r, f ds ρ σ = some r → ds.length = ts.length
noncomputable def pstore (i : Nat) (d : V) : PM Unit := fun ρ σ => some ((), ρ.set i (some d), σ)
theorem JS_name {x : Str} {pos : Pos} {i : Nat} {k : NameKind} (hx : slotOf sc.names x = some (i, k)) (hk : k = .local ∨ k = .cell) : JS prog K n sc (.Name x pos) (pstore i) := by
  intro Γ A env ρ α σ d ρ' σ' s v Q E G hf R O S hv hQ
  cases hf
  exact wpAny_assign_Name (store_sound hx hk O S hv fun tk h' S' T' => hQ tk h' α S' T')
noncomputable def psNil : List V → PM Unit
  | [] => pret ()
  | _ => fun _ _ => none
noncomputable def psCons (f : V → PM Unit) (g : List V → PM Unit) : List V → PM Unit
  | d :: ds => pbind (f d) fun _ => g ds
  | [] => fun _ _ => none
theorem JSs_nil : JSs prog K n sc [] psNil := by
  refine ⟨fun _ => rfl, fun _ => rfl, fun Γ A env ρ α σ ds ρ' σ' s vs Q E G hf R O S hv hQ => ?_, fun ds ρ σ r h => ?_⟩
  · cases hv with
    | nil => cases hf; exact wpAny_assignInOrder_none (hQ rfl s.toks s.heap α S (Step.refl ..))
    | cons _ _ => cases hf
  · cases ds with
    | nil => rfl
    | cons _ _ => cases h
theorem JSs_cons {t : Expr} {ts : List Expr} {f : V → PM Unit} {g : List V → PM Unit} (h1 : JS prog K n sc t f) (h2 : JSs prog K n sc ts g) (he : ∀ env, assignEach (t :: ts) env = (false, assign t env) :: assignEach ts env) : JSs prog K n sc (t :: ts) (psCons f g) := by
  refine ⟨fun env => by rw [he, List.length_cons, h2.len, List.length_cons], fun env => by rw [he, List.findIdx?_cons, h2.star]; rfl, fun Γ A env ρ α σ ds ρ' σ' s vs Q E G hf R O S hv hQ => ?_, fun ds ρ σ r h => ?_⟩
  · cases hv with
    | nil => cases hf
    | cons hd hr =>
      obtain ⟨⟨⟩, ρ1, σ1, e1, hf1⟩ := pbind_some hf
      rw [he, List.map_cons]
      refine wpAny_assignInOrder_more (h1 Γ A env ρ α σ _ ρ1 σ1 s _ _ E G e1 R O S hd fun tk1 H1 α1 S1 T1 => ?_)
      exact h2.run Γ A env ρ1 α1 σ1 _ _ _ _ _ _ E G hf1 R O S1 (S.upAll T1 hr) fun hl tk2 H2 α2 S2 T2 => hQ (by rw [List.length_cons, hl, List.length_cons]) tk2 H2 α2 S2 (T1.trans T2)
  · cases ds with
    | nil => cases h
    | cons d ds =>
      obtain ⟨x, ρ1, σ1⟩ := r
      refine pbind_elim h fun _ ρ2 σ2 _ e2 => ?_
      rw [List.length_cons, h2.size ds _ _ _ e2, List.length_cons]
noncomputable def psTup (f : List V → PM Unit) : V → PM Unit
  | .tup ds => f ds
  | _ => fun _ _ => none
theorem JS_tuple {ts : List Expr} {k : Nat} {pos : Pos} {f : List V → PM Unit} (h1 : JSs prog K n sc ts f) : JS prog K n sc (.Tuple ts k pos) (psTup f) := by
  intro Γ A env ρ α σ d ρ' σ' s v Q E G hf R O S hv hQ
  unfold psTup at hf
  split at hf
  · cases hv with
    | tup ht hv hz =>
      have hl := h1.size _ _ _ _ hf
      refine wpAny_assign_Tuple R.hh ht (by rw [h1.len, List.size_toArray, hv.length, hl]) (h1.star env) fun h' he => ?_
      have kp : ∀ b o, s.heap.get? b = some o → h'.get? b = some o := fun b o e => he b o (Nat.ne_of_lt (Heap.lt_size e)) e
      have S' := S.keeps kp
      have T' : Step env.locals env.cells α α s.heap h' := Step.keeps kp
      exact h1.run Γ A env ρ α σ _ _ _ { s with heap := h' } _ _ E G hf R O S' (S.upAll T' hv) fun _ tk2 H2 α2 S2 T2 => hQ tk2 H2 α2 S2 (T'.trans T2)
  · cases hf
inductive Fl where
  | next | brk | cont
  | ret (v : V)
inductive FlRel (Γ : Fix) (α : List Addr) (h : Heap) : Flow → Fl → Prop
  | next : FlRel Γ α h .next .next
  | brk : FlRel Γ α h .brk .brk
  | cont : FlRel Γ α h .cont .cont
  | ret {v : Value} {d : V} : VRel Γ α h v d → FlRel Γ α h (.ret v) (.ret d)
abbrev JX (prog : Program) (K : Params → Frag) (n : Nat) (sc : Scope) (st : Stmt) (f : PM Fl) : Prop := Tri prog K n sc (exec st) f FlRel
abbrev JXs (prog : Program) (K : Params → Frag) (n : Nat) (sc : Scope) (sts : List Stmt) (f : PM Fl) : Prop := Tri prog K n sc (execs sts) f FlRel
theorem JXs_nil : JXs prog K n sc [] (pret .next) := by
  intro Γ A env ρ α σ c ρ' σ' s Q E G hf R O S hQ
  obtain ⟨rfl, rfl, rfl⟩ := pret_some hf
  exact wpAny_execs_nil (hQ _ s.toks s.heap α S (Step.refl ..) .next)
noncomputable def pseq (f g : PM Fl) : PM Fl := pbind f fun fl => match fl with | .next => g | x => pret x
theorem JXs_cons {st : Stmt} {sts : List Stmt} {f g : PM Fl} (h1 : JX prog K n sc st f) (h2 : JXs prog K n sc sts g) : JXs prog K n sc (st :: sts) (pseq f g) := by
  intro Γ A env ρ α σ c ρ' σ' s Q E G hf R O S hQ
  refine pbind_elim hf fun fl ρ1 σ1 e1 hf1 => ?_
  refine wpAny_execs_cons (h1 Γ A env ρ α σ fl ρ1 σ1 s _ E G e1 R O S fun b tk1 H1 α1 S1 T1 r1 => ?_)
  cases r1 with
  | next => exact h2 Γ A env ρ1 α1 σ1 c _ _ _ _ E G hf1 R O S1 fun b tk2 H2 α2 S2 T2 r2 => hQ b tk2 H2 α2 S2 (T1.trans T2) r2
  | brk => obtain ⟨rfl, rfl, rfl⟩ := pret_some hf1; exact hQ _ tk1 H1 α1 S1 T1 .brk
  | cont => obtain ⟨rfl, rfl, rfl⟩ := pret_some hf1; exact hQ _ tk1 H1 α1 S1 T1 .cont
  | ret hv => obtain ⟨rfl, rfl, rfl⟩ := pret_some hf1; exact hQ _ tk1 H1 α1 S1 T1 (.ret hv)
theorem JX_return {e : Expr} {pos : Pos} {f : PM V} (h1 : JE prog K n sc e f) : JX prog K n sc (.Return (some e) pos) (pbind f fun d => pret (.ret d)) := by
  intro Γ A env ρ α σ c ρ' σ' s Q E G hf R O S hQ
  refine pbind_elim hf fun d ρ1 σ1 e1 hf1 => ?_
  obtain ⟨rfl, rfl, rfl⟩ := pret_some hf1
  exact wpAny_Return_some (h1 Γ A env ρ α σ d _ _ s _ E G e1 R O S fun b tk1 H1 α1 S1 T1 r1 => hQ _ tk1 H1 α1 S1 T1 (.ret r1))
theorem JX_break {pos : Pos} : JX prog K n sc (.Break pos) (pret .brk) := by
  intro Γ A env ρ α σ c ρ' σ' s Q E G hf R O S hQ
  obtain ⟨rfl, rfl, rfl⟩ := pret_some hf
  exact wpAny_Break (hQ _ s.toks s.heap α S (Step.refl ..) .brk)
noncomputable def pnone (d : V) : PM Fl := match d with | .none => pret .next | _ => fun _ _ => none
theorem JX_expr {e : Expr} {pos : Pos} {f : PM V} (h1 : JE prog K n sc e f) (hi : ∀ env, EnvOk env sc → interactive env = false) (hs : ∀ env, swapsWith e none pos.line env = pure false) : JX prog K n sc (.Expr e pos) (pbind f pnone) := by
  intro Γ A env ρ α σ c ρ' σ' s Q E G hf R O S hQ
  refine pbind_elim hf fun d ρ1 σ1 e1 hf1 => ?_
  unfold pnone at hf1
  split at hf1
  · obtain ⟨rfl, rfl, rfl⟩ := pret_some hf1
    refine wpAny_Expr (h1 Γ A env ρ α σ _ _ _ s _ E G e1 R O S fun b tk1 H1 α1 S1 T1 r1 => ?_) (hi env O) (hs env)
    cases r1
    exact hQ _ tk1 H1 α1 S1 T1 .next
  · cases hf1
theorem interactive_of {env : Env} (O : EnvOk env sc) : interactive env = false := by
  unfold interactive
  rw [O.k]; rfl
noncomputable def pif (b : PM Bool) (f g : PM Fl) : PM Fl := pbind b fun c => if c then f else g
theorem JX_if {t : Expr} {body orelse : List Stmt} {pos : Pos} {b : PM Bool} {f g : PM Fl} (h1 : JT prog K n sc t b) (h2 : JXs prog K n sc body f) (h3 : JXs prog K n sc orelse g) : JX prog K n sc (.If t body orelse pos) (pif b f g) := by
  intro Γ A env ρ α σ c ρ' σ' s Q E G hf R O S hQ
  refine pbind_elim hf fun x ρ1 σ1 e1 hf1 => ?_
  refine wpAny_If (h1 Γ A env ρ α σ x ρ1 σ1 s _ E G e1 R O S fun b tk1 H1 α1 S1 T1 r1 => ?_)
  subst r1
  cases b with
  | true => exact h2 Γ A env ρ1 α1 σ1 c _ _ _ _ E G hf1 R O S1 fun b tk2 H2 α2 S2 T2 r2 => hQ b tk2 H2 α2 S2 (T1.trans T2) r2
  | false => exact h3 Γ A env ρ1 α1 σ1 c _ _ _ _ E G hf1 R O S1 fun b tk2 H2 α2 S2 T2 r2 => hQ b tk2 H2 α2 S2 (T1.trans T2) r2
theorem JX_assignName {x : Str} {px pos : Pos} {e : Expr} {i : Nat} {k : NameKind} {f : PM V} (h1 : JE prog K n sc e f) (hx : slotOf sc.names x = some (i, k)) (hk : k = .local ∨ k = .cell) (hs : ∀ env, swapsWith e (some (.Name x px)) pos.line env = pure false) :
    JX prog K n sc (.Assign [.Name x px] e pos) (pbind f fun d => pbind (pstore i d) fun _ => pret .next) := by
  intro Γ A env ρ α σ c ρ' σ' s Q E G hf R O S hQ
  refine pbind_elim hf fun d ρ1 σ1 e1 hf1 => ?_
  obtain ⟨⟨⟩, ρ2, σ2, e2, hf2⟩ := pbind_some hf1
  obtain ⟨rfl, rfl, rfl⟩ := pret_some hf2
  cases e2
  refine wpAny_Assign_Name (h1 Γ A env ρ α σ d _ _ s _ E G e1 R O S fun b tk1 H1 α1 S1 T1 r1 => ?_) (hs env)
  exact store_sound (s := { s with heap := H1, toks := tk1 }) hx hk O S1 r1 fun tk h' S' T' => hQ _ tk h' α1 S' (T1.trans T') .next
theorem JX_assignTup {ts : List Expr} {k : Nat} {tp pos : Pos} {e : Expr} {f : PM V} {g : V → PM Unit} (h1 : JE prog K n sc e f) (h2 : JS prog K n sc (.Tuple ts k tp) g) (hs : ∀ env, swapsWithSole [.Tuple ts k tp] e pos.line env = pure false) (hw : ∀ env, EnvOk env sc → swappedStores [.Tuple ts k tp] e env = pure none) :
    JX prog K n sc (.Assign [.Tuple ts k tp] e pos) (pbind f fun d => pbind (g d) fun _ => pret .next) := by
  intro Γ A env ρ α σ c ρ' σ' s Q E G hf R O S hQ
  refine pbind_elim hf fun d ρ1 σ1 e1 hf1 => ?_
  obtain ⟨⟨⟩, ρ2, σ2, e2, hf2⟩ := pbind_some hf1
  obtain ⟨rfl, rfl, rfl⟩ := pret_some hf2
  refine Assign_Tuple (h1 Γ A env ρ α σ d ρ1 σ1 s _ E G e1 R O S fun b tk1 H1 α1 S1 T1 r1 => ?_) (hs env) (hw env O)
  exact h2 Γ A env ρ1 α1 σ1 d _ _ _ _ _ E G e2 R O S1 r1 fun tk h' α' S' T' => hQ _ tk h' α' S' (T1.trans T') .next
inductive Names (sc : Scope) : List Str → List Nat → Prop
  | nil : Names sc [] []
  | cons {x : Str} {i : Nat} {xs : List Str} {is : List Nat} : slotOf sc.names x = some (i, .local) → Names sc xs is → Names sc (x :: xs) (i :: is)
noncomputable def pstores : List Nat → List V → PM Unit
  | [], [] => pret ()
  | i :: is, d :: ds => pbind (pstore i d) fun _ => pstores is ds
  | _, _ => fun _ _ => none
theorem stores_sound {Γ : Fix} {A : Around} {env : Env} {E : Value → Shared → Prop} (O : EnvOk env sc) : ∀ {xs : List Str} {is : List Nat}, Names sc xs is → ∀ {ρ : Loc} {α : List Addr} {σ : Sto} {vs : List Value} {ds : List V} {ρ' : Loc} {σ' : Sto} {s : Shared} {Q : Unit → Shared → Prop},
    pstores is ds ρ σ = some ((), ρ', σ') → St prog Γ sc env.locals env.cells ρ α σ s.heap → VAll Γ α s.heap vs ds →
    (∀ tk h', St prog Γ sc env.locals env.cells ρ' α σ' h' → Step env.locals env.cells α α s.heap h' → Q () { s with heap := h', toks := tk }) →
    wpAny (model prog Γ.w) A (assignInOrder (xs.map fun n => bindName env n) vs) Q E s := by
  intro xs is N
  induction N with
  | nil =>
    intro ρ α σ vs ds ρ' σ' s Q e S hv hQ
    cases hv with
    | nil => cases e; exact wpAny_assignInOrder_none (hQ s.toks s.heap S (Step.refl ..))
    | cons _ _ => cases e
  | cons hx hr ih =>
    intro ρ α σ vs ds ρ' σ' s Q e S hv hQ
    cases hv with
    | nil => cases e
    | cons hd hl =>
      obtain ⟨⟨⟩, ρ1, σ1, e1, e2⟩ := pbind_some e
      cases e1
      refine wpAny_assignInOrder_more (wpAny_bindName (store_sound hx (.inl rfl) O S hd fun tk h' S' T' => ?_))
      exact ih (s := { s with heap := h', toks := tk }) e2 S' (S.upAll T' hl) fun tk2 h2 S2 T2 => hQ tk2 h2 S2 (T'.trans T2)
theorem VAll.reverse {Γ : Fix} {α : List Addr} {h : Heap} {vs : List Value} {ds : List V} (x : VAll Γ α h vs ds) : VAll Γ α h vs.reverse ds.reverse :=
  x.ind (M := fun vs ds => VAll Γ α h vs.reverse ds.reverse) .nil fun v d vs ds a _ ih => by rw [List.reverse_cons, List.reverse_cons]; exact ih.append (.cons a .nil)
noncomputable def psplit : V → Option (List V)
  | .tup ds => some ds
  | _ => none
theorem JX_assignSwap {ts : List Expr} {k : Nat} {tp pos : Pos} {e : Expr} {f : PM V} {xs : List Str} {is : List Nat} (h1 : JE prog K n sc e f) (hs : ∀ env, swapsWithSole [.Tuple ts k tp] e pos.line env = pure false) (hw : ∀ env, EnvOk env sc → swappedStores [.Tuple ts k tp] e env = pure (some xs))
    (hn : Names sc xs.reverse is) : JX prog K n sc (.Assign [.Tuple ts k tp] e pos) (pbind f fun d => pbind (plift (psplit d)) fun ds => pbind (pstores is ds.reverse) fun _ => if ds.length = xs.length then pret .next else fun _ _ => none) := by
  intro Γ A env ρ α σ c ρ' σ' s Q E G hf R O S hQ
  refine pbind_elim hf fun d ρ1 σ1 e1 hf1 => ?_
  refine pbind_elim hf1 fun ds ρ2 σ2 e2 hf2 => ?_
  obtain ⟨e3, rfl, rfl⟩ := plift_some e2
  obtain ⟨⟨⟩, ρ3, σ3, e4, hf3⟩ := pbind_some hf2
  split at hf3
  · rename_i hlen
    obtain ⟨rfl, rfl, rfl⟩ := pret_some hf3
    refine Assign_Tuple_swapped (h1 Γ A env ρ α σ d _ _ s _ E G e1 R O S fun b tk1 H1 α1 S1 T1 r1 => ?_) (hs env) (hw env O)
    unfold psplit at e3
    split at e3
    · cases e3
      cases r1 with
      | tup ht hv hz =>
        rename_i vs
        have e5 : xs.length = vs.toArray.size := by rw [List.size_toArray, hv.length, hlen]
        rw [e5]
        refine wpAny_unpackItems_tuple R.hh ht fun h' he => ?_
        have kp : ∀ b o, H1.get? b = some o → h'.get? b = some o := fun b o e => he b o (Nat.ne_of_lt (Heap.lt_size e)) e
        have S' := S1.keeps kp
        have T' : Step env.locals env.cells α1 α1 H1 h' := Step.keeps kp
        exact stores_sound O hn (s := { s with heap := h', toks := tk1 }) e4 S' (S1.upAll T' hv).reverse fun tk2 h2 S2 T2 => hQ _ tk2 h2 α1 S2 ((T1.trans T').trans T2) .next
    · cases e3
  · cases hf3
end
end Mine
namespace Mine
open PySem PySem.W PySem.Calls PyProof.Rows
noncomputable def pwhile (t : PM Bool) (b : PM Fl) : Nat → PM Fl
  | 0 => fun _ _ => none
  | k + 1 => pbind t fun c => if c = true then pbind b fun fl => match fl with
      | .next => pwhile t b k
      | .cont => pwhile t b k
      | .brk => pret .next
      | .ret v => pret (.ret v)
    else pret .next
open Classical in
noncomputable def pguard {β : Type} (ok : Sto → Prop) (f : PM β) : PM β := fun ρ σ => if ok σ then f ρ σ else none
noncomputable def pfor (ok : Sto → Prop) (asg : V → PM Unit) (b : PM Fl) : List V → PM Fl
  | [] => pguard ok (pret .next)
  | d :: ds => pguard ok (pbind (asg d) fun _ => pbind b fun fl => match fl with
      | .next => pfor ok asg b ds
      | .cont => pfor ok asg b ds
      | .brk => pret .next
      | .ret v => pret (.ret v))
theorem pguard_some {β : Type} {ok : Sto → Prop} {f : PM β} {ρ : Loc} {σ : Sto} {r : β × Loc × Sto} (h : pguard ok f ρ σ = some r) : ok σ ∧ f ρ σ = some r := by
  unfold pguard at h
  split at h
  · rename_i q; exact ⟨q, h⟩
  · cases h
section
variable {prog : Program} {K : Params → Frag} {n : Nat} {sc : Scope}
def WhInv (prog : Program) (Γ : Fix) (sc : Scope) (env : Env) (F : Nat → Loc → Sto → Option (Fl × Loc × Sto)) (R : Option (Fl × Loc × Sto)) (α : List Addr) (s : Shared) (k : Nat) (s' : Shared) : Prop :=
  ∃ ρ1 α1 σ1 H1 tk1, s' = { s with heap := H1, toks := tk1 } ∧ F k ρ1 σ1 = R ∧ St prog Γ sc env.locals env.cells ρ1 α1 σ1 H1 ∧ Step env.locals env.cells α α1 s.heap H1
theorem JX_while {t : Expr} {body : List Stmt} {pos : Pos} {f : PM Bool} {g : PM Fl} (W : Nat) (h1 : JT prog K n sc t f) (h2 : JXs prog K n sc body g) : JX prog K n sc (.While t body [] pos) (pwhile f g W) := by
  intro Γ A env ρ α σ c ρ' σ' s Q E G hf R O S hQ
  refine wpAny_While (codeAny_whileLoop (WhInv prog Γ sc env (pwhile f g) (some (c, ρ', σ')) α s) ?_ W ⟨ρ, α, σ, s.heap, s.toks, rfl, hf, S, Step.refl ..⟩)
  clear S hf
  rintro k s' ⟨ρ1, α1, σ1, H1, tk1, rfl, e1, S1, T1⟩
  cases k with
  | zero => cases e1
  | succ k =>
    refine pbind_elim e1 fun x ρ2 σ2 e2 e3 => ?_
    refine h1 Γ A env ρ1 α1 σ1 x ρ2 σ2 _ _ _ G e2 R O S1 fun b tk2 H2 α2 S2 T2 r2 => ?_
    subst r2
    clear e1 e2 S1
    cases b with
    | false =>
      obtain ⟨rfl, rfl, rfl⟩ := pret_some e3
      exact wpAny_execs_nil (hQ _ tk2 H2 α2 S2 (T1.trans T2) .next)
    | true =>
      refine pbind_elim e3 fun fl ρ3 σ3 e4 e5 => ?_
      refine h2 Γ A env ρ2 α2 σ2 fl ρ3 σ3 _ _ _ G e4 R O S2 fun b tk3 H3 α3 S3 T3 r3 => ?_
      replace T3 := (T1.trans T2).trans T3
      clear e3 e4 S2 T1 T2
      cases r3 with
      | next => exact ⟨k, Nat.lt_succ_self _, ρ3, α3, σ3, H3, tk3, rfl, e5, S3, T3⟩
      | cont => exact ⟨k, Nat.lt_succ_self _, ρ3, α3, σ3, H3, tk3, rfl, e5, S3, T3⟩
      | brk => obtain ⟨rfl, rfl, rfl⟩ := pret_some e5; exact hQ _ tk3 H3 α3 S3 T3 .next
      | ret hv => obtain ⟨rfl, rfl, rfl⟩ := pret_some e5; exact hQ _ tk3 H3 α3 S3 T3 (.ret hv)
def ForInv (prog : Program) (Γ : Fix) (sc : Scope) (env : Env) (F : List V → Loc → Sto → Option (Fl × Loc × Sto)) (R : Option (Fl × Loc × Sto)) (src : Src) (I : Addr) (α : List Addr) (s : Shared) (k : Nat) (s' : Shared) : Prop :=
  ∃ ρ1 α1 σ1 H1 tk1 j, s' = { s with heap := H1, toks := tk1 } ∧ k = src.items.length + 1 - j ∧ j ≤ src.items.length ∧ F (src.items.drop j) ρ1 σ1 = R ∧ ItOk Γ α1 H1 I src j ∧
      St prog Γ sc env.locals env.cells ρ1 α1 σ1 H1 ∧ Step env.locals env.cells α α1 s.heap H1
theorem Step.none {L : Addr} {cl : List (Str × Addr)} {α α' : List Addr} {h h' : Heap} (T : Step L cl α α' h h') {I : Addr} (hI : h'.get? I = none) : h.get? I = none := by
  cases q : h.get? I with
  | none => rfl
  | some o => obtain ⟨o', ho'⟩ := T.alive I o q; rw [hI] at ho'; cases ho'
theorem JX_for {t it : Expr} {body : List Stmt} {pos : Pos} {f : PM V} {asg : V → PM Unit} {g : PM Fl} (h1 : JE prog K n sc it f) (h2 : JS prog K n sc t asg) (h3 : JXs prog K n sc body g) (hs : ∀ env x, foldedSetIterable it env x = pure x) :
    JX prog K n sc (.For t it body [] pos) (pbind f fun a => pbind (psto (psrc a)) fun src => pfor src.ok asg g src.items) := by
  intro Γ A env ρ α σ c ρ' σ' s Q E G hf R O S hQ
  refine pbind_elim hf fun a ρ1 σ1 e1 hf1 => ?_
  refine pbind_elim hf1 fun src ρ2 σ2 e2 hf2 => ?_
  obtain ⟨e3, rfl, rfl⟩ := psto_some e2
  refine wpAny_For (h1 Γ A env ρ α σ a _ _ s _ E G e1 R O S fun v1 tk1 H1 α1 S1 T1 r1 => ?_) (hs env)
  refine iter_sound (s := { s with heap := H1, toks := tk1 }) S1 e3 r1 fun I H2 hI kp X => ?_
  have hbn : Γ.hb.get? I = none := (S1.dead hI).2.2.2
  have hI0 : s.heap.get? I = none := T1.none hI
  refine codeAny_forLoop_any (ForInv prog Γ sc env (pfor src.ok asg g) (some (c, ρ', σ')) src I α s) ?_ (src.items.length + 1) ⟨_, α1, _, H2, tk1, 0, rfl, rfl, Nat.zero_le _, hf2, X, S1.keeps kp, T1.trans (Step.keeps kp)⟩
  clear S1 T1 r1 X kp hf2 hI S hf hf1 e1 e2 e3
  rintro k s' ⟨ρ1, α1, σ1, H1, tk1, j, rfl, rfl, hj, e1, X, S1, T1⟩
  rcases Nat.lt_or_ge j src.items.length with hlt | hge
  · have hget : src.items[j]? = some src.items[j] := List.getElem?_eq_getElem hlt
    rw [List.drop_eq_getElem_cons hlt] at e1
    obtain ⟨ok, e2⟩ := pguard_some e1
    refine pbind_elim e2 fun u ρ2 σ2 e3 e4 => ?_
    refine pbind_elim e4 fun fl ρ3 σ3 e5 e6 => ?_
    clear e1 e2 e4
    refine next_item (s := { s with heap := H1, toks := tk1 }) S1 X ok hget fun v tk2 H2 hs2 X2 r2 => ?_
    have S2 := S1.ext X.obj hbn hs2.extBut
    have T2 := T1.ext hI0 hs2.extBut
    clear S1 T1 X hs2 hget
    refine letOwned X2.obj ?_
    refine h2 Γ A env ρ1 α1 σ1 _ ρ2 σ2 { s with heap := H2, toks := tk2 } v _ _ G e3 R O S2 r2 fun tk3 H3 α3 S3 T3 => ?_
    refine h3 Γ A env ρ2 α3 σ2 fl ρ3 σ3 _ _ _ G e5 R O S3 fun b tk4 H4 α4 S4 T4 r4 => ?_
    have X4 := (X2.step S2 T3).step S3 T4
    have T5 := (T2.trans T3).trans T4
    clear X2 S2 S3 T2 T3 T4 e3 e5 r2
    cases r4 with
    | next => exact ⟨src.items.length + 1 - (j + 1), by lia, ρ3, α4, σ3, H4, tk4, j + 1, rfl, rfl, hlt, e6, X4, S4, T5⟩
    | cont => exact ⟨src.items.length + 1 - (j + 1), by lia, ρ3, α4, σ3, H4, tk4, j + 1, rfl, rfl, hlt, e6, X4, S4, T5⟩
    | brk => obtain ⟨rfl, rfl, rfl⟩ := pret_some e6; exact hQ _ tk4 H4 α4 S4 T5 .next
    | ret hv => obtain ⟨rfl, rfl, rfl⟩ := pret_some e6; exact hQ _ tk4 H4 α4 S4 T5 (.ret hv)
  · rw [List.drop_of_length_le hge] at e1
    obtain ⟨ok, e2⟩ := pguard_some e1
    obtain ⟨rfl, rfl, rfl⟩ := pret_some e2
    refine next_end (s := { s with heap := H1, toks := tk1 }) R.hh S1 X ok hge fun H2 he => ?_
    exact wpAny_execs_nil (hQ _ tk1 H2 α1 (S1.ext X.obj hbn he) (T1.ext hI0 he) .next)
noncomputable def ptruth (d : V) : Option Bool := match d with | .bool b => some b | _ => none
theorem JT_val {e : Expr} {f : PM V} (h1 : JE prog K n sc e f) (he : ∀ env whole, isTrue e env whole = (do let v ← whole; standAt e.pos; holding [v] (truthy v))) : JT prog K n sc e (pbind f fun d => plift (ptruth d)) := by
  intro Γ A env ρ α σ c ρ' σ' s Q E G hf R O S hQ
  refine pbind_elim hf fun d ρ1 σ1 e1 hf1 => ?_
  obtain ⟨e3, rfl, rfl⟩ := plift_some hf1
  refine wpAny_isTrue_value (h1 Γ A env ρ α σ d _ _ s _ E G e1 R O S fun v tk1 H1 α1 S1 T1 r1 => ?_) (he env _)
  unfold ptruth at e3
  split at e3
  · cases e3; cases r1; exact wpAny_truthy_bool (hQ _ tk1 H1 α1 S1 T1 rfl)
  · cases e3
theorem JT_not {e : Expr} {pos : Pos} {f : PM Bool} (h1 : JT prog K n sc e f) : JT prog K n sc (.UnaryOp .Not e pos) (pbind f fun b => pret (!b)) := by
  intro Γ A env ρ α σ c ρ' σ' s Q E G hf R O S hQ
  refine pbind_elim hf fun d ρ1 σ1 e1 hf1 => ?_
  obtain ⟨rfl, rfl, rfl⟩ := pret_some hf1
  exact wpAny_isTrue_Not (h1 Γ A env ρ α σ d _ _ s _ E G e1 R O S fun v tk1 H1 α1 S1 T1 r1 => by subst r1; exact hQ _ tk1 H1 α1 S1 T1 rfl)
abbrev JB (prog : Program) (K : Params → Frag) (n : Nat) (sc : Scope) (op : BoolOp) (es : List Expr) (f : PM Bool) : Prop := Tri prog K n sc (allTrue op es) f fun _ _ _ b a => b = a
theorem JB_andNil : JB prog K n sc .And [] (pret true) := by
  intro Γ A env ρ α σ c ρ' σ' s Q E G hf R O S hQ
  obtain ⟨rfl, rfl, rfl⟩ := pret_some hf
  exact wpAny_allTrue_And_nil (hQ _ s.toks s.heap α S (Step.refl ..) rfl)
theorem JB_orNil : JB prog K n sc .Or [] (pret false) := by
  intro Γ A env ρ α σ c ρ' σ' s Q E G hf R O S hQ
  obtain ⟨rfl, rfl, rfl⟩ := pret_some hf
  exact wpAny_allTrue_Or_nil (hQ _ s.toks s.heap α S (Step.refl ..) rfl)
theorem JB_and {e : Expr} {es : List Expr} {f g : PM Bool} (h1 : JT prog K n sc e f) (h2 : JB prog K n sc .And es g) : JB prog K n sc .And (e :: es) (pbind f fun b => if b = true then g else pret false) := by
  intro Γ A env ρ α σ c ρ' σ' s Q E G hf R O S hQ
  refine pbind_elim hf fun d ρ1 σ1 e1 hf1 => ?_
  refine wpAny_allTrue_And_cons (h1 Γ A env ρ α σ d _ _ s _ E G e1 R O S fun v tk1 H1 α1 S1 T1 r1 => ?_)
  subst r1
  cases v with
  | true => exact h2 Γ A env ρ1 α1 σ1 c _ _ _ _ E G hf1 R O S1 fun b tk2 H2 α2 S2 T2 r2 => hQ b tk2 H2 α2 S2 (T1.trans T2) r2
  | false =>
    rw [if_neg (by decide)] at hf1
    obtain ⟨rfl, rfl, rfl⟩ := pret_some hf1
    exact hQ _ tk1 H1 α1 S1 T1 rfl
theorem JB_or {e : Expr} {es : List Expr} {f g : PM Bool} (h1 : JT prog K n sc e f) (h2 : JB prog K n sc .Or es g) : JB prog K n sc .Or (e :: es) (pbind f fun b => if b = true then pret true else g) := by
  intro Γ A env ρ α σ c ρ' σ' s Q E G hf R O S hQ
  refine pbind_elim hf fun d ρ1 σ1 e1 hf1 => ?_
  refine wpAny_allTrue_Or_cons (h1 Γ A env ρ α σ d _ _ s _ E G e1 R O S fun v tk1 H1 α1 S1 T1 r1 => ?_)
  subst r1
  cases v with
  | false => exact h2 Γ A env ρ1 α1 σ1 c _ _ _ _ E G hf1 R O S1 fun b tk2 H2 α2 S2 T2 r2 => hQ b tk2 H2 α2 S2 (T1.trans T2) r2
  | true =>
    rw [if_pos rfl] at hf1
    obtain ⟨rfl, rfl, rfl⟩ := pret_some hf1
    exact hQ _ tk1 H1 α1 S1 T1 rfl
theorem JT_bool {op : BoolOp} {es : List Expr} {pos : Pos} {f : PM Bool} (h : JB prog K n sc op es f) : JT prog K n sc (.BoolOp op es pos) f := by
  intro Γ A env ρ α σ c ρ' σ' s Q E G hf R O S hQ
  exact wpAny_isTrue_BoolOp (h Γ A env ρ α σ c _ _ s _ E G hf R O S hQ)
theorem JE_if {t e1 e2 : Expr} {pos : Pos} {b : PM Bool} {f g : PM V} (h1 : JT prog K n sc t b) (h2 : JE prog K n sc e1 f) (h3 : JE prog K n sc e2 g) : JE prog K n sc (.IfExp t e1 e2 pos) (pbind b fun c => if c = true then f else g) := by
  intro Γ A env ρ α σ c ρ' σ' s Q E G hf R O S hQ
  refine pbind_elim hf fun x ρ1 σ1 e1' hf1 => ?_
  refine wpAny_IfExp (h1 Γ A env ρ α σ x ρ1 σ1 s _ E G e1' R O S fun b tk1 H1 α1 S1 T1 r1 => ?_)
  subst r1
  cases b with
  | true => exact h2 Γ A env ρ1 α1 σ1 c _ _ _ _ E G hf1 R O S1 fun b tk2 H2 α2 S2 T2 r2 => hQ b tk2 H2 α2 S2 (T1.trans T2) r2
  | false => exact h3 Γ A env ρ1 α1 σ1 c _ _ _ _ E G hf1 R O S1 fun b tk2 H2 α2 S2 T2 r2 => hQ b tk2 H2 α2 S2 (T1.trans T2) r2
abbrev JC (prog : Program) (K : Params → Frag) (n : Nat) (sc : Scope) (pos : Pos) (es : List Expr) (f : PM V) : Prop := Tri prog K n sc (fun env => boolOp pos .And (evalEach es env)) f VRel
theorem JC_one {pos : Pos} {e : Expr} {f : PM V} (h1 : JE prog K n sc e f) : JC prog K n sc pos [e] f := by
  intro Γ A env ρ α σ c ρ' σ' s Q E G hf R O S hQ
  exact h1 Γ A env ρ α σ c _ _ s _ E G hf R O S hQ
theorem JC_cons {pos : Pos} {e e' : Expr} {es : List Expr} {f g : PM V} (h1 : JE prog K n sc e f) (h2 : JC prog K n sc pos (e' :: es) g) :
    JC prog K n sc pos (e :: e' :: es) (pbind f fun d => pbind (plift (ptruth d)) fun b => if b = true then g else pret d) := by
  intro Γ A env ρ α σ c ρ' σ' s Q E G hf R O S hQ
  refine pbind_elim hf fun d ρ1 σ1 e1 hf1 => ?_
  refine pbind_elim hf1 fun b ρ2 σ2 e2 hf2 => ?_
  obtain ⟨e3, rfl, rfl⟩ := plift_some e2
  show wpAny _ A (do
    let v ← eval e env
    standAt pos
    let t ← holding [v] (truthy v)
    match BoolOp.And, t with
    | .And, false | .Or, true => pure v
    | _, _ => boolOp pos .And (evalEach (e' :: es) env)) Q E s
  refine wpAny_bind (h1 Γ A env ρ α σ d _ _ s _ E G e1 R O S fun v tk1 H1 α1 S1 T1 r1 => wpAny_bind (wpAny_standAt (wpAny_bind (wpAny_holding ?_))))
  unfold ptruth at e3
  split at e3
  · cases e3
    cases r1
    refine wpAny_truthy_bool ?_
    cases b with
    | true => exact h2 Γ A env _ α1 _ c _ _ _ _ E G hf2 R O S1 fun b tk2 H2 α2 S2 T2 r2 => hQ b tk2 H2 α2 S2 (T1.trans T2) r2
    | false =>
      rw [if_neg (by decide)] at hf2
      obtain ⟨rfl, rfl, rfl⟩ := pret_some hf2
      exact wpAny_pure (hQ _ tk1 H1 α1 S1 T1 (.bool _))
  · cases e3
theorem JE_and {pos : Pos} {es : List Expr} {f : PM V} (h : JC prog K n sc pos es f) : JE prog K n sc (.BoolOp .And es pos) f := by
  intro Γ A env ρ α σ c ρ' σ' s Q E G hf R O S hQ
  exact h Γ A env ρ α σ c _ _ s _ E G hf R O S hQ
theorem JT_chain2 {l m r : Expr} {op1 op2 : CmpOp} {pos : Pos} {f g k : PM V} (h1 : JE prog K n sc l f) (h2 : JE prog K n sc m g) (h3 : JE prog K n sc r k) (hm1 : behindInMarks op1 m = false) (hm2 : behindInMarks op2 r = false) :
    JT prog K n sc (.Compare l [op1, op2] [m, r] pos) (pbind f fun a => pbind g fun b => pbind (plift (vcmp op1 a b)) fun x => if x = true then pbind k fun c => plift (vcmp op2 b c) else pret false) := by
  intro Γ A env ρ α σ c ρ' σ' s Q E G hf R O S hQ
  refine pbind_elim hf fun a ρ1 σ1 e1 hf1 => ?_
  refine pbind_elim hf1 fun b ρ2 σ2 e2 hf2 => ?_
  refine pbind_elim hf2 fun x ρ3 σ3 e3 hf3 => ?_
  obtain ⟨e4, rfl, rfl⟩ := plift_some e3
  refine isTrue_chain (h1 Γ A env ρ α σ a ρ1 σ1 s _ E G e1 R O S fun v1 tk1 H1 α1 S1 T1 r1 => ?_) hm2
  refine test_link (h2 Γ A env ρ1 α1 σ1 b _ _ _ _ E G e2 R O S1 fun v2 tk2 H2 α2 S2 T2 r2 => ?_)
  refine vcmp_sound e4 (S1.up T2 r1) r2 (wpAny_truthy_bool ?_)
  cases x with
  | false =>
    rw [if_neg (by decide)] at hf3 ⊢
    obtain ⟨rfl, rfl, rfl⟩ := pret_some hf3
    exact hQ _ tk2 H2 α2 S2 (T1.trans T2) rfl
  | true =>
    rw [if_pos rfl] at hf3 ⊢
    refine pbind_elim hf3 fun d ρ4 σ4 e5 hf4 => ?_
    obtain ⟨e6, rfl, rfl⟩ := plift_some hf4
    refine test_last (h3 Γ A env _ α2 _ d _ _ _ _ E G e5 R O S2 fun v3 tk3 H3 α3 S3 T3 r3 => ?_)
    exact vcmp_sound e6 (S2.up T3 r2) r3 (wpAny_truthy_bool (hQ _ tk3 H3 α3 S3 ((T1.trans T2).trans T3) rfl))
end
end Mine
namespace Mine
open PySem PySem.W PySem.Calls PyProof.Rows
abbrev Spec := List V → Sto → Option (V × Sto)
def CallOk (prog : Program) (K : Params → Frag) (n : Nat) (fv : Value) (spec : Spec) : Prop :=
  ∀ (Γ : Fix) (A : Around) (sc : Scope) (L : Addr) (cl : List (Str × Addr)) (ρ : Loc) (α : List Addr) (σ : Sto) (s : Shared) (vs : List Value) (ds : List V) (r : V) (σ' : Sto) (Q E : Value → Shared → Prop),
    Good prog K Γ → Room n A → St prog Γ sc L cl ρ α σ s.heap → VAll Γ α s.heap vs ds → spec ds σ = some (r, σ') →
    (∀ v tk h' α', St prog Γ sc L cl ρ α' σ' h' → Step L cl α α' s.heap h' → VRel Γ α' h' v r → Q v { s with heap := h', toks := tk }) → wpAny (model prog Γ.w) A (call fv vs) Q E s
noncomputable def pcall (spec : Spec) (ds : List V) : PM V := fun ρ σ => match spec ds σ with | none => none | some (r, σ') => some (r, ρ, σ')
theorem pcall_some {spec : Spec} {ds : List V} {ρ ρ' : Loc} {σ σ' : Sto} {r : V} (h : pcall spec ds ρ σ = some (r, ρ', σ')) : spec ds σ = some (r, σ') ∧ ρ' = ρ := by
  unfold pcall at h
  split at h
  · cases h
  · rename_i e; cases h; exact ⟨e, rfl⟩
section
variable {prog : Program} {K : Params → Frag} {n : Nat} {sc : Scope}
theorem callOk_le {m : Nat} {fv : Value} {spec : Spec} (h : CallOk prog K m fv spec) (hm : m ≤ n) : CallOk prog K n fv spec :=
  fun Γ A sc L cl ρ α σ s vs ds r σ' Q E G R => h Γ A sc L cl ρ α σ s vs ds r σ' Q E G (R.le hm)
theorem JE_callFn {x : Str} {p pos : Pos} {e : Expr} {es : List Expr} {f : Addr} {g : PM (List V)} {spec : Spec} (hf : JE prog K n sc (.Name x p) (pret (.fn f))) (hk : ∀ P, keepIn (K P) (.ref f) = true) (hc : CallOk prog K n (.ref f) spec)
    (ha : JA prog K n sc pos (e :: es) g) (he : ∀ env, starEach (e :: es) env = (false, eval e env) :: starEach es env) (hpl : ∀ env, (backTo pos (starEach es env)).any (·.1) = false) : JE prog K n sc (.Call (.Name x p) (e :: es) [] pos) (pbind g (pcall spec)) := by
  intro Γ A env ρ α σ c ρ' σ' s Q E G hf' R O S hQ
  refine pbind_elim hf' fun ds ρ1 σ1 e1 hf1 => ?_
  obtain ⟨e2, rfl⟩ := pcall_some hf1
  refine wpAny_Call_NameR (hf Γ A env ρ α σ _ ρ σ s _ E G rfl R O S fun b tk1 H1 α1 S1 T1 r1 => ?_)
  cases r1
  refine callWith_K (h₀ := Γ.hb) G.X (hk _) (ha Γ A env ρ α1 σ ds _ σ1 _ _ E G e1 R O S1 fun vs tk2 H2 α2 S2 T2 r2 => ⟨G.X.keeps S2.keep, ?_⟩) (he env) (hpl env)
  exact hc Γ A sc env.locals env.cells _ α2 σ1 _ vs ds c σ' Q E G R S2 r2 e2 fun v tk h' α' S' T' hv => hQ v tk h' α' S' ((T1.trans T2).trans T') hv
theorem callWith_plain {M : Model} {A : Around} {E : Value → Shared → Prop} {s : Shared} {env : Env} {pos : Pos} {f : Value} {first : List Value} {e : Expr} {es : List Expr} {Q : Value → Shared → Prop} (hf : keeperOf f = pure .machine)
    (h : wpAny M A (spliced (backTo pos (starEach (e :: es) env))) (fun vs s₁ => wpAny M A (call f (first ++ vs)) Q E s₁) E s)
    (he : starEach (e :: es) env = (false, eval e env) :: starEach es env) (hpl : (backTo pos (starEach es env)).any (·.1) = false) : wpAny M A (callWith pos f first (backTo pos (starEach (e :: es) env)) []) Q E s := by
  rw [he] at h ⊢
  exact callWith_of (P := fun _ => True) (by show ((false || (backTo pos (starEach es env)).any (·.1)) || false) = false; rw [hpl]; rfl) (fun h _ => ⟨.machine, .inr (.inl rfl), Looks.of_pure hf⟩) (evalArgs_plain (wpAny_mono h (fun _ _ x => ⟨trivial, x⟩) fun _ _ x => x))
theorem JE_callB {x : Str} {p pos : Pos} {e : Expr} {es : List Expr} {d : V} {fv : Value} {g : PM (List V)} {spec : Spec} (hf : JE prog K n sc (.Name x p) (pret d)) (hd : ∀ Γ α h v, VRel Γ α h v d → v = fv) (hkf : keeperOf fv = pure .machine) (hc : CallOk prog K n fv spec)
    (ha : JA prog K n sc pos (e :: es) g) (he : ∀ env, starEach (e :: es) env = (false, eval e env) :: starEach es env) (hpl : ∀ env, (backTo pos (starEach es env)).any (·.1) = false) : JE prog K n sc (.Call (.Name x p) (e :: es) [] pos) (pbind g (pcall spec)) := by
  intro Γ A env ρ α σ c ρ' σ' s Q E G hf' R O S hQ
  refine pbind_elim hf' fun ds ρ1 σ1 e1 hf1 => ?_
  obtain ⟨e2, rfl⟩ := pcall_some hf1
  refine wpAny_Call_NameR (hf Γ A env ρ α σ _ ρ σ s _ E G rfl R O S fun b tk1 H1 α1 S1 T1 r1 => ?_)
  obtain rfl := hd _ _ _ _ r1
  refine callWith_plain hkf (ha Γ A env ρ α1 σ ds _ σ1 _ _ E G e1 R O S1 fun vs tk2 H2 α2 S2 T2 r2 => ?_) (he env) (hpl env)
  exact hc Γ A sc env.locals env.cells _ α2 σ1 _ vs ds c σ' Q E G R S2 r2 e2 fun v tk h' α' S' T' hv => hQ v tk h' α' S' ((T1.trans T2).trans T') hv
noncomputable def slots (names : List (Str × NameKind)) (binds : List (Str × V)) : Loc := names.map fun p => binds.lookup p.1
end
mutual
noncomputable def V.under (n : Nat) : V → Prop
  | .loc i => i < n
  | .hands a b c => a < n ∧ b < n ∧ c < n
  | .tup ds => V.underAll n ds
  | _ => True
noncomputable def V.underAll (n : Nat) : List V → Prop
  | [] => True
  | d :: ds => V.under n d ∧ V.underAll n ds
end
noncomputable def Cell.under (n : Nat) : Cell → Prop
  | .list xs => V.underAll n xs
  | .dict es => V.underAll n (es.map (·.2))
  | .tab _ => True
theorem underAll_mem {n : Nat} : ∀ {ds : List V}, V.underAll n ds ↔ ∀ d ∈ ds, d.under n
  | [] => by simp [V.underAll]
  | d :: ds => by simp only [V.underAll, List.mem_cons, forall_eq_or_imp]; rw [underAll_mem]
section
variable {Γ : Fix} {α : List Addr} {h : Heap} {n : Nat}
theorem take_get {i : Nat} {a : Addr} (u : i < n) (e : α[i]? = some a) : (α.take n)[i]? = some a := by rw [List.getElem?_take, if_pos u]; exact e
theorem VRel.cut {v : Value} {d : V} (x : VRel Γ α h v d) : V.under n d → VRel Γ (α.take n) h v d :=
  x.gen (V.under n) (fun ds p => by simpa only [V.under, underAll_mem] using p) (fun i a p e => take_get (by simpa only [V.under] using p) e) (fun _ _ e => e) (fun _ _ _ _ _ _ e => e) (fun _ _ _ _ e => e)
    (fun _ _ _ _ _ _ _ p a b c d => by simp only [V.under] at p; exact ⟨take_get p.1 a, take_get p.2.1 b, take_get p.2.2 c, d⟩) fun _ _ e => e
theorem VAll.cut {vs : List Value} {ds : List V} (x : VAll Γ α h vs ds) (u : V.underAll n ds) : VAll Γ (α.take n) h vs ds := x.monoP (P := V.under n) (fun _ _ p y => y.cut p) (underAll_mem.mp u)
theorem KvAll.cut {vs : List (Str × Value)} {ds : List (Str × V)} (x : KvAll Γ α h vs ds) (u : V.underAll n (ds.map (·.2))) : KvAll Γ (α.take n) h vs ds := x.monoP (P := V.under n) (fun _ _ p y => y.cut p) (underAll_mem.mp u)
end
theorem CellAt.cut {prog : Program} {Γ : Fix} {α : List Addr} {h : Heap} {n : Nat} {a : Addr} {c : Cell} (x : CellAt prog Γ α h a c) (u : c.under n) : CellAt prog Γ (α.take n) h a c := by
  cases x with
  | list hl hv hz => exact .list hl (hv.cut u) hz
  | dict hd hv hz => exact .dict hd (hv.cut u) hz
  | tab ha ho ht hc => exact .tab ha ho ht fun pos cv q => let ⟨c', q1, q2⟩ := hc pos cv q; ⟨c', q1, q2.cut (by simp only [V.under])⟩
section
variable {prog : Program} {K : Params → Frag} {n : Nat}
structure Frm (Γ : Fix) (L : Addr) (cl : List (Str × Addr)) (α : List Addr) (h : Heap) : Prop where
  dummy : True
theorem St.back {Γ : Fix} {sc sc' : Scope} {L L' : Addr} {cl cl' : List (Str × Addr)} {ρ ρ' : Loc} {α α' : List Addr} {σ σ' g : Sto} {h h' : Heap} (S : St prog Γ sc L cl ρ α σ h) (S' : St prog Γ sc' L' cl' ρ' α' (σ' ++ g) h')
    (pre : ∃ β, α' = α ++ β ∧ ∀ a ∈ β, h.get? a = none) (hlen : σ.length ≤ σ'.length) (old : ∀ b o, h.get? b = some o → b ∉ α → h'.get? b = some o) (u : ∀ c ∈ σ', c.under σ'.length) :
    St prog Γ sc L cl ρ (α'.take σ'.length) σ' h' ∧ Step L cl α (α'.take σ'.length) h h' := by
  obtain ⟨β, eα, fresh⟩ := pre
  have hα' : α'.length = σ'.length + g.length := by rw [S'.len, List.length_append]
  have eT : α'.take σ'.length = α ++ β.take (σ'.length - α.length) := by rw [eα, List.take_append, List.take_of_length_le (by rw [S.len]; exact hlen)]
  have T : Step L cl α (α'.take σ'.length) h h' := by
    refine ⟨⟨β.take (σ'.length - α.length), eT, fun a ha => fresh a (List.mem_of_mem_take ha)⟩, fun b o e => ?_, fun b o e _ _ hb => old b o e hb⟩
    by_cases hb : b ∈ α
    · have hb' : b ∈ α' := by rw [eα]; exact List.mem_append_left _ hb
      obtain ⟨i, c, _, _, x, _⟩ := S'.memα hb'
      obtain ⟨o', ho', _⟩ := x.noTuple
      exact ⟨o', ho'⟩
    · exact ⟨o, old b o e hb⟩
  have up : ∀ v d, VRel Γ α h v d → VRel Γ (α'.take σ'.length) h' v d := fun v d x => S.up T x
  have notβ : ∀ b o, h.get? b = some o → b ∉ α → b ∉ α'.take σ'.length := fun b o e hb q => by
    rw [eT] at q
    rcases List.mem_append.mp q with q | q
    · exact hb q
    · rw [fresh b (List.mem_of_mem_take q)] at e; cases e
  refine ⟨⟨S'.keep, by rw [List.length_take]; lia, fun i c e => ?_, (List.take_sublist ..).nodup S'.nodup, S.hbL, ?_, ?_, fun p hp => ?_, S.own, S.apart, S.names⟩, T⟩
  · have hi := (List.getElem?_eq_some_iff.mp e).1
    obtain ⟨a, e1, x, e2⟩ := S'.cell i c (by rw [List.getElem?_append_left hi]; exact e)
    exact ⟨a, by rw [List.getElem?_take, if_pos hi]; exact e1, x.cut (u c (List.mem_of_getElem? e)), e2⟩
  · obtain ⟨m, ⟨o, es, ep, ho, hd, _⟩, _⟩ := S.fr
    exact notβ L o ho S.Lα
  · obtain ⟨m, hn, hs⟩ := S.fr
    refine ⟨m, hn.at' fun o e => old L o e S.Lα, fun i d e => ?_⟩
    obtain ⟨x, k', e', s⟩ := hs i d e
    refine ⟨x, k', e', s.mp up fun c v hcl q => ?_⟩
    obtain ⟨o, ho, hd⟩ := q
    exact ⟨o, old c o ho (S.cells (x, c) (mem_of_lookup hcl)).1, hd⟩
  · obtain ⟨h1, h2, v, o, ho, hd⟩ := S.cells p hp
    exact ⟨notβ _ o ho h1, h2, v, o, old _ o ho h1, hd⟩
end
end Mine
namespace Mine
open PySem PySem.W PySem.Calls PyProof.Rows
theorem cellsFrom_keys : ∀ (names : List (Str × NameKind)) (n : Nat) (acc : List (Str × Addr)), (cellsFrom n names acc).map (·.1) = ((names.filter fun p => p.2 == .cell).map (·.1)).reverse ++ acc.map (·.1)
  | [], _, _ => by simp [cellsFrom]
  | (x, k) :: r, n, acc => by
    unfold cellsFrom
    cases hk : k == NameKind.cell with
    | true => rw [if_pos rfl, cellsFrom_keys r]; simp [hk]
    | false => rw [if_neg (by decide), cellsFrom_keys r]; simp [hk]
theorem cellsFrom_nodup {names : List (Str × NameKind)} (h : (names.map (·.1)).Nodup) (n : Nat) : ((cellsFrom n names []).map (·.1)).Nodup := by
  rw [cellsFrom_keys]
  simp only [List.map_nil, List.append_nil]
  rw [show ∀ l : List Str, l.reverse.Nodup ↔ l.Nodup from fun l => List.pairwise_reverse.trans ⟨fun h => h.imp Ne.symm, fun h => h.imp Ne.symm⟩]
  exact (List.Sublist.map _ List.filter_sublist).nodup h
theorem lookup_of_mem {β : Type} : ∀ {l : List (Str × β)} {x : Str} {c : β}, (l.map (·.1)).Nodup → (x, c) ∈ l → l.lookup x = some c
  | (y, d) :: r, x, c, h, m => by
    rw [List.map_cons, List.nodup_cons] at h
    rcases List.mem_cons.mp m with e | m
    · cases e; simp
    · have hne : x ≠ y := fun q => h.1 (q ▸ List.mem_map.mpr ⟨(x, c), m, rfl⟩)
      rw [List.lookup_cons, beq_false_of_ne hne]
      exact lookup_of_mem h.2 m
theorem lookup_zip {Γ : Fix} {α : List Addr} {h : Heap} : ∀ {xs : List Str} {vs : List Value} {ds : List V}, VAll Γ α h vs ds → ∀ {x : Str} {d : V}, (xs.zip ds).lookup x = some d → ∃ v, (xs.zip vs).lookup x = some v ∧ VRel Γ α h v d
  | [], _, _, _, _, _, e => by simp at e
  | _ :: _, _, _, .nil, _, _, e => by simp at e
  | y :: ys, v :: vs, d' :: ds, .cons a b, x, d, e => by
    rw [List.zip_cons_cons, List.lookup_cons] at e
    rw [List.zip_cons_cons, List.lookup_cons]
    cases hx : x == y with
    | true => rw [hx] at e; cases e; exact ⟨v, rfl, a⟩
    | false => rw [hx] at e; exact lookup_zip b e
theorem bindL_skip {kindOf : Str → Option NameKind} : ∀ {l : List (Str × Value)} {m : Str → Option Value} {x : Str}, x ∉ l.map (·.1) → bindL kindOf l m x = m x
  | [], _, _, _ => rfl
  | (y, v) :: r, m, x, h => by
    rw [List.map_cons, List.mem_cons, not_or] at h
    unfold bindL
    rw [bindL_skip h.2]
    split
    · exact if_neg h.1
    · rfl
theorem bindC_skip {kindOf : Str → Option NameKind} : ∀ {l : List (Str × Value)} {m : Str → Option Value} {x : Str}, x ∉ l.map (·.1) → bindC kindOf l m x = m x
  | [], _, _, _ => rfl
  | (y, v) :: r, m, x, h => by
    rw [List.map_cons, List.mem_cons, not_or] at h
    unfold bindC
    rw [bindC_skip h.2]
    split
    · rfl
    · exact if_neg h.1
theorem bindL_at {kindOf : Str → Option NameKind} : ∀ {l : List (Str × Value)} {m : Str → Option Value} {x : Str} {v : Value}, (l.map (·.1)).Nodup → l.lookup x = some v → kindOf x = some .local → bindL kindOf l m x = some v
  | (y, u) :: r, m, x, v, hn, e, hk => by
    rw [List.map_cons, List.nodup_cons] at hn
    unfold bindL
    rw [List.lookup_cons] at e
    cases hx : x == y with
    | true =>
      rw [hx] at e; cases e
      have hxy := beq_iff_eq.mp hx
      subst hxy
      rw [bindL_skip hn.1, if_pos hk]; simp
    | false => rw [hx] at e; exact bindL_at hn.2 e hk
theorem bindC_at {kindOf : Str → Option NameKind} {l : List (Str × Value)} : ∀ {m : Str → Option Value} {x : Str} {v : Value}, (l.map (·.1)).Nodup → l.lookup x = some v → kindOf x ≠ some .local → bindC kindOf l m x = some v := by
  induction l with
  | nil => intro m x v hn e hk; cases e
  | cons p r ih =>
    obtain ⟨y, u⟩ := p
    intro m x v hn e hk
    rw [List.map_cons, List.nodup_cons] at hn
    unfold bindC
    rw [List.lookup_cons] at e
    cases hx : x == y with
    | true =>
      rw [hx] at e; cases e
      have hxy := beq_iff_eq.mp hx
      subst hxy
      rw [bindC_skip hn.1, if_neg hk]; simp
    | false => rw [hx] at e; exact ih hn.2 e hk
theorem zip_keys {β : Type} : ∀ {xs : List Str} {vs : List β}, vs.length = xs.length → (xs.zip vs).map (·.1) = xs
  | [], _, _ => by simp
  | x :: xs, [], h => by cases h
  | x :: xs, v :: vs, h => by
    rw [List.zip_cons_cons, List.map_cons, zip_keys (by simpa using h)]
section
variable {prog : Program} {K : Params → Frag} {n : Nat}
structure Base (prog : Program) (Γ : Fix) (α : List Addr) (σ : Sto) (h : Heap) : Prop where
  keep : ∀ b o, Γ.hb.get? b = some o → h.get? b = some o
  len : α.length = σ.length
  cell : ∀ (i : Nat) (c : Cell), σ[i]? = some c → ∃ a, α[i]? = some a ∧ CellAt prog Γ α h a c ∧ Γ.hb.get? a = none
  nodup : α.Nodup
theorem St.base {Γ : Fix} {sc : Scope} {L : Addr} {cl : List (Str × Addr)} {ρ : Loc} {α : List Addr} {σ : Sto} {h : Heap} (S : St prog Γ sc L cl ρ α σ h) : Base prog Γ α σ h := ⟨S.keep, S.len, S.cell, S.nodup⟩
theorem Base.dead {Γ : Fix} {α : List Addr} {σ : Sto} {h : Heap} (S : Base prog Γ α σ h) {a : Addr} (e : h.get? a = none) : a ∉ α ∧ Γ.hb.get? a = none := by
  refine ⟨fun ha => ?_, ?_⟩
  · obtain ⟨i, hi, rfl⟩ := List.mem_iff_getElem.mp ha
    obtain ⟨a', e1, x, _⟩ := S.cell i _ (List.getElem?_eq_getElem (by rw [← S.len]; exact hi))
    rw [List.getElem?_eq_getElem hi] at e1
    cases e1
    obtain ⟨o, ho, _⟩ := x.noTuple
    rw [e] at ho; cases ho
  · cases q : Γ.hb.get? a with
    | none => rfl
    | some o => rw [S.keep a o q] at e; cases e
theorem Base.enter {Γ : Fix} {α : List Addr} {σ : Sto} {s s₁ : Shared} {fd : FuncData} {f : Addr} {xs : List Str} {vs : List Value} {ds : List V} (S : Base prog Γ α σ s.heap) (hv : VAll Γ α s.heap vs ds)
    (hlen : vs.length = xs.length) (hxs : xs.Nodup) (hnames : (fd.scope.names.map (·.1)).Nodup) (hfree : ∀ p ∈ fd.scope.names, p.2 ≠ .free)
    (x : InCallC s (callEnvC fd s.heap.objs.size f).locals (bindL (callEnvC fd s.heap.objs.size f).kindOf (xs.zip vs) fun _ => none) (callEnvC fd s.heap.objs.size f).cells (bindC (callEnvC fd s.heap.objs.size f).kindOf (xs.zip vs) fun _ => none) s₁) :
    St prog Γ fd.scope (callEnvC fd s.heap.objs.size f).locals (callEnvC fd s.heap.objs.size f).cells (slots fd.scope.names (xs.zip ds)) α σ s₁.heap := by
  have hk : ∀ b o, s.heap.get? b = some o → s₁.heap.get? b = some o := x.toInCall.keep
  have up : ∀ v d, VRel Γ α s.heap v d → VRel Γ α s₁.heap v d := fun v d y => y.mono (fun _ _ e => e) (fun a its ⟨o, ho, r⟩ => ⟨o, hk a o ho, r⟩) (fun a _ _ _ _ _ e => hk a _ e) (fun _ _ e => e.keeps hk)
  have hkeys := zip_keys hlen
  have hndz : ((xs.zip vs).map (·.1)).Nodup := by rw [hkeys]; exact hxs
  have dead : ∀ c, s.heap.objs.size ≤ c → s.heap.get? c = none := fun c h => Heap.get?_none_of_le h
  have cellNodup : ((callEnvC fd s.heap.objs.size f).cells.map (·.1)).Nodup := cellsFrom_nodup hnames _
  refine ⟨fun b o e => hk b o (S.keep b o e), S.len, fun i c e => ?_, S.nodup, ?_, ?_, ⟨_, x.toInCall.ns, fun i d e => ?_⟩, fun p hp => ?_, fun y hy => ?_, x.apart, hnames⟩
  · obtain ⟨a, e1, y, e2⟩ := S.cell i c e
    exact ⟨a, e1, y.mp (fun o q => hk a o q) up, e2⟩
  · exact (S.dead (dead _ (Nat.le_refl _))).2
  · intro q
    exact (S.dead (dead _ (Nat.le_refl _))).1 q
  · unfold slots at e
    rw [List.getElem?_map] at e
    obtain ⟨⟨y, k⟩, e1, e2⟩ := Option.map_eq_some_iff.mp e
    obtain ⟨v, h1, h2⟩ := lookup_zip hv e2
    have hlk : fd.scope.names.lookup y = some k := lookup_of_mem hnames (List.mem_of_getElem? e1)
    refine ⟨y, k, e1, ⟨v, up _ _ h2, fun hl => ?_, fun hc => ?_⟩⟩
    · exact bindL_at hndz h1 (by show fd.scope.names.lookup y = _; rw [hlk, hl])
    · rcases hc with hc | hc
      · have hsome := cellsFrom_some (x := y) fd.scope.names (s.heap.objs.size + 1) [] (.inl (by rw [hlk, hc]))
        obtain ⟨c, hc'⟩ := Option.isSome_iff_exists.mp hsome
        refine ⟨c, hc', ?_⟩
        have h3 := x.cell y c hc'
        rw [bindC_at hndz h1 (by show fd.scope.names.lookup y ≠ _; rw [hlk, hc]; decide)] at h3
        exact h3
      · exact absurd hc (hfree _ (List.mem_of_getElem? e1))
  · obtain ⟨y, c⟩ := p
    have hab := x.above y c hp
    have hge : s.heap.objs.size ≤ c := Nat.le_of_lt hab
    exact ⟨(S.dead (dead _ hge)).1, Nat.ne_of_gt hab, _, x.cell y c (lookup_of_mem cellNodup hp)⟩
  · have hsome := cellsFrom_some (x := y) fd.scope.names (s.heap.objs.size + 1) [] (.inl hy)
    obtain ⟨c, hc'⟩ := Option.isSome_iff_exists.mp hsome
    exact ⟨c, hc', (S.dead (dead _ (Nat.le_of_lt (x.above y c (mem_of_lookup hc'))))).2⟩
noncomputable def retOf : Fl → V
  | .ret v => v
  | _ => .none
theorem VRel.under {Γ : Fix} {α : List Addr} {h : Heap} : ∀ {v : Value} {d : V}, VRel Γ α h v d → V.under α.length d := by
  have lt : ∀ {i : Nat} {a : Addr}, α[i]? = some a → i < α.length := fun e => (List.getElem?_eq_some_iff.mp e).1
  intro v d x
  induction x using VRel.rec (motive_2 := fun _ ds _ => V.underAll α.length ds) with
  | tup _ _ _ ih => simpa only [V.under] using ih
  | loc a => simpa only [V.under] using lt a
  | hands a b c _ => simp only [V.under]; exact ⟨lt a, lt b, lt c⟩
  | nil => simp only [V.underAll]
  | cons _ _ i1 i2 => simp only [V.underAll]; exact ⟨i1, i2⟩
  | _ => simp only [V.under]
theorem VAll.under {Γ : Fix} {α : List Addr} {h : Heap} {vs : List Value} {ds : List V} (x : VAll Γ α h vs ds) : V.underAll α.length ds := x.ind (M := fun _ ds => V.underAll α.length ds) (by simp only [V.underAll]) fun _ _ _ _ a _ ih => by simp only [V.underAll]; exact ⟨a.under, ih⟩
theorem KvAll.under {Γ : Fix} {α : List Addr} {h : Heap} {vs : List (Str × Value)} {ds : List (Str × V)} (x : KvAll Γ α h vs ds) : V.underAll α.length (ds.map (·.2)) :=
  KvAll.rec (motive := fun _ ds _ => V.underAll α.length (ds.map (fun p : Str × V => p.2))) (by simp only [List.map_nil, V.underAll]) (fun a _ ih => by simp only [List.map_cons, V.underAll]; exact ⟨a.under, ih⟩) x
theorem CellAt.under {Γ : Fix} {α : List Addr} {h : Heap} {a : Addr} {c : Cell} (x : CellAt prog Γ α h a c) : c.under α.length := by
  cases x with
  | list _ hv _ => exact hv.under
  | dict _ hv _ => exact hv.under
  | tab _ _ _ _ => trivial
mutual
theorem V.under_le {m k : Nat} (h : m ≤ k) : ∀ {d : V}, V.under m d → V.under k d
  | .loc i, u => by simp only [V.under] at u ⊢; lia
  | .hands a b c, u => by simp only [V.under] at u ⊢; lia
  | .tup ds, u => by simp only [V.under] at u ⊢; exact V.underAll_le h u
  | .none, _ | .bool _, _ | .int _, _ | .str _, _ | .bytes _, _ | .fn _, _ | .bi _, _ | .ty _, _ | .rng _ _, _ | .ilist _, _ | .code _, _ => by simp only [V.under]
theorem V.underAll_le {m k : Nat} (h : m ≤ k) : ∀ {ds : List V}, V.underAll m ds → V.underAll k ds
  | [], _ => by simp only [V.underAll]
  | _ :: _, u => by simp only [V.underAll] at u ⊢; exact ⟨V.under_le h u.1, V.underAll_le h u.2⟩
end
theorem Cell.under_le {m k : Nat} (h : m ≤ k) {c : Cell} (u : c.under m) : c.under k := by
  cases c with
  | list xs => exact V.underAll_le h u
  | dict es => exact V.underAll_le h u
  | tab _ => trivial
structure Meets' (k : Nat) (names : List (Str × NameKind)) (xs : List Str) (F : PM Fl) (spec : Spec) : Prop where
  run : ∀ ds σ r σ', spec ds σ = some (r, σ') → (∀ c ∈ σ, c.under σ.length) → V.underAll σ.length ds → ds.length = k ∧ σ.length ≤ σ'.length ∧ V.under σ'.length r ∧ (∀ c ∈ σ', c.under σ'.length) ∧
    ∃ fl ρ' g, F (slots names (xs.zip ds)) σ = some (fl, ρ', σ' ++ g) ∧ retOf fl = r
theorem callDef {f : Addr} {name qual : Str} {params : Arguments} {body : List Stmt} {scope : Scope} {dV kV doc pm cdv ct oc : Value} {an od : Option Addr} {osl : Array (Option Value)} {xs : List Str} {F : PM Fl} {spec : Spec}
    (ho : ∀ P, (K P).lookup f = some ⟨oc, od, .func (fnOf name qual params body scope dV kV doc pm an cdv ct), osl⟩) (hcd : ∀ P, codeIn (K P) cdv qual = true)
    (hbind : ∀ vs : List Value, vs.length = xs.length → bindArgs (fnOf name qual params body scope dV kV doc pm an cdv ct) ⟨vs, []⟩ = pure (xs.zip vs))
    (hbody : JXs prog K n scope body F) (hspec : Meets' xs.length scope.names xs F spec)
    (hkind : (xs.all fun y => scope.names.lookup y == some .local || scope.names.lookup y == some .cell) = true) (hxs : xs.Nodup) (hnames : (scope.names.map (·.1)).Nodup) (hfree : ∀ p ∈ scope.names, p.2 ≠ .free)
    (hco : scope.isCoroutine = false) (hgen : scope.isGenerator = false) (hk : scope.kind = .function) : CallOk prog K (n + 1) (.ref f) spec := by
  intro Γ A sc L cl ρ α σ s vs ds r σ' Q E G R S hv e hQ
  have hσu : ∀ c ∈ σ, c.under σ.length := fun c hc => by
    obtain ⟨i, hi, rfl⟩ := List.mem_iff_getElem.mp hc
    obtain ⟨a, _, y, _⟩ := S.cell i _ (List.getElem?_eq_getElem hi)
    have := y.under
    rw [S.len] at this
    exact this
  have hdu : V.underAll σ.length ds := by have := hv.under; rw [S.len] at this; exact this
  obtain ⟨hl, hσ, hru, hcu, fl, ρ', g, hF, hr⟩ := hspec.run ds σ r σ' e hσu hdu
  have hlen : vs.length = xs.length := by rw [hv.length, hl]
  have hX := G.X.keeps S.keep
  obtain ⟨p, loose, mg, mb, T, _⟩ := G.top
  refine wpAny_call (codeAny_call_cells (fd := fnOf name qual params body scope dV kV doc pm an cdv ct) R.d (hX _ _ (ho _)) rfl (T.nolimit.keeps S.keep) (codeRec_of hX (hcd _)) rfl (hbind vs hlen) rfl (fun y hy => ?_) (fun s₁ x => ?_) hco hgen hk)
  · have hy1 : y.1 ∈ xs := by rw [← zip_keys hlen]; exact List.mem_map.mpr ⟨y, hy, rfl⟩
    have := List.all_eq_true.mp hkind y.1 hy1
    rcases Bool.or_eq_true_iff.mp this with q | q
    · exact .inl (by simpa using q)
    · have q' : scope.names.lookup y.1 = some .cell := by simpa using q
      exact .inr ⟨q', cellsFrom_some _ _ _ (.inl q')⟩
  · have S1 := S.base.enter (fd := fnOf name qual params body scope dV kV doc pm an cdv ct) (f := f) hv hlen hxs hnames hfree x
    have hk1 := x.toInCall.keep
    obtain ⟨H1, tk1, rfl⟩ := x.toInCall.same
    refine hbody Γ _ _ _ _ _ fl ρ' _ _ _ _ G hF (R.deeper _) ⟨rfl, hk, rfl, rfl⟩ S1 fun b tk2 H2 α2 S2 T2 r2 => ?_
    have old : ∀ b o, s.heap.get? b = some o → b ∉ α → H2.get? b = some o := fun b o e hb => by
      have hlt := Heap.lt_size e
      refine T2.frame b o (hk1 b o e) (Nat.ne_of_lt hlt) (fun q hq z => ?_) hb
      have := x.above q.1 q.2 hq
      rw [← z] at this
      exact absurd hlt (Nat.not_lt.mpr (Nat.le_of_lt this))
    obtain ⟨β, eβ, fβ⟩ := T2.pre
    have fresh : ∀ a ∈ β, s.heap.get? a = none := fun a ha => by
      cases q : s.heap.get? a with
      | none => rfl
      | some o => have := hk1 a o q; rw [fβ a ha] at this; cases this
    obtain ⟨S3, T3⟩ := S.back S2 ⟨β, eβ, fresh⟩ hσ old hcu
    have fin : ∀ v, VRel Γ α2 H2 v r → Q v { s with heap := H2, toks := tk2 } := fun v hv => hQ v tk2 H2 _ S3 T3 (hv.cut hru)
    cases r2 with
    | ret hv => exact fin _ (hr ▸ hv)
    | next => exact fin _ (hr ▸ .none)
    | brk => exact fin _ (hr ▸ .none)
    | cont => exact fin _ (hr ▸ .none)
def TopOk (prog : Program) (K : Params → Frag) (n : Nat) (fv : Value) (spec : Spec) : Prop :=
  ∀ (Γ : Fix) (A : Around) (α : List Addr) (σ : Sto) (s : Shared) (vs : List Value) (ds : List V) (r : V) (σ' : Sto) (Q E : Value → Shared → Prop),
    Good prog K Γ → Room n A → Base prog Γ α σ s.heap → VAll Γ α s.heap vs ds → spec ds σ = some (r, σ') →
    (∀ v tk h' α' g, (∀ (i : Nat) (c : Cell), (σ' ++ g)[i]? = some c → ∃ a, α'[i]? = some a ∧ CellAt prog Γ α' h' a c ∧ Γ.hb.get? a = none) → VRel Γ α' h' v r → (∀ b o, s.heap.get? b = some o → b ∉ α → h'.get? b = some o) → Q v { s with heap := h', toks := tk }) → wpAny (model prog Γ.w) A (call fv vs) Q E s
theorem callTop {f : Addr} {name qual : Str} {params : Arguments} {body : List Stmt} {scope : Scope} {dV kV doc pm cdv ct oc : Value} {an od : Option Addr} {osl : Array (Option Value)} {xs : List Str} {F : PM Fl} {spec : Spec}
    (ho : ∀ P, (K P).lookup f = some ⟨oc, od, .func (fnOf name qual params body scope dV kV doc pm an cdv ct), osl⟩) (hcd : ∀ P, codeIn (K P) cdv qual = true)
    (hbind : ∀ vs : List Value, vs.length = xs.length → bindArgs (fnOf name qual params body scope dV kV doc pm an cdv ct) ⟨vs, []⟩ = pure (xs.zip vs))
    (hbody : JXs prog K n scope body F) (hspec : Meets' xs.length scope.names xs F spec)
    (hkind : (xs.all fun y => scope.names.lookup y == some .local || scope.names.lookup y == some .cell) = true) (hxs : xs.Nodup) (hnames : (scope.names.map (·.1)).Nodup) (hfree : ∀ p ∈ scope.names, p.2 ≠ .free)
    (hco : scope.isCoroutine = false) (hgen : scope.isGenerator = false) (hk : scope.kind = .function) : TopOk prog K (n + 1) (.ref f) spec := by
  intro Γ A α σ s vs ds r σ' Q E G R S hv e hQ
  have hσu : ∀ c ∈ σ, c.under σ.length := fun c hc => by
    obtain ⟨i, hi, rfl⟩ := List.mem_iff_getElem.mp hc
    obtain ⟨a, _, y, _⟩ := S.cell i _ (List.getElem?_eq_getElem hi)
    have := y.under
    rw [S.len] at this
    exact this
  have hdu : V.underAll σ.length ds := by have := hv.under; rw [S.len] at this; exact this
  obtain ⟨hl, hσ, hru, hcu, fl, ρ', g, hF, hr⟩ := hspec.run ds σ r σ' e hσu hdu
  have hlen : vs.length = xs.length := by rw [hv.length, hl]
  have hX := G.X.keeps S.keep
  obtain ⟨p, loose, mg, mb, T, _⟩ := G.top
  refine wpAny_call (codeAny_call_cells (fd := fnOf name qual params body scope dV kV doc pm an cdv ct) R.d (hX _ _ (ho _)) rfl (T.nolimit.keeps S.keep) (codeRec_of hX (hcd _)) rfl (hbind vs hlen) rfl (fun y hy => ?_) (fun s₁ x => ?_) hco hgen hk)
  · have hy1 : y.1 ∈ xs := by rw [← zip_keys hlen]; exact List.mem_map.mpr ⟨y, hy, rfl⟩
    have := List.all_eq_true.mp hkind y.1 hy1
    rcases Bool.or_eq_true_iff.mp this with q | q
    · exact .inl (by simpa using q)
    · have q' : scope.names.lookup y.1 = some .cell := by simpa using q
      exact .inr ⟨q', cellsFrom_some _ _ _ (.inl q')⟩
  · have S1 := S.enter (fd := fnOf name qual params body scope dV kV doc pm an cdv ct) (f := f) hv hlen hxs hnames hfree x
    have hk1 := x.toInCall.keep
    obtain ⟨H1, tk1, rfl⟩ := x.toInCall.same
    refine hbody Γ _ _ _ _ _ fl ρ' _ _ _ _ G hF (R.deeper _) ⟨rfl, hk, rfl, rfl⟩ S1 fun b tk2 H2 α2 S2 T2 r2 => ?_
    have old : ∀ b o, s.heap.get? b = some o → b ∉ α → H2.get? b = some o := fun b o e hb => by
      have hlt := Heap.lt_size e
      refine T2.frame b o (hk1 b o e) (Nat.ne_of_lt hlt) (fun q hq z => ?_) hb
      have := x.above q.1 q.2 hq
      rw [← z] at this
      exact absurd hlt (Nat.not_lt.mpr (Nat.le_of_lt this))
    have fin : ∀ v, VRel Γ α2 H2 v r → Q v { s with heap := H2, toks := tk2 } := fun v hv => hQ v tk2 H2 α2 g S2.cell hv old
    cases r2 with
    | ret hv => exact fin _ (hr ▸ hv)
    | next => exact fin _ (hr ▸ .none)
    | brk => exact fin _ (hr ▸ .none)
    | cont => exact fin _ (hr ▸ .none)
end
end Mine
namespace Mine
open PySem PySem.W PySem.Calls PyProof.Rows
noncomputable def intsOf : List V → Option (List Int)
  | [] => some []
  | d :: r => vI d fun a => (intsOf r).map (a :: ·)
theorem intsOf_cons {d : V} {ds : List V} {ns : List Int} (h : intsOf (d :: ds) = some ns) : ∃ n ns', d = .int n ∧ intsOf ds = some ns' ∧ ns = n :: ns' := by
  obtain ⟨n, rfl, h⟩ := vI_some h
  obtain ⟨r, e1, e2⟩ := Option.map_eq_some_iff.mp h
  exact ⟨n, r, rfl, e1, e2.symm⟩
theorem intsOf_sound {Γ : Fix} {α : List Addr} {h : Heap} {vs : List Value} {ds : List V} (x : VAll Γ α h vs ds) : ∀ {ns : List Int}, intsOf ds = some ns → IntsAre vs ns :=
  x.ind (M := fun vs ds => ∀ {ns : List Int}, intsOf ds = some ns → IntsAre vs ns) (fun e => by cases e; exact .nil) fun _ _ _ _ a _ ih _ e => by
    obtain ⟨n, ns', rfl, e1, rfl⟩ := intsOf_cons e
    obtain ⟨t, rfl⟩ := a.inv
    exact .cons _ _ (ih e1)
theorem intsOf_map (ns : List Int) : intsOf (ns.map V.int) = some ns := by
  induction ns with
  | nil => rfl
  | cons a r ih => rw [List.map_cons]; unfold intsOf; rw [ih]; rfl
theorem VAll.one {Γ : Fix} {α : List Addr} {h : Heap} {vs : List Value} {d : V} (x : VAll Γ α h vs [d]) : ∃ v, vs = [v] ∧ VRel Γ α h v d :=
  let ⟨v, _, e, a, b⟩ := x.inv; ⟨v, by rw [e, b.inv0], a⟩
theorem VAll.two {Γ : Fix} {α : List Addr} {h : Heap} {vs : List Value} {d e : V} (x : VAll Γ α h vs [d, e]) : ∃ v u, vs = [v, u] ∧ VRel Γ α h v d ∧ VRel Γ α h u e :=
  let ⟨v, _, e, a, b⟩ := x.inv; let ⟨u, e2, c⟩ := b.one; ⟨v, u, by rw [e, e2], a, c⟩
noncomputable def sLen : Spec := fun ds σ => a1 ds fun a => match a with
  | .bytes b => some (.int b.length, σ)
  | .loc l => sL σ l fun xs => some (.int xs.length, σ)
  | _ => none
noncomputable def sRange : Spec := fun ds σ => hd ds fun a r => vI a fun a => match r with
  | [] => some (.rng 0 a, σ)
  | b :: r => nl r (vI b fun b => some (.rng a b, σ))
noncomputable def sAbs : Spec := fun ds σ => a1 ds fun a => vI a fun a => some (.int (if a < 0 then -a else a), σ)
noncomputable def sInt : Spec := fun ds σ => a1 ds fun a => match a with
  | .int a => some (.int a, σ)
  | .bool b => some (.int (if b then 1 else 0), σ)
  | _ => none
noncomputable def sMin : Spec := fun ds σ => a2 ds fun a b => vI a fun a => vI b fun b => some (.int (if b < a then b else a), σ)
noncomputable def sSum : Spec := fun ds σ => a1 ds fun a => vL a fun l => sL σ l fun xs => vo (intsOf xs) fun ns => some (.int ns.sum, σ)
noncomputable def sBytes : Spec := fun ds σ => a1 ds fun a => vL a fun l => sL σ l fun xs => vo (intsOf xs) fun ns => if ns.all (fun n => decide (0 ≤ n) && decide (n < 256)) = true then some (.bytes (ns.map fun n => n.toNat.toUInt8), σ) else none
noncomputable def sTuple : Spec := fun ds σ => a1 ds fun a => vL a fun l => sL σ l fun xs => some (.tup xs, σ)
section
variable {prog : Program} {K : Params → Frag} {n : Nat}
theorem cLen : CallOk prog K n (.builtin "len") sLen := by
  intro Γ A sc L cl ρ α σ s vs ds r σ' Q E G R S hv e hQ
  obtain ⟨d, rfl, e2⟩ := a1_some e
  obtain ⟨v, rfl, hv1⟩ := hv.one
  clear e
  revert e2
  intro e
  split at e
  · cases e
    obtain ⟨t, rfl, hz⟩ := hv1.inv
    exact len_bytes (by rw [List.size_toArray]; lia) (by rw [List.size_toArray]; exact hQ _ _ s.heap α S (Step.refl ..) (.int ..))
  · obtain ⟨xs, he, e⟩ := sL_some e
    cases e
    obtain ⟨_, rfl, ha⟩ := hv1.inv
    obtain ⟨us, hl, hv, hz⟩ := S.listOf he ha
    refine len_list hl.isList (by rw [List.size_toArray]; lia) ?_
    rw [List.size_toArray]
    exact hQ (.int (us.length : Int) (s.toks + 1)) (s.toks + 1 + 1) s.heap α S (Step.refl ..) (by rw [hv.length]; exact .int ..)
  · cases e
theorem cRange : CallOk prog K n (.type "range") sRange := by
  intro Γ A sc L cl ρ α σ s vs ds r σ' Q E G R S hv e hQ
  obtain ⟨d, ds, rfl, e⟩ := hd_some e
  obtain ⟨a, rfl, e2⟩ := vI_some e
  obtain ⟨v, vs, rfl, hv1, hv2⟩ := hv.inv
  obtain ⟨t, rfl⟩ := hv1.inv
  clear e
  revert e2
  intro e
  split at e
  · cases e
    rw [hv2.inv0]
    exact call_range_1 (hQ _ _ _ α (S.keeps (push_keeps _ _)) (Step.keeps (push_keeps _ _)) (.rng (IsRange.new ..)))
  · obtain ⟨rfl, e⟩ := nl_some e
    obtain ⟨b, rfl, e⟩ := vI_some e
    cases e
    obtain ⟨u, rfl, hu⟩ := hv2.one
    obtain ⟨t', rfl⟩ := hu.inv
    exact call_range_2 (hQ _ _ _ α (S.keeps (push_keeps _ _)) (Step.keeps (push_keeps _ _)) (.rng (IsRange.new ..)))
theorem cAbs : CallOk prog K n (.builtin "abs") sAbs := by
  intro Γ A sc L cl ρ α σ s vs ds r σ' Q E G R S hv e hQ
  obtain ⟨d, rfl, e⟩ := a1_some e
  obtain ⟨a, rfl, e⟩ := vI_some e
  cases e
  obtain ⟨v, rfl, hv1⟩ := hv.one
  obtain ⟨t, rfl⟩ := hv1.inv
  exact call_abs_int fun u tk => hQ _ _ s.heap α S (Step.refl ..) (.int ..)
theorem cInt : CallOk prog K n (.type "int") sInt := by
  intro Γ A sc L cl ρ α σ s vs ds r σ' Q E G R S hv e hQ
  obtain ⟨d, rfl, e2⟩ := a1_some e
  obtain ⟨v, rfl, hv1⟩ := hv.one
  clear e
  revert e2
  intro e
  split at e
  · cases e
    obtain ⟨t, rfl⟩ := hv1.inv
    exact call_int_int (hQ _ s.toks s.heap α S (Step.refl ..) (.int ..))
  · cases e
    obtain rfl := hv1.inv
    exact call_int_bool (hQ _ _ s.heap α S (Step.refl ..) (.int ..))
  · cases e
theorem cMin : CallOk prog K n (.builtin "min") sMin := by
  intro Γ A sc L cl ρ α σ s vs ds r σ' Q E G R S hv e hQ
  obtain ⟨d, d2, rfl, e⟩ := a2_some e
  obtain ⟨a, rfl, e⟩ := vI_some e
  obtain ⟨b, rfl, e⟩ := vI_some e
  cases e
  obtain ⟨v, u, rfl, hv1, hu⟩ := hv.two
  obtain ⟨t, rfl⟩ := hv1.inv
  obtain ⟨t2, rfl⟩ := hu.inv
  refine min_two_ints R.hh fun h' tk k => hQ _ _ h' α (S.keeps k) (Step.keeps k) ?_
  split
  · exact .int ..
  · exact .int ..
theorem cSum : CallOk prog K n (.builtin "sum") sSum := by
  intro Γ A sc L cl ρ α σ s vs ds r σ' Q E G R S hv e hQ
  obtain ⟨d, rfl, e⟩ := a1_some e
  obtain ⟨l, rfl, e⟩ := vL_some e
  obtain ⟨ds, he, e⟩ := sL_some e
  obtain ⟨ns, hn, e⟩ := vo_some e
  cases e
  obtain ⟨v, rfl, hv1⟩ := hv.one
  obtain ⟨_, rfl, ha⟩ := hv1.inv
  obtain ⟨us, hl, hv, hz⟩ := S.listOf he ha
  have hl := hl.isList
  have hi := intsOf_sound hv hn
  obtain ⟨xs, hx⟩ := hi.allInts.items
  rw [hx] at hl
  refine sum_intListG R.hh hl fun h' tk t' k => ?_
  have e1 : preSum (numAt xs) xs.size = ns.sum := by
    rw [preSum_eq, List.take_of_length_le (by simp), ← nums_intItems, ← hx]
    show (PySem.numsOf _).sum = _
    rw [hi.numsOf]
  rw [e1]
  exact hQ _ _ h' α (S.keeps k) (Step.keeps k) (.int ..)
theorem cBytes : CallOk prog K n (.type "bytes") sBytes := by
  intro Γ A sc L cl ρ α σ s vs ds r σ' Q E G R S hv e hQ
  obtain ⟨d, rfl, e⟩ := a1_some e
  obtain ⟨l, rfl, e⟩ := vL_some e
  obtain ⟨ds, he, e⟩ := sL_some e
  obtain ⟨ns, hn, e⟩ := vo_some e
  obtain ⟨hr, e⟩ := ite_some e
  cases e
  obtain ⟨v, rfl, hv1⟩ := hv.one
  obtain ⟨_, rfl, ha⟩ := hv1.inv
  obtain ⟨us, hl, hv, hz⟩ := S.listOf he ha
  have hi := intsOf_sound hv hn
  refine call_bytes_ints hl.isList hi (fun n hn => by simpa using List.all_eq_true.mp hr n hn) (by rw [sizeLine_eq]; lia) R.hh fun h' t k kp => ?_
  exact hQ _ _ h' α (S.keeps kp) (Step.keeps kp) (.bytes _ _ (by rw [List.length_map, ← hi.length]; lia))
theorem cTuple : CallOk prog K n (.type "tuple") sTuple := by
  intro Γ A sc L cl ρ α σ s vs ds r σ' Q E G R S hv e hQ
  obtain ⟨d, rfl, e⟩ := a1_some e
  obtain ⟨l, rfl, e⟩ := vL_some e
  obtain ⟨ds, he, e⟩ := sL_some e
  cases e
  obtain ⟨v, rfl, hv1⟩ := hv.one
  obtain ⟨_, rfl, ha⟩ := hv1.inv
  obtain ⟨us, hl, hv, hz⟩ := S.listOf he ha
  refine call_tuple_list hl.isList (fun h' k => ?_) (by rw [List.size_toArray, sizeLine_eq]; lia)
  obtain ⟨S2, T2, r2⟩ := newTup_sound (S.keeps k) (S.upAll (Step.keeps (L := L) (cl := cl) k) hv) (by rw [← hv.length]; exact hz)
  exact hQ _ s.toks _ α S2 ((Step.keeps k).trans T2) r2
theorem keeper_builtin (x : String) : keeperOf (.builtin x) = pure .machine := rfl
theorem keeper_type (x : String) : keeperOf (.type x) = pure .machine := rfl
end
end Mine
namespace Mine
open PySem PySem.W PySem.Calls PyProof.Rows
inductive At : List (Str × NameKind) → Str → Nat → NameKind → Prop
  | here {x : Str} {k : NameKind} {r : List (Str × NameKind)} : At ((x, k) :: r) x 0 k
  | there {x : Str} {k : NameKind} {p : Str × NameKind} {i : Nat} {r : List (Str × NameKind)} : At r x i k → At (p :: r) x (i + 1) k
theorem At.mem {names : List (Str × NameKind)} {x : Str} {i : Nat} {k : NameKind} (h : At names x i k) : x ∈ names.map (·.1) := by
  induction h with
  | here => simp
  | there _ ih => simp only [List.map_cons, List.mem_cons]; exact .inr ih
theorem At.slot {names : List (Str × NameKind)} {x : Str} {i : Nat} {k : NameKind} (h : At names x i k) (hn : (names.map (·.1)).Nodup) : slotOf names x = some (i, k) := by
  induction h with
  | here => unfold slotOf; simp
  | @there x k p i r h ih =>
    obtain ⟨y, k'⟩ := p
    rw [List.map_cons, List.nodup_cons] at hn
    have hne : x ≠ y := fun q => hn.1 (q ▸ h.mem)
    unfold slotOf
    rw [if_neg (by simpa using hne), ih hn.2]; rfl
noncomputable def big : Nat := 100000000
section
variable {prog : Program} {K : Params → Frag} {n : Nat} {sc : Scope}
theorem tri_names {β δ : Type} {t : Env → Sem β} {f : PM δ} {rel : Fix → List Addr → Heap → β → δ → Prop} (h : (sc.names.map (·.1)).Nodup → Tri prog K n sc t f rel) : Tri prog K n sc t f rel :=
  fun Γ A env ρ α σ a ρ' σ' s Q E G hf R O S hQ => h S.names Γ A env ρ α σ a ρ' σ' s Q E G hf R O S hQ
theorem W_local {x : Str} {pos : Pos} {i : Nat} (hx : At sc.names x i .local) (hd : (x == ("__debug__" : Str)) = false) (hn : (x == ("__classdict__" : Str)) = false) : JE prog K n sc (.Name x pos) (pvar i) :=
  tri_names fun N => JE_var (hx.slot N) (.inl rfl) hd hn
theorem W_cell {x : Str} {pos : Pos} {i : Nat} (hx : At sc.names x i .cell) (hd : (x == ("__debug__" : Str)) = false) (hn : (x == ("__classdict__" : Str)) = false) : JE prog K n sc (.Name x pos) (pvar i) :=
  tri_names fun N => JE_var (hx.slot N) (.inr (.inl rfl)) hd hn
theorem W_free {x : Str} {pos : Pos} {i : Nat} (hx : At sc.names x i .free) (hd : (x == ("__debug__" : Str)) = false) (hn : (x == ("__classdict__" : Str)) = false) : JE prog K n sc (.Name x pos) (pvar i) :=
  tri_names fun N => JE_var (hx.slot N) (.inr (.inr rfl)) hd hn
theorem W_store {x : Str} {px pos : Pos} {e : Expr} {i : Nat} {f : PM V} (h1 : JE prog K n sc e f) (hx : At sc.names x i .local) (hs : ∀ env, swapsWith e (some (.Name x px)) pos.line env = pure false) :
    JX prog K n sc (.Assign [.Name x px] e pos) (pbind f fun d => pbind (pstore i d) fun _ => pret .next) := tri_names fun N => JX_assignName h1 (hx.slot N) (.inl rfl) hs
theorem W_storeC {x : Str} {px pos : Pos} {e : Expr} {i : Nat} {f : PM V} (h1 : JE prog K n sc e f) (hx : At sc.names x i .cell) (hs : ∀ env, swapsWith e (some (.Name x px)) pos.line env = pure false) :
    JX prog K n sc (.Assign [.Name x px] e pos) (pbind f fun d => pbind (pstore i d) fun _ => pret .next) := tri_names fun N => JX_assignName h1 (hx.slot N) (.inr rfl) hs
theorem W_call {x : Str} {p pos : Pos} {e : Expr} {es : List Expr} {i : Nat} {f : Addr} {g : PM (List V)} {spec : Spec} (hx : At sc.names x i .globalImplicit) (hg : ∀ P, nsIn (K P) mainGlobals x = some (some (.ref f))) (hd : (x == ("__debug__" : Str)) = false)
    (hk : ∀ P, keepIn (K P) (.ref f) = true) (hc : CallOk prog K n (.ref f) spec) (ha : JA prog K n sc pos (e :: es) g)
    (he : ∀ env, starEach (e :: es) env = (false, eval e env) :: starEach es env) (hpl : ∀ env, (backTo pos (starEach es env)).any (·.1) = false) : JE prog K n sc (.Call (.Name x p) (e :: es) [] pos) (pbind g (pcall spec)) :=
  tri_names fun N => JE_callFn (JE_fn (slotOf_get (hx.slot N)).2 hg hd) hk hc ha he hpl
theorem W_callB {x : Str} {p pos : Pos} {e : Expr} {es : List Expr} {i : Nat} {y : String} {g : PM (List V)} {spec : Spec} (hx : At sc.names x i .globalImplicit) (hg : ∀ P, nsIn (K P) mainGlobals x = some none)
    (hb : bootBuiltins x = some (.builtin y)) (hn : x ≠ "__name__") (hd : (x == ("__debug__" : Str)) = false) (hc : CallOk prog K n (.builtin y) spec) (ha : JA prog K n sc pos (e :: es) g)
    (he : ∀ env, starEach (e :: es) env = (false, eval e env) :: starEach es env) (hpl : ∀ env, (backTo pos (starEach es env)).any (·.1) = false) : JE prog K n sc (.Call (.Name x p) (e :: es) [] pos) (pbind g (pcall spec)) :=
  tri_names fun N => JE_callB (JE_blt (slotOf_get (hx.slot N)).2 hg hb (fun _ _ _ => .bi y) hn hd) (fun _ _ _ _ r => by cases r; rfl) (keeper_builtin y) hc ha he hpl
theorem W_callT {x : Str} {p pos : Pos} {e : Expr} {es : List Expr} {i : Nat} {y : String} {g : PM (List V)} {spec : Spec} (hx : At sc.names x i .globalImplicit) (hg : ∀ P, nsIn (K P) mainGlobals x = some none)
    (hb : bootBuiltins x = some (.type y)) (hn : x ≠ "__name__") (hd : (x == ("__debug__" : Str)) = false) (hc : CallOk prog K n (.type y) spec) (ha : JA prog K n sc pos (e :: es) g)
    (he : ∀ env, starEach (e :: es) env = (false, eval e env) :: starEach es env) (hpl : ∀ env, (backTo pos (starEach es env)).any (·.1) = false) : JE prog K n sc (.Call (.Name x p) (e :: es) [] pos) (pbind g (pcall spec)) :=
  tri_names fun N => JE_callB (JE_blt (slotOf_get (hx.slot N)).2 hg hb (fun _ _ _ => .ty y) hn hd) (fun _ _ _ _ r => by cases r; rfl) (keeper_type y) hc ha he hpl
noncomputable def pfail {β : Type} : PM β := fun _ _ => none
theorem JX_fail {st : Stmt} : JX prog K n sc st pfail := by
  intro Γ A env ρ α σ a ρ' σ' s Q E G hf R O S hQ
  cases hf
theorem JS_local {x : Str} {pos : Pos} {i : Nat} (hx : At sc.names x i .local) : JS prog K n sc (.Name x pos) (pstore i) := by
  intro Γ A env ρ α σ d ρ' σ' s v Q E G hf R O S hv hQ
  exact JS_name (hx.slot S.names) (.inl rfl) Γ A env ρ α σ d ρ' σ' s v Q E G hf R O S hv hQ
theorem JS_cell {x : Str} {pos : Pos} {i : Nat} (hx : At sc.names x i .cell) : JS prog K n sc (.Name x pos) (pstore i) := by
  intro Γ A env ρ α σ d ρ' σ' s v Q E G hf R O S hv hQ
  exact JS_name (hx.slot S.names) (.inr rfl) Γ A env ρ α σ d ρ' σ' s v Q E G hf R O S hv hQ
theorem slots_args {names : List (Str × NameKind)} {xs : List Str} (h : (names.map (·.1)).take xs.length = xs) (hn : (names.map (·.1)).Nodup) (ds : List V) (hl : ds.length = xs.length) :
    slots names (xs.zip ds) = ds.map some ++ List.replicate (names.length - xs.length) none := by
  induction names generalizing xs ds with
  | nil =>
    cases xs with
    | nil => cases ds with
      | nil => rfl
      | cons _ _ => cases hl
    | cons _ _ => cases h
  | cons p r ih =>
    obtain ⟨y, k⟩ := p
    cases xs with
    | nil =>
      cases ds with
      | cons _ _ => cases hl
      | nil =>
        unfold slots
        simp only [List.zip_nil_left, List.lookup_nil, List.map_nil, List.nil_append, List.length_nil, Nat.sub_zero]
        exact List.map_const' ..
    | cons x xs =>
      cases ds with
      | nil => cases hl
      | cons d ds =>
        rw [List.map_cons, List.length_cons, List.take_succ_cons, List.cons.injEq] at h
        obtain ⟨h1, h2⟩ := h
        dsimp only at h1
        subst h1
        rw [List.map_cons, List.nodup_cons] at hn
        have e := ih h2 hn.2 ds (by simpa using hl)
        have e2 : slots r ((y :: xs).zip (d :: ds)) = slots r (xs.zip ds) := by
          unfold slots
          refine List.map_congr_left fun q hq => ?_
          have hne : q.1 ≠ y := fun z => hn.1 (List.mem_map.mpr ⟨q, hq, z⟩)
          rw [List.zip_cons_cons, List.lookup_cons, beq_false_of_ne hne]
        show (((y :: xs).zip (d :: ds)).lookup y) :: slots r ((y :: xs).zip (d :: ds)) = _
        rw [e2, e, List.zip_cons_cons, List.lookup_cons, beq_self_eq_true]
        simp
structure Meets (k m : Nat) (F : PM Fl) (spec : Spec) : Prop where
  run : ∀ ds σ r σ', spec ds σ = some (r, σ') → (∀ c ∈ σ, c.under σ.length) → V.underAll σ.length ds → ds.length = k ∧ σ.length ≤ σ'.length ∧ V.under σ'.length r ∧ (∀ c ∈ σ', c.under σ'.length) ∧
    ∃ fl ρ' g, F (ds.map some ++ List.replicate m none) σ = some (fl, ρ', σ' ++ g) ∧ retOf fl = r
theorem defOk {f : Addr} {name qual : Str} {params : Arguments} {body : List Stmt} {scope : Scope} {dV kV doc pm cdv ct oc : Value} {an od : Option Addr} {osl : Array (Option Value)} (xs : List Str) (m : Nat) {F : PM Fl} {spec : Spec}
    (ho : ∀ P, (K P).lookup f = some ⟨oc, od, .func (fnOf name qual params body scope dV kV doc pm an cdv ct), osl⟩) (hcd : ∀ P, codeIn (K P) cdv qual = true)
    (hbind : ∀ vs : List Value, vs.length = xs.length → bindArgs (fnOf name qual params body scope dV kV doc pm an cdv ct) ⟨vs, []⟩ = pure (xs.zip vs))
    (hbody : JXs prog K n scope body F) (hspec : Meets xs.length m F spec)
    (hch : ((xs.all fun y => scope.names.lookup y == some .local || scope.names.lookup y == some .cell) && decide ((scope.names.map (·.1)).take xs.length = xs) && decide (scope.names.map (·.1)).Nodup && (scope.names.all fun p => p.2 != .free) && decide (scope.names.length = xs.length + m)) = true)
    (hco : scope.isCoroutine = false) (hgen : scope.isGenerator = false) (hk : scope.kind = .function) : CallOk prog K (n + 1) (.ref f) spec := by
  simp only [Bool.and_eq_true, decide_eq_true_eq, List.all_eq_true] at hch
  obtain ⟨⟨⟨⟨c1, c2⟩, c3⟩, c4⟩, c5⟩ := hch
  refine callDef ho hcd hbind hbody ⟨fun ds σ r σ' e hu hd => ?_⟩ (by simpa only [List.all_eq_true] using c1) ?_ c3 (fun p hp => by simpa using c4 p hp) hco hgen hk
  · obtain ⟨h1, h2, h3, h4, fl, ρ', g, h5, h6⟩ := hspec.run ds σ r σ' e hu hd
    refine ⟨h1, h2, h3, h4, fl, ρ', g, ?_, h6⟩
    rw [slots_args c2 c3 ds h1, c5, Nat.add_sub_cancel_left]
    exact h5
  · rw [← c2]; exact (List.take_sublist ..).nodup c3
theorem defTop {f : Addr} {name qual : Str} {params : Arguments} {body : List Stmt} {scope : Scope} {dV kV doc pm cdv ct oc : Value} {an od : Option Addr} {osl : Array (Option Value)} (xs : List Str) (m : Nat) {F : PM Fl} {spec : Spec}
    (ho : ∀ P, (K P).lookup f = some ⟨oc, od, .func (fnOf name qual params body scope dV kV doc pm an cdv ct), osl⟩) (hcd : ∀ P, codeIn (K P) cdv qual = true)
    (hbind : ∀ vs : List Value, vs.length = xs.length → bindArgs (fnOf name qual params body scope dV kV doc pm an cdv ct) ⟨vs, []⟩ = pure (xs.zip vs))
    (hbody : JXs prog K n scope body F) (hspec : Meets xs.length m F spec)
    (hch : ((xs.all fun y => scope.names.lookup y == some .local || scope.names.lookup y == some .cell) && decide ((scope.names.map (·.1)).take xs.length = xs) && decide (scope.names.map (·.1)).Nodup && (scope.names.all fun p => p.2 != .free) && decide (scope.names.length = xs.length + m)) = true)
    (hco : scope.isCoroutine = false) (hgen : scope.isGenerator = false) (hk : scope.kind = .function) : TopOk prog K (n + 1) (.ref f) spec := by
  simp only [Bool.and_eq_true, decide_eq_true_eq, List.all_eq_true] at hch
  obtain ⟨⟨⟨⟨c1, c2⟩, c3⟩, c4⟩, c5⟩ := hch
  refine callTop ho hcd hbind hbody ⟨fun ds σ r σ' e hu hd => ?_⟩ (by simpa only [List.all_eq_true] using c1) ?_ c3 (fun p hp => by simpa using c4 p hp) hco hgen hk
  · obtain ⟨h1, h2, h3, h4, fl, ρ', g, h5, h6⟩ := hspec.run ds σ r σ' e hu hd
    refine ⟨h1, h2, h3, h4, fl, ρ', g, ?_, h6⟩
    rw [slots_args c2 c3 ds h1, c5, Nat.add_sub_cancel_left]
    exact h5
  · rw [← c2]; exact (List.take_sublist ..).nodup c3
end
end Mine
namespace Mine
open PySem PySem.W PySem.Calls PyProof.Rows
theorem under_set {σ : Sto} {l : Nat} {c : Cell} (hu : ∀ c ∈ σ, c.under σ.length) (hc : c.under σ.length) : ∀ c' ∈ σ.set l c, c'.under (σ.set l c).length := fun c' h => by
  rw [List.length_set]
  rcases List.mem_or_eq_of_mem_set h with h | h
  · exact hu c' h
  · rw [h]; exact hc
theorem under_get {σ : Sto} {l : Nat} {c : Cell} (hu : ∀ c ∈ σ, c.under σ.length) (h : σ[l]? = some c) : c.under σ.length := hu c (List.mem_of_getElem? h)
end Mine
namespace Mine
open PySem PySem.W PySem.Calls PyProof.Rows
theorem pfor_nil {ok : Sto → Prop} {asg : V → PM Unit} {b : PM Fl} {ρ : Loc} {σ : Sto} (h : ok σ) : pfor ok asg b [] ρ σ = some (.next, ρ, σ) := by
  unfold pfor pguard; rw [if_pos h]; rfl
theorem pfor_cons {ok : Sto → Prop} {asg : V → PM Unit} {b : PM Fl} {d : V} {ds : List V} {ρ : Loc} {σ : Sto} (h : ok σ) : pfor ok asg b (d :: ds) ρ σ = (pbind (asg d) fun _ => pbind b fun fl => match fl with
      | .next => pfor ok asg b ds
      | .cont => pfor ok asg b ds
      | .brk => pret .next
      | .ret v => pret (.ret v)) ρ σ := by
  rw [pfor]
  unfold pguard
  exact if_pos h
noncomputable def intsFrom : Int → Nat → List V
  | _, 0 => []
  | a, n + 1 => .int a :: intsFrom (a + 1) n
theorem intsFrom_eq : ∀ (n : Nat) (lo : Int), (List.range n).map (fun (i : Nat) => V.int (lo + (i : Int))) = intsFrom lo n := by
  intro n
  induction n with
  | zero => intro lo; rfl
  | succ n ih =>
    intro lo
    rw [List.range_succ_eq_map, List.map_cons, List.map_map]
    unfold intsFrom
    rw [← ih (lo + 1)]
    congr 1
    · simp
    · refine List.map_congr_left fun i _ => ?_
      show V.int (lo + ((i + 1 : Nat) : Int)) = _
      congr 1
      push_cast
      lia
theorem rng_items (lo hi : Int) : (Src.rng lo hi).items = intsFrom lo (hi - lo).toNat := intsFrom_eq _ _
end Mine
namespace Mine
open PySem PySem.W PySem.Calls PyProof.Rows
noncomputable def vneg : V → Option V
  | .int a => some (.int (-a))
  | _ => none
theorem JE_neg {prog : Program} {K : Params → Frag} {n : Nat} {sc : Scope} {e : Expr} {pos : Pos} {f : PM V} (h1 : JE prog K n sc e f) : JE prog K n sc (.UnaryOp .USub e pos) (pbind f fun d => plift (vneg d)) := by
  intro Γ A env ρ α σ c ρ' σ' s Q E G hf R O S hQ
  refine pbind_elim hf fun a ρ1 σ1 e1 hf1 => ?_
  obtain ⟨e3, rfl, rfl⟩ := plift_some hf1
  refine wpAny_UnaryOp (h1 Γ A env ρ α σ a _ _ s _ E G e1 R O S fun v1 tk1 H1 α1 S1 T1 r1 => ?_)
  unfold vneg at e3
  split at e3
  · cases e3; cases r1; exact PyProof.Rows.neg_int (hQ _ _ H1 α1 S1 T1 (.int ..))
  · cases e3
end Mine
namespace Mine
theorem list_items (l : Nat) (xs : List V) : (Src.list l xs).items = xs := rfl
theorem tup_items (xs : List V) : (Src.tup xs).items = xs := rfl
theorem rng_ok (lo hi : Int) : (Src.rng lo hi).ok = fun _ => True := rfl
theorem tup_ok (xs : List V) : (Src.tup xs).ok = fun _ => True := rfl
end Mine
namespace Mine
end Mine
namespace Mine
theorem lenS {β : Type} {l : List β} {n : Nat} (h : l.length = n + 1) : ∃ a r, l = a :: r ∧ r.length = n := by
  cases l with
  | nil => cases h
  | cons a r => exact ⟨a, r, rfl, Nat.succ.inj h⟩
theorem len1 {β : Type} {l : List β} (h : l.length = 1) : ∃ a, l = [a] := let ⟨a, _, e, k⟩ := lenS h; ⟨a, by rw [e, List.eq_nil_of_length_eq_zero k]⟩
theorem len2 {β : Type} {l : List β} (h : l.length = 2) : ∃ a1 a2, l = [a1, a2] := let ⟨a, _, e, k⟩ := lenS h; let ⟨a2, e2⟩ := len1 k; ⟨a, a2, by rw [e, e2]⟩
theorem len3 {β : Type} {l : List β} (h : l.length = 3) : ∃ a1 a2 a3, l = [a1, a2, a3] := let ⟨a, _, e, k⟩ := lenS h; let ⟨a2, a3, e2⟩ := len2 k; ⟨a, a2, a3, by rw [e, e2]⟩
theorem len4 {β : Type} {l : List β} (h : l.length = 4) : ∃ a1 a2 a3 a4, l = [a1, a2, a3, a4] := let ⟨a, _, e, k⟩ := lenS h; let ⟨a2, a3, a4, e2⟩ := len3 k; ⟨a, a2, a3, a4, by rw [e, e2]⟩
theorem len5 {β : Type} {l : List β} (h : l.length = 5) : ∃ a1 a2 a3 a4 a5, l = [a1, a2, a3, a4, a5] := let ⟨a, _, e, k⟩ := lenS h; let ⟨a2, a3, a4, a5, e2⟩ := len4 k; ⟨a, a2, a3, a4, a5, by rw [e, e2]⟩
end Mine
namespace Mine
theorem list_ok {l : Nat} {xs : List V} : (Src.list l xs).ok = fun σ => σ[l]? = some (Cell.list xs) := rfl
theorem take1' {o : List UInt8} {n : Nat} {m : UInt8} (h : n < o.length) : ((o.drop n).take 1 == [m]) = (o.getD n 0 == m) := by
  rw [List.drop_eq_getElem_cons h]
  show ([o[n]] == [m]) = _
  rw [List.getD_eq_getElem?_getD, List.getElem?_eq_getElem h]
  simp
theorem tw_at {m : UInt8} : ∀ (r : List UInt8) (j : Nat), j ≤ (r.takeWhile (· == m)).length → ((r.drop j).take 1 == [m]) = decide (j < (r.takeWhile (· == m)).length)
  | [], j, h => by
    have : j = 0 := by simpa using h
    subst this; simp
  | a :: r, 0, h => by
    rw [List.takeWhile_cons]
    show ([a] == [m]) = _
    cases q : a == m with
    | true => simp [beq_iff_eq.mp q]
    | false => simp at q; simp [q]
  | a :: r, j + 1, h => by
    rw [List.takeWhile_cons] at h ⊢
    cases q : a == m with
    | true =>
      rw [q, if_pos rfl, List.length_cons] at h
      rw [if_pos rfl, List.length_cons, List.drop_succ_cons, tw_at r j (by lia)]
      simp
    | false => rw [q, if_neg (by decide)] at h; simp at h
end Mine
namespace Mine
open PySem PySem.W PySem.Calls PyProof.Rows
noncomputable def isList (a : V) (σ : Sto) : Option Unit := match a with
  | .loc l => match σ[l]? with | some (.list _) => some () | _ => none
  | _ => none
noncomputable def s_append : Spec := fun ds σ => a2 ds fun a d => vL a fun l => sL σ l fun xs => if xs.length < 1000000 then some (.none, σ.set l (.list (xs ++ [d]))) else none
noncomputable def s_extend : Spec := fun ds σ => a2 ds fun a b => vL a fun l => vL b fun k => sL σ l fun xs => sL σ k fun ys => if xs.length + ys.length < 1000000 ∧ l ≠ k then some (.none, σ.set l (.list (xs ++ ys))) else none
section
variable {prog : Program} {K : Params → Frag} {n : Nat} {sc : Scope}
theorem cAppend : CallOk prog K n (.builtin "list.append") s_append := by
  intro Γ A sc L cl ρ α σ s vs ds r σ' Q E G R S hv e hQ
  obtain ⟨d1, d, rfl, e⟩ := a2_some e
  obtain ⟨l, rfl, e⟩ := vL_some e
  obtain ⟨xs, he, e⟩ := sL_some e
  obtain ⟨hz, e⟩ := ite_some e
  cases e
  obtain ⟨v, u, rfl, hv1, hu⟩ := hv.two
  obtain ⟨_, rfl, ha⟩ := hv1.inv
  obtain ⟨us, hl, hvs, hz'⟩ := S.listOf he ha
  refine wpAny_list_append_plain hl (fun h' hp hs => ?_) (by rw [List.size_toArray, sizeLine_eq]; lia)
  have ht := hp
  rw [List.push_toArray] at ht
  obtain ⟨S', T'⟩ := S.updCell (i := _) (c := .list (xs ++ [_])) ha hs.extBut (fun up => .list ht ((hvs.mp up).append (.cons (up _ _ hu) .nil)) (by rw [List.length_append, hvs.length]; show xs.length + 1 ≤ _; lia)) (let ⟨n, e⟩ := hp; ⟨_, e⟩)
  exact hQ _ s.toks h' α S' T' .none
theorem mapSeq_plain (its its2 : Array Value) (n : Nat) : ∃ k, Obj.mapSeq (fun x => x ++ its2) { cls := .type "list", data := .seq its n } = { cls := .type "list", data := .seq (its ++ its2) k } := ⟨_, mapSeq_app ..⟩
theorem cExtend : CallOk prog K n (.builtin "list.extend") s_extend := by
  intro Γ A sc L cl ρ α σ s vs ds r σ' Q E G R S hv e hQ
  obtain ⟨d1, d2, rfl, e⟩ := a2_some e
  obtain ⟨l, rfl, e⟩ := vL_some e
  obtain ⟨k, rfl, e⟩ := vL_some e
  obtain ⟨xs, he, e⟩ := sL_some e
  obtain ⟨ys, hk, e⟩ := sL_some e
  obtain ⟨hz, e⟩ := ite_some e
  cases e
  obtain ⟨v, u, rfl, hv1, hu⟩ := hv.two
  obtain ⟨a, rfl, ha⟩ := hv1.inv
  obtain ⟨b, rfl, hb⟩ := hu.inv
  obtain ⟨us, ⟨n1, e1⟩, hvs, hz'⟩ := S.listOf he ha
  obtain ⟨us2, ⟨n2, e2⟩, hvs2, hz2⟩ := S.listOf hk hb
  have hz3 : us.toArray.size + us2.toArray.size ≤ sizeLine := by rw [List.size_toArray, List.size_toArray, sizeLine_eq, hvs.length, hvs2.length]; lia
  refine call_meets PySem.F.slot_list_extend ⟨_, e1, rfl⟩ PySem.F.entry_list_extend (PySem.F.args_list_extend_2 _ _) (AutoSeq1.list_extend_list_list_0 _ _ n1 _ _ n2 (extend_door hz3) (Nat.le_trans (Nat.le_add_right _ _) hz3)) ⟨e1, e2, ?_⟩
  obtain ⟨k', ek⟩ := mapSeq_plain us.toArray us2.toArray n1
  have hp : (s.heap.update a (Obj.mapSeq fun x => x ++ us2.toArray)).PlainList a (us ++ us2).toArray := by
    refine ⟨k', ?_⟩
    rw [Heap.get?_update_self _ e1 (by rw [ek]; rfl), ek]
    simp
  obtain ⟨S', T'⟩ := S.updCell (i := _) (c := .list (xs ++ ys)) ha (Heap.SameBut.update ..).extBut (fun up => .list hp ((hvs.mp up).append (hvs2.mp up)) (by rw [List.length_append, hvs.length, hvs2.length]; lia)) (let ⟨n, e⟩ := hp; ⟨_, e⟩)
  exact hQ _ s.toks _ α S' T' .none
theorem JE_methL {o e : Expr} {name : Str} {id : String} {ap pos : Pos} {f : PM V} {g : PM (List V)} {spec : Spec} (h1 : JE prog K n sc o f) (ha : JA prog K n sc pos [e] g) (slot : Slot "list" name id) (hty : typeOf (.builtin id) = pure (.type "method_descriptor")) (hc : CallOk prog K n (.builtin id) spec)
    (hbase : ∀ env, attributeBase o name env (eval o env) = eval o env)
    (hfew : ∀ env, ((backTo pos (starEach [e] env)).all (fun x => !x.1) && (backToKw pos (keywordEach [] env)).all (fun x => x.1.isSome) && decide ([e].length + ([] : List Keyword).length + (if ([] : List Keyword).isEmpty then 0 else 1) < 30)) = true)
    (hline : (ap.endLine == pos.line) = true) (he : ∀ env, starEach [e] env = (false, eval e env) :: starEach [] env) (hpl : ∀ env, (backTo pos (starEach [] env)).any (·.1) = false) :
    JE prog K n sc (.Call (.Attribute o name ap) [e] [] pos) (pbind f fun a => pbind (psto (isList a)) fun _ => pbind g fun ds => pcall spec (a :: ds)) := by
  intro Γ A env ρ α σ c ρ' σ' s Q E G hf' R O S hQ
  refine pbind_elim hf' fun a ρ1 σ1 e1 hf1 => ?_
  obtain ⟨⟨⟩, ρ2, σ2, e2, hf2⟩ := pbind_some hf1
  obtain ⟨e3, rfl, rfl⟩ := psto_some e2
  refine pbind_elim hf2 fun ds ρ3 σ3 e4 hf3 => ?_
  obtain ⟨e5, rfl⟩ := pcall_some hf3
  refine wpAny_Call_method (hbase env) (hfew env) hline PySem.F.plainAttrs_list slot hty (h1 Γ A env ρ α σ a _ _ s _ E G e1 R O S fun v1 tk1 H1 α1 S1 T1 r1 => ?_)
  unfold isList at e3
  split at e3
  · split at e3
    · rename_i hcell
      cases r1 with
      | loc hα =>
        cases S1.cellOf hcell hα with
        | list hl hv hz =>
          obtain ⟨m, eo⟩ := hl
          refine ⟨⟨_, eo, rfl⟩, fun a ea => ?_, ?_⟩
          · cases ea; exact ⟨_, eo, rfl⟩
          · refine callWith_plain rfl (ha Γ A env _ α1 _ ds _ σ3 _ _ E G e4 R O S1 fun vs tk2 H2 α2 S2 T2 r2 => ?_) (he env) (hpl env)
            exact hc Γ A sc env.locals env.cells _ α2 σ3 _ (_ :: vs) (_ :: ds) c σ' Q E G R S2 (.cons (.loc (T2.get hα)) r2) e5 fun v tk h' α' S' T' hv => hQ v tk h' α' S' ((T1.trans T2).trans T') hv
    · cases e3
  · cases e3
theorem W_append {o e : Expr} {ap pos : Pos} {f : PM V} {g : PM (List V)} (h1 : JE prog K n sc o f) (ha : JA prog K n sc pos [e] g)
    (hbase : ∀ env, attributeBase o (Str.ofString "append") env (eval o env) = eval o env)
    (hfew : ∀ env, ((backTo pos (starEach [e] env)).all (fun x => !x.1) && (backToKw pos (keywordEach [] env)).all (fun x => x.1.isSome) && decide ([e].length + ([] : List Keyword).length + (if ([] : List Keyword).isEmpty then 0 else 1) < 30)) = true)
    (hline : (ap.endLine == pos.line) = true) (he : ∀ env, starEach [e] env = (false, eval e env) :: starEach [] env) (hpl : ∀ env, (backTo pos (starEach [] env)).any (·.1) = false) :
    JE prog K n sc (.Call (.Attribute o (Str.ofString "append") ap) [e] [] pos) (pbind f fun a => pbind (psto (isList a)) fun _ => pbind g fun ds => pcall s_append (a :: ds)) :=
  JE_methL h1 ha PySem.F.slot_list_append PySem.F.type_list_append cAppend hbase hfew hline he hpl
theorem W_extend {o e : Expr} {ap pos : Pos} {f : PM V} {g : PM (List V)} (h1 : JE prog K n sc o f) (ha : JA prog K n sc pos [e] g)
    (hbase : ∀ env, attributeBase o (Str.ofString "extend") env (eval o env) = eval o env)
    (hfew : ∀ env, ((backTo pos (starEach [e] env)).all (fun x => !x.1) && (backToKw pos (keywordEach [] env)).all (fun x => x.1.isSome) && decide ([e].length + ([] : List Keyword).length + (if ([] : List Keyword).isEmpty then 0 else 1) < 30)) = true)
    (hline : (ap.endLine == pos.line) = true) (he : ∀ env, starEach [e] env = (false, eval e env) :: starEach [] env) (hpl : ∀ env, (backTo pos (starEach [] env)).any (·.1) = false) :
    JE prog K n sc (.Call (.Attribute o (Str.ofString "extend") ap) [e] [] pos) (pbind f fun a => pbind (psto (isList a)) fun _ => pbind g fun ds => pcall s_extend (a :: ds)) :=
  JE_methL h1 ha PySem.F.slot_list_extend PySem.F.type_list_extend cExtend hbase hfew hline he hpl
theorem W_expr {e : Expr} {pos : Pos} {f : PM V} (h1 : JE prog K n sc e f) (hs : ∀ env, swapsWith e none pos.line env = pure false) : JX prog K n sc (.Expr e pos) (pbind f pnone) :=
  JX_expr h1 (fun _ O => interactive_of O) hs
theorem W_swap2 {x1 x2 : Str} {p1 p2 tp pos : Pos} {k kk : Nat} {e1 e2 : Expr} {pp : Pos} {f : PM V} {i1 i2 : Nat} (h1 : JE prog K n sc (.Tuple [e1, e2] kk pp) f) (a1 : At sc.names x1 i1 .local) (a2 : At sc.names x2 i2 .local) (hs : ∀ env, swapsWithSole [.Tuple [.Name x1 p1, .Name x2 p2] k tp] (.Tuple [e1, e2] kk pp) pos.line env = pure false)
    (hw : ∀ env, EnvOk env sc → swappedStores [.Tuple [.Name x1 p1, .Name x2 p2] k tp] (.Tuple [e1, e2] kk pp) env = pure (some [x1, x2])) :
    JX prog K n sc (.Assign [.Tuple [.Name x1 p1, .Name x2 p2] k tp] (.Tuple [e1, e2] kk pp) pos) (pbind f fun d => pbind (plift (psplit d)) fun ds => pbind (pstores [i2, i1] ds.reverse) fun _ => if ds.length = 2 then pret .next else fun _ _ => none) := by
  refine tri_names fun N => ?_
  exact JX_assignSwap h1 hs hw (.cons (a2.slot N) (.cons (a1.slot N) .nil))
theorem W_swap3 {x1 x2 x3 : Str} {p1 p2 p3 tp pos : Pos} {k kk : Nat} {e1 e2 e3 : Expr} {pp : Pos} {f : PM V} {i1 i2 i3 : Nat} (h1 : JE prog K n sc (.Tuple [e1, e2, e3] kk pp) f) (a1 : At sc.names x1 i1 .local) (a2 : At sc.names x2 i2 .local) (a3 : At sc.names x3 i3 .local) (hs : ∀ env, swapsWithSole [.Tuple [.Name x1 p1, .Name x2 p2, .Name x3 p3] k tp] (.Tuple [e1, e2, e3] kk pp) pos.line env = pure false)
    (hw : ∀ env, EnvOk env sc → swappedStores [.Tuple [.Name x1 p1, .Name x2 p2, .Name x3 p3] k tp] (.Tuple [e1, e2, e3] kk pp) env = pure (some [x1, x2, x3])) :
    JX prog K n sc (.Assign [.Tuple [.Name x1 p1, .Name x2 p2, .Name x3 p3] k tp] (.Tuple [e1, e2, e3] kk pp) pos) (pbind f fun d => pbind (plift (psplit d)) fun ds => pbind (pstores [i3, i2, i1] ds.reverse) fun _ => if ds.length = 3 then pret .next else fun _ _ => none) := by
  refine tri_names fun N => ?_
  exact JX_assignSwap h1 hs hw (.cons (a3.slot N) (.cons (a2.slot N) (.cons (a1.slot N) .nil)))
end
end Mine
namespace Mine
open PySem PySem.W PySem.Calls PyProof.Rows
noncomputable def dset (es : List (Str × V)) (x : Str) (d : V) : List (Str × V) := if es.any (fun p => p.1 = x) then es.map (fun p => if p.1 = x then (p.1, d) else p) else es ++ [(x, d)]
theorem KvAll.length {Γ : Fix} {α : List Addr} {h : Heap} {vs : List (Str × Value)} {ds : List (Str × V)} (y : KvAll Γ α h vs ds) : vs.length = ds.length := by
  induction y with
  | nil => rfl
  | cons _ _ ih => rw [List.length_cons, List.length_cons, ih]
theorem KvAll.any {Γ : Fix} {α : List Addr} {h : Heap} {x : Str} {vs : List (Str × Value)} {ds : List (Str × V)} (y : KvAll Γ α h vs ds) : vs.any (fun p => p.1 = x) = ds.any (fun p => p.1 = x) := by
  induction y with
  | nil => rfl
  | cons _ _ ih => rw [List.any_cons, List.any_cons, ih]
theorem KvAll.app {Γ : Fix} {α : List Addr} {h : Heap} {vs ws : List (Str × Value)} {ds es : List (Str × V)} (y : KvAll Γ α h vs ds) (k : KvAll Γ α h ws es) : KvAll Γ α h (vs ++ ws) (ds ++ es) := by
  induction y with
  | nil => exact k
  | cons a _ ih => exact .cons a ih
theorem KvAll.put {Γ : Fix} {α : List Addr} {h : Heap} {x : Str} {v : Value} {d : V} (hv : VRel Γ α h v d) {vs : List (Str × Value)} {ds : List (Str × V)} (y : KvAll Γ α h vs ds) : KvAll Γ α h (vs.map fun p => if p.1 = x then (p.1, v) else p) (ds.map fun p => if p.1 = x then (p.1, d) else p) := by
  induction y with
  | nil => exact .nil
  | @cons k _ _ _ _ a b ih =>
    rw [List.map_cons, List.map_cons]
    by_cases q : k = x
    · simp only [q, if_true]; exact .cons hv ih
    · simp only [if_neg q]; exact .cons a ih
theorem KvAll.stored {Γ : Fix} {α : List Addr} {h : Heap} {x : Str} {v : Value} {d : V} (hv : VRel Γ α h v d) {vs : List (Str × Value)} {ds : List (Str × V)} (k : KvAll Γ α h vs ds) : KvAll Γ α h (PySem.stored vs x v) (dset ds x d) := by
  unfold PySem.stored dset
  rw [k.any]
  split
  · exact k.put hv
  · exact k.app (.cons hv .nil)
theorem stored_length (es : List (Str × Value)) (x : Str) (d : Value) : (PySem.stored es x d).length ≤ es.length + 1 := by
  unfold PySem.stored
  split
  · rw [List.length_map]; lia
  · rw [List.length_append]; exact Nat.le_refl _
noncomputable def psetItem (a i d : V) : PM Unit := fun ρ σ => match a, i with
  | .loc l, .int k => match σ[l]? with | some (.list xs) => if 0 ≤ k ∧ k.toNat < xs.length then some ((), ρ, σ.set l (.list (xs.set k.toNat d))) else none | _ => none
  | .loc l, .str x => match σ[l]? with | some (.dict es) => if es.length < 1000 then some ((), ρ, σ.set l (.dict (dset es x d))) else none | _ => none
  | _, _ => none
theorem mapSeq_set (its : Array Value) (n k : Nat) (v : Value) : ∃ n', Obj.mapSeq (·.setIfInBounds k v) { cls := .type "list", data := .seq its n } = { cls := .type "list", data := .seq (its.setIfInBounds k v) n' } := ⟨_, rfl⟩
section
variable {prog : Program} {K : Params → Frag} {n : Nat} {sc : Scope}
theorem setItem_sound {Γ : Fix} {L : Addr} {cl : List (Str × Addr)} {ρ ρ' : Loc} {α : List Addr} {σ σ' : Sto} {A : Around} {s : Shared} {va vi v : Value} {a i d : V} {Q : Unit → Shared → Prop} {E : Value → Shared → Prop}
    (S : St prog Γ sc L cl ρ α σ s.heap) (e : psetItem a i d ρ σ = some ((), ρ', σ')) (h1 : VRel Γ α s.heap va a) (h2 : VRel Γ α s.heap vi i) (h3 : VRel Γ α s.heap v d)
    (h : ∀ tk h', St prog Γ sc L cl ρ' α σ' h' → Step L cl α α s.heap h' → Q () { s with heap := h', toks := tk }) : wpAny (model prog Γ.w) A (setItem va vi v) Q E s := by
  unfold psetItem at e
  split at e
  · rename_i l k
    split at e
    · rename_i xs he
      split at e
      · rename_i hk
        cases e
        cases h1 with
        | loc ha =>
          cases h2
          cases S.cellOf he ha with
          | list hl hvs hz =>
            rename_i ax t us
            obtain ⟨m, eo⟩ := hl
            have hlen := hvs.length
            refine ki_setAt eo hk.1 (by lia) (by rw [List.size_toArray]; lia) ?_
            obtain ⟨k', ek⟩ := mapSeq_set us.toArray m k.toNat v
            have hp : (s.heap.update ax (Obj.mapSeq (·.setIfInBounds k.toNat v))).PlainList ax (us.set k.toNat v).toArray := by
              refine ⟨k', ?_⟩
              rw [Heap.get?_update_self _ eo (by rw [ek]; rfl), ek]
              simp
            obtain ⟨S', T'⟩ := S.updCell (i := l) (c := .list (xs.set k.toNat d)) ha (Heap.SameBut.update ..).extBut (fun up => .list hp ((hvs.mp up).set _ (up _ _ h3)) (by rw [List.length_set]; exact hz)) (let ⟨n, e⟩ := hp; ⟨_, e⟩)
            exact h s.toks _ S' T'
      · cases e
    · cases e
  · rename_i l x
    split at e
    · rename_i es he
      split at e
      · rename_i hz
        cases e
        cases h1 with
        | loc ha =>
          cases h2
          cases S.cellOf he ha with
          | dict hd hkv hz' =>
            rename_i ax t kvs
            refine wpAny_setItem_pairs (knd := strKind prog Γ.w) (k := x) (strKind_is prog Γ.w _ _) hd (fun h' hd' hs' => ?_) (by rw [sizeLine_eq]; lia)
            obtain ⟨S', T'⟩ := S.updCell (i := l) (c := .dict (dset es x d)) ha hs'.extBut (fun up => .dict hd' ((hkv.mono up).stored (up _ _ h3)) (by have := stored_length kvs x v; rw [hkv.length] at this; lia))
              (let ⟨o, _, _, ho, _⟩ := hd'; ⟨o, ho⟩)
            exact h _ _ S' T'
      · cases e
    · cases e
  · cases e
theorem JX_setItem {o i value : Expr} {tp pos : Pos} {f g k : PM V} (h1 : JE prog K n sc value f) (h2 : JE prog K n sc o g) (h3 : JE prog K n sc i k) (hs : ∀ env, swapsWith value (some (.Subscript o i tp)) pos.line env = pure false) :
    JX prog K n sc (.Assign [.Subscript o i tp] value pos) (pbind f fun d => pbind g fun a => pbind k fun ix => pbind (psetItem a ix d) fun _ => pret .next) := by
  intro Γ A env ρ α σ c ρ' σ' s Q E G hf R O S hQ
  refine pbind_elim hf fun d ρ1 σ1 e1 hf1 => ?_
  refine pbind_elim hf1 fun a ρ2 σ2 e2 hf2 => ?_
  refine pbind_elim hf2 fun ix ρ3 σ3 e3 hf3 => ?_
  obtain ⟨⟨⟩, ρ4, σ4, e4, hf4⟩ := pbind_some hf3
  obtain ⟨rfl, rfl, rfl⟩ := pret_some hf4
  refine wpAny_Assign_Subscript (h1 Γ A env ρ α σ d ρ1 σ1 s _ E G e1 R O S fun v1 tk1 H1 α1 S1 T1 r1 => ?_) (hs env)
  refine h2 Γ A env ρ1 α1 σ1 a ρ2 σ2 _ _ E G e2 R O S1 fun v2 tk2 H2 α2 S2 T2 r2 => ?_
  refine h3 Γ A env ρ2 α2 σ2 ix ρ3 σ3 _ _ E G e3 R O S2 fun v3 tk3 H3 α3 S3 T3 r3 => ?_
  exact setItem_sound (s := { s with heap := H3, toks := tk3 }) S3 e4 (S2.up T3 r2) r3 (S2.up T3 (S1.up T2 r1)) fun tk h' S' T' => hQ _ tk h' α3 S' (((T1.trans T2).trans T3).trans T') .next
end
end Mine
namespace Mine
open PySem PySem.W PySem.Calls PyProof.Rows
theorem dset_under {n : Nat} {es : List (Str × V)} {x : Str} {d : V} (h1 : (Cell.dict es).under n) (h2 : d.under n) : (Cell.dict (dset es x d)).under n := by
  have h1 : V.underAll n (es.map (·.2)) := h1
  show V.underAll n ((dset es x d).map (·.2))
  rw [underAll_mem] at h1 ⊢
  intro v hv
  obtain ⟨p, hp, rfl⟩ := List.mem_map.mp hv
  unfold dset at hp
  split at hp
  · obtain ⟨q, hq, rfl⟩ := List.mem_map.mp hp
    split
    · exact h2
    · exact h1 _ (List.mem_map.mpr ⟨q, hq, rfl⟩)
  · rcases List.mem_append.mp hp with hp | hp
    · exact h1 _ (List.mem_map.mpr ⟨p, hp, rfl⟩)
    · rw [List.mem_singleton.mp hp]; exact h2
theorem set_last (σ : Sto) (c d : Cell) : (σ ++ [c]).set σ.length d = σ ++ [d] := by
  rw [List.set_append_right _ _ (Nat.le_refl _), Nat.sub_self]; rfl
theorem get_last (σ : Sto) (c : Cell) : (σ ++ [c])[σ.length]? = some c := by
  rw [List.getElem?_append_right (Nat.le_refl _), Nat.sub_self]; rfl
theorem get_left {σ : Sto} {l : Nat} {x : Cell} (h : σ[l]? = some x) (c : Cell) : (σ ++ [c])[l]? = some x := by
  rw [List.getElem?_append_left (List.getElem?_eq_some_iff.mp h).1]; exact h
end Mine
namespace Mine
open PySem PySem.W PySem.Calls PyProof.Rows
section
variable {prog : Program} {K : Params → Frag} {n : Nat}
theorem lamCall {Γ : Fix} {A : Around} {s : Shared} {sc : Scope} {L : Addr} {cl : List (Str × Addr)} {ρ : Loc} {α : List Addr} {σ σ' : Sto} {f : Addr} {params : Arguments} {body : Expr} {scope : Scope} {lcl : List (Str × Addr)} {F : PM V} {xs : List Str} {vs : List Value} {ds : List V} {r : V} {ρ' : Loc} {Q E : Value → Shared → Prop} {frees : List (Str × V)}
    (G : Good prog K Γ) (R : Room (n + 1) A) (S : St prog Γ sc L cl ρ α σ s.heap) (hf : LamAt Γ.hb f params body scope lcl) (hbody : JE prog K n scope body F) (hv : VAll Γ α s.heap vs ds) (hlen : vs.length = xs.length)
    (hbind : ∀ name qual pm cv ctv, ∀ vs : List Value, vs.length = xs.length → bindArgs (kla_fn name qual params body scope lcl pm cv ctv) ⟨vs, []⟩ = pure (xs.zip vs))
    (hfr : ∀ x d, frees.lookup x = some d → ∃ c v, lcl.lookup x = some c ∧ Γ.hb.IsCell c (some v) ∧ VRel Γ α s.heap v d) (hlcl : ∀ p ∈ lcl, ∃ v, Γ.hb.IsCell p.2 v) (hap : lcl.Pairwise fun x y => x.2 ≠ y.2)
    (hnocell : ∀ p ∈ scope.names, p.2 ≠ .cell) (hxs : xs.Nodup) (hloc : ∀ x ∈ xs, scope.names.lookup x = some .local) (hnames : (scope.names.map (·.1)).Nodup) (hfree : ∀ x d, frees.lookup x = some d → scope.names.lookup x = some .free)
    (hco : scope.isCoroutine = false) (hgen : scope.isGenerator = false) (hk : scope.kind = .function)
    (e : F (slots scope.names (xs.zip ds ++ frees)) σ = some (r, ρ', σ'))
    (hQ : ∀ v tk h' α', St prog Γ sc L cl ρ α' σ' h' → Step L cl α α' s.heap h' → VRel Γ α' h' v r → Q v { s with heap := h', toks := tk }) (hle : σ.length ≤ σ'.length) :
    wpAny (model prog Γ.w) A (call (.ref f) vs) Q E s := by
  obtain ⟨qual, pm, c', ctv, ho, hcd⟩ := hf
  obtain ⟨p, loose, mg, mb, T, _⟩ := G.top
  refine wpAny_call (kla_callFunE R.d (S.keep _ _ ho) rfl hco hgen rfl (hcd.keeps S.keep) ?_)
  have hdead : ∀ c, s.heap.objs.size ≤ c → s.heap.get? c = none := fun c h => Heap.get?_none_of_le h
  obtain ⟨d1, d2, d3, d4⟩ := S.dead (hdead _ (Nat.le_refl _))
  have hzk := zip_keys hlen
  rw [hbind _ _ _ _ _ vs hlen]
  refine wpAny_pure (wpAny_newFunctionEnv hnocell (fun y hy => ?_) (fun h₁ hns hsb => ⟨(T.nolimit.keeps S.keep).fresh _ hsb, ?_⟩) hk)
  · exact hloc y.1 (by rw [← hzk]; exact List.mem_map.mpr ⟨y, hy, rfl⟩)
  show codeAny _ _ (.expr body (envX qual scope s.heap.objs.size f (.ref c') lcl)) _ _
  have hk₁ : ∀ b o, s.heap.get? b = some o → h₁.get? b = some o := fun b o e => hsb.extBut b o (Nat.ne_of_lt (Heap.lt_size e)) (Heap.get?_push_of_some _ e)
  have up : ∀ v d, VRel Γ α s.heap v d → VRel Γ α h₁ v d := fun v d y => S.up (Step.keeps (L := L) (cl := cl) hk₁) y
  have S1 : St prog Γ scope (envX qual scope s.heap.objs.size f (.ref c') lcl).locals (envX qual scope s.heap.objs.size f (.ref c') lcl).cells (slots scope.names (xs.zip ds ++ frees)) α σ h₁ := by
    refine ⟨fun b o e => hk₁ b o (S.keep b o e), S.len, fun i c e => ?_, S.nodup, d4, d1, ⟨_, hns, fun i d e => ?_⟩, fun p hp => ?_, fun y hy => ?_, hap, hnames⟩
    · obtain ⟨a, e1, y, e2⟩ := S.cell i c e
      exact ⟨a, e1, y.mp (fun o q => hk₁ a o q) up, e2⟩
    · unfold slots at e
      rw [List.getElem?_map] at e
      obtain ⟨⟨y, k⟩, e1, e2⟩ := Option.map_eq_some_iff.mp e
      have hlk : scope.names.lookup y = some k := lookup_of_mem hnames (List.mem_of_getElem? e1)
      dsimp only at e2
      cases hb : (xs.zip ds).lookup y with
      | some d' =>
        have e3 : d = d' := by
          have := List.lookup_append (l₁ := xs.zip ds) (l₂ := frees) (k := y)
          rw [this, hb] at e2
          exact (Option.some.inj e2).symm
        subst e3
        obtain ⟨v, h1, h2⟩ := lookup_zip hv hb
        have hy : y ∈ xs := by
          rw [← hzk]
          exact List.mem_map.mpr ⟨(y, v), mem_of_lookup h1, rfl⟩
        have hkl := hloc y hy
        rw [hlk] at hkl
        cases hkl
        refine ⟨y, .local, e1, ⟨v, up _ _ h2, fun _ => ?_, fun z => by rcases z with z | z <;> cases z⟩⟩
        have hnd : ((xs.zip vs).reverse.map (·.1)).Nodup := by rw [List.map_reverse, hzk]; exact List.pairwise_reverse.mpr (hxs.imp Ne.symm)
        exact lookup_of_mem hnd (List.mem_reverse.mpr (mem_of_lookup h1))
      | none =>
        have e3 : frees.lookup y = some d := by
          have := List.lookup_append (l₁ := xs.zip ds) (l₂ := frees) (k := y)
          rw [this, hb] at e2
          simpa using e2
        obtain ⟨c, v, h1, h2, h3⟩ := hfr y d e3
        have hkl := hfree y d e3
        rw [hlk] at hkl
        cases hkl
        refine ⟨y, .free, e1, ⟨v, up _ _ h3, (fun z => by cases z), fun _ => ⟨c, h1, ?_⟩⟩⟩
        obtain ⟨o, ho, hd⟩ := h2
        exact ⟨o, hk₁ _ _ (S.keep _ _ ho), hd⟩
    · obtain ⟨v, o, ho, hd⟩ := hlcl p hp
      have hlive := S.keep _ _ ho
      refine ⟨fun q => ?_, fun q => ?_, v, o, hk₁ _ _ hlive, hd⟩
      · obtain ⟨_, _, _, _, _, hbn⟩ := S.memα q
        rw [ho] at hbn; cases hbn
      · exact Nat.lt_irrefl _ (q ▸ Heap.lt_size hlive)
    · exact absurd rfl (hnocell _ (mem_of_lookup hy))
  refine kla_codeExpr (hbody Γ _ (envX qual scope s.heap.objs.size f (.ref c') lcl) _ α σ r ρ' σ' { s with heap := h₁, toks := s.toks + (xs.zip vs).length } _ _ G e (R.deeper _) ⟨rfl, hk, rfl, rfl⟩ S1 fun v tk2 H2 α2 S2 T2 r2 => ?_)
  have old : ∀ b o, s.heap.get? b = some o → b ∉ α → H2.get? b = some o := fun b o e hb => by
    by_cases q : ∃ p ∈ lcl, b = p.2
    · obtain ⟨p, hp, rfl⟩ := q
      obtain ⟨v, o', ho', _⟩ := hlcl p hp
      have e2 := S.keep _ _ ho'
      rw [e] at e2; cases e2
      exact S2.keep _ _ ho'
    · exact T2.frame b o (hk₁ b o e) (Nat.ne_of_lt (Heap.lt_size e)) (fun p hp z => q ⟨p, hp, z⟩) hb
  obtain ⟨β, eβ, fβ⟩ := T2.pre
  have fresh : ∀ a ∈ β, s.heap.get? a = none := fun a ha => by
    cases q : s.heap.get? a with
    | none => rfl
    | some o => have := hk₁ a o q; rw [fβ a ha] at this; cases this
  have hσ' : ∀ c ∈ σ', c.under σ'.length := fun c hc => by
    obtain ⟨i, hi, rfl⟩ := List.mem_iff_getElem.mp hc
    obtain ⟨a, _, y, _⟩ := S2.cell i _ (List.getElem?_eq_getElem hi)
    have := y.under
    rw [S2.len] at this
    exact this
  have S2' : St prog Γ scope (envX qual scope s.heap.objs.size f (.ref c') lcl).locals (envX qual scope s.heap.objs.size f (.ref c') lcl).cells ρ' α2 (σ' ++ []) H2 := by rw [List.append_nil]; exact S2
  obtain ⟨S3, T3⟩ := S.back S2' ⟨β, eβ, fresh⟩ hle old hσ'
  have hα : α2.take σ'.length = α2 := List.take_of_length_le (by rw [S2.len]; exact Nat.le_refl _)
  rw [hα] at S3 T3
  exact hQ v tk2 H2 α2 S3 T3 r2
end
end Mine
namespace Mine
open PySem PySem.W PySem.Calls PyProof.Rows
def Picks (name : Str) (k : Nat) (frs : Nat → Nat → Nat → List (Str × V)) : Prop :=
  ∀ (Γ : Fix) (x ai an as : Addr), HandsAt Γ.w Γ.hb x ai an as → ∃ dx es n f lcl, Γ.hb.get? x = some (instObj 135 dx) ∧ Γ.hb.get? dx = some (dictOf es n) ∧ getL name es = some (some (.ref f)) ∧
    LamAt Γ.hb f (HL k).params (HL k).body (HL k).scope lcl ∧ (∀ p ∈ lcl, ∃ v, Γ.hb.IsCell p.2 v) ∧ (lcl.Pairwise fun x y => x.2 ≠ y.2) ∧
    ∀ (α : List Addr) (h : Heap) (li ln ls : Nat), α[li]? = some ai → α[ln]? = some an → α[ls]? = some as → ∀ y d, (frs li ln ls).lookup y = some d → ∃ c v, lcl.lookup y = some c ∧ Γ.hb.IsCell c (some v) ∧ VRel Γ α h v d
section
theorem look1 {β : Type} {x y : Str} {b d : β} (h : ([(x, b)] : List (Str × β)).lookup y = some d) : y = x ∧ d = b := by
  rw [List.lookup_cons] at h
  split at h
  · rename_i q; cases h; exact ⟨beq_iff_eq.mp q, rfl⟩
  · cases h
theorem pw1 {a : Str × Addr} : [a].Pairwise fun x y => x.2 ≠ y.2 := List.pairwise_singleton ..
theorem cell1 {h : Heap} {x : Str} {c : Addr} {v : Option Value} (k : h.IsCell c v) : ∀ p ∈ [(x, c)], ∃ v, h.IsCell p.2 v := fun p hp => by
  obtain rfl := List.mem_singleton.mp hp
  exact ⟨_, k⟩
theorem look1' {β : Type} {x : Str} {b : β} : ([(x, b)] : List (Str × β)).lookup x = some b := by rw [List.lookup_cons, beq_self_eq_true]
theorem pick_items {name : Str} {k : Nat} (hm : ∀ ci cn cs : Addr, (k, [(Str.ofString "items", ci)]) ∈ [(0, [(Str.ofString "items", ci)]), (1, [(Str.ofString "items", ci)]), (2, [(Str.ofString "numbers", cn)]), (3, [(Str.ofString "numbers", cn)]), (4, [(Str.ofString "seen", cs)]), (5, [(Str.ofString "seen", cs), (Str.ofString "items", ci)]), (6, [(Str.ofString "items", ci)])])
    (hg : ∀ w x ai an as hb dx f t n ci cn cs, HandsIs w hb x ai an as dx f t n ci cn cs → ∃ es, hb.get? dx = some (dictOf es n) ∧ getL name es = some (some (.ref (f k)))) : Picks name k fun li _ _ => [(Str.ofString "items", .loc li)] := by
  intro Γ x ai an as H
  obtain ⟨dx, f, t, n, ci, cn, cs, h⟩ := H.ex
  obtain ⟨es, h1, h2⟩ := hg _ _ _ _ _ _ _ _ _ _ _ _ _ h
  refine ⟨dx, es, n, f k, _, h.ox, h1, h2, h.l k _ (hm ci cn cs), cell1 h.c1, pw1, fun α hh li ln ls e1 e2 e3 y d e => ?_⟩
  obtain ⟨rfl, rfl⟩ := look1 e
  exact ⟨ci, _, look1', h.c1, .loc e1⟩
theorem pick_numbers {name : Str} {k : Nat} (hm : ∀ ci cn cs : Addr, (k, [(Str.ofString "numbers", cn)]) ∈ [(0, [(Str.ofString "items", ci)]), (1, [(Str.ofString "items", ci)]), (2, [(Str.ofString "numbers", cn)]), (3, [(Str.ofString "numbers", cn)]), (4, [(Str.ofString "seen", cs)]), (5, [(Str.ofString "seen", cs), (Str.ofString "items", ci)]), (6, [(Str.ofString "items", ci)])])
    (hg : ∀ w x ai an as hb dx f t n ci cn cs, HandsIs w hb x ai an as dx f t n ci cn cs → ∃ es, hb.get? dx = some (dictOf es n) ∧ getL name es = some (some (.ref (f k)))) : Picks name k fun _ ln _ => [(Str.ofString "numbers", .loc ln)] := by
  intro Γ x ai an as H
  obtain ⟨dx, f, t, n, ci, cn, cs, h⟩ := H.ex
  obtain ⟨es, h1, h2⟩ := hg _ _ _ _ _ _ _ _ _ _ _ _ _ h
  refine ⟨dx, es, n, f k, _, h.ox, h1, h2, h.l k _ (hm ci cn cs), cell1 h.c2, pw1, fun α hh li ln ls e1 e2 e3 y d e => ?_⟩
  obtain ⟨rfl, rfl⟩ := look1 e
  exact ⟨cn, _, look1', h.c2, .loc e2⟩
theorem pick_fetch : Picks (Str.ofString "fetch") 0 fun li _ _ => [(Str.ofString "items", .loc li)] := pick_items (by simp) fun _ _ _ _ _ _ _ _ _ _ _ _ _ h => ⟨_, h.od, by kernel_rfl⟩
theorem pick_plant : Picks (Str.ofString "plant") 1 fun li _ _ => [(Str.ofString "items", .loc li)] := pick_items (by simp) fun _ _ _ _ _ _ _ _ _ _ _ _ _ h => ⟨_, h.od, by kernel_rfl⟩
theorem pick_amount : Picks (Str.ofString "amount") 2 fun _ ln _ => [(Str.ofString "numbers", .loc ln)] := pick_numbers (by simp) fun _ _ _ _ _ _ _ _ _ _ _ _ _ h => ⟨_, h.od, by kernel_rfl⟩
theorem pick_keep : Picks (Str.ofString "keep") 3 fun _ ln _ => [(Str.ofString "numbers", .loc ln)] := pick_numbers (by simp) fun _ _ _ _ _ _ _ _ _ _ _ _ _ h => ⟨_, h.od, by kernel_rfl⟩
theorem pick_room : Picks (Str.ofString "room") 6 fun li _ _ => [(Str.ofString "items", .loc li)] := pick_items (by simp) fun _ _ _ _ _ _ _ _ _ _ _ _ _ h => ⟨_, h.od, by kernel_rfl⟩
theorem pick_spot : Picks (Str.ofString "spot") 4 fun _ _ ls => [(Str.ofString "seen", .loc ls)] := by
  intro Γ x ai an as H
  obtain ⟨dx, f, t, n, ci, cn, cs, h⟩ := H.ex
  refine ⟨dx, _, n, f 4, _, h.ox, h.od, by kernel_rfl, h.l 4 [(Str.ofString "seen", cs)] (by simp), cell1 h.c3, pw1, fun α hh li ln ls e1 e2 e3 y d e => ?_⟩
  obtain ⟨rfl, rfl⟩ := look1 e
  exact ⟨cs, _, look1', h.c3, .loc e3⟩
theorem pick_bring : Picks (Str.ofString "bring") 5 fun li _ ls => [(Str.ofString "seen", .loc ls), (Str.ofString "items", .loc li)] := by
  intro Γ x ai an as H
  obtain ⟨dx, f, t, n, ci, cn, cs, h⟩ := H.ex
  refine ⟨dx, _, n, f 5, _, h.ox, h.od, by kernel_rfl, h.l 5 [(Str.ofString "seen", cs), (Str.ofString "items", ci)] (by simp), fun p hp => ?_, List.pairwise_pair.mpr h.ne.symm, fun α hh li ln ls e1 e2 e3 y d e => ?_⟩
  · rcases List.mem_cons.mp hp with rfl | hp
    · exact ⟨_, h.c3⟩
    · exact cell1 h.c1 p hp
  · rw [List.lookup_cons] at e
    split at e
    · rename_i q; cases e
      exact ⟨cs, _, by rw [List.lookup_cons, q], h.c3, .loc e3⟩
    · rename_i q
      obtain ⟨rfl, rfl⟩ := look1 e
      exact ⟨ci, _, by rw [List.lookup_cons, q]; exact look1', h.c1, .loc e1⟩
end
def HandsOk (prog : Program) (K : Params → Frag) (n : Nat) (name : Str) (spec : Nat → Nat → Nat → Spec) : Prop :=
  ∀ (Γ : Fix) (x ai an as : Addr), Good prog K Γ → HandsAt Γ.w Γ.hb x ai an as → ∃ f of fd, Γ.hb.get? f = some of ∧ of.data = .func fd ∧
    (∀ (A : Around) (pl : Sem Bool) (s : Shared) (Q : Value × List Value → Shared → Prop) (E : Value → Shared → Prop), (∀ b o, Γ.hb.get? b = some o → s.heap.get? b = some o) → Q (.ref f, []) { s with toks := s.toks + 1 } → wpAny (model prog Γ.w) A (getMethod (.ref x) name pl) Q E s) ∧
    ∀ (A : Around) (sc : Scope) (L : Addr) (cl : List (Str × Addr)) (ρ : Loc) (α : List Addr) (σ : Sto) (s : Shared) (li ln ls : Nat) (vs : List Value) (ds : List V) (r : V) (σ' : Sto) (Q E : Value → Shared → Prop),
      Room n A → St prog Γ sc L cl ρ α σ s.heap → α[li]? = some ai → α[ln]? = some an → α[ls]? = some as → VAll Γ α s.heap vs ds → spec li ln ls ds σ = some (r, σ') →
      (∀ v tk h' α', St prog Γ sc L cl ρ α' σ' h' → Step L cl α α' s.heap h' → VRel Γ α' h' v r → Q v { s with heap := h', toks := tk }) → wpAny (model prog Γ.w) A (call (.ref f) vs) Q E s
section
variable {prog : Program} {K : Params → Frag} {n : Nat}
theorem handsMake {name : Str} {k : Nat} {frs : Nat → Nat → Nat → List (Str × V)} (hp : Picks name k frs) {params : Arguments} {body : Expr} {scope : Scope} (hsel : HL k = ⟨params, body, scope⟩) {F : PM V} (hbody : JE prog K n scope body F)
    (hg : ∀ P, plainGet (K P) 135 name = true) (hh : ∀ P, hasDictIn (K P) 135 = true) (hc : ∀ P, findIn (K P) (.ref 135) name = some none) (xs : List Str)
    (hbind : ∀ name qual pm cv ctv lcl, ∀ vs : List Value, vs.length = xs.length → bindArgs (kla_fn name qual params body scope lcl pm cv ctv) ⟨vs, []⟩ = pure (xs.zip vs))
    (hnocell : ∀ p ∈ scope.names, p.2 ≠ .cell) (hxs : xs.Nodup) (hloc : ∀ x ∈ xs, scope.names.lookup x = some .local) (hnames : (scope.names.map (·.1)).Nodup) (hfree : ∀ li ln ls x d, (frs li ln ls).lookup x = some d → scope.names.lookup x = some .free)
    (hco : scope.isCoroutine = false) (hgen : scope.isGenerator = false) (hk : scope.kind = .function) {spec : Nat → Nat → Nat → Spec}
    (hspec : ∀ li ln ls ds σ r σ', spec li ln ls ds σ = some (r, σ') → ds.length = xs.length ∧ σ.length ≤ σ'.length ∧ ∃ ρ', F (slots scope.names (xs.zip ds ++ frs li ln ls)) σ = some (r, ρ', σ')) : HandsOk prog K (n + 1) name spec := by
  intro Γ x ai an as G H
  obtain ⟨dx, es, m, f, lcl, h1, h2, h3, h4, h5, h6, h7⟩ := hp Γ x ai an as H
  rw [hsel] at h4
  obtain ⟨qual, pm, c', ctv, ho, hcd⟩ := id h4
  refine ⟨f, _, _, ho, rfl, fun A pl s Q E hk0 hQ => ?_, fun A sc L cl ρ α σ s li ln ls vs ds r σ' Q E R S e1 e2 e3 hv e hQ => ?_⟩
  · have X := G.X.keeps hk0
    have I : InstAt s.heap x (instObj 135 dx) 135 (some (dictOf es m)) := ⟨hk0 _ _ h1, rfl, rfl, hk0 _ _ h2⟩
    refine method_usual X I (plainGet_of (hg _)).1 (plainGet_of (hg _)).2 (hc _) rfl ?_
    exact get_value X I (plainGet_of (hg _)).1 (findObj_own (hh _) (hc _) rfl h3) rfl hQ
  · obtain ⟨g1, g2, ρ', g3⟩ := hspec li ln ls ds σ r σ' e
    exact lamCall G R S h4 hbody hv (by rw [hv.length, g1]) (fun name qual pm cv ctv vs hl => hbind name qual pm cv ctv lcl vs hl) (fun y d q => h7 α s.heap li ln ls e1 e2 e3 y d q) h5 h6 hnocell hxs hloc hnames (hfree li ln ls) hco hgen hk g3 hQ g2
noncomputable def phands (spec : Nat → Nat → Nat → Spec) (a : V) (ds : List V) : PM V := match a with
  | .hands li ln ls => pcall (spec li ln ls) ds
  | _ => fun _ _ => none
noncomputable def isHands (a : V) : Option Unit := match a with
  | .hands _ _ _ => some ()
  | _ => none
theorem JE_hands {sc : Scope} {o e : Expr} {es : List Expr} {name : Str} {ap pos : Pos} {f : PM V} {g : PM (List V)} {spec : Nat → Nat → Nat → Spec} (h1 : JE prog K n sc o f) (ha : JA prog K n sc pos (e :: es) g) (hc : HandsOk prog K n name spec)
    (hm : ∀ env, ∃ pl, eval (.Call (.Attribute o name ap) (e :: es) [] pos) env = (do
      let ov ← eval o env
      standAt ap.atName
      let (f, first) ← holding [ov] (getMethod ov name pl)
      callWith pos f first (backTo pos (starEach (e :: es) env)) []))
    (he : ∀ env, starEach (e :: es) env = (false, eval e env) :: starEach es env) (hpl : ∀ env, (backTo pos (starEach es env)).any (·.1) = false) :
    JE prog K n sc (.Call (.Attribute o name ap) (e :: es) [] pos) (pbind f fun a => pbind (plift (isHands a)) fun _ => pbind g fun ds => phands spec a ds) := by
  intro Γ A env ρ α σ c ρ' σ' s Q E G hf' R O S hQ
  refine pbind_elim hf' fun a ρ1 σ1 e1 hf1 => ?_
  obtain ⟨⟨⟩, ρ2, σ2, e2, hf2⟩ := pbind_some hf1
  obtain ⟨e3, rfl, rfl⟩ := plift_some e2
  refine pbind_elim hf2 fun ds ρ3 σ3 e4 hf3 => ?_
  obtain ⟨pl, hm'⟩ := hm env
  refine MethodCall_ (pl := pl) (h1 Γ A env ρ α σ a _ _ s _ E G e1 R O S fun v1 tk1 H1 α1 S1 T1 r1 => ?_) hm'
  unfold isHands at e3
  split at e3
  · rename_i li ln ls
    cases r1 with
    | hands a1 a2 a3 H =>
      obtain ⟨fv, of, fd, ho, hd, hget, hcall⟩ := hc Γ _ _ _ _ G H
      refine hget A pl { s with heap := H1, toks := tk1 } _ _ S1.keep ?_
      obtain ⟨e5, rfl⟩ := pcall_some hf3
      dsimp only
      have hargs : wpAny (model prog Γ.w) A (spliced (backTo pos (starEach (e :: es) env))) _ _ _ := ha Γ A env _ α1 _ ds _ σ3 { s with heap := H1, toks := tk1 + 1 } (fun vs s₁ => s₁.heap.get? fv = some of ∧ wpAny (model prog Γ.w) A (call (.ref fv) ([] ++ vs)) Q E s₁) E G e4 R O S1 fun vs tk2 H2 α2 S2 T2 r2 => ⟨S2.keep _ _ ho, by
        rw [List.nil_append]
        exact hcall A sc env.locals env.cells _ α2 σ3 _ li ln ls vs ds c σ' Q E R S2 (T2.get a1) (T2.get a2) (T2.get a3) r2 e5 fun v tk h' α' S' T' hv => hQ v tk h' α' S' ((T1.trans T2).trans T') hv⟩
      rw [he env] at hargs ⊢
      refine callWith_of (P := fun h => h.get? fv = some of) (by show ((false || (backTo pos (starEach es env)).any (·.1)) || false) = false; rw [hpl]; rfl) (fun h X => ⟨.frame, .inl rfl, ?_⟩) (evalArgs_plain hargs)
      unfold keeperOf
      refine (Looks.ld (part := none) X).andThen ?_
      rw [hd]
      exact .now
  · cases e3
end
end Mine
namespace Mine
open PySem PySem.W PySem.Calls PyProof.Rows
inductive PairRel (Γ : Fix) (α : List Addr) (h : Heap) : List (Value × Value) → List (Str × V) → Prop
  | nil : PairRel Γ α h [] []
  | cons {x : Str} {t : Tok} {v : Value} {d : V} {vs : List (Value × Value)} {ds : List (Str × V)} : VRel Γ α h v d → PairRel Γ α h vs ds → PairRel Γ α h ((.str x t, v) :: vs) ((x, d) :: ds)
theorem PairRel.carries {prog : Program} {Γ : Fix} {α : List Addr} {h : Heap} {vs : List (Value × Value)} {ds : List (Str × V)} (y : PairRel Γ α h vs ds) : ∃ kvs, Carries (strKind prog Γ.w) vs kvs ∧ KvAll Γ α h kvs ds ∧ kvs.map (·.1) = ds.map (·.1) := by
  induction y with
  | nil => exact ⟨[], trivial, .nil, rfl⟩
  | @cons x _ v _ _ _ a b ih =>
    obtain ⟨kvs, h1, h2, h3⟩ := ih
    exact ⟨(x, v) :: kvs, ⟨strKind_is prog Γ.w _ _, rfl, h1⟩, .cons a h2, by rw [List.map_cons, List.map_cons, h3]⟩
section
variable {prog : Program} {K : Params → Frag} {n : Nat} {sc : Scope}
abbrev JD (prog : Program) (K : Params → Frag) (n : Nat) (sc : Scope) (pos : Pos) (ks : List (Option Expr)) (vs : List Expr) (f : PM (List (Str × V))) : Prop := Tri prog K n sc (fun env => evalPairs (pairTrees ks vs env pos)) f PairRel
theorem JD_nil {pos : Pos} : JD prog K n sc pos [] [] (pret []) := by
  intro Γ A env ρ α σ c ρ' σ' s Q E G hf R O S hQ
  obtain ⟨rfl, rfl, rfl⟩ := pret_some hf
  exact pairTrees_nil_walk (hQ _ s.toks s.heap α S (Step.refl ..) .nil)
theorem JD_cons {pos p : Pos} {k : Nat} {x : Str} {e : Expr} {ks : List (Option Expr)} {vs : List Expr} {f : PM V} {g : PM (List (Str × V))} (h1 : JE prog K n sc e f) (h2 : JD prog K n sc pos ks vs g) :
    JD prog K n sc pos (some (.Constant (.str x) k p) :: ks) (e :: vs) (pbind f fun a => pbind g fun as => pret ((x, a) :: as)) := by
  intro Γ A env ρ α σ c ρ' σ' s Q E G hf R O S hQ
  refine pbind_elim hf fun a ρ1 σ1 e1 hf1 => ?_
  refine pbind_elim hf1 fun as ρ2 σ2 e2 hf2 => ?_
  obtain ⟨rfl, rfl, rfl⟩ := pret_some hf2
  refine pairTrees_cons_walk (wpAny_Constant_str ?_)
  refine h1 Γ A env ρ α σ a ρ1 σ1 _ _ E G e1 R O S fun v1 tk1 H1 α1 S1 T1 r1 => ?_
  exact h2 Γ A env ρ1 α1 σ1 as _ _ _ _ E G e2 R O S1 fun v2 tk2 H2 α2 S2 T2 r2 => hQ _ tk2 H2 α2 S2 (T1.trans T2) (.cons (S1.up T2 r1) r2)
noncomputable def pdict (es : List (Str × V)) : PM V := fun ρ σ => if es.length ≤ 15 ∧ (es.map (·.1)).Nodup then some (.loc σ.length, ρ, σ ++ [.dict es]) else none
theorem JE_dict {pos : Pos} {ks : List (Option Expr)} {vs : List Expr} {g : PM (List (Str × V))} (h1 : JD prog K n sc pos ks vs g) (hall : ks.all (·.isSome) = true) (hl : ks.length = vs.length) (h0 : ks ≠ []) (hlen : ks.length ≤ 15) :
    JE prog K n sc (.Dict ks vs pos) (pbind g pdict) := by
  intro Γ A env ρ α σ c ρ' σ' s Q E G hf R O S hQ
  refine pbind_elim hf fun es ρ1 σ1 e1 hf1 => ?_
  unfold pdict at hf1
  split at hf1
  · rename_i hes
    cases hf1
    have kp : ∀ b o, s.heap.get? b = some o → (s.heap.push { cls := .type "dict", data := .dict #[] }).get? b = some o := fun b o e => Heap.get?_push_of_some _ e
    have hn : s.heap.get? s.heap.objs.size = none := Heap.get?_none_of_le (Nat.le_refl _)
    obtain ⟨d1, d2, d3, d4⟩ := S.dead hn
    have S0 := S.keeps kp
    refine wpAny_Dict_walk (knd := strKind prog Γ.w) hall hl h0 hlen (h1 Γ A env ρ α σ es _ σ1 { s with heap := s.heap.push { cls := .type "dict", data := .dict #[] } } _ E G e1 R O S0 fun vs1 tk1 H1 α1 S1 T1 r1 => ?_)
    obtain ⟨kvs, c1, c2, c3⟩ := r1.carries (prog := prog)
    have hD : (s.heap.push { cls := .type "dict", data := .dict #[] }).get? s.heap.objs.size = some { cls := .type "dict", data := .dict #[] } := Heap.get?_push_size _ rfl
    have hD1 := T1.frame _ _ hD d2 (fun p hp => (d3 p hp).symm) d1
    obtain ⟨β, eβ, fβ⟩ := T1.pre
    have dα1 : s.heap.objs.size ∉ α1 := fun q => by
      rw [eβ] at q
      rcases List.mem_append.mp q with q | q
      · exact d1 q
      · rw [fβ _ q] at hD; cases hD
    obtain ⟨oN, esN, epN, hoN, hcN, hdN, hkN, hpN, hnN⟩ := Heap.DictOf.new (knd := strKind prog Γ.w) s.heap
    rw [hD] at hoN; cases hoN
    refine ⟨kvs, c1, ⟨_, esN, epN, hD1, hcN, hdN, hkN, hpN, hnN⟩, fun h' hd' hs' => ?_⟩
    have hm : merged [] kvs = kvs := merged_nil_of_nodup kvs (by rw [c3]; exact hes.2)
    rw [hm] at hd'
    have hx := hs'.extBut
    -- the dict enters the store
    have notD : ∀ b o, Γ.hb.get? b = some o → b ≠ s.heap.objs.size := fun b o e q => by rw [q, d4] at e; cases e
    have T' : Step env.locals env.cells α (α1 ++ [s.heap.objs.size]) s.heap h' := by
      refine ⟨⟨β ++ [s.heap.objs.size], by rw [eβ, List.append_assoc], fun a ha => ?_⟩, fun b o e => ?_, fun b o e q1 q2 q3 => ?_⟩
      · rcases List.mem_append.mp ha with ha | ha
        · have := fβ a ha
          cases q : s.heap.get? a with
          | none => rfl
          | some o => rw [kp a o q] at this; cases this
        · rw [List.mem_singleton.mp ha]; exact hn
      · obtain ⟨o', ho'⟩ := T1.alive b o (kp b o e)
        exact ⟨o', hx b o' (fun z => by rw [z, hn] at e; cases e) ho'⟩
      · exact hx b o (fun z => by rw [z, hn] at e; cases e) (T1.frame b o (kp b o e) q1 q2 q3)
    have up : ∀ v d, VRel Γ α1 H1 v d → VRel Γ (α1 ++ [s.heap.objs.size]) h' v d := fun v d x =>
      x.mono (fun i a e => by rw [List.getElem?_append_left (List.getElem?_eq_some_iff.mp e).1]; exact e) (fun a items e => e.extBut hx fun z => by
          obtain ⟨o', ho', hc', _, hd''⟩ := e
          rw [z, hD1] at ho'; cases ho'
          cases hd'') (fun a lo hi t u v e => hx a _ (fun z => by
          rw [IsRange, z, hD1] at e
          exact absurd (Value.type.inj (congrArg Obj.cls (Option.some.inj e))) (by decide)) e) fun c q y => by
        obtain ⟨c', oc, vc, t, e', hoc, hdc, hvc⟩ := y
        cases e'
        exact ⟨c, oc, vc, t, rfl, hx c oc (fun z => by rw [z, hD1] at hoc; cases hoc; cases hdc) hoc, hdc, hvc⟩
    have S' : St prog Γ sc env.locals env.cells ρ' (α1 ++ [s.heap.objs.size]) (σ1 ++ [.dict es]) h' := by
      refine ⟨fun b o e => hx b o (notD b o e) (S1.keep b o e), by rw [List.length_append, List.length_append, S1.len]; rfl, fun i c' e => ?_, ?_, S1.hbL, ?_, ?_, fun p hp => ?_, S1.own, S1.apart, S1.names⟩
      · by_cases hi : i < σ1.length
        · rw [List.getElem?_append_left hi] at e
          obtain ⟨b, q1, x, q2⟩ := S1.cell i c' e
          have hlt := (List.getElem?_eq_some_iff.mp q1).1
          exact ⟨b, by rw [List.getElem?_append_left hlt]; exact q1, x.mp (fun o q => hx b o (fun z => dα1 (z ▸ List.mem_of_getElem? q1)) q) up, q2⟩
        · have hlen : i = σ1.length := by
            have := (List.getElem?_eq_some_iff.mp e).1
            rw [List.length_append, List.length_singleton] at this
            lia
          subst hlen
          rw [List.getElem?_append_right (Nat.le_refl _), Nat.sub_self] at e
          cases e
          refine ⟨_, ?_, .dict hd' (c2.mono up) (by rw [c2.length]; lia), d4⟩
          rw [List.getElem?_append_right (by rw [S1.len]; exact Nat.le_refl _), S1.len, Nat.sub_self]; rfl
      · exact List.nodup_append.mpr ⟨S1.nodup, by simp, fun x hx y hy q => dα1 (by rw [List.mem_singleton.mp hy] at q; exact q ▸ hx)⟩
      · intro q
        rcases List.mem_append.mp q with q | q
        · exact S1.Lα q
        · exact d2 (List.mem_singleton.mp q).symm
      · obtain ⟨m, hns, hs⟩ := S1.fr
        refine ⟨m, hns.extBut hx (Ne.symm d2), fun i d e => ?_⟩
        obtain ⟨x, k', e', s⟩ := hs i d e
        refine ⟨x, k', e', s.mp up fun c v hcl q => ?_⟩
        obtain ⟨o, ho, hd⟩ := q
        exact ⟨o, hx c o (d3 (x, c) (mem_of_lookup hcl)) ho, hd⟩
      · obtain ⟨q1, q2, v, o, ho, hd⟩ := S1.cells p hp
        refine ⟨fun q => ?_, q2, v, o, hx _ o (d3 p hp) ho, hd⟩
        rcases List.mem_append.mp q with q | q
        · exact q1 q
        · exact d3 p hp (List.mem_singleton.mp q)
    refine hQ _ _ h' _ S' T' (.loc ?_)
    rw [List.getElem?_append_right (by rw [S1.len]; exact Nat.le_refl _), S1.len, Nat.sub_self]; rfl
  · cases hf1
end
end Mine
namespace Mine
open PySem PySem.W PySem.Calls PyProof.Rows
inductive Cap (outer : List (Str × NameKind)) : List (Str × NameKind) → List (Str × NameKind) → List (Option Nat) → Prop
  | nil : Cap outer [] [] []
  | loc {x : Str} {r r' : List (Str × NameKind)} {is : List (Option Nat)} : Cap outer r r' is → Cap outer ((x, .local) :: r) ((x, .local) :: r') (none :: is)
  | glob {x : Str} {r r' : List (Str × NameKind)} {is : List (Option Nat)} : Cap outer r r' is → Cap outer ((x, .globalImplicit) :: r) ((x, .globalImplicit) :: r') (none :: is)
  | cell {x : Str} {i : Nat} {r r' : List (Str × NameKind)} {is : List (Option Nat)} : At outer x i .cell → Cap outer r r' is → Cap outer ((x, .free) :: r) ((x, .cell) :: r') (some i :: is)
theorem Cap.relabel {outer names names' : List (Str × NameKind)} {is : List (Option Nat)} (h : Cap outer names names' is) (hn : (outer.map (·.1)).Nodup) {env : Env} {sc : Scope} (O : EnvOk env sc) (ho : sc.names = outer) :
    (names.map fun (n, k) => if (k == NameKind.free && env.scope.kind == .function && env.kindOf n == some .cell) then (n, NameKind.cell) else (n, k)) = names' := by
  induction h with
  | nil => rfl
  | loc _ ih => rw [List.map_cons, ih]; rfl
  | glob _ ih => rw [List.map_cons, ih]; rfl
  | cell hat _ ih =>
    rw [List.map_cons, ih]
    have h1 := (slotOf_get (hat.slot hn)).2
    rw [← ho] at h1
    simp only [O.k, O.kindOf, h1]
    rfl
theorem Cap.keys {outer names names' : List (Str × NameKind)} {is : List (Option Nat)} (h : Cap outer names names' is) : names'.map (·.1) = names.map (·.1) := by
  induction h with
  | nil => rfl
  | loc _ ih => rw [List.map_cons, ih]; rfl
  | glob _ ih => rw [List.map_cons, ih]; rfl
  | cell _ _ ih => rw [List.map_cons, ih]; rfl
theorem Cap.get {outer names names' : List (Str × NameKind)} {is : List (Option Nat)} (h : Cap outer names names' is) : ∀ {j i : Nat}, is[j]? = some (some i) → ∃ x, names'[j]? = some (x, NameKind.cell) ∧ At outer x i NameKind.cell ∧ (x, NameKind.free) ∈ names := by
  induction h with
  | nil => intro j i e; simp at e
  | loc _ ih =>
    intro j i e
    cases j with
    | zero => simp at e
    | succ j => obtain ⟨x, h1, h2, h3⟩ := ih (by simpa using e); exact ⟨x, by simpa using h1, h2, List.mem_cons_of_mem _ h3⟩
  | glob _ ih =>
    intro j i e
    cases j with
    | zero => simp at e
    | succ j => obtain ⟨x, h1, h2, h3⟩ := ih (by simpa using e); exact ⟨x, by simpa using h1, h2, List.mem_cons_of_mem _ h3⟩
  | cell hat _ ih =>
    intro j i e
    cases j with
    | zero => cases e; exact ⟨_, rfl, hat, List.mem_cons_self ..⟩
    | succ j => obtain ⟨x, h1, h2, h3⟩ := ih (by simpa using e); exact ⟨x, by simpa using h1, h2, List.mem_cons_of_mem _ h3⟩
theorem Cap.free {outer names names' : List (Str × NameKind)} {is : List (Option Nat)} (h : Cap outer names names' is) : ∀ {x : Str}, (x, NameKind.free) ∈ names → ∃ (j i : Nat), is[j]? = some (some i) ∧ names'[j]? = some (x, NameKind.cell) ∧ At outer x i NameKind.cell := by
  induction h with
  | nil => intro x e; simp at e
  | loc _ ih =>
    intro x e
    rcases List.mem_cons.mp e with e | e
    · cases e
    · obtain ⟨j, i, h1, h2, h3⟩ := ih e; exact ⟨j + 1, i, by simpa using h1, by simpa using h2, h3⟩
  | glob _ ih =>
    intro x e
    rcases List.mem_cons.mp e with e | e
    · cases e
    · obtain ⟨j, i, h1, h2, h3⟩ := ih e; exact ⟨j + 1, i, by simpa using h1, by simpa using h2, h3⟩
  | cell hat _ ih =>
    intro x e
    rcases List.mem_cons.mp e with e | e
    · cases e; exact ⟨0, _, rfl, rfl, hat⟩
    · obtain ⟨j, i, h1, h2, h3⟩ := ih e; exact ⟨j + 1, i, by simpa using h1, by simpa using h2, h3⟩
theorem Cap.nocell {outer names names' : List (Str × NameKind)} {is : List (Option Nat)} (h : Cap outer names names' is) : ∀ y ∈ names, y.2 ≠ .cell := by
  induction h with
  | nil => intro y hy; cases hy
  | loc _ ih => intro y hy; rcases List.mem_cons.mp hy with rfl | hy; · simp
                exact ih y hy
  | glob _ ih => intro y hy; rcases List.mem_cons.mp hy with rfl | hy; · simp
                 exact ih y hy
  | cell _ _ ih => intro y hy; rcases List.mem_cons.mp hy with rfl | hy; · simp
                   exact ih y hy
theorem Cap.cells {outer names names' : List (Str × NameKind)} {is : List (Option Nat)} (h : Cap outer names names' is) : ∀ {x : Str}, (x, NameKind.cell) ∈ names' → (x, NameKind.free) ∈ names := by
  induction h with
  | nil => intro x e; simp at e
  | loc _ ih => intro x e; rcases List.mem_cons.mp e with e | e; · cases e
                exact List.mem_cons_of_mem _ (ih e)
  | glob _ ih => intro x e; rcases List.mem_cons.mp e with e | e; · cases e
                 exact List.mem_cons_of_mem _ (ih e)
  | cell _ _ ih => intro x e; rcases List.mem_cons.mp e with e | e; · cases e; exact List.mem_cons_self ..
                   exact List.mem_cons_of_mem _ (ih e)
noncomputable def closOf (cells : List (Str × Addr)) : List (Str × NameKind) → List (Str × Addr) → List (Str × Addr)
  | [], acc => acc
  | (x, k) :: r, acc => if k == .free then match cells.lookup x with
      | some c => closOf cells r ((x, c) :: acc)
      | none => closOf cells r acc
    else closOf cells r acc
theorem closureFor_of {env : Env} {scope : Scope} (h : ∀ x, (x, NameKind.free) ∈ scope.names → ∃ c, env.cells.lookup x = some c) : closureFor scope env = pure (closOf env.cells scope.names []) := by
  unfold closureFor
  generalize scope.names = names at h
  suffices H : ∀ acc, (forIn (m := Sem) names acc fun x cs => do
      let cs ← (if x.2 == .free then do let c ← cellOf env x.1; pure ((x.1, c) :: cs) else pure cs)
      pure (ForInStep.yield cs)) = pure (closOf env.cells names acc) by
    have := H []
    refine Eq.trans ?_ (this)
    show (forIn (m := Sem) names [] _ >>= fun cs => pure cs) = _
    rw [bind_pure]
    congr 1
    funext x cs
    obtain ⟨n, k⟩ := x
    dsimp only
    cases hk : k == NameKind.free <;> simp
  induction names with
  | nil => intro acc; rfl
  | cons p r ih =>
    intro acc
    obtain ⟨x, k⟩ := p
    rw [List.forIn_cons]
    unfold closOf
    cases hk : k == NameKind.free with
    | true =>
      obtain ⟨c, hc⟩ := h x (by rw [beq_iff_eq.mp hk]; exact List.mem_cons_self ..)
      have e1 : cellOf env x = pure c := by unfold cellOf; rw [hc]
      simp only [if_true, e1, pure_bind, hc]
      exact ih (fun y hy => h y (List.mem_cons_of_mem _ hy)) _
    | false =>
      simp only [Bool.false_eq_true, if_false, pure_bind]
      exact ih (fun y hy => h y (List.mem_cons_of_mem _ hy)) _
theorem closOf_mem {cells : List (Str × Addr)} : ∀ {names : List (Str × NameKind)} {acc : List (Str × Addr)} {p : Str × Addr}, p ∈ closOf cells names acc → p ∈ acc ∨ (cells.lookup p.1 = some p.2 ∧ (p.1, NameKind.free) ∈ names)
  | [], _, _, h => .inl h
  | (x, k) :: r, acc, p, h => by
    unfold closOf at h
    split at h
    · rename_i hk
      split at h
      · rename_i c hc
        rcases closOf_mem h with h | ⟨h1, h2⟩
        · rcases List.mem_cons.mp h with rfl | h
          · exact .inr ⟨hc, by rw [beq_iff_eq.mp hk]; exact List.mem_cons_self ..⟩
          · exact .inl h
        · exact .inr ⟨h1, List.mem_cons_of_mem _ h2⟩
      · rcases closOf_mem h with h | ⟨h1, h2⟩
        · exact .inl h
        · exact .inr ⟨h1, List.mem_cons_of_mem _ h2⟩
    · rcases closOf_mem h with h | ⟨h1, h2⟩
      · exact .inl h
      · exact .inr ⟨h1, List.mem_cons_of_mem _ h2⟩
theorem closOf_has {cells : List (Str × Addr)} {x : Str} {c : Addr} (hc : cells.lookup x = some c) : ∀ {names : List (Str × NameKind)} {acc : List (Str × Addr)}, ((x, c) ∈ acc ∨ (x, NameKind.free) ∈ names) → (x, c) ∈ closOf cells names acc
  | [], _, h => by rcases h with h | h; · exact h
                   cases h
  | (y, k) :: r, acc, h => by
    unfold closOf
    split
    · rename_i hk
      split
      · rename_i c' hc'
        apply closOf_has hc
        rcases h with h | h
        · exact .inl (List.mem_cons_of_mem _ h)
        · rcases List.mem_cons.mp h with h | h
          · cases h; rw [hc] at hc'; cases hc'; exact .inl (List.mem_cons_self ..)
          · exact .inr h
      · rename_i hc'
        apply closOf_has hc
        rcases h with h | h
        · exact .inl h
        · rcases List.mem_cons.mp h with h | h
          · cases h; rw [hc] at hc'; cases hc'
          · exact .inr h
    · rename_i hk
      apply closOf_has hc
      rcases h with h | h
      · exact .inl h
      · rcases List.mem_cons.mp h with h | h
        · cases h; exact absurd rfl hk
        · exact .inr h
theorem closOf_keys {cells : List (Str × Addr)} : ∀ {names : List (Str × NameKind)} {acc : List (Str × Addr)}, (names.map (·.1)).Nodup → (acc.map (·.1)).Nodup → (∀ x ∈ acc.map (·.1), x ∉ names.map (·.1)) → ((closOf cells names acc).map (·.1)).Nodup
  | [], _, _, h, _ => h
  | (x, k) :: r, acc, hn, ha, hd => by
    rw [List.map_cons, List.nodup_cons] at hn
    have hd' : ∀ y ∈ acc.map (·.1), y ∉ r.map (·.1) := fun y hy q => hd y hy (List.mem_cons_of_mem _ q)
    unfold closOf
    split
    · split
      · refine closOf_keys hn.2 ?_ ?_
        · rw [List.map_cons, List.nodup_cons]
          exact ⟨fun q => hd x q (List.mem_cons_self ..), ha⟩
        · intro y hy
          rw [List.map_cons] at hy
          rcases List.mem_cons.mp hy with rfl | hy
          · exact hn.1
          · exact hd' y hy
      · exact closOf_keys hn.2 ha hd'
    · exact closOf_keys hn.2 ha hd'
noncomputable def capt (ρ : Loc) : List (Option Nat) → Loc
  | [] => []
  | none :: is => none :: capt ρ is
  | some i :: is => (ρ[i]?).getD none :: capt ρ is
theorem capt_get {ρ : Loc} : ∀ {is : List (Option Nat)} {j : Nat} {d : V}, (capt ρ is)[j]? = some (some d) → ∃ i, is[j]? = some (some i) ∧ ρ[i]? = some (some d)
  | [], _, _, e => by simp [capt] at e
  | o :: is, 0, d, e => by
    cases o with
    | none => simp [capt] at e
    | some i =>
      simp only [capt, List.getElem?_cons_zero, Option.some.injEq] at e
      refine ⟨i, rfl, ?_⟩
      cases q : ρ[i]? with
      | none => rw [q] at e; cases e
      | some x => rw [q] at e; exact congrArg some e
  | o :: is, j + 1, d, e => by
    have e' : (capt ρ is)[j]? = some (some d) := by cases o <;> simpa [capt] using e
    obtain ⟨i, h1, h2⟩ := capt_get e'
    exact ⟨i, by simpa using h1, h2⟩
theorem capt_of {ρ : Loc} : ∀ {is : List (Option Nat)} {j i : Nat} {d : V}, is[j]? = some (some i) → ρ[i]? = some (some d) → (capt ρ is)[j]? = some (some d)
  | [], _, _, _, e, _ => by simp at e
  | o :: is, 0, i, d, e, h => by
    simp only [List.getElem?_cons_zero, Option.some.injEq] at e
    subst e
    simp [capt, h]
  | o :: is, j + 1, i, d, e, h => by
    have := capt_of (is := is) (j := j) (by simpa using e) h
    cases o <;> simpa [capt] using this
noncomputable def subLoc : Loc → Loc → Prop
  | [], _ => True
  | none :: r, [] => subLoc r []
  | none :: r, _ :: r' => subLoc r r'
  | some _ :: _, [] => False
  | some d :: r, x :: r' => x = some d ∧ subLoc r r'
theorem subLoc_get : ∀ {a b : Loc}, subLoc a b → ∀ {i : Nat} {d : V}, a[i]? = some (some d) → b[i]? = some (some d)
  | [], _, _, _, _, e => by simp at e
  | none :: r, [], h, 0, _, e => by simp at e
  | none :: r, [], h, i + 1, _, e => by
    have := subLoc_get (a := r) (b := []) h (i := i) (by simpa using e)
    simp at this
  | none :: r, _ :: r', h, 0, _, e => by simp at e
  | none :: r, _ :: r', h, i + 1, _, e => by simpa using subLoc_get (a := r) h (i := i) (by simpa using e)
  | some _ :: _, [], h, _, _, _ => h.elim
  | some d :: r, x :: r', h, 0, _, e => by
    simp only [List.getElem?_cons_zero, Option.some.injEq] at e
    subst e
    simp [h.1]
  | some d :: r, x :: r', h, i + 1, _, e => by simpa using subLoc_get (a := r) h.2 (i := i) (by simpa using e)
section
variable {prog : Program} {Γ : Fix} {sc sc' : Scope} {L C : Addr} {cl cl' : List (Str × Addr)} {ρ ρ' : Loc} {α α' : List Addr} {σ σ' : Sto} {h h' : Heap}
theorem St.weaken (S : St prog Γ sc L cl ρ α σ h) (w : ∀ (i : Nat) (d : V), ρ'[i]? = some (some d) → ρ[i]? = some (some d)) : St prog Γ sc L cl ρ' α σ h := by
  obtain ⟨a, b, c, d, e, f, g, i, j, k, l⟩ := S
  obtain ⟨m, h1, h2⟩ := g
  exact ⟨a, b, c, d, e, f, ⟨m, h1, fun i d q => h2 i d (w i d q)⟩, i, j, k, l⟩
theorem St.away (S : St prog Γ sc L cl ρ α σ h) (hx : Heap.ExtBut C h h') (n1 : C ≠ L) (n2 : ∀ p ∈ cl, C ≠ p.2) (n3 : C ∉ α) (hbn : Γ.hb.get? C = none) (nt : ∀ items, ¬ h.IsTuple C items) (nr : (∀ lo hi t u v, ¬ IsRange h C lo hi 1 t u v) ∧ ∀ q, ¬ h.CodeRec (.ref C) q) :
    St prog Γ sc L cl ρ α σ h' ∧ (∀ v d, VRel Γ α h v d → VRel Γ α h' v d) := by
  have up : ∀ v d, VRel Γ α h v d → VRel Γ α h' v d := fun v d y => y.mono (fun _ _ e => e) (fun a items z => z.extBut hx fun q => nt items (q ▸ z)) (fun a lo hi t u v z => hx a _ (fun q => nr.1 lo hi t u v (q ▸ z)) z) fun c q z => by
    have hne : c ≠ C := fun w => nr.2 q (w ▸ z)
    obtain ⟨c', o, vs, t, e, ho, r⟩ := z
    cases e
    exact ⟨c, o, vs, t, rfl, hx c o hne ho, r⟩
  refine ⟨⟨fun b o q => hx b o (fun z => by rw [z, hbn] at q; cases q) (S.keep b o q), S.len, fun j c q => ?_, S.nodup, S.hbL, S.Lα, ?_, fun p hp => ?_, S.own, S.apart, S.names⟩, up⟩
  · obtain ⟨a, e1, y, e2⟩ := S.cell j c q
    exact ⟨a, e1, y.mp (fun o z => hx a o (fun w => n3 (w ▸ List.mem_of_getElem? e1)) z) up, e2⟩
  · obtain ⟨m, hn, hs⟩ := S.fr
    refine ⟨m, hn.extBut hx (Ne.symm n1), fun i d q => ?_⟩
    obtain ⟨y, k', e', s⟩ := hs i d q
    refine ⟨y, k', e', s.mp up fun c v hcl z => ?_⟩
    obtain ⟨o, ho, hd⟩ := z
    exact ⟨o, hx c o (Ne.symm (n2 (y, c) (mem_of_lookup hcl))) ho, hd⟩
  · obtain ⟨h1, h2, v, o, ho, hd⟩ := S.cells p hp
    exact ⟨h1, h2, v, o, hx _ o (Ne.symm (n2 p hp)) ho, hd⟩
theorem ns_noTuple {m : Str → Option Value} (x : h.Ns C m) : (∀ items, ¬ h.IsTuple C items) ∧ (∀ lo hi t u v, ¬ IsRange h C lo hi 1 t u v) ∧ ∀ q, ¬ h.CodeRec (.ref C) q := by
  obtain ⟨o, es, ep, ho, hd, _⟩ := x
  refine ⟨fun items z => ?_, fun lo hi t u v z => ?_, fun q z => ?_⟩
  · obtain ⟨o', ho', _, n, hd'⟩ := z
    rw [ho] at ho'; cases ho'; rw [hd] at hd'; cases hd'
  · rw [IsRange, ho] at z; cases z; cases hd
  · obtain ⟨c', o', vs, t, e, ho', hd', _⟩ := z
    cases e
    rw [ho] at ho'; cases ho'; rw [hd] at hd'; cases hd'
theorem St.comp {names' : List (Str × NameKind)} {is : List (Option Nat)} (S : St prog Γ sc L cl ρ α σ h) {scope : Scope} (hcap : Cap sc.names scope.names names' is) (hnd : (scope.names.map (·.1)).Nodup) {m : Str → Option Value} (hC : h'.Ns C m) (hCn : h.get? C = none)
    (hs : ∀ b o, h.get? b = some o → h'.get? b = some o) :
    St prog Γ { scope with names := names' } C (closOf cl scope.names []) (capt ρ is) α σ h' := by
  obtain ⟨d1, d2, d3, d4⟩ := S.dead hCn
  have S' := S.keeps hs
  have N := S.names
  have hkeys : (names'.map (·.1)).Nodup := by rw [hcap.keys]; exact hnd
  have sub : ∀ p ∈ closOf cl scope.names [], cl.lookup p.1 = some p.2 ∧ (p.1, NameKind.free) ∈ scope.names := fun p hp => by
    rcases closOf_mem hp with q | q
    · cases q
    · exact q
  have hlook : ∀ {x : Str} {c : Addr}, cl.lookup x = some c → (x, NameKind.free) ∈ scope.names → (closOf cl scope.names []).lookup x = some c := fun hc hm =>
    lookup_of_mem (closOf_keys hnd (by simp) (by simp)) (closOf_has hc (.inr hm))
  refine ⟨S'.keep, S'.len, S'.cell, S'.nodup, d4, d1, ⟨m, hC, fun j d e => ?_⟩, fun p hp => ?_, fun x hx => ?_, ?_, hkeys⟩
  · obtain ⟨i, e1, e2⟩ := capt_get e
    obtain ⟨x, g1, g2, g3⟩ := hcap.get e1
    obtain ⟨m', hn', hsl⟩ := S'.fr
    obtain ⟨x', k', q1, ⟨v, q2, q3, q4⟩⟩ := hsl i d e2
    have g4 := (slotOf_get (g2.slot N)).1
    rw [q1] at g4; cases g4
    obtain ⟨c, c1, c2⟩ := q4 (.inl rfl)
    exact ⟨x, .cell, g1, ⟨v, q2, (fun z => by cases z), fun _ => ⟨c, hlook c1 g3, c2⟩⟩⟩
  · obtain ⟨h1, h2⟩ := sub p hp
    have hmem := mem_of_lookup h1
    obtain ⟨q1, q2, v, q3⟩ := S'.cells _ hmem
    exact ⟨q1, d3 _ hmem, v, q3⟩
  · have hm : (x, NameKind.cell) ∈ names' := mem_of_lookup hx
    have hf := hcap.cells hm
    obtain ⟨j, i, _, _, hat⟩ := hcap.free hf
    obtain ⟨c, c1, c2⟩ := S.own x (slotOf_get (hat.slot N)).2
    exact ⟨c, hlook c1 hf, c2⟩
  · have hk := closOf_keys (cells := cl) (acc := []) hnd (by simp) (by simp)
    have key : ∀ l : List (Str × Addr), (∀ p ∈ l, p ∈ cl) → (l.map (·.1)).Nodup → l.Pairwise fun x y => x.2 ≠ y.2 := by
      intro l
      induction l with
      | nil => intro _ _; exact List.Pairwise.nil
      | cons p r ih =>
        intro hsub hnd
        rw [List.map_cons, List.nodup_cons] at hnd
        refine List.pairwise_cons.mpr ⟨fun q hq z => ?_, ih (fun q hq => hsub q (List.mem_cons_of_mem _ hq)) hnd.2⟩
        have h1 := hsub p (List.mem_cons_self ..)
        have h2 := hsub q (List.mem_cons_of_mem _ hq)
        obtain ⟨x, c⟩ := p
        obtain ⟨y, c'⟩ := q
        dsimp only at z
        subst z
        have := name_of_addr S.apart h1 h2
        subst this
        exact hnd.1 (List.mem_map.mpr ⟨_, hq, rfl⟩)
    exact key _ (fun p hp => mem_of_lookup (sub p hp).1) hk
theorem St.uncomp {names' : List (Str × NameKind)} {is : List (Option Nat)} (S : St prog Γ sc L cl ρ α σ h) {scope : Scope} (hcap : Cap sc.names scope.names names' is)
    (hCn : h.get? C = none) (S' : St prog Γ { scope with names := names' } C (closOf cl scope.names []) (capt ρ is) α' σ' h') (T : Step C (closOf cl scope.names []) α α' h h') :
    St prog Γ sc L cl ρ α' σ' h' ∧ Step L cl α α' h h' := by
  have N := S.names
  have sub : ∀ p ∈ closOf cl scope.names [], cl.lookup p.1 = some p.2 ∧ (p.1, NameKind.free) ∈ scope.names := fun p hp => by
    rcases closOf_mem hp with q | q
    · cases q
    · exact q
  obtain ⟨pre, alive, frame⟩ := T
  have neC : ∀ b o, h.get? b = some o → b ≠ C := fun b o e z => by rw [z, hCn] at e; cases e
  have T' : Step L cl α α' h h' := ⟨pre, alive, fun b o e q1 q2 q3 => frame b o e (neC b o e) (fun p hp => q2 p (mem_of_lookup (sub p hp).1)) q3⟩
  have up : ∀ v d, VRel Γ α h v d → VRel Γ α' h' v d := fun v d x => S.up T' x
  obtain ⟨β, eα, fβ⟩ := pre
  have notα : ∀ b o, h.get? b = some o → b ∉ α → b ∉ α' := fun b o e hb q => by
    rw [eα] at q
    rcases List.mem_append.mp q with q | q
    · exact hb q
    · rw [fβ b q] at e; cases e
  obtain ⟨m, hn, hs⟩ := S.fr
  obtain ⟨oL, esL, epL, hoL, hdL, rL⟩ := id hn
  have hL' : h'.get? L = some oL := frame L oL hoL (neC L oL hoL) (fun p hp z => (S.cells p (mem_of_lookup (sub p hp).1)).2.1 z.symm) S.Lα
  refine ⟨⟨S'.keep, S'.len, S'.cell, S'.nodup, S.hbL, notα L oL hoL S.Lα, ⟨m, ⟨oL, esL, epL, hL', hdL, rL⟩, fun i d e => ?_⟩, fun p hp => ?_, S.own, S.apart, S.names⟩, T'⟩
  · obtain ⟨x, k, e', ⟨v, h1, h2, h3⟩⟩ := hs i d e
    by_cases hk : k = .cell ∨ k = .free
    · obtain ⟨c, c1, c2⟩ := h3 hk
      by_cases hin : ∃ p ∈ closOf cl scope.names [], p.2 = c
      · obtain ⟨p, hp, hpc⟩ := hin
        obtain ⟨q1, q2⟩ := sub p hp
        have hx : p.1 = x := name_of_addr S.apart (mem_of_lookup q1) (by rw [hpc]; exact mem_of_lookup c1)
        obtain ⟨j, i', j1, j2, hat⟩ := hcap.free q2
        rw [hx] at hat j2
        have hi : i = i' := nodup_get N e' (slotOf_get (hat.slot N)).1
        subst hi
        obtain ⟨m'', _, hs''⟩ := S'.fr
        obtain ⟨x'', k'', e'', ⟨v'', r1, r2, r3⟩⟩ := hs'' j d (capt_of j1 e)
        have j2' : ({ scope with names := names' } : Scope).names[j]? = some (x, .cell) := j2
        rw [j2'] at e''; cases e''
        obtain ⟨c'', s1, s2⟩ := r3 (.inl rfl)
        have := mem_of_lookup s1
        have s3 := (sub _ this).1
        dsimp only at s3
        rw [c1] at s3; cases s3
        refine ⟨x, k, e', ⟨v'', r1, fun z => ?_, fun _ => ⟨c, c1, s2⟩⟩⟩
        rcases hk with q | q <;> (rw [q] at z; cases z)
      · obtain ⟨o, ho, hd⟩ := c2
        have hcm := S.cells (x, c) (mem_of_lookup c1)
        have : h'.get? c = some o := frame c o ho (neC c o ho) (fun p hp z => hin ⟨p, hp, z.symm⟩) hcm.1
        exact ⟨x, k, e', ⟨v, up _ _ h1, (fun z => by rcases hk with q | q <;> (rw [q] at z; cases z)), fun _ => ⟨c, c1, o, this, hd⟩⟩⟩
    · exact ⟨x, k, e', ⟨v, up _ _ h1, h2, fun z => absurd z hk⟩⟩
  · obtain ⟨q1, q2, v, o, ho, hd⟩ := S.cells p hp
    refine ⟨notα _ o ho q1, q2, ?_⟩
    by_cases hin : ∃ q ∈ closOf cl scope.names [], q.2 = p.2
    · obtain ⟨q, hq, hqp⟩ := hin
      rw [← hqp]
      exact (S'.cells q hq).2.2
    · exact ⟨v, o, frame _ o ho (neC _ o ho) (fun q hq z => hin ⟨q, hq, z.symm⟩) q1, hd⟩
end
end Mine
namespace Mine
open PySem PySem.W PySem.Calls PyProof.Rows
open Classical in
noncomputable def pturn (asg : V → PM Unit) (t : PM Bool) (e : PM V) (m : Nat) (d : V) (ρ : Loc) (σ : Sto) : Option Sto :=
  match (pbind (asg d) fun _ => pbind t fun b => if b = true then pbind e fun v => pcall s_append [.loc m, v] else pret .none) ρ σ with
  | none => none
  | some (_, ρ', σ') => if subLoc ρ ρ' then some σ' else none
open Classical in
noncomputable def pcompL (ok : Sto → Prop) (asg : V → PM Unit) (t : PM Bool) (e : PM V) (m : Nat) (ρ : Loc) : List V → Sto → Option Sto
  | [], σ => if ok σ then some σ else none
  | d :: ds, σ => if ok σ then match pturn asg t e m d ρ σ with
      | none => none
      | some σ' => pcompL ok asg t e m ρ ds σ'
    else none
noncomputable def pcomp (f : PM V) (is : List (Option Nat)) (asg : V → PM Unit) (t : PM Bool) (e : PM V) : PM V :=
  pbind f fun a => pbind (psto (psrc a)) fun src => fun ρ σ => match pcompL src.ok asg t e σ.length (capt ρ is) src.items (σ ++ [.list []]) with
    | none => none
    | some σ' => some (.loc σ.length, ρ, σ')
section
variable {prog : Program} {K : Params → Frag} {n : Nat} {sc : Scope}
abbrev JI (prog : Program) (K : Params → Frag) (n : Nat) (sc : Scope) (ifs : List Expr) (f : PM Bool) : Prop :=
  Tri prog K n sc (fun env => forIn ifs true fun c r => if r = true then do let ok ← isTrue c env (eval c env); pure (ForInStep.yield ok) else pure (ForInStep.yield r)) f fun _ _ _ b a => b = a
theorem JI_nil : JI prog K n sc [] (pret true) := by
  intro Γ A env ρ α σ c ρ' σ' s Q E G hf R O S hQ
  obtain ⟨rfl, rfl, rfl⟩ := pret_some hf
  exact wpAny_tests_nil (hQ _ s.toks s.heap α S (Step.refl ..) rfl)
theorem JI_one {c : Expr} {f : PM Bool} (h1 : JT prog K n sc c f) : JI prog K n sc [c] f := by
  intro Γ A env ρ α σ c ρ' σ' s Q E G hf R O S hQ
  exact wpAny_tests_one (h1 Γ A env ρ α σ c ρ' σ' s Q E G hf R O S hQ)
def CompInv (prog : Program) (Γ : Fix) (sc : Scope) (cenv : Env) (ρ : Loc) (F : List V → Sto → Option Sto) (R : Option Sto) (src : Src) (I D : Addr) (m : Nat) (α : List Addr) (h : Heap) (s : Shared) (k : Nat) (s' : Shared) : Prop :=
  ∃ α1 σ1 H1 tk1 j, s' = { s with heap := H1, toks := tk1 } ∧ k = src.items.length + 1 - j ∧ j ≤ src.items.length ∧ F (src.items.drop j) σ1 = R ∧ ItOk Γ α1 H1 I src j ∧
      St prog Γ sc cenv.locals cenv.cells ρ α1 σ1 H1 ∧ Step cenv.locals cenv.cells α α1 h H1 ∧ α1[m]? = some D
theorem pcompL_cons {ok : Sto → Prop} {asg : V → PM Unit} {t : PM Bool} {e : PM V} {m : Nat} {ρ : Loc} {d : V} {ds : List V} {σ σ' : Sto} (h : pcompL ok asg t e m ρ (d :: ds) σ = some σ') :
    ok σ ∧ ∃ σ1 ρa σa b ρb σb ρ3, asg d ρ σ = some ((), ρa, σa) ∧ t ρa σa = some (b, ρb, σb) ∧ subLoc ρ ρ3 ∧ pcompL ok asg t e m ρ ds σ1 = some σ' ∧
      ((b = false ∧ ρ3 = ρb ∧ σ1 = σb) ∨ (b = true ∧ ∃ x σc r, e ρb σb = some (x, ρ3, σc) ∧ s_append [.loc m, x] σc = some (r, σ1))) := by
  unfold pcompL at h
  split at h
  · rename_i hok
    refine ⟨hok, ?_⟩
    split at h
    · cases h
    · rename_i σ1 hturn
      unfold pturn at hturn
      split at hturn
      · cases hturn
      · rename_i u ρ3 σ3 hrun
        obtain ⟨hsub, rfl⟩ := ite_some hturn
        refine pbind_elim hrun fun _ ρa σa ea hrun => ?_
        refine pbind_elim hrun fun b ρb σb eb hrun => ?_
        refine ⟨σ3, ρa, σa, b, ρb, σb, ρ3, ea, eb, hsub, h, ?_⟩
        cases b with
        | false => obtain ⟨_, rfl, rfl⟩ := pret_some hrun; exact .inl ⟨rfl, rfl, rfl⟩
        | true =>
          refine pbind_elim hrun fun x ρc σc ec hrun => ?_
          obtain ⟨ed, rfl⟩ := pcall_some hrun
          exact .inr ⟨rfl, x, σc, u, ec, ed⟩
  · cases h
theorem comp_loop {sc' : Scope} {scope : Scope} {elt target iter : Expr} {ifs : List Expr} {pos : Pos} {asg : V → PM Unit} {t : PM Bool} {e : PM V}
    (h2 : JS prog K n sc' target asg) (h3 : JI prog K n sc' ifs t) (h4 : JE prog K n sc' elt e)
    {Γ : Fix} {A : Around} {cenv : Env} {ρ : Loc} {α α0 : List Addr} {σ σ' : Sto} {h : Heap} {m : Nat} {I D : Addr} {s : Shared} {src : Src} {RR : Result → Shared → Prop}
    (G : Good prog K Γ) (R : Room n A) (O : EnvOk cenv sc') (S : St prog Γ sc' cenv.locals cenv.cells ρ α0 σ s.heap) (T : Step cenv.locals cenv.cells α α0 h s.heap) (hI : h.get? I = none) (hbn : Γ.hb.get? I = none) (X : ItOk Γ α0 s.heap I src 0) (hD : α0[m]? = some D)
    (hf : pcompL src.ok asg t e m ρ src.items σ = some σ')
    (fin : ∀ (αx : List Addr) (Hx : Heap) (tkx : Nat), St prog Γ sc' cenv.locals cenv.cells ρ αx σ' Hx → Step cenv.locals cenv.cells α αx h Hx → αx[m]? = some D → RR (.ok .next) { s with heap := Hx, toks := tkx }) :
    codeAny (model prog Γ.w) A (.compLoop (.ListComp elt [⟨target, iter, ifs, 0⟩] scope pos) 0 (.ref I) (.ref D) cenv) RR s := by
  refine codeAny_loop rfl (CompInv prog Γ sc' cenv ρ (pcompL src.ok asg t e m ρ) (some σ') src I D m α h s) ?_ (src.items.length + 1) ⟨_, _, s.heap, s.toks, 0, rfl, rfl, Nat.zero_le _, hf, X, S, T, hD⟩
  clear X S T hD hf
  rintro k s' ⟨α1, σ1, H1, tk1, j, rfl, rfl, hj, e1, X1, S1, T1, hD1⟩
  show wpAny _ _ ((compTurn _ _ _ _ _).onRaise _) _ _ _
  refine wpAny_noted ?_
  rw [compTurn_list]
  refine wpAny_bind (wpAny_standAt (wpAny_bind ?_))
  rcases Nat.lt_or_ge j src.items.length with hlt | hge
  · have hget : src.items[j]? = some src.items[j] := List.getElem?_eq_getElem hlt
    rw [List.drop_eq_getElem_cons hlt] at e1
    obtain ⟨ok, σn, ρa, σa, b, ρb, σb, ρ3, ea, eb, hsub, e1, hrun⟩ := pcompL_cons e1
    refine next_item (s := { s with heap := H1, toks := tk1 }) S1 X1 ok hget fun v tk2 H2' hs2 X2 r2 => ?_
    have S2 := S1.ext X1.obj hbn hs2.extBut
    have T2 := T1.ext hI hs2.extBut
    clear S1 T1 X1 hs2 hget
    refine wpAny_bind (letOwned X2.obj (wpAny_bind ?_))
    refine h2 Γ A _ _ α1 σ1 _ ρa σa { s with heap := H2', toks := tk2 } v _ _ G ea R O S2 r2 fun tk3 H3' α3 S3 T3 => wpAny_bind ?_
    refine h3 Γ A _ ρa α3 σa b ρb σb _ _ _ G eb R O S3 fun b' tk4 H4 α4 S4 T4 r4 => ?_
    subst r4
    have X4 := (X2.step S2 T3).step S3 T4
    have T5 := (T2.trans T3).trans T4
    have hD4 := T4.get (T3.get hD1)
    clear X2 S2 S3 T2 T3 T4 hD1 ea eb r2
    rcases hrun with ⟨rfl, rfl, rfl⟩ | ⟨rfl, x, σc, r, ec, ed⟩
    · exact wpAny_pure ⟨rfl, src.items.length + 1 - (j + 1), by omega, α4, _, H4, tk4, j + 1, rfl, rfl, hlt, e1, X4, S4.weaken fun i d q => subLoc_get hsub q, T5, hD4⟩
    · refine wpAny_bind (wpAny_bind ?_)
      refine h4 Γ A _ ρb α4 σb x ρ3 σc _ _ _ G ec R O S4 fun vx tk5 H5 α5 S5 T5' r5 => wpAny_bind ?_
      refine cAppend Γ A _ _ _ ρ3 α5 σc { s with heap := H5, toks := tk5 } [_, _] [.loc m, x] _ _ _ _ G R S5 (.cons (.loc (T5'.get hD4)) (.cons r5 .nil)) ed fun v6 tk6 H6 α6 S6 T6 r6 => wpAny_pure (wpAny_pure ?_)
      exact ⟨rfl, src.items.length + 1 - (j + 1), by omega, α6, _, H6, tk6, j + 1, rfl, rfl, hlt, e1, (X4.step S4 T5').step S5 T6, S6.weaken fun i d q => subLoc_get hsub q, (T5.trans T5').trans T6, T6.get (T5'.get hD4)⟩
  · rw [List.drop_of_length_le hge] at e1
    unfold pcompL at e1
    obtain ⟨ok, rfl⟩ := ite_some e1
    refine next_end (s := { s with heap := H1, toks := tk1 }) R.hh S1 X1 ok hge fun H2 he => wpAny_pure ?_
    exact fin α1 H2 tk1 (S1.ext X1.obj hbn he) (T1.ext hI he) hD1
theorem comp_block {scope : Scope} {names' : List (Str × NameKind)} {is : List (Option Nat)} {elt target iter : Expr} {ifs : List Expr} {pos : Pos} {asg : V → PM Unit} {t : PM Bool} {e : PM V}
    (hcap : Cap sc.names scope.names names' is) (hnd : (scope.names.map (·.1)).Nodup) (hkind : scope.kind = .function)
    (h2 : JS prog K n { scope with names := names' } target asg) (h3 : JI prog K n { scope with names := names' } ifs t) (h4 : JE prog K n { scope with names := names' } elt e)
    {Γ : Fix} {A : Around} {env : Env} {ρ : Loc} {α : List Addr} {σ σ' : Sto} {s : Shared} {v : Value} {a : V} {src : Src} {E : Value → Shared → Prop} {RR : Value → Addr → Result → Shared → Prop}
    (G : Good prog K Γ) (R : Room n A) (O : EnvOk env sc) (S : St prog Γ sc env.locals env.cells ρ α σ s.heap) (hsrc : psrc a σ = some src) (hv : VRel Γ α s.heap v a)
    (hf : pcompL src.ok asg t e σ.length (capt ρ is) src.items (σ ++ [.list []]) = some σ')
    (hRR : ∀ D C tk h' α' m, St prog Γ sc env.locals env.cells ρ α' σ' h' → Step env.locals env.cells α α' s.heap h' → α'[σ.length]? = some D → h'.Ns C m → C ≠ env.locals → (∀ p ∈ env.cells, C ≠ p.2) → C ∉ α' → s.heap.get? C = none → Γ.hb.get? C = none →
      RR (.ref D) C (.ok .next) { s with heap := h', toks := tk }) :
    wpAny (model prog Γ.w) A (pyIter v) (fun it s₂ => wpAny (model prog Γ.w) A (newList []) (fun acc s₃ =>
      wpAny (model prog Γ.w) A (newFunctionEnv scope env.globals (closOf env.cells scope.names []) [] env.qual none .none (some env)) (fun cenv s₄ =>
        codeAny (model prog Γ.w) A (.compStart (.ListComp elt [⟨target, iter, ifs, 0⟩] scope pos) 0 it acc { cenv with scope := relabel scope env }) (RR acc cenv.locals) s₄) E s₃) E s₂) E s := by
  refine iter_sound S hsrc hv fun I H2 hI kp X => ?_
  have hbnI : Γ.hb.get? I = none := (S.dead hI).2.2.2
  refine wpAny_newObj_type (wpAny_newFunctionEnv hcap.nocell (by intro y hy; simp at hy) (fun h₁ hns₁ hsb₁ => ?_) hkind)
  dsimp only at hns₁ hsb₁ ⊢
  have SI := S.keeps kp
  have hDn : H2.get? H2.objs.size = none := Heap.get?_none_of_le (Nat.le_refl _)
  have hDo := Heap.get?_push_size H2 (o := { cls := .type "list", dict := none, data := .seq ([] : List Value).toArray }) rfl
  have kp3 := push_keeps H2 { cls := .type "list", dict := none, data := .seq ([] : List Value).toArray }
  generalize H2.push { cls := .type "list", dict := none, data := .seq ([] : List Value).toArray } = H3 at hns₁ hsb₁ hDo kp3 ⊢
  have hCn : H3.get? H3.objs.size = none := Heap.get?_none_of_le (Nat.le_refl _)
  have kp1 : ∀ b o, H3.get? b = some o → h₁.get? b = some o := fun b o e => hsb₁.extBut b o (Nat.ne_of_lt (Heap.lt_size e)) (Heap.get?_push_of_some _ e)
  have kp0 : ∀ b o, s.heap.get? b = some o → H3.get? b = some o := fun b o e => kp3 b o (kp b o e)
  have hC0 : s.heap.get? H3.objs.size = none := (Step.keeps (L := 0) (cl := []) (α := []) kp0).none hCn
  obtain ⟨SD, TD⟩ := SI.newCell (c := .list []) kp3 hDn (.list (vs := []) ⟨0, hDo⟩ .nil (Nat.zero_le _))
  have hD : (α ++ [H2.objs.size])[σ.length]? = some H2.objs.size := by rw [List.getElem?_append_right (by rw [S.len]; exact Nat.le_refl _), S.len, Nat.sub_self]; rfl
  have SC := SD.comp hcap hnd hns₁ hCn kp1
  have TC : Step H3.objs.size (closOf env.cells scope.names []) α (α ++ [H2.objs.size]) s.heap h₁ :=
    ⟨⟨[H2.objs.size], rfl, fun b hb => by rw [List.mem_singleton.mp hb]; exact (Step.keeps (L := 0) (cl := []) (α := []) kp).none hDn⟩, fun b o e => ⟨o, kp1 b o (kp0 b o e)⟩, fun b o e _ _ _ => kp1 b o (kp0 b o e)⟩
  have X1 : ItOk Γ (α ++ [H2.objs.size]) h₁ I src 0 := (X.step SI TD).step SD (Step.keeps kp1)
  have henv : EnvOk (compEnvC scope (closOf env.cells scope.names []) H3.objs.size env) { scope with names := names' } :=
    ⟨by show relabel scope env = _; unfold relabel; rw [hcap.relabel S.names O rfl], hkind, O.glob, O.blt⟩
  have loop := comp_loop (scope := scope) (elt := elt) (target := target) (iter := iter) (ifs := ifs) (pos := pos) (RR := RR (.ref H2.objs.size) H3.objs.size) (s := { s with heap := h₁, toks := s.toks + ([] : List (Str × Value)).length }) h2 h3 h4 G R henv SC TC hI hbnI X1 hD hf fun αx Hx tkx Sx Tx hDx => by
    obtain ⟨So, To⟩ := S.uncomp hcap hC0 Sx Tx
    obtain ⟨m, hm, _⟩ := Sx.fr
    obtain ⟨d1, d2, d3, d4⟩ := S.dead hC0
    exact hRR _ _ tkx Hx αx m So To hDx hm d2 (fun p hp => (d3 p hp).symm) Sx.Lα hC0 d4
  refine codeAny_compStart_list loop ?_
  cases X1 with
  | list ha hi => exact wpAny_pyIter_listiter hi loop
  | tup hi ht hv => exact wpAny_pyIter_tupleiter hi loop
  | rng hi => exact wpAny_pyIter_rangeiter hi loop
theorem pcomp_some {f : PM V} {is : List (Option Nat)} {asg : V → PM Unit} {t : PM Bool} {e : PM V} {ρ ρ' : Loc} {σ σ' : Sto} {c : V} (h : pcomp f is asg t e ρ σ = some (c, ρ', σ')) :
    ∃ a ρ₁ σ₁ src, f ρ σ = some (a, ρ₁, σ₁) ∧ psrc a σ₁ = some src ∧ pcompL src.ok asg t e σ₁.length (capt ρ₁ is) src.items (σ₁ ++ [.list []]) = some σ' ∧ c = .loc σ₁.length ∧ ρ' = ρ₁ := by
  unfold pcomp at h
  refine pbind_elim h fun a ρ1 σ1 e1 h1 => ?_
  refine pbind_elim h1 fun src ρ2 σ2 e2 h2 => ?_
  obtain ⟨e3, rfl, rfl⟩ := psto_some e2
  clear h h1
  split at h2
  · cases h2
  · rename_i e4; cases h2; exact ⟨a, _, _, src, e1, e3, e4, rfl, rfl⟩
theorem clos_of_St {Γ : Fix} {L : Addr} {env : Env} {ρ : Loc} {α : List Addr} {σ : Sto} {h : Heap} {scope : Scope} {names' : List (Str × NameKind)} {is : List (Option Nat)} (S : St prog Γ sc L env.cells ρ α σ h) (hcap : Cap sc.names scope.names names' is) :
    closureFor scope env = pure (closOf env.cells scope.names []) := by
  refine closureFor_of fun x hx => ?_
  obtain ⟨j, i, _, _, hat⟩ := hcap.free hx
  obtain ⟨c, hc, _⟩ := S.own x (slotOf_get (hat.slot S.names)).2
  exact ⟨c, hc⟩
theorem JE_comp {scope : Scope} {names' : List (Str × NameKind)} {is : List (Option Nat)} {elt target iter : Expr} {ifs : List Expr} {pos : Pos} {f : PM V} {asg : V → PM Unit} {t : PM Bool} {e : PM V}
    (h1 : JE prog K n sc iter f) (hcap : Cap sc.names scope.names names' is) (h2 : JS prog K n { scope with names := names' } target asg) (h3 : JI prog K n { scope with names := names' } ifs t) (h4 : JE prog K n { scope with names := names' } elt e)
    (hch : (decide (scope.names.map (·.1)).Nodup && decide (scope.kind = .function) && scope.names.all fun y => y.2 != .local || decide (scope.names.lookup y.1 = some .local)) = true)
    (hs : ∀ env x, foldedSetIterable iter env x = pure x) :
    JE prog K n sc (.ListComp elt [⟨target, iter, ifs, 0⟩] scope pos) (pcomp f is asg t e) := by
  intro Γ A env ρ α σ c ρ' σ' s Q E G hf R O S hQ
  obtain ⟨a, ρ1, σ1, src, e1, e2, e3, rfl, rfl⟩ := pcomp_some hf
  simp only [Bool.and_eq_true, decide_eq_true_eq, List.all_eq_true] at hch
  obtain ⟨⟨hnd, hkind⟩, hnames⟩ := hch
  have hnames' : ∀ x ∈ scope.names, x.2 = .local → scope.names.lookup x.1 = some .local := fun x hx hl => by
    have := hnames x hx
    rw [hl] at this
    simpa using this
  rw [eval_ListComp]
  refine wpAny_comprehension_free (use := none) rfl (hs env) (clos_of_St S hcap) hkind hnames' (h1 Γ A env ρ α σ a _ σ1 s _ E G e1 R O S fun v1 tk1 H1 α1 S1 T1 r1 => ?_)
  refine comp_block (s := { s with heap := H1, toks := tk1 }) (RR := fun acc C => compPost (model prog Γ.w) A E none Q acc C) hcap hnd hkind h2 h3 h4 G R O S1 e2 r1 e3 fun D C tk h' α' m S' T' hD hm n1 n2 n3 n4 n5 => ?_
  obtain ⟨nt, nr⟩ := ns_noTuple hm
  refine ⟨m, hm, fun h'' hs'' => ?_⟩
  obtain ⟨S2, up2⟩ := S'.away hs''.extBut n1 n2 n3 n5 nt nr
  have hC0 : s.heap.get? C = none := by
    cases q : s.heap.get? C with
    | none => rfl
    | some o => obtain ⟨o', ho'⟩ := T1.alive C o q; rw [n4] at ho'; cases ho'
  exact hQ _ tk h'' α' S2 ((T1.trans T').ext hC0 hs''.extBut) (.loc hD)
theorem JX_comp {scope : Scope} {names' : List (Str × NameKind)} {is : List (Option Nat)} {elt target iter : Expr} {ifs : List Expr} {pos spos px : Pos} {y : Str} {i : Nat} {k : NameKind} {f : PM V} {asg : V → PM Unit} {t : PM Bool} {e : PM V}
    (h1 : JE prog K n sc iter f) (hcap : Cap sc.names scope.names names' is) (h2 : JS prog K n { scope with names := names' } target asg) (h3 : JI prog K n { scope with names := names' } ifs t) (h4 : JE prog K n { scope with names := names' } elt e)
    (hx : At sc.names y i k) (hk : k = .local ∨ k = .cell)
    (hch : (decide (scope.names.map (·.1)).Nodup && decide (scope.kind = .function) && scope.names.all fun y => y.2 != .local || decide (scope.names.lookup y.1 = some .local)) = true)
    (hs : ∀ env x, foldedSetIterable iter env x = pure x) (hsw : ∀ env, EnvOk env sc → swapsWith (.ListComp elt [⟨target, iter, ifs, 0⟩] scope pos) (some (.Name y px)) spos.line env = pure true) :
    JX prog K n sc (.Assign [.Name y px] (.ListComp elt [⟨target, iter, ifs, 0⟩] scope pos) spos) (pbind (pcomp f is asg t e) fun d => pbind (pstore i d) fun _ => pret .next) := by
  intro Γ A env ρ α σ c ρ' σ' s Q E G hf R O S hQ
  refine pbind_elim hf fun d ρ2 σ2 e0 hf => ?_
  obtain ⟨⟨⟩, ρ3, σ3, e4, hf⟩ := pbind_some hf
  obtain ⟨rfl, rfl, rfl⟩ := pret_some hf
  cases e4
  obtain ⟨a, ρ1, σ1, src, e1, e2, e3, rfl, rfl⟩ := pcomp_some e0
  simp only [Bool.and_eq_true, decide_eq_true_eq, List.all_eq_true] at hch
  obtain ⟨⟨hnd, hkind⟩, hnames⟩ := hch
  have hnames' : ∀ x ∈ scope.names, x.2 = .local → scope.names.lookup x.1 = some .local := fun x hx hl => by
    have := hnames x hx
    rw [hl] at this
    simpa using this
  rw [exec_Assign_Name_used _ _ _ _ (hsw env O)]
  refine wpAny_bind (wpAny_standAt (wpAny_bind ?_))
  show wpAny _ A (do let _ ← comprehension (.ListComp elt [⟨target, iter, ifs, 0⟩] scope pos) scope env _ (newList []) false (eval iter env) (some (assign (.Name y px) env))) _ _ s
  refine wpAny_bind (wpAny_mono (wpAny_comprehension_free (use := some (assign (.Name y px) env)) (Q := fun _ s' => Q .next s') rfl (hs env) (clos_of_St S hcap) hkind hnames'
    (h1 Γ A env ρ α σ a _ σ1 s _ E G e1 R O S fun v1 tk1 H1 α1 S1 T1 r1 => ?_)) (fun _ s' hq => wpAny_pure (wpAny_pure hq)) fun _ _ e => e)
  refine comp_block (s := { s with heap := H1, toks := tk1 }) (RR := fun acc C => compPost (model prog Γ.w) A E (some (assign (.Name y px) env)) (fun _ s' => Q .next s') acc C) hcap hnd hkind h2 h3 h4 G R O S1 e2 r1 e3 fun D C tk h' α' m S' T' hD hm n1 n2 n3 n4 n5 => ?_
  show wpAny _ A (assign (.Name y px) env (.ref D)) _ _ _
  refine wpAny_assign_Name (store_sound (s := { s with heap := h', toks := tk }) (hx.slot S.names) hk O S' (.loc hD) fun tk2 h2' S2 T2 => ?_)
  have hm2 : h2'.Ns C m := hm.at' fun o q => T2.frame C o q n1 n2 n3
  obtain ⟨nt, nr⟩ := ns_noTuple hm2
  refine ⟨m, hm2, fun h'' hs'' => ?_⟩
  obtain ⟨S3, up3⟩ := S2.away hs''.extBut n1 n2 n3 n5 nt nr
  have hC0 : s.heap.get? C = none := by
    cases q : s.heap.get? C with
    | none => rfl
    | some o => obtain ⟨o', ho'⟩ := T1.alive C o q; rw [n4] at ho'; cases ho'
  exact hQ _ tk2 h'' α' S3 (((T1.trans T').trans T2).ext hC0 hs''.extBut) .next
end
end Mine
namespace Mine
open PySem PySem.W PySem.Calls PyProof.Rows
noncomputable def veq (a b : V) : Option Bool := match a with
  | .none => match b with
    | .none => some true
    | _ => none
  | .int x => vI b fun y => some (x == y)
  | .str x => vS b fun y => some (x == y)
  | .bytes x => vB b fun y => some (x == y)
  | _ => none
theorem eqAt_bytes {A : Around} {s : Shared} (b : Array UInt8) (t : Tok) (c : Array UInt8) (u : Tok) : SeqAt.EqAt A s (.bytes b t) (.bytes c u) (b.toList == c.toList) := fun prog w E Q h => by
  unfold eqBool
  refine wpAny_holding ?_
  refine wpAny_ite_split (fun hab => ?_) (fun _ => ?_)
  · have e : (b.toList == c.toList) = true := by
      have := eq_of_beq hab
      cases this; simp
    rw [e] at h
    exact wpAny_bind (wpAny_rule (wpAny_pure h))
  · refine wpAny_bind ?_
    exact wpAny_mono (Q := fun v s' => v = .bool (b.toList == c.toList) ∧ s' = s) (E := E) (eq_bytes (Q := fun v s' => v = .bool (b.toList == c.toList) ∧ s' = s) ⟨rfl, rfl⟩) (fun v s' q => by obtain ⟨rfl, rfl⟩ := q; exact wpAny_truthy_bool h) fun _ _ e => e
theorem eqAt_str {A : Around} {s : Shared} (a : Str) (t : Tok) (b : Str) (u : Tok) : SeqAt.EqAt A s (.str a t) (.str b u) (a == b) := SeqAt.EqAt.str_str a t b u
theorem veq_sound {Γ : Fix} {α : List Addr} {A : Around} {s : Shared} {v y : Value} {a b : V} {r : Bool} (e : veq a b = some r) (h1 : VRel Γ α s.heap v a) (h2 : VRel Γ α s.heap y b) : SeqAt.EqAt A s v y r := by
  unfold veq at e
  split at e
  · split at e
    · cases e; rw [show v = .none from h1.inv, show y = .none from h2.inv]; exact SeqAt.EqAt.same _
    · cases e
  · obtain ⟨t, rfl⟩ := h1.inv
    obtain ⟨z, rfl, e⟩ := vI_some e
    obtain ⟨u, rfl⟩ := h2.inv
    cases e
    exact SeqAt.EqAt.int_int _ _ _ _
  · obtain ⟨t, rfl⟩ := h1.inv
    obtain ⟨z, rfl, e⟩ := vS_some e
    obtain ⟨u, rfl⟩ := h2.inv
    cases e
    exact eqAt_str _ _ _ _
  · obtain ⟨t, rfl, _⟩ := h1.inv
    obtain ⟨z, rfl, e⟩ := vB_some e
    obtain ⟨u, rfl, _⟩ := h2.inv
    cases e
    exact eqAt_bytes _ _ _ _
  · cases e
noncomputable def andO (x y : Option Bool) : Option Bool := vo x fun a => vo y fun b => some (a && b)
theorem andO_some {x y : Option Bool} {c : Bool} (h : andO x y = some c) : ∃ a b, x = some a ∧ y = some b ∧ c = (a && b) :=
  let ⟨a, e1, h⟩ := vo_some h; let ⟨b, e2, h⟩ := vo_some h; ⟨a, b, e1, e2, (Option.some.inj h).symm⟩
noncomputable def eqG (el : V → V → Option Bool) : List V → List V → Option Bool
  | [], es => nl es (some true)
  | a :: r, es => hd es fun b t => andO (el a b) (eqG el r t)
noncomputable def eqL : List V → List V → Option Bool := eqG veq
noncomputable def dhits (fs : List (Str × V)) : List (Str × V) → Option Bool
  | [] => some true
  | p :: r => vo (valOf' fs p.1) fun y => andO (veq p.2 y) (dhits fs r)
noncomputable def deq (es fs : List (Str × V)) : Option Bool := (dhits fs es).map fun r => es.length == fs.length && r
noncomputable def veqS (σ : Sto) (a b : V) : Option Bool := match a with
  | .loc l => vL b fun k => if l = k then some true else sD σ l fun es => sD σ k fun fs => deq es fs
  | _ => veq a b
noncomputable def eqLS (σ : Sto) : List V → List V → Option Bool := eqG (veqS σ)
noncomputable def eqC (σ : Sto) (l k : Nat) : Option Bool := match σ[l]? with
  | some (.list xs) => sL σ k fun ys => if xs.length = ys.length then eqL xs ys else some false
  | some (.dict es) => sD σ k fun fs => deq es fs
  | _ => none
noncomputable def neC (σ : Sto) (l k : Nat) : Option Bool := sL σ l fun xs => sL σ k fun ys => if xs.length = ys.length then (eqL xs ys).map (!·) else some true
noncomputable def vcmpS (op : CmpOp) (a b : V) (σ : Sto) : Option Bool := match op with
  | .Eq => match a with
    | .loc l => vL b fun k => eqC σ l k
    | _ => veqB a b
  | .NotEq => match a with
    | .loc l => vL b fun k => neC σ l k
    | .tup ds => vT b fun es => (eqLS σ ds es).map (!·)
    | _ => vneB a b
  | op => vcmp op a b
theorem range_succ_all (n : Nat) (e : Nat → Bool) : (List.range (n + 1)).all e = (e 0 && (List.range n).all fun i => e (i + 1)) := by
  rw [List.range_succ_eq_map, List.all_cons, List.all_map]; rfl
section
variable {prog : Program} {K : Params → Frag} {n : Nat} {Γ : Fix} {sc : Scope} {L : Addr} {cl : List (Str × Addr)} {ρ : Loc} {α : List Addr} {σ : Sto} {A : Around} {s : Shared}
theorem eqG_sound {el : V → V → Option Bool} {P : Value → Value → Bool → Prop} (hP : ∀ v y a b r, el a b = some r → VRel Γ α s.heap v a → VRel Γ α s.heap y b → P v y r) {vs : List Value} {ds : List V} (x : VAll Γ α s.heap vs ds) :
    ∀ {us : List Value} {es : List V} {r : Bool}, VAll Γ α s.heap us es → eqG el ds es = some r → ∃ e : Nat → Bool, (List.range vs.length).all e = r ∧ vs.length = us.length ∧ ∀ j v u, vs[j]? = some v → us[j]? = some u → P v u (e j) :=
  x.ind (M := fun vs ds => ∀ {us : List Value} {es : List V} {r : Bool}, VAll Γ α s.heap us es → eqG el ds es = some r → ∃ e : Nat → Bool, (List.range vs.length).all e = r ∧ vs.length = us.length ∧ ∀ j v u, vs[j]? = some v → us[j]? = some u → P v u (e j))
    (fun y h => by
      obtain ⟨rfl, h⟩ := nl_some h
      cases h
      rw [y.inv0]
      exact ⟨fun _ => true, rfl, rfl, fun j v u e => by simp at e⟩)
    fun v d vs ds a b ih us es r y h => by
      obtain ⟨d2, es, rfl, h⟩ := hd_some h
      obtain ⟨p, q, hp, hq, rfl⟩ := andO_some h
      obtain ⟨u, us, rfl, c, y2⟩ := y.inv
      obtain ⟨e, e1, e2, e3⟩ := ih y2 hq
      refine ⟨fun j => if j = 0 then p else e (j - 1), ?_, by rw [List.length_cons, List.length_cons, e2], fun j v u h1 h2 => ?_⟩
      · rw [List.length_cons, range_succ_all]
        simp only [if_true, Nat.add_sub_cancel, Nat.succ_ne_zero, if_false]
        rw [e1]
      · cases j with
        | zero => cases h1; cases h2; exact hP _ _ _ _ _ hp a c
        | succ j => exact e3 j v u h1 h2
theorem dhits_sound {kvs' : List (Str × Value)} {fs : List (Str × V)} (hf : KvAll Γ α s.heap kvs' fs) {kvs : List (Str × Value)} {es : List (Str × V)} (x : KvAll Γ α s.heap kvs es) : ∀ {r : Bool}, dhits fs es = some r → KeqHits A s kvs' kvs r :=
  KvAll.rec (motive := fun kvs es _ => ∀ {r : Bool}, dhits fs es = some r → KeqHits A s kvs' kvs r) (fun h => by cases h; exact .nil) (fun a _ ih r h => by
    obtain ⟨y, hy, h⟩ := vo_some h
    obtain ⟨p, q, hp, hq, rfl⟩ := andO_some h
    obtain ⟨v, h1, h2⟩ := hf.valueAt hy
    exact .hit h1 (veq_sound hp a h2) (ih hq)) x
theorem St.noSys (G : Good prog K Γ) (S : St prog Γ sc L cl ρ α σ s.heap) {a : Addr} (h : a ∈ α) : (a == sysModules) = false := by
  obtain ⟨_, _, _, _, _, hbn⟩ := S.memα h
  have := G.nosys
  cases q : a == sysModules with
  | false => rfl
  | true =>
    have q' : a = sysModules := by simpa using q
    rw [← q', hbn] at this
    cases this
theorem deq_sound {Q : Value → Shared → Prop} {E : Value → Shared → Prop} (G : Good prog K Γ) (R : Room n A) (S : St prog Γ sc L cl ρ α σ s.heap) {l k : Nat} {a b : Addr} {es fs : List (Str × V)} {r : Bool} (ha : α[l]? = some a) (hb : α[k]? = some b) (h1 : σ[l]? = some (.dict es)) (h2 : σ[k]? = some (.dict fs))
    (e : deq es fs = some r) (hQ : Q (.bool r) s) : wpAny (model prog Γ.w) A (compareOp .Eq (.ref a) (.ref b)) Q E s := by
  obtain ⟨r', e1, e2⟩ := Option.map_eq_some_iff.mp e
  obtain ⟨kvs, hd, hv, hz⟩ := S.dictOf h1 ha
  obtain ⟨kvs', hd', hv', hz'⟩ := S.dictOf h2 hb
  refine keq_eq (S.noSys G (List.mem_of_getElem? ha)) (S.noSys G (List.mem_of_getElem? hb)) hd hd' R.u (fun _ => dhits_sound hv' hv e1) ?_
  rw [hv.length, hv'.length, e2]
  exact hQ
theorem veqS_sound (G : Good prog K Γ) (R : Room n A) (S : St prog Γ sc L cl ρ α σ s.heap) {v y : Value} {a b : V} {r : Bool} (e : veqS σ a b = some r) (h1 : VRel Γ α s.heap v a) (h2 : VRel Γ α s.heap y b) :
    ∀ (E : Value → Shared → Prop) (Q : Bool → Shared → Prop), Q r s → wpAny (model prog Γ.w) A (eqBool v y) Q E s := by
  intro E Q hQ
  unfold veqS at e
  split at e
  · obtain ⟨k, rfl, e2⟩ := vL_some e
    obtain ⟨x, rfl, ha⟩ := h1.inv
    obtain ⟨z, rfl, hb⟩ := h2.inv
    unfold eqBool
    refine wpAny_holding ?_
    split at e2
    · rename_i hlk
      cases e2
      subst hlk
      rw [ha] at hb; cases hb
      exact wpAny_ite_split (fun _ => wpAny_bind (wpAny_rule (wpAny_pure hQ))) (fun hab => absurd (beq_self_eq_true _) hab)
    · rename_i hlk
      obtain ⟨es, he, e3⟩ := sD_some e2
      obtain ⟨fs, hf, e4⟩ := sD_some e3
      refine wpAny_ite_split (fun hab => ?_) (fun _ => ?_)
      · obtain rfl : x = z := by have h := eq_of_beq hab; injection h
        exact absurd ((List.getElem?_inj (List.getElem?_eq_some_iff.mp ha).1 S.nodup).mp (ha.trans hb.symm)) hlk
      · exact wpAny_bind (wpAny_mono (deq_sound (Q := fun v s' => v = .bool r ∧ s' = s) G R S ha hb he hf e4 ⟨rfl, rfl⟩) (fun v s' q => by obtain ⟨rfl, rfl⟩ := q; exact wpAny_truthy_bool hQ) fun _ _ e => e)
  · exact veq_sound e h1 h2 prog Γ.w E Q hQ
inductive Pairs (P : Value → Value → Bool → Prop) : List (Value × Value) → Bool → Prop
  | nil : Pairs P [] true
  | cons {x y : Value} {b c : Bool} {l : List (Value × Value)} (h : P x y b) (t : Pairs P l c) : Pairs P ((x, y) :: l) (b && c)
theorem eqG_pairs {el : V → V → Option Bool} {P : Value → Value → Bool → Prop} (hP : ∀ v y a b r, el a b = some r → VRel Γ α s.heap v a → VRel Γ α s.heap y b → P v y r) {vs : List Value} {ds : List V} (x : VAll Γ α s.heap vs ds) :
    ∀ {us : List Value} {es : List V} {r : Bool}, VAll Γ α s.heap us es → eqG el ds es = some r → Pairs P (vs.zip us) r ∧ vs.length = us.length :=
  x.ind (M := fun vs ds => ∀ {us : List Value} {es : List V} {r : Bool}, VAll Γ α s.heap us es → eqG el ds es = some r → Pairs P (vs.zip us) r ∧ vs.length = us.length)
    (fun y h => by
      obtain ⟨rfl, h⟩ := nl_some h
      cases h
      rw [y.inv0]
      exact ⟨.nil, rfl⟩)
    fun v d vs ds a b ih us es r y h => by
      obtain ⟨d2, es, rfl, h⟩ := hd_some h
      obtain ⟨p, q, hp, hq, rfl⟩ := andO_some h
      obtain ⟨u, us, rfl, c, y2⟩ := y.inv
      obtain ⟨e1, e2⟩ := ih y2 hq
      exact ⟨.cons (hP _ _ _ _ _ hp a c) e1, congrArg Nat.succ e2⟩
theorem tup_ne {prog : Program} {w : World} {A : Around} {s : Shared} {E Q : Value → Shared → Prop} {l b : Addr} {vs us : List Value} {c : Bool} (hu : A.units < cLine) (hl : s.heap.IsTuple l vs.toArray) (hb : s.heap.IsTuple b us.toArray) (hz : vs.length = us.length)
    (x : Pairs (fun v u r => ∀ (E : Value → Shared → Prop) (Q : Bool → Shared → Prop), Q r s → wpAny (model prog w) A.in1 (eqBool v u) Q E s) (vs.zip us) c) (h : Q (.bool !c) s) : wpAny (model prog w) A (compareOp .NotEq (.ref l) (.ref b)) Q E s := by
  refine wpAny_richCompare_same_room (op := .NotEq) hl.typeIs hb.typeIs PySem.F.slot_tuple_ne (wpAny_call_entry PySem.F.slot_tuple_ne hl.typeIs PySem.F.entry_tuple_ne ?_ (PySem.F.args_tuple_ne_2 _ _)) hu
  obtain ⟨o, ho, r1, n, r2⟩ := hl
  obtain ⟨o', ho', r3, n', r4⟩ := hb
  obtain ⟨H, gs, dr, tk, os⟩ := s
  cases o; cases o'
  dsimp only at r1 r2 r3 r4
  subst r1 r2 r3 r4
  have sub := AutoSeq1.sub_tuple_tuple
  unfold Builtin.«tuple.__ne__»
  wp_walk using AutoSeq1.wpAny_loadPart' ho, AutoSeq1.wpAny_loadPart' ho', wpAny_forIn_list _ (fun rest st s' => st.1 = none ∧ s' = ⟨H, gs, dr, tk, os⟩ ∧ ∃ d, Pairs (fun v u r => ∀ (E : Value → Shared → Prop) (Q : Bool → Shared → Prop), Q r s' → wpAny (model prog w) A.in1 (eqBool v u) Q E s') rest d ∧ Q (.bool !d) s') _
  case turn =>
    rintro _ rest st s' ⟨h0, rfl, d, x, h⟩
    cases x with
    | @cons y z p q _ hp t =>
      refine wpAny_bind (hp _ _ ?_)
      cases p with
      | true => wp_walk; exact ⟨rfl, rfl, q, t, by simpa using h⟩
      | false => wp_walk; exact ⟨_, rfl, (fun e => nomatch e), by simpa using h⟩
  case fin =>
    rintro ⟨st, u⟩ s' ⟨h0, rfl, d, x, h⟩
    cases x
    cases h0
    wp_walk
    exact ⟨_, rfl, (fun e => nomatch e), by simpa [Builtin.Tuple.tupleCompareSizes, bne, hz] using h⟩
  all_goals exact ⟨rfl, rfl, c, by simpa using x, h⟩
section
variable {Q : Value → Shared → Prop} {E : Value → Shared → Prop}
theorem eqC_sound (G : Good prog K Γ) (R : Room (n + 1) A) (S : St prog Γ sc L cl ρ α σ s.heap) {l k : Nat} {a b : Addr} {c : Bool} (e : eqC σ l k = some c) (ha : α[l]? = some a) (hb : α[k]? = some b) (h : Q (.bool c) s) : wpAny (model prog Γ.w) A (compareOp .Eq (.ref a) (.ref b)) Q E s := by
  unfold eqC at e
  split at e
  · rename_i xs hx
    obtain ⟨ys, hy, e⟩ := sL_some e
    obtain ⟨vs, hl, hv, hz⟩ := S.listOf hx ha
    obtain ⟨us, hl', hv', hz'⟩ := S.listOf hy hb
    split at e
    · obtain ⟨e', e1, e2, e3⟩ := eqG_sound (P := SeqAt.EqAt A.in1 s) (fun _ _ _ _ _ => veq_sound) hv hv' e
      refine SeqAt.eq_listAt (e := e') hl.isList hl'.isList (by simpa using e2) R.u (fun j h1 h2 => e3 j _ _ (by simp) (by simp)) ?_
      rw [List.size_toArray, e1]; exact h
    · rename_i hlen
      cases e
      refine SeqAt.eq_list_lengthsAt hl.isList hl'.isList ?_ R.u h
      rw [List.size_toArray, List.size_toArray, hv.length, hv'.length]
      simpa using hlen
  · rename_i es hx
    obtain ⟨fs, hy, e⟩ := sD_some e
    exact deq_sound G R S ha hb hx hy e h
  · cases e
theorem neC_sound (R : Room (n + 1) A) (S : St prog Γ sc L cl ρ α σ s.heap) {l k : Nat} {a b : Addr} {c : Bool} (e : neC σ l k = some c) (ha : α[l]? = some a) (hb : α[k]? = some b) (h : Q (.bool c) s) : wpAny (model prog Γ.w) A (compareOp .NotEq (.ref a) (.ref b)) Q E s := by
  obtain ⟨xs, hx, e⟩ := sL_some e
  obtain ⟨ys, hy, e⟩ := sL_some e
  obtain ⟨vs, hl, hv, hz⟩ := S.listOf hx ha
  obtain ⟨us, hl', hv', hz'⟩ := S.listOf hy hb
  split at e
  · obtain ⟨r, er, ec⟩ := Option.map_eq_some_iff.mp e
    obtain ⟨e', e1, e2, e3⟩ := eqG_sound (P := SeqAt.EqAt A.in1 s) (fun _ _ _ _ _ => veq_sound) hv hv' er
    refine SeqAt.RcNeAt.lists (e := e') hl.isList hl'.isList (by simpa using e2) R.u (fun j h1 h2 => e3 j _ _ (by simp) (by simp)) _ _ _ _ ?_
    rw [List.size_toArray, e1, ec]; exact h
  · rename_i hlen
    cases e
    refine SeqAt.RcNeAt.lists_lengths hl.isList hl'.isList ?_ R.u _ _ _ _ h
    rw [List.size_toArray, List.size_toArray, hv.length, hv'.length]
    simpa using hlen
theorem vcmpS_sound {op : CmpOp} {v₁ v₂ : Value} {a b : V} {c : Bool} (G : Good prog K Γ) (R : Room (n + 1) A) (S : St prog Γ sc L cl ρ α σ s.heap) (e : vcmpS op a b σ = some c)
    (h1 : VRel Γ α s.heap v₁ a) (h2 : VRel Γ α s.heap v₂ b) (h : Q (.bool c) s) : wpAny (model prog Γ.w) A (compareOp op v₁ v₂) Q E s := by
  unfold vcmpS at e
  split at e
  · split at e
    · obtain ⟨k, rfl, e⟩ := vL_some e
      obtain ⟨x, rfl, ha⟩ := h1.inv
      obtain ⟨z, rfl, hb⟩ := h2.inv
      exact eqC_sound G R S e ha hb h
    · exact veqB_sound e h1 h2 h
  · split at e
    · obtain ⟨k, rfl, e⟩ := vL_some e
      obtain ⟨x, rfl, ha⟩ := h1.inv
      obtain ⟨z, rfl, hb⟩ := h2.inv
      exact neC_sound R S e ha hb h
    · obtain ⟨es, rfl, e⟩ := vT_some e
      obtain ⟨r, er, ec⟩ := Option.map_eq_some_iff.mp e
      obtain ⟨x, vs, rfl, ht, hv, hz⟩ := h1.inv
      obtain ⟨z, us, rfl, ht', hv', hz'⟩ := h2.inv
      obtain ⟨e1, e2⟩ := eqG_pairs (P := fun v u r => ∀ (E : Value → Shared → Prop) (Q : Bool → Shared → Prop), Q r s → wpAny (model prog Γ.w) A.in1 (eqBool v u) Q E s) (fun _ _ _ _ _ e a b => veqS_sound G R.in1 S e a b) hv hv' er
      exact tup_ne R.u ht ht' e2 e1 (by rw [ec]; exact h)
    · exact vneB_sound e h1 h2 h
  · exact vcmp_sound e h1 h2 h
end
end
theorem JE_cmpS {prog : Program} {K : Params → Frag} {n : Nat} {sc : Scope} {l r : Expr} {op : CmpOp} {pos : Pos} {f g : PM V} (h1 : JE prog K (n + 1) sc l f) (h2 : JE prog K (n + 1) sc r g) (hm : behindInMarks op r = false := by rfl) :
    JE prog K (n + 1) sc (.Compare l [op] [r] pos) (pbind f fun a => pbind g fun b => pbind (psto (vcmpS op a b)) fun c => pret (.bool c)) := by
  intro Γ A env ρ α σ c ρ' σ' s Q E G hf R O S hQ
  refine pbind_elim hf fun a ρ1 σ1 e1 hf1 => ?_
  refine pbind_elim hf1 fun b ρ2 σ2 e2 hf2 => ?_
  refine pbind_elim hf2 fun x ρ3 σ3 e3 hf3 => ?_
  obtain ⟨e4, rfl, rfl⟩ := psto_some e3
  obtain ⟨rfl, rfl, rfl⟩ := pret_some hf3
  refine wpAny_Compare1 (h1 Γ A env ρ α σ a ρ1 σ1 s _ E G e1 R O S fun v1 tk1 H1 α1 S1 T1 r1 => ?_) hm
  refine h2 Γ A env ρ1 α1 σ1 b _ _ _ _ E G e2 R O S1 fun v2 tk2 H2 α2 S2 T2 r2 => ?_
  exact vcmpS_sound (s := { s with heap := H2, toks := tk2 }) G R S2 e4 (S1.up T2 r1) r2 (hQ _ tk2 H2 α2 S2 (T1.trans T2) (.bool ..))
theorem JT_cmpS {prog : Program} {K : Params → Frag} {n : Nat} {sc : Scope} {l r : Expr} {op : CmpOp} {pos : Pos} {f g : PM V} (h1 : JE prog K (n + 1) sc l f) (h2 : JE prog K (n + 1) sc r g) (hm : behindInMarks op r = false := by rfl) :
    JT prog K (n + 1) sc (.Compare l [op] [r] pos) (pbind f fun a => pbind g fun b => psto (vcmpS op a b)) := by
  intro Γ A env ρ α σ c ρ' σ' s Q E G hf R O S hQ
  refine pbind_elim hf fun a ρ1 σ1 e1 hf => ?_
  refine pbind_elim hf fun b ρ2 σ2 e2 hf => ?_
  obtain ⟨e3, rfl, rfl⟩ := psto_some hf
  refine wpAny_isTrue_Compare1 (h1 Γ A env ρ α σ a ρ1 σ1 s _ E G e1 R O S fun v1 tk1 H1 α1 S1 T1 r1 => ?_) hm
  refine h2 Γ A env ρ1 α1 σ1 b _ _ _ _ E G e2 R O S1 fun v2 tk2 H2 α2 S2 T2 r2 => ?_
  exact vcmpS_sound (s := { s with heap := H2, toks := tk2 }) G R S2 e3 (S1.up T2 r1) r2 (wpAny_truthy_bool (hQ _ tk2 H2 α2 S2 (T1.trans T2) rfl))
noncomputable def sDict : Spec := fun ds σ => a1 ds fun a => vL a fun l => sD σ l fun es => some (.loc σ.length, σ ++ [.dict es])
theorem cDict {prog : Program} {K : Params → Frag} {n : Nat} : CallOk prog K n (.type "dict") sDict := by
  intro Γ A sc L cl ρ α σ s vs ds r σ' Q E G R S hv e hQ
  obtain ⟨d, rfl, e⟩ := a1_some e
  obtain ⟨l, rfl, e⟩ := vL_some e
  obtain ⟨es, he, e⟩ := sD_some e
  cases e
  obtain ⟨v, rfl, hv1⟩ := hv.one
  obtain ⟨x, rfl, ha⟩ := hv1.inv
  obtain ⟨kvs, hd, hkv, hz⟩ := S.dictOf he ha
  refine kt_call_dict (S.noSys G (List.mem_of_getElem? ha)) hd (by rw [sizeLine_eq]; lia) fun h' hd' hs' => ?_
  have kp : ∀ b o, s.heap.get? b = some o → h'.get? b = some o := fun b o e => hs'.extBut b o (Nat.ne_of_lt (Heap.lt_size e)) (Heap.get?_push_of_some _ e)
  obtain ⟨S2, T2⟩ := S.newCell (c := .dict es) kp (Heap.get?_none_of_le (Nat.le_refl _)) (.dict hd' (hkv.mono (S.upNew kp _)) hz)
  exact hQ _ s.toks _ _ S2 T2 (S.lastLoc _)
end Mine
namespace Mine
open PySem PySem.W PySem.Calls PyProof.Rows
set_option maxRecDepth 100000
section
variable {prog : Program} {w : World} {A : Around} {E : Value → Shared → Prop} {s : Shared}
abbrev ByteAt (b : Array UInt8) (i : Nat) (v : Value) : Prop := ∃ c u, b[i]? = some c ∧ v = .int (c.toNat : Int) u
theorem bytes_list {Q : Value → Shared → Prop} (hh : A.handled = none) {x : Array UInt8} {t : Tok} (hn : x.size ≤ sizeLine)
    (hQ : ∀ D h' tk vs c, (∀ b o, s.heap.get? b = some o → h'.get? b = some o) → D = s.heap.objs.size → h'.get? D = some { cls := .type "list", data := .seq vs c } → ItemsOf (ByteAt x) vs x.size → Q (.ref D) { s with heap := h', toks := tk }) :
    wpAny (model prog w) A (call (.type "list") [.bytes x t]) Q E s := by
  refine callType_codes (Q₁ := fun v s₁ => v = _ ∧ s₁ = _) PySem.F.called_list (PySem.F.typeCall_list_1 _) PySem.F.entry_list_init (code_list_new _ ⟨rfl, rfl⟩) ?_
  rintro _ _ ⟨rfl, rfl⟩
  have hD := Heap.get?_push_size s.heap (o := { cls := .type "list", data := .seq #[] }) rfl
  have old : ∀ b o, s.heap.get? b = some o → b ≠ s.heap.objs.size ∧ (s.heap.push { cls := .type "list", data := .seq #[] }).get? b = some o := fun b o e => ⟨Nat.ne_of_lt (Heap.lt_size e), Heap.get?_push_of_some _ e⟩
  refine ⟨⟨_, hD, rfl⟩, PySem.F.args_list_init_2 _ _, ?_⟩
  replace hQ := fun h' tk vs c k => hQ _ h' tk vs c k rfl
  revert hD old hQ
  generalize s.heap.push { cls := .type "list", data := .seq #[] } = H
  generalize s.heap.objs.size = D
  intro hD old hQ
  have hD' := Heap.get?_update_self (Obj.mapSeq fun _ => (#[] : Array Value)) hD rfl
  have old' : ∀ b o, s.heap.get? b = some o → b ≠ D ∧ (H.update D (Obj.mapSeq fun _ => (#[] : Array Value))).get? b = some o := fun b o e => ⟨(old b o e).1, (Heap.get?_update_other _ _ (old b o e).1.symm).trans (old b o e).2⟩
  have ty : ∀ {s' : Shared} {Q' : Value → Shared → Prop} {E' : Value → Shared → Prop} {A' : Around}, Q' (.type "bytes") s' → wpAny (model prog w) A' (typeOf (.bytes x t)) Q' E' s' := fun q => wpAny_typeOf (T := "bytes") rfl q
  have len : ∀ {s' : Shared} {Q' : Option Value → Shared → Prop} {E' : Value → Shared → Prop} {A' : Around}, Q' (some (.builtin "bytes.__len__")) s' → wpAny (model prog w) A' (specialOf (.bytes x t) "__len__") Q' E' s' := fun q => wpAny_specialOf (T := "bytes") (v := .bytes x t) rfl FB.slot_bytes_len.lookup q
  have hint : ∀ {s' : Shared} {Q' : Bool → Shared → Prop} {E' : Value → Shared → Prop} {A' : Around}, Q' false s' → wpAny (model prog w) A' (Builtin.List.listLengthHint (.bytes x t)) Q' E' s' := by
    intro s' Q' E' A' q
    unfold Builtin.List.listLengthHint
    refine wpAny_bind (len ?_)
    wp_delta
    exact wpAny_bind (wpAny_isInstance (T := "bytes") (b := true) rfl (by rw [isSubtype_type]; kernel_rfl) (wpAny_bind (ty (wpAny_pure q))))
  unfold Builtin.«list.__init__» Builtin.List.listItems Builtin.List.listExtendWith
  wp_walk using wpAny_seqItems hD rfl, wpAny_updateSeq hD rfl, wpAny_letGo, ty, KBw.pyIter_bytes, hint
  have far : D ≠ (H.update D (Obj.mapSeq fun _ => (#[] : Array Value))).objs.size := Nat.ne_of_lt (Heap.lt_size hD')
  refine ⟨plainId_quiet PySem.F.plain_extend_loop _, codeAny_extend_loopS (KBw.walks (A := A.in1.in1) hh _ x t).toS hn D (fun q => far (List.eq_of_mem_singleton q)) .none x.size 0 _ _ _ rfl (Nat.zero_le _)
    ⟨_, Heap.get?_push_size _ rfl, rfl, rfl⟩ (Heap.get?_push_of_some _ hD') (ItemsOf.nil _) fun s' vs c mv hl items => ?_⟩
  rw [Moved.eq_with mv]
  refine ⟨rfl, hQ _ _ vs c (fun b o e => mv.heap b o (fun q => ?_) (Heap.get?_push_of_some _ (old' b o e).2)) hl items⟩
  cases q with
  | head => exact (old' _ o e).1 rfl
  | tail _ q => exact Nat.lt_irrefl _ (List.eq_of_mem_singleton q ▸ Heap.lt_size (old' b o e).2)
end
noncomputable def byteV (b : List UInt8) : List V := b.map fun c => .int c.toNat
noncomputable def sList : Spec := fun ds σ => a1 ds fun a => vB a fun b => if b.length ≤ 1000000 then some (.loc σ.length, σ ++ [.list (byteV b)]) else none
theorem VAll.of_get {Γ : Fix} {α : List Addr} {h : Heap} : ∀ {ds : List V} {vs : List Value}, vs.length = ds.length → (∀ (i : Nat) (v : Value), vs[i]? = some v → ∃ d, ds[i]? = some d ∧ VRel Γ α h v d) → VAll Γ α h vs ds
  | [], [], _, _ => .nil
  | [], _ :: _, h, _ => by cases h
  | _ :: _, [], h, _ => by cases h
  | d :: ds, v :: vs, h, g => by
    obtain ⟨d', e, r⟩ := g 0 v rfl
    cases e
    exact .cons r (VAll.of_get (by simpa using h) fun i v e => by simpa using g (i + 1) v (by simpa using e))
theorem cList {prog : Program} {K : Params → Frag} {n : Nat} : CallOk prog K n (.type "list") sList := by
  intro Γ A sc L cl ρ α σ s vs ds r σ' Q E G R S hv e hQ
  obtain ⟨d, rfl, e⟩ := a1_some e
  obtain ⟨b, rfl, e⟩ := vB_some e
  obtain ⟨hz, e⟩ := ite_some e
  cases e
  obtain ⟨v, rfl, hv1⟩ := hv.one
  obtain ⟨t, rfl, hz'⟩ := hv1.inv
  refine bytes_list R.hh (by rw [sizeLine_eq, List.size_toArray]; exact hz') fun D h' tk acc' c' kp eD hD hacc => ?_
  subst eD
  obtain ⟨hs1, hs2⟩ := hacc
  have hv2 : VAll Γ (α ++ [s.heap.objs.size]) h' acc'.toList (byteV b) := by
    refine VAll.of_get (by rw [Array.length_toList, hs1]; simp [byteV]) fun i v e => ?_
    obtain ⟨c, u, hc, rfl⟩ := hs2 i v (by rw [← Array.getElem?_toList]; exact e)
    refine ⟨.int c.toNat, ?_, .int _ _⟩
    have hc' : b[i]? = some c := by simpa using hc
    simp [byteV, hc']
  obtain ⟨S2, T2⟩ := S.newCell (c := .list (byteV b)) kp (Heap.get?_none_of_le (Nat.le_refl _)) (.list (vs := acc'.toList) ⟨c', by simpa using hD⟩ hv2 (by rw [Array.length_toList, hs1]; simpa using hz))
  exact hQ _ tk _ _ S2 T2 (S.lastLoc _)
end Mine
namespace Mine
open PySem PySem.W PySem.Calls PyProof.Rows
theorem codeAmong_app {pos pos' : Pos} {c cv : Value} : ∀ {l : List Value}, TriplesOk l → codeAmong pos (l ++ [rawInt pos'.line, rawInt pos'.col, c]) = some cv → codeAmong pos l = some cv ∨ cv = c
  | [], _, e => by
    simp only [List.nil_append, rawInt, codeAmong] at e
    split at e
    · cases e; exact .inr rfl
    · cases e
  | .int a _ :: .int b _ :: x :: rest, h, e => by
    simp only [List.cons_append, codeAmong] at e ⊢
    split at e
    · rename_i q; rw [if_pos q]; exact .inl e
    · rename_i q; rw [if_neg q]; exact codeAmong_app h e
section
variable {prog : Program} {K : Params → Frag} {n : Nat} {Γ : Fix} {sc : Scope} {L : Addr} {cl : List (Str × Addr)} {ρ : Loc} {α : List Addr} {σ : Sto} {A : Around} {s : Shared} {E : Value → Shared → Prop}
theorem lam_step {env : Env} {c : Addr} {i : Nat} {q : Str} {params : Arguments} {body : Expr} {lsc : Scope} {pos : Pos} {clos : List (Str × Addr)} {Q : Value → Shared → Prop} (G : Good prog K Γ) (S : St prog Γ sc L cl ρ α σ s.heap) (hi : σ[i]? = some (.tab q))
    (hC : CodeHd Γ.hb c tabP) (hcode : env.code = .ref c) (hglob : env.globals = mainGlobals) (hq : env.qual ++ "<lambda>" = q) (hdef : defaultsOf params env = ([], [])) (hcl : closureFor lsc env = pure clos)
    (h : ∀ f h' tk pm c' ctv, St prog Γ sc L cl ρ α σ h' → Step L cl α α s.heap h' → h'.get? f = some (kla_obj "<lambda>" q params body lsc clos pm c' ctv) → h'.CodeRec (.ref c') q → s.heap.get? f = none → Q (.ref f) { s with heap := h', toks := tk }) :
    wpAny (model prog Γ.w) A (eval (.Lambda params body lsc pos) env) Q E s := by
  obtain ⟨p, loose, mg, mb, T, hb⟩ := G.top
  obtain ⟨a, ha, hcell, hbn⟩ := S.cell i _ hi
  cases hcell with
  | @tab ps _ haP hP ht hc =>
    subst haP
    have hg := T.g.keeps S.keep
    have hgP : mainGlobals ≠ tabP := fun z => by
      obtain ⟨o, _, _, ho, _⟩ := T.g
      rw [z, hbn] at ho; cases ho
    have hb' : s.heap.BuiltinsAt mg tabP := let ⟨bm, o, b1, b2, b3, b4, b5, b6⟩ := hb; ⟨bm, o, b1, b2, b3, b4, S.keep _ _ b5, b6⟩
    have hC' := hC.keeps S.keep
    have hmα : tabP ∈ α := List.mem_of_getElem? ha
    refine kla_eval hdef ?_
    rw [hq]
    cases hf : codeAmong pos ps.toList with
    | none =>
      refine kla_makeFunction hcl hglob hg hcode hC' hP ht hf hgP hb' fun c' ctv h' tk hx hge hlt hrec htb => ?_
      have kp : ∀ b o, h'.get? b = some o → (h'.push (kla_obj "<lambda>" q params body lsc clos ((mg "__name__").getD .none) c' ctv)).get? b = some o := fun b o e => Heap.get?_push_of_some _ e
      have hx' : Heap.ExtBut tabP s.heap (h'.push (kla_obj "<lambda>" q params body lsc clos ((mg "__name__").getD .none) c' ctv)) := fun b o hb e => kp b o (hx b o hb e)
      have hsz : s.heap.objs.size ≤ h'.objs.size := Nat.le_trans hge (Nat.le_of_lt hlt)
      obtain ⟨S', T'⟩ := S.updCell (c := .tab q) ha hx' (fun up => .tab rfl (kp _ _ htb) (by rw [Array.toList_append]; exact TriplesOk_snoc _ _ _ _ ht) (fun pos' cv e => by
        rw [Array.toList_append] at e
        rcases codeAmong_app ht e with e | rfl
        · obtain ⟨c₂, q1, q2⟩ := hc pos' cv e
          exact ⟨c₂, q1, up _ _ q2⟩
        · exact ⟨c', rfl, .code (hrec.keeps kp)⟩)) ⟨_, kp _ _ htb⟩
      have hset : σ.set i (.tab q) = σ := by
        obtain ⟨hlt, he⟩ := List.getElem?_eq_some_iff.mp hi
        rw [← he, List.set_getElem_self]
      rw [hset] at S'
      exact h _ _ tk _ _ _ S' T' (Heap.get?_push_size _ rfl) (hrec.keeps kp) (Heap.get?_none_of_le hsz)
    | some cv =>
      obtain ⟨c', rfl, hv⟩ := hc pos cv hf
      cases hv with
      | code hrec =>
        refine kla_makeFunctionHit hcl hglob hg hcode hC' hP ht hf hb' fun ctv h' tk hk hsz => ?_
        have kp : ∀ b o, s.heap.get? b = some o → (h'.push (kla_obj "<lambda>" q params body lsc clos ((mg "__name__").getD .none) c' ctv)).get? b = some o := fun b o e => Heap.get?_push_of_some _ (hk b o e)
        exact h _ _ tk _ _ _ (S.keeps kp) (Step.keeps kp) (Heap.get?_push_size _ rfl) (hrec.keeps kp) (Heap.get?_none_of_le hsz)
end
end Mine
namespace Mine
open PySem PySem.W PySem.Calls PyProof.Rows
set_option Elab.async false
set_option maxRecDepth 100000
set_option maxHeartbeats 4000000
theorem fillH1 : PySem.Challenge.rw_og0081_01 = PySem.Challenge.rw_og0081_01 ∧ KK = KK := by
  k_fill
  exact ⟨rfl, rfl⟩
theorem set_stmt {prog : Program} {w : World} {A : Around} {s : Shared} {E : Value → Shared → Prop} {K : Frag} {h₀ : Heap} {L x dx C : Addr} {m : Str → Option Value} {env : Env} {nm : Str} {v : Value} {es : List DictEntry} {n n' : Nat} {p1 p2 p3 pos : Pos} {Q : Flow → Shared → Prop}
    (F : Fr h₀ L s.heap m) (hL : env.locals = L) (hk : env.scope.kind = .function) (hkn : env.kindOf nm = some .local) (hks : env.kindOf "self" = some .local) (ms : m "self" = some (.ref x)) (mn : m nm = some v) (hd : (nm == ("__debug__" : Str)) = false)
    (X₀ : K.In h₀) (N : News h₀ L s.heap [(x, instObj C dx), (dx, dictOf es n)]) (hne : x ≠ dx)
    (hs : findIn K (.ref C) "__setattr__" = some (some (.builtin "object.__setattr__"))) (hp : plainOver K C = true) (ht : takerIn K C nm = some none) (hh : hasDictIn K C = true) (hl : (getL nm es).isSome = true)
    (e : ∀ t, (putL nm (PyData.keyHash w.params nm) (.str nm t) v es, putN nm es n) = (es ++ [⟨PyData.keyHash w.params nm, .str nm t, v⟩], n')) (hz : es.length < 1000)
    (hsw : swapsWith (.Name nm p3) (some (.Attribute (.Name "self" p1) nm p2)) pos.line env = pure false)
    (h : ∀ h' t tk, Fr h₀ L h' m → News h₀ L h' [(x, instObj C dx), (dx, dictOf (es ++ [⟨PyData.keyHash w.params nm, .str nm t, v⟩]) n')] → Q .next { s with heap := h', toks := tk }) :
    wpAny (model prog w) A (exec (.Assign [.Attribute (.Name "self" p1) nm p2] (.Name nm p3) pos) env) Q E s := by
  subst hL
  refine plainObj_wpAny_Assign_Attribute (wpAny_Name (wpAny_loadName_local hk hkn F.ns mn ?_) hd) hsw
  refine wpAny_Name (wpAny_loadName_local hk hks F.ns ms ?_) (by decide +kernel)
  refine set_dict F X₀ N (InstAt.of_news (sl := #[]) N (List.mem_cons_self ..) (List.mem_cons_of_mem _ (List.mem_cons_self ..))) rfl hs hp ht hh hl (e _) (.tail hne (.head fun _ h => nomatch h)) (by rw [List.length_append]; exact hz) fun h' F' N' => h h' _ _ F' N'
theorem def_run {prog : Program} {w : World} {A : Around} {s : Shared} {R : Result → Shared → Prop} {K : Frag} {hh : Heap} {x dx : Addr} {f : Addr} {name qual : Str} {params : Arguments} {body : List Stmt} {scope : Scope} {dV kV doc pm cdv ct oc : Value} {an od : Option Addr} {osl : Array (Option Value)} {xs : List Str} {vs : List Value}
    (X : K.In hh) (kk : ∀ b o, hh.get? b = some o → s.heap.get? b = some o) (hx : hh.get? x = none) (hdx : hh.get? dx = none) (hd : A.depth < recursionLimit) (hlim : hh.NoLimit)
    (ho : K.lookup f = some ⟨oc, od, .func (fnOf name qual params body scope dV kV doc pm an cdv ct), osl⟩) (hcd : codeIn K cdv qual = true)
    (hbind : bindArgs (fnOf name qual params body scope dV kV doc pm an cdv ct) ⟨vs, []⟩ = pure (xs.zip vs)) (hlen : vs.length = xs.length)
    (hkind : (xs.all fun y => scope.names.lookup y == some .local) = true) (hxs : xs.Nodup) (hco : scope.isCoroutine = false) (hgen : scope.isGenerator = false) (hk : scope.kind = .function)
    (h : ∀ L h₁ tk (env : Env) m, env.locals = L → env.scope = scope → env.globals = mainGlobals → (∀ y v, (xs.zip vs).lookup y = some v → m y = some v) → K.In (hideAll s.heap [x, dx]) → Fr (hideAll s.heap [x, dx]) L h₁ m → (∀ b o, s.heap.get? b = some o → h₁.get? b = some o) → x ≠ L → dx ≠ L →
      wpAny (model prog w) (A.deeper env) (execs body env) (fun fl s' => R (.ok (.ret (match fl with | .ret v => v | _ => .none))) s')
        (fun e s' => wpAny (model prog w) (A.deeper env) (leaving env e) (fun _ s'' => R (.error e) s'') (fun e' s'' => R (.error e') s'') s') { s with heap := h₁, toks := tk })
    (hxa : ∃ o, s.heap.get? x = some o) (hda : ∃ o, s.heap.get? dx = some o) :
    codeAny (model prog w) A (.call (.ref f) ⟨vs, []⟩) R s := by
  have Xs := X.keeps kk
  refine codeAny_call_cells (fd := fnOf name qual params body scope dV kV doc pm an cdv ct) hd (Xs _ _ ho) rfl (hlim.keeps kk) (codeRec_of Xs hcd) rfl hbind rfl (fun y hy => ?_) (fun s₁ x₁ => ?_) hco hgen hk
  · have hy1 : y.1 ∈ xs := by rw [← zip_keys hlen]; exact List.mem_map.mpr ⟨y, hy, rfl⟩
    have := List.all_eq_true.mp hkind y.1 hy1
    exact .inl (by simpa using this)
  · have hk1 := x₁.toInCall.keep
    have hns := x₁.toInCall.ns
    obtain ⟨H1, tk1, rfl⟩ := x₁.toInCall.same
    have hKne : ∀ a o, K.lookup a = some o → a ∉ [x, dx] := fun a o e hm => by
      have := X a o e
      rcases List.mem_cons.mp hm with rfl | hm
      · rw [hx] at this; cases this
      · rw [List.mem_singleton.mp hm, hdx] at this; cases this
    obtain ⟨ox, hox⟩ := hxa
    obtain ⟨odx, hodx⟩ := hda
    refine h s.heap.objs.size H1 tk1 (callEnvC (fnOf name qual params body scope dV kV doc pm an cdv ct) s.heap.objs.size f) _ rfl rfl rfl (fun y v e => ?_) (fun a o e => hideAll_get _ (Xs a o e) (hKne a o e)) ⟨hns, fun b o e => hk1 b o (of_hideAll _ e), Nat.le_of_eq (hideAll_size _ _)⟩ hk1 (Nat.ne_of_lt (Heap.lt_size hox)) (Nat.ne_of_lt (Heap.lt_size hodx))
    have hy1 : y ∈ xs := by rw [← zip_keys hlen]; exact List.mem_map.mpr ⟨(y, v), mem_of_lookup e, rfl⟩
    have hl := List.all_eq_true.mp hkind y hy1
    exact bindL_at (by rw [zip_keys hlen]; exact hxs) e (by show scope.names.lookup y = _; simpa using hl)
theorem init_hands {prog : Program} {w : World} {A : Around} {s : Shared} {R : Result → Shared → Prop} {hh : Heap} {x dx f1 f2 f3 f4 f5 f6 f7 : Addr}
    (X : (KK w.params).In hh) (kk : ∀ b o, hh.get? b = some o → s.heap.get? b = some o) (hx : hh.get? x = none) (hdx : hh.get? dx = none) (hd : A.depth < recursionLimit) (hlim : hh.NoLimit)
    (hxo : s.heap.get? x = some (instObj 135 dx)) (hdo : s.heap.get? dx = some (dictOf [] 0)) (hne : x ≠ dx)
    (h : ∀ h' tk t1 t2 t3 t4 t5 t6 t7 n, (∀ b o, b ≠ dx → s.heap.get? b = some o → h'.get? b = some o) →
      h'.get? dx = some (dictOf [⟨PyData.keyHash w.params (Str.ofString "fetch"), .str (Str.ofString "fetch") t1, .ref f1⟩, ⟨PyData.keyHash w.params (Str.ofString "plant"), .str (Str.ofString "plant") t2, .ref f2⟩,
        ⟨PyData.keyHash w.params (Str.ofString "amount"), .str (Str.ofString "amount") t3, .ref f3⟩, ⟨PyData.keyHash w.params (Str.ofString "keep"), .str (Str.ofString "keep") t4, .ref f4⟩,
        ⟨PyData.keyHash w.params (Str.ofString "spot"), .str (Str.ofString "spot") t5, .ref f5⟩, ⟨PyData.keyHash w.params (Str.ofString "bring"), .str (Str.ofString "bring") t6, .ref f6⟩,
        ⟨PyData.keyHash w.params (Str.ofString "room"), .str (Str.ofString "room") t7, .ref f7⟩] n) → R (.ok (.ret .none)) { s with heap := h', toks := tk }) :
    codeAny (model prog w) A (.call (.ref 132) ⟨[.ref x, .ref f1, .ref f2, .ref f3, .ref f4, .ref f5, .ref f6, .ref f7], []⟩) R s := by
  refine' def_run (f := 132) (xs := ["self", "fetch", "plant", "amount", "keep", "spot", "bring", "room"]) X kk hx hdx hd hlim (by k_is) (by k_is) (by rfl) (by rfl) (by decide +kernel) (by decide +kernel) rfl rfl rfl ?_ ⟨_, hxo⟩ ⟨_, hdo⟩
  intro L h₁ tk env m hL hsc hgl hm X₀ F kp xL dL
  have hk : env.scope.kind = .function := by rw [hsc]; rfl
  have kof : ∀ y, env.kindOf y = env.scope.names.lookup y := fun _ => rfl
  have N : News (hideAll s.heap [x, dx]) L h₁ [(x, instObj 135 dx), (dx, dictOf [] 0)] := fun p hp => by
    rcases List.mem_cons.mp hp with rfl | hp
    · exact ⟨kp _ _ hxo, xL, hideAll_none _ (List.mem_cons_self ..)⟩
    · rw [List.mem_singleton.mp hp]
      exact ⟨kp _ _ hdo, dL, hideAll_none _ (List.mem_cons_of_mem _ (List.mem_cons_self ..))⟩
  have ms : m "self" = some (.ref x) := hm _ _ (by with_unfolding_all rfl)
  have hks : env.kindOf "self" = some .local := by rw [kof, hsc]; decide +kernel
  refine wpAny_execs_cons (set_stmt (n' := 1) F hL hk (by rw [kof, hsc]; decide +kernel) hks ms (hm _ _ (by with_unfolding_all rfl)) (by decide +kernel) X₀ N hne (by k_is) (by k_is) (by k_is) (by k_is) (by kernel_rfl) (fun t => by kernel_rfl) (Nat.le_of_ble_eq_true rfl) (by with_unfolding_all rfl) fun h1 t1 tk1 F1 N1 => ?_)
  refine wpAny_execs_cons (set_stmt (n' := 2) F1 hL hk (by rw [kof, hsc]; decide +kernel) hks ms (hm _ _ (by with_unfolding_all rfl)) (by decide +kernel) X₀ N1 hne (by k_is) (by k_is) (by k_is) (by k_is) (by kernel_rfl) (fun t => by kernel_rfl) (Nat.le_of_ble_eq_true rfl) (by with_unfolding_all rfl) fun h2 t2 tk2 F2 N2 => ?_)
  refine wpAny_execs_cons (set_stmt (n' := 3) F2 hL hk (by rw [kof, hsc]; decide +kernel) hks ms (hm _ _ (by with_unfolding_all rfl)) (by decide +kernel) X₀ N2 hne (by k_is) (by k_is) (by k_is) (by k_is) (by kernel_rfl) (fun t => by kernel_rfl) (Nat.le_of_ble_eq_true rfl) (by with_unfolding_all rfl) fun h3 t3 tk3 F3 N3 => ?_)
  refine wpAny_execs_cons (set_stmt (n' := 4) F3 hL hk (by rw [kof, hsc]; decide +kernel) hks ms (hm _ _ (by with_unfolding_all rfl)) (by decide +kernel) X₀ N3 hne (by k_is) (by k_is) (by k_is) (by k_is) (by kernel_rfl) (fun t => by kernel_rfl) (Nat.le_of_ble_eq_true rfl) (by with_unfolding_all rfl) fun h4 t4 tk4 F4 N4 => ?_)
  refine wpAny_execs_cons (set_stmt (n' := 5) F4 hL hk (by rw [kof, hsc]; decide +kernel) hks ms (hm _ _ (by with_unfolding_all rfl)) (by decide +kernel) X₀ N4 hne (by k_is) (by k_is) (by k_is) (by k_is) (by kernel_rfl) (fun t => by kernel_rfl) (Nat.le_of_ble_eq_true rfl) (by with_unfolding_all rfl) fun h5 t5 tk5 F5 N5 => ?_)
  refine wpAny_execs_cons (set_stmt (n' := 6) F5 hL hk (by rw [kof, hsc]; decide +kernel) hks ms (hm _ _ (by with_unfolding_all rfl)) (by decide +kernel) X₀ N5 hne (by k_is) (by k_is) (by k_is) (by k_is) (by kernel_rfl) (fun t => by kernel_rfl) (Nat.le_of_ble_eq_true rfl) (by with_unfolding_all rfl) fun h6 t6 tk6 F6 N6 => ?_)
  refine wpAny_execs_cons (set_stmt (n' := 7) F6 hL hk (by rw [kof, hsc]; decide +kernel) hks ms (hm _ _ (by with_unfolding_all rfl)) (by decide +kernel) X₀ N6 hne (by k_is) (by k_is) (by k_is) (by k_is) (by kernel_rfl) (fun t => by kernel_rfl) (Nat.le_of_ble_eq_true rfl) (by with_unfolding_all rfl) fun h7 t7 tk7 F7 N7 => ?_)
  refine wpAny_execs_nil (h h7 tk7 t1 t2 t3 t4 t5 t6 t7 7 (fun b o hb e => ?_) (N7 _ (List.mem_cons_of_mem _ (List.mem_cons_self ..))).1)
  by_cases hbx : b = x
  · subst hbx
    rw [hxo] at e; cases e
    exact (N7 _ (List.mem_cons_self ..)).1
  · exact F7.keep b o (hideAll_get _ e (by simp [hbx, hb]))
end Mine
namespace Mine
open PySem PySem.W PySem.Calls PyProof.Rows
set_option Elab.async false
set_option maxRecDepth 100000
set_option maxHeartbeats 4000000
noncomputable def qLam : Str := Str.ofString "_law_hands" ++ Str.ofString ".<locals>." ++ Str.ofString "<lambda>"
noncomputable abbrev hidden (L : Addr) (cl : List (Str × Addr)) (α : List Addr) : List Addr := L :: (cl.map (·.2) ++ α)
theorem hidden_alive {prog : Program} {Γ : Fix} {sc : Scope} {L : Addr} {cl : List (Str × Addr)} {ρ : Loc} {α : List Addr} {σ : Sto} {h : Heap} (S : St prog Γ sc L cl ρ α σ h) {b : Addr} (hb : b ∈ hidden L cl α) : ∃ o, h.get? b = some o := by
  rcases List.mem_cons.mp hb with rfl | hb
  · obtain ⟨m, ⟨o, _, _, ho, _⟩, _⟩ := S.fr; exact ⟨o, ho⟩
  · rcases List.mem_append.mp hb with hb | hb
    · obtain ⟨p, hp, rfl⟩ := List.mem_map.mp hb
      obtain ⟨_, _, v, o, ho, _⟩ := S.cells p hp; exact ⟨o, ho⟩
    · obtain ⟨i, c, _, _, x, _⟩ := S.memα hb
      obtain ⟨o, ho, _⟩ := x.noTuple; exact ⟨o, ho⟩
theorem Step.same {prog : Program} {Γ : Fix} {sc sc' : Scope} {L L' : Addr} {cl cl' : List (Str × Addr)} {ρ ρ' : Loc} {α α' : List Addr} {σ : Sto} {h h' : Heap} (T : Step L cl α α' h h') (S : St prog Γ sc L' cl' ρ α σ h) (S' : St prog Γ sc' L cl ρ' α' σ h') : α' = α := by
  obtain ⟨⟨β, e, _⟩, _, _⟩ := T
  have h1 := S.len
  have h2 := S'.len
  rw [e, List.length_append] at h2
  have : β = [] := List.eq_nil_of_length_eq_zero (by lia)
  rw [e, this, List.append_nil]
theorem lam_def {prog : Program} {K : Params → Frag} {n : Nat} {Γ : Fix} {A : Around} {s : Shared} {R : Result → Shared → Prop} {sc : Scope} {L : Addr} {cl : List (Str × Addr)} {ρ : Loc} {α : List Addr} {σ : Sto} {f : Addr} {name qual : Str} {params : Arguments} {body : List Stmt} {scope : Scope} {dV kV doc pm cdv ct oc : Value} {an od : Option Addr} {osl : Array (Option Value)} {xs : List Str} {vs : List Value} {ds : List V}
    (G : Good prog K Γ) (Rm : Room (n + 1) A) (S : St prog Γ sc L cl ρ α σ s.heap)
    (ho : ∀ P, (K P).lookup f = some ⟨oc, od, .func (fnOf name qual params body scope dV kV doc pm an cdv ct), osl⟩) (hcd : ∀ P, codeIn (K P) cdv qual = true)
    (hbind : bindArgs (fnOf name qual params body scope dV kV doc pm an cdv ct) ⟨vs, []⟩ = pure (xs.zip vs)) (hv : VAll Γ α s.heap vs ds) (hlen : vs.length = xs.length)
    (hkind : (xs.all fun y => scope.names.lookup y == some .cell) = true) (hxs : xs.Nodup) (hnames : (scope.names.map (·.1)).Nodup) (hfree : ∀ p ∈ scope.names, p.2 ≠ .free) (hco : scope.isCoroutine = false) (hgen : scope.isGenerator = false) (hk : scope.kind = .function)
    (h : ∀ h₁ tk (env : Env), env.scope = scope → env.globals = mainGlobals → env.builtins = builtinsNs → env.code = cdv → env.qual = qual ++ ".<locals>." → St prog Γ scope env.locals env.cells (slots scope.names (xs.zip ds)) α σ h₁ →
      (∀ b o, s.heap.get? b = some o → h₁.get? b = some o) → s.heap.get? env.locals = none → (∀ p ∈ env.cells, s.heap.get? p.2 = none) → Room n (A.deeper env) →
      wpAny (model prog Γ.w) (A.deeper env) (execs body env) (fun fl s' => R (.ok (.ret (match fl with | .ret v => v | _ => .none))) s')
        (fun e s' => wpAny (model prog Γ.w) (A.deeper env) (leaving env e) (fun _ s'' => R (.error e) s'') (fun e' s'' => R (.error e') s'') s') { s with heap := h₁, toks := tk }) :
    codeAny (model prog Γ.w) A (.call (.ref f) ⟨vs, []⟩) R s := by
  have hX := G.X.keeps S.keep
  obtain ⟨p, loose, mg, mb, T, _⟩ := G.top
  refine codeAny_call_cells (fd := fnOf name qual params body scope dV kV doc pm an cdv ct) Rm.d (hX _ _ (ho _)) rfl (T.nolimit.keeps S.keep) (codeRec_of hX (hcd _)) rfl hbind rfl (fun y hy => ?_) (fun s₁ x => ?_) hco hgen hk
  · have hy1 : y.1 ∈ xs := by rw [← zip_keys hlen]; exact List.mem_map.mpr ⟨y, hy, rfl⟩
    have := List.all_eq_true.mp hkind y.1 hy1
    have q' : scope.names.lookup y.1 = some .cell := by simpa using this
    exact .inr ⟨q', cellsFrom_some _ _ _ (.inl q')⟩
  · have S1 := S.base.enter (fd := fnOf name qual params body scope dV kV doc pm an cdv ct) (f := f) hv hlen hxs hnames hfree x
    have hk1 := x.toInCall.keep
    obtain ⟨H1, tk1, rfl⟩ := x.toInCall.same
    refine h H1 tk1 (callEnvC (fnOf name qual params body scope dV kV doc pm an cdv ct) s.heap.objs.size f) rfl rfl rfl rfl rfl S1 hk1 (Heap.get?_none_of_le (Nat.le_refl _)) (fun p hp => Heap.get?_none_of_le (Nat.le_of_lt (x.above p.1 p.2 hp))) (Rm.deeper _)
theorem LamAt.step {prog : Program} {Γ : Fix} {sc : Scope} {L : Addr} {cl : List (Str × Addr)} {ρ : Loc} {α α' : List Addr} {σ : Sto} {h h' : Heap} {f : Addr} {pa : Arguments} {bo : Expr} {lsc : Scope} {clos : List (Str × Addr)} (S : St prog Γ sc L cl ρ α σ h) (T : Step L cl α α' h h') (x : LamAt h f pa bo lsc clos) : LamAt h' f pa bo lsc clos := by
  obtain ⟨q, pm, c', ctv, e, d⟩ := x
  obtain ⟨h1, h2, h3⟩ := S.other e (fun es n q => by cases q) (fun v q => by cases q) (.inr fun vs n q => by cases q) (.inl (by intro q; cases q))
  exact ⟨q, pm, c', ctv, T.frame f _ e h1 h2 h3, S.code T d⟩
theorem lam_step2 {prog : Program} {K : Params → Frag} {Γ : Fix} {A : Around} {s : Shared} {E : Value → Shared → Prop} {sc : Scope} {L : Addr} {cl : List (Str × Addr)} {ρ : Loc} {α : List Addr} {σ : Sto} {env : Env} {i : Nat} {params : Arguments} {body : Expr} {lsc : Scope} {pos : Pos} {clos : List (Str × Addr)} {Q : Value → Shared → Prop} (G : Good prog K Γ) (S : St prog Γ sc L cl ρ α σ s.heap) (hi : σ[i]? = some (.tab qLam))
    (hcode : env.code = .ref codeP) (hglob : env.globals = mainGlobals) (hq : env.qual ++ "<lambda>" = qLam) (hdef : defaultsOf params env = ([], [])) (hcl : closureFor lsc env = pure clos)
    (h : ∀ f h' tk, St prog Γ sc L cl ρ α σ h' → Step L cl α α s.heap h' → LamAt h' f params body lsc clos → s.heap.get? f = none → Q (.ref f) { s with heap := h', toks := tk }) :
    wpAny (model prog Γ.w) A (eval (.Lambda params body lsc pos) env) Q E s :=
  lam_step G S hi G.tabs hcode hglob hq hdef hcl fun f h' tk pm c' ctv S' T' o d n => h f h' tk S' T' ⟨qLam, pm, c', ctv, o, d⟩ n
theorem call_hands {prog : Program} {n : Nat} {Γ : Fix} {A : Around} {s : Shared} {E Q : Value → Shared → Prop} {sc : Scope} {L : Addr} {cl : List (Str × Addr)} {ρ : Loc} {α : List Addr} {σ : Sto} {k li ln ls : Nat} {ai an as : Addr}
    (G : Good prog KK Γ) (R : Room (n + 2) A) (S : St prog Γ sc L cl ρ α σ s.heap) (hk : σ[k]? = some (.tab qLam)) (hi : α[li]? = some ai) (hn : α[ln]? = some an) (hs : α[ls]? = some as)
    (h : ∀ x h' tk, St prog Γ sc L cl ρ α σ h' → Step L cl α α s.heap h' → HandsAt Γ.w (hideAll h' (hidden L cl α)) x ai an as → Q (.ref x) { s with heap := h', toks := tk }) :
    wpAny (model prog Γ.w) A (call (.ref 240) [.ref ai, .ref an, .ref as]) Q E s := by
  have hv : VAll Γ α s.heap [.ref ai, .ref an, .ref as] [.loc li, .loc ln, .loc ls] := .cons (.loc hi) (.cons (.loc hn) (.cons (.loc hs) .nil))
  refine wpAny_call ?_
  refine' lam_def (f := 240) (xs := ["items", "numbers", "seen"]) G R S (by intro P; k_is) (by intro P; k_is) (by rfl) hv rfl (by decide +kernel) (by decide +kernel) (by decide +kernel) (by decide +kernel) rfl rfl rfl ?_
  intro h₁ tk env hsc hgl hbl hcode hqual S1 kp1 hLn hcn R1
  conv at S1 => { arg 3; whnf }
  conv at hsc => { rhs; whnf }
  have O : EnvOk env _ := ⟨hsc, by rfl, hgl, hbl⟩
  refine wpAny_execs_cons (wpAny_Return_some ?_)
  refine wpAny_Call_NameR (JE_fn (f := 135) (n := n + 1) (slotOf_get (At.slot (by repeat first | exact At.here | apply At.there) S1.names)).2 (by intro P; k_is) (by decide +kernel) Γ _ env _ α σ _ _ σ { s with heap := h₁, toks := tk } _ _ G rfl R1 O S1 fun b tk1 H1 α1 S2 T1 r1 => ?_)
  have e1 := (T1.same S1 S2).symm
  subst e1
  cases r1
  have hcl : ∀ x, x = Str.ofString "items" ∨ x = Str.ofString "numbers" ∨ x = Str.ofString "seen" → ∃ c, env.cells.lookup x = some c := fun x hx => by
    obtain ⟨c, hc, _⟩ := S1.own x (by rcases hx with rfl | rfl | rfl <;> decide +kernel)
    exact ⟨c, hc⟩
  obtain ⟨ci, hci⟩ := hcl _ (.inl rfl)
  obtain ⟨cn, hcn'⟩ := hcl _ (.inr (.inl rfl))
  obtain ⟨cs, hcs⟩ := hcl _ (.inr (.inr rfl))
  have hq : env.qual ++ "<lambda>" = qLam := by rw [hqual]; rfl
  have clo : ∀ (lsc : Scope) (clos : List (Str × Addr)), (lsc.names.all fun p => p.2 != .free || p.1 == Str.ofString "items" || p.1 == Str.ofString "numbers" || p.1 == Str.ofString "seen") = true → closOf env.cells lsc.names [] = clos → closureFor lsc env = pure clos := fun lsc clos hx e => by
    rw [← e]
    refine closureFor_of fun x h => hcl x ?_
    have := List.all_eq_true.mp hx _ h
    simpa [or_assoc] using this
  have fl1 : (NameKind.local == NameKind.free) = false := rfl
  have fl2 : (NameKind.globalImplicit == NameKind.free) = false := rfl
  have fl3 : (NameKind.free == NameKind.free) = true := rfl
  refine callWith_K (h₀ := Γ.hb) G.X (by k_is) ?_ (by with_unfolding_all rfl) (by with_unfolding_all rfl)
  refine wpAny_items_cons (lam_step2 (s := { s with heap := H1, toks := tk1 }) (clos := [(Str.ofString "items", ci)]) G S2 hk (by rw [hcode]; rfl) hgl hq rfl (clo _ _ (by decide +kernel) (by simp [closOf, fl1, fl2, hci, hcn', hcs])) fun f1 h1 tk1 SA1 TA1 o1 n1 => ?_) (by with_unfolding_all rfl)
  refine wpAny_items_cons (lam_step2 (s := { s with heap := h1, toks := tk1 }) (clos := [(Str.ofString "items", ci)]) G SA1 hk (by rw [hcode]; rfl) hgl hq rfl (clo _ _ (by decide +kernel) (by simp [closOf, fl1, fl2, hci, hcn', hcs])) fun f2 h2 tk2 SA2 TA2 o2 n2 => ?_) (by with_unfolding_all rfl)
  refine wpAny_items_cons (lam_step2 (s := { s with heap := h2, toks := tk2 }) (clos := [(Str.ofString "numbers", cn)]) G SA2 hk (by rw [hcode]; rfl) hgl hq rfl (clo _ _ (by decide +kernel) (by simp [closOf, fl1, fl2, hci, hcn', hcs])) fun f3 h3 tk3 SA3 TA3 o3 n3 => ?_) (by with_unfolding_all rfl)
  refine wpAny_items_cons (lam_step2 (s := { s with heap := h3, toks := tk3 }) (clos := [(Str.ofString "numbers", cn)]) G SA3 hk (by rw [hcode]; rfl) hgl hq rfl (clo _ _ (by decide +kernel) (by simp [closOf, fl1, fl2, hci, hcn', hcs])) fun f4 h4 tk4 SA4 TA4 o4 n4 => ?_) (by with_unfolding_all rfl)
  refine wpAny_items_cons (lam_step2 (s := { s with heap := h4, toks := tk4 }) (clos := [(Str.ofString "seen", cs)]) G SA4 hk (by rw [hcode]; rfl) hgl hq rfl (clo _ _ (by decide +kernel) (by simp [closOf, fl1, fl2, hci, hcn', hcs])) fun f5 h5 tk5 SA5 TA5 o5 n5 => ?_) (by with_unfolding_all rfl)
  refine wpAny_items_cons (lam_step2 (s := { s with heap := h5, toks := tk5 }) (clos := [(Str.ofString "seen", cs), (Str.ofString "items", ci)]) G SA5 hk (by rw [hcode]; rfl) hgl hq rfl (clo _ _ (by decide +kernel) (by simp [closOf, fl1, fl2, hci, hcn', hcs])) fun f6 h6 tk6 SA6 TA6 o6 n6 => ?_) (by with_unfolding_all rfl)
  refine wpAny_items_cons (lam_step2 (s := { s with heap := h6, toks := tk6 }) (clos := [(Str.ofString "items", ci)]) G SA6 hk (by rw [hcode]; rfl) hgl hq rfl (clo _ _ (by decide +kernel) (by simp [closOf, fl1, fl2, hci, hcn', hcs])) fun f7 h7 tk7 SA7 TA7 o7 n7 => ?_) (by with_unfolding_all rfl)
  refine wpAny_items_nil ⟨G.X.keeps SA7.keep, ?_⟩
  have X7 := G.X.keeps SA7.keep
  refine wpAny_call ?_
  have kp8 : ∀ b o, h7.get? b = some o → ((h7.push emptyDict).push (instObj 135 h7.objs.size)).get? b = some o := fun b o e => Heap.get?_push_of_some _ (Heap.get?_push_of_some _ e)
  have hxn : h7.get? (h7.objs.size + 1) = none := Heap.get?_none_of_le (Nat.le_succ _)
  have hdn : h7.get? h7.objs.size = none := Heap.get?_none_of_le (Nat.le_refl _)
  obtain ⟨p, loose, mg, mb, TT, _⟩ := G.top
  refine make_core (makes_of X7 (by k_is)) (looks_findIn X7 (by k_is)) (fun self => bind_fn X7 self (by k_is)) (.inl rfl) ?_
  refine init_hands (hh := h7) (s := ⟨(h7.push emptyDict).push (instObj 135 h7.objs.size), s.gens, s.drawn, tk7, s.os⟩) X7 kp8 hxn hdn (by rw [depth_under_kw]; have := R1.depth; show _ + 1 < 1000; lia) (TT.nolimit.keeps SA7.keep) (by have := Heap.get?_push_size (h7.push emptyDict) (o := instObj 135 h7.objs.size) rfl; rwa [Heap.size_push] at this)
    (Heap.get?_push_of_some _ (Heap.get?_push_size _ rfl)) (Nat.ne_of_gt (Nat.lt_succ_self _)) fun h9 tk9 t1 t2 t3 t4 t5 t6 t7 nn kp9 hd9 => ⟨rfl, ?_⟩
  have kp : ∀ b o, h7.get? b = some o → h9.get? b = some o := fun b o e => kp9 b o (fun z => by rw [z, hdn] at e; cases e) (kp8 b o e)
  have S9 := SA7.keeps kp
  show Q (.ref (h7.objs.size + 1)) { s with heap := h9, toks := tk9 }
  have T7 := ((((((T1.trans TA1).trans TA2).trans TA3).trans TA4).trans TA5).trans TA6).trans TA7
  have old : ∀ b o, s.heap.get? b = some o → b ∉ α → h9.get? b = some o := fun b o e hb => kp b o (T7.frame b o (kp1 b o e) (fun z => by rw [z, hLn] at e; cases e) (fun p hp z => by rw [z, hcn p hp] at e; cases e) hb)
  have S9' := S9
  rw [← List.append_nil σ] at S9'
  obtain ⟨SB, TB⟩ := S.back S9' ⟨[], by simp, by simp⟩ (Nat.le_refl _) old (fun c hc => by
    obtain ⟨i, hi, rfl⟩ := List.mem_iff_getElem.mp hc
    obtain ⟨a, _, y, _⟩ := S9.cell i _ (List.getElem?_eq_getElem hi)
    have := y.under
    rw [S9.len] at this
    exact this)
  have hα : α.take σ.length = α := List.take_of_length_le (by rw [S.len]; exact Nat.le_refl _)
  rw [hα] at SB TB
  refine h _ _ _ SB TB ?_
  have fresh : ∀ b o, s.heap.get? b = none → h9.get? b = some o → (hideAll h9 (hidden L cl α)).get? b = some o := fun b o hb e => hideAll_get _ e fun hm => by
    obtain ⟨o', ho'⟩ := hidden_alive S hm
    rw [hb] at ho'; cases ho'
  have zz : ∀ b, h7.get? b = none → s.heap.get? b = none := fun b e => by
    cases q : s.heap.get? b with
    | none => rfl
    | some o => obtain ⟨o', ho'⟩ := T7.alive _ _ (kp1 _ _ q); rw [e] at ho'; cases ho'
  have hx9 : h9.get? (h7.objs.size + 1) = some (instObj 135 h7.objs.size) := kp9 _ _ (Nat.ne_of_gt (Nat.lt_succ_self _)) (by have := Heap.get?_push_size (h7.push emptyDict) (o := instObj 135 h7.objs.size) rfl; rwa [Heap.size_push] at this)
  have code : ∀ c q, h7.CodeRec (.ref c) q → (hideAll h9 (hidden L cl α)).CodeRec (.ref c) q := fun c q e => by
    obtain ⟨c', o, vs, t, e', ho, hd, hv⟩ := e.keeps kp
    cases e'
    obtain ⟨q1, q2, q3⟩ := SB.other ho (fun es n q => by rw [hd] at q; cases q) (fun v q => by rw [hd] at q; cases q) (.inr fun vs n q => by rw [hd] at q; cases q) (.inr fun ps e => by rw [hd] at e; cases e; exact noTriples hv)
    refine ⟨c, o, vs, t, rfl, hideAll_get _ ho fun hm => ?_, hd, hv⟩
    rcases List.mem_cons.mp hm with hm | hm
    · exact q1 hm
    · rcases List.mem_append.mp hm with hm | hm
      · obtain ⟨p, hp, hpc⟩ := List.mem_map.mp hm
        exact q2 p hp hpc.symm
      · exact q3 hm
  obtain ⟨m9, hm9, hsl9⟩ := S9.fr
  have cell : ∀ (i j : Nat) (y : Str) (c aa : Addr), (slots [(Str.ofString "items", NameKind.cell), (Str.ofString "numbers", NameKind.cell), (Str.ofString "seen", NameKind.cell), (Str.ofString "Hands", NameKind.globalImplicit)] ([Str.ofString "items", Str.ofString "numbers", Str.ofString "seen"].zip [V.loc li, V.loc ln, V.loc ls]))[i]? = some (some (V.loc j)) →
      ([(Str.ofString "items", NameKind.cell), (Str.ofString "numbers", NameKind.cell), (Str.ofString "seen", NameKind.cell), (Str.ofString "Hands", NameKind.globalImplicit)] : List (Str × NameKind))[i]? = some (y, .cell) → env.cells.lookup y = some c → α[j]? = some aa → (hideAll h9 (hidden L cl α)).IsCell c (some (.ref aa)) := fun i j y c aa e1 e2 e3 e4 => by
    obtain ⟨y', k', q1, ⟨v, q2, q3, q4⟩⟩ := hsl9 i _ e1
    rw [e2] at q1; cases q1
    obtain ⟨c', q5, o, q6, q7⟩ := q4 (.inl rfl)
    rw [e3] at q5; cases q5
    cases q2 with
    | loc q8 =>
      rw [e4] at q8; cases q8
      exact ⟨o, fresh _ _ (hcn _ (mem_of_lookup e3)) q6, q7⟩
  have fin : ∀ {hp : Heap} {f : Addr} {pa : Arguments} {bo : Expr} {lsc : Scope} {clos : List (Str × Addr)}, Step env.locals env.cells α α h₁ hp → hp.get? f = none → LamAt h7 f pa bo lsc clos → LamAt (hideAll h9 (hidden L cl α)) f pa bo lsc clos := fun {hp f pa bo lsc clos} T n ⟨q, pm, c, ctv, o, d⟩ => by
    have z : s.heap.get? f = none := by
      cases q : s.heap.get? f with
      | none => rfl
      | some o => obtain ⟨o', ho'⟩ := T.alive _ _ (kp1 _ _ q); rw [n] at ho'; cases ho'
    exact ⟨q, pm, c, ctv, fresh _ _ z (kp _ _ o), code _ _ d⟩
  have U5 := TA6.trans TA7
  have U4 := TA5.trans U5
  have U3 := TA4.trans U4
  have U2 := TA3.trans U3
  have U1 := TA2.trans U2
  have V2 := T1.trans TA1
  have V3 := V2.trans TA2
  have V4 := V3.trans TA3
  have V5 := V4.trans TA4
  have V6 := V5.trans TA5
  have V7 := V6.trans TA6
  refine ⟨h7.objs.size, fun i => ([f1, f2, f3, f4, f5, f6, f7] : List Addr).getD i 0, fun i => ([t1, t2, t3, t4, t5, t6, t7] : List Tok).getD i 0, nn, ci, cn, cs, fresh _ _ (zz _ hxn) hx9, fresh _ _ (zz _ hdn) hd9, fun z => ?_, cell 0 _ _ _ _ rfl rfl hci hi, cell 1 _ _ _ _ rfl rfl hcn' hn, cell 2 _ _ _ _ rfl rfl hcs hs, fun i clos hm => ?_⟩
  · have := name_of_addr S9.apart (mem_of_lookup hci) (by rw [z]; exact mem_of_lookup hcs)
    exact absurd this (by decide +kernel)
  · simp only [List.mem_cons, Prod.mk.injEq, List.not_mem_nil, or_false] at hm
    rcases hm with ⟨rfl, rfl⟩ | ⟨rfl, rfl⟩ | ⟨rfl, rfl⟩ | ⟨rfl, rfl⟩ | ⟨rfl, rfl⟩ | ⟨rfl, rfl⟩ | ⟨rfl, rfl⟩
    · exact fin T1 n1 (o1.step SA1 U1)
    · exact fin V2 n2 (o2.step SA2 U2)
    · exact fin V3 n3 (o3.step SA3 U3)
    · exact fin V4 n4 (o4.step SA4 U4)
    · exact fin V5 n5 (o5.step SA5 U5)
    · exact fin V6 n6 (o6.step SA6 TA7)
    · exact fin V7 n7 o7
end Mine
namespace Mine
open PySem PySem.W PySem.Calls PyProof.Rows
mutual
noncomputable def V.pl : V → Bool
  | .ilist _ => false
  | .hands _ _ _ => false
  | .tup ds => V.plAll ds
  | _ => true
noncomputable def V.plAll : List V → Bool
  | [] => true
  | d :: ds => V.pl d && V.plAll ds
end
noncomputable def Cell.pl : Cell → Bool
  | .list xs => V.plAll xs
  | .dict es => V.plAll (es.map (·.2))
  | .tab _ => true
noncomputable def Sto.pl (σ : Sto) : Bool := σ.all Cell.pl
noncomputable def Loc.pl (ρ : Loc) : Bool := ρ.all fun o => match o with | some d => d.pl | none => true
section
variable {Γ Γ' : Fix} {α : List Addr} {h : Heap}
theorem VRel.grow (hb : ∀ b o, Γ.hb.get? b = some o → Γ'.hb.get? b = some o) (hh : ∀ x ai an as, HandsAt Γ.w Γ.hb x ai an as → HandsAt Γ'.w Γ'.hb x ai an as) {v : Value} {d : V} (x : VRel Γ α h v d) : VRel Γ' α h v d :=
  x.gen (fun _ => True) (fun _ _ _ _ => trivial) (fun _ _ _ e => e) (fun _ _ e => e) (fun _ _ _ _ _ _ e => e) (fun _ _ _ _ e => e.at fun o q => hb _ o q) (fun _ _ _ _ _ _ _ _ a b c d => ⟨a, b, c, hh _ _ _ _ d⟩) (fun _ _ e => e) trivial
theorem plAll_mem : ∀ {ds : List V}, V.plAll ds = true → ∀ d ∈ ds, d.pl = true
  | [], _, d, hd => nomatch hd
  | x :: xs, e, d, hd => by
    simp only [V.plAll, Bool.and_eq_true] at e
    rcases List.mem_cons.mp hd with rfl | hd
    · exact e.1
    · exact plAll_mem e.2 d hd
theorem VRel.plain {v : Value} {d : V} (x : VRel Γ' α h v d) : d.pl = true → VRel Γ α h v d :=
  x.gen (fun d => d.pl = true) (fun ds p => plAll_mem (by simpa only [V.pl] using p)) (fun _ _ _ e => e) (fun _ _ e => e) (fun _ _ _ _ _ _ e => e) (fun _ _ _ p _ => by simp only [V.pl] at p; cases p) (fun _ _ _ _ _ _ _ p => by simp only [V.pl] at p; cases p) fun _ _ e => e
theorem VAll.plain {vs : List Value} {ds : List V} (x : VAll Γ' α h vs ds) (u : V.plAll ds = true) : VAll Γ α h vs ds := x.monoP (P := fun d => d.pl = true) (fun _ _ p y => y.plain p) (plAll_mem u)
theorem KvAll.plain {vs : List (Str × Value)} {ds : List (Str × V)} (x : KvAll Γ' α h vs ds) (u : V.plAll (ds.map (·.2)) = true) : KvAll Γ α h vs ds := x.monoP (P := fun d => d.pl = true) (fun _ _ p y => y.plain p) (plAll_mem u)
theorem CellAt.plain {prog : Program} {a : Addr} {c : Cell} (x : CellAt prog Γ' α h a c) (hw : Γ'.w = Γ.w) (e : c.pl = true) : CellAt prog Γ α h a c := by
  cases x with
  | list hl hv hz => exact .list hl (hv.plain e) hz
  | dict hd hv hz => exact .dict (by rw [← hw]; exact hd) (hv.plain e) hz
  | tab ha ho ht hc => exact .tab ha ho ht fun pos cv q => let ⟨c', q1, q2⟩ := hc pos cv q; ⟨c', q1, q2.plain (by simp only [V.pl])⟩
theorem CellAt.grow {prog : Program} {a : Addr} {c : Cell} (x : CellAt prog Γ α h a c) (hw : Γ'.w = Γ.w) (up : ∀ v d, VRel Γ α h v d → VRel Γ' α h v d) : CellAt prog Γ' α h a c := by
  cases x with
  | list hl hv hz => exact .list hl (hv.mp up) hz
  | dict hd hv hz => exact .dict (by rw [hw]; exact hd) (hv.mono up) hz
  | tab ha ho ht hc => exact .tab ha ho ht fun pos cv q => let ⟨c', q1, q2⟩ := hc pos cv q; ⟨c', q1, up _ _ q2⟩
end
theorem HandsAt.keeps {w : World} {h h' : Heap} {x ai an as : Addr} (H : HandsAt w h x ai an as) (k : ∀ b o, h.get? b = some o → h'.get? b = some o) : HandsAt w h' x ai an as := by
  obtain ⟨dx, f, t, n, ci, cn, cs, z⟩ := H.ex
  exact ⟨dx, f, t, n, ci, cn, cs, k _ _ z.ox, k _ _ z.od, z.ne, z.c1.keeps k, z.c2.keeps k, z.c3.keeps k, fun i cl hm => let ⟨q, pm, c', ctv, e1, e2⟩ := z.l i cl hm; ⟨q, pm, c', ctv, k _ _ e1, e2.keeps k⟩⟩
section
variable {prog : Program} {K : Params → Frag} {n : Nat} {Γ : Fix} {sc : Scope} {L : Addr} {cl : List (Str × Addr)} {ρ : Loc} {α : List Addr} {σ : Sto} {h : Heap}
noncomputable abbrev hiddenW (Γ : Fix) (L : Addr) (cl : List (Str × Addr)) (α : List Addr) : List Addr := L :: ((cl.map (·.2)).filter (fun a => (Γ.hb.get? a).isNone) ++ α)
noncomputable def Fix.more (Γ : Fix) (h : Heap) (L : Addr) (cl : List (Str × Addr)) (α : List Addr) : Fix := ⟨Γ.w, hideAll h (hiddenW Γ L cl α)⟩
theorem more_keep (S : St prog Γ sc L cl ρ α σ h) : ∀ b o, Γ.hb.get? b = some o → (Γ.more h L cl α).hb.get? b = some o := fun b o e => hideAll_get _ (S.keep b o e) fun hm => by
  rcases List.mem_cons.mp hm with rfl | hm
  · rw [S.hbL] at e; cases e
  · rcases List.mem_append.mp hm with hm | hm
    · have := (List.mem_filter.mp hm).2
      rw [e] at this; cases this
    · obtain ⟨_, _, _, _, _, hbn⟩ := S.memα hm
      rw [hbn] at e; cases e
theorem more_sub {L : Addr} {cl : List (Str × Addr)} : ∀ b o, (hideAll h (hidden L cl α)).get? b = some o → (Γ.more h L cl α).hb.get? b = some o := fun b o e => hideAll_get _ (of_hideAll _ e) fun hm => by
  have : b ∉ hidden L cl α := fun q => by rw [hideAll_none _ q] at e; cases e
  refine this ?_
  rcases List.mem_cons.mp hm with rfl | hm
  · exact List.mem_cons_self ..
  · rcases List.mem_append.mp hm with hm | hm
    · exact List.mem_cons_of_mem _ (List.mem_append_left _ (List.mem_filter.mp hm).1)
    · exact List.mem_cons_of_mem _ (List.mem_append_right _ hm)
theorem St.more (S : St prog Γ sc L cl ρ α σ h) : St prog (Γ.more h L cl α) sc L cl ρ α σ h ∧ (∀ v d, VRel Γ α h v d → VRel (Γ.more h L cl α) α h v d) := by
  have kp := more_keep S
  have up : ∀ v d, VRel Γ α h v d → VRel (Γ.more h L cl α) α h v d := fun v d x => VRel.grow (Γ := Γ) (Γ' := Γ.more h L cl α) kp (fun _ _ _ _ H => H.keeps kp) x
  refine ⟨⟨fun b o e => of_hideAll _ e, S.len, fun i c e => ?_, S.nodup, hideAll_none _ (List.mem_cons_self ..), S.Lα, ?_, S.cells, fun x hx => ?_, S.apart, S.names⟩, up⟩
  · obtain ⟨a, e1, y, e2⟩ := S.cell i c e
    exact ⟨a, e1, CellAt.grow (Γ' := Γ.more h L cl α) y rfl up, hideAll_none _ (List.mem_cons_of_mem _ (List.mem_append_right _ (List.mem_of_getElem? e1)))⟩
  · obtain ⟨m, hn, hs⟩ := S.fr
    refine ⟨m, hn, fun i d e => ?_⟩
    obtain ⟨x, k, e', ⟨v, q1, q2, q3⟩⟩ := hs i d e
    exact ⟨x, k, e', ⟨v, up _ _ q1, q2, q3⟩⟩
  · obtain ⟨c, c1, c2⟩ := S.own x hx
    exact ⟨c, c1, hideAll_none _ (List.mem_cons_of_mem _ (List.mem_append_left _ (List.mem_filter.mpr ⟨List.mem_map.mpr ⟨_, mem_of_lookup c1, rfl⟩, by rw [c2]; rfl⟩)))⟩
theorem Good.more (G : Good prog K Γ) (S : St prog Γ sc L cl ρ α σ h) : Good prog K (Γ.more h L cl α) := by
  have kp := more_keep S
  obtain ⟨p, loose, mg, mb, T, hb⟩ := G.top
  refine ⟨G.X.keeps kp, ⟨p, loose, mg, mb, T.keeps kp, ?_⟩, ?_, G.tabs.keeps kp⟩
  · obtain ⟨bm, o, b1, b2, b3, b4, b5, b6⟩ := hb
    exact ⟨bm, o, b1, b2, b3, b4, kp _ _ b5, b6⟩
  · obtain ⟨o, ho⟩ := Option.isSome_iff_exists.mp G.nosys
    rw [kp _ _ ho]; rfl
theorem St.less {Γ' : Fix} {α₀ : List Addr} {σ₀ : Sto} {h₀ : Heap} (S₀ : St prog Γ sc L cl ρ α₀ σ₀ h₀) (hw : Γ'.w = Γ.w) (kp : ∀ b o, Γ.hb.get? b = some o → Γ'.hb.get? b = some o) (S : St prog Γ' sc L cl ρ α σ h) (p1 : Sto.pl σ = true) (p2 : Loc.pl ρ = true) : St prog Γ sc L cl ρ α σ h := by
  have none' : ∀ b, Γ'.hb.get? b = none → Γ.hb.get? b = none := fun b e => by
    cases q : Γ.hb.get? b with
    | none => rfl
    | some o => rw [kp b o q] at e; cases e
  refine ⟨fun b o e => S.keep b o (kp b o e), S.len, fun i c e => ?_, S.nodup, S₀.hbL, S.Lα, ?_, S.cells, S₀.own, S.apart, S.names⟩
  · obtain ⟨a, e1, y, e2⟩ := S.cell i c e
    exact ⟨a, e1, y.plain hw (List.all_eq_true.mp p1 _ (List.mem_of_getElem? e)), none' _ e2⟩
  · obtain ⟨m, hn, hs⟩ := S.fr
    refine ⟨m, hn, fun i d e => ?_⟩
    obtain ⟨x, k, e', ⟨v, q1, q2, q3⟩⟩ := hs i d e
    exact ⟨x, k, e', ⟨v, q1.plain (List.all_eq_true.mp p2 _ (List.mem_of_getElem? e)), q2, q3⟩⟩
end
noncomputable def vTab {β : Type} (x : Option Cell) (k : Str → Option β) : Option β := match x with | some (Cell.tab q) => k q | _ => none
theorem vTab_some {β : Type} {c : β} {x : Option Cell} {k : Str → Option β} (h : vTab x k = some c) : ∃ q, x = some (.tab q) ∧ k q = some c := by
  unfold vTab at h
  split at h
  · exact ⟨_, rfl, h⟩
  · cases h
noncomputable def pswitch (spec : Spec) (d : V) (ds : List V) : PM V := fun (ρ : Loc) (σ : Sto) => a3 ds fun x y z => vL x fun li => vL y fun ln => vL z fun ls => vTab σ[0]? fun q => if q = qLam ∧ li < σ.length ∧ ln < σ.length ∧ ls < σ.length then vo (spec [d, .hands li ln ls] σ) fun p => if Sto.pl p.2 = true ∧ Loc.pl ρ = true ∧ p.1.pl = true then some (p.1, ρ, p.2) else none else none
theorem pswitch_some {spec : Spec} {d c : V} {ds : List V} {ρ ρ' : Loc} {σ σ' : Sto} (h : pswitch spec d ds ρ σ = some (c, ρ', σ')) : ∃ li ln ls, ds = [.loc li, .loc ln, .loc ls] ∧ σ[0]? = some (.tab qLam) ∧ li < σ.length ∧ ln < σ.length ∧ ls < σ.length ∧ spec [d, .hands li ln ls] σ = some (c, σ') ∧ Sto.pl σ' = true ∧ Loc.pl ρ = true ∧ c.pl = true ∧ ρ' = ρ := by
  obtain ⟨x, y, z, rfl, h⟩ := a3_some h
  obtain ⟨li, rfl, h⟩ := vL_some h
  obtain ⟨ln, rfl, h⟩ := vL_some h
  obtain ⟨ls, rfl, h⟩ := vL_some h
  obtain ⟨q, hq, h⟩ := vTab_some h
  obtain ⟨⟨e, h1, h2, h3⟩, k⟩ := ite_none h
  subst e
  obtain ⟨p, hp, k2⟩ := vo_some k
  obtain ⟨⟨p1, p2, p3⟩, k3⟩ := ite_none k2
  cases k3
  exact ⟨li, ln, ls, rfl, hq, h1, h2, h3, hp, p1, p2, p3, rfl⟩
theorem JE_switch {prog : Program} {n : Nat} {sc : Scope} {x1 x2 : Str} {p1 p2 pos pos2 : Pos} {e1 a1 a2 a3 : Expr} {f : Addr} {f1 : PM V} {g : PM (List V)} {spec : Spec} {i1 i2 : Nat}
    (hx1 : At sc.names x1 i1 .globalImplicit) (hg1 : ∀ P, nsIn (KK P) mainGlobals x1 = some (some (.ref f))) (hd1 : (x1 == ("__debug__" : Str)) = false) (hk1 : ∀ P, keepIn (KK P) (.ref f) = true) (hc : CallOk prog KK (n + 2) (.ref f) spec)
    (hx2 : At sc.names x2 i2 .globalImplicit) (hg2 : ∀ P, nsIn (KK P) mainGlobals x2 = some (some (.ref 240))) (hd2 : (x2 == ("__debug__" : Str)) = false) (hk2 : ∀ P, keepIn (KK P) (.ref 240) = true)
    (h1 : JE prog KK (n + 2) sc e1 f1) (ha : JA prog KK (n + 2) sc pos2 [a1, a2, a3] g)
    (he1 : ∀ env, starEach [e1, .Call (.Name x2 p2) [a1, a2, a3] [] pos2] env = (false, eval e1 env) :: (false, eval (.Call (.Name x2 p2) [a1, a2, a3] [] pos2) env) :: []) (he2 : ∀ env, starEach [a1, a2, a3] env = (false, eval a1 env) :: starEach [a2, a3] env)
    (hp1 : ∀ env, (backTo pos (starEach [.Call (.Name x2 p2) [a1, a2, a3] [] pos2] env)).any (·.1) = false) (hp2 : ∀ env, (backTo pos2 (starEach [a2, a3] env)).any (·.1) = false) :
    JE prog KK (n + 2) sc (.Call (.Name x1 p1) [e1, .Call (.Name x2 p2) [a1, a2, a3] [] pos2] [] pos) (pbind f1 fun d => pbind g fun ds => pswitch spec d ds) := by
  refine tri_names fun NN => ?_
  intro Γ A env ρ α σ c ρ' σ' s Q E G hf R O S hQ
  refine pbind_elim hf fun d ρ1 σ1 q1 hf1 => ?_
  refine pbind_elim hf1 fun ds ρ2 σ2 q2 hf2 => ?_
  obtain ⟨li, ln, ls, rfl, ht, l1, l2, l3, hsp, pp1, pp2, pp3, rfl⟩ := pswitch_some hf2
  clear hf hf1 hf2
  refine wpAny_Call_NameR (JE_fn (n := n + 2) (slotOf_get (hx1.slot NN)).2 hg1 hd1 Γ A env ρ α σ _ ρ σ s _ E G rfl R O S fun b tk1 H1 α1 S1 T1 r1 => ?_)
  cases r1
  refine callWith_K (h₀ := Γ.hb) G.X (hk1 _) ?_ (by rw [he1]; rfl) (hp1 _)
  refine wpAny_items_cons (h1 Γ A env ρ α1 σ d ρ1 σ1 { s with heap := H1, toks := tk1 } _ E G q1 R O S1 fun v1 tk2 H2 α2 S2 T2 r2 => ?_) (by rw [he1]; rfl)
  refine wpAny_items_cons ?_ (by rfl)
  refine wpAny_Call_NameR (JE_fn (n := n + 2) (slotOf_get (hx2.slot NN)).2 hg2 hd2 Γ A env ρ1 α2 σ1 _ ρ1 σ1 { s with heap := H2, toks := tk2 } _ E G rfl R O S2 fun b tk3 H3 α3 S3 T3 r3 => ?_)
  cases r3
  refine callWith_K (h₀ := Γ.hb) G.X (hk2 _) (ha Γ A env ρ1 α3 σ1 _ _ _ { s with heap := H3, toks := tk3 } _ E G q2 R O S3 fun vs tk4 H4 α4 S4 T4 r4 => ⟨G.X.keeps S4.keep, ?_⟩) (he2 _) (hp2 _)
  cases r4 with
  | cons a b => cases b with
    | cons b c => cases c with
      | cons c z =>
        cases z
        cases a with
        | loc ea => cases b with
          | loc eb => cases c with
            | loc ec =>
              refine call_hands (s := { s with heap := H4, toks := tk4 }) G R S4 ht ea eb ec fun x h5 tk5 S5 T5 HA => ?_
              refine wpAny_items_nil ⟨G.X.keeps S5.keep, ?_⟩
              obtain ⟨S6, up6⟩ := S5.more
              have G6 := G.more S5
              have TT := (((T1.trans T2).trans T3).trans T4).trans T5
              have rd := up6 _ _ (S4.up T5 (S3.up T4 (S2.up T3 r2)))
              refine hc (Γ.more h5 env.locals env.cells α4) A sc env.locals env.cells _ α4 _ { s with heap := h5, toks := tk5 } [v1, .ref x] [d, .hands li ln ls] c σ' Q E G6 R S6 (.cons rd (.cons (.hands ea eb ec (HA.keeps more_sub)) .nil)) hsp fun v tk6 h6 α6 S7 T7 r7 => ?_
              have S8 := St.less (Γ' := Γ.more h5 env.locals env.cells α4) S5 rfl (more_keep S5) S7 pp1 pp2
              exact hQ v tk6 h6 α6 S8 (TT.trans T7) (r7.plain pp3)
end Mine
namespace Mine
open PySem PySem.W PySem.Calls PyProof.Rows
theorem map_toNat_inj : ∀ {a b : List Char}, a.map Char.toNat = b.map Char.toNat → a = b
  | [], [], _ => rfl
  | [], _ :: _, h => by cases h
  | _ :: _, [], h => by cases h
  | x :: xs, y :: ys, h => by
    rw [List.map_cons, List.map_cons, List.cons.injEq] at h
    rw [map_toNat_inj h.2, Char.toNat_inj.mp h.1]
theorem ofString_inj {a b : String} (h : Str.ofString a = Str.ofString b) : a = b := by
  rw [Str.ofString_eq_toList, Str.ofString_eq_toList, Str.mk.injEq] at h
  exact String.toList_inj.mp (map_toNat_inj (by simpa using h))
theorem str_eq (a b : String) : (Str.ofString a = Str.ofString b) = (a = b) := propext ⟨ofString_inj, fun h => by rw [h]⟩
theorem str_beq (a b : String) : (Str.ofString a == Str.ofString b) = decide (a = b) := by
  by_cases h : a = b
  · subst h; simp
  · rw [decide_eq_false h]
    exact beq_eq_false_iff_ne.mpr fun e => h (ofString_inj e)
section
variable {prog : Program} {n : Nat}
theorem bind1 {fd : FuncData} {x : Str} (h : ∀ a, bindArgs fd ⟨[a], []⟩ = pure ([x].zip [a])) (vs : List Value) (e : vs.length = 1) : bindArgs fd ⟨vs, []⟩ = pure ([x].zip vs) := by
  obtain ⟨a, rfl⟩ := len1 e; exact h a
theorem bind2 {fd : FuncData} {x y : Str} (h : ∀ a b, bindArgs fd ⟨[a, b], []⟩ = pure ([x, y].zip [a, b])) (vs : List Value) (e : vs.length = 2) : bindArgs fd ⟨vs, []⟩ = pure ([x, y].zip vs) := by
  obtain ⟨a, b, rfl⟩ := len2 e; exact h a b
theorem bind3 {fd : FuncData} {x y z : Str} (h : ∀ a b c, bindArgs fd ⟨[a, b, c], []⟩ = pure ([x, y, z].zip [a, b, c])) (vs : List Value) (e : vs.length = 3) : bindArgs fd ⟨vs, []⟩ = pure ([x, y, z].zip vs) := by
  obtain ⟨a, b, c, rfl⟩ := len3 e; exact h a b c
theorem bind4 {fd : FuncData} {x y z w : Str} (h : ∀ a b c d, bindArgs fd ⟨[a, b, c, d], []⟩ = pure ([x, y, z, w].zip [a, b, c, d])) (vs : List Value) (e : vs.length = 4) : bindArgs fd ⟨vs, []⟩ = pure ([x, y, z, w].zip vs) := by
  obtain ⟨a, b, c, d, rfl⟩ := len4 e; exact h a b c d
theorem bind5 {fd : FuncData} {x y z w u : Str} (h : ∀ a b c d e, bindArgs fd ⟨[a, b, c, d, e], []⟩ = pure ([x, y, z, w, u].zip [a, b, c, d, e])) (vs : List Value) (e : vs.length = 5) : bindArgs fd ⟨vs, []⟩ = pure ([x, y, z, w, u].zip vs) := by
  obtain ⟨a, b, c, d, f, rfl⟩ := len5 e; exact h a b c d f
def Ends (X : Option (Fl × Loc × Sto)) (r : V) (σ' : Sto) : Prop := ∃ fl ρ' g, X = some (fl, ρ', σ' ++ g) ∧ retOf fl = r
def Rets (X : Option (Fl × Loc × Sto)) (r : V) (σ' : Sto) : Prop := ∃ ρ G, X = some (.ret r, ρ, σ' ++ G)
theorem Rets.of {X : Option (Fl × Loc × Sto)} {r : V} {σ' : Sto} {ρ : Loc} (h : X = some (.ret r, ρ, σ')) : Rets X r σ' := ⟨ρ, [], by rw [List.append_nil]; exact h⟩
def Post (k m : Nat) (F : PM Fl) (ds : List V) (σ : Sto) (r : V) (σ' : Sto) : Prop :=
  ds.length = k ∧ σ.length ≤ σ'.length ∧ V.under σ'.length r ∧ (∀ c ∈ σ', c.under σ'.length) ∧ Ends (F (ds.map some ++ List.replicate m none) σ) r σ'
def Und (σ : Sto) : Prop := ∀ c ∈ σ, c.under σ.length
def Sat (x : Option (V × Sto)) (P : V → Sto → Prop) : Prop := ∀ r σ', x = some (r, σ') → P r σ'
namespace Sat
variable {P : V → Sto → Prop} {ds : List V} {a : V} {σ : Sto} {l : Nat}
theorem a1 {k : V → Option (V × Sto)} (h : ∀ x, ds = [x] → Sat (k x) P) : Sat (a1 ds k) P := fun r σ' e => let ⟨x, e1, e2⟩ := a1_some e; h x e1 r σ' e2
theorem a2 {k : V → V → Option (V × Sto)} (h : ∀ x y, ds = [x, y] → Sat (k x y) P) : Sat (a2 ds k) P := fun r σ' e => let ⟨x, y, e1, e2⟩ := a2_some e; h x y e1 r σ' e2
theorem a3 {k : V → V → V → Option (V × Sto)} (h : ∀ x y z, ds = [x, y, z] → Sat (k x y z) P) : Sat (a3 ds k) P := fun r σ' e => let ⟨x, y, z, e1, e2⟩ := a3_some e; h x y z e1 r σ' e2
theorem a4 {k : V → V → V → V → Option (V × Sto)} (h : ∀ x y z w, ds = [x, y, z, w] → Sat (k x y z w) P) : Sat (a4 ds k) P := fun r σ' e => let ⟨x, y, z, w, e1, e2⟩ := a4_some e; h x y z w e1 r σ' e2
theorem a5 {k : V → V → V → V → V → Option (V × Sto)} (h : ∀ x y z w v, ds = [x, y, z, w, v] → Sat (k x y z w v) P) : Sat (a5 ds k) P := fun r σ' e => let ⟨x, y, z, w, v, e1, e2⟩ := a5_some e; h x y z w v e1 r σ' e2
theorem hd {k : V → List V → Option (V × Sto)} (h : ∀ x r, ds = x :: r → Sat (k x r) P) : Sat (hd ds k) P := fun r σ' e => let ⟨x, y, e1, e2⟩ := hd_some e; h x y e1 r σ' e2
theorem nl {x : Option (V × Sto)} (h : ds = [] → Sat x P) : Sat (nl ds x) P := fun r σ' e => let ⟨e1, e2⟩ := nl_some e; h e1 r σ' e2
theorem I {k : Int → Option (V × Sto)} (h : ∀ x, a = .int x → Sat (k x) P) : Sat (vI a k) P := fun r σ' e => let ⟨x, e1, e2⟩ := vI_some e; h x e1 r σ' e2
theorem B {k : List UInt8 → Option (V × Sto)} (h : ∀ x, a = .bytes x → Sat (k x) P) : Sat (vB a k) P := fun r σ' e => let ⟨x, e1, e2⟩ := vB_some e; h x e1 r σ' e2
theorem S {k : Str → Option (V × Sto)} (h : ∀ x, a = .str x → Sat (k x) P) : Sat (vS a k) P := fun r σ' e => let ⟨x, e1, e2⟩ := vS_some e; h x e1 r σ' e2
theorem L {k : Nat → Option (V × Sto)} (h : ∀ x, a = .loc x → Sat (k x) P) : Sat (vL a k) P := fun r σ' e => let ⟨x, e1, e2⟩ := vL_some e; h x e1 r σ' e2
theorem T {k : List V → Option (V × Sto)} (h : ∀ x, a = .tup x → Sat (k x) P) : Sat (vT a k) P := fun r σ' e => let ⟨x, e1, e2⟩ := vT_some e; h x e1 r σ' e2
theorem Bo {k : Bool → Option (V × Sto)} (h : ∀ x, a = .bool x → Sat (k x) P) : Sat (vBo a k) P := fun r σ' e => let ⟨x, e1, e2⟩ := vBo_some e; h x e1 r σ' e2
theorem O {k : UInt8 → Option (V × Sto)} (h : ∀ x, a = .bytes [x] → Sat (k x) P) : Sat (vO a k) P := fun r σ' e => let ⟨x, e1, e2⟩ := vO_some e; h x e1 r σ' e2
theorem H {k : Nat → Nat → Nat → Option (V × Sto)} (h : ∀ x y z, a = .hands x y z → Sat (k x y z) P) : Sat (vH a k) P := fun r σ' e => let ⟨x, y, z, e1, e2⟩ := vH_some e; h x y z e1 r σ' e2
theorem N {x y : Option (V × Sto)} (h0 : a = .none → Sat x P) (h1 : Sat y P) : Sat (vN a x y) P := fun r σ' e => by
  unfold vN at e
  split at e
  · exact h0 rfl r σ' e
  · exact h1 r σ' e
theorem sL {k : List V → Option (V × Sto)} (h : ∀ xs, σ[l]? = some (.list xs) → Sat (k xs) P) : Sat (sL σ l k) P := fun r σ' e => let ⟨x, e1, e2⟩ := sL_some e; h x e1 r σ' e2
theorem sD {k : List (Str × V) → Option (V × Sto)} (h : ∀ xs, σ[l]? = some (.dict xs) → Sat (k xs) P) : Sat (sD σ l k) P := fun r σ' e => let ⟨x, e1, e2⟩ := sD_some e; h x e1 r σ' e2
theorem o {γ : Type} {x : Option γ} {k : γ → Option (V × Sto)} (h : ∀ a, x = some a → Sat (k a) P) : Sat (vo x k) P := fun r σ' e => let ⟨x, e1, e2⟩ := vo_some e; h x e1 r σ' e2
theorem ite {p : Prop} {_ : Decidable p} {x y : Option (V × Sto)} (h : p → Sat x P) (h2 : ¬ p → Sat y P) : Sat (if p then x else y) P := fun r σ' e => by
  split at e
  · rename_i q; exact h q r σ' e
  · rename_i q; exact h2 q r σ' e
theorem no : Sat none P := fun _ _ e => nomatch e
theorem ok {r : V} {σ' : Sto} (h : P r σ') : Sat (some (r, σ')) P := fun _ _ e => by cases e; exact h
theorem fi {p : Prop} {_ : Decidable p} {x : Option (V × Sto)} (h : p → Sat x P) : Sat (if p then x else none) P := .ite h fun _ => no
theorem case {x y : Option (V × Sto)} (e : x = y) (h : Sat y P) : Sat x P := e ▸ h
end Sat
structure Runs (k m : Nat) (F : PM Fl) (spec : Spec) : Prop where
  run : ∀ ds σ, Und σ → V.underAll σ.length ds → Sat (spec ds σ) (Post k m F ds σ)
theorem Runs.meets {k m : Nat} {F : PM Fl} {spec : Spec} (h : Runs k m F spec) : Meets k m F spec := ⟨fun ds σ r σ' e u d => h.run ds σ u d r σ' e⟩
section
variable {k m : Nat} {F : PM Fl} {ds : List V} {σ σ' : Sto} {r : V}
theorem Post.keep (hk : ds.length = k) (hu : Und σ) (hr : V.under σ.length r) (h : Ends (F (ds.map some ++ List.replicate m none) σ) r σ) : Post k m F ds σ r σ := ⟨hk, Nat.le_refl _, hr, hu, h⟩
theorem Post.leave (hk : ds.length = k) (hle : σ.length ≤ σ'.length) (hu : Und σ') (hr : V.under σ'.length r) (h : Ends (F (ds.map some ++ List.replicate m none) σ) r σ') : Post k m F ds σ r σ' := ⟨hk, hle, hr, hu, h⟩
theorem Ends.of {X Y : Option (Fl × Loc × Sto)} (e : X = Y) (h : Ends Y r σ') : Ends X r σ' := e ▸ h
theorem Ends.ret {ρ ρ' : Loc} {f g : PM Fl} (h : f ρ σ = some (.ret r, ρ', σ')) : Ends (pseq f g ρ σ) r σ' := ⟨.ret r, ρ', [], by rw [List.append_nil]; show pbind f _ ρ σ = _; unfold pbind; rw [h]; rfl, rfl⟩
theorem Ends.retG {ρ ρ' : Loc} {f g : PM Fl} {G : Sto} (h : f ρ σ = some (.ret r, ρ', σ' ++ G)) : Ends (pseq f g ρ σ) r σ' := ⟨.ret r, ρ', G, by show pbind f _ ρ σ = _; unfold pbind; rw [h]; rfl, rfl⟩
theorem Ends.fin {ρ : Loc} (h : σ = σ') : Ends (pret .next ρ σ) .none σ' := ⟨.next, ρ, [], by rw [List.append_nil, h]; rfl, rfl⟩
end
end
section
variable {β γ : Type} {ρ ρ1 ρ2 : Loc} {σ σ1 σ2 : Sto}
theorem b_bind {f : PM β} {g : β → PM γ} {a : β} {R : Option (γ × Loc × Sto)} (h1 : f ρ σ = some (a, ρ1, σ1)) (h2 : g a ρ1 σ1 = R) : pbind f g ρ σ = R := by
  unfold pbind; rw [h1]; exact h2
theorem b_seq {f g : PM Fl} {R : Option (Fl × Loc × Sto)} (h1 : f ρ σ = some (.next, ρ1, σ1)) (h2 : g ρ1 σ1 = R) : pseq f g ρ σ = R := b_bind h1 h2
theorem b_seqr {f g : PM Fl} {v : V} (h1 : f ρ σ = some (.ret v, ρ1, σ1)) : pseq f g ρ σ = some (.ret v, ρ1, σ1) := b_bind h1 rfl
theorem b_seqb {f g : PM Fl} (h1 : f ρ σ = some (.brk, ρ1, σ1)) : pseq f g ρ σ = some (.brk, ρ1, σ1) := b_bind h1 rfl
theorem b_into {f : PM β} {k : β → PM Fl} {g : PM Fl} {a : β} {R : Option (Fl × Loc × Sto)} (h1 : f ρ σ = some (a, ρ1, σ1)) (h2 : pseq (k a) g ρ1 σ1 = R) : pseq (pbind f k) g ρ σ = R := by
  unfold pseq pbind at *; rw [h1]; exact h2
theorem b_ift {b : PM Bool} {f g : PM Fl} {c : Bool} {R : Option (Fl × Loc × Sto)} (h1 : b ρ σ = some (c, ρ1, σ1)) (hc : c = true) (h2 : f ρ1 σ1 = R) : pif b f g ρ σ = R := b_bind h1 (by rw [hc]; exact h2)
theorem b_iff {b : PM Bool} {f g : PM Fl} {c : Bool} {R : Option (Fl × Loc × Sto)} (h1 : b ρ σ = some (c, ρ1, σ1)) (hc : c = false) (h2 : g ρ1 σ1 = R) : pif b f g ρ σ = R := b_bind h1 (by rw [hc]; exact h2)
theorem b_iet {b : PM Bool} {f g : PM γ} {c : Bool} {R : Option (γ × Loc × Sto)} (h1 : b ρ σ = some (c, ρ1, σ1)) (hc : c = true) (h2 : f ρ1 σ1 = R) : pbind b (fun c => if c = true then f else g) ρ σ = R := b_bind h1 (by rw [hc]; exact h2)
theorem b_ief {b : PM Bool} {f g : PM γ} {c : Bool} {R : Option (γ × Loc × Sto)} (h1 : b ρ σ = some (c, ρ1, σ1)) (hc : c = false) (h2 : g ρ1 σ1 = R) : pbind b (fun c => if c = true then f else g) ρ σ = R := b_bind h1 (by rw [hc]; exact h2)
theorem b_lift {x : Option β} {a : β} (h : x = some a) : plift x ρ σ = some (a, ρ, σ) := by unfold plift; rw [h]
theorem b_sto {g : Sto → Option β} {a : β} (h : g σ = some a) : psto g ρ σ = some (a, ρ, σ) := by unfold psto; rw [h]
theorem b_call {spec : Spec} {ds : List V} {r : V} (h : spec ds σ = some (r, σ1)) : pcall spec ds ρ σ = some (r, ρ, σ1) := by unfold pcall; rw [h]
theorem b_hands {spec : Nat → Nat → Nat → Spec} {li ln ls : Nat} {ds : List V} {r : V} (h : spec li ln ls ds σ = some (r, σ1)) : phands spec (.hands li ln ls) ds ρ σ = some (r, ρ, σ1) := b_call h
theorem b_list {ds : List V} (h : ds.length ≤ 1000000) : plist ds ρ σ = some (.loc σ.length, ρ, σ ++ [.list ds]) := if_pos h
theorem b_dict {es : List (Str × V)} (h : es.length ≤ 15 ∧ (es.map (·.1)).Nodup) : pdict es ρ σ = some (.loc σ.length, ρ, σ ++ [.dict es]) := if_pos h
theorem b_sliceB {x : List UInt8} {lo hi : Option Int} (h : slOk lo hi = true) : pslice (.bytes x) lo hi ρ σ = some (.bytes (sl x lo hi), ρ, σ) := if_pos h
theorem b_sliceE {x y : List UInt8} {lo hi : Option Int} (h : slOk lo hi = true) (e : sl x lo hi = y) : pslice (.bytes x) lo hi ρ σ = some (.bytes y, ρ, σ) := by rw [← e]; exact b_sliceB h
theorem b_sliceL {l : Nat} {xs : List V} {lo hi : Option Int} (h : slOk lo hi = true) (h2 : σ[l]? = some (.list xs)) : pslice (.loc l) lo hi ρ σ = some (.loc σ.length, ρ, σ ++ [.list (sl xs lo hi)]) := by
  unfold pslice
  rw [if_pos h]
  show (match σ[l]? with | some (.list xs) => _ | _ => none) = _
  rw [h2]
theorem b_setL {l : Nat} {xs : List V} {k : Int} {d : V} (h : σ[l]? = some (.list xs)) (h2 : 0 ≤ k ∧ k.toNat < xs.length) : psetItem (.loc l) (.int k) d ρ σ = some ((), ρ, σ.set l (.list (xs.set k.toNat d))) := by
  show (match σ[l]? with | some (.list xs) => if 0 ≤ k ∧ k.toNat < xs.length then some ((), ρ, σ.set l (.list (xs.set k.toNat d))) else none | _ => none) = _
  rw [h]; exact if_pos h2
theorem b_setD {l : Nat} {es : List (Str × V)} {x : Str} {d : V} (h : σ[l]? = some (.dict es)) (h2 : es.length < 1000) : psetItem (.loc l) (.str x) d ρ σ = some ((), ρ, σ.set l (.dict (dset es x d))) := by
  show (match σ[l]? with | some (.dict es) => if es.length < 1000 then some ((), ρ, σ.set l (.dict (dset es x d))) else none | _ => none) = _
  rw [h]; exact if_pos h2
theorem b_for0 {ok : Sto → Prop} {asg : V → PM Unit} {b g : PM Fl} {R : Option (Fl × Loc × Sto)} (ho : ok σ) (h : g ρ σ = R) : pseq (pfor ok asg b []) g ρ σ = R := b_seq (pfor_nil ho) h
theorem b_forN {ok : Sto → Prop} {asg : V → PM Unit} {b g : PM Fl} {d : V} {ds : List V} {R : Option (Fl × Loc × Sto)} (ho : ok σ) (h1 : asg d ρ σ = some ((), ρ1, σ1)) (h2 : b ρ1 σ1 = some (.next, ρ2, σ2)) (h3 : pseq (pfor ok asg b ds) g ρ2 σ2 = R) : pseq (pfor ok asg b (d :: ds)) g ρ σ = R := by
  unfold pseq at *
  have : pfor ok asg b (d :: ds) ρ σ = pfor ok asg b ds ρ2 σ2 := by rw [pfor_cons ho]; exact b_bind h1 (b_bind h2 rfl)
  unfold pbind at *; rw [this]; exact h3
theorem b_forB {ok : Sto → Prop} {asg : V → PM Unit} {b g : PM Fl} {d : V} {ds : List V} {R : Option (Fl × Loc × Sto)} (ho : ok σ) (h1 : asg d ρ σ = some ((), ρ1, σ1)) (h2 : b ρ1 σ1 = some (.brk, ρ2, σ2)) (h3 : g ρ2 σ2 = R) : pseq (pfor ok asg b (d :: ds)) g ρ σ = R :=
  b_seq (by rw [pfor_cons ho]; exact b_bind h1 (b_bind h2 rfl)) h3
theorem b_forR {ok : Sto → Prop} {asg : V → PM Unit} {b g : PM Fl} {d : V} {ds : List V} {v : V} (ho : ok σ) (h1 : asg d ρ σ = some ((), ρ1, σ1)) (h2 : b ρ1 σ1 = some (.ret v, ρ2, σ2)) : pseq (pfor ok asg b (d :: ds)) g ρ σ = some (.ret v, ρ2, σ2) :=
  b_seqr (by rw [pfor_cons ho]; exact b_bind h1 (b_bind h2 rfl))
theorem b_whF {t : PM Bool} {b g : PM Fl} {W : Nat} {c : Bool} {R : Option (Fl × Loc × Sto)} (h1 : t ρ σ = some (c, ρ1, σ1)) (hc : c = false) (h3 : g ρ1 σ1 = R) : pseq (pwhile t b (W + 1)) g ρ σ = R :=
  b_seq (by unfold pwhile; exact b_bind h1 (by rw [hc]; rfl)) h3
theorem b_whT {t : PM Bool} {b g : PM Fl} {W : Nat} {c : Bool} {R : Option (Fl × Loc × Sto)} (h1 : t ρ σ = some (c, ρ1, σ1)) (hc : c = true) (h2 : b ρ1 σ1 = some (.next, ρ2, σ2)) (h3 : pseq (pwhile t b W) g ρ2 σ2 = R) : pseq (pwhile t b (W + 1)) g ρ σ = R := by
  unfold pseq at *
  have : pwhile t b (W + 1) ρ σ = pwhile t b W ρ2 σ2 := by rw [pwhile]; exact b_bind h1 (by rw [hc]; exact b_bind h2 rfl)
  unfold pbind at *; rw [this]; exact h3
inductive ForStep {ι : Type} (ok : Sto → Prop) (asg : V → PM Unit) (b g : PM Fl) (D : ι → List V) (L : ι → Loc) (S : ι → Sto) (W : ι → Prop) (r : V) (σ' : Sto) (i : ι) : Prop
  | nil : D i = [] → ok (S i) → Ends (g (L i) (S i)) r σ' → ForStep ok asg b g D L S W r σ' i
  | next {d : V} {ds : List V} {ρ1 : Loc} {σ1 : Sto} (j : ι) : D i = d :: ds → ok (S i) → asg d (L i) (S i) = some ((), ρ1, σ1) → b ρ1 σ1 = some (.next, L j, S j) → D j = ds → W j → ForStep ok asg b g D L S W r σ' i
  | brk {d : V} {ds : List V} {ρ1 ρ2 : Loc} {σ1 σ2 : Sto} : D i = d :: ds → ok (S i) → asg d (L i) (S i) = some ((), ρ1, σ1) → b ρ1 σ1 = some (.brk, ρ2, σ2) → Ends (g ρ2 σ2) r σ' → ForStep ok asg b g D L S W r σ' i
  | ret {d : V} {ds : List V} {ρ1 : Loc} {σ1 : Sto} : D i = d :: ds → ok (S i) → asg d (L i) (S i) = some ((), ρ1, σ1) → Rets (b ρ1 σ1) r σ' → ForStep ok asg b g D L S W r σ' i
theorem for_ind {ι : Type} {ok : Sto → Prop} {asg : V → PM Unit} {b g : PM Fl} {r : V} {σ' : Sto} (D : ι → List V) (L : ι → Loc) (S : ι → Sto) (W : ι → Prop) (step : ∀ i, W i → ForStep ok asg b g D L S W r σ' i) :
    ∀ (n : Nat) (i : ι), (D i).length = n → W i → Ends (pseq (pfor ok asg b (D i)) g (L i) (S i)) r σ' := by
  intro n
  induction n with
  | zero =>
    intro i hn hi
    cases step i hi with
    | nil e ho h => rw [e]; exact .of (b_for0 ho rfl) h
    | next _ e => rw [e] at hn; cases hn
    | brk e => rw [e] at hn; cases hn
    | ret e => rw [e] at hn; cases hn
  | succ n ih =>
    intro i hn hi
    cases step i hi with
    | nil e ho h => rw [e]; exact .of (b_for0 ho rfl) h
    | next j e ho h1 h2 h3 h4 =>
      rw [e] at hn ⊢
      refine .of (b_forN ho h1 h2 rfl) ?_
      rw [← h3]
      exact ih j (by rw [h3]; exact Nat.succ.inj hn) h4
    | brk e ho h1 h2 h3 => rw [e]; exact .of (b_forB ho h1 h2 rfl) h3
    | ret e ho h1 h2 => obtain ⟨ρ2, G, h2⟩ := h2; rw [e]; exact ⟨_, _, _, b_forR ho h1 h2, rfl⟩
theorem for_use {ι : Type} {ok : Sto → Prop} {asg : V → PM Unit} {b g : PM Fl} {r : V} {σ' : Sto} {ds : List V} (D : ι → List V) (L : ι → Loc) (S : ι → Sto) (W : ι → Prop) (i : ι) (hd : ds = D i) (hl : ρ = L i) (hs : σ = S i) (hw : W i) (step : ∀ i, W i → ForStep ok asg b g D L S W r σ' i) :
    Ends (pseq (pfor ok asg b ds) g ρ σ) r σ' := by
  rw [hd, hl, hs]
  exact for_ind D L S W step _ i rfl hw
inductive WhStep {ι : Type} (t : PM Bool) (b g : PM Fl) (N : ι → Nat) (L : ι → Loc) (S : ι → Sto) (W : ι → Prop) (r : V) (σ' : Sto) (i : ι) : Prop
  | stop {c : Bool} {ρ1 : Loc} {σ1 : Sto} : t (L i) (S i) = some (c, ρ1, σ1) → c = false → Ends (g ρ1 σ1) r σ' → WhStep t b g N L S W r σ' i
  | next {c : Bool} {ρ1 : Loc} {σ1 : Sto} (j : ι) : t (L i) (S i) = some (c, ρ1, σ1) → c = true → b ρ1 σ1 = some (.next, L j, S j) → N j < N i → W j → WhStep t b g N L S W r σ' i
theorem wh_use {ι : Type} {t : PM Bool} {b g : PM Fl} {r : V} {σ' : Sto} {n : Nat} (N : ι → Nat) (L : ι → Loc) (S : ι → Sto) (W : ι → Prop) (i : ι) (hn : N i < n) (hl : ρ = L i) (hs : σ = S i) (hw : W i) (step : ∀ i, W i → WhStep t b g N L S W r σ' i) :
    Ends (pseq (pwhile t b n) g ρ σ) r σ' := by
  rw [hl, hs]
  clear hl hs
  induction n generalizing i with
  | zero => cases hn
  | succ n ih =>
    cases step i hw with
    | stop h1 hc h => exact .of (b_whF h1 hc rfl) h
    | next j h1 hc h2 h3 h4 => exact .of (b_whT h1 hc h2 rfl) (ih j (Nat.lt_of_lt_of_le h3 (Nat.le_of_lt_succ hn)) h4)
theorem b_comp {f : PM V} {is : List (Option Nat)} {asg : V → PM Unit} {t : PM Bool} {e : PM V} {a : V} {src : Src} (h1 : f ρ σ = some (a, ρ1, σ1)) (h2 : psrc a σ1 = some src) (h3 : pcompL src.ok asg t e σ1.length (capt ρ1 is) src.items (σ1 ++ [.list []]) = some σ2) :
    pcomp f is asg t e ρ σ = some (.loc σ1.length, ρ1, σ2) := by
  unfold pcomp
  refine b_bind h1 (b_bind (b_sto h2) ?_)
  show (match pcompL src.ok asg t e σ1.length (capt ρ1 is) src.items (σ1 ++ [.list []]) with | none => none | some σ' => _) = _
  rw [h3]
theorem b_cmp0 {ok : Sto → Prop} {asg : V → PM Unit} {t : PM Bool} {e : PM V} {m : Nat} (ho : ok σ) : pcompL ok asg t e m ρ [] σ = some σ := if_pos ho
theorem b_cmpN {ok : Sto → Prop} {asg : V → PM Unit} {t : PM Bool} {e : PM V} {m : Nat} {d : V} {ds : List V} {ρ3 : Loc} {b : Bool} {σ3 σ4 : Sto} {r : V} {x : V} {R : Option Sto} (ho : ok σ) (h1 : asg d ρ σ = some ((), ρ1, σ1)) (h2 : t ρ1 σ1 = some (b, ρ2, σ2)) (hb : b = true)
    (h3 : e ρ2 σ2 = some (x, ρ3, σ3)) (h4 : s_append [.loc m, x] σ3 = some (r, σ4)) (hs : subLoc ρ ρ3) (h5 : pcompL ok asg t e m ρ ds σ4 = R) : pcompL ok asg t e m ρ (d :: ds) σ = R := by
  have : pturn asg t e m d ρ σ = some σ4 := by
    unfold pturn
    rw [show (pbind (asg d) fun _ => pbind t fun b => if b = true then pbind e fun v => pcall s_append [.loc m, v] else pret .none) ρ σ = some (r, ρ3, σ4) from b_bind h1 (b_bind h2 (by rw [hb]; exact b_bind h3 (b_call h4)))]
    exact if_pos hs
  unfold pcompL
  rw [if_pos ho, this]
  exact h5
theorem b_cmpS {ok : Sto → Prop} {asg : V → PM Unit} {t : PM Bool} {e : PM V} {m : Nat} {d : V} {ds : List V} {b : Bool} {R : Option Sto} (ho : ok σ) (h1 : asg d ρ σ = some ((), ρ1, σ1)) (h2 : t ρ1 σ1 = some (b, ρ2, σ2)) (hb : b = false)
    (hs : subLoc ρ ρ2) (h5 : pcompL ok asg t e m ρ ds σ2 = R) : pcompL ok asg t e m ρ (d :: ds) σ = R := by
  have : pturn asg t e m d ρ σ = some σ2 := by
    unfold pturn
    rw [show (pbind (asg d) fun _ => pbind t fun b => if b = true then pbind e fun v => pcall s_append [.loc m, v] else pret .none) ρ σ = some (.none, ρ2, σ2) from b_bind h1 (b_bind h2 (by rw [hb]; rfl))]
    exact if_pos hs
  unfold pcompL
  rw [if_pos ho, this]
  exact h5
inductive CmStep {ι : Type} (ok : Sto → Prop) (asg : V → PM Unit) (t : PM Bool) (e : PM V) (m : Nat) (ρ : Loc) (D : ι → List V) (S : ι → Sto) (W : ι → Prop) (σ' : Sto) (i : ι) : Prop
  | nil : D i = [] → ok (S i) → S i = σ' → CmStep ok asg t e m ρ D S W σ' i
  | next {d : V} {ds : List V} {ρ1 ρ2 ρ3 : Loc} {σ1 σ2 σ3 : Sto} {b : Bool} {x r : V} (j : ι) : D i = d :: ds → ok (S i) → asg d ρ (S i) = some ((), ρ1, σ1) → t ρ1 σ1 = some (b, ρ2, σ2) → b = true → e ρ2 σ2 = some (x, ρ3, σ3) → s_append [.loc m, x] σ3 = some (r, S j) → subLoc ρ ρ3 → D j = ds → W j →
      CmStep ok asg t e m ρ D S W σ' i
  | skip {d : V} {ds : List V} {ρ1 ρ2 : Loc} {σ1 : Sto} {b : Bool} (j : ι) : D i = d :: ds → ok (S i) → asg d ρ (S i) = some ((), ρ1, σ1) → t ρ1 σ1 = some (b, ρ2, S j) → b = false → subLoc ρ ρ2 → D j = ds → W j → CmStep ok asg t e m ρ D S W σ' i
theorem cm_use {ι : Type} {ok : Sto → Prop} {asg : V → PM Unit} {t : PM Bool} {e : PM V} {m : Nat} {σ' : Sto} {ds : List V} (D : ι → List V) (S : ι → Sto) (W : ι → Prop) (i : ι) (hd : ds = D i) (hs : σ = S i) (hw : W i) (step : ∀ i, W i → CmStep ok asg t e m ρ D S W σ' i) :
    pcompL ok asg t e m ρ ds σ = some σ' := by
  rw [hd, hs]
  clear hd hs
  generalize hn : (D i).length = n
  induction n generalizing i with
  | zero =>
    cases step i hw with
    | nil e ho h => rw [e]; exact (b_cmp0 ho).trans (congrArg some h)
    | next _ e => rw [e] at hn; cases hn
    | skip _ e => rw [e] at hn; cases hn
  | succ n ih =>
    cases step i hw with
    | nil e ho h => rw [e]; exact (b_cmp0 ho).trans (congrArg some h)
    | next j e ho h1 h2 hb h3 h4 hs h5 h6 =>
      rw [e] at hn ⊢
      refine b_cmpN ho h1 h2 hb h3 h4 hs ?_
      rw [← h5]
      exact ih j h6 (by rw [h5]; exact Nat.succ.inj hn)
    | skip j e ho h1 h2 hb hs h5 h6 =>
      rw [e] at hn ⊢
      refine b_cmpS ho h1 h2 hb hs ?_
      rw [← h5]
      exact ih j h6 (by rw [h5]; exact Nat.succ.inj hn)
theorem toNat_add_sub {a : Int} {n : Nat} (h : 0 ≤ a) : (a + (n : Int)).toNat - a.toNat = n := by rw [Int.toNat_add h (Int.natCast_nonneg _), Int.toNat_natCast, Nat.add_sub_cancel_left]
theorem append_of {l : Nat} {xs : List V} {d : V} (h : σ[l]? = some (.list xs)) (h2 : xs.length < 1000000) : s_append [.loc l, d] σ = some (.none, σ.set l (.list (xs ++ [d]))) :=
  (sL_of h).trans (if_pos h2)
theorem v_dict {l : Nat} {es : List (Str × V)} {x : Str} {d : V} (h : σ[l]? = some (.dict es)) (h2 : valOf' es x = some d) : vidx (.loc l) (.str x) σ = some d := by
  show (match σ[l]? with | some (.list xs) => _ | some (.dict es) => valOf' es x | _ => none) = _
  rw [h]; exact h2
theorem v_list {l : Nat} {xs : List V} {k : Int} {d : V} (h : σ[l]? = some (.list xs)) (h0 : 0 ≤ k) (h2 : xs[k.toNat]? = some d) : vidx (.loc l) (.int k) σ = some d := by
  show (match σ[l]? with | some (.list xs) => if 0 ≤ k then xs[k.toNat]? else none | some (.dict es) => none | _ => none) = _
  rw [h]; exact (if_pos h0).trans h2
theorem v_byte {x : List UInt8} {k : Int} {c : UInt8} (h0 : 0 ≤ k) (h2 : x[k.toNat]? = some c) : vidx (.bytes x) (.int k) σ = some (.int c.toNat) := by
  show (if 0 ≤ k then (x[k.toNat]?).map fun c => V.int c.toNat else none) = _
  rw [if_pos h0, h2]; rfl
theorem len_list {l : Nat} {xs : List V} (h : σ[l]? = some (.list xs)) : sLen [.loc l] σ = some (.int xs.length, σ) := sL_of h
theorem src_list {l : Nat} {xs : List V} (h : σ[l]? = some (.list xs)) : psrc (.loc l) σ = some (.list l xs) := by simp only [psrc, h]
theorem is_list {l : Nat} {xs : List V} (h : σ[l]? = some (.list xs)) : isList (.loc l) σ = some () := by
  show (match σ[l]? with | some (.list xs) => some () | _ => none) = _
  rw [h]
theorem src_rng {lo hi : Int} (h1 : 0 ≤ lo) (h2 : lo ≤ 100000) (h3 : 0 ≤ hi) (h4 : hi ≤ 100000) : psrc (.rng lo hi) σ = some (.rng lo hi) := if_pos (rngOk_of h1 h2 h3 h4)
end
end Mine
namespace Mine
open PySem PySem.W PySem.Calls PyProof.Rows
section
variable {ρ : Loc} {σ : Sto}
inductive WqStep {ι : Type} (t : PM Bool) (b g : PM Fl) (N : ι → Nat) (L : ι → Loc) (S : ι → Sto) (W : ι → Prop) (R : Option (Fl × Loc × Sto)) (i : ι) : Prop
  | stop {c : Bool} {ρ1 : Loc} {σ1 : Sto} : t (L i) (S i) = some (c, ρ1, σ1) → c = false → g ρ1 σ1 = R → WqStep t b g N L S W R i
  | next {c : Bool} {ρ1 : Loc} {σ1 : Sto} (j : ι) : t (L i) (S i) = some (c, ρ1, σ1) → c = true → b ρ1 σ1 = some (.next, L j, S j) → N j < N i → W j → WqStep t b g N L S W R i
theorem wq_use {ι : Type} {t : PM Bool} {b g : PM Fl} {R : Option (Fl × Loc × Sto)} {n : Nat} (N : ι → Nat) (L : ι → Loc) (S : ι → Sto) (W : ι → Prop) (i : ι) (hn : N i < n) (hl : ρ = L i) (hs : σ = S i) (hw : W i) (step : ∀ i, W i → WqStep t b g N L S W R i) :
    pseq (pwhile t b n) g ρ σ = R := by
  rw [hl, hs]
  clear hl hs
  induction n generalizing i with
  | zero => cases hn
  | succ n ih =>
    cases step i hw with
    | stop h1 hc h => exact b_whF h1 hc h
    | next j h1 hc h2 h3 h4 => exact b_whT h1 hc h2 (ih j (Nat.lt_of_lt_of_le h3 (Nat.le_of_lt_succ hn)) h4)
end
theorem tw_lt {c : UInt8} : ∀ (l : List UInt8) (j : Nat), j < (l.takeWhile (· != c)).length → ((l.drop j).take 1 == [c]) = false ∧ l[j]? = (l.takeWhile (· != c))[j]?
  | [], j, h => by cases h
  | a :: r, j, h => by
    rw [List.takeWhile_cons] at h ⊢
    by_cases ha : (a != c) = true
    · rw [if_pos ha] at h ⊢
      cases j with
      | zero => exact ⟨by simpa using ha, rfl⟩
      | succ j => exact tw_lt r j (Nat.lt_of_succ_lt_succ h)
    · rw [if_neg ha] at h; cases h
theorem tw_stop {c : UInt8} : ∀ (l : List UInt8), (l.takeWhile (· != c)).length < l.length → ((l.drop (l.takeWhile (· != c)).length).take 1 == [c]) = true
  | [], h => by cases h
  | a :: r, h => by
    rw [List.takeWhile_cons] at h ⊢
    by_cases ha : (a != c) = true
    · rw [if_pos ha] at h ⊢
      exact tw_stop r (Nat.lt_of_succ_lt_succ h)
    · rw [if_neg ha]
      simpa using ha
end Mine
namespace Mine
open PySem PySem.W PySem.Calls PyProof.Rows
set_option maxRecDepth 100000
set_option maxHeartbeats 2000000
noncomputable def s_lies : Spec := fun ds σ => a3 ds fun x y z => vB x fun o => vB y fun w => vI z fun a => if 0 ≤ a then some (.bool ((o.drop a.toNat).take w.length == w), σ) else none
theorem lies_of {o w : List UInt8} {a : Int} {σ : Sto} (h : 0 ≤ a) : s_lies [.bytes o, .bytes w, .int a] σ = some (.bool ((o.drop a.toNat).take w.length == w), σ) := if_pos h
theorem d_lies {prog : Program} : CallOk prog KK 2 (.ref 62) s_lies := by
  refine' defOk (f := 62) ["octets", "wanted", "at"] 1 (by intro P; k_is) (by intro P; k_is) (bind3 fun _ _ _ => rfl) ?body (Runs.meets ⟨fun ds σ hu hd => Sat.a3 fun x y z e1 => .B fun o e2 => .B fun w e3 => .I fun a e4 => .fi fun h0 => .ok ?_⟩) (by decide +kernel) rfl rfl rfl
  case body => conv => { arg 4; whnf }; conv => { arg 5; whnf }; repeat' (with_reducible show (_ : Prop); first
   | (show JE _ _ _ _ (Expr.Name _ _) _; refine' W_local (by first | ((repeat first | exact At.here | apply At.there); done) | fail) (by decide +kernel) (by decide +kernel))
   | (show JE _ _ _ _ (Expr.Call _ _ _ _) _; refine' W_callB (by first | ((repeat first | exact At.here | apply At.there); done) | fail) (by intro P; k_is) (by first | exact PySem.boot_len | fail) (by decide +kernel) (by decide +kernel) (by first | exact cLen | fail) ?_ (by intro _; with_unfolding_all rfl) (by intro _; with_unfolding_all rfl))
   | (show JE _ _ _ _ _ _; first | refine' JE_bin ?_ ?_ | refine' JE_slice ?_ ?_ ?_ | refine' JE_cmpS ?_ ?_ (by with_unfolding_all rfl))
   | exact JA_nil
   | refine' JA_cons ?_ ?_ (by intro _; with_unfolding_all rfl)
   | exact JXs_nil
   | refine' JXs_cons ?_ ?_
   | (show JX _ _ _ _ _ _; refine' JX_return ?_)
   | refine' JP_some ?_)
  subst e1 e2 e3 e4
  have h1 : (0 : Int) ≤ a + (w.length : Int) := by lia
  have h3 : slOk (some a) (some (a + (w.length : Int))) = true := by simp [slOk, h0, h1]
  rw [← toNat_add_sub (n := w.length) h0]
  refine Post.keep rfl hu trivial ?_
  apply Ends.ret
  apply b_bind
  case h.h1 =>
    apply b_bind
    case h1 =>
      apply b_bind
      case h1 => exact rfl
      case h2 =>
        apply b_bind
        case h1 => exact rfl
        case h2 =>
          apply b_bind
          case h1 => exact rfl
          case h2 => exact b_sliceB h3
    case h2 => exact rfl
  case h.h2 => exact rfl
noncomputable def s_first : Spec := fun ds σ => a3 ds fun x y z => vB x fun o => vO y fun m => vI z fun a => if a = 0 ∧ o.length ≤ 1000 then some (.int (if m ∈ o then ((o.takeWhile (· != m)).length : Int) else -1), σ) else none
theorem take1 (pre suf : List UInt8) (c m : UInt8) : (List.take 1 (List.drop pre.length (pre ++ c :: suf)) == [m]) = (c == m) := by
  rw [List.drop_left]
  show ([c] == [m]) = _
  simp
theorem takeWhile_stop {p : UInt8 → Bool} : ∀ {pre suf : List UInt8} {c : UInt8}, (∀ x ∈ pre, p x = true) → p c = false → (pre ++ c :: suf).takeWhile p = pre
  | [], _, _, _, h => by rw [List.nil_append, List.takeWhile_cons, h]; rfl
  | a :: r, _, _, h, h2 => by rw [List.cons_append, List.takeWhile_cons, h a (List.mem_cons_self ..), if_pos rfl, takeWhile_stop (fun x hx => h x (List.mem_cons_of_mem _ hx)) h2]
theorem d_first {prog : Program} : CallOk prog KK 3 (.ref 69) s_first := by
  refine' defOk (f := 69) ["octets", "wanted", "begin"] 5 (by intro P; k_is) (by intro P; k_is) (bind3 fun _ _ _ => rfl) ?body (Runs.meets ⟨fun ds σ hu hd => Sat.a3 fun x y z e1 => .B fun o e2 => .O fun m e3 => .I fun a e4 => .fi fun ⟨h0, hl⟩ => .ok ?_⟩) (by decide +kernel) rfl rfl rfl
  case body => conv => { arg 4; whnf }; conv => { arg 5; whnf }; repeat' (with_reducible show (_ : Prop); first
   | (show JE _ _ _ _ (Expr.Name _ _) _; refine' W_local (by first | ((repeat first | exact At.here | apply At.there); done) | fail) (by decide +kernel) (by decide +kernel))
   | (show JE _ _ _ _ (Expr.Constant _ _ _) _; exact JE_int _)
   | (show JE _ _ _ _ (Expr.Call _ _ _ _) _; first | refine' W_callB (by first | ((repeat first | exact At.here | apply At.there); done) | fail) (by intro P; k_is) (by first | exact PySem.boot_len | fail) (by decide +kernel) (by decide +kernel) (by first | exact cLen | fail) ?_ (by intro _; with_unfolding_all rfl) (by intro _; with_unfolding_all rfl) | refine' W_callT (by first | ((repeat first | exact At.here | apply At.there); done) | fail) (by intro P; k_is) (by first | exact boot_range | fail) (by decide +kernel) (by decide +kernel) (by first | exact cRange | fail) ?_ (by intro _; with_unfolding_all rfl) (by intro _; with_unfolding_all rfl) | refine' W_call (by first | ((repeat first | exact At.here | apply At.there); done) | fail) (by intro P; k_is) (by decide +kernel) (by intro P; k_is) (by first | exact callOk_le d_lies (by decide) | fail) ?_ (by intro _; with_unfolding_all rfl) (by intro _; with_unfolding_all rfl))
   | (show JE _ _ _ _ _ _; refine' JE_neg ?_)
   | exact JA_nil
   | refine' JA_cons ?_ ?_ (by intro _; with_unfolding_all rfl)
   | exact JXs_nil
   | refine' JXs_cons ?_ ?_
   | (show JX _ _ _ _ _ _; first | refine' JX_return ?_ | refine' JX_if ?_ ?_ ?_ | refine' JX_for ?_ ?_ ?_ (by intro _ _; with_unfolding_all rfl) | exact JX_fail)
   | (show JT _ _ _ _ _ _; first | refine' JT_cmpS ?_ ?_ (by with_unfolding_all rfl) | refine' JT_val ?_ (by intro _ _; with_unfolding_all rfl))
   | (show JS _ _ _ _ _ _; refine' JS_local (by first | ((repeat first | exact At.here | apply At.there); done) | fail)))
  subst e1 e2 e3 e4 h0
  refine Post.keep rfl hu trivial (.of (b_seq (b_iff (c := decide ((1 : Int) = 0)) rfl rfl rfl) rfl) (.of (b_into (a := .rng 0 o.length) rfl (b_into (b_sto (src_rng (by lia) (by lia) (by lia) (by lia))) rfl)) ?_))
  rw [rng_items, rng_ok]
  refine for_use (ι := List UInt8 × List UInt8 × Option V) (fun i => intsFrom i.1.length i.2.1.length) (fun i => [some (.bytes o), some (.bytes [m]), some (.int 0), i.2.2, none, none, none, none]) (fun _ => σ) (fun i => o = i.1 ++ i.2.1 ∧ m ∉ i.1) ([], o, none) (by simp) rfl rfl ⟨rfl, by simp⟩ ?_
  rintro ⟨pre, suf, x⟩ ⟨ho, hm⟩
  dsimp only at ho hm
  subst ho
  cases suf with
  | nil =>
    refine .nil rfl trivial ?_
    rw [List.append_nil, if_neg hm]
    exact .ret rfl
  | cons c suf =>
    have hb : s_lies [.bytes (pre ++ c :: suf), .bytes [m], .int pre.length] σ = some (.bool (c == m), σ) := by rw [lies_of (by lia)]; exact congrArg (fun b => some (V.bool b, σ)) (take1 ..)
    by_cases hc : c = m
    · subst hc
      rw [if_pos (by simp), takeWhile_stop (fun x hx => by have hne : x ≠ c := fun z => hm (z ▸ hx); simpa using hne) (by simp)]
      exact .ret rfl trivial rfl (Rets.of (b_seqr (b_ift (b_bind (b_bind rfl (b_call hb)) rfl) (by simp) (b_seqr rfl))))
    · refine .next (pre ++ [c], suf, some (.int pre.length)) rfl trivial rfl ?_ (by simp only [List.length_append]; rfl) ⟨by simp, by simp [hm, Ne.symm hc]⟩
      exact b_seq (b_iff (b_bind (b_bind rfl (b_call hb)) rfl) (by simpa using hc) rfl) rfl
theorem first_of {o : List UInt8} {m : UInt8} {σ : Sto} (h : o.length ≤ 1000) : s_first [.bytes o, .bytes [m], .int 0] σ = some (.int (if m ∈ o then ((o.takeWhile (· != m)).length : Int) else -1), σ) := if_pos ⟨rfl, h⟩
noncomputable def s_sent : Spec := fun ds σ => a2 ds fun x y => vB x fun o => vN y (some (.bytes o, σ)) (vO y fun m => if o.length ≤ 1000 then some (.bytes (o.takeWhile (· != m)), σ) else none)
theorem takeWhile_take {p : UInt8 → Bool} : ∀ o : List UInt8, o.take (o.takeWhile p).length = o.takeWhile p
  | [] => rfl
  | a :: r => by
    rw [List.takeWhile_cons]
    split
    · rw [List.length_cons, List.take_succ_cons, takeWhile_take r]
    · rfl
theorem takeWhile_all {m : UInt8} : ∀ {o : List UInt8}, m ∉ o → o.takeWhile (· != m) = o
  | [], _ => rfl
  | a :: r, h => by
    rw [List.mem_cons, not_or] at h
    rw [List.takeWhile_cons, takeWhile_all h.2, if_pos (by simpa using Ne.symm h.1)]
theorem d_sent {prog : Program} : CallOk prog KK 4 (.ref 76) s_sent := by
  refine' defOk (f := 76) ["octets", "delimiter"] 2 (by intro P; k_is) (by intro P; k_is) (bind2 fun _ _ => rfl) ?body (Runs.meets ⟨fun ds σ hu hd => Sat.a2 fun x y e1 => .B fun o e2 => .N (fun e3 => .ok ?_) (.O fun m e3 => .fi fun hl => .ok ?_)⟩) (by decide +kernel) rfl rfl rfl
  case body => conv => { arg 4; whnf }; conv => { arg 5; whnf }; repeat' (with_reducible show (_ : Prop); first
   | (show JE _ _ _ _ (Expr.Name _ _) _; refine' W_local (by first | ((repeat first | exact At.here | apply At.there); done) | fail) (by decide +kernel) (by decide +kernel))
   | (show JE _ _ _ _ (Expr.Constant _ _ _) _; first | exact JE_int _ | exact JE_none)
   | (show JE _ _ _ _ (Expr.Call _ _ _ _) _; refine' W_call (by first | ((repeat first | exact At.here | apply At.there); done) | fail) (by intro P; k_is) (by decide +kernel) (by intro P; k_is) (by first | exact callOk_le d_first (by decide) | fail) ?_ (by intro _; with_unfolding_all rfl) (by intro _; with_unfolding_all rfl))
   | (show JE _ _ _ _ _ _; first | refine' JE_slice ?_ ?_ ?_ | refine' JE_if ?_ ?_ ?_)
   | exact JA_nil
   | refine' JA_cons ?_ ?_ (by intro _; with_unfolding_all rfl)
   | exact JXs_nil
   | refine' JXs_cons ?_ ?_
   | (show JX _ _ _ _ (Stmt.Assign _ _ _) _; refine' W_store ?_ (by first | ((repeat first | exact At.here | apply At.there); done) | fail) (by intro _; with_unfolding_all rfl))
   | (show JX _ _ _ _ _ _; first | refine' JX_return ?_ | refine' JX_if ?_ ?_ ?_)
   | (show JT _ _ _ _ _ _; refine' JT_cmpS ?_ ?_ (by with_unfolding_all rfl))
   | refine' JP_some ?_
   | exact JP_none)
  · subst e1 e2 e3
    exact .keep rfl hu trivial (.ret (b_ift rfl rfl (b_seqr rfl)))
  · subst e1 e2 e3
    refine .keep rfl hu trivial (.of (b_seq (b_iff rfl rfl rfl) (b_seq (b_bind (b_bind rfl (b_call (first_of hl))) rfl) rfl)) ?_)
    by_cases hm : m ∈ o
    · have h3 : sl o none (some ((o.takeWhile (· != m)).length : Int)) = o.takeWhile (· != m) := by
        show (o.drop 0).take (_ - 0) = _
        rw [List.drop_zero, Nat.sub_zero, Int.toNat_natCast, takeWhile_take]
      rw [if_pos hm]
      exact .ret (b_bind (b_ief rfl (decide_eq_false (by lia)) (b_bind rfl (b_bind rfl (b_bind rfl (b_sliceB (by simp [slOk])))))) (by rw [h3]; rfl))
    · rw [if_neg hm, takeWhile_all hm]
      exact .ret (b_bind (b_iet rfl rfl rfl) rfl)
noncomputable def marksOf : List V → Option (List (UInt8 × Bool))
  | [] => some []
  | d :: r => vT d fun l => a2 l fun x y => vO x fun m => vBo y fun b => (marksOf r).map ((m, b) :: ·)
theorem marksOf_cons {d : V} {ds : List V} {ms : List (UInt8 × Bool)} (h : marksOf (d :: ds) = some ms) : ∃ m b ms', d = .tup [.bytes [m], .bool b] ∧ marksOf ds = some ms' ∧ ms = (m, b) :: ms' := by
  obtain ⟨l, rfl, h1⟩ := vT_some h
  obtain ⟨x, y, rfl, h2⟩ := a2_some h1
  obtain ⟨m, rfl, h3⟩ := vO_some h2
  obtain ⟨b, rfl, h4⟩ := vBo_some h3
  obtain ⟨ms', e1, e2⟩ := Option.map_eq_some_iff.mp h4
  exact ⟨m, b, ms', rfl, e1, e2.symm⟩
noncomputable def markV (p : UInt8 × Bool) : V := .tup [.bytes [p.1], .bool p.2]
theorem marksOf_inv : ∀ {ds : List V} {ms : List (UInt8 × Bool)}, marksOf ds = some ms → ds = ms.map markV
  | [], _, h => by cases h; rfl
  | d :: ds, _, h => by
    obtain ⟨m, b, ms', rfl, h1, rfl⟩ := marksOf_cons h
    rw [marksOf_inv h1]; rfl
theorem marksOf_map : ∀ ms : List (UInt8 × Bool), marksOf (ms.map markV) = some ms
  | [] => rfl
  | (c, b) :: r => by
    show (marksOf (r.map markV)).map ((c, b) :: ·) = _
    rw [marksOf_map r]; rfl
noncomputable def hitOf (ms : List (UInt8 × Bool)) (c : UInt8) : Option (UInt8 × Bool) := ms.find? fun p => c == p.1
noncomputable def hitV : Option (UInt8 × Bool) → V
  | some p => markV p
  | none => .none
noncomputable def s_delim : Spec := fun ds σ => a3 ds fun x y z => vB x fun o => vL y fun l => vI z fun a => sL σ l fun xs => vo (marksOf xs) fun ms => if 0 ≤ a ∧ a.toNat < o.length then some (hitV (hitOf ms (o.getD a.toNat 0)), σ) else none
theorem hitV_under {n : Nat} (x : Option (UInt8 × Bool)) : V.under n (hitV x) := by cases x <;> simp [hitV, markV, V.under, V.underAll]
theorem d_delim {prog : Program} : CallOk prog KK 3 (.ref 90) s_delim := by
  refine' defOk (f := 90) ["octets", "delimiters", "at"] 5 (by intro P; k_is) (by intro P; k_is) (bind3 fun _ _ _ => rfl) ?body (Runs.meets ⟨fun ds σ hu hd => Sat.a3 fun x y z e1 => .B fun o e2 => .L fun l e3 => .I fun a e4 => .sL fun xs he => .o fun ms hms => .fi fun ⟨h0, ha⟩ => .ok ?_⟩) (by decide +kernel) rfl rfl rfl
  case body => conv => { arg 4; whnf }; conv => { arg 5; whnf }; repeat' (with_reducible show (_ : Prop); first
   | (show JE _ _ _ _ (Expr.Name _ _) _; refine' W_local (by first | ((repeat first | exact At.here | apply At.there); done) | fail) (by decide +kernel) (by decide +kernel))
   | (show JE _ _ _ _ (Expr.Constant _ _ _) _; first | exact JE_int _ | exact JE_none)
   | (show JE _ _ _ _ (Expr.Call _ _ _ _) _; first | refine' W_callB (by first | ((repeat first | exact At.here | apply At.there); done) | fail) (by intro P; k_is) (by first | exact PySem.boot_len | fail) (by decide +kernel) (by decide +kernel) (by first | exact cLen | fail) ?_ (by intro _; with_unfolding_all rfl) (by intro _; with_unfolding_all rfl) | refine' W_call (by first | ((repeat first | exact At.here | apply At.there); done) | fail) (by intro P; k_is) (by decide +kernel) (by intro P; k_is) (by first | exact callOk_le d_lies (by decide) | fail) ?_ (by intro _; with_unfolding_all rfl) (by intro _; with_unfolding_all rfl))
   | (show JE _ _ _ _ _ _; refine' JE_tuple ?_)
   | exact JA_nil
   | refine' JA_cons ?_ ?_ (by intro _; with_unfolding_all rfl)
   | exact JXs_nil
   | refine' JXs_cons ?_ ?_
   | (show JX _ _ _ _ _ _; first | refine' JX_return ?_ | refine' JX_if ?_ ?_ ?_ | refine' JX_for ?_ ?_ ?_ (by intro _ _; with_unfolding_all rfl) | exact JX_fail)
   | (show JT _ _ _ _ _ _; first | refine' JT_cmpS ?_ ?_ (by with_unfolding_all rfl) | refine' JT_val ?_ (by intro _ _; with_unfolding_all rfl))
   | (show JS _ _ _ _ _ _; first | refine' JS_local (by first | ((repeat first | exact At.here | apply At.there); done) | fail) | refine' JS_tuple ?_)
   | refine' JSs_cons ?_ ?_ (by intro _; with_unfolding_all rfl)
   | exact JSs_nil)
  subst e1 e2 e3 e4
  obtain rfl := marksOf_inv hms
  refine .keep rfl hu (hitV_under _) (.of (b_into rfl (b_into (b_sto (src_list he)) rfl)) ?_)
  rw [list_items, list_ok]
  refine for_use (ι := List (UInt8 × Bool) × Option V × Option V) (fun i => i.1.map markV) (fun i => [some (.bytes o), some (.loc l), some (.int a), i.2.1, i.2.2, none, none, none]) (fun _ => σ) (fun i => hitOf ms (o.getD a.toNat 0) = hitOf i.1 (o.getD a.toNat 0)) (ms, none, none) rfl rfl rfl rfl ?_
  rintro ⟨ms', x, y⟩ hw
  dsimp only at hw
  rw [hw]
  cases ms' with
  | nil => exact .nil rfl he (.ret rfl)
  | cons p ms' =>
    have hb : s_lies [.bytes o, .bytes [p.1], .int a] σ = some (.bool (o.getD a.toNat 0 == p.1), σ) := by rw [lies_of h0]; exact congrArg (fun b => some (V.bool b, σ)) (take1' ha)
    by_cases hc : (o.getD a.toNat 0 == p.1) = true
    · rw [hitOf, List.find?_cons, hc]
      exact .ret rfl he rfl (Rets.of (b_seq (b_iff rfl rfl rfl) (b_seqr (b_ift (b_bind (b_bind rfl (b_call hb)) rfl) hc (b_seqr rfl)))))
    · refine .next (ms', some (.bytes [p.1]), some (.bool p.2)) rfl he rfl ?_ rfl (by rw [hitOf, List.find?_cons, Bool.eq_false_iff.mpr hc]; rfl)
      exact b_seq (b_iff rfl rfl rfl) (b_seq (b_iff (b_bind (b_bind rfl (b_call hb)) rfl) (Bool.eq_false_iff.mpr hc) rfl) rfl)
noncomputable def s_behind : Spec := fun ds σ => a4 ds fun x y z w => vB x fun o => vO y fun m => vBo z fun all => vI w fun a => if 0 ≤ a ∧ a.toNat < o.length ∧ o.length ≤ 1000 then some (.int (a + 1 + (if all = true then (((o.drop (a.toNat + 1)).takeWhile (· == m)).length : Int) else 0)), σ) else none
theorem d_behind {prog : Program} : CallOk prog KK 3 (.ref 97) s_behind := by
  refine' defOk (f := 97) ["octets", "mark", "is_all", "at"] 3 (by intro P; k_is) (by intro P; k_is) (bind4 fun _ _ _ _ => rfl) ?body (Runs.meets ⟨fun ds σ hu hd => Sat.a4 fun x y z w e1 => .B fun o e2 => .O fun m e3 => .Bo fun all e4 => .I fun a e5 => .fi fun ⟨h0, ha, hl⟩ => .ok ?_⟩) (by decide +kernel) rfl rfl rfl
  case body => conv => { arg 4; whnf }; conv => { arg 5; whnf }; repeat' (with_reducible show (_ : Prop); first
   | (show JE _ _ _ _ (Expr.Name _ _) _; refine' W_local (by first | ((repeat first | exact At.here | apply At.there); done) | fail) (by decide +kernel) (by decide +kernel))
   | (show JE _ _ _ _ (Expr.Call _ _ _ _) _; first | refine' W_callB (by first | ((repeat first | exact At.here | apply At.there); done) | fail) (by intro P; k_is) (by first | exact PySem.boot_len | fail) (by decide +kernel) (by decide +kernel) (by first | exact cLen | fail) ?_ (by intro _; with_unfolding_all rfl) (by intro _; with_unfolding_all rfl) | refine' W_call (by first | ((repeat first | exact At.here | apply At.there); done) | fail) (by intro P; k_is) (by decide +kernel) (by intro P; k_is) (by first | exact callOk_le d_lies (by decide) | fail) ?_ (by intro _; with_unfolding_all rfl) (by intro _; with_unfolding_all rfl))
   | (show JE _ _ _ _ _ _; refine' JE_bin ?_ ?_)
   | exact JA_nil
   | refine' JA_cons ?_ ?_ (by intro _; with_unfolding_all rfl)
   | exact JXs_nil
   | refine' JXs_cons ?_ ?_
   | (show JX _ _ _ _ (Stmt.Assign _ _ _) _; refine' W_store ?_ (by first | ((repeat first | exact At.here | apply At.there); done) | fail) (by intro _; with_unfolding_all rfl))
   | (show JX _ _ _ _ _ _; first | refine' JX_return ?_ | refine' JX_while big ?_ ?_)
   | (show JT _ _ _ _ _ _; first | refine' JT_bool ?_ | refine' JT_val ?_ (by intro _ _; with_unfolding_all rfl))
   | refine' JB_and ?_ ?_
   | exact JB_andNil)
  subst e1 e2 e3 e4 e5
  have hlt : ((o.drop (a.toNat + 1)).takeWhile (· == m)).length ≤ 1000 := Nat.le_trans (List.takeWhile_sublist _).length_le (by rw [List.length_drop]; lia)
  refine .keep rfl hu trivial (.of (b_seq rfl rfl) ?_)
  refine wh_use (ι := Nat) (fun j => ((o.drop (a.toNat + 1)).takeWhile (· == m)).length - j) (fun j => [some (.bytes o), some (.bytes [m]), some (.bool all), some (.int a), some (.int (a + 1 + j)), none, none]) (fun _ => σ) (fun j => j ≤ (if all = true then ((o.drop (a.toNat + 1)).takeWhile (· == m)).length else 0)) 0 (by unfold big; lia) (by rw [show a + 1 + ((0 : Nat) : Int) = a + 1 by lia]; rfl) rfl (Nat.zero_le _) ?_
  intro j hj
  cases all with
  | false =>
    obtain rfl : j = 0 := Nat.le_zero.mp hj
    exact .stop rfl rfl (.ret rfl)
  | true =>
    rw [if_pos rfl] at hj ⊢
    have hb : s_lies [.bytes o, .bytes [m], .int (a + 1 + j)] σ = some (.bool (decide (j < ((o.drop (a.toNat + 1)).takeWhile (· == m)).length)), σ) := by
      rw [lies_of (by lia), show (a + 1 + (j : Int)).toNat = a.toNat + 1 + j by lia, ← List.drop_drop]
      exact congrArg (fun b => some (V.bool b, σ)) (tw_at _ j hj)
    by_cases hc : j < ((o.drop (a.toNat + 1)).takeWhile (· == m)).length
    · refine .next (j + 1) (b_iet rfl rfl (b_iet (b_bind (b_bind rfl (b_call hb)) rfl) (decide_eq_true hc) rfl)) rfl ?_ (by lia) (by lia)
      rw [show a + 1 + ((j + 1 : Nat) : Int) = a + 1 + j + 1 by lia]
      exact b_seq rfl rfl
    · have he : j = ((o.drop (a.toNat + 1)).takeWhile (· == m)).length := by lia
      refine .stop (b_iet rfl rfl (b_ief (b_bind (b_bind rfl (b_call hb)) rfl) (decide_eq_false hc) rfl)) rfl ?_
      rw [← he]
      exact .ret rfl
noncomputable def nextS (ms : List (UInt8 × Bool)) : List UInt8 → List UInt8 × List UInt8 × List UInt8
  | [] => ([], [], [])
  | c :: r => match hitOf ms c with
    | some p => ([], [p.1], if p.2 = true then r.dropWhile (· == p.1) else r)
    | none => (c :: (nextS ms r).1, (nextS ms r).2.1, (nextS ms r).2.2)
theorem nextS_none {ms : List (UInt8 × Bool)} : ∀ {l : List UInt8}, (∀ x ∈ l, hitOf ms x = none) → nextS ms l = (l, [], [])
  | [], _ => rfl
  | a :: r, h => by
    unfold nextS
    rw [h a (List.mem_cons_self ..)]
    rw [nextS_none fun x hx => h x (List.mem_cons_of_mem _ hx)]
theorem nextS_hit {ms : List (UInt8 × Bool)} {c : UInt8} {p : UInt8 × Bool} {suf : List UInt8} (hc : hitOf ms c = some p) : ∀ {l : List UInt8}, (∀ x ∈ l, hitOf ms x = none) → nextS ms (l ++ c :: suf) = (l, [p.1], if p.2 = true then suf.dropWhile (· == p.1) else suf)
  | [], _ => by rw [List.nil_append]; unfold nextS; rw [hc]
  | a :: r, h => by
    rw [List.cons_append]
    unfold nextS
    rw [h a (List.mem_cons_self ..)]
    rw [nextS_hit hc fun x hx => h x (List.mem_cons_of_mem _ hx)]
theorem dropWhile_len {p : UInt8 → Bool} : ∀ l : List UInt8, (l.dropWhile p).length + (l.takeWhile p).length = l.length
  | [] => rfl
  | a :: r => by
    rw [List.dropWhile_cons, List.takeWhile_cons]
    split
    · rw [List.length_cons, List.length_cons]; have := dropWhile_len (p := p) r; lia
    · rfl
noncomputable def nextV (o : List UInt8) (w : List UInt8 × List UInt8 × List UInt8) : V := .tup [.bytes w.1, .bytes w.2.1, .int ((o.length : Int) - (w.2.2.length : Int))]
noncomputable def s_next : Spec := fun ds σ => a3 ds fun x y z => vB x fun o => vL y fun l => vI z fun b => sL σ l fun xs => vo (marksOf xs) fun ms => if 0 ≤ b ∧ b.toNat ≤ o.length ∧ o.length ≤ 1000 then some (nextV o (nextS ms (o.drop b.toNat)), σ) else none
theorem next_of {o : List UInt8} {l : Nat} {b : Int} {xs : List V} {ms : List (UInt8 × Bool)} {σ : Sto} (he : σ[l]? = some (.list xs)) (hm : marksOf xs = some ms) (h : 0 ≤ b ∧ b.toNat ≤ o.length ∧ o.length ≤ 1000) : s_next [.bytes o, .loc l, .int b] σ = some (nextV o (nextS ms (o.drop b.toNat)), σ) := (sL_of he).trans ((vo_of hm).trans (if_pos h))
theorem delim_of {o : List UInt8} {l : Nat} {a : Int} {xs : List V} {ms : List (UInt8 × Bool)} {σ : Sto} (he : σ[l]? = some (.list xs)) (hm : marksOf xs = some ms) (h : 0 ≤ a ∧ a.toNat < o.length) : s_delim [.bytes o, .loc l, .int a] σ = some (hitV (hitOf ms (o.getD a.toNat 0)), σ) := (sL_of he).trans ((vo_of hm).trans (if_pos h))
theorem behind_of {o : List UInt8} {m : UInt8} {all : Bool} {a : Int} {σ : Sto} (h : 0 ≤ a ∧ a.toNat < o.length ∧ o.length ≤ 1000) : s_behind [.bytes o, .bytes [m], .bool all, .int a] σ = some (.int (a + 1 + (if all = true then (((o.drop (a.toNat + 1)).takeWhile (· == m)).length : Int) else 0)), σ) := if_pos h
theorem nextV_under {n : Nat} {o : List UInt8} {w : List UInt8 × List UInt8 × List UInt8} : V.under n (nextV o w) := by simp [nextV, V.under, V.underAll]
theorem at_drop {o mid suf : List UInt8} {c : UInt8} {b : Nat} (h : o.drop b = mid ++ c :: suf) : o.drop (b + mid.length) = c :: suf ∧ o.getD (b + mid.length) 0 = c ∧ o.drop (b + mid.length + 1) = suf ∧ b + mid.length < o.length ∧ o.length = b + mid.length + 1 + suf.length := by
  have e2 : o.drop (b + mid.length) = c :: suf := by rw [← List.drop_drop, h, List.drop_left]
  have e3 : o.getD (b + mid.length) 0 = c := by
    have := congrArg (fun l => l[0]?) e2
    simp only [List.getElem?_drop, List.getElem?_cons_zero, Nat.add_zero] at this
    rw [List.getD_eq_getElem?_getD, this]; rfl
  have e4 : o.drop (b + mid.length + 1) = suf := by rw [← List.drop_drop, e2]; rfl
  have := congrArg List.length e2
  rw [List.length_drop, List.length_cons] at this
  exact ⟨e2, e3, e4, by lia, by lia⟩
theorem d_next {prog : Program} : CallOk prog KK 4 (.ref 104) s_next := by
  refine' defOk (f := 104) ["octets", "delimiters", "begin"] 6 (by intro P; k_is) (by intro P; k_is) (bind3 fun _ _ _ => rfl) ?body (Runs.meets ⟨fun ds σ hu hd => Sat.a3 fun x y z e1 => .B fun o e2 => .L fun l e3 => .I fun b e4 => .sL fun xs he => .o fun ms hms => .fi fun ⟨h0, hb, hl⟩ => .ok ?_⟩) (by decide +kernel) rfl rfl rfl
  case body => conv => { arg 4; whnf }; conv => { arg 5; whnf }; repeat' (with_reducible show (_ : Prop); first
   | (show JE _ _ _ _ (Expr.Name _ _) _; refine' W_local (by first | ((repeat first | exact At.here | apply At.there); done) | fail) (by decide +kernel) (by decide +kernel))
   | (show JE _ _ _ _ (Expr.Constant _ _ _) _; first | exact JE_int _ | exact JE_none | refine' JE_bytes _ (by decide))
   | (show JE _ _ _ _ (Expr.Call _ _ _ _) _; first | refine' W_callB (by first | ((repeat first | exact At.here | apply At.there); done) | fail) (by intro P; k_is) (by first | exact PySem.boot_len | fail) (by decide +kernel) (by decide +kernel) (by first | exact cLen | fail) ?_ (by intro _; with_unfolding_all rfl) (by intro _; with_unfolding_all rfl) | refine' W_callT (by first | ((repeat first | exact At.here | apply At.there); done) | fail) (by intro P; k_is) (by first | exact boot_range | fail) (by decide +kernel) (by decide +kernel) (by first | exact cRange | fail) ?_ (by intro _; with_unfolding_all rfl) (by intro _; with_unfolding_all rfl) | refine' W_call (by first | ((repeat first | exact At.here | apply At.there); done) | fail) (by intro P; k_is) (by decide +kernel) (by intro P; k_is) (by first | exact callOk_le d_behind (by decide) | exact callOk_le d_delim (by decide) | fail) ?_ (by intro _; with_unfolding_all rfl) (by intro _; with_unfolding_all rfl))
   | (show JE _ _ _ _ _ _; first | refine' JE_sub ?_ ?_ (by intro _ _; with_unfolding_all rfl) | refine' JE_slice ?_ ?_ ?_ | refine' JE_tuple ?_)
   | exact JA_nil
   | refine' JA_cons ?_ ?_ (by intro _; with_unfolding_all rfl)
   | exact JXs_nil
   | refine' JXs_cons ?_ ?_
   | (show JX _ _ _ _ (Stmt.Assign _ _ _) _; refine' W_store ?_ (by first | ((repeat first | exact At.here | apply At.there); done) | fail) (by intro _; with_unfolding_all rfl))
   | (show JX _ _ _ _ _ _; first | refine' JX_return ?_ | refine' JX_if ?_ ?_ ?_ | refine' JX_for ?_ ?_ ?_ (by intro _ _; with_unfolding_all rfl))
   | (show JT _ _ _ _ _ _; refine' JT_cmpS ?_ ?_ (by with_unfolding_all rfl))
   | (show JS _ _ _ _ _ _; refine' JS_local (by first | ((repeat first | exact At.here | apply At.there); done) | fail))
   | refine' JP_some ?_
   | exact JP_none)
  subst e1 e2 e3 e4
  refine .keep rfl hu nextV_under (.of (b_into (a := .rng b o.length) rfl (b_into (b_sto (src_rng h0 (by lia) (by lia) (by lia))) rfl)) ?_)
  rw [rng_items, rng_ok, show ((o.length : Int) - b).toNat = (o.drop b.toNat).length by rw [List.length_drop]; lia]
  refine for_use (ι := List UInt8 × List UInt8 × Option V × Option V) (fun i => intsFrom (b + i.1.length) i.2.1.length) (fun i => [some (.bytes o), some (.loc l), some (.int b), i.2.2.1, i.2.2.2, none, none, none, none]) (fun _ => σ) (fun i => o.drop b.toNat = i.1 ++ i.2.1 ∧ ∀ x ∈ i.1, hitOf ms x = none) ([], o.drop b.toNat, none, none) (by rw [show b + (([] : List UInt8).length : Int) = b from Int.add_zero b]) rfl rfl ⟨rfl, fun _ h => nomatch h⟩ ?_
  rintro ⟨mid, suf, x, y⟩ ⟨ho, hm⟩
  dsimp only at ho hm
  cases suf with
  | nil =>
    refine .nil rfl trivial ?_
    rw [List.append_nil] at ho
    rw [nextS_none (by rw [ho]; exact hm)]
    exact .ret (b_bind (b_bind (b_bind (b_bind rfl (b_bind rfl (b_bind rfl (b_sliceB (by simp [slOk, h0]))))) rfl) rfl) (by rw [nextV, List.length_nil, Int.natCast_zero, Int.sub_zero]; rfl))
  | cons c suf =>
    obtain ⟨e2, e3, e4, e5, e6⟩ := at_drop ho
    have e1 : (b + (mid.length : Int)).toNat = b.toNat + mid.length := Int.toNat_add_nat h0 _
    have hd := delim_of (a := b + (mid.length : Int)) (σ := σ) he hms ⟨by lia, by rw [e1]; exact e5⟩
    rw [e1, e3] at hd
    cases hc : hitOf ms c with
    | none =>
      rw [hc] at hd
      refine .next (mid ++ [c], suf, some (.int (b + mid.length)), some .none) rfl trivial rfl ?_ ?_ ⟨by rw [ho, List.append_assoc]; rfl, fun x hx => ?_⟩
      ·         exact b_seq (b_bind (b_bind rfl (b_call hd)) rfl) (b_seq (b_iff rfl rfl rfl) rfl)
      · show intsFrom (b + ((mid ++ [c]).length : Nat)) _ = intsFrom (b + mid.length + 1) _
        rw [List.length_append, Int.add_assoc]; rfl
      · rcases List.mem_append.mp hx with q | q
        · exact hm x q
        · rw [List.mem_singleton.mp q]; exact hc
    | some p =>
      rw [hc] at hd
      have hb2 := behind_of (o := o) (m := p.1) (all := p.2) (a := b + mid.length) (σ := σ) ⟨by lia, by rw [e1]; exact e5, hl⟩
      rw [ho, nextS_hit hc hm]
      have h5 : (o.length : Int) - ((if p.2 = true then suf.dropWhile (· == p.1) else suf).length : Int) = b + (mid.length : Int) + 1 + (if p.2 = true then (((o.drop ((b + (mid.length : Int)).toNat + 1)).takeWhile (· == p.1)).length : Int) else 0) := by
        have := dropWhile_len (p := (· == p.1)) suf
        rw [e1, e4]
        split <;> lia
      have h6 : sl o (some b) (some (b + mid.length)) = mid := by
        show (o.drop b.toNat).take ((b + (mid.length : Int)).toNat - b.toNat) = mid
        rw [ho, e1, Nat.add_sub_cancel_left, List.take_left]
      have h7 : slOk (some b) (some (b + (mid.length : Int))) = true := by
        have : 0 ≤ b + (mid.length : Int) := by lia
        simp [slOk, h0, this]
      rw [nextV, h5]
      exact .ret rfl trivial rfl (Rets.of (b_seq (b_bind (b_bind rfl (b_call hd)) rfl) (b_seqr (b_ift rfl rfl (b_seqr (b_bind (b_bind (b_bind (b_bind rfl (b_bind rfl (b_bind rfl (b_sliceE h7 h6)))) (b_bind (b_bind rfl (b_bind (b_bind (b_bind rfl (b_call hb2)) rfl) rfl)) rfl)) rfl) rfl))))))
noncomputable def pieceV (p : List UInt8 × List UInt8) : V := .tup [.bytes p.1, .bytes p.2]
theorem under_pieces (n : Nat) : ∀ ps : List (List UInt8 × List UInt8), V.underAll n (ps.map pieceV)
  | [] => by simp [V.underAll]
  | p :: r => by rw [List.map_cons]; simp only [V.underAll]; exact ⟨by simp [pieceV, V.under, V.underAll], under_pieces n r⟩
noncomputable def cutS : List Int → List UInt8 → List (List UInt8 × List UInt8) × List UInt8
  | [], r => ([], r)
  | n :: ns, r => if r = [] then ([], []) else ((r.take n.toNat, []) :: (cutS ns (r.drop n.toNat)).1, (cutS ns (r.drop n.toNat)).2)
theorem cutS_nil (ns : List Int) : cutS ns [] = ([], []) := by
  cases ns <;> rfl
noncomputable def cutV (l : Nat) (o : List UInt8) (w : List (List UInt8 × List UInt8) × List UInt8) : V := .tup [.loc l, .int ((o.length : Int) - (w.2.length : Int) + 1), .bool (decide (w.2 ≠ []))]
noncomputable def cutR (o : List UInt8) (b : Int) (w : List (List UInt8 × List UInt8) × List UInt8) (σ : Sto) : Option (V × Sto) :=
  if 1 ≤ b ∧ b ≤ o.length then some (cutV σ.length o w, σ ++ [.list (w.1.map pieceV)]) else some (.tup [.loc σ.length, .int b, .bool true], σ ++ [.list []])
noncomputable def s_cut : Spec := fun ds σ => a3 ds fun x y z => vB x fun o => vL y fun l => vI z fun b => sL σ l fun xs => vo (intsOf xs) fun ns => if o.length ≤ 1000 ∧ (∀ n ∈ ns, 0 ≤ n) ∧ ns.length ≤ 1000 then cutR o b (cutS ns (o.drop (b - 1).toNat)) σ else none
theorem cut_of {o : List UInt8} {l : Nat} {b : Int} {xs : List V} {ns : List Int} {σ : Sto} (he : σ[l]? = some (.list xs)) (hm : intsOf xs = some ns) (h : o.length ≤ 1000 ∧ (∀ n ∈ ns, 0 ≤ n) ∧ ns.length ≤ 1000) : s_cut [.bytes o, .loc l, .int b] σ = cutR o b (cutS ns (o.drop (b - 1).toNat)) σ := (sL_of he).trans ((vo_of hm).trans (if_pos h))
theorem under_snoc {σ : Sto} {c : Cell} (hu : Und σ) (hc : c.under (σ.length + 1)) : Und (σ ++ [c]) := fun c' h => by
  have hl : (σ ++ [c]).length = σ.length + 1 := by rw [List.length_append]; rfl
  rw [hl]
  rcases List.mem_append.mp h with q | q
  · exact Cell.under_le (Nat.le_succ _) (hu c' q)
  · rw [List.mem_singleton.mp q]; exact hc
theorem le_snoc (σ : Sto) (c : Cell) : σ.length ≤ (σ ++ [c]).length := by rw [List.length_append]; exact Nat.le_add_right ..
theorem cutV_under {n l : Nat} {o : List UInt8} {w : List (List UInt8 × List UInt8) × List UInt8} (h : l < n) : V.under n (cutV l o w) := by simp [cutV, V.under, V.underAll, h]
theorem drop_ne {o : List UInt8} {p : Nat} (h : p < o.length) : o.drop p ≠ [] := fun z => by
  have := congrArg List.length z
  rw [List.length_drop, List.length_nil] at this
  lia
theorem cut_done {l : Nat} {o : List UInt8} {ps : List (List UInt8 × List UInt8)} {p : Nat} (h : p ≤ o.length) : cutV l o (ps, o.drop p) = .tup [.loc l, .int ((p : Int) + 1), .bool (decide ((p : Int) < o.length))] := by
  unfold cutV
  dsimp only
  rw [show (o.length : Int) - ((o.drop p).length : Int) + 1 = (p : Int) + 1 by rw [List.length_drop]; lia]
  by_cases hp : p < o.length
  · rw [decide_eq_true (drop_ne hp), decide_eq_true (by lia)]
  · rw [List.drop_of_length_le (by lia), decide_eq_false (by simp), decide_eq_false (by lia)]
theorem intsOf_inv : ∀ {ds : List V} {ns : List Int}, intsOf ds = some ns → ds = ns.map V.int
  | [], _, h => by cases h; rfl
  | d :: ds, _, h => by
    obtain ⟨n, ns', rfl, h1, rfl⟩ := intsOf_cons h
    rw [intsOf_inv h1]; rfl
theorem append_last {σ : Sto} {xs ys : List V} {d : V} (h2 : xs.length < 1000000) (h : xs ++ [d] = ys) : s_append [.loc σ.length, d] (σ ++ [.list xs]) = some (.none, σ ++ [.list ys]) := by
  rw [append_of (get_last σ _) h2, set_last, h]
theorem snoc_pieces (ps : List (List UInt8 × List UInt8)) (x y : List UInt8) : ps.map pieceV ++ [.tup [.bytes x, .bytes y]] = (ps ++ [(x, y)]).map pieceV := by rw [List.map_append]; rfl
noncomputable def stepP (o : List UInt8) (p : Nat) (n : Int) : Nat := if (o.length : Int) < (p : Int) + n then o.length else p + n.toNat
theorem cutS_step {o : List UInt8} {p : Nat} {n : Int} {ns : List Int} (hp : p < o.length) : cutS (n :: ns) (o.drop p) = (((o.drop p).take n.toNat, []) :: (cutS ns (o.drop (stepP o p n))).1, (cutS ns (o.drop (stepP o p n))).2) := by
  have e1 : (o.drop p).drop n.toNat = o.drop (stepP o p n) := by
    rw [List.drop_drop]
    unfold stepP
    split
    · rw [List.drop_of_length_le (by lia), List.drop_of_length_le (Nat.le_refl _)]
    · rfl
  rw [cutS, if_neg (drop_ne hp), e1]
theorem stepP_le {o : List UInt8} {p : Nat} {n : Int} (h : 0 ≤ n) (_hp : p ≤ o.length) : stepP o p n ≤ o.length := by unfold stepP; split <;> omega
theorem min_step {o : List UInt8} {p : Nat} {n : Int} {σ : Sto} (h : 0 ≤ n) : sMin [.int (p + n), .int o.length] σ = some (.int (stepP o p n : Nat), σ) := by
  have : (if (o.length : Int) < (p : Int) + n then (o.length : Int) else (p : Int) + n) = ((stepP o p n : Nat) : Int) := by unfold stepP; split <;> lia
  rw [← this]; rfl
theorem d_cut {prog : Program} : CallOk prog KK 4 (.ref 118) s_cut := by
  refine' defOk (f := 118) ["octets", "sizes", "begin"] 5 (by intro P; k_is) (by intro P; k_is) (bind3 fun _ _ _ => rfl) ?body (Runs.meets ⟨fun ds σ hu hd => Sat.a3 fun x y z e1 => .B fun o e2 => .L fun l e3 => .I fun b e4 => .sL fun xs he => .o fun ns hns => .fi fun ⟨hl, hall, hn⟩ => .ite (fun hb => .ok ?_) fun hb => .ok ?_⟩) (by decide +kernel) rfl rfl rfl
  case body => conv => { arg 4; whnf }; conv => { arg 5; whnf }; repeat' (with_reducible show (_ : Prop); first
   | (show JE _ _ _ _ (Expr.Name _ _) _; refine' W_local (by first | ((repeat first | exact At.here | apply At.there); done) | fail) (by decide +kernel) (by decide +kernel))
   | (show JE _ _ _ _ (Expr.Constant _ _ _) _; first | exact JE_int _ | exact JE_bool _ | refine' JE_bytes _ (by decide))
   | (show JE _ _ _ _ (Expr.Call (Expr.Attribute _ _ _) _ _ _) _; refine' W_append ?_ ?_ (by intro _; with_unfolding_all rfl) (by intro _; with_unfolding_all rfl) (by with_unfolding_all rfl) (by intro _; with_unfolding_all rfl) (by intro _; with_unfolding_all rfl))
   | (show JE _ _ _ _ (Expr.Call _ _ _ _) _; refine' W_callB (by first | ((repeat first | exact At.here | apply At.there); done) | fail) (by intro P; k_is) (by first | exact PySem.boot_len | exact boot_min | fail) (by decide +kernel) (by decide +kernel) (by first | exact cLen | exact cMin | fail) ?_ (by intro _; with_unfolding_all rfl) (by intro _; with_unfolding_all rfl))
   | (show JE _ _ _ _ _ _; first | refine' JE_bin ?_ ?_ | refine' JE_slice ?_ ?_ ?_ | refine' JE_tuple ?_ | refine' JE_list ?_ | refine' JE_cmpS ?_ ?_ (by with_unfolding_all rfl))
   | exact JA_nil
   | refine' JA_cons ?_ ?_ (by intro _; with_unfolding_all rfl)
   | exact JXs_nil
   | refine' JXs_cons ?_ ?_
   | (show JX _ _ _ _ (Stmt.Assign _ _ _) _; first | refine' W_store ?_ (by first | ((repeat first | exact At.here | apply At.there); done) | fail) (by intro _; with_unfolding_all rfl) | refine' W_swap2 ?_ (by first | ((repeat first | exact At.here | apply At.there); done) | fail) (by first | ((repeat first | exact At.here | apply At.there); done) | fail) (by intro _; with_unfolding_all rfl) (by intro env O; obtain ⟨scp, b, c, d, e, f, g, h, i⟩ := env; have hs := O.scp; dsimp only at hs; subst hs; with_unfolding_all rfl))
   | (show JX _ _ _ _ _ _; first | refine' W_expr ?_ (by intro _; with_unfolding_all rfl) | refine' JX_return ?_ | refine' JX_if ?_ ?_ ?_ | refine' JX_for ?_ ?_ ?_ (by intro _ _; with_unfolding_all rfl))
   | (show JT _ _ _ _ _ _; first | refine' JT_cmpS ?_ ?_ (by with_unfolding_all rfl) | refine' JT_chain2 ?_ ?_ ?_ (by with_unfolding_all rfl) (by with_unfolding_all rfl) | refine' JT_not ?_)
   | (show JS _ _ _ _ _ _; refine' JS_local (by first | ((repeat first | exact At.here | apply At.there); done) | fail))
   | refine' JP_some ?_)
  · subst e1 e2 e3 e4
    obtain ⟨hb1, hb2⟩ := hb
    obtain rfl := intsOf_inv hns
    have hb0 : b - 1 = ((b - 1).toNat : Int) := by lia
    refine .leave rfl (le_snoc _ _) (under_snoc hu (under_pieces _ _)) (cutV_under (by rw [List.length_append]; exact Nat.lt_succ_self _)) (.of (b_seq (b_iff (b_bind (b_bind rfl (b_bind rfl (b_iet rfl (decide_eq_true hb1) (b_bind (b_bind rfl rfl) rfl)))) rfl) (by rw [decide_eq_true hb2]; rfl) rfl) (b_seq (b_bind (b_bind (b_bind rfl rfl) rfl) rfl) (b_into rfl (b_into (b_sto (src_list (get_left he _))) rfl)))) ?_)
    rw [list_items, list_ok]
    refine for_use (ι := List Int × List (List UInt8 × List UInt8) × Nat × Option V) (fun i => i.1.map V.int) (fun i => [some (.bytes o), some (.loc l), some (.int b), some (.loc σ.length), some (.int (i.2.2.1 : Nat)), i.2.2.2, none, none]) (fun i => σ ++ [.list (i.2.1.map pieceV)]) (fun i => (∀ n ∈ i.1, 0 ≤ n) ∧ i.2.1.length + i.1.length ≤ 1000 ∧ i.2.2.1 ≤ o.length ∧ cutS ns (o.drop (b - 1).toNat) = (i.2.1 ++ (cutS i.1 (o.drop i.2.2.1)).1, (cutS i.1 (o.drop i.2.2.1)).2)) (ns, [], (b - 1).toNat, none) rfl (by rw [hb0]; rfl) rfl ⟨hall, by simpa using hn, by dsimp only; lia, by simp⟩ ?_
    rintro ⟨ns', ps, p, x⟩ ⟨h1, h2, h3, h4⟩
    dsimp only at h1 h2 h3 h4
    cases ns' with
    | nil =>
      rw [h4]
      refine .nil rfl (get_left he _) ?_
      rw [show cutS [] (o.drop p) = ([], o.drop p) from rfl, List.append_nil, cut_done h3]
      exact .ret (b_bind rfl rfl)
    | cons n ns' =>
      have hn0 := h1 n (List.mem_cons_self ..)
      rw [List.length_cons] at h2
      by_cases hp : p < o.length
      · rw [cutS_step hp] at h4
        have h5 : slOk (some (p : Int)) (some ((p : Int) + n)) = true := by
          have q1 : (0 : Int) ≤ p := by lia
          have q2 : (0 : Int) ≤ p + n := by lia
          simp [slOk, q1, q2]
        have h6 : sl o (some (p : Int)) (some ((p : Int) + n)) = (o.drop p).take n.toNat := by
          show (o.drop p).take (((p : Int) + n).toNat - p) = _
          rw [show ((p : Int) + n).toNat - p = n.toNat by lia]
        refine .next (ns', ps ++ [((o.drop p).take n.toNat, [])], stepP o p n, some (.int n)) rfl (get_left he _) rfl ?_ rfl ⟨fun k hk => h1 k (List.mem_cons_of_mem _ hk), by rw [List.length_append, List.length_singleton]; dsimp only; lia, stepP_le hn0 h3, by rw [h4, List.append_assoc]; rfl⟩
        have h7 := append_last (σ := σ) (xs := ps.map pieceV) (by rw [List.length_map]; lia) (snoc_pieces ps ((o.drop p).take n.toNat) [])
        exact b_seq (b_ift (b_bind rfl (b_bind (b_bind rfl rfl) rfl)) (decide_eq_true (by dsimp only; lia)) (b_seq (b_bind (b_bind rfl (b_bind (b_sto (is_list (get_last ..))) (b_bind (b_bind (b_bind (b_bind (b_bind rfl (b_bind rfl (b_bind rfl (b_sliceE h5 h6)))) rfl) rfl) rfl) (b_call h7)))) rfl) (b_seq (b_bind (b_bind rfl (b_call (min_step hn0))) rfl) rfl))) rfl
      · have hz : o.drop p = [] := List.drop_of_length_le (by lia)
        refine .next (ns', ps, p, some (.int n)) rfl (get_left he _) rfl ?_ rfl ⟨fun k hk => h1 k (List.mem_cons_of_mem _ hk), by dsimp only; lia, h3, by rw [h4, hz, cutS_nil, cutS_nil]⟩
        exact b_seq (b_iff (b_bind rfl (b_bind (b_bind rfl rfl) rfl)) (decide_eq_false (by dsimp only; lia)) rfl) rfl
  · subst e1 e2 e3 e4
    refine .leave rfl (le_snoc _ _) (under_snoc hu trivial) (by simp [V.under, V.underAll]) ?_
    by_cases h1 : 1 ≤ b
    · exact .ret (b_ift (b_bind (b_bind rfl (b_bind rfl (b_iet rfl (decide_eq_true h1) (b_bind (b_bind rfl rfl) rfl)))) rfl) (by rw [decide_eq_false (fun h => hb ⟨h1, h⟩)]; rfl) (b_seqr (b_bind (b_bind (b_bind rfl rfl) rfl) rfl)))
    · exact .ret (b_ift (b_bind (b_bind rfl (b_bind rfl (b_ief rfl (decide_eq_false h1) rfl))) rfl) rfl (b_seqr (b_bind (b_bind (b_bind rfl rfl) rfl) rfl)))
noncomputable def unS (ms : List (UInt8 × Bool)) : Nat → List UInt8 → List (List UInt8 × List UInt8) × List UInt8
  | 0, r => ([], r)
  | n + 1, r => if r = [] then ([], []) else (((nextS ms r).1, (nextS ms r).2.1) :: (unS ms n (nextS ms r).2.2).1, (unS ms n (nextS ms r).2.2).2)
theorem unS_nil (ms : List (UInt8 × Bool)) (n : Nat) : unS ms n [] = ([], []) := by cases n <;> rfl
theorem dropWhile_drop {p : UInt8 → Bool} (l : List UInt8) : ∃ q, q ≤ l.length ∧ l.dropWhile p = l.drop q := by
  refine ⟨(l.takeWhile p).length, ?_, ?_⟩
  · have := dropWhile_len (p := p) l; lia
  · induction l with
    | nil => rfl
    | cons a r ih =>
      rw [List.dropWhile_cons, List.takeWhile_cons]
      split
      · rw [List.length_cons, List.drop_succ_cons]; exact ih
      · rfl
theorem nextS_drop (ms : List (UInt8 × Bool)) : ∀ l : List UInt8, ∃ q, q ≤ l.length ∧ (nextS ms l).2.2 = l.drop q
  | [] => ⟨0, Nat.le_refl _, rfl⟩
  | a :: r => by
    unfold nextS
    split
    · rename_i p _
      by_cases hp : p.2 = true
      · obtain ⟨q, h1, h2⟩ := dropWhile_drop (p := (· == p.1)) r
        exact ⟨q + 1, by rw [List.length_cons]; lia, by rw [if_pos hp, h2, List.drop_succ_cons]⟩
      · exact ⟨1, by rw [List.length_cons]; lia, by rw [if_neg hp]; rfl⟩
    · obtain ⟨q, h1, h2⟩ := nextS_drop ms r
      exact ⟨q + 1, by rw [List.length_cons]; lia, by rw [h2, List.drop_succ_cons]⟩
noncomputable def s_unstrung : Spec := fun ds σ => a4 ds fun x y z w => vB x fun o => vL y fun l => vI z fun b => vI w fun many => sL σ l fun xs => vo (marksOf xs) fun ms => if 0 ≤ many ∧ many ≤ 1000 ∧ o.length ≤ 1000 then cutR o b (unS ms many.toNat (o.drop (b - 1).toNat)) σ else none
theorem unstrung_of {o : List UInt8} {l : Nat} {b many : Int} {xs : List V} {ms : List (UInt8 × Bool)} {σ : Sto} (he : σ[l]? = some (.list xs)) (hm : marksOf xs = some ms) (h : 0 ≤ many ∧ many ≤ 1000 ∧ o.length ≤ 1000) : s_unstrung [.bytes o, .loc l, .int b, .int many] σ = cutR o b (unS ms many.toNat (o.drop (b - 1).toNat)) σ := (sL_of he).trans ((vo_of hm).trans (if_pos h))
theorem d_unstrung {prog : Program} : CallOk prog KK 5 (.ref 111) s_unstrung := by
  refine' defOk (f := 111) ["octets", "delimiters", "begin", "many"] 6 (by intro P; k_is) (by intro P; k_is) (bind4 fun _ _ _ _ => rfl) ?body (Runs.meets ⟨fun ds σ hu hd => Sat.a4 fun x y z w e1 => .B fun o e2 => .L fun l e3 => .I fun b e4 => .I fun many e5 => .sL fun xs he => .o fun ms hms => .fi fun ⟨hm0, hm1, hl⟩ => .ite (fun hb => .ok ?_) fun hb => .ok ?_⟩) (by decide +kernel) rfl rfl rfl
  case body => conv => { arg 4; whnf }; conv => { arg 5; whnf }; repeat' (with_reducible show (_ : Prop); first
   | (show JE _ _ _ _ (Expr.Name _ _) _; refine' W_local (by first | ((repeat first | exact At.here | apply At.there); done) | fail) (by decide +kernel) (by decide +kernel))
   | (show JE _ _ _ _ (Expr.Constant _ _ _) _; first | exact JE_int _ | exact JE_bool _)
   | (show JE _ _ _ _ (Expr.Call (Expr.Attribute _ _ _) _ _ _) _; refine' W_append ?_ ?_ (by intro _; with_unfolding_all rfl) (by intro _; with_unfolding_all rfl) (by with_unfolding_all rfl) (by intro _; with_unfolding_all rfl) (by intro _; with_unfolding_all rfl))
   | (show JE _ _ _ _ (Expr.Call _ _ _ _) _; first | refine' W_callB (by first | ((repeat first | exact At.here | apply At.there); done) | fail) (by intro P; k_is) (by first | exact PySem.boot_len | fail) (by decide +kernel) (by decide +kernel) (by first | exact cLen | fail) ?_ (by intro _; with_unfolding_all rfl) (by intro _; with_unfolding_all rfl) | refine' W_call (by first | ((repeat first | exact At.here | apply At.there); done) | fail) (by intro P; k_is) (by decide +kernel) (by intro P; k_is) (by first | exact callOk_le d_next (by decide) | fail) ?_ (by intro _; with_unfolding_all rfl) (by intro _; with_unfolding_all rfl))
   | (show JE _ _ _ _ _ _; first | refine' JE_bin ?_ ?_ | refine' JE_tuple ?_ | refine' JE_list ?_ | refine' JE_cmpS ?_ ?_ (by with_unfolding_all rfl))
   | exact JA_nil
   | refine' JA_cons ?_ ?_ (by intro _; with_unfolding_all rfl)
   | exact JXs_nil
   | refine' JXs_cons ?_ ?_
   | (show JX _ _ _ _ (Stmt.Assign _ _ _) _; first | refine' W_swap2 ?_ (by first | ((repeat first | exact At.here | apply At.there); done) | fail) (by first | ((repeat first | exact At.here | apply At.there); done) | fail) (by intro _; with_unfolding_all rfl) (by intro env O; obtain ⟨scp, b, c, d, e, f, g, h, i⟩ := env; have hs := O.scp; dsimp only at hs; subst hs; with_unfolding_all rfl) | refine' JX_assignTup ?_ ?_ (by intro _; with_unfolding_all rfl) (by intro env O; obtain ⟨scp, b, c, d, e, f, g, h, i⟩ := env; have hs := O.scp; dsimp only at hs; subst hs; with_unfolding_all rfl))
   | (show JX _ _ _ _ _ _; first | refine' W_expr ?_ (by intro _; with_unfolding_all rfl) | refine' JX_return ?_ | refine' JX_if ?_ ?_ ?_ | refine' JX_while big ?_ ?_)
   | (show JT _ _ _ _ _ _; first | refine' JT_cmpS ?_ ?_ (by with_unfolding_all rfl) | refine' JT_chain2 ?_ ?_ ?_ (by with_unfolding_all rfl) (by with_unfolding_all rfl) | refine' JT_not ?_ | refine' JT_bool ?_)
   | (show JS _ _ _ _ _ _; first | refine' JS_local (by first | ((repeat first | exact At.here | apply At.there); done) | fail) | refine' JS_tuple ?_)
   | refine' JSs_cons ?_ ?_ (by intro _; with_unfolding_all rfl)
   | exact JSs_nil
   | refine' JB_and ?_ ?_
   | exact JB_andNil)
  · subst e1 e2 e3 e4 e5
    obtain ⟨hb1, hb2⟩ := hb
    obtain ⟨k0, rfl⟩ := Int.eq_ofNat_of_zero_le hm0
    have hb0 : b - 1 = ((b - 1).toNat : Int) := by lia
    refine .leave rfl (le_snoc _ _) (under_snoc hu (under_pieces _ _)) (cutV_under (by rw [List.length_append]; exact Nat.lt_succ_self _)) (.of (b_seq (b_iff (b_bind (b_bind rfl (b_bind rfl (b_iet rfl (decide_eq_true hb1) (b_bind (b_bind rfl rfl) rfl)))) rfl) (by rw [decide_eq_true hb2]; rfl) rfl) (b_seq (b_bind (b_bind (b_bind rfl rfl) rfl) rfl) rfl)) ?_)
    refine wh_use (ι := Nat × List (List UInt8 × List UInt8) × Nat × Option V × Option V) (fun i => i.1) (fun i => [some (.bytes o), some (.loc l), some (.int b), some (.int k0), some (.loc σ.length), some (.int (i.2.2.1 : Nat)), i.2.2.2.1, i.2.2.2.2, none, none]) (fun i => σ ++ [.list (i.2.1.map pieceV)]) (fun i => i.2.1.length + i.1 = k0 ∧ i.2.2.1 ≤ o.length ∧ unS ms k0 (o.drop (b - 1).toNat) = (i.2.1 ++ (unS ms i.1 (o.drop i.2.2.1)).1, (unS ms i.1 (o.drop i.2.2.1)).2)) (k0, [], (b - 1).toNat, none, none) (by unfold big; dsimp only; lia) (by rw [hb0]; rfl) rfl ⟨by simp, by dsimp only; lia, by simp⟩ ?_
    rintro ⟨k, ps, p, x, y⟩ ⟨h2, h3, h4⟩
    dsimp only at h2 h3 h4
    have hlen := len_list (get_last σ (.list (ps.map pieceV)))
    rw [List.length_map] at hlen
    rw [Int.toNat_natCast, h4]
    cases k with
    | zero =>
      refine .stop (b_ief (b_bind (b_bind rfl (b_call hlen)) rfl) (decide_eq_false (by lia)) rfl) rfl ?_
      rw [show unS ms 0 (o.drop p) = ([], o.drop p) from rfl, List.append_nil, cut_done h3]
      exact .ret (b_bind rfl rfl)
    | succ k =>
      have hk : ((ps.length : Nat) : Int) < ((k0 : Nat) : Int) := by lia
      by_cases hp : p < o.length
      · obtain ⟨q, q6, q7⟩ := nextS_drop ms (o.drop p)
        rw [List.length_drop] at q6
        rw [List.drop_drop] at q7
        have q8 : (o.length : Int) - ((nextS ms (o.drop p)).2.2.length : Int) = ((p + q : Nat) : Int) := by
          rw [q7, List.length_drop]; lia
        have hx := next_of (b := (p : Int)) (get_left he (.list (ps.map pieceV))) hms ⟨by lia, h3, hl⟩
        rw [nextV, Int.toNat_natCast, q8] at hx
        have h7 := append_last (σ := σ) (xs := ps.map pieceV) (by rw [List.length_map]; lia) (snoc_pieces ps (nextS ms (o.drop p)).1 (nextS ms (o.drop p)).2.1)
        refine .next (k, ps ++ [((nextS ms (o.drop p)).1, (nextS ms (o.drop p)).2.1)], p + q, some (.bytes (nextS ms (o.drop p)).1), some (.bytes (nextS ms (o.drop p)).2.1)) (b_iet (b_bind (b_bind rfl (b_call hlen)) rfl) (decide_eq_true hk) (b_iet (b_bind rfl (b_bind (b_bind rfl rfl) rfl)) (decide_eq_true (by dsimp only; lia)) rfl)) rfl ?_ (Nat.lt_succ_self k) ⟨by rw [List.length_append, List.length_singleton]; dsimp only; lia, by dsimp only; lia, by rw [unS, if_neg (drop_ne hp), q7, List.append_assoc]; rfl⟩
        exact b_seq (b_bind (b_bind rfl (b_call hx)) rfl) (b_seq (b_bind (b_bind rfl (b_bind (b_sto (is_list (get_last ..))) (b_bind rfl (b_call h7)))) rfl) rfl)
      · refine .stop (b_iet (b_bind (b_bind rfl (b_call hlen)) rfl) (decide_eq_true hk) (b_ief (b_bind rfl (b_bind (b_bind rfl rfl) rfl)) (decide_eq_false (by dsimp only; lia)) rfl)) rfl ?_
        rw [show unS ms (k + 1) (o.drop p) = ([], o.drop p) by rw [List.drop_of_length_le (Nat.le_of_not_lt hp), unS_nil], List.append_nil, cut_done h3]
        exact .ret (b_bind rfl rfl)
  · subst e1 e2 e3 e4 e5
    refine .leave rfl (le_snoc _ _) (under_snoc hu trivial) (by simp [V.under, V.underAll]) ?_
    by_cases h1 : 1 ≤ b
    · exact .ret (b_ift (b_bind (b_bind rfl (b_bind rfl (b_iet rfl (decide_eq_true h1) (b_bind (b_bind rfl rfl) rfl)))) rfl) (by rw [decide_eq_false (fun h => hb ⟨h1, h⟩)]; rfl) (b_seqr (b_bind (b_bind (b_bind rfl rfl) rfl) rfl)))
    · exact .ret (b_ift (b_bind (b_bind rfl (b_bind rfl (b_ief rfl (decide_eq_false h1) rfl))) rfl) rfl (b_seqr (b_bind (b_bind (b_bind rfl rfl) rfl) rfl)))
noncomputable def rowOf (d : V) : Option (List UInt8) := vT d fun l => a2 l fun x y => vB x fun o => if o.length ≤ 1000 then vN y (some o) (vO y fun m => some (o.takeWhile (· != m))) else none
noncomputable def rowsOf : List V → Option (List (List UInt8))
  | [] => some []
  | d :: r => vo (rowOf d) fun p => (rowsOf r).map (p :: ·)
theorem takeWhile_len {p : UInt8 → Bool} (l : List UInt8) : (l.takeWhile p).length ≤ l.length := (List.takeWhile_sublist p).length_le
theorem vN_some {β : Type} {a : V} {x y : Option β} {c : β} (h : vN a x y = some c) : (a = .none ∧ x = some c) ∨ y = some c := by
  unfold vN at h
  split at h
  · exact .inl ⟨rfl, h⟩
  · exact .inr h
theorem rowOf_sent {d : V} {p : List UInt8} (h : rowOf d = some p) : ∃ a b, d = .tup [a, b] ∧ (∀ σ, s_sent [a, b] σ = some (.bytes p, σ)) ∧ p.length ≤ 1000 := by
  obtain ⟨l, rfl, h1⟩ := vT_some h
  obtain ⟨x, y, rfl, h2⟩ := a2_some h1
  obtain ⟨o, rfl, h3⟩ := vB_some h2
  have h4 : (if o.length ≤ 1000 then vN y (some o) (vO y fun m => some (o.takeWhile (· != m))) else none) = some p := h3
  by_cases hl : o.length ≤ 1000
  case neg => rw [if_neg hl] at h4; cases h4
  rw [if_pos hl] at h4
  refine ⟨.bytes o, y, rfl, ?_⟩
  rcases vN_some h4 with ⟨rfl, h5⟩ | h5
  · cases h5
    exact ⟨fun _ => rfl, hl⟩
  · obtain ⟨m, rfl, h6⟩ := vO_some h5
    cases h6
    exact ⟨fun σ => if_pos hl, Nat.le_trans (takeWhile_len o) hl⟩
theorem rowsOf_cons {d : V} {ds : List V} {ps : List (List UInt8)} (h : rowsOf (d :: ds) = some ps) : ∃ p ps', rowOf d = some p ∧ rowsOf ds = some ps' ∧ ps = p :: ps' := by
  obtain ⟨p, h1, h2⟩ := vo_some h
  obtain ⟨r, e1, e2⟩ := Option.map_eq_some_iff.mp h2
  exact ⟨p, r, h1, e1, e2.symm⟩
noncomputable def layG (x g : List UInt8) (p : Nat) : List UInt8 := g.take p ++ x.take (g.length - p) ++ g.drop (p + (x.take (g.length - p)).length)
noncomputable def strS : List (List UInt8) → List UInt8 → Nat → List UInt8 × Nat × Bool
  | [], g, p => (g, p, false)
  | x :: xs, g, p =>
    if (x.take (g.length - p)).length < x.length then (layG x g p, p + (x.take (g.length - p)).length, true)
    else strS xs (layG x g p) (p + (x.take (g.length - p)).length)
theorem lay_len (g x : List UInt8) (p : Nat) (h : p ≤ g.length) : (layG x g p).length = g.length ∧ p + (x.take (g.length - p)).length ≤ g.length := by
  simp only [layG, List.length_append, List.length_take, List.length_drop]
  lia
noncomputable def strV (w : List UInt8 × Nat × Bool) : V := .tup [.bytes w.1, .int ((w.2.1 : Int) + 1), .bool w.2.2]
noncomputable def strR (g : List UInt8) (b : Int) (ps : List (List UInt8)) : V := if 1 ≤ b ∧ b ≤ g.length then strV (strS ps g (b - 1).toNat) else .tup [.bytes g, .int b, .bool true]
noncomputable def s_strung : Spec := fun ds σ => a3 ds fun x y z => vL x fun l => vB y fun g => vI z fun b => sL σ l fun xs => vo (rowsOf xs) fun ps => if g.length ≤ 1000 then if 1 ≤ b ∧ b ≤ g.length then some (strV (strS ps g (b - 1).toNat), σ) else some (.tup [.bytes g, .int b, .bool true], σ) else none
theorem strung_of {g : List UInt8} {l : Nat} {b : Int} {xs : List V} {ps : List (List UInt8)} {σ : Sto} (he : σ[l]? = some (.list xs)) (hm : rowsOf xs = some ps) (h : g.length ≤ 1000) : s_strung [.loc l, .bytes g, .int b] σ = some (strR g b ps, σ) := (sL_of he).trans ((vo_of hm).trans ((if_pos h).trans (by unfold strR; split <;> rfl)))
theorem v_cat {x y : List UInt8} (h : x.length + y.length ≤ 16777216) : vbin .Add (.bytes x) (.bytes y) = some (.bytes (x ++ y)) := if_pos h
abbrev SgI : Type := List V × List (List UInt8) × List UInt8 × Nat × Option V × Option V × Option V × Option V × Option V
noncomputable def sgL (l : Nat) (b : Int) (i : SgI) : Loc := [some (.loc l), some (.bytes i.2.2.1), some (.int b), some (.int ((i.2.2.2.1 : Int) + 1)), i.2.2.2.2.1, i.2.2.2.2.2.1, i.2.2.2.2.2.2.1, i.2.2.2.2.2.2.2.1, i.2.2.2.2.2.2.2.2, none, none]
abbrev sgW (ps : List (List UInt8)) (g : List UInt8) (b : Int) (i : SgI) : Prop := rowsOf i.1 = some i.2.1 ∧ i.2.2.2.1 ≤ i.2.2.1.length ∧ i.2.2.1.length = g.length ∧ strS ps g (b - 1).toNat = strS i.2.1 i.2.2.1 i.2.2.2.1
theorem d_strung {prog : Program} : CallOk prog KK 5 (.ref 83) s_strung := by
  refine' defOk (f := 83) ["rows", "goal", "begin"] 8 (by intro P; k_is) (by intro P; k_is) (bind3 fun _ _ _ => rfl) ?body (Runs.meets ⟨fun ds σ hu hd => Sat.a3 fun x y z e1 => .L fun l e2 => .B fun g e3 => .I fun b e4 => .sL fun xs he => .o fun ps hps => .fi fun hl => .ite (fun hb => .ok ?_) fun hb => .ok ?_⟩) (by decide +kernel) rfl rfl rfl
  case body => conv => { arg 4; whnf }; conv => { arg 5; whnf }; repeat' (with_reducible show (_ : Prop); first
   | (show JE _ _ _ _ (Expr.Name _ _) _; refine' W_local (by first | ((repeat first | exact At.here | apply At.there); done) | fail) (by decide +kernel) (by decide +kernel))
   | (show JE _ _ _ _ (Expr.Constant _ _ _) _; first | exact JE_int _ | exact JE_bool _)
   | (show JE _ _ _ _ (Expr.Call _ _ _ _) _; first | refine' W_callB (by first | ((repeat first | exact At.here | apply At.there); done) | fail) (by intro P; k_is) (by first | exact PySem.boot_len | fail) (by decide +kernel) (by decide +kernel) (by first | exact cLen | fail) ?_ (by intro _; with_unfolding_all rfl) (by intro _; with_unfolding_all rfl) | refine' W_call (by first | ((repeat first | exact At.here | apply At.there); done) | fail) (by intro P; k_is) (by decide +kernel) (by intro P; k_is) (by first | exact callOk_le d_sent (by decide) | fail) ?_ (by intro _; with_unfolding_all rfl) (by intro _; with_unfolding_all rfl))
   | (show JE _ _ _ _ _ _; first | refine' JE_bin ?_ ?_ | refine' JE_slice ?_ ?_ ?_ | refine' JE_tuple ?_)
   | exact JA_nil
   | refine' JA_cons ?_ ?_ (by intro _; with_unfolding_all rfl)
   | exact JXs_nil
   | refine' JXs_cons ?_ ?_
   | (show JX _ _ _ _ (Stmt.Assign _ _ _) _; refine' W_store ?_ (by first | ((repeat first | exact At.here | apply At.there); done) | fail) (by intro _; with_unfolding_all rfl))
   | (show JX _ _ _ _ _ _; first | refine' JX_return ?_ | refine' JX_if ?_ ?_ ?_ | refine' JX_for ?_ ?_ ?_ (by intro _ _; with_unfolding_all rfl))
   | (show JT _ _ _ _ _ _; first | refine' JT_cmpS ?_ ?_ (by with_unfolding_all rfl) | refine' JT_chain2 ?_ ?_ ?_ (by with_unfolding_all rfl) (by with_unfolding_all rfl) | refine' JT_not ?_)
   | (show JS _ _ _ _ _ _; first | refine' JS_local (by first | ((repeat first | exact At.here | apply At.there); done) | fail) | refine' JS_tuple ?_)
   | refine' JSs_cons ?_ ?_ (by intro _; with_unfolding_all rfl)
   | exact JSs_nil
   | refine' JP_some ?_
   | exact JP_none)
  · subst e1 e2 e3 e4
    obtain ⟨hb1, hb2⟩ := hb
    have hb0 : b = ((b - 1).toNat : Int) + 1 := by lia
    refine .keep rfl hu (by simp [strV, V.under, V.underAll]) (.of (b_seq (b_iff (b_bind (b_bind rfl (b_bind rfl (b_iet rfl (decide_eq_true hb1) (b_bind (b_bind rfl rfl) rfl)))) rfl) (by rw [decide_eq_true hb2]; rfl) rfl) (b_seq rfl (b_into rfl (b_into (b_sto (src_list he)) rfl)))) ?_)
    rw [list_items, list_ok]
    refine for_use (ι := SgI) (fun i => i.1) (sgL l b) (fun _ => σ) (sgW ps g b) (xs, ps, g, (b - 1).toNat, none, none, none, none, none) rfl (by unfold sgL; dsimp only; rw [← hb0]; rfl) rfl ⟨hps, by dsimp only; lia, rfl, rfl⟩ ?_
    rintro ⟨ds, ps', g', p, x1, x2, x3, x4, x5⟩ ⟨h1, h2, h3, h4⟩
    dsimp only at h1 h2 h3 h4
    rw [h4]
    cases ds with
    | nil => cases h1; exact .nil rfl he (.ret (b_bind (b_bind rfl rfl) rfl))
    | cons d ds =>
      obtain ⟨q, ps'', h6, h7, rfl⟩ := rowsOf_cons h1
      obtain ⟨a1, a2, rfl, h8, h9⟩ := rowOf_sent h6
      obtain ⟨h10, h11⟩ := lay_len g' q p h2
      have r0 : (0 : Int) ≤ (g'.length : Int) + 1 - ((p : Int) + 1) := by lia
      have r1 : slOk none (some ((g'.length : Int) + 1 - ((p : Int) + 1))) = true := by simp only [slOk, Option.all, r0, decide_true, Bool.and_self]
      have r2 : sl q none (some ((g'.length : Int) + 1 - ((p : Int) + 1))) = q.take (g'.length - p) := by
        show (q.drop 0).take (((g'.length : Int) + 1 - ((p : Int) + 1)).toNat - 0) = _
        rw [show ((g'.length : Int) + 1 - ((p : Int) + 1)).toNat - 0 = g'.length - p by lia]; rfl
      have r3 : slOk none (some ((p : Int) + 1 - 1)) = true := by
        have : (0 : Int) ≤ (p : Int) + 1 - 1 := by lia
        simp only [slOk, Option.all, this, decide_true, Bool.and_self]
      have r4 : sl g' none (some ((p : Int) + 1 - 1)) = g'.take p := by
        show (g'.drop 0).take (((p : Int) + 1 - 1).toNat - 0) = _
        rw [show ((p : Int) + 1 - 1).toNat - 0 = p by lia]; rfl
      have r5 : slOk (some ((p : Int) + 1 - 1 + ((q.take (g'.length - p)).length : Int))) none = true := by
        have : (0 : Int) ≤ (p : Int) + 1 - 1 + ((q.take (g'.length - p)).length : Int) := by lia
        simp only [slOk, Option.all, this, decide_true, Bool.and_self]
      have r6 : sl g' (some ((p : Int) + 1 - 1 + ((q.take (g'.length - p)).length : Int))) none = g'.drop (p + (q.take (g'.length - p)).length) := by
        show g'.drop ((p : Int) + 1 - 1 + ((q.take (g'.length - p)).length : Int)).toNat = _
        rw [show ((p : Int) + 1 - 1 + ((q.take (g'.length - p)).length : Int)).toNat = p + (q.take (g'.length - p)).length by lia]
      have r7 : vbin .Add (.bytes (g'.take p)) (.bytes (q.take (g'.length - p))) = some (.bytes (g'.take p ++ q.take (g'.length - p))) := v_cat (by simp only [List.length_take]; lia)
      have r8 : vbin .Add (.bytes (g'.take p ++ q.take (g'.length - p))) (.bytes (g'.drop (p + (q.take (g'.length - p)).length))) = some (.bytes (layG q g' p)) := v_cat (by rw [← List.length_append]; exact Nat.le_trans (Nat.le_of_eq h10) (by lia))
      have r9 : vbin .Add (.int ((p : Int) + 1)) (.int ((q.take (g'.length - p)).length : Int)) = some (.int (((p + (q.take (g'.length - p)).length : Nat) : Int) + 1)) := congrArg (fun z => some (V.int z)) (by lia)
      by_cases hc : (q.take (g'.length - p)).length < q.length
      · rw [strS, if_pos hc]
        exact .ret rfl he rfl (Rets.of (b_seq (b_bind (b_bind rfl (b_call (h8 σ))) rfl) (b_seq rfl (b_seq (b_bind (b_bind rfl (b_bind rfl (b_bind rfl (b_sliceE r1 r2)))) rfl) (b_seq (b_bind (b_bind (b_bind (b_bind rfl (b_bind rfl (b_bind rfl (b_sliceE r3 r4)))) (b_bind rfl (b_lift r7))) (b_bind (b_bind rfl (b_bind rfl (b_bind rfl (b_sliceE r5 r6)))) (b_lift r8))) rfl) (b_seq (b_bind (b_bind rfl (b_bind rfl (b_lift r9))) rfl) (b_seqr (b_ift rfl (decide_eq_true (Int.ofNat_lt.mpr hc)) (b_seqr (b_bind (b_bind rfl rfl) rfl))))))))))
      · rw [strS, if_neg hc]
        refine .next (ds, ps'', layG q g' p, p + (q.take (g'.length - p)).length, some a1, some a2, some (.bytes q), some (.int ((g'.length : Int) + 1 - ((p : Int) + 1))), some (.bytes (q.take (g'.length - p)))) rfl he rfl ?_ rfl ⟨h7, by dsimp only; rw [h10]; exact h11, h10.trans h3, h4.trans (by rw [strS, if_neg hc])⟩
        exact b_seq (b_bind (b_bind rfl (b_call (h8 σ))) rfl) (b_seq rfl (b_seq (b_bind (b_bind rfl (b_bind rfl (b_bind rfl (b_sliceE r1 r2)))) rfl) (b_seq (b_bind (b_bind (b_bind (b_bind rfl (b_bind rfl (b_bind rfl (b_sliceE r3 r4)))) (b_bind rfl (b_lift r7))) (b_bind (b_bind rfl (b_bind rfl (b_bind rfl (b_sliceE r5 r6)))) (b_lift r8))) rfl) (b_seq (b_bind (b_bind rfl (b_bind rfl (b_lift r9))) rfl) (b_seq (b_iff rfl (decide_eq_false fun z => hc (Int.ofNat_lt.mp z)) rfl) rfl)))))
  · subst e1 e2 e3 e4
    refine .keep rfl hu (by simp [V.under, V.underAll]) ?_
    by_cases h1 : 1 ≤ b
    · exact .ret (b_ift (b_bind (b_bind rfl (b_bind rfl (b_iet rfl (decide_eq_true h1) (b_bind (b_bind rfl rfl) rfl)))) rfl) (by rw [decide_eq_false (fun h => hb ⟨h1, h⟩)]; rfl) (b_seqr (b_bind (b_bind rfl rfl) rfl)))
    · exact .ret (b_ift (b_bind (b_bind rfl (b_bind rfl (b_ief rfl (decide_eq_false h1) rfl))) rfl) rfl (b_seqr (b_bind (b_bind rfl rfl) rfl)))
noncomputable def back {ι : Type} (f : ι → V) (d : V) : Option ι := by
  classical exact if h : ∃ i, d = f i then some (Classical.choose h) else none
theorem back_inv {ι : Type} {f : ι → V} {d : V} {i : ι} (h : back f d = some i) : d = f i := by
  unfold back at h
  split at h
  · rename_i q
    cases h
    exact Classical.choose_spec q
  · cases h
theorem back_of {ι : Type} {f : ι → V} (hf : ∀ i j, f i = f j → i = j) (i : ι) : back f (f i) = some i := by
  unfold back
  rw [dif_pos ⟨i, rfl⟩]
  exact congrArg some (hf _ _ (Classical.choose_spec (⟨i, rfl⟩ : ∃ j, f i = f j)).symm)
inductive Opd where
  | space | zero
  | text (b : List UInt8)
  | ref (x : Str)
noncomputable def refV (x : Str) : V := .tup [.str (Str.ofString "ref"), .str x, .tup [], .tup [], .none]
noncomputable def opV : Opd → V
  | .space => .tup [.str (Str.ofString "figure"), .str (Str.ofString "SPACE")]
  | .zero => .tup [.str (Str.ofString "figure"), .str (Str.ofString "ZERO")]
  | .text b => .tup [.str (Str.ofString "text"), .bytes b]
  | .ref x => refV x
theorem refV_inj {x y : Str} (h : refV x = refV y) : x = y := by
  simp only [refV, V.tup.injEq, List.cons.injEq, V.str.injEq, true_and, and_true] at h; exact h
theorem opV_inj (a b : Opd) (h : opV a = opV b) : a = b := by
  cases a <;> cases b <;> simp only [opV, refV, V.tup.injEq, List.cons.injEq, V.str.injEq, V.bytes.injEq, str_eq, String.reduceEq, and_false, true_and, and_true, reduceCtorEq] at h ⊢
  all_goals exact congrArg _ h
noncomputable def octOf (es : List (Str × V)) : Opd → Option (List UInt8)
  | .space => some [32]
  | .zero => some [48]
  | .text b => some b
  | .ref x => vo (valOf' es x) fun d => vB d some
noncomputable def s_ref : Spec := fun ds σ => a1 ds fun x => vS x fun x => some (refV x, σ)
theorem d_ref {prog : Program} : CallOk prog KK 2 (.ref 205) s_ref := by
  refine' defOk (f := 205) ["name"] 0 (by intro P; k_is) (by intro P; k_is) (bind1 fun _ => rfl) ?body (Runs.meets ⟨fun ds σ hu hd => Sat.a1 fun x e1 => .S fun y e2 => .ok ?_⟩) (by decide +kernel) rfl rfl rfl
  case body => conv => { arg 4; whnf }; conv => { arg 5; whnf }; repeat' (with_reducible show (_ : Prop); first
   | (show JE _ _ _ _ (Expr.Name _ _) _; refine' W_local (by first | ((repeat first | exact At.here | apply At.there); done) | fail) (by decide +kernel) (by decide +kernel))
   | (show JE _ _ _ _ (Expr.Constant _ _ _) _; first | exact JE_str _ | exact JE_none)
   | (show JE _ _ _ _ _ _; refine' JE_tuple ?_)
   | exact JA_nil
   | refine' JA_cons ?_ ?_ (by intro _; with_unfolding_all rfl)
   | exact JXs_nil
   | refine' JXs_cons ?_ ?_
   | (show JX _ _ _ _ _ _; refine' JX_return ?_))
  subst e1 e2
  exact .keep rfl hu (by simp [refV, V.under, V.underAll]) (.ret (b_bind rfl rfl))
noncomputable def s_fetch : Spec := fun ds σ => a3 ds fun x d k => vL x fun l => vI k fun k => sD σ l fun es => vo (back opV d) fun o => vo (octOf es o) fun b => if k = 1 then some (.bytes b, σ) else none
theorem fetch_of {l : Nat} {es : List (Str × V)} {o : Opd} {b : List UInt8} {σ : Sto} (he : σ[l]? = some (.dict es)) (h : octOf es o = some b) : s_fetch [.loc l, opV o, .int 1] σ = some (.bytes b, σ) := (sD_of he).trans ((vo_of (back_of opV_inj o)).trans ((vo_of h).trans (if_pos rfl)))
theorem d_fetch {prog : Program} : CallOk prog KK 2 (.ref 212) s_fetch := by
  refine' defOk (f := 212) ["items", "operand", "size"] 0 (by intro P; k_is) (by intro P; k_is) (bind3 fun _ _ _ => rfl) ?body (Runs.meets ⟨fun ds σ hu hd => Sat.a3 fun x d k e1 => .L fun l e2 => .I fun k' e3 => .sD fun es he => .o fun o ho => .o fun b hb => .fi fun hk => .ok ?_⟩) (by decide +kernel) rfl rfl rfl
  case body => conv => { arg 4; whnf }; conv => { arg 5; whnf }; repeat' (with_reducible show (_ : Prop); first
   | (show JE _ _ _ _ (Expr.Name _ _) _; refine' W_local (by first | ((repeat first | exact At.here | apply At.there); done) | fail) (by decide +kernel) (by decide +kernel))
   | (show JE _ _ _ _ (Expr.Constant _ _ _) _; first | exact JE_int _ | exact JE_str _ | refine' JE_bytes _ (by decide))
   | (show JE _ _ _ _ _ _; first | refine' JE_bin ?_ ?_ | refine' JE_sub ?_ ?_ (by intro _ _; with_unfolding_all rfl) | refine' JE_if ?_ ?_ ?_ | refine' JE_dict ?_ (by with_unfolding_all rfl) (by with_unfolding_all rfl) (List.cons_ne_nil _ _) (by decide +kernel))
   | exact JXs_nil
   | refine' JXs_cons ?_ ?_
   | (show JX _ _ _ _ _ _; first | refine' JX_return ?_ | refine' JX_if ?_ ?_ ?_)
   | (show JT _ _ _ _ _ _; refine' JT_cmpS ?_ ?_ (by with_unfolding_all rfl))
   | exact JD_nil
   | refine' JD_cons ?_ ?_)
  obtain rfl := back_inv ho
  subst e1 e2 e3 hk
  have hne : ∀ {s t : String} {σ : Sto}, s ≠ t → vcmpS .Eq (.str (Str.ofString s)) (.str (Str.ofString t)) σ = some false := fun h => congrArg some ((str_beq _ _).trans (decide_eq_false h))
  have heq : ∀ {s : String} {σ : Sto}, vcmpS .Eq (.str (Str.ofString s)) (.str (Str.ofString s)) σ = some true := fun {s σ} => congrArg some ((str_beq s s).trans (decide_eq_true rfl))
  have nd : 2 ≤ 15 ∧ ([Str.ofString "SPACE", Str.ofString "ZERO"] : List Str).Nodup := ⟨by decide, by simp [str_eq]⟩
  refine .keep rfl hu (by simp [V.under]) ?_
  cases o with
  | space =>
    cases hb
    exact .retG (b_ift (b_bind (b_bind rfl (b_bind rfl (b_sto rfl))) (b_bind rfl (b_sto heq))) rfl (b_seqr (b_bind (b_bind (b_bind (b_bind (b_bind rfl (b_bind (b_bind rfl rfl) rfl)) (b_dict nd)) (b_bind (b_bind rfl (b_bind rfl (b_sto rfl))) (b_sto (v_dict (d := .bytes [32]) (get_last ..) (if_pos rfl))))) (b_bind rfl (b_lift (by rfl)))) rfl)))
  | zero =>
    cases hb
    exact .retG (b_ift (b_bind (b_bind rfl (b_bind rfl (b_sto rfl))) (b_bind rfl (b_sto heq))) rfl (b_seqr (b_bind (b_bind (b_bind (b_bind (b_bind rfl (b_bind (b_bind rfl rfl) rfl)) (b_dict nd)) (b_bind (b_bind rfl (b_bind rfl (b_sto rfl))) (b_sto (v_dict (d := .bytes [48]) (get_last ..) ((if_neg (by simp [str_eq])).trans (if_pos rfl)))))) (b_bind rfl (b_lift (by rfl)))) rfl)))
  | text t =>
    cases hb
    exact .of (b_seq (b_iff (b_bind (b_bind rfl (b_bind rfl (b_sto rfl))) (b_bind rfl (b_sto (hne (by decide))))) rfl rfl) rfl) (.ret (b_bind (b_iet (b_bind (b_bind rfl (b_bind rfl (b_sto rfl))) (b_bind rfl (b_sto heq))) rfl (b_bind rfl (b_bind rfl (b_sto rfl)))) rfl))
  | ref x =>
    obtain ⟨d, h1, h2⟩ := vo_some hb
    obtain ⟨b', rfl, h3⟩ := vB_some h2
    cases h3
    exact .of (b_seq (b_iff (b_bind (b_bind rfl (b_bind rfl (b_sto rfl))) (b_bind rfl (b_sto (hne (by decide))))) rfl rfl) rfl) (.ret (b_bind (b_ief (b_bind (b_bind rfl (b_bind rfl (b_sto rfl))) (b_bind rfl (b_sto (hne (by decide))))) rfl (b_bind rfl (b_bind (b_bind rfl (b_bind rfl (b_sto rfl))) (b_sto (v_dict he h1))))) rfl))
noncomputable def s_put : Spec := fun ds σ => a3 ds fun t x d => vL t fun l => vS x fun x => sD σ l fun es => if es.length < 1000 then some (.none, σ.set l (.dict (dset es x d))) else none
theorem put_of {l : Nat} {x : Str} {d : V} {es : List (Str × V)} {σ : Sto} (he : σ[l]? = some (.dict es)) (h : es.length < 1000) : s_put [.loc l, .str x, d] σ = some (.none, σ.set l (.dict (dset es x d))) := (sD_of he).trans (if_pos h)
theorem d_put {prog : Program} : CallOk prog KK 2 (.ref 219) s_put := by
  refine' defOk (f := 219) ["table", "name", "worth"] 0 (by intro P; k_is) (by intro P; k_is) (bind3 fun _ _ _ => rfl) ?body (Runs.meets ⟨fun ds σ hu hd => Sat.a3 fun t x d e1 => .L fun l e2 => .S fun x e3 => .sD fun es he => .fi fun hz => .ok ?_⟩) (by decide +kernel) rfl rfl rfl
  case body => conv => { arg 4; whnf }; conv => { arg 5; whnf }; repeat' (with_reducible show (_ : Prop); first
   | (show JE _ _ _ _ (Expr.Name _ _) _; refine' W_local (by first | ((repeat first | exact At.here | apply At.there); done) | fail) (by decide +kernel) (by decide +kernel))
   | exact JXs_nil
   | refine' JXs_cons ?_ ?_
   | (show JX _ _ _ _ (Stmt.Assign _ _ _) _; refine' JX_setItem ?_ ?_ ?_ (by intro _; with_unfolding_all rfl)))
  subst e1 e2 e3
  simp only [V.underAll] at hd
  refine .leave rfl (by rw [List.length_set]; exact Nat.le_refl _) (under_set hu (dset_under (under_get hu he) hd.2.2.1)) (by simp [V.under]) ?_
  exact .of (b_seq (b_bind rfl (b_bind rfl (b_bind rfl (b_bind (b_setD he hz) rfl)))) rfl) (.fin rfl)
theorem rep_one (n : Nat) (c : UInt8) : (List.replicate n [c]).flatten = List.replicate n c := by
  induction n with
  | zero => rfl
  | succ n ih => rw [List.replicate_succ, List.flatten_cons, ih, List.replicate_succ]; rfl
noncomputable def fitS (b : List UInt8) (n : Nat) : List UInt8 := (b ++ List.replicate n 95).take n
theorem fitS_len (b : List UInt8) (n : Nat) : (fitS b n).length = n := by
  unfold fitS
  rw [List.length_take, List.length_append, List.length_replicate]
  lia
noncomputable def s_bring : Spec := fun ds σ => a4 ds fun t s x b => vL t fun li => vL s fun ls => vS x fun x => vB b fun b => sD σ li fun es => sL σ ls fun xs => vo (valOf' es x) fun d => vB d fun g => if xs.length < 1000000 ∧ es.length < 1000 ∧ g.length ≤ 1000 ∧ b.length ≤ 1000 then some (.none, (σ.set ls (.list (xs ++ [.str x]))).set li (.dict (dset es x (.bytes (fitS b g.length))))) else none
theorem bring_of {li ls : Nat} {x : Str} {b g : List UInt8} {es : List (Str × V)} {xs : List V} {σ : Sto} (he : σ[li]? = some (.dict es)) (hx : σ[ls]? = some (.list xs)) (hv : valOf' es x = some (.bytes g)) (h : xs.length < 1000000 ∧ es.length < 1000 ∧ g.length ≤ 1000 ∧ b.length ≤ 1000) : s_bring [.loc li, .loc ls, .str x, .bytes b] σ = some (.none, (σ.set ls (.list (xs ++ [.str x]))).set li (.dict (dset es x (.bytes (fitS b g.length))))) := (sD_of he).trans ((sL_of hx).trans ((vo_of hv).trans (if_pos h)))
theorem underAll_app {n : Nat} {a b : List V} (h1 : V.underAll n a) (h2 : V.underAll n b) : V.underAll n (a ++ b) := by
  rw [underAll_mem] at *
  intro d hd
  rcases List.mem_append.mp hd with hd | hd
  · exact h1 d hd
  · exact h2 d hd
theorem d_bring {prog : Program} : CallOk prog KK 2 (.ref 226) s_bring := by
  refine' defOk (f := 226) ["items", "seen", "name", "octets"] 2 (by intro P; k_is) (by intro P; k_is) (bind4 fun _ _ _ _ => rfl) ?body (Runs.meets ⟨fun ds σ hu hd => Sat.a4 fun t s x b e1 => .L fun li e2 => .L fun ls e3 => .S fun x' e4 => .B fun b' e5 => .sD fun es he => .sL fun xs hx => .o fun d hv => .B fun g e6 => .fi fun ⟨hxs, hes, hgl, hbl⟩ => .ok ?_⟩) (by decide +kernel) rfl rfl rfl
  case body => conv => { arg 4; whnf }; conv => { arg 5; whnf }; repeat' (with_reducible show (_ : Prop); first
   | (show JE _ _ _ _ (Expr.Name _ _) _; refine' W_local (by first | ((repeat first | exact At.here | apply At.there); done) | fail) (by decide +kernel) (by decide +kernel))
   | (show JE _ _ _ _ (Expr.Constant _ _ _) _; refine' JE_bytes _ (by decide))
   | (show JE _ _ _ _ (Expr.Call (Expr.Attribute _ _ _) _ _ _) _; refine' W_append ?_ ?_ (by intro _; with_unfolding_all rfl) (by intro _; with_unfolding_all rfl) (by with_unfolding_all rfl) (by intro _; with_unfolding_all rfl) (by intro _; with_unfolding_all rfl))
   | (show JE _ _ _ _ (Expr.Call _ _ _ _) _; refine' W_callB (by first | ((repeat first | exact At.here | apply At.there); done) | fail) (by intro P; k_is) (by first | exact PySem.boot_len | fail) (by decide +kernel) (by decide +kernel) (by first | exact cLen | fail) ?_ (by intro _; with_unfolding_all rfl) (by intro _; with_unfolding_all rfl))
   | (show JE _ _ _ _ _ _; first | refine' JE_bin ?_ ?_ | refine' JE_sub ?_ ?_ (by intro _ _; with_unfolding_all rfl) | refine' JE_slice ?_ ?_ ?_)
   | exact JA_nil
   | refine' JA_cons ?_ ?_ (by intro _; with_unfolding_all rfl)
   | exact JXs_nil
   | refine' JXs_cons ?_ ?_
   | (show JX _ _ _ _ (Stmt.Assign _ _ _) _; first | refine' W_store ?_ (by first | ((repeat first | exact At.here | apply At.there); done) | fail) (by intro _; with_unfolding_all rfl) | refine' JX_setItem ?_ ?_ ?_ (by intro _; with_unfolding_all rfl))
   | (show JX _ _ _ _ _ _; refine' W_expr ?_ (by intro _; with_unfolding_all rfl))
   | refine' JP_some ?_
   | exact JP_none)
  subst e1 e2 e3 e4 e5 e6
  have hne : li ≠ ls := fun z => by rw [z, hx] at he; cases he
  have hu1 : Und (σ.set ls (.list (xs ++ [.str x']))) := under_set hu (underAll_app (under_get hu hx) (by simp [V.underAll, V.under]))
  refine .leave rfl (by rw [List.length_set, List.length_set]; exact Nat.le_refl _) (under_set hu1 (dset_under (by rw [List.length_set]; exact under_get hu he) (by simp [V.under]))) (by simp [V.under]) ?_
  have he2 : (σ.set ls (Cell.list (xs ++ [V.str x'])))[li]? = some (Cell.dict es) := by rw [List.getElem?_set_ne (Ne.symm hne)]; exact he
  have h1 : slOk none (some (g.length : Int)) = true := by
    have : (0 : Int) ≤ g.length := Int.natCast_nonneg _
    simp only [slOk, Option.all, this, decide_true, Bool.and_self]
  have h2 : sl (b' ++ List.replicate g.length 95) none (some (g.length : Int)) = fitS b' g.length := by
    show ((b' ++ List.replicate g.length 95).drop 0).take ((g.length : Int).toNat - 0) = _
    rw [List.drop_zero, Nat.sub_zero, Int.toNat_natCast]; rfl
  have h3 : vbin .Mult (.bytes [95]) (.int g.length) = some (.bytes (List.replicate g.length 95)) := by
    have : vbin .Mult (.bytes [95]) (.int g.length) = some (.bytes (List.replicate (g.length : Int).toNat [95]).flatten) := if_pos ⟨by simp, by decide, by lia, by lia⟩
    rw [this, Int.toNat_natCast, rep_one]
  have h4 : vbin .Add (.bytes b') (.bytes (List.replicate g.length 95)) = some (.bytes (b' ++ List.replicate g.length 95)) := if_pos (by rw [List.length_replicate]; lia)
  exact .of (b_seq (b_bind (b_bind rfl (b_bind (b_sto (is_list hx)) (b_bind rfl (b_call (append_of hx hxs))))) rfl) (b_seq (b_bind (b_bind (b_bind (b_bind rfl (b_bind rfl (b_sto (v_dict he2 hv)))) rfl) rfl) rfl) (b_seq (b_bind (b_bind (b_bind rfl (b_bind (b_bind rfl (b_bind rfl (b_lift h3))) (b_lift h4))) (b_bind rfl (b_bind rfl (b_sliceE h1 h2)))) (b_bind rfl (b_bind rfl (b_bind (b_setD he2 hes) rfl)))) rfl))) (.fin rfl)
noncomputable def qS (x : Str) : Str := Str.ofString "?" ++ x
noncomputable def s_spot : Spec := fun ds σ => a2 ds fun s r => vL s fun ls => vo (back refV r) fun x => sL σ ls fun xs => if xs.length < 1000000 ∧ (Str.ofString "?").length + x.length ≤ sizeLine then some (.str x, σ.set ls (.list (xs ++ [.str (qS x)]))) else none
theorem back_ref (x : Str) : back refV (refV x) = some x := back_of (fun _ _ => refV_inj) x
theorem spot_of {ls : Nat} {x : Str} {xs : List V} {σ : Sto} (hx : σ[ls]? = some (.list xs)) (h : xs.length < 1000000 ∧ (Str.ofString "?").length + x.length ≤ sizeLine) : s_spot [.loc ls, refV x] σ = some (.str x, σ.set ls (.list (xs ++ [.str (qS x)]))) := (vo_of (back_ref x)).trans ((sL_of hx).trans (if_pos h))
theorem d_spot {prog : Program} : CallOk prog KK 2 (.ref 233) s_spot := by
  refine' defOk (f := 233) ["seen", "ref"] 0 (by intro P; k_is) (by intro P; k_is) (bind2 fun _ _ => rfl) ?body (Runs.meets ⟨fun ds σ hu hd => Sat.a2 fun s r e1 => .L fun ls e2 => .o fun x hr => .sL fun xs hx => .fi fun ⟨h1, h2⟩ => .ok ?_⟩) (by decide +kernel) rfl rfl rfl
  case body => conv => { arg 4; whnf }; conv => { arg 5; whnf }; repeat' (with_reducible show (_ : Prop); first
   | (show JE _ _ _ _ (Expr.Name _ _) _; refine' W_local (by first | ((repeat first | exact At.here | apply At.there); done) | fail) (by decide +kernel) (by decide +kernel))
   | (show JE _ _ _ _ (Expr.Constant _ _ _) _; first | exact JE_int _ | exact JE_str _)
   | (show JE _ _ _ _ (Expr.Call (Expr.Attribute _ _ _) _ _ _) _; refine' W_append ?_ ?_ (by intro _; with_unfolding_all rfl) (by intro _; with_unfolding_all rfl) (by with_unfolding_all rfl) (by intro _; with_unfolding_all rfl) (by intro _; with_unfolding_all rfl))
   | (show JE _ _ _ _ _ _; first | refine' JE_bin ?_ ?_ | refine' JE_sub ?_ ?_ (by intro _ _; with_unfolding_all rfl))
   | exact JA_nil
   | refine' JA_cons ?_ ?_ (by intro _; with_unfolding_all rfl)
   | exact JXs_nil
   | refine' JXs_cons ?_ ?_
   | (show JX _ _ _ _ _ _; first | refine' W_expr ?_ (by intro _; with_unfolding_all rfl) | refine' JX_return ?_))
  obtain rfl := back_inv hr
  subst e1 e2
  refine .leave rfl (by rw [List.length_set]; exact Nat.le_refl _) (under_set hu (underAll_app (under_get hu hx) (by simp [V.underAll, V.under]))) (by simp [V.under]) ?_
  have h3 : vbin .Add (.str (Str.ofString "?")) (.str x) = some (.str (qS x)) := if_pos h2
  exact .of (b_seq (b_bind (b_bind rfl (b_bind (b_sto (is_list hx)) (b_bind (b_bind (b_bind rfl (b_bind (b_bind rfl (b_bind rfl (b_sto rfl))) (b_lift h3))) rfl) (b_call (append_of hx h1))))) rfl) rfl) (.ret (b_bind (b_bind rfl (b_bind rfl (b_sto rfl))) rfl))
noncomputable def t_fetch (li _ln _ls : Nat) : Spec := fun ds σ => a2 ds fun o k => s_fetch [.loc li, o, k] σ
noncomputable def t_plant (li _ln _ls : Nat) : Spec := fun ds σ => a2 ds fun r d => vo (back refV r) fun x => s_put [.loc li, .str x, d] σ
noncomputable def t_amount (_li ln _ls : Nat) : Spec := fun ds σ => a1 ds fun r => vo (back refV r) fun x => sD σ ln fun es => vo (valOf' es x) fun d => some (d, σ)
noncomputable def t_keep (_li ln _ls : Nat) : Spec := fun ds σ => a2 ds fun r d => vo (back refV r) fun x => s_put [.loc ln, .str x, d] σ
noncomputable def t_spot (_li _ln ls : Nat) : Spec := fun ds σ => a1 ds fun r => s_spot [.loc ls, r] σ
noncomputable def t_bring (li _ln ls : Nat) : Spec := fun ds σ => a2 ds fun x b => s_bring [.loc li, .loc ls, x, b] σ
noncomputable def t_room (li _ln _ls : Nat) : Spec := fun ds σ => a1 ds fun x => vS x fun x => sD σ li fun es => vo (valOf' es x) fun d => vB d fun b => some (.int b.length, σ)
theorem s_fetch_len {ds : List V} {σ σ' : Sto} {r : V} (h : s_fetch ds σ = some (r, σ')) : σ' = σ :=
  (Sat.a3 fun _ _ _ _ => .L fun _ _ => .I fun _ _ => .sD fun _ _ => .o fun _ _ => .o fun _ _ => .fi fun _ => .ok rfl : Sat (s_fetch ds σ) fun _ σ' => σ' = σ) r σ' h
theorem s_put_len {ds : List V} {σ σ' : Sto} {r : V} (h : s_put ds σ = some (r, σ')) : σ'.length = σ.length :=
  (Sat.a3 fun _ _ _ _ => .L fun _ _ => .S fun _ _ => .sD fun _ _ => .fi fun _ => .ok (List.length_set ..) : Sat (s_put ds σ) fun _ σ' => σ'.length = σ.length) r σ' h
theorem s_spot_len {ds : List V} {σ σ' : Sto} {r : V} (h : s_spot ds σ = some (r, σ')) : σ'.length = σ.length :=
  (Sat.a2 fun _ _ _ => .L fun _ _ => .o fun _ _ => .sL fun _ _ => .fi fun _ => .ok (List.length_set ..) : Sat (s_spot ds σ) fun _ σ' => σ'.length = σ.length) r σ' h
theorem s_bring_len {ds : List V} {σ σ' : Sto} {r : V} (h : s_bring ds σ = some (r, σ')) : σ'.length = σ.length :=
  (Sat.a4 fun _ _ _ _ _ => .L fun _ _ => .L fun _ _ => .S fun _ _ => .B fun _ _ => .sD fun _ _ => .sL fun _ _ => .o fun _ _ => .B fun _ _ => .fi fun _ => .ok ((List.length_set ..).trans (List.length_set ..)) : Sat (s_bring ds σ) fun _ σ' => σ'.length = σ.length) r σ' h
theorem run_at {F : PM V} {ρ ρ₀ : Loc} {σ : Sto} {X : Option (V × Loc × Sto)} (e : ρ₀ = ρ) (h : F ρ σ = X) : F ρ₀ σ = X := by rw [e]; exact h
theorem h_fetch {prog : Program} : HandsOk prog KK 3 (Str.ofString "fetch") t_fetch := by
  refine' handsMake pick_fetch (show HL 0 = LamT.mk _ _ _ from rfl) ?body (by intro P; k_is) (by intro P; k_is) (by intro P; k_is) [Str.ofString "operand", Str.ofString "size"] ?bind (by decide +kernel) (by decide +kernel) (by decide +kernel) (by decide +kernel) ?free rfl rfl rfl ?_
  case bind => intro _ _ _ _ _ _ vs h; obtain ⟨a1, a2, rfl⟩ := len2 h; exact rfl
  case body => conv => { arg 4; whnf }; conv => { arg 5; whnf }; repeat' (with_reducible show (_ : Prop); first
   | (show JE _ _ _ _ (Expr.Name _ _) _; first | refine' W_local (by first | ((repeat first | exact At.here | apply At.there); done) | fail) (by decide +kernel) (by decide +kernel) | refine' W_free (by first | ((repeat first | exact At.here | apply At.there); done) | fail) (by decide +kernel) (by decide +kernel))
   | (show JE _ _ _ _ (Expr.Call _ _ _ _) _; refine' W_call (by first | ((repeat first | exact At.here | apply At.there); done) | fail) (by intro P; k_is) (by decide +kernel) (by intro P; k_is) (by first | exact callOk_le d_fetch (by decide) | fail) ?_ (by intro _; with_unfolding_all rfl) (by intro _; with_unfolding_all rfl))
   | exact JA_nil
   | refine' JA_cons ?_ ?_ (by intro _; with_unfolding_all rfl))
  case free => intro li ln ls x d h; obtain ⟨rfl, rfl⟩ := look1 h; decide +kernel
  intro li ln ls ds σ r σ' h
  obtain ⟨o, k, rfl, h1⟩ := a2_some h
  have hl := s_fetch_len h1
  subst hl
  exact ⟨rfl, Nat.le_refl _, [some o, some k, some (.loc li), none], run_at (ρ := [some o, some k, some (.loc li), none]) (by kernel_rfl) (b_bind rfl (b_call h1))⟩
theorem h_plant {prog : Program} : HandsOk prog KK 3 (Str.ofString "plant") t_plant := by
  refine' handsMake pick_plant (show HL 1 = LamT.mk _ _ _ from rfl) ?body (by intro P; k_is) (by intro P; k_is) (by intro P; k_is) [Str.ofString "ref", Str.ofString "octets"] ?bind (by decide +kernel) (by decide +kernel) (by decide +kernel) (by decide +kernel) ?free rfl rfl rfl ?_
  case bind => intro _ _ _ _ _ _ vs h; obtain ⟨a1, a2, rfl⟩ := len2 h; exact rfl
  case body => conv => { arg 4; whnf }; conv => { arg 5; whnf }; repeat' (with_reducible show (_ : Prop); first
   | (show JE _ _ _ _ (Expr.Name _ _) _; first | refine' W_local (by first | ((repeat first | exact At.here | apply At.there); done) | fail) (by decide +kernel) (by decide +kernel) | refine' W_free (by first | ((repeat first | exact At.here | apply At.there); done) | fail) (by decide +kernel) (by decide +kernel))
   | (show JE _ _ _ _ (Expr.Constant _ _ _) _; exact JE_int _)
   | (show JE _ _ _ _ (Expr.Call _ _ _ _) _; refine' W_call (by first | ((repeat first | exact At.here | apply At.there); done) | fail) (by intro P; k_is) (by decide +kernel) (by intro P; k_is) (by first | exact callOk_le d_put (by decide) | fail) ?_ (by intro _; with_unfolding_all rfl) (by intro _; with_unfolding_all rfl))
   | (show JE _ _ _ _ _ _; refine' JE_sub ?_ ?_ (by intro _ _; with_unfolding_all rfl))
   | exact JA_nil
   | refine' JA_cons ?_ ?_ (by intro _; with_unfolding_all rfl))
  case free => intro li ln ls x d h; obtain ⟨rfl, rfl⟩ := look1 h; decide +kernel
  intro li ln ls ds σ r σ' h
  obtain ⟨o, d, rfl, h0⟩ := a2_some h
  obtain ⟨x, hx, h1⟩ := vo_some h0
  obtain rfl := back_inv hx
  have hl := s_put_len h1
  exact ⟨rfl, by rw [hl]; exact Nat.le_refl _, [some (refV x), some d, some (.loc li), none], run_at (ρ := [some (refV x), some d, some (.loc li), none]) (by kernel_rfl) (b_bind (b_bind rfl (b_bind (b_bind (b_bind rfl (b_bind rfl (b_sto rfl))) (b_bind (b_bind rfl rfl) rfl)) rfl)) (b_call h1))⟩
theorem h_amount {prog : Program} : HandsOk prog KK 3 (Str.ofString "amount") t_amount := by
  refine' handsMake pick_amount (show HL 2 = LamT.mk _ _ _ from rfl) ?body (by intro P; k_is) (by intro P; k_is) (by intro P; k_is) [Str.ofString "ref"] ?bind (by decide +kernel) (by decide +kernel) (by decide +kernel) (by decide +kernel) ?free rfl rfl rfl ?_
  case bind => intro _ _ _ _ _ _ vs h; obtain ⟨a1, rfl⟩ := len1 h; exact rfl
  case body => conv => { arg 4; whnf }; conv => { arg 5; whnf }; repeat' (with_reducible show (_ : Prop); first
   | (show JE _ _ _ _ (Expr.Name _ _) _; first | refine' W_local (by first | ((repeat first | exact At.here | apply At.there); done) | fail) (by decide +kernel) (by decide +kernel) | refine' W_free (by first | ((repeat first | exact At.here | apply At.there); done) | fail) (by decide +kernel) (by decide +kernel))
   | (show JE _ _ _ _ (Expr.Constant _ _ _) _; exact JE_int _)
   | (show JE _ _ _ _ _ _; refine' JE_sub ?_ ?_ (by intro _ _; with_unfolding_all rfl)))
  case free => intro li ln ls x d h; obtain ⟨rfl, rfl⟩ := look1 h; decide +kernel
  intro li ln ls ds σ r σ' h
  obtain ⟨o, rfl, h0⟩ := a1_some h
  obtain ⟨x, hx, h1⟩ := vo_some h0
  obtain rfl := back_inv hx
  obtain ⟨es, he, h2⟩ := sD_some h1
  obtain ⟨d, hd, h3⟩ := vo_some h2
  cases h3
  exact ⟨rfl, Nat.le_refl _, [some (refV x), some (.loc ln)], run_at (ρ := [some (refV x), some (.loc ln)]) (by kernel_rfl) (b_bind rfl (b_bind (b_bind rfl (b_bind rfl (b_sto rfl))) (b_sto (v_dict he hd))))⟩
theorem h_keep {prog : Program} : HandsOk prog KK 3 (Str.ofString "keep") t_keep := by
  refine' handsMake pick_keep (show HL 3 = LamT.mk _ _ _ from rfl) ?body (by intro P; k_is) (by intro P; k_is) (by intro P; k_is) [Str.ofString "ref", Str.ofString "number"] ?bind (by decide +kernel) (by decide +kernel) (by decide +kernel) (by decide +kernel) ?free rfl rfl rfl ?_
  case bind => intro _ _ _ _ _ _ vs h; obtain ⟨a1, a2, rfl⟩ := len2 h; exact rfl
  case body => conv => { arg 4; whnf }; conv => { arg 5; whnf }; repeat' (with_reducible show (_ : Prop); first
   | (show JE _ _ _ _ (Expr.Name _ _) _; first | refine' W_local (by first | ((repeat first | exact At.here | apply At.there); done) | fail) (by decide +kernel) (by decide +kernel) | refine' W_free (by first | ((repeat first | exact At.here | apply At.there); done) | fail) (by decide +kernel) (by decide +kernel))
   | (show JE _ _ _ _ (Expr.Constant _ _ _) _; exact JE_int _)
   | (show JE _ _ _ _ (Expr.Call _ _ _ _) _; refine' W_call (by first | ((repeat first | exact At.here | apply At.there); done) | fail) (by intro P; k_is) (by decide +kernel) (by intro P; k_is) (by first | exact callOk_le d_put (by decide) | fail) ?_ (by intro _; with_unfolding_all rfl) (by intro _; with_unfolding_all rfl))
   | (show JE _ _ _ _ _ _; refine' JE_sub ?_ ?_ (by intro _ _; with_unfolding_all rfl))
   | exact JA_nil
   | refine' JA_cons ?_ ?_ (by intro _; with_unfolding_all rfl))
  case free => intro li ln ls x d h; obtain ⟨rfl, rfl⟩ := look1 h; decide +kernel
  intro li ln ls ds σ r σ' h
  obtain ⟨o, d, rfl, h0⟩ := a2_some h
  obtain ⟨x, hx, h1⟩ := vo_some h0
  obtain rfl := back_inv hx
  have hl := s_put_len h1
  exact ⟨rfl, by rw [hl]; exact Nat.le_refl _, [some (refV x), some d, some (.loc ln), none], run_at (ρ := [some (refV x), some d, some (.loc ln), none]) (by kernel_rfl) (b_bind (b_bind rfl (b_bind (b_bind (b_bind rfl (b_bind rfl (b_sto rfl))) (b_bind (b_bind rfl rfl) rfl)) rfl)) (b_call h1))⟩
theorem h_spot {prog : Program} : HandsOk prog KK 3 (Str.ofString "spot") t_spot := by
  refine' handsMake pick_spot (show HL 4 = LamT.mk _ _ _ from rfl) ?body (by intro P; k_is) (by intro P; k_is) (by intro P; k_is) [Str.ofString "ref"] ?bind (by decide +kernel) (by decide +kernel) (by decide +kernel) (by decide +kernel) ?free rfl rfl rfl ?_
  case bind => intro _ _ _ _ _ _ vs h; obtain ⟨a1, rfl⟩ := len1 h; exact rfl
  case body => conv => { arg 4; whnf }; conv => { arg 5; whnf }; repeat' (with_reducible show (_ : Prop); first
   | (show JE _ _ _ _ (Expr.Name _ _) _; first | refine' W_local (by first | ((repeat first | exact At.here | apply At.there); done) | fail) (by decide +kernel) (by decide +kernel) | refine' W_free (by first | ((repeat first | exact At.here | apply At.there); done) | fail) (by decide +kernel) (by decide +kernel))
   | (show JE _ _ _ _ (Expr.Call _ _ _ _) _; refine' W_call (by first | ((repeat first | exact At.here | apply At.there); done) | fail) (by intro P; k_is) (by decide +kernel) (by intro P; k_is) (by first | exact callOk_le d_spot (by decide) | fail) ?_ (by intro _; with_unfolding_all rfl) (by intro _; with_unfolding_all rfl))
   | exact JA_nil
   | refine' JA_cons ?_ ?_ (by intro _; with_unfolding_all rfl))
  case free => intro li ln ls x d h; obtain ⟨rfl, rfl⟩ := look1 h; decide +kernel
  intro li ln ls ds σ r σ' h
  obtain ⟨d, rfl, h1⟩ := a1_some h
  have hl := s_spot_len h1
  exact ⟨rfl, by rw [hl]; exact Nat.le_refl _, [some d, some (.loc ls), none], run_at (ρ := [some d, some (.loc ls), none]) (by kernel_rfl) (b_bind rfl (b_call h1))⟩
theorem h_bring {prog : Program} : HandsOk prog KK 3 (Str.ofString "bring") t_bring := by
  refine' handsMake pick_bring (show HL 5 = LamT.mk _ _ _ from rfl) ?body (by intro P; k_is) (by intro P; k_is) (by intro P; k_is) [Str.ofString "name", Str.ofString "octets"] ?bind (by decide +kernel) (by decide +kernel) (by decide +kernel) (by decide +kernel) ?free rfl rfl rfl ?_
  case bind => intro _ _ _ _ _ _ vs h; obtain ⟨a1, a2, rfl⟩ := len2 h; exact rfl
  case body => conv => { arg 4; whnf }; conv => { arg 5; whnf }; repeat' (with_reducible show (_ : Prop); first
   | (show JE _ _ _ _ (Expr.Name _ _) _; first | refine' W_local (by first | ((repeat first | exact At.here | apply At.there); done) | fail) (by decide +kernel) (by decide +kernel) | refine' W_free (by first | ((repeat first | exact At.here | apply At.there); done) | fail) (by decide +kernel) (by decide +kernel))
   | (show JE _ _ _ _ (Expr.Call _ _ _ _) _; refine' W_call (by first | ((repeat first | exact At.here | apply At.there); done) | fail) (by intro P; k_is) (by decide +kernel) (by intro P; k_is) (by first | exact callOk_le d_bring (by decide) | fail) ?_ (by intro _; with_unfolding_all rfl) (by intro _; with_unfolding_all rfl))
   | exact JA_nil
   | refine' JA_cons ?_ ?_ (by intro _; with_unfolding_all rfl))
  case free => intro li ln ls x d h; rw [List.lookup_cons] at h; split at h <;> rename_i q; (obtain rfl := beq_iff_eq.mp q; decide +kernel); obtain ⟨rfl, rfl⟩ := look1 h; decide +kernel
  intro li ln ls ds σ r σ' h
  obtain ⟨x, b, rfl, h1⟩ := a2_some h
  have hl := s_bring_len h1
  exact ⟨rfl, by rw [hl]; exact Nat.le_refl _, [some x, some b, some (.loc li), some (.loc ls), none], run_at (ρ := [some x, some b, some (.loc li), some (.loc ls), none]) (by kernel_rfl) (b_bind rfl (b_call h1))⟩
theorem h_room {prog : Program} : HandsOk prog KK 3 (Str.ofString "room") t_room := by
  refine' handsMake pick_room (show HL 6 = LamT.mk _ _ _ from rfl) ?body (by intro P; k_is) (by intro P; k_is) (by intro P; k_is) [Str.ofString "name"] ?bind (by decide +kernel) (by decide +kernel) (by decide +kernel) (by decide +kernel) ?free rfl rfl rfl ?_
  case bind => intro _ _ _ _ _ _ vs h; obtain ⟨a1, rfl⟩ := len1 h; exact rfl
  case body => conv => { arg 4; whnf }; conv => { arg 5; whnf }; repeat' (with_reducible show (_ : Prop); first
   | (show JE _ _ _ _ (Expr.Name _ _) _; first | refine' W_local (by first | ((repeat first | exact At.here | apply At.there); done) | fail) (by decide +kernel) (by decide +kernel) | refine' W_free (by first | ((repeat first | exact At.here | apply At.there); done) | fail) (by decide +kernel) (by decide +kernel))
   | (show JE _ _ _ _ (Expr.Call _ _ _ _) _; refine' W_callB (by first | ((repeat first | exact At.here | apply At.there); done) | fail) (by intro P; k_is) (by first | exact PySem.boot_len | fail) (by decide +kernel) (by decide +kernel) (by first | exact cLen | fail) ?_ (by intro _; with_unfolding_all rfl) (by intro _; with_unfolding_all rfl))
   | (show JE _ _ _ _ _ _; refine' JE_sub ?_ ?_ (by intro _ _; with_unfolding_all rfl))
   | exact JA_nil
   | refine' JA_cons ?_ ?_ (by intro _; with_unfolding_all rfl))
  case free => intro li ln ls x d h; obtain ⟨rfl, rfl⟩ := look1 h; decide +kernel
  intro li ln ls ds σ r σ' h
  obtain ⟨y, rfl, h0⟩ := a1_some h
  obtain ⟨x, rfl, h1⟩ := vS_some h0
  obtain ⟨es, he, h2⟩ := sD_some h1
  obtain ⟨d, hd, h3⟩ := vo_some h2
  obtain ⟨b, rfl, h4⟩ := vB_some h3
  cases h4
  exact ⟨rfl, Nat.le_refl _, [some (.str x), some (.loc li), none], run_at (ρ := [some (.str x), some (.loc li), none]) (by kernel_rfl) (b_bind (b_bind (b_bind rfl (b_bind rfl (b_sto (v_dict he hd)))) rfl) rfl)⟩
theorem handsOk_le {prog : Program} {K : Params → Frag} {m n : Nat} {name : Str} {spec : Nat → Nat → Nat → Spec} (h : HandsOk prog K m name spec) (hm : m ≤ n) : HandsOk prog K n name spec := fun Γ x ai an as G H => by
  obtain ⟨f, of, fd, h1, h2, h3, h4⟩ := h Γ x ai an as G H
  exact ⟨f, of, fd, h1, h2, h3, fun A sc L cl ρ α σ s li ln ls vs ds r σ' Q E R => h4 A sc L cl ρ α σ s li ln ls vs ds r σ' Q E (R.le hm)⟩
theorem W_h_fetch {prog : Program} {n : Nat} {sc : Scope} {o e : Expr} {es : List Expr} {ap pos : Pos} {f : PM V} {g : PM (List V)} (h1 : JE prog KK n sc o f) (ha : JA prog KK n sc pos (e :: es) g) (hn : 3 ≤ n)
    (hm : ∀ env, ∃ pl, eval (.Call (.Attribute o (Str.ofString "fetch") ap) (e :: es) [] pos) env = (do
      let ov ← eval o env
      standAt ap.atName
      let (f, first) ← holding [ov] (getMethod ov (Str.ofString "fetch") pl)
      callWith pos f first (backTo pos (starEach (e :: es) env)) []))
    (he : ∀ env, starEach (e :: es) env = (false, eval e env) :: starEach es env) (hpl : ∀ env, (backTo pos (starEach es env)).any (·.1) = false) :
    JE prog KK n sc (.Call (.Attribute o (Str.ofString "fetch") ap) (e :: es) [] pos) (pbind f fun a => pbind (plift (isHands a)) fun _ => pbind g fun ds => phands t_fetch a ds) := JE_hands h1 ha (handsOk_le h_fetch hn) hm he hpl
theorem W_h_plant {prog : Program} {n : Nat} {sc : Scope} {o e : Expr} {es : List Expr} {ap pos : Pos} {f : PM V} {g : PM (List V)} (h1 : JE prog KK n sc o f) (ha : JA prog KK n sc pos (e :: es) g) (hn : 3 ≤ n)
    (hm : ∀ env, ∃ pl, eval (.Call (.Attribute o (Str.ofString "plant") ap) (e :: es) [] pos) env = (do
      let ov ← eval o env
      standAt ap.atName
      let (f, first) ← holding [ov] (getMethod ov (Str.ofString "plant") pl)
      callWith pos f first (backTo pos (starEach (e :: es) env)) []))
    (he : ∀ env, starEach (e :: es) env = (false, eval e env) :: starEach es env) (hpl : ∀ env, (backTo pos (starEach es env)).any (·.1) = false) :
    JE prog KK n sc (.Call (.Attribute o (Str.ofString "plant") ap) (e :: es) [] pos) (pbind f fun a => pbind (plift (isHands a)) fun _ => pbind g fun ds => phands t_plant a ds) := JE_hands h1 ha (handsOk_le h_plant hn) hm he hpl
theorem W_h_amount {prog : Program} {n : Nat} {sc : Scope} {o e : Expr} {es : List Expr} {ap pos : Pos} {f : PM V} {g : PM (List V)} (h1 : JE prog KK n sc o f) (ha : JA prog KK n sc pos (e :: es) g) (hn : 3 ≤ n)
    (hm : ∀ env, ∃ pl, eval (.Call (.Attribute o (Str.ofString "amount") ap) (e :: es) [] pos) env = (do
      let ov ← eval o env
      standAt ap.atName
      let (f, first) ← holding [ov] (getMethod ov (Str.ofString "amount") pl)
      callWith pos f first (backTo pos (starEach (e :: es) env)) []))
    (he : ∀ env, starEach (e :: es) env = (false, eval e env) :: starEach es env) (hpl : ∀ env, (backTo pos (starEach es env)).any (·.1) = false) :
    JE prog KK n sc (.Call (.Attribute o (Str.ofString "amount") ap) (e :: es) [] pos) (pbind f fun a => pbind (plift (isHands a)) fun _ => pbind g fun ds => phands t_amount a ds) := JE_hands h1 ha (handsOk_le h_amount hn) hm he hpl
theorem W_h_keep {prog : Program} {n : Nat} {sc : Scope} {o e : Expr} {es : List Expr} {ap pos : Pos} {f : PM V} {g : PM (List V)} (h1 : JE prog KK n sc o f) (ha : JA prog KK n sc pos (e :: es) g) (hn : 3 ≤ n)
    (hm : ∀ env, ∃ pl, eval (.Call (.Attribute o (Str.ofString "keep") ap) (e :: es) [] pos) env = (do
      let ov ← eval o env
      standAt ap.atName
      let (f, first) ← holding [ov] (getMethod ov (Str.ofString "keep") pl)
      callWith pos f first (backTo pos (starEach (e :: es) env)) []))
    (he : ∀ env, starEach (e :: es) env = (false, eval e env) :: starEach es env) (hpl : ∀ env, (backTo pos (starEach es env)).any (·.1) = false) :
    JE prog KK n sc (.Call (.Attribute o (Str.ofString "keep") ap) (e :: es) [] pos) (pbind f fun a => pbind (plift (isHands a)) fun _ => pbind g fun ds => phands t_keep a ds) := JE_hands h1 ha (handsOk_le h_keep hn) hm he hpl
theorem W_h_spot {prog : Program} {n : Nat} {sc : Scope} {o e : Expr} {es : List Expr} {ap pos : Pos} {f : PM V} {g : PM (List V)} (h1 : JE prog KK n sc o f) (ha : JA prog KK n sc pos (e :: es) g) (hn : 3 ≤ n)
    (hm : ∀ env, ∃ pl, eval (.Call (.Attribute o (Str.ofString "spot") ap) (e :: es) [] pos) env = (do
      let ov ← eval o env
      standAt ap.atName
      let (f, first) ← holding [ov] (getMethod ov (Str.ofString "spot") pl)
      callWith pos f first (backTo pos (starEach (e :: es) env)) []))
    (he : ∀ env, starEach (e :: es) env = (false, eval e env) :: starEach es env) (hpl : ∀ env, (backTo pos (starEach es env)).any (·.1) = false) :
    JE prog KK n sc (.Call (.Attribute o (Str.ofString "spot") ap) (e :: es) [] pos) (pbind f fun a => pbind (plift (isHands a)) fun _ => pbind g fun ds => phands t_spot a ds) := JE_hands h1 ha (handsOk_le h_spot hn) hm he hpl
theorem W_h_bring {prog : Program} {n : Nat} {sc : Scope} {o e : Expr} {es : List Expr} {ap pos : Pos} {f : PM V} {g : PM (List V)} (h1 : JE prog KK n sc o f) (ha : JA prog KK n sc pos (e :: es) g) (hn : 3 ≤ n)
    (hm : ∀ env, ∃ pl, eval (.Call (.Attribute o (Str.ofString "bring") ap) (e :: es) [] pos) env = (do
      let ov ← eval o env
      standAt ap.atName
      let (f, first) ← holding [ov] (getMethod ov (Str.ofString "bring") pl)
      callWith pos f first (backTo pos (starEach (e :: es) env)) []))
    (he : ∀ env, starEach (e :: es) env = (false, eval e env) :: starEach es env) (hpl : ∀ env, (backTo pos (starEach es env)).any (·.1) = false) :
    JE prog KK n sc (.Call (.Attribute o (Str.ofString "bring") ap) (e :: es) [] pos) (pbind f fun a => pbind (plift (isHands a)) fun _ => pbind g fun ds => phands t_bring a ds) := JE_hands h1 ha (handsOk_le h_bring hn) hm he hpl
theorem W_h_room {prog : Program} {n : Nat} {sc : Scope} {o e : Expr} {es : List Expr} {ap pos : Pos} {f : PM V} {g : PM (List V)} (h1 : JE prog KK n sc o f) (ha : JA prog KK n sc pos (e :: es) g) (hn : 3 ≤ n)
    (hm : ∀ env, ∃ pl, eval (.Call (.Attribute o (Str.ofString "room") ap) (e :: es) [] pos) env = (do
      let ov ← eval o env
      standAt ap.atName
      let (f, first) ← holding [ov] (getMethod ov (Str.ofString "room") pl)
      callWith pos f first (backTo pos (starEach (e :: es) env)) []))
    (he : ∀ env, starEach (e :: es) env = (false, eval e env) :: starEach es env) (hpl : ∀ env, (backTo pos (starEach es env)).any (·.1) = false) :
    JE prog KK n sc (.Call (.Attribute o (Str.ofString "room") ap) (e :: es) [] pos) (pbind f fun a => pbind (plift (isHands a)) fun _ => pbind g fun ds => phands t_room a ds) := JE_hands h1 ha (handsOk_le h_room hn) hm he hpl
noncomputable def oV : Option Str → V
  | none => .none
  | some x => refV x
theorem oV_inj (a b : Option Str) (h : oV a = oV b) : a = b := by
  cases a <;> cases b
  · rfl
  · cases h
  · cases h
  · exact congrArg some (refV_inj h)
noncomputable def posOf (fs : List (Str × V)) : Option Str → Option Int
  | none => some 1
  | some x => vo (valOf' fs x) fun d => vI d some
noncomputable def movedD (fs : List (Str × V)) (p : Int) : Option Str → List (Str × V)
  | none => fs
  | some x => dset fs x (.int p)
theorem set_same {σ : Sto} {l : Nat} {c : Cell} (h : σ[l]? = some c) : σ.set l c = σ := by
  obtain ⟨hlt, he⟩ := List.getElem?_eq_some_iff.mp h
  rw [← he, List.set_getElem_self]
theorem movedD_under {n : Nat} {fs : List (Str × V)} {p : Int} {ptr : Option Str} (h : (Cell.dict fs).under n) : (Cell.dict (movedD fs p ptr)).under n := by
  cases ptr with
  | none => exact h
  | some x => exact dset_under h (by simp [V.under])
noncomputable def s_lone : Spec := fun ds σ => a2 ds fun o h => vH h fun li _ _ => sD σ li fun es => vo (back opV o) fun o => vo (octOf es o) fun b => some (.bytes b, σ)
theorem lone_of {li ln ls : Nat} {es : List (Str × V)} {o : Opd} {b : List UInt8} {σ : Sto} (he : σ[li]? = some (.dict es)) (h : octOf es o = some b) : s_lone [opV o, .hands li ln ls] σ = some (.bytes b, σ) := (sD_of he).trans ((vo_of (back_of opV_inj o)).trans (vo_of h))
theorem d_lone {prog : Program} : CallOk prog KK 4 (.ref 146) s_lone := by
  refine' defOk (f := 146) ["operand", "hands"] 0 (by intro P; k_is) (by intro P; k_is) (bind2 fun _ _ => rfl) ?body (Runs.meets ⟨fun ds σ hu hd => Sat.a2 fun o h e1 => .H fun li ln ls e2 => .sD fun es he => .o fun o' ho => .o fun b hb => .ok ?_⟩) (by decide +kernel) rfl rfl rfl
  case body => conv => { arg 4; whnf }; conv => { arg 5; whnf }; repeat' (with_reducible show (_ : Prop); first
   | (show JE _ _ _ _ (Expr.Name _ _) _; refine' W_local (by first | ((repeat first | exact At.here | apply At.there); done) | fail) (by decide +kernel) (by decide +kernel))
   | (show JE _ _ _ _ (Expr.Constant _ _ _) _; exact JE_int _)
   | (show JE _ _ _ _ (Expr.Call (Expr.Attribute _ _ _) _ _ _) _; refine' W_h_fetch ?_ ?_ (by lia) (by intro _; exact ⟨_, by with_unfolding_all rfl⟩) (by intro _; with_unfolding_all rfl) (by intro _; with_unfolding_all rfl))
   | exact JA_nil
   | refine' JA_cons ?_ ?_ (by intro _; with_unfolding_all rfl)
   | exact JXs_nil
   | refine' JXs_cons ?_ ?_
   | (show JX _ _ _ _ _ _; refine' JX_return ?_))
  obtain rfl := back_inv ho
  subst e1 e2
  have h1 : t_fetch li ln ls [opV o', .int 1] σ = some (.bytes b, σ) := fetch_of he hb
  exact .keep rfl hu (by simp [V.under]) (.ret (b_bind (b_bind rfl (b_bind rfl (b_bind rfl (b_hands h1)))) rfl))
noncomputable def s_pointed : Spec := fun ds σ => a2 ds fun p h => vH h fun _ ln _ => vo (back oV p) fun ptr => sD σ ln fun fs => vo (posOf fs ptr) fun i => some (.int i, σ)
theorem pointed_of {li ln ls : Nat} {fs : List (Str × V)} {ptr : Option Str} {i : Int} {σ : Sto} (hf : σ[ln]? = some (.dict fs)) (h : posOf fs ptr = some i) : s_pointed [oV ptr, .hands li ln ls] σ = some (.int i, σ) := (vo_of (back_of oV_inj ptr)).trans ((sD_of hf).trans (vo_of h))
theorem amount_of {li ln ls : Nat} {fs : List (Str × V)} {x : Str} {d : V} {σ : Sto} (hf : σ[ln]? = some (.dict fs)) (h : valOf' fs x = some d) : t_amount li ln ls [refV x] σ = some (d, σ) := (vo_of (back_ref x)).trans ((sD_of hf).trans (vo_of h))
theorem d_pointed {prog : Program} : CallOk prog KK 4 (.ref 153) s_pointed := by
  refine' defOk (f := 153) ["pointer", "hands"] 0 (by intro P; k_is) (by intro P; k_is) (bind2 fun _ _ => rfl) ?body (Runs.meets ⟨fun ds σ hu hd => Sat.a2 fun o h e1 => .H fun li ln ls e2 => .o fun ptr hp => .sD fun fs hf => .o fun i hi => .ok ?_⟩) (by decide +kernel) rfl rfl rfl
  case body => conv => { arg 4; whnf }; conv => { arg 5; whnf }; repeat' (with_reducible show (_ : Prop); first
   | (show JE _ _ _ _ (Expr.Name _ _) _; refine' W_local (by first | ((repeat first | exact At.here | apply At.there); done) | fail) (by decide +kernel) (by decide +kernel))
   | (show JE _ _ _ _ (Expr.Constant _ _ _) _; first | exact JE_int _ | exact JE_none)
   | (show JE _ _ _ _ (Expr.Call (Expr.Attribute _ _ _) _ _ _) _; refine' W_h_amount ?_ ?_ (by lia) (by intro _; exact ⟨_, by with_unfolding_all rfl⟩) (by intro _; with_unfolding_all rfl) (by intro _; with_unfolding_all rfl))
   | (show JE _ _ _ _ _ _; refine' JE_if ?_ ?_ ?_)
   | exact JA_nil
   | refine' JA_cons ?_ ?_ (by intro _; with_unfolding_all rfl)
   | exact JXs_nil
   | refine' JXs_cons ?_ ?_
   | (show JX _ _ _ _ _ _; refine' JX_return ?_)
   | (show JT _ _ _ _ _ _; refine' JT_cmpS ?_ ?_ (by with_unfolding_all rfl)))
  obtain rfl := back_inv hp
  subst e1 e2
  refine .keep rfl hu (by simp [V.under]) ?_
  cases ptr with
  | none => cases hi; exact .ret (b_bind (b_iet rfl rfl rfl) rfl)
  | some x =>
    obtain ⟨d, h1, h2⟩ := vo_some hi
    obtain ⟨j, rfl, h3⟩ := vI_some h2
    cases h3
    exact .ret (b_bind (b_ief rfl rfl (b_bind rfl (b_bind rfl (b_bind rfl (b_hands (amount_of hf h1)))))) rfl)
noncomputable def s_moved : Spec := fun ds σ => a3 ds fun p k h => vI k fun k => vH h fun _ ln _ => vo (back oV p) fun ptr => sD σ ln fun fs => if fs.length < 1000 then some (.none, σ.set ln (.dict (movedD fs k ptr))) else none
theorem moved_of {li ln ls : Nat} {fs : List (Str × V)} {ptr : Option Str} {k : Int} {σ : Sto} (hf : σ[ln]? = some (.dict fs)) (h : fs.length < 1000) : s_moved [oV ptr, .int k, .hands li ln ls] σ = some (.none, σ.set ln (.dict (movedD fs k ptr))) := (vo_of (back_of oV_inj ptr)).trans ((sD_of hf).trans (if_pos h))
theorem keep_of {li ln ls : Nat} {fs : List (Str × V)} {x : Str} {d : V} {σ : Sto} (hf : σ[ln]? = some (.dict fs)) (h : fs.length < 1000) : t_keep li ln ls [refV x, d] σ = some (.none, σ.set ln (.dict (dset fs x d))) := (vo_of (back_ref x)).trans (put_of hf h)
theorem plant_of {li ln ls : Nat} {es : List (Str × V)} {x : Str} {d : V} {σ : Sto} (hf : σ[li]? = some (.dict es)) (h : es.length < 1000) : t_plant li ln ls [refV x, d] σ = some (.none, σ.set li (.dict (dset es x d))) := (vo_of (back_ref x)).trans (put_of hf h)
theorem d_moved {prog : Program} : CallOk prog KK 4 (.ref 160) s_moved := by
  refine' defOk (f := 160) ["pointer", "position", "hands"] 0 (by intro P; k_is) (by intro P; k_is) (bind3 fun _ _ _ => rfl) ?body (Runs.meets ⟨fun ds σ hu hd => Sat.a3 fun o k h e1 => .I fun k' e2 => .H fun li ln ls e3 => .o fun ptr hp => .sD fun fs hf => .fi fun hz => .ok ?_⟩) (by decide +kernel) rfl rfl rfl
  case body => conv => { arg 4; whnf }; conv => { arg 5; whnf }; repeat' (with_reducible show (_ : Prop); first
   | (show JE _ _ _ _ (Expr.Name _ _) _; refine' W_local (by first | ((repeat first | exact At.here | apply At.there); done) | fail) (by decide +kernel) (by decide +kernel))
   | (show JE _ _ _ _ (Expr.Constant _ _ _) _; exact JE_none)
   | (show JE _ _ _ _ (Expr.Call (Expr.Attribute _ _ _) _ _ _) _; refine' W_h_keep ?_ ?_ (by lia) (by intro _; exact ⟨_, by with_unfolding_all rfl⟩) (by intro _; with_unfolding_all rfl) (by intro _; with_unfolding_all rfl))
   | exact JA_nil
   | refine' JA_cons ?_ ?_ (by intro _; with_unfolding_all rfl)
   | exact JXs_nil
   | refine' JXs_cons ?_ ?_
   | (show JX _ _ _ _ _ _; first | refine' W_expr ?_ (by intro _; with_unfolding_all rfl) | refine' JX_if ?_ ?_ ?_)
   | (show JT _ _ _ _ _ _; refine' JT_cmpS ?_ ?_ (by with_unfolding_all rfl)))
  obtain rfl := back_inv hp
  subst e1 e2 e3
  refine .leave rfl (by rw [List.length_set]; exact Nat.le_refl _) (under_set hu (movedD_under (under_get hu hf))) (by simp [V.under]) ?_
  cases ptr with
  | none => rw [movedD, set_same hf]; exact .of (b_seq (b_iff rfl rfl rfl) rfl) (.fin rfl)
  | some x => exact .of (b_seq (b_ift rfl rfl (b_seq (b_bind (b_bind rfl (b_bind rfl (b_bind (b_bind rfl (b_bind (b_bind rfl rfl) rfl)) (b_hands (keep_of hf hz))))) rfl) rfl)) rfl) (.fin rfl)
structure SStm where
  rows : List (Opd × Option Opd)
  goal : Str
  ptr : Option Str
noncomputable def rowV (r : Opd × Option Opd) : V := .tup [opV r.1, r.2.elim .none opV]
noncomputable def ssV (s : SStm) : V := .tup [.str (Str.ofString "string"), .tup (s.rows.map rowV), refV s.goal, oV s.ptr, .tup []]
theorem opV_none (o : Opd) : opV o ≠ .none := by cases o <;> exact fun h => nomatch h
theorem rowV_inj (a b : Opd × Option Opd) (h : rowV a = rowV b) : a = b := by
  obtain ⟨o, d⟩ := a
  obtain ⟨o', d'⟩ := b
  simp only [rowV, V.tup.injEq, List.cons.injEq, and_true] at h
  obtain ⟨h1, h2⟩ := h
  have := opV_inj _ _ h1
  subst this
  cases d <;> cases d' <;> simp only [Option.elim] at h2
  · rfl
  · exact absurd h2.symm (opV_none _)
  · exact absurd h2 (opV_none _)
  · rw [opV_inj _ _ h2]
theorem map_inj {α : Type} {f : α → V} (hf : ∀ a b, f a = f b → a = b) : ∀ {a b : List α}, a.map f = b.map f → a = b
  | [], [], _ => rfl
  | [], _ :: _, h => by cases h
  | _ :: _, [], h => by cases h
  | x :: xs, y :: ys, h => by
    rw [List.map_cons, List.map_cons, List.cons.injEq] at h
    rw [map_inj hf h.2, hf _ _ h.1]
theorem ssV_inj (a b : SStm) (h : ssV a = ssV b) : a = b := by
  obtain ⟨r, g, p⟩ := a
  obtain ⟨r', g', p'⟩ := b
  simp only [ssV, V.tup.injEq, List.cons.injEq, and_true, true_and] at h
  obtain ⟨h1, h2, h3⟩ := h
  rw [map_inj rowV_inj h1, refV_inj h2, oV_inj _ _ h3]
noncomputable def vOne {β : Type} (l : List UInt8) (k : UInt8 → Option β) : Option β := match l with | [c] => k c | _ => none
theorem vOne_some {β : Type} {l : List UInt8} {k : UInt8 → Option β} {c : β} (h : vOne l k = some c) : ∃ x, l = [x] ∧ k x = some c := by
  unfold vOne at h
  split at h
  · exact ⟨_, rfl, h⟩
  · cases h
noncomputable def pieceOf (es : List (Str × V)) (r : Opd × Option Opd) : Option (List UInt8 × Option UInt8) := vo (octOf es r.1) fun bs => r.2.elim (some (bs, none)) fun m => vo (octOf es m) fun l => vOne l fun c => some (bs, some c)
noncomputable def piecesOf (es : List (Str × V)) : List (Opd × Option Opd) → Option (List (List UInt8 × Option UInt8))
  | [] => some []
  | r :: rs => vo (pieceOf es r) fun p => vo (piecesOf es rs) fun ps => some (p :: ps)
noncomputable def pairV (p : List UInt8 × Option UInt8) : V := .tup [.bytes p.1, p.2.elim .none fun c => .bytes [c]]
noncomputable def cutP (p : List UInt8 × Option UInt8) : List UInt8 := p.2.elim p.1 fun c => p.1.takeWhile (· != c)
theorem rowOf_pair {p : List UInt8 × Option UInt8} (h : p.1.length ≤ 1000) : rowOf (pairV p) = some (cutP p) := by
  obtain ⟨o, d⟩ := p
  cases d <;> exact if_pos h
theorem rowsOf_pairs : ∀ {ps : List (List UInt8 × Option UInt8)}, (∀ p ∈ ps, p.1.length ≤ 1000) → rowsOf (ps.map pairV) = some (ps.map cutP)
  | [], _ => rfl
  | p :: ps, h => by
    rw [List.map_cons, List.map_cons]
    refine (vo_of (rowOf_pair (h p (List.mem_cons_self ..)))).trans ?_
    rw [rowsOf_pairs fun q hq => h q (List.mem_cons_of_mem _ hq)]
    rfl
noncomputable def stringS (ps : List (List UInt8)) (g : List UInt8) (b : Int) : List UInt8 × Int × Bool :=
  if 1 ≤ b ∧ b ≤ g.length then ((strS ps g (b - 1).toNat).1, ((strS ps g (b - 1).toNat).2.1 : Int) + 1, (strS ps g (b - 1).toNat).2.2) else (g, b, true)
theorem strR_eq (ps : List (List UInt8)) (g : List UInt8) (b : Int) : strR g b ps = .tup [.bytes (stringS ps g b).1, .int (stringS ps g b).2.1, .bool (stringS ps g b).2.2] := by
  unfold strR stringS
  split <;> rfl
noncomputable def overV (b : Bool) : V := .str (if b = true then Str.ofString "over" else Str.ofString "")
structure StrOk (es fs : List (Str × V)) (st : SStm) (ps : List (List UInt8 × Option UInt8)) (g : List UInt8) (b : Int) : Prop where
  hps : piecesOf es st.rows = some ps
  hg : valOf' es st.goal = some (.bytes g)
  hb : posOf fs st.ptr = some b
  pl : ∀ p ∈ ps, p.1.length ≤ 1000
  gl : g.length ≤ 1000
  rl : st.rows.length ≤ 1000
  el : es.length < 1000
  fl : fs.length < 1000
noncomputable def strE (es : List (Str × V)) (st : SStm) (ps : List (List UInt8 × Option UInt8)) (g : List UInt8) (b : Int) : List (Str × V) := dset es st.goal (.bytes (stringS (ps.map cutP) g b).1)
noncomputable def strF (fs : List (Str × V)) (st : SStm) (ps : List (List UInt8 × Option UInt8)) (g : List UInt8) (b : Int) : List (Str × V) := movedD fs (stringS (ps.map cutP) g b).2.1 st.ptr
noncomputable def iff' {β : Type} (P : Prop) (x : Option β) : Option β := by classical exact if P then x else none
theorem iff_pos {β : Type} {P : Prop} {x : Option β} (h : P) : iff' P x = x := if_pos h
theorem Sat.iff' {P : Prop} {x : Option (V × Sto)} {R : V → Sto → Prop} (h : P → Sat x R) : Sat (Mine.iff' P x) R := fun r σ' e => by
  by_cases hp : P
  · rw [iff_pos hp] at e; exact h hp r σ' e
  · unfold Mine.iff' at e; rw [if_neg hp] at e; cases e
noncomputable def s_strwith : Spec := fun ds σ => a2 ds fun s h => vo (back ssV s) fun st => vH h fun li ln _ => sD σ li fun es => sD σ ln fun fs => vo (piecesOf es st.rows) fun ps => vo (valOf' es st.goal) fun d => vB d fun g => vo (posOf fs st.ptr) fun b =>
  iff' (li ≠ ln ∧ StrOk es fs st ps g b) (some (overV (stringS (ps.map cutP) g b).2.2, (σ.set li (.dict (strE es st ps g b))).set ln (.dict (strF fs st ps g b))))
theorem strwith_of {li ln ls : Nat} {es fs : List (Str × V)} {st : SStm} {ps : List (List UInt8 × Option UInt8)} {g : List UInt8} {b : Int} {σ : Sto} (hi : σ[li]? = some (.dict es)) (hf : σ[ln]? = some (.dict fs)) (hne : li ≠ ln) (h : StrOk es fs st ps g b) :
    s_strwith [ssV st, .hands li ln ls] σ = some (overV (stringS (ps.map cutP) g b).2.2, (σ.set li (.dict (strE es st ps g b))).set ln (.dict (strF fs st ps g b))) :=
  (vo_of (back_of ssV_inj st)).trans ((sD_of hi).trans ((sD_of hf).trans ((vo_of h.hps).trans ((vo_of h.hg).trans ((vo_of h.hb).trans (iff_pos ⟨hne, h⟩))))))
noncomputable def swL (σ : Sto) (li ln ls : Nat) (st : SStm) (x y z : Option V) : Loc := [some (ssV st), some (.hands li ln ls), some (.loc σ.length), x, y, z, none, none, none, none, none, none, none]
theorem d_strwith {prog : Program} : CallOk prog KK 6 (.ref 167) s_strwith := by
  refine' defOk (f := 167) ["statement", "hands"] 11 (by intro P; k_is) (by intro P; k_is) (bind2 fun _ _ => rfl) ?body (Runs.meets ⟨fun ds σ hu hd => Sat.a2 fun s h e1 => .o fun st hs => .H fun li ln ls e2 => .sD fun es hi => .sD fun fs hf => .o fun ps _ => .o fun d _ => .B fun g _ => .o fun b _ => .iff' fun ⟨hne, hh⟩ => .ok ?_⟩) (by decide +kernel) rfl rfl rfl
  case body => conv => { arg 4; whnf }; conv => { arg 5; whnf }; repeat' (with_reducible show (_ : Prop); first
   | (show JE _ _ _ _ (Expr.Name _ _) _; refine' W_local (by first | ((repeat first | exact At.here | apply At.there); done) | fail) (by decide +kernel) (by decide +kernel))
   | (show JE _ _ _ _ (Expr.Constant _ _ _) _; first | exact JE_int _ | exact JE_str _ | exact JE_none)
   | (show JE _ _ _ _ (Expr.Call (Expr.Attribute _ _ _) _ _ _) _; first | refine' W_append ?_ ?_ (by intro _; with_unfolding_all rfl) (by intro _; with_unfolding_all rfl) (by with_unfolding_all rfl) (by intro _; with_unfolding_all rfl) (by intro _; with_unfolding_all rfl) | refine' W_h_plant ?_ ?_ (by lia) (by intro _; exact ⟨_, by with_unfolding_all rfl⟩) (by intro _; with_unfolding_all rfl) (by intro _; with_unfolding_all rfl))
   | (show JE _ _ _ _ (Expr.Call _ _ _ _) _; refine' W_call (by first | ((repeat first | exact At.here | apply At.there); done) | fail) (by intro P; k_is) (by decide +kernel) (by intro P; k_is) (by first | exact callOk_le d_lone (by decide) | exact callOk_le d_moved (by decide) | exact callOk_le d_pointed (by decide) | exact callOk_le d_strung (by decide) | fail) ?_ (by intro _; with_unfolding_all rfl) (by intro _; with_unfolding_all rfl))
   | (show JE _ _ _ _ _ _; first | refine' JE_sub ?_ ?_ (by intro _ _; with_unfolding_all rfl) | refine' JE_tuple ?_ | refine' JE_list ?_ | refine' JE_if ?_ ?_ ?_)
   | exact JA_nil
   | refine' JA_cons ?_ ?_ (by intro _; with_unfolding_all rfl)
   | exact JXs_nil
   | refine' JXs_cons ?_ ?_
   | (show JX _ _ _ _ (Stmt.Assign _ _ _) _; first | refine' W_store ?_ (by first | ((repeat first | exact At.here | apply At.there); done) | fail) (by intro _; with_unfolding_all rfl) | refine' JX_assignTup ?_ ?_ (by intro _; with_unfolding_all rfl) (by intro env O; obtain ⟨scp, b, c, d, e, f, g, h, i⟩ := env; have hs := O.scp; dsimp only at hs; subst hs; with_unfolding_all rfl))
   | (show JX _ _ _ _ _ _; first | refine' W_expr ?_ (by intro _; with_unfolding_all rfl) | refine' JX_return ?_ | refine' JX_for ?_ ?_ ?_ (by intro _ _; with_unfolding_all rfl))
   | (show JT _ _ _ _ _ _; first | refine' JT_cmpS ?_ ?_ (by with_unfolding_all rfl) | refine' JT_val ?_ (by intro _ _; with_unfolding_all rfl))
   | (show JS _ _ _ _ _ _; first | refine' JS_local (by first | ((repeat first | exact At.here | apply At.there); done) | fail) | refine' JS_tuple ?_)
   | refine' JSs_cons ?_ ?_ (by intro _; with_unfolding_all rfl)
   | exact JSs_nil)
  obtain rfl := back_inv hs
  subst e1 e2
  have hu1 : Und (σ.set li (.dict (strE es st ps g b))) := under_set hu (dset_under (under_get hu hi) (by simp [V.under]))
  refine .leave rfl (by rw [List.length_set, List.length_set]; exact Nat.le_refl _) (under_set hu1 (movedD_under (by rw [List.length_set]; exact under_get hu hf))) (by simp [overV, V.under]) ?_
  have hlt : li < σ.length := (List.getElem?_eq_some_iff.mp hi).1
  have hltn : ln < σ.length := (List.getElem?_eq_some_iff.mp hf).1
  refine .of (b_seq (b_bind (b_bind rfl rfl) rfl) (b_into (b_bind rfl (b_bind rfl (b_sto rfl))) (b_into (b_sto rfl) rfl))) ?_
  rw [tup_items, tup_ok]
  refine for_use (ι := List (List UInt8 × Option UInt8) × List (List UInt8 × Option UInt8) × List (Opd × Option Opd) × Option V × Option V × Option V) (fun i => i.2.2.1.map rowV) (fun i => swL σ li ln ls st i.2.2.2.1 i.2.2.2.2.1 i.2.2.2.2.2) (fun i => σ ++ [.list (i.1.map pairV)]) (fun i => piecesOf es i.2.2.1 = some i.2.1 ∧ ps = i.1 ++ i.2.1 ∧ i.1.length + i.2.2.1.length ≤ 1000) ([], ps, st.rows, none, none, none) rfl rfl rfl ⟨hh.hps, rfl, by simpa using hh.rl⟩ ?_
  rintro ⟨dn, rest, rows, x1, x2, x3⟩ ⟨h1, h2, h3⟩
  dsimp only at h1 h2 h3
  have hi' := get_left hi (Cell.list (dn.map pairV))
  cases rows with
  | nil =>
    cases h1
    rw [List.append_nil] at h2
    subst h2
    have q1 : s_lone [refV st.goal, .hands li ln ls] (σ ++ [.list (ps.map pairV)]) = some (.bytes g, σ ++ [.list (ps.map pairV)]) := lone_of (o := .ref st.goal) hi' ((vo_of hh.hg).trans rfl)
    have q2 := pointed_of (li := li) (ls := ls) (get_left hf (.list (ps.map pairV))) hh.hb
    have q3 := strung_of (b := b) (get_last σ (.list (ps.map pairV))) (rowsOf_pairs hh.pl) hh.gl
    rw [strR_eq] at q3
    have q4 := plant_of (li := li) (ln := ln) (ls := ls) (x := st.goal) (d := .bytes (stringS (ps.map cutP) g b).1) hi' hh.el
    rw [List.set_append_left _ _ hlt] at q4
    have q5 := moved_of (li := li) (ls := ls) (ptr := st.ptr) (k := (stringS (ps.map cutP) g b).2.1) (get_left (show (σ.set li (.dict (dset es st.goal (.bytes (stringS (ps.map cutP) g b).1))))[ln]? = some (.dict fs) by rw [List.getElem?_set_ne hne]; exact hf) (.list (ps.map pairV))) hh.fl
    rw [List.set_append_left _ _ (by rw [List.length_set]; exact hltn)] at q5
    unfold strE strF
    refine .nil rfl trivial ?_
    clear hu1 hh hd hu hs
    generalize stringS (ps.map cutP) g b = R at *
    obtain ⟨R1, R2, R3⟩ := R
    refine .of (b_seq (b_bind (b_bind (b_bind rfl (b_bind (b_bind (b_bind rfl (b_call q1)) (b_bind (b_bind (b_bind rfl (b_call q2)) rfl) rfl)) rfl)) (b_call q3)) rfl) (b_seq (b_bind (b_bind rfl (b_bind rfl (b_bind rfl (b_hands q4)))) rfl) (b_seq (b_bind (b_bind rfl (b_call q5)) rfl) rfl))) ?_
    cases R3
    · exact .retG (b_bind (b_ief rfl rfl rfl) rfl)
    · exact .retG (b_bind (b_iet rfl rfl rfl) rfl)
  | cons r rows =>
    obtain ⟨p, h4, h5⟩ := vo_some h1
    obtain ⟨ps', h6, h7⟩ := vo_some h5
    cases h7
    obtain ⟨o, d⟩ := r
    obtain ⟨bs, h8, h9⟩ := vo_some h4
    rw [List.length_cons] at h3
    have q1 := lone_of (ln := ln) (ls := ls) hi' h8
    have q2 : (dn.map pairV).length < 1000000 := by rw [List.length_map]; lia
    have hlen : ∀ q : List UInt8 × Option UInt8, (dn ++ [q]).length + rows.length ≤ 1000 := fun q => by rw [List.length_append, List.length_singleton]; lia
    cases d with
    | none =>
      cases h9
      have q3 := append_last (σ := σ) (xs := dn.map pairV) q2 (show dn.map pairV ++ [.tup [.bytes bs, .none]] = (dn ++ [(bs, none)]).map pairV by rw [List.map_append]; rfl)
      refine .next (dn ++ [(bs, none)], ps', rows, some (opV o), some .none, some .none) rfl trivial rfl ?_ rfl ⟨h6, by rw [h2, List.append_assoc]; rfl, hlen _⟩
      exact b_seq (b_bind (b_iet rfl rfl rfl) rfl) (b_seq (b_bind (b_bind rfl (b_bind (b_sto (is_list (get_last ..))) (b_bind (b_bind (b_bind (b_bind (b_bind rfl (b_call q1)) rfl) rfl) rfl) (b_call q3)))) rfl) rfl)
    | some m =>
      obtain ⟨l, h10, h11⟩ := vo_some h9
      obtain ⟨c, rfl, h12⟩ := vOne_some h11
      cases h12
      have q3 := append_last (σ := σ) (xs := dn.map pairV) q2 (show dn.map pairV ++ [.tup [.bytes bs, .bytes [c]]] = (dn ++ [(bs, some c)]).map pairV by rw [List.map_append]; rfl)
      have q4 := lone_of (ln := ln) (ls := ls) hi' h10
      have hN : vcmpS .Is (opV m) .none (σ ++ [.list (dn.map pairV)]) = some false := by cases m <;> rfl
      refine .next (dn ++ [(bs, some c)], ps', rows, some (opV o), some (opV m), some (.bytes [c])) rfl trivial rfl ?_ rfl ⟨h6, by rw [h2, List.append_assoc]; rfl, hlen _⟩
      exact b_seq (b_bind (b_ief (b_bind rfl (b_bind rfl (b_sto hN))) rfl (b_bind rfl (b_call q4))) rfl) (b_seq (b_bind (b_bind rfl (b_bind (b_sto (is_list (get_last ..))) (b_bind (b_bind (b_bind (b_bind (b_bind rfl (b_call q1)) rfl) rfl) rfl) (b_call q3)))) rfl) rfl)
noncomputable def layL : List UInt8 → List UInt8 → Nat → List UInt8 × Nat × Bool
  | [], g, p => (g, p, false)
  | c :: r, g, p => if g.length ≤ p then (g, p, true) else layL r (g.set p c) (p + 1)
theorem lay_app (rest : List UInt8) : ∀ (x g : List UInt8) (p : Nat), p ≤ g.length → layL (x ++ rest) g p =
    if (x.take (g.length - p)).length < x.length then (layG x g p, p + (x.take (g.length - p)).length, true)
    else layL rest (layG x g p) (p + (x.take (g.length - p)).length)
  | [], g, p, h => by simp [layG]
  | c :: r, g, p, h => by
    rw [List.cons_append, layL]
    by_cases hp : g.length ≤ p
    · have e : g.length - p = 0 := by lia
      rw [if_pos hp, e, List.take_zero, if_pos (by simp)]
      simp [layG, e]
    · rw [if_neg hp]
      obtain ⟨k, hk⟩ : ∃ k, g.length - p = k + 1 := ⟨g.length - p - 1, by lia⟩
      rw [lay_app rest r (g.set p c) (p + 1) (by rw [List.length_set]; lia), List.length_set, hk, List.take_succ_cons]
      have e1 : g.length - (p + 1) = k := by lia
      rw [e1]
      have e2 : (g.set p c).take (p + 1) = g.take p ++ [c] := by
        rw [List.take_succ_eq_append_getElem (by rw [List.length_set]; lia), List.getElem_set_self, List.take_set_of_le (Nat.le_refl _)]
      have e3 : ∀ n, (g.set p c).drop (p + 1 + n) = g.drop (p + (n + 1)) := fun n => by
        rw [List.drop_set_of_lt (by lia)]; congr 1; lia
      have e4 : ∀ n, p + 1 + n = p + (n + 1) := fun n => by lia
      have e5 : layG r (g.set p c) (p + 1) = layG (c :: r) g p := by
        unfold layG
        rw [List.length_set, e1, e2, e3, hk, List.take_succ_cons, List.length_cons]
        simp only [List.append_assoc, List.cons_append, List.nil_append]
      rw [e5, e4, List.length_cons, List.length_cons]
      by_cases hc : (r.take k).length < r.length
      · rw [if_pos hc, if_pos (by lia)]
      · rw [if_neg hc, if_neg (by lia)]
theorem strS_layL : ∀ (ps : List (List UInt8)) (g : List UInt8) (p : Nat), p ≤ g.length → strS ps g p = layL ps.flatten g p
  | [], g, p, _ => rfl
  | x :: xs, g, p, h => by
    obtain ⟨h1, h2⟩ := lay_len g x p h
    rw [strS, List.flatten_cons, lay_app _ _ _ _ h]
    split
    · rfl
    · exact strS_layL xs _ _ (by rw [h1]; exact h2)
theorem layL_len : ∀ (x g : List UInt8) (p : Nat), (layL x g p).1.length = g.length
  | [], _, _ => rfl
  | c :: r, g, p => by
    rw [layL]; split
    · rfl
    · rw [layL_len r, List.length_set]
theorem get2a (σ : Sto) (a b : Cell) : (σ ++ [a] ++ [b])[σ.length]? = some a := get_left (get_last σ a) b
theorem set2a (σ : Sto) (a b c : Cell) : (σ ++ [a] ++ [b]).set σ.length c = σ ++ [c] ++ [b] := by
  rw [List.set_append_left _ _ (by simp), set_last]
theorem get2b (σ : Sto) (a b : Cell) : (σ ++ [a] ++ [b])[σ.length + 1]? = some b := by
  have := get_last (σ ++ [a]) b
  rwa [List.length_append] at this
theorem set2b (σ : Sto) (a b c : Cell) : (σ ++ [a] ++ [b]).set (σ.length + 1) c = σ ++ [a] ++ [c] := by
  have := set_last (σ ++ [a]) b c
  rwa [List.length_append] at this
theorem byteV_set (g : List UInt8) (p : Nat) (c : UInt8) : (byteV g).set p (.int c.toNat) = byteV (g.set p c) := by
  unfold byteV; rw [List.map_set]
theorem byteV_len (g : List UInt8) : (byteV g).length = g.length := List.length_map ..
theorem byteV_ints (g : List UInt8) : intsOf (byteV g) = some (g.map fun c => (c.toNat : Int)) := by
  have := intsOf_map (g.map fun c => (c.toNat : Int))
  rwa [List.map_map] at this
theorem byteV_all (g : List UInt8) : (g.map fun c => (c.toNat : Int)).all (fun n => decide (0 ≤ n) && decide (n < 256)) = true := by
  rw [List.all_map, List.all_eq_true]
  intro c _
  have := c.toNat_lt
  simp only [Function.comp, Bool.and_eq_true, decide_eq_true_eq]
  lia
theorem byteV_back (g : List UInt8) : (g.map fun c => (c.toNat : Int)).map (fun n => n.toNat.toUInt8) = g := by
  rw [List.map_map]
  conv => rhs; rw [← List.map_id g]
  refine List.map_congr_left fun c _ => ?_
  simp [Function.comp]
theorem byteV_app (a b : List UInt8) : byteV (a ++ b) = byteV a ++ byteV b := List.map_append ..
def Keys (es : List (Str × V)) : Prop := (es.map (·.1)).Nodup
theorem valOf_mem {x : Str} {d : V} : ∀ {es : List (Str × V)}, valOf' es x = some d → x ∈ es.map (·.1)
  | [], h => by cases h
  | (k, d') :: r, h => by
    rw [valOf'] at h
    split at h
    · rename_i e; subst e; exact List.mem_cons_self ..
    · exact List.mem_cons_of_mem _ (valOf_mem h)
theorem dset_map_not {x : Str} {d : V} : ∀ {es : List (Str × V)}, x ∉ es.map (·.1) → es.map (fun p => if p.1 = x then (p.1, d) else p) = es
  | [], _ => rfl
  | (k, d') :: r, h => by
    rw [List.map_cons, List.mem_cons, not_or] at h
    rw [List.map_cons, dset_map_not h.2, if_neg (Ne.symm h.1)]
theorem dset_map_id {x : Str} {d : V} : ∀ {es : List (Str × V)}, Keys es → valOf' es x = some d → es.map (fun p => if p.1 = x then (p.1, d) else p) = es
  | [], _, h => by cases h
  | (k, d') :: r, hk, h => by
    rw [Keys, List.map_cons, List.nodup_cons] at hk
    rw [valOf'] at h
    rw [List.map_cons]
    by_cases hx : k = x
    · subst hx
      rw [if_pos rfl] at h
      cases h
      rw [if_pos rfl, dset_map_not hk.1]
    · rw [if_neg hx] at h
      rw [if_neg hx, dset_map_id hk.2 h]
theorem any_key {x : Str} {es : List (Str × V)} (h : x ∈ es.map (·.1)) : es.any (fun p => p.1 = x) = true := by
  obtain ⟨p, hp, rfl⟩ := List.mem_map.mp h
  exact List.any_eq_true.mpr ⟨p, hp, by simp⟩
theorem dset_id {x : Str} {d : V} {es : List (Str × V)} (hk : Keys es) (h : valOf' es x = some d) : dset es x d = es := by
  unfold dset
  rw [if_pos (any_key (valOf_mem h)), dset_map_id hk h]
theorem dset_keys {x : Str} {d : V} {es : List (Str × V)} (h : x ∈ es.map (·.1)) : (dset es x d).map (·.1) = es.map (·.1) := by
  unfold dset
  rw [if_pos (any_key h), List.map_map]
  refine List.map_congr_left fun p _ => ?_
  show (if p.1 = x then (p.1, d) else p).1 = p.1
  split <;> rfl
theorem dset_map_val {x : Str} {d : V} (y : Str) : ∀ {es : List (Str × V)}, valOf' (es.map (fun p => if p.1 = x then (p.1, d) else p)) y = if y = x then (valOf' es y).map fun _ => d else valOf' es y
  | [] => by split <;> rfl
  | (k, d') :: r => by
    rw [List.map_cons]
    have ih := dset_map_val (x := x) (d := d) y (es := r)
    by_cases hk : k = x
    · subst hk
      rw [if_pos rfl, valOf', valOf']
      by_cases hy : k = y
      · subst hy; rw [if_pos rfl, if_pos rfl, if_pos rfl]; rfl
      · rw [if_neg hy, if_neg hy, ih, if_neg (Ne.symm hy)]
    · rw [if_neg hk, valOf', valOf']
      by_cases hy : k = y
      · subst hy; rw [if_pos rfl, if_pos rfl, if_neg hk]
      · rw [if_neg hy, if_neg hy, ih]
theorem dset_val {x : Str} {d : V} {es : List (Str × V)} (h : x ∈ es.map (·.1)) (y : Str) : valOf' (dset es x d) y = if y = x then some d else valOf' es y := by
  unfold dset
  rw [if_pos (any_key h), dset_map_val]
  by_cases hy : y = x
  · subst hy
    rw [if_pos rfl, if_pos rfl]
    have : ∀ {es : List (Str × V)}, y ∈ es.map (·.1) → ∃ d', valOf' es y = some d' := fun {es} => by
      induction es with
      | nil => intro h; cases h
      | cons p r ih =>
        intro h
        obtain ⟨k, d'⟩ := p
        rw [valOf']
        by_cases hk : k = y
        · exact ⟨d', if_pos hk⟩
        · rw [if_neg hk]
          rw [List.map_cons, List.mem_cons] at h
          exact ih (h.resolve_left fun z => hk z.symm)
    obtain ⟨d', e⟩ := this h
    rw [e]; rfl
  · rw [if_neg hy, if_neg hy]
noncomputable def s_sdue : Spec := fun ds σ => a3 ds fun i n s => vL i fun li => vL n fun ln => vo (back ssV s) fun st => sD σ li fun es => sD σ ln fun fs => vo (piecesOf es st.rows) fun ps => vo (valOf' es st.goal) fun d => vB d fun g => vo (posOf fs st.ptr) fun b =>
  iff' (li ≠ ln ∧ StrOk es fs st ps g b ∧ Keys es ∧ Keys fs) (some (overV (stringS (ps.map cutP) g b).2.2, (σ.set li (.dict (strE es st ps g b))).set ln (.dict (strF fs st ps g b))))
theorem sdue_of {li ln : Nat} {es fs : List (Str × V)} {st : SStm} {ps : List (List UInt8 × Option UInt8)} {g : List UInt8} {b : Int} {σ : Sto} (hi : σ[li]? = some (.dict es)) (hf : σ[ln]? = some (.dict fs)) (hne : li ≠ ln) (h : StrOk es fs st ps g b) (he : Keys es) (hn : Keys fs) :
    s_sdue [.loc li, .loc ln, ssV st] σ = some (overV (stringS (ps.map cutP) g b).2.2, (σ.set li (.dict (strE es st ps g b))).set ln (.dict (strF fs st ps g b))) :=
  (vo_of (back_of ssV_inj st)).trans ((sD_of hi).trans ((sD_of hf).trans ((vo_of h.hps).trans ((vo_of h.hg).trans ((vo_of h.hb).trans (iff_pos ⟨hne, h, he, hn⟩))))))
theorem bytes_of {l : Nat} {g : List UInt8} {σ : Sto} (h : σ[l]? = some (.list (byteV g))) : sBytes [.loc l] σ = some (.bytes g, σ) :=
  (sL_of h).trans ((vo_of (byteV_ints g)).trans ((if_pos (byteV_all g)).trans (by rw [byteV_back])))
theorem append2b {σ : Sto} {a : Cell} {xs ys : List V} {d : V} (h2 : xs.length < 1000000) (h : xs ++ [d] = ys) : s_append [.loc (σ.length + 1), d] (σ ++ [a] ++ [.list xs]) = some (.none, σ ++ [a] ++ [.list ys]) := by
  rw [append_of (get2b ..) h2, set2b, h]
theorem byteV_snoc {line cut : List UInt8} {j : Nat} {c : UInt8} (h : cut[j]? = some c) : byteV (line ++ cut.take j) ++ [.int c.toNat] = byteV (line ++ cut.take (j + 1)) := by
  rw [List.take_add_one, h, ← List.append_assoc, byteV_app (line ++ cut.take j)]; rfl
theorem cutP_le {p : List UInt8 × Option UInt8} : (cutP p).length ≤ p.1.length := by
  obtain ⟨o, d⟩ := p
  cases d with
  | none => exact Nat.le_refl _
  | some c => exact takeWhile_len _
theorem fin_use {κ : Type} {f g : PM Fl} {ρ : Loc} {σ σ' : Sto} {r : V} (Lf : κ → Loc) (Sf : κ → Sto) (Wf : κ → Prop) (fin : ∀ k, Wf k → Ends (g (Lf k) (Sf k)) r σ') (h : (∀ k, Wf k → Ends (g (Lf k) (Sf k)) r σ') → Ends (pseq f g ρ σ) r σ') : Ends (pseq f g ρ σ) r σ' := h fin
theorem get_leftG {σ G : Sto} {l : Nat} {x : Cell} (h : σ[l]? = some x) : (σ ++ G)[l]? = some x := by
  rw [List.getElem?_append_left (List.getElem?_eq_some_iff.mp h).1]; exact h
theorem one_len (c : UInt8) (j : Nat) (bs : List UInt8) : sl bs (some (j : Int)) (some ((j : Int) + (([c] : List UInt8).length : Int))) = (bs.drop j).take 1 := by
  show (bs.drop j).take (((j : Int) + (([c] : List UInt8).length : Int)).toNat - j) = _
  rw [show ((j : Int) + (([c] : List UInt8).length : Int)).toNat - j = 1 by simp only [List.length_singleton]; lia]
theorem one_ok (c : UInt8) (j : Nat) : slOk (some (j : Int)) (some ((j : Int) + (([c] : List UInt8).length : Int))) = true := by
  have h1 : (0 : Int) ≤ (j : Int) := Int.natCast_nonneg _
  have h2 : (0 : Int) ≤ (j : Int) + (([c] : List UInt8).length : Int) := by simp only [List.length_singleton]; lia
  simp only [slOk, Option.all, h1, h2, decide_true, Bool.and_self]
abbrev SdI : Type := List UInt8 × List (List UInt8 × Option UInt8) × List (Opd × Option Opd) × Option V × Option V × Option V × Option V × Option V
noncomputable def sdL (σ : Sto) (li ln : Nat) (st : SStm) (b : Int) (i : SdI) : Loc := [some (.loc li), some (.loc ln), some (ssV st), some (.int b), some (.loc σ.length), some (.str st.goal), some (.str (Str.ofString "")), some (.loc (σ.length + 1)), i.2.2.2.1, i.2.2.2.2.1, i.2.2.2.2.2.1, i.2.2.2.2.2.2.1, i.2.2.2.2.2.2.2, none, none, none, none, none]
abbrev sdW (es : List (Str × V)) (ps : List (List UInt8 × Option UInt8)) (i : SdI) : Prop := piecesOf es i.2.2.1 = some i.2.1 ∧ (ps.map cutP).flatten = i.1 ++ (i.2.1.map cutP).flatten ∧ (∀ p ∈ i.2.1, p.1.length ≤ 1000) ∧ i.1.length + 1000 * i.2.2.1.length ≤ 1000000
noncomputable def sdM (σ : Sto) (li ln : Nat) (st : SStm) (x8 x9 x10 x11 x12 : Option V) (w : V) (p : Nat) (x13 : Option V) : Loc := [some (.loc li), some (.loc ln), some (ssV st), some (.int ((p : Int) + 1)), some (.loc σ.length), some (.str st.goal), some w, some (.loc (σ.length + 1)), x8, x9, x10, x11, x12, x13, none, none, none, none]
theorem d_sdue {prog : Program} : CallOk prog KK 3 (.ref 247) s_sdue := by
  refine' defOk (f := 247) ["items", "numbers", "statement"] 15 (by intro P; k_is) (by intro P; k_is) (bind3 fun _ _ _ => rfl) ?body (Runs.meets ⟨fun ds σ hu hd => Sat.a3 fun i n s e1 => .L fun li e2 => .L fun ln e3 => .o fun st hs => .sD fun es hi => .sD fun fs hf => .o fun ps _ => .o fun d _ => .B fun g _ => .o fun b _ => .iff' fun ⟨hne, hh, hke, hkf⟩ => .ok ?_⟩) (by decide +kernel) rfl rfl rfl
  case body => conv => { arg 4; whnf }; conv => { arg 5; whnf }; repeat' (with_reducible show (_ : Prop); first
   | (show JE _ _ _ _ (Expr.Name _ _) _; refine' W_local (by first | ((repeat first | exact At.here | apply At.there); done) | fail) (by decide +kernel) (by decide +kernel))
   | (show JE _ _ _ _ (Expr.Constant _ _ _) _; first | exact JE_int _ | exact JE_str _ | exact JE_none)
   | (show JE _ _ _ _ (Expr.Call (Expr.Attribute _ _ _) _ _ _) _; refine' W_append ?_ ?_ (by intro _; with_unfolding_all rfl) (by intro _; with_unfolding_all rfl) (by with_unfolding_all rfl) (by intro _; with_unfolding_all rfl) (by intro _; with_unfolding_all rfl))
   | (show JE _ _ _ _ (Expr.Call _ _ _ _) _; first | refine' W_callB (by first | ((repeat first | exact At.here | apply At.there); done) | fail) (by intro P; k_is) (by first | exact PySem.boot_len | fail) (by decide +kernel) (by decide +kernel) (by first | exact cLen | fail) ?_ (by intro _; with_unfolding_all rfl) (by intro _; with_unfolding_all rfl) | refine' W_callT (by first | ((repeat first | exact At.here | apply At.there); done) | fail) (by intro P; k_is) (by first | exact boot_bytes | exact PyProof.Rows.boot_list | fail) (by decide +kernel) (by decide +kernel) (by first | exact cBytes | exact cList | fail) ?_ (by intro _; with_unfolding_all rfl) (by intro _; with_unfolding_all rfl) | refine' W_call (by first | ((repeat first | exact At.here | apply At.there); done) | fail) (by intro P; k_is) (by decide +kernel) (by intro P; k_is) (by first | exact callOk_le d_fetch (by decide) | fail) ?_ (by intro _; with_unfolding_all rfl) (by intro _; with_unfolding_all rfl))
   | (show JE _ _ _ _ _ _; first | refine' JE_bin ?_ ?_ | refine' JE_sub ?_ ?_ (by intro _ _; with_unfolding_all rfl) | refine' JE_slice ?_ ?_ ?_ | refine' JE_tuple ?_ | refine' JE_list ?_ | refine' JE_if ?_ ?_ ?_)
   | exact JA_nil
   | refine' JA_cons ?_ ?_ (by intro _; with_unfolding_all rfl)
   | exact JXs_nil
   | refine' JXs_cons ?_ ?_
   | (show JX _ _ _ _ (Stmt.Assign _ _ _) _; first | refine' W_store ?_ (by first | ((repeat first | exact At.here | apply At.there); done) | fail) (by intro _; with_unfolding_all rfl) | refine' JX_setItem ?_ ?_ ?_ (by intro _; with_unfolding_all rfl) | refine' W_swap3 ?_ (by first | ((repeat first | exact At.here | apply At.there); done) | fail) (by first | ((repeat first | exact At.here | apply At.there); done) | fail) (by first | ((repeat first | exact At.here | apply At.there); done) | fail) (by intro _; with_unfolding_all rfl) (by intro env O; obtain ⟨scp, b, c, d, e, f, g, h, i⟩ := env; have hs := O.scp; dsimp only at hs; subst hs; with_unfolding_all rfl))
   | (show JX _ _ _ _ _ _; first | refine' W_expr ?_ (by intro _; with_unfolding_all rfl) | refine' JX_return ?_ | refine' JX_if ?_ ?_ ?_ | refine' JX_for ?_ ?_ ?_ (by intro _ _; with_unfolding_all rfl) | refine' JX_while big ?_ ?_ | exact JX_break)
   | (show JT _ _ _ _ _ _; first | refine' JT_cmpS ?_ ?_ (by with_unfolding_all rfl) | refine' JT_chain2 ?_ ?_ ?_ (by with_unfolding_all rfl) (by with_unfolding_all rfl) | refine' JT_not ?_ | refine' JT_bool ?_)
   | (show JS _ _ _ _ _ _; first | refine' JS_local (by first | ((repeat first | exact At.here | apply At.there); done) | fail) | refine' JS_tuple ?_)
   | refine' JSs_cons ?_ ?_ (by intro _; with_unfolding_all rfl)
   | exact JSs_nil
   | refine' JP_some ?_
   | refine' JB_and ?_ ?_
   | exact JB_andNil
   | refine' JB_or ?_ ?_
   | exact JB_orNil)
  obtain rfl := back_inv hs
  subst e1 e2 e3
  have hu1 : Und (σ.set li (.dict (strE es st ps g b))) := under_set hu (dset_under (under_get hu hi) (by simp [V.under]))
  refine .leave rfl (by rw [List.length_set, List.length_set]; exact Nat.le_refl _) (under_set hu1 (movedD_under (by rw [List.length_set]; exact under_get hu hf))) (by simp [overV, V.under]) ?_
  have hlt : li < σ.length := (List.getElem?_eq_some_iff.mp hi).1
  have hltn : ln < σ.length := (List.getElem?_eq_some_iff.mp hf).1
  have hL : sList [.bytes g] σ = some (.loc σ.length, σ ++ [.list (byteV g)]) := if_pos (Nat.le_trans hh.gl (by decide))
  have hlen := len_list (get_last σ (.list (byteV g)))
  rw [byteV_len] at hlen
  have L1 : (σ ++ [Cell.list (byteV g)]).length = σ.length + 1 := by rw [List.length_append]; rfl
  refine .of (b_seq (b_bind (a := .int b) (ρ1 := [some (.loc li), some (.loc ln), some (ssV st), none, none, none, none, none, none, none, none, none, none, none, none, none, none, none]) (σ1 := σ) ?place rfl) (b_seq (b_bind (b_bind (b_bind (b_bind (b_bind (b_bind rfl (b_bind rfl (b_sto (v_dict hi hh.hg)))) rfl) (b_call hL)) rfl) rfl) rfl) rfl)) ?rest
  case place =>
    have hb := hh.hb
    obtain ⟨rows, goal, ptr⟩ := st
    cases ptr with
    | none => cases hb; exact b_iet rfl rfl rfl
    | some x =>
      obtain ⟨d, h1, h2⟩ := vo_some hb
      obtain ⟨j, rfl, h3⟩ := vI_some h2
      cases h3
      exact b_ief rfl rfl (b_bind rfl (b_bind rfl (b_sto (v_dict hf h1))))
  by_cases hr : 1 ≤ b ∧ b ≤ g.length
  case neg =>
    have hS : stringS (ps.map cutP) g b = (g, b, true) := if_neg hr
    have hF : strF fs st ps g b = fs := by
      unfold strF
      rw [hS]
      have hb := hh.hb
      obtain ⟨rows, goal, ptr⟩ := st
      cases ptr with
      | none => rfl
      | some x =>
        obtain ⟨d, h1, h2⟩ := vo_some hb
        obtain ⟨j, rfl, h3⟩ := vI_some h2
        cases h3
        exact dset_id hkf h1
    have hE : strE es st ps g b = es := by unfold strE; rw [hS]; exact dset_id hke hh.hg
    rw [hE, hF, hS, set_same hi, set_same hf]
    by_cases h1 : 1 ≤ b
    · exact .of (b_seqr (b_ift (b_bind (b_bind rfl (b_bind rfl (b_iet rfl (decide_eq_true h1) (b_bind (b_bind rfl (b_call hlen)) rfl)))) rfl) (by rw [decide_eq_false (fun h => hr ⟨h1, h⟩)]; rfl) (b_seqr rfl))) ⟨_, _, _, rfl, rfl⟩
    · exact .of (b_seqr (b_ift (b_bind (b_bind rfl (b_bind rfl (b_ief rfl (decide_eq_false h1) rfl))) rfl) rfl (b_seqr rfl))) ⟨_, _, _, rfl, rfl⟩
  case pos =>
  obtain ⟨hr1, hr2⟩ := hr
  obtain ⟨p0, hp0⟩ : ∃ p0 : Nat, b = (p0 : Int) + 1 := ⟨(b - 1).toNat, by lia⟩
  have hp1 : p0 ≤ g.length := by lia
  have hR : stringS (ps.map cutP) g b = ((layL (ps.map cutP).flatten g p0).1, ((layL (ps.map cutP).flatten g p0).2.1 : Int) + 1, (layL (ps.map cutP).flatten g p0).2.2) := by
    have e1 : (b - 1).toNat = p0 := by lia
    unfold stringS
    rw [if_pos ⟨hr1, hr2⟩, e1, strS_layL _ _ _ hp1]
  refine .of (b_seq (b_iff (b_bind (b_bind rfl (b_bind rfl (b_iet rfl (decide_eq_true hr1) (b_bind (b_bind rfl (b_call hlen)) rfl)))) rfl) (by rw [decide_eq_true hr2]; rfl) rfl) (b_seq rfl (b_into (b_bind rfl (b_bind rfl (b_sto rfl))) (b_into (b_sto rfl) rfl)))) ?_
  rw [tup_items, tup_ok]
  refine for_use (ι := SdI) (fun i => i.2.2.1.map rowV) (sdL σ li ln st b) (fun i => σ ++ [.list (byteV g)] ++ [.list (byteV i.1)]) (sdW es ps) ([], ps, st.rows, none, none, none, none, none) rfl (by rw [L1]; rfl) rfl ⟨hh.hps, rfl, hh.pl, by have := hh.rl; dsimp only [List.length_nil]; lia⟩ ?_
  rintro ⟨line, rest, rows, x8, x9, x10, x11, x12⟩ ⟨h1, h2, h3, h4⟩
  dsimp only at h1 h2 h3 h4
  cases rows with
  | nil =>
    cases h1
    rw [List.map_nil, List.flatten_nil, List.append_nil] at h2
    rw [h2] at hR
    refine .nil rfl trivial (.of (b_into rfl (b_into (b_sto (src_list (get2b ..))) rfl)) ?_)
    rw [list_items, list_ok]
    subst hp0
    refine fin_use (κ := V × List UInt8 × Nat × Option V × Bool) (fun k => sdM σ li ln st x8 x9 x10 x11 x12 k.1 k.2.2.1 k.2.2.2.1) (fun k => σ ++ [.list (byteV k.2.1)] ++ [.list (byteV line)]) (fun k => layL line g p0 = (k.2.1, k.2.2.1, k.2.2.2.2) ∧ k.1 = overV k.2.2.2.2) ?fin fun fin => ?loop
    case fin =>
      rintro ⟨w, g', p, x13, o⟩ ⟨hl, hw⟩
      dsimp only at hl hw ⊢
      subst hw
      rw [hl] at hR
      unfold strE strF
      rw [hR]
      dsimp only
      have b1 := bytes_of (get2a σ (.list (byteV g')) (.list (byteV line)))
      have s1 : ∀ ρ : Loc, psetItem (.loc li) (.str st.goal) (.bytes g') ρ (σ ++ [.list (byteV g')] ++ [.list (byteV line)]) = some ((), ρ, σ.set li (.dict (dset es st.goal (.bytes g'))) ++ ([.list (byteV g')] ++ [.list (byteV line)])) := fun ρ => by
        rw [b_setD (get_left (get_left hi _) _) hh.el, List.append_assoc, List.set_append_left _ _ hlt]
      refine .of (b_seq (b_bind (b_bind rfl (b_call b1)) (b_bind rfl (b_bind rfl (b_bind (s1 _) rfl)))) rfl) ?_
      have hfl := hh.fl
      clear hh hs hd hl hR b1 hu1 h4 h2 h3
      obtain ⟨rows, goal, ptr⟩ := st
      cases ptr with
      | none =>
        rw [movedD, set_same (show (σ.set li (.dict (dset es goal (.bytes g'))))[ln]? = some (.dict fs) by rw [List.getElem?_set_ne hne]; exact hf)]
        exact .of (b_seq (b_iff rfl rfl rfl) rfl) (.retG (b_bind rfl rfl))
      | some x =>
        have s2 : ∀ ρ : Loc, psetItem (.loc ln) (.str x) (.int ((p : Int) + 1)) ρ (σ.set li (.dict (dset es goal (.bytes g'))) ++ ([.list (byteV g')] ++ [.list (byteV line)])) = some ((), ρ, (σ.set li (.dict (dset es goal (.bytes g')))).set ln (.dict (dset fs x (.int ((p : Int) + 1)))) ++ ([.list (byteV g')] ++ [.list (byteV line)])) := fun ρ => by
          rw [b_setD (get_leftG (show (σ.set li (.dict (dset es goal (.bytes g'))))[ln]? = some (.dict fs) by rw [List.getElem?_set_ne hne]; exact hf)) hfl, List.set_append_left _ _ (by rw [List.length_set]; exact hltn)]
        exact .of (b_seq (b_ift rfl rfl (b_seq (b_bind rfl (b_bind rfl (b_bind rfl (b_bind (s2 _) rfl)))) rfl)) rfl) (.retG (b_bind rfl rfl))
    refine for_use (ι := List UInt8 × List UInt8 × Nat × Option V) (fun i => byteV i.1) (fun i => sdM σ li ln st x8 x9 x10 x11 x12 (.str (Str.ofString "")) i.2.2.1 i.2.2.2) (fun i => σ ++ [.list (byteV i.2.1)] ++ [.list (byteV line)]) (fun i => layL line g p0 = layL i.1 i.2.1 i.2.2.1) (line, g, p0, none) rfl rfl rfl rfl ?_
    rintro ⟨rest, g', p, x13⟩ hl
    dsimp only at hl
    have hlen' := len_list (get2a σ (.list (byteV g')) (.list (byteV line)))
    rw [byteV_len] at hlen'
    cases rest with
    | nil => exact .nil rfl (get2b ..) (fin ⟨_, g', p, x13, false⟩ ⟨hl, rfl⟩)
    | cons c rest =>
      by_cases hp : g'.length ≤ p
      · rw [layL, if_pos hp] at hl
        exact .brk rfl (get2b ..) rfl (b_seqb (b_ift (b_bind rfl (b_bind (b_bind rfl (b_call hlen')) rfl)) (decide_eq_true (by dsimp only; lia)) (b_seq rfl (b_seqb rfl)))) (fin ⟨.str (Str.ofString "over"), g', p, some (.int c.toNat), true⟩ ⟨hl, rfl⟩)
      · rw [layL, if_neg hp] at hl
        have s1 : ∀ ρ : Loc, psetItem (.loc σ.length) (.int ((p : Int) + 1 - 1)) (.int c.toNat) ρ (σ ++ [.list (byteV g')] ++ [.list (byteV line)]) = some ((), ρ, σ ++ [.list (byteV (g'.set p c))] ++ [.list (byteV line)]) := fun ρ => by
          rw [Int.add_sub_cancel, b_setL (get2a ..) ⟨by lia, by rw [byteV_len]; lia⟩, set2a, Int.toNat_natCast, byteV_set]
        exact .next (rest, g'.set p c, p + 1, some (.int c.toNat)) rfl (get2b ..) rfl (b_seq (b_iff (b_bind rfl (b_bind (b_bind rfl (b_call hlen')) rfl)) (decide_eq_false (by dsimp only; lia)) rfl) (b_seq (b_bind rfl (b_bind rfl (b_bind rfl (b_bind (s1 _) rfl)))) rfl)) rfl hl
  | cons r rows =>
    obtain ⟨p, h5, h6⟩ := vo_some h1
    obtain ⟨ps', h7, h8⟩ := vo_some h6
    cases h8
    obtain ⟨o, d⟩ := r
    obtain ⟨bs, h9, h10⟩ := vo_some h5
    rw [List.length_cons] at h4
    have q1 := fetch_of (get_left (get_left hi (.list (byteV g))) (.list (byteV line))) h9
    have hbs : bs.length ≤ 1000 := by
      have := h3 p (List.mem_cons_self ..)
      cases d with
      | none => cases h10; exact this
      | some m =>
        obtain ⟨l, _, h11⟩ := vo_some h10
        obtain ⟨c, rfl, h12⟩ := vOne_some h11
        cases h12
        exact this
    have hW : ∀ x8 x9 x10 x11 x12 : Option V, sdW es ps (line ++ cutP p, ps', rows, x8, x9, x10, x11, x12) := fun _ _ _ _ _ => by
      have h11 := h3 p (List.mem_cons_self ..)
      have h12 : (cutP p).length ≤ p.1.length := cutP_le
      exact ⟨h7, by rw [h2, List.append_assoc]; rfl, fun q hq => h3 q (List.mem_cons_of_mem _ hq), by dsimp only; rw [List.length_append]; lia⟩
    cases d with
    | none =>
      cases h10
      refine .next (line ++ bs, ps', rows, some (opV o), some .none, some (.bytes bs), some .none, some (.int bs.length)) rfl trivial rfl ?_ rfl (hW ..)
      refine b_seq (b_bind (b_bind rfl (b_call q1)) rfl) (b_seq (b_bind (b_iet rfl rfl rfl) rfl) (b_seq rfl ?_))
      refine wq_use (ι := Nat) (fun j => bs.length - j) (fun j => [some (.loc li), some (.loc ln), some (ssV st), some (.int b), some (.loc σ.length), some (.str st.goal), some (.str (Str.ofString "")), some (.loc (σ.length + 1)), some (opV o), some .none, some (.bytes bs), some .none, some (.int j), none, none, none, none, none]) (fun j => σ ++ [.list (byteV g)] ++ [.list (byteV (line ++ bs.take j))]) (fun j => j ≤ bs.length) 0 (by unfold big; lia) rfl (by rw [List.take_zero, List.append_nil]) (Nat.zero_le _) ?_
      intro j hj
      by_cases hlj : j < bs.length
      · have hget : bs[j]? = some bs[j] := List.getElem?_eq_getElem hlj
        have ha := append2b (σ := σ) (a := .list (byteV g)) (xs := byteV (line ++ bs.take j)) (d := .int bs[j].toNat) (by rw [byteV_len, List.length_append, List.length_take]; lia) (byteV_snoc hget)
        exact .next (j + 1) (b_iet (b_bind rfl (b_bind (b_bind rfl rfl) rfl)) (decide_eq_true (Int.ofNat_lt.mpr hlj)) (b_iet (b_iet rfl rfl rfl) rfl rfl)) rfl (b_seq (b_bind (b_bind rfl (b_bind (b_sto (is_list (get2b ..))) (b_bind (b_bind (b_bind rfl (b_bind rfl (b_sto (v_byte (Int.natCast_nonneg _) hget)))) rfl) (b_call ha)))) rfl) (b_seq rfl rfl)) (by lia) hlj
      · obtain rfl : j = bs.length := by lia
        exact .stop (b_ief (b_bind rfl (b_bind (b_bind rfl rfl) rfl)) (decide_eq_false (fun z => hlj (Int.ofNat_lt.mp z))) rfl) rfl (by rw [List.take_length]; rfl)
    | some m =>
      obtain ⟨l, h11, h12⟩ := vo_some h10
      obtain ⟨c, rfl, h13⟩ := vOne_some h12
      cases h13
      have q2 := fetch_of (get_left (get_left hi (.list (byteV g))) (.list (byteV line))) h11
      have hN : ∀ τ, vcmpS .Is (opV m) .none τ = some false := fun τ => by cases m <;> rfl
      have hcl : (bs.takeWhile (· != c)).length ≤ bs.length := takeWhile_len _
      refine .next (line ++ bs.takeWhile (· != c), ps', rows, some (opV o), some (opV m), some (.bytes bs), some (.bytes [c]), some (.int (bs.takeWhile (· != c)).length)) rfl trivial rfl ?_ rfl (hW ..)
      refine b_seq (b_bind (b_bind rfl (b_call q1)) rfl) (b_seq (b_bind (b_ief (b_bind rfl (b_bind rfl (b_sto (hN _)))) rfl (b_bind rfl (b_call q2))) rfl) (b_seq rfl ?_))
      refine wq_use (ι := Nat) (fun j => bs.length - j) (fun j => [some (.loc li), some (.loc ln), some (ssV st), some (.int b), some (.loc σ.length), some (.str st.goal), some (.str (Str.ofString "")), some (.loc (σ.length + 1)), some (opV o), some (opV m), some (.bytes bs), some (.bytes [c]), some (.int j), none, none, none, none, none]) (fun j => σ ++ [.list (byteV g)] ++ [.list (byteV (line ++ (bs.takeWhile (· != c)).take j))]) (fun j => j ≤ (bs.takeWhile (· != c)).length) 0 (by unfold big; lia) rfl (by rw [List.take_zero, List.append_nil]) (Nat.zero_le _) ?_
      intro j hj
      by_cases hlj : j < (bs.takeWhile (· != c)).length
      · have hlj2 : j < bs.length := by lia
        obtain ⟨t1, t2⟩ := tw_lt bs j hlj
        have hget : (bs.takeWhile (· != c))[j]? = some (bs.takeWhile (· != c))[j] := List.getElem?_eq_getElem hlj
        have hget2 := t2.trans hget
        have ha := append2b (σ := σ) (a := .list (byteV g)) (xs := byteV (line ++ (bs.takeWhile (· != c)).take j)) (d := .int (bs.takeWhile (· != c))[j].toNat) (by rw [byteV_len, List.length_append, List.length_take]; lia) (byteV_snoc hget)
        have h7 : ∀ τ, vcmpS .NotEq (.bytes ((bs.drop j).take 1)) (.bytes [c]) τ = some true := fun τ => by
          show some (!((bs.drop j).take 1 == [c])) = some true
          rw [t1]; rfl
        exact .next (j + 1) (b_iet (b_bind rfl (b_bind (b_bind rfl rfl) rfl)) (decide_eq_true (Int.ofNat_lt.mpr hlj2)) (b_iet (b_ief rfl rfl (b_iet (b_bind (b_bind rfl (b_bind rfl (b_bind rfl (b_sliceE (one_ok c j) (one_len c j bs))))) (b_bind rfl (b_sto (h7 _)))) rfl rfl)) rfl rfl)) rfl (b_seq (b_bind (b_bind rfl (b_bind (b_sto (is_list (get2b ..))) (b_bind (b_bind (b_bind rfl (b_bind rfl (b_sto (v_byte (Int.natCast_nonneg _) hget2)))) rfl) (b_call ha)))) rfl) (b_seq rfl rfl)) (by lia) hlj
      · obtain rfl : j = (bs.takeWhile (· != c)).length := by lia
        by_cases hjb : (bs.takeWhile (· != c)).length < bs.length
        · have h7 : ∀ τ, vcmpS .NotEq (.bytes ((bs.drop (bs.takeWhile (· != c)).length).take 1)) (.bytes [c]) τ = some false := fun τ => by
            show some (!((bs.drop (bs.takeWhile (· != c)).length).take 1 == [c])) = some false
            rw [tw_stop bs hjb]; rfl
          exact .stop (b_iet (b_bind rfl (b_bind (b_bind rfl rfl) rfl)) (decide_eq_true (Int.ofNat_lt.mpr hjb)) (b_ief (b_ief rfl rfl (b_ief (b_bind (b_bind rfl (b_bind rfl (b_bind rfl (b_sliceE (one_ok c _) (one_len c _ bs))))) (b_bind rfl (b_sto (h7 _)))) rfl rfl)) rfl rfl)) rfl (by rw [List.take_length]; rfl)
        · exact .stop (b_ief (b_bind rfl (b_bind (b_bind rfl rfl) rfl)) (decide_eq_false (fun z => hjb (Int.ofNat_lt.mp z))) rfl) rfl (by rw [List.take_length]; rfl)
structure UStm where
  src : Str
  marks : List (Opd × Bool)
  rows : List (Str × Option Str × Option Str)
  ptr : Option Str
  tal : Option Str
noncomputable def umV (m : Opd × Bool) : V := .tup [opV m.1, .bool m.2]
noncomputable def urV (r : Str × Option Str × Option Str) : V := .tup [refV r.1, oV r.2.1, oV r.2.2]
noncomputable def rowsV (rows : List (Str × Option Str × Option Str)) : V := .tup (rows.map urV)
noncomputable def usV (u : UStm) : V := .tup [.str (Str.ofString "unstring"), refV u.src, .tup (u.marks.map umV), rowsV u.rows, oV u.ptr, oV u.tal, .tup []]
theorem umV_inj (a b : Opd × Bool) (h : umV a = umV b) : a = b := by
  obtain ⟨o, d⟩ := a
  obtain ⟨o', d'⟩ := b
  simp only [umV, V.tup.injEq, List.cons.injEq, V.bool.injEq, and_true] at h
  rw [opV_inj _ _ h.1, h.2]
theorem urV_inj (a b : Str × Option Str × Option Str) (h : urV a = urV b) : a = b := by
  obtain ⟨x, y, z⟩ := a
  obtain ⟨x', y', z'⟩ := b
  simp only [urV, V.tup.injEq, List.cons.injEq, and_true] at h
  rw [refV_inj h.1, oV_inj _ _ h.2.1, oV_inj _ _ h.2.2]
theorem rowsV_inj (a b : List (Str × Option Str × Option Str)) (h : rowsV a = rowsV b) : a = b := by
  simp only [rowsV, V.tup.injEq] at h
  exact map_inj urV_inj h
theorem usV_inj (a b : UStm) (h : usV a = usV b) : a = b := by
  obtain ⟨s, m, r, p, t⟩ := a
  obtain ⟨s', m', r', p', t'⟩ := b
  simp only [usV, V.tup.injEq, List.cons.injEq, and_true, true_and] at h
  obtain ⟨h1, h2, h3, h4, h5⟩ := h
  rw [refV_inj h1, map_inj umV_inj h2, rowsV_inj _ _ h3, oV_inj _ _ h4, oV_inj _ _ h5]
noncomputable def st3 (σ : Sto) (li ln ls : Nat) (es fs : List (Str × V)) (sn : List V) : Sto := ((σ.set li (.dict es)).set ln (.dict fs)).set ls (.list sn)
structure Apart3 (σ : Sto) (li ln ls : Nat) : Prop where
  a : li ≠ ln
  b : li ≠ ls
  c : ln ≠ ls
  i : li < σ.length
  n : ln < σ.length
  s : ls < σ.length
section
variable {σ : Sto} {li ln ls : Nat} {es fs : List (Str × V)} {sn : List V}
theorem st3_len : (st3 σ li ln ls es fs sn).length = σ.length := by simp [st3]
theorem st3_i (H : Apart3 σ li ln ls) : (st3 σ li ln ls es fs sn)[li]? = some (.dict es) := by
  unfold st3
  rw [List.getElem?_set_ne (Ne.symm H.b), List.getElem?_set_ne (Ne.symm H.a), List.getElem?_set_self H.i]
theorem st3_n (H : Apart3 σ li ln ls) : (st3 σ li ln ls es fs sn)[ln]? = some (.dict fs) := by
  unfold st3
  rw [List.getElem?_set_ne (Ne.symm H.c), List.getElem?_set_self (by rw [List.length_set]; exact H.n)]
theorem st3_s (H : Apart3 σ li ln ls) : (st3 σ li ln ls es fs sn)[ls]? = some (.list sn) := by
  unfold st3
  rw [List.getElem?_set_self (by rw [List.length_set, List.length_set]; exact H.s)]
theorem st3_o {k : Nat} (h1 : k ≠ li) (h2 : k ≠ ln) (h3 : k ≠ ls) : (st3 σ li ln ls es fs sn)[k]? = σ[k]? := by
  unfold st3
  rw [List.getElem?_set_ne (Ne.symm h3), List.getElem?_set_ne (Ne.symm h2), List.getElem?_set_ne (Ne.symm h1)]
theorem st3_seti (H : Apart3 σ li ln ls) (es' : List (Str × V)) : (st3 σ li ln ls es fs sn).set li (.dict es') = st3 σ li ln ls es' fs sn := by
  unfold st3
  rw [List.set_comm _ _ (Ne.symm H.b), List.set_comm _ _ (Ne.symm H.a), List.set_set]
theorem st3_setn (H : Apart3 σ li ln ls) (fs' : List (Str × V)) : (st3 σ li ln ls es fs sn).set ln (.dict fs') = st3 σ li ln ls es fs' sn := by
  unfold st3
  rw [List.set_comm _ _ (Ne.symm H.c), List.set_set]
theorem st3_sets (sn' : List V) : (st3 σ li ln ls es fs sn).set ls (.list sn') = st3 σ li ln ls es fs sn' := by
  unfold st3
  rw [List.set_set]
theorem st3_self (hi : σ[li]? = some (.dict es)) (hn : σ[ln]? = some (.dict fs)) (hs : σ[ls]? = some (.list sn)) : st3 σ li ln ls es fs sn = σ := by
  unfold st3
  rw [set_same hi, set_same hn, set_same hs]
theorem st3_under (hu : Und σ) (h1 : (Cell.dict es).under σ.length) (h2 : (Cell.dict fs).under σ.length) (h3 : (Cell.list sn).under σ.length) : Und (st3 σ li ln ls es fs sn) := by
  unfold st3
  exact under_set (under_set (under_set hu h1) (by rw [List.length_set]; exact h2)) (by rw [List.length_set, List.length_set]; exact h3)
theorem st3_app {G : Sto} (H : Apart3 σ li ln ls) : st3 (σ ++ G) li ln ls es fs sn = st3 σ li ln ls es fs sn ++ G := by
  unfold st3
  rw [List.set_append_left _ _ H.i, List.set_append_left _ _ (by rw [List.length_set]; exact H.n), List.set_append_left _ _ (by rw [List.length_set, List.length_set]; exact H.s)]
theorem Apart3.app (H : Apart3 σ li ln ls) (G : Sto) : Apart3 (σ ++ G) li ln ls := by
  have h1 := H.i
  have h2 := H.n
  have h3 := H.s
  exact ⟨H.a, H.b, H.c, by rw [List.length_append]; lia, by rw [List.length_append]; lia, by rw [List.length_append]; lia⟩
end
structure Wd (ks js : List Str) (es fs : List (Str × V)) : Prop where
  ek : es.map (·.1) = ks
  fk : fs.map (·.1) = js
  ei : ∀ x ∈ ks, ∃ g, valOf' es x = some (.bytes g) ∧ g.length ≤ 1000
  fi : ∀ x ∈ js, ∃ i, valOf' fs x = some (.int i)
  kn : ks.Nodup
  jn : js.Nodup
  kl : ks.length < 1000
  jl : js.length < 1000
noncomputable def itemB (es : List (Str × V)) (x : Str) : List UInt8 := ((valOf' es x).bind fun d => vB d some).getD []
noncomputable def numI (fs : List (Str × V)) (x : Str) : Int := ((valOf' fs x).bind fun d => vI d some).getD 0
noncomputable def bringT (es : List (Str × V)) (x : Str) (b : List UInt8) : List (Str × V) := dset es x (.bytes (fitS b (itemB es x).length))
section
variable {ks js : List Str} {es fs : List (Str × V)}
theorem Wd.item (w : Wd ks js es fs) {x : Str} (h : x ∈ ks) : valOf' es x = some (.bytes (itemB es x)) ∧ (itemB es x).length ≤ 1000 := by
  obtain ⟨g, h1, h2⟩ := w.ei x h
  have : itemB es x = g := by unfold itemB; rw [h1]; rfl
  rw [this]; exact ⟨h1, h2⟩
theorem Wd.num (w : Wd ks js es fs) {x : Str} (h : x ∈ js) : valOf' fs x = some (.int (numI fs x)) := by
  obtain ⟨g, h1⟩ := w.fi x h
  have : numI fs x = g := by unfold numI; rw [h1]; rfl
  rw [this]; exact h1
theorem Wd.el (w : Wd ks js es fs) : es.length < 1000 := by rw [← List.length_map (f := (·.1)), w.ek]; exact w.kl
theorem Wd.fl (w : Wd ks js es fs) : fs.length < 1000 := by rw [← List.length_map (f := (·.1)), w.fk]; exact w.jl
theorem Wd.keysE (w : Wd ks js es fs) : Keys es := by rw [Keys, w.ek]; exact w.kn
theorem Wd.keysF (w : Wd ks js es fs) : Keys fs := by rw [Keys, w.fk]; exact w.jn
theorem Wd.setE (w : Wd ks js es fs) {x : Str} {g : List UInt8} (h : x ∈ ks) (hg : g.length ≤ 1000) : Wd ks js (dset es x (.bytes g)) fs := by
  have hx : x ∈ es.map (·.1) := by rw [w.ek]; exact h
  refine ⟨by rw [dset_keys hx, w.ek], w.fk, fun y hy => ?_, w.fi, w.kn, w.jn, w.kl, w.jl⟩
  rw [dset_val hx]
  split
  · exact ⟨g, rfl, hg⟩
  · exact w.ei y hy
theorem Wd.setF (w : Wd ks js es fs) {x : Str} {i : Int} (h : x ∈ js) : Wd ks js es (dset fs x (.int i)) := by
  have hx : x ∈ fs.map (·.1) := by rw [w.fk]; exact h
  refine ⟨w.ek, by rw [dset_keys hx, w.fk], w.ei, fun y hy => ?_, w.kn, w.jn, w.kl, w.jl⟩
  rw [dset_val hx]
  split
  · exact ⟨i, rfl⟩
  · exact w.fi y hy
theorem Wd.bring (w : Wd ks js es fs) {x : Str} {b : List UInt8} (h : x ∈ ks) : Wd ks js (bringT es x b) fs := w.setE h (by rw [fitS_len]; exact (w.item h).2)
theorem bring_st {σ : Sto} {li ln ls : Nat} {sn : List V} {x : Str} {b : List UInt8} (H : Apart3 σ li ln ls) (w : Wd ks js es fs) (h : x ∈ ks) (hb : b.length ≤ 1000) (hz : sn.length < 1000000) :
    t_bring li ln ls [.str x, .bytes b] (st3 σ li ln ls es fs sn) = some (.none, st3 σ li ln ls (bringT es x b) fs (sn ++ [.str x])) := by
  obtain ⟨h1, h2⟩ := w.item h
  have := bring_of (b := b) (st3_i H (es := es) (fs := fs) (sn := sn)) (st3_s H) h1 ⟨hz, w.el, h2, hb⟩
  rw [st3_sets, st3_seti H] at this
  exact this
theorem keep_st {σ : Sto} {li ln ls : Nat} {sn : List V} {x : Str} {d : V} (H : Apart3 σ li ln ls) (w : Wd ks js es fs) :
    t_keep li ln ls [refV x, d] (st3 σ li ln ls es fs sn) = some (.none, st3 σ li ln ls es (dset fs x d) sn) := by
  rw [keep_of (st3_n H) w.fl, st3_setn H]
end
structure Tabs where
  es : List (Str × V)
  fs : List (Str × V)
  sn : List V
noncomputable def lay1 (T : Tabs) (x : Str) (b : List UInt8) : Tabs := ⟨bringT T.es x b, T.fs, T.sn ++ [.str x]⟩
noncomputable def layK (T : Tabs) (b : List UInt8) : Option Str → Tabs
  | none => T
  | some k => lay1 T k b
noncomputable def layC (T : Tabs) (n : Nat) : Option Str → Tabs
  | none => T
  | some c => ⟨T.es, dset T.fs c (.int n), T.sn⟩
noncomputable def layT (T : Tabs) (p : List UInt8 × List UInt8) (r : Str × Option Str × Option Str) : Tabs := layC (layK (lay1 T r.1 p.1) p.2 r.2.1) p.1.length r.2.2
noncomputable def layAll : Tabs → List (List UInt8 × List UInt8) → List (Str × Option Str × Option Str) → Tabs
  | T, [], _ => T
  | T, _ :: _, [] => T
  | T, p :: ps, r :: rs => layAll (layT T p r) ps rs
def RowOk (ks js : List Str) (r : Str × Option Str × Option Str) : Prop := r.1 ∈ ks ∧ (∀ k, r.2.1 = some k → k ∈ ks) ∧ ∀ c, r.2.2 = some c → c ∈ js
section
variable {ks js : List Str}
theorem lay1_wd {T : Tabs} {x : Str} {b : List UInt8} (w : Wd ks js T.es T.fs) (h : x ∈ ks) : Wd ks js (lay1 T x b).es (lay1 T x b).fs := w.bring h
theorem layK_wd {T : Tabs} {k : Option Str} {b : List UInt8} (w : Wd ks js T.es T.fs) (h : ∀ x, k = some x → x ∈ ks) : Wd ks js (layK T b k).es (layK T b k).fs := by
  cases k with
  | none => exact w
  | some x => exact lay1_wd w (h x rfl)
theorem layC_wd {T : Tabs} {k : Option Str} {n : Nat} (w : Wd ks js T.es T.fs) (h : ∀ x, k = some x → x ∈ js) : Wd ks js (layC T n k).es (layC T n k).fs := by
  cases k with
  | none => exact w
  | some x => exact w.setF (h x rfl)
theorem layT_wd {T : Tabs} {p : List UInt8 × List UInt8} {r : Str × Option Str × Option Str} (w : Wd ks js T.es T.fs) (h : RowOk ks js r) : Wd ks js (layT T p r).es (layT T p r).fs := layC_wd (layK_wd (lay1_wd w h.1) h.2.1) h.2.2
theorem layAll_wd : ∀ {ps : List (List UInt8 × List UInt8)} {rs : List (Str × Option Str × Option Str)} {T : Tabs}, Wd ks js T.es T.fs → (∀ r ∈ rs, RowOk ks js r) → Wd ks js (layAll T ps rs).es (layAll T ps rs).fs
  | [], _, _, w, _ => w
  | _ :: _, [], _, w, _ => w
  | p :: ps, r :: rs, T, w, h => by
    rw [layAll]
    exact layAll_wd (layT_wd w (h r (List.mem_cons_self ..))) fun q hq => h q (List.mem_cons_of_mem _ hq)
end
theorem layK_sn {T : Tabs} {k : Option Str} {b : List UInt8} : (layK T b k).sn.length ≤ T.sn.length + 1 := by
  cases k with
  | none => exact Nat.le_succ _
  | some x => exact Nat.le_of_eq (List.length_append ..)
theorem layC_sn {T : Tabs} {k : Option Str} {n : Nat} : (layC T n k).sn = T.sn := by cases k <;> rfl
theorem layT_sn {T : Tabs} {p : List UInt8 × List UInt8} {r : Str × Option Str × Option Str} : (layT T p r).sn.length ≤ T.sn.length + 2 := by
  unfold layT
  rw [layC_sn]
  exact Nat.le_trans layK_sn (Nat.le_of_eq (by show (T.sn ++ [_]).length + 1 = _; rw [List.length_append]; rfl))
def UnT (n : Nat) (T : Tabs) : Prop := (Cell.dict T.es).under n ∧ (Cell.dict T.fs).under n ∧ (Cell.list T.sn).under n
theorem lay1_un {n : Nat} {T : Tabs} {x : Str} {b : List UInt8} (h : UnT n T) : UnT n (lay1 T x b) := ⟨dset_under h.1 (by simp [V.under]), h.2.1, underAll_app h.2.2 (by simp [V.underAll, V.under])⟩
theorem layT_un {n : Nat} {T : Tabs} {p : List UInt8 × List UInt8} {r : Str × Option Str × Option Str} (h : UnT n T) : UnT n (layT T p r) := by
  have h1 : UnT n (layK (lay1 T r.1 p.1) p.2 r.2.1) := by
    cases r.2.1 with
    | none => exact lay1_un h
    | some k => exact lay1_un (lay1_un h)
  unfold layT
  cases r.2.2 with
  | none => exact h1
  | some c => exact ⟨h1.1, dset_under h1.2.1 (by simp [V.under]), h1.2.2⟩
theorem layAll_un {n : Nat} : ∀ {ps : List (List UInt8 × List UInt8)} {rs : List (Str × Option Str × Option Str)} {T : Tabs}, UnT n T → UnT n (layAll T ps rs)
  | [], _, _, h => h
  | _ :: _, [], _, h => h
  | p :: ps, r :: rs, T, h => by rw [layAll]; exact layAll_un (layT_un h)
noncomputable def strO (x : Option Str) : V := x.elim .none .str
noncomputable def psV (ps : List (List UInt8 × List UInt8)) : V := .tup (ps.map pieceV)
theorem pieceV_inj (a b : List UInt8 × List UInt8) (h : pieceV a = pieceV b) : a = b := by
  obtain ⟨x, y⟩ := a
  obtain ⟨x', y'⟩ := b
  simp only [pieceV, V.tup.injEq, List.cons.injEq, V.bytes.injEq, and_true] at h
  rw [h.1, h.2]
theorem psV_inj (a b : List (List UInt8 × List UInt8)) (h : psV a = psV b) : a = b := by
  simp only [psV, V.tup.injEq] at h
  exact map_inj pieceV_inj h
structure LayOk (σ : Sto) (li ln ls lp lg lk : Nat) (es fs : List (Str × V)) (sn : List V) (ps : List (List UInt8 × List UInt8)) (rows : List (Str × Option Str × Option Str)) : Prop where
  hg : σ[lg]? = some (.list (rows.map fun r => .str r.1))
  hk : σ[lk]? = some (.list (rows.map fun r => strO r.2.1))
  ne : li ≠ ln
  np : lp ≠ ls
  ng : lg ≠ ls
  nk : lk ≠ ls
  pl : ps.length ≤ rows.length
  rl : rows.length ≤ 1000
  sl : sn.length ≤ 10000
  pb : ∀ p ∈ ps, p.1.length ≤ 1000 ∧ p.2.length ≤ 1000
  wd : ∃ ks js, Wd ks js es fs ∧ ∀ r ∈ rows, RowOk ks js r
noncomputable def s_lay : Spec := fun ds σ => a5 ds fun a r c d h => vL a fun lp => vo (back rowsV r) fun rows => vL c fun lg => vL d fun lk => vH h fun li ln ls => sL σ lp fun xs => vo (back psV (.tup xs)) fun ps => sD σ li fun es => sD σ ln fun fs => sL σ ls fun sn =>
  iff' (LayOk σ li ln ls lp lg lk es fs sn ps rows) (some (.none, st3 σ li ln ls (layAll ⟨es, fs, sn⟩ ps rows).es (layAll ⟨es, fs, sn⟩ ps rows).fs (layAll ⟨es, fs, sn⟩ ps rows).sn))
theorem lay_of {σ : Sto} {li ln ls lp lg lk : Nat} {es fs : List (Str × V)} {sn : List V} {ps : List (List UInt8 × List UInt8)} {rows : List (Str × Option Str × Option Str)} (h1 : σ[lp]? = some (.list (ps.map pieceV))) (h2 : σ[li]? = some (.dict es)) (h3 : σ[ln]? = some (.dict fs)) (h4 : σ[ls]? = some (.list sn)) (h : LayOk σ li ln ls lp lg lk es fs sn ps rows) :
    s_lay [.loc lp, rowsV rows, .loc lg, .loc lk, .hands li ln ls] σ = some (.none, st3 σ li ln ls (layAll ⟨es, fs, sn⟩ ps rows).es (layAll ⟨es, fs, sn⟩ ps rows).fs (layAll ⟨es, fs, sn⟩ ps rows).sn) :=
  (vo_of (back_of rowsV_inj rows)).trans ((sL_of h1).trans ((vo_of (back_of psV_inj ps)).trans ((sD_of h2).trans ((sD_of h3).trans ((sL_of h4).trans (iff_pos h))))))
theorem drop_get {β : Type} {l : List β} {i : Nat} {a : β} (h : l[i]? = some a) : l.drop i = a :: l.drop (i + 1) := by
  obtain ⟨hlt, rfl⟩ := List.getElem?_eq_some_iff.mp h
  exact List.drop_eq_getElem_cons hlt
theorem get_map {β γ : Type} {f : β → γ} {l : List β} {i : Nat} {a : β} (h : l[i]? = some a) : (l.map f)[i]? = some (f a) := by rw [List.getElem?_map, h]; rfl
theorem v_tup {ds : List V} {k : Int} {d : V} {σ : Sto} (h0 : 0 ≤ k) (h : ds[k.toNat]? = some d) : vidx (.tup ds) (.int k) σ = some d := (if_pos h0).trans h
noncomputable def lyL (li ln ls lp lg lk : Nat) (rows : List (Str × Option Str × Option Str)) (i : Nat × Tabs × Option V × Option V × Option V) : Loc := [some (.loc lp), some (rowsV rows), some (.loc lg), some (.loc lk), some (.hands li ln ls), i.2.2.1, i.2.2.2.1, i.2.2.2.2, none, none]
abbrev lyW (ks js : List Str) (T0 : Tabs) (ps : List (List UInt8 × List UInt8)) (rows : List (Str × Option Str × Option Str)) (i : Nat × Tabs × Option V × Option V × Option V) : Prop := i.1 ≤ ps.length ∧ layAll i.2.1 (ps.drop i.1) (rows.drop i.1) = layAll T0 ps rows ∧ Wd ks js i.2.1.es i.2.1.fs ∧ i.2.1.sn.length ≤ 10000 + 2 * i.1
theorem d_lay {prog : Program} : CallOk prog KK 4 (.ref 174) s_lay := by
  refine' defOk (f := 174) ["pieces", "rows", "spots", "mark_spots", "hands"] 5 (by intro P; k_is) (by intro P; k_is) (bind5 fun _ _ _ _ _ => rfl) ?body (Runs.meets ⟨fun ds σ hu hd => Sat.a5 fun a r c d h e1 => .L fun lp e2 => .o fun rows hr => .L fun lg e3 => .L fun lk e4 => .H fun li ln ls e5 => .sL fun xs hp => .o fun ps hps => .sD fun es hi => .sD fun fs hf => .sL fun sn hs => .iff' fun hh => .ok ?_⟩) (by decide +kernel) rfl rfl rfl
  case body => conv => { arg 4; whnf }; conv => { arg 5; whnf }; repeat' (with_reducible show (_ : Prop); first
   | (show JE _ _ _ _ (Expr.Name _ _) _; refine' W_local (by first | ((repeat first | exact At.here | apply At.there); done) | fail) (by decide +kernel) (by decide +kernel))
   | (show JE _ _ _ _ (Expr.Constant _ _ _) _; first | exact JE_int _ | exact JE_none)
   | (show JE _ _ _ _ (Expr.Call (Expr.Attribute _ _ _) _ _ _) _; first | refine' W_h_keep ?_ ?_ (by lia) (by intro _; exact ⟨_, by with_unfolding_all rfl⟩) (by intro _; with_unfolding_all rfl) (by intro _; with_unfolding_all rfl) | refine' W_h_bring ?_ ?_ (by lia) (by intro _; exact ⟨_, by with_unfolding_all rfl⟩) (by intro _; with_unfolding_all rfl) (by intro _; with_unfolding_all rfl))
   | (show JE _ _ _ _ (Expr.Call _ _ _ _) _; first | refine' W_callB (by first | ((repeat first | exact At.here | apply At.there); done) | fail) (by intro P; k_is) (by first | exact PySem.boot_len | fail) (by decide +kernel) (by decide +kernel) (by first | exact cLen | fail) ?_ (by intro _; with_unfolding_all rfl) (by intro _; with_unfolding_all rfl) | refine' W_callT (by first | ((repeat first | exact At.here | apply At.there); done) | fail) (by intro P; k_is) (by first | exact boot_range | fail) (by decide +kernel) (by decide +kernel) (by first | exact cRange | fail) ?_ (by intro _; with_unfolding_all rfl) (by intro _; with_unfolding_all rfl))
   | (show JE _ _ _ _ _ _; refine' JE_sub ?_ ?_ (by intro _ _; with_unfolding_all rfl))
   | exact JA_nil
   | refine' JA_cons ?_ ?_ (by intro _; with_unfolding_all rfl)
   | exact JXs_nil
   | refine' JXs_cons ?_ ?_
   | (show JX _ _ _ _ (Stmt.Assign _ _ _) _; refine' JX_assignTup ?_ ?_ (by intro _; with_unfolding_all rfl) (by intro env O; obtain ⟨scp, b, c, d, e, f, g, h, i⟩ := env; have hs := O.scp; dsimp only at hs; subst hs; with_unfolding_all rfl))
   | (show JX _ _ _ _ _ _; first | refine' W_expr ?_ (by intro _; with_unfolding_all rfl) | refine' JX_if ?_ ?_ ?_ | refine' JX_for ?_ ?_ ?_ (by intro _ _; with_unfolding_all rfl))
   | (show JT _ _ _ _ _ _; refine' JT_cmpS ?_ ?_ (by with_unfolding_all rfl))
   | (show JS _ _ _ _ _ _; first | refine' JS_local (by first | ((repeat first | exact At.here | apply At.there); done) | fail) | refine' JS_tuple ?_)
   | refine' JSs_cons ?_ ?_ (by intro _; with_unfolding_all rfl)
   | exact JSs_nil)
  obtain rfl := back_inv hr
  have := back_inv hps
  simp only [psV, V.tup.injEq] at this
  subst this e1 e2 e3 e4 e5
  have hb : li ≠ ls := fun z => by rw [z, hs] at hi; cases hi
  have hc : ln ≠ ls := fun z => by rw [z, hs] at hf; cases hf
  have H : Apart3 σ li ln ls := ⟨hh.ne, hb, hc, (List.getElem?_eq_some_iff.mp hi).1, (List.getElem?_eq_some_iff.mp hf).1, (List.getElem?_eq_some_iff.mp hs).1⟩
  obtain ⟨u1, u2, u3⟩ := layAll_un (ps := ps) (rs := rows) (T := ⟨es, fs, sn⟩) (n := σ.length) ⟨under_get hu hi, under_get hu hf, under_get hu hs⟩
  refine .leave rfl (by rw [st3_len]; exact Nat.le_refl _) (st3_under hu u1 u2 u3) (by simp [V.under]) ?_
  have hpl : ps.length ≤ 1000 := Nat.le_trans hh.pl hh.rl
  have hlen := len_list hp
  rw [List.length_map] at hlen
  refine .of (b_into (a := .rng 0 ps.length) (b_bind (b_bind (b_bind rfl (b_call hlen)) rfl) rfl) (b_into (b_sto (src_rng (by lia) (by lia) (by lia) (by lia))) rfl)) ?_
  rw [rng_items, rng_ok, Int.sub_zero, Int.toNat_natCast]
  obtain ⟨ks, js, w, hrk⟩ := hh.wd
  refine for_use (ι := Nat × Tabs × Option V × Option V × Option V) (fun i => intsFrom (i.1 : Int) (ps.length - i.1)) (lyL li ln ls lp lg lk rows) (fun i => st3 σ li ln ls i.2.1.es i.2.1.fs i.2.1.sn) (lyW ks js ⟨es, fs, sn⟩ ps rows) (0, ⟨es, fs, sn⟩, none, none, none) rfl rfl (st3_self hi hf hs).symm ⟨Nat.zero_le _, rfl, w, hh.sl⟩ ?_
  rintro ⟨i, T, x1, x2, x3⟩ ⟨h1, h2, h3, h4⟩
  dsimp only at h1 h2 h3 h4
  rw [← h2]
  by_cases hlt : i < ps.length
  · obtain ⟨n, hn⟩ : ∃ n, ps.length - i = n + 1 := ⟨ps.length - i - 1, by lia⟩
    obtain ⟨p, hp1⟩ : ∃ p, ps[i]? = some p := ⟨_, List.getElem?_eq_getElem hlt⟩
    obtain ⟨r, hr1⟩ : ∃ r, rows[i]? = some r := ⟨_, List.getElem?_eq_getElem (Nat.lt_of_lt_of_le hlt hh.pl)⟩
    obtain ⟨hpb1, hpb2⟩ := hh.pb p (List.mem_of_getElem? hp1)
    have hrow := hrk r (List.mem_of_getElem? hr1)
    have h5 : layAll (layT T p r) (ps.drop (i + 1)) (rows.drop (i + 1)) = layAll ⟨es, fs, sn⟩ ps rows := by rw [← h2, drop_get hp1, drop_get hr1, layAll]
    rw [drop_get hp1, drop_get hr1, layAll]
    have hi0 : (0 : Int) ≤ (i : Int) := Int.natCast_nonneg _
    have e0 : ∀ T : Tabs, (st3 σ li ln ls T.es T.fs T.sn)[lp]? = some (.list (ps.map pieceV)) := fun T => by rw [st3_o (fun z => by rw [z, hi] at hp; cases hp) (fun z => by rw [z, hf] at hp; cases hp) hh.np]; exact hp
    have e1 : ∀ T : Tabs, (st3 σ li ln ls T.es T.fs T.sn)[lg]? = some (.list (rows.map fun r => .str r.1)) := fun T => by rw [st3_o (fun z => by have := hh.hg; rw [z, hi] at this; cases this) (fun z => by have := hh.hg; rw [z, hf] at this; cases this) hh.ng]; exact hh.hg
    have e2 : ∀ T : Tabs, (st3 σ li ln ls T.es T.fs T.sn)[lk]? = some (.list (rows.map fun r => strO r.2.1)) := fun T => by rw [st3_o (fun z => by have := hh.hk; rw [z, hi] at this; cases this) (fun z => by have := hh.hk; rw [z, hf] at this; cases this) hh.nk]; exact hh.hk
    have g0 := v_list (e0 T) hi0 (get_map (f := pieceV) hp1)
    have g1 := v_list (e1 T) hi0 (get_map (f := fun r : Str × Option Str × Option Str => V.str r.1) hr1)
    have g2 := v_list (e2 (lay1 T r.1 p.1)) hi0 (get_map (f := fun r : Str × Option Str × Option Str => strO r.2.1) hr1)
    have g3 : ∀ τ, vidx (rowsV rows) (.int (i : Int)) τ = some (urV r) := fun τ => v_tup hi0 (get_map (f := urV) hr1)
    have q1 := bring_st (sn := T.sn) H h3 hrow.1 hpb1 (by lia)
    have w1 : Wd ks js (lay1 T r.1 p.1).es (lay1 T r.1 p.1).fs := lay1_wd h3 hrow.1
    have w2 := layK_wd (b := p.2) w1 hrow.2.1
    refine .next (d := .int (i : Int)) (ds := intsFrom ((i : Int) + 1) n) (i + 1, layT T p r, some (.int (i : Int)), some (.bytes p.1), some (.bytes p.2)) (by dsimp only; rw [hn]; rfl) trivial rfl ?_ (by dsimp only; rw [show ps.length - (i + 1) = n by lia]; rfl) ⟨hlt, h5, layT_wd h3 hrow, by have := @layT_sn T p r; dsimp only; lia⟩
    obtain ⟨x, k, c⟩ := r
    cases k with
    | none =>
      refine b_seq (b_bind (b_bind rfl (b_bind rfl (b_sto g0))) rfl) (b_seq (b_bind (b_bind rfl (b_bind rfl (b_bind (b_bind (b_bind rfl (b_bind rfl (b_sto g1))) rfl) (b_hands q1)))) rfl) (b_seq (b_iff (b_bind (b_bind rfl (b_bind rfl (b_sto g2))) rfl) rfl rfl) ?_))
      cases c with
      | none => exact b_seq (b_iff (b_bind (b_bind (b_bind rfl (b_bind rfl (b_sto (g3 _)))) rfl) rfl) rfl rfl) rfl
      | some y => exact b_seq (b_ift (b_bind (b_bind (b_bind rfl (b_bind rfl (b_sto (g3 _)))) rfl) rfl) rfl (b_seq (b_bind (b_bind rfl (b_bind rfl (b_bind (b_bind (b_bind (b_bind rfl (b_bind rfl (b_sto (g3 _)))) rfl) (b_bind (b_bind rfl rfl) rfl)) (b_hands (keep_st H w2))))) rfl) rfl)) rfl
    | some kn =>
      have q2 := bring_st (sn := T.sn ++ [.str x]) H w1 (hrow.2.1 kn rfl) hpb2 (by rw [List.length_append, List.length_singleton]; lia)
      refine b_seq (b_bind (b_bind rfl (b_bind rfl (b_sto g0))) rfl) (b_seq (b_bind (b_bind rfl (b_bind rfl (b_bind (b_bind (b_bind rfl (b_bind rfl (b_sto g1))) rfl) (b_hands q1)))) rfl) (b_seq (b_ift (b_bind (b_bind rfl (b_bind rfl (b_sto g2))) rfl) rfl (b_seq (b_bind (b_bind rfl (b_bind rfl (b_bind (b_bind (b_bind rfl (b_bind rfl (b_sto g2))) rfl) (b_hands q2)))) rfl) rfl)) ?_))
      cases c with
      | none => exact b_seq (b_iff (b_bind (b_bind (b_bind rfl (b_bind rfl (b_sto (g3 _)))) rfl) rfl) rfl rfl) rfl
      | some y => exact b_seq (b_ift (b_bind (b_bind (b_bind rfl (b_bind rfl (b_sto (g3 _)))) rfl) rfl) rfl (b_seq (b_bind (b_bind rfl (b_bind rfl (b_bind (b_bind (b_bind (b_bind rfl (b_bind rfl (b_sto (g3 _)))) rfl) (b_bind (b_bind rfl rfl) rfl)) (b_hands (keep_st H w2))))) rfl) rfl)) rfl
  · have hz : ps.length - i = 0 := by lia
    refine .nil (by dsimp only; rw [hz]; rfl) trivial ?_
    rw [List.drop_of_length_le (Nat.le_of_not_lt hlt)]
    exact .fin rfl
noncomputable def cut3 (o : List UInt8) (b : Int) (w : List (List UInt8 × List UInt8) × List UInt8) : List (List UInt8 × List UInt8) × Int × Bool :=
  if 1 ≤ b ∧ b ≤ o.length then (w.1, (o.length : Int) - (w.2.length : Int) + 1, decide (w.2 ≠ [])) else ([], b, true)
theorem cutR_eq (o : List UInt8) (b : Int) (w : List (List UInt8 × List UInt8) × List UInt8) (σ : Sto) : cutR o b w σ = some (.tup [.loc σ.length, .int (cut3 o b w).2.1, .bool (cut3 o b w).2.2], σ ++ [.list ((cut3 o b w).1.map pieceV)]) := by
  unfold cutR cut3
  split <;> rfl
noncomputable def partS (ms : List (UInt8 × Bool)) (ns : List Int) (o : List UInt8) (b : Int) : List (List UInt8 × List UInt8) × Int × Bool :=
  cut3 o b (if ms = [] then cutS ns (o.drop (b - 1).toNat) else unS ms ns.length (o.drop (b - 1).toNat))
theorem cutS_len : ∀ {ns : List Int} {r : List UInt8}, (cutS ns r).1.length ≤ ns.length ∧ ∀ p ∈ (cutS ns r).1, p.1.length ≤ r.length ∧ p.2.length ≤ 1
  | [], _ => ⟨Nat.le_refl _, fun _ h => nomatch h⟩
  | n :: ns, r => by
    rw [cutS]
    split
    · exact ⟨Nat.zero_le _, fun _ h => nomatch h⟩
    · obtain ⟨h1, h2⟩ := @cutS_len ns (r.drop n.toNat)
      refine ⟨Nat.succ_le_succ h1, fun p hp => ?_⟩
      rcases List.mem_cons.mp hp with rfl | hp
      · exact ⟨by rw [List.length_take]; exact Nat.min_le_right .., Nat.zero_le _⟩
      · obtain ⟨h3, h4⟩ := h2 p hp
        rw [List.length_drop] at h3
        exact ⟨by lia, h4⟩
theorem nextS_len (ms : List (UInt8 × Bool)) : ∀ l : List UInt8, (nextS ms l).1.length ≤ l.length ∧ (nextS ms l).2.1.length ≤ 1
  | [] => ⟨Nat.le_refl _, Nat.zero_le _⟩
  | a :: r => by
    obtain ⟨h1, h2⟩ := nextS_len ms r
    unfold nextS
    split
    · exact ⟨Nat.zero_le _, Nat.le_refl _⟩
    · exact ⟨Nat.succ_le_succ h1, h2⟩
theorem unS_len (ms : List (UInt8 × Bool)) : ∀ {n : Nat} {r : List UInt8}, (unS ms n r).1.length ≤ n ∧ ∀ p ∈ (unS ms n r).1, p.1.length ≤ r.length ∧ p.2.length ≤ 1
  | 0, _ => ⟨Nat.le_refl _, fun _ h => nomatch h⟩
  | n + 1, r => by
    rw [unS]
    split
    · exact ⟨Nat.zero_le _, fun _ h => nomatch h⟩
    · obtain ⟨h1, h2⟩ := @unS_len ms n (nextS ms r).2.2
      obtain ⟨h5, h6⟩ := nextS_len ms r
      refine ⟨Nat.succ_le_succ h1, fun p hp => ?_⟩
      rcases List.mem_cons.mp hp with rfl | hp
      · exact ⟨h5, h6⟩
      · obtain ⟨h3, h4⟩ := h2 p hp
        obtain ⟨q, q1, q2⟩ := nextS_drop ms r
        rw [q2, List.length_drop] at h3
        exact ⟨by lia, h4⟩
theorem partS_len {ms : List (UInt8 × Bool)} {ns : List Int} {o : List UInt8} {b : Int} : (partS ms ns o b).1.length ≤ ns.length ∧ ∀ p ∈ (partS ms ns o b).1, p.1.length ≤ o.length ∧ p.2.length ≤ 1 := by
  have h0 : (o.drop (b - 1).toNat).length ≤ o.length := by rw [List.length_drop]; omega
  unfold partS cut3
  split
  · dsimp only
    split
    · obtain ⟨h1, h2⟩ := @cutS_len ns (o.drop (b - 1).toNat)
      exact ⟨h1, fun p hp => ⟨Nat.le_trans (h2 p hp).1 h0, (h2 p hp).2⟩⟩
    · obtain ⟨h1, h2⟩ := @unS_len ms ns.length (o.drop (b - 1).toNat)
      exact ⟨h1, fun p hp => ⟨Nat.le_trans (h2 p hp).1 h0, (h2 p hp).2⟩⟩
  · exact ⟨Nat.zero_le _, fun _ h => nomatch h⟩
noncomputable def marksD (es : List (Str × V)) : List (Opd × Bool) → Option (List (UInt8 × Bool))
  | [] => some []
  | m :: ms => vo (octOf es m.1) fun l => vOne l fun c => vo (marksD es ms) fun r => some ((c, m.2) :: r)
noncomputable def sizesT (es : List (Str × V)) (rows : List (Str × Option Str × Option Str)) : List Int := rows.map fun r => ((itemB es r.1).length : Int)
noncomputable def seenT (rows : List (Str × Option Str × Option Str)) : List V := rows.map fun r => .str (qS r.1)
noncomputable def seenK : List (Str × Option Str × Option Str) → List V
  | [] => []
  | r :: rs => r.2.1.elim (seenK rs) fun k => .str (qS k) :: seenK rs
noncomputable def tallyD (fs : List (Str × V)) (n : Nat) : Option Str → List (Str × V)
  | none => fs
  | some x => dset fs x (.int (numI fs x + n))
structure UnOk (ks js : List Str) (es fs : List (Str × V)) (u : UStm) (ms : List (UInt8 × Bool)) (b : Int) : Prop where
  wd : Wd ks js es fs
  hs : u.src ∈ ks
  hm : marksD es u.marks = some ms
  hb : posOf fs u.ptr = some b
  hp : ∀ x, u.ptr = some x → x ∈ js
  ht : ∀ x, u.tal = some x → x ∈ js
  hr : ∀ r ∈ u.rows, RowOk ks js r
  rl : u.rows.length ≤ 1000
  ml : u.marks.length ≤ 1000
  nm : ∀ x ∈ ks, (Str.ofString "?").length + x.length ≤ sizeLine
noncomputable def unP (es : List (Str × V)) (u : UStm) (ms : List (UInt8 × Bool)) (b : Int) : List (List UInt8 × List UInt8) × Int × Bool := partS ms (sizesT es u.rows) (itemB es u.src) b
noncomputable def unT (es fs : List (Str × V)) (sn : List V) (u : UStm) (ms : List (UInt8 × Bool)) (b : Int) : Tabs :=
  let P := unP es u ms b
  let T := layAll ⟨es, fs, sn ++ seenT u.rows ++ seenK u.rows⟩ P.1 u.rows
  ⟨T.es, tallyD (movedD T.fs P.2.1 u.ptr) P.1.length u.tal, T.sn⟩
noncomputable def s_unwith : Spec := fun ds σ => a2 ds fun s h => vo (back usV s) fun u => vH h fun li ln ls => sD σ li fun es => sD σ ln fun fs => sL σ ls fun sn => vo (marksD es u.marks) fun ms => vo (posOf fs u.ptr) fun b =>
  iff' (li ≠ ln ∧ sn.length ≤ 1000 ∧ ∃ ks js, UnOk ks js es fs u ms b) (some (overV (unP es u ms b).2.2, st3 σ li ln ls (unT es fs sn u ms b).es (unT es fs sn u ms b).fs (unT es fs sn u ms b).sn))
theorem unwith_of {li ln ls : Nat} {es fs : List (Str × V)} {sn : List V} {u : UStm} {ms : List (UInt8 × Bool)} {b : Int} {σ : Sto} {ks js : List Str} (h1 : σ[li]? = some (.dict es)) (h2 : σ[ln]? = some (.dict fs)) (h3 : σ[ls]? = some (.list sn)) (hne : li ≠ ln) (hz : sn.length ≤ 1000) (h : UnOk ks js es fs u ms b) :
    s_unwith [usV u, .hands li ln ls] σ = some (overV (unP es u ms b).2.2, st3 σ li ln ls (unT es fs sn u ms b).es (unT es fs sn u ms b).fs (unT es fs sn u ms b).sn) :=
  (vo_of (back_of usV_inj u)).trans ((sD_of h1).trans ((sD_of h2).trans ((sL_of h3).trans ((vo_of h.hm).trans ((vo_of h.hb).trans (iff_pos ⟨hne, hz, ks, js, h⟩))))))
section
variable {G : Sto} {li ln ls : Nat} {es fs : List (Str × V)} {sn : List V}
theorem spot_app {c : Cell} {x : Str} (H : Apart3 G li ln ls) (h1 : sn.length < 1000000) (h2 : (Str.ofString "?").length + x.length ≤ sizeLine) : t_spot li ln ls [refV x] (st3 G li ln ls es fs sn ++ [c]) = some (.str x, st3 G li ln ls es fs (sn ++ [.str (qS x)]) ++ [c]) := by
  have := spot_of (get_left (st3_s H (es := es) (fs := fs) (sn := sn)) c) ⟨h1, h2⟩
  rw [List.set_append_left _ _ (by rw [st3_len]; exact H.s), st3_sets] at this
  exact this
theorem append_st {xs ys : List V} {d : V} (h2 : xs.length < 1000000) (h : xs ++ [d] = ys) : s_append [.loc G.length, d] (st3 G li ln ls es fs sn ++ [.list xs]) = some (.none, st3 G li ln ls es fs sn ++ [.list ys]) := by
  rw [← st3_len (σ := G) (li := li) (ln := ln) (ls := ls) (es := es) (fs := fs) (sn := sn)]
  exact append_last h2 h
theorem room_app {c : Cell} {x : Str} {ks js : List Str} (H : Apart3 G li ln ls) (w : Wd ks js es fs) (h : x ∈ ks) : t_room li ln ls [.str x] (st3 G li ln ls es fs sn ++ [c]) = some (.int (itemB es x).length, st3 G li ln ls es fs sn ++ [c]) :=
  (sD_of (get_left (st3_i H) c)).trans ((vo_of (w.item h).1).trans rfl)
theorem st3_at {k : Nat} {c : Cell} (H : Apart3 G li ln ls) (hg : G[k]? = some c) (h1 : k ≠ li) (h2 : k ≠ ln) (h3 : k ≠ ls) : (st3 G li ln ls es fs sn)[k]? = some c := by rw [st3_o h1 h2 h3]; exact hg
end
theorem st3_st3 {G : Sto} {li ln ls : Nat} {es fs es' fs' : List (Str × V)} {sn sn' : List V} (H : Apart3 G li ln ls) : st3 (st3 G li ln ls es fs sn) li ln ls es' fs' sn' = st3 G li ln ls es' fs' sn' := by
  conv => lhs; unfold st3
  rw [show (((G.set li (.dict es)).set ln (.dict fs)).set ls (.list sn)) = st3 G li ln ls es fs sn from rfl, st3_seti H, st3_setn H, st3_sets]
theorem seenT_un (n : Nat) (rows : List (Str × Option Str × Option Str)) : V.underAll n (seenT rows) := underAll_mem.mpr fun d h => by
  obtain ⟨r, _, rfl⟩ := List.mem_map.mp h
  trivial
theorem seenK_un (n : Nat) : ∀ rows : List (Str × Option Str × Option Str), V.underAll n (seenK rows)
  | [] => trivial
  | (_, none, _) :: rs => seenK_un n rs
  | (_, some k, _) :: rs => by
    show V.underAll n (.str (qS k) :: seenK rs)
    simp only [V.underAll]
    exact ⟨trivial, seenK_un n rs⟩
theorem unT_un {n : Nat} {es fs : List (Str × V)} {sn : List V} {u : UStm} {ms : List (UInt8 × Bool)} {b : Int} (h1 : (Cell.dict es).under n) (h2 : (Cell.dict fs).under n) (h3 : (Cell.list sn).under n) : (Cell.dict (unT es fs sn u ms b).es).under n ∧ (Cell.dict (unT es fs sn u ms b).fs).under n ∧ (Cell.list (unT es fs sn u ms b).sn).under n := by
  obtain ⟨a1, a2, a3⟩ := layAll_un (ps := (unP es u ms b).1) (rs := u.rows) (T := ⟨es, fs, sn ++ seenT u.rows ++ seenK u.rows⟩) (n := n) ⟨h1, h2, underAll_app (underAll_app h3 (seenT_un n _)) (seenK_un n _)⟩
  refine ⟨a1, ?_, a3⟩
  show (Cell.dict (tallyD _ _ u.tal)).under n
  have := movedD_under (p := (unP es u ms b).2.1) (ptr := u.ptr) a2
  cases u.tal with
  | none => exact this
  | some x => exact dset_under this (by simp [V.under])
theorem Wd.moved {ks js : List Str} {es fs : List (Str × V)} (w : Wd ks js es fs) {p : Int} {ptr : Option Str} (h : ∀ x, ptr = some x → x ∈ js) : Wd ks js es (movedD fs p ptr) := by
  cases ptr with
  | none => exact w
  | some x => exact w.setF (h x rfl)
theorem eq_none {l k : Nat} {ms : List (UInt8 × Bool)} {τ : Sto} (h1 : τ[l]? = some (.list (ms.map markV))) (h2 : τ[k]? = some (.list [])) : vcmpS .Eq (.loc l) (.loc k) τ = some (decide (ms = [])) := by
  show eqC τ l k = _
  unfold eqC
  rw [h1]
  show sL τ k _ = _
  rw [sL_of h2]
  cases ms with
  | nil => rfl
  | cons m ms => rfl
theorem b_compAt {ρ ρ1 : Loc} {σ σ1 σ2 : Sto} {m : Nat} {f : PM V} {is : List (Option Nat)} {asg : V → PM Unit} {t : PM Bool} {e : PM V} {a : V} {src : Src} (hm : σ1.length = m) (h1 : f ρ σ = some (a, ρ1, σ1)) (h2 : psrc a σ1 = some src) (h3 : pcompL src.ok asg t e m (capt ρ1 is) src.items (σ1 ++ [.list []]) = some σ2) :
    pcomp f is asg t e ρ σ = some (.loc m, ρ1, σ2) := by
  subst hm
  exact b_comp h1 h2 h3
theorem marksD_cons {es : List (Str × V)} {m : Opd × Bool} {marks : List (Opd × Bool)} {ms : List (UInt8 × Bool)} (h : marksD es (m :: marks) = some ms) : ∃ c r, octOf es m.1 = some [c] ∧ marksD es marks = some r ∧ ms = (c, m.2) :: r := by
  obtain ⟨l, h1, h2⟩ := vo_some h
  obtain ⟨c, rfl, h3⟩ := vOne_some h2
  obtain ⟨r, h4, h5⟩ := vo_some h3
  cases h5
  exact ⟨c, r, h1, h4, rfl⟩
theorem seenK_app (a b : List (Str × Option Str × Option Str)) : seenK (a ++ b) = seenK a ++ seenK b := by
  induction a with
  | nil => rfl
  | cons r a ih =>
    obtain ⟨x, k, c⟩ := r
    cases k with
    | none => exact ih
    | some k => exact congrArg (V.str (qS k) :: ·) ih
theorem seenK_len (a : List (Str × Option Str × Option Str)) : (seenK a).length ≤ a.length := by
  induction a with
  | nil => exact Nat.le_refl _
  | cons r a ih =>
    obtain ⟨x, k, c⟩ := r
    cases k with
    | none => exact Nat.le_succ_of_le ih
    | some k => exact Nat.succ_le_succ ih
theorem d_unwith {prog : Program} : CallOk prog KK 7 (.ref 179) s_unwith := by
  refine' defOk (f := 179) ["statement", "hands"] 15 (by intro P; k_is) (by intro P; k_is) (bind2 fun _ _ => rfl) ?body (Runs.meets ⟨fun ds σ hu hd => Sat.a2 fun s h e1 => .o fun u hu1 => .H fun li ln ls e2 => .sD fun es hi => .sD fun fs hf => .sL fun sn hs => .o fun ms _ => .o fun b _ => .iff' fun ⟨hne, hz, ks, js, hh⟩ => .ok ?_⟩) (by decide +kernel) rfl rfl rfl
  case body => conv => { arg 4; whnf }; conv => { arg 5; whnf }; repeat' (with_reducible show (_ : Prop); first
   | (show JE _ _ _ _ (Expr.Name _ _) _; first | refine' W_local (by first | ((repeat first | exact At.here | apply At.there); done) | fail) (by decide +kernel) (by decide +kernel) | refine' W_cell (by first | ((repeat first | exact At.here | apply At.there); done) | fail) (by decide +kernel) (by decide +kernel))
   | (show JE _ _ _ _ (Expr.Constant _ _ _) _; first | exact JE_int _ | exact JE_str _ | exact JE_none)
   | (show JE _ _ _ _ (Expr.Call (Expr.Attribute _ _ _) _ _ _) _; first | refine' W_h_amount ?_ ?_ (by lia) (by intro _; exact ⟨_, by with_unfolding_all rfl⟩) (by intro _; with_unfolding_all rfl) (by intro _; with_unfolding_all rfl) | refine' W_h_keep ?_ ?_ (by lia) (by intro _; exact ⟨_, by with_unfolding_all rfl⟩) (by intro _; with_unfolding_all rfl) (by intro _; with_unfolding_all rfl) | refine' W_h_spot ?_ ?_ (by lia) (by intro _; exact ⟨_, by with_unfolding_all rfl⟩) (by intro _; with_unfolding_all rfl) (by intro _; with_unfolding_all rfl) | refine' W_h_room ?_ ?_ (by lia) (by intro _; exact ⟨_, by with_unfolding_all rfl⟩) (by intro _; with_unfolding_all rfl) (by intro _; with_unfolding_all rfl))
   | (show JE _ _ _ _ (Expr.Call _ _ _ _) _; first | refine' W_callB (by first | ((repeat first | exact At.here | apply At.there); done) | fail) (by intro P; k_is) (by first | exact PySem.boot_len | fail) (by decide +kernel) (by decide +kernel) (by first | exact cLen | fail) ?_ (by intro _; with_unfolding_all rfl) (by intro _; with_unfolding_all rfl) | refine' W_call (by first | ((repeat first | exact At.here | apply At.there); done) | fail) (by intro P; k_is) (by decide +kernel) (by intro P; k_is) (by first | exact callOk_le d_cut (by decide) | exact callOk_le d_lay (by decide) | exact callOk_le d_lone (by decide) | exact callOk_le d_moved (by decide) | exact callOk_le d_pointed (by decide) | exact callOk_le d_unstrung (by decide) | fail) ?_ (by intro _; with_unfolding_all rfl) (by intro _; with_unfolding_all rfl))
   | (show JE _ _ _ _ _ _; first | refine' JE_bin ?_ ?_ | refine' JE_sub ?_ ?_ (by intro _ _; with_unfolding_all rfl) | refine' JE_tuple ?_ | refine' JE_list ?_ | refine' JE_if ?_ ?_ ?_ | refine' JE_comp ?_ ?_ ?_ ?_ ?_ (by decide +kernel) (by intro _ _; with_unfolding_all rfl))
   | exact JA_nil
   | refine' JA_cons ?_ ?_ (by intro _; with_unfolding_all rfl)
   | exact JXs_nil
   | refine' JXs_cons ?_ ?_
   | (show JX _ _ _ _ (Stmt.Assign _ _ _) _; first | refine' JX_comp ?_ ?_ ?_ ?_ ?_ (by first | ((repeat first | exact At.here | apply At.there); done) | fail) (by first | exact .inl rfl | exact .inr rfl) (by decide +kernel) (by intro _ _; with_unfolding_all rfl) (by intro env O; obtain ⟨scp, b, c, d, e, f, g, h, i⟩ := env; have hs := O.scp; dsimp only at hs; subst hs; with_unfolding_all rfl) | refine' W_store ?_ (by first | ((repeat first | exact At.here | apply At.there); done) | fail) (by intro _; with_unfolding_all rfl) | refine' JX_assignTup ?_ ?_ (by intro _; with_unfolding_all rfl) (by intro env O; obtain ⟨scp, b, c, d, e, f, g, h, i⟩ := env; have hs := O.scp; dsimp only at hs; subst hs; with_unfolding_all rfl))
   | (show JX _ _ _ _ _ _; first | refine' W_expr ?_ (by intro _; with_unfolding_all rfl) | refine' JX_return ?_ | refine' JX_if ?_ ?_ ?_)
   | (show JT _ _ _ _ _ _; first | refine' JT_cmpS ?_ ?_ (by with_unfolding_all rfl) | refine' JT_val ?_ (by intro _ _; with_unfolding_all rfl))
   | (show JS _ _ _ _ _ _; first | refine' JS_local (by first | ((repeat first | exact At.here | apply At.there); done) | fail) | refine' JS_tuple ?_)
   | refine' JSs_cons ?_ ?_ (by intro _; with_unfolding_all rfl)
   | exact JSs_nil
   | exact Cap.nil
   | refine' Cap.loc ?_
   | refine' Cap.glob ?_
   | refine' Cap.cell (by first | ((repeat first | exact At.here | apply At.there); done) | fail) ?_
   | exact JI_nil)
  obtain rfl := back_inv hu1
  subst e1 e2
  have hb : li ≠ ls := fun z => by rw [z, hs] at hi; cases hi
  have hc : ln ≠ ls := fun z => by rw [z, hs] at hf; cases hf
  have H : Apart3 σ li ln ls := ⟨hne, hb, hc, (List.getElem?_eq_some_iff.mp hi).1, (List.getElem?_eq_some_iff.mp hf).1, (List.getElem?_eq_some_iff.mp hs).1⟩
  obtain ⟨w1, w2⟩ := hh.wd.item hh.hs
  obtain ⟨u1, u2, u3⟩ := unT_un (u := u) (ms := ms) (b := b) (under_get hu hi) (under_get hu hf) (under_get hu hs)
  refine .leave rfl (by rw [st3_len]; exact Nat.le_refl _) (st3_under hu u1 u2 u3) (by simp [overV, V.under]) ?_
  have hs0 : s_lone [refV u.src, .hands li ln ls] σ = some (.bytes (itemB es u.src), σ) := lone_of (o := .ref u.src) hi ((vo_of w1).trans rfl)
  have hcm : pcompL (fun _ => True) (psTup (psCons (pstore (0 + 1)) (psCons (pstore (0 + 1 + 1)) psNil))) (pret true) (pbind (pbind (pbind (pbind (pvar (0 + 1)) fun a => pbind (pbind (pvar (0 + 1 + 1 + 1 + 1)) fun a => pbind (pret []) fun as => pret (a :: as)) fun as => pret (a :: as)) (pcall s_lone)) fun a => pbind (pbind (pvar (0 + 1 + 1)) fun a => pbind (pret []) fun as => pret (a :: as)) fun as => pret (a :: as)) ptup) σ.length [none, none, none, none, some (.hands li ln ls)] (u.marks.map umV) (σ ++ [.list []]) = some (σ ++ [.list (ms.map markV)]) := by
    refine cm_use (ι := List (UInt8 × Bool) × List (Opd × Bool) × List (UInt8 × Bool)) (fun i => i.2.1.map umV) (fun i => σ ++ [.list (i.1.map markV)]) (fun i => marksD es i.2.1 = some i.2.2 ∧ ms = i.1 ++ i.2.2 ∧ i.1.length + i.2.1.length ≤ 1000) ([], u.marks, ms) rfl rfl ⟨hh.hm, rfl, by have := hh.ml; dsimp only [List.length_nil]; lia⟩ ?_
    rintro ⟨dn, marks, rest⟩ ⟨h1, h2, h3⟩
    dsimp only at h1 h2 h3
    cases marks with
    | nil =>
      cases h1
      rw [List.append_nil] at h2
      exact .nil rfl trivial (by rw [h2])
    | cons m marks =>
      obtain ⟨c, r, h4, h5, rfl⟩ := marksD_cons h1
      rw [List.length_cons] at h3
      have q1 := lone_of (ln := ln) (ls := ls) (get_left hi (.list (dn.map markV))) h4
      have q2 := append_last (σ := σ) (xs := dn.map markV) (d := .tup [.bytes [c], .bool m.2]) (ys := (dn ++ [(c, m.2)]).map markV) (by rw [List.length_map]; lia) (by rw [List.map_append]; rfl)
      exact .next (dn ++ [(c, m.2)], marks, r) rfl trivial rfl rfl rfl (b_bind (b_bind (b_bind rfl (b_call q1)) rfl) rfl) q2 ⟨rfl, trivial⟩ rfl ⟨h5, by rw [h2, List.append_assoc]; rfl, by rw [List.length_append, List.length_singleton]; dsimp only; lia⟩
  have q3 := pointed_of (li := li) (ls := ls) (get_left hf (.list (ms.map markV))) hh.hb
  have L1 : (σ ++ [Cell.list (ms.map markV)]).length = σ.length + 1 := by rw [List.length_append]; rfl
  have H1 := H.app [.list (ms.map markV)]
  have hst1 := st3_self (get_left hi (.list (ms.map markV))) (get_left hf _) (get_left hs _)
  have hrl := hh.rl
  have hcs : pcompL (fun _ => True) (psTup (psCons (pstore (0 + 1)) (psCons (pstore (0 + 1 + 1)) (psCons (pstore (0 + 1 + 1 + 1)) psNil)))) (pret true) (pbind (pvar (0 + 1 + 1 + 1 + 1)) fun a => pbind (plift (isHands a)) fun _ => pbind (pbind (pvar (0 + 1)) fun a => pbind (pret []) fun as => pret (a :: as)) fun ds => phands t_spot a ds) (σ.length + 1) [none, none, none, none, some (.hands li ln ls)] (u.rows.map urV) (σ ++ [.list (ms.map markV)] ++ [.list []]) =
      some (st3 (σ ++ [.list (ms.map markV)]) li ln ls es fs (sn ++ seenT u.rows) ++ [.list (u.rows.map fun r => .str r.1)]) := by
    refine cm_use (ι := List (Str × Option Str × Option Str) × List (Str × Option Str × Option Str)) (fun i => i.2.map urV) (fun i => st3 (σ ++ [.list (ms.map markV)]) li ln ls es fs (sn ++ seenT i.1) ++ [.list (i.1.map fun r => .str r.1)]) (fun i => u.rows = i.1 ++ i.2) ([], u.rows) rfl (by rw [show sn ++ seenT [] = sn from List.append_nil _, hst1]; rfl) rfl ?_
    rintro ⟨dn, rows⟩ h1
    dsimp only at h1
    cases rows with
    | nil => rw [List.append_nil] at h1; exact .nil rfl trivial (by rw [h1])
    | cons r rows =>
      have hlen : dn.length + 1 ≤ 1000 := by rw [h1, List.length_append, List.length_cons] at hrl; lia
      have hrk := hh.hr r (by rw [h1]; exact List.mem_append_right _ (List.mem_cons_self ..))
      have q4 := spot_app (es := es) (fs := fs) (sn := sn ++ seenT dn) (c := .list (dn.map fun r => .str r.1)) H1 (by rw [List.length_append, seenT, List.length_map]; lia) (hh.nm r.1 hrk.1)
      have q5 := append_st (G := σ ++ [.list (ms.map markV)]) (li := li) (ln := ln) (ls := ls) (es := es) (fs := fs) (sn := sn ++ seenT dn ++ [.str (qS r.1)]) (xs := dn.map fun r => .str r.1) (d := .str r.1) (ys := (dn ++ [r]).map fun r => .str r.1) (by rw [List.length_map]; lia) (by rw [List.map_append]; rfl)
      rw [L1] at q5
      have e5 : sn ++ seenT dn ++ [.str (qS r.1)] = sn ++ seenT (dn ++ [r]) := by unfold seenT; rw [List.map_append, ← List.append_assoc]; rfl
      rw [e5] at q4 q5
      exact .next (dn ++ [r], rows) rfl trivial rfl rfl rfl (b_bind rfl (b_bind rfl (b_bind rfl (b_hands q4)))) q5 ⟨rfl, trivial⟩ rfl (by dsimp only; rw [h1, List.append_assoc]; rfl)
  rw [← st3_app H1] at hcs
  have H2 := H1.app [.list (u.rows.map fun r => .str r.1)]
  have L2 : (σ ++ [Cell.list (ms.map markV)] ++ [Cell.list (u.rows.map fun r => .str r.1)]).length = σ.length + 2 := by rw [List.length_append, L1]; rfl
  have g1 : (σ ++ [Cell.list (ms.map markV)])[σ.length]? = some (.list (ms.map markV)) := get_last ..
  have g2 : (σ ++ [Cell.list (ms.map markV)] ++ [Cell.list (u.rows.map fun r => .str r.1)])[σ.length + 1]? = some (.list (u.rows.map fun r => .str r.1)) := by rw [← L1]; exact get_last ..
  have g1 := get_left g1 (Cell.list (u.rows.map fun r => .str r.1))
  have hcs2 := hcs
  clear hcs hst1
  have y2 : ∃ g, σ ++ [Cell.list (ms.map markV)] ++ [Cell.list (u.rows.map fun r => .str r.1)] = σ ++ g := ⟨_, List.append_assoc ..⟩
  generalize σ ++ [Cell.list (ms.map markV)] ++ [Cell.list (u.rows.map fun r => .str r.1)] = G2 at hcs2 H2 L2 g1 g2 y2
  have hck : pcompL (fun _ => True) (psTup (psCons (pstore (0 + 1)) (psCons (pstore (0 + 1 + 1)) (psCons (pstore (0 + 1 + 1 + 1)) psNil)))) (pret true) (pbind (pbind (pvar (0 + 1 + 1)) fun a => pbind (pret V.none) fun b => psto (vcmpS CmpOp.Is a b)) fun c => if c = true then pret V.none else pbind (pvar (0 + 1 + 1 + 1 + 1)) fun a => pbind (plift (isHands a)) fun _ => pbind (pbind (pvar (0 + 1 + 1)) fun a => pbind (pret []) fun as => pret (a :: as)) fun ds => phands t_spot a ds) (σ.length + 2) [none, none, none, none, some (.hands li ln ls)] (u.rows.map urV) (st3 G2 li ln ls es fs (sn ++ seenT u.rows) ++ [.list []]) =
      some (st3 G2 li ln ls es fs (sn ++ seenT u.rows ++ seenK u.rows) ++ [.list (u.rows.map fun r => strO r.2.1)]) := by
    refine cm_use (ι := List (Str × Option Str × Option Str) × List (Str × Option Str × Option Str)) (fun i => i.2.map urV) (fun i => st3 G2 li ln ls es fs (sn ++ seenT u.rows ++ seenK i.1) ++ [.list (i.1.map fun r => strO r.2.1)]) (fun i => u.rows = i.1 ++ i.2) ([], u.rows) rfl (by rw [show sn ++ seenT u.rows ++ seenK [] = sn ++ seenT u.rows from List.append_nil _]; rfl) rfl ?_
    rintro ⟨dn, rows⟩ h1
    dsimp only at h1
    cases rows with
    | nil => rw [List.append_nil] at h1; exact .nil rfl trivial (by rw [h1])
    | cons r rows =>
      have hlen : dn.length + 1 ≤ 1000 := by rw [h1, List.length_append, List.length_cons] at hrl; lia
      have hrk := hh.hr r (by rw [h1]; exact List.mem_append_right _ (List.mem_cons_self ..))
      have q5 := fun s x (h : strO r.2.1 = x) => append_st (G := G2) (li := li) (ln := ln) (ls := ls) (es := es) (fs := fs) (sn := s) (xs := dn.map fun r => strO r.2.1) (d := x) (ys := (dn ++ [r]).map fun r => strO r.2.1) (by rw [List.length_map]; lia) (by rw [List.map_append, ← h]; rfl)
      rw [L2] at q5
      have e5 : sn ++ seenT u.rows ++ seenK (dn ++ [r]) = sn ++ seenT u.rows ++ seenK dn ++ seenK [r] := by rw [seenK_app, ← List.append_assoc]
      obtain ⟨x, k, c⟩ := r
      cases k with
      | none =>
        have q6 := q5 (sn ++ seenT u.rows ++ seenK dn) .none rfl
        refine .next (r := .none) (dn ++ [(x, none, c)], rows) rfl trivial rfl rfl rfl (b_iet rfl rfl rfl) ?_ ⟨rfl, trivial⟩ rfl (by dsimp only; rw [h1, List.append_assoc]; rfl)
        rw [e5, show seenK [(x, none, c)] = [] from rfl, List.append_nil]
        exact q6
      | some k =>
        have q4 := spot_app (es := es) (fs := fs) (sn := sn ++ seenT u.rows ++ seenK dn) (c := .list (dn.map fun r => strO r.2.1)) H2 (x := k) (by rw [List.length_append, List.length_append, seenT, List.length_map]; have := seenK_len dn; lia) (hh.nm k (hrk.2.1 k rfl))
        have q6 := q5 (sn ++ seenT u.rows ++ seenK dn ++ [.str (qS k)]) (.str k) rfl
        refine .next (r := .none) (dn ++ [(x, some k, c)], rows) rfl trivial rfl rfl rfl (b_ief rfl rfl (b_bind rfl (b_bind rfl (b_bind rfl (b_hands q4))))) ?_ ⟨rfl, trivial⟩ rfl (by dsimp only; rw [h1, List.append_assoc]; rfl)
        rw [e5, show seenK [(x, some k, c)] = [.str (qS k)] from rfl]
        exact q6
  replace hck := hck.trans (congrArg some (st3_app H2).symm)
  refine .of (b_seq (b_bind (b_bind rfl (b_call hs0)) rfl) (b_seq (b_bind (b_compAt rfl rfl rfl hcm) rfl) (b_seq (b_bind (b_bind rfl (b_call q3)) rfl) (b_seq (b_bind (b_compAt L1 rfl rfl hcs2) rfl) (b_seq (b_bind (b_compAt (st3_len.trans L2) rfl rfl hck) rfl) rfl))))) ?_
  clear hcm hcs2 hck q3 hs0
  have H3 := H2.app [.list (u.rows.map fun r => strO r.2.1)]
  have L3 : (G2 ++ [Cell.list (u.rows.map fun r => strO r.2.1)]).length = σ.length + 3 := by rw [List.length_append, L2]; rfl
  have g3 : (G2 ++ [Cell.list (u.rows.map fun r => strO r.2.1)])[σ.length + 2]? = some (.list (u.rows.map fun r => strO r.2.1)) := by rw [← L2]; exact get_last ..
  have g1 := get_left g1 (Cell.list (u.rows.map fun r => strO r.2.1))
  have g2 := get_left g2 (Cell.list (u.rows.map fun r => strO r.2.1))
  have y3 : ∃ g, G2 ++ [Cell.list (u.rows.map fun r => strO r.2.1)] = σ ++ g := by obtain ⟨g, h⟩ := y2; exact ⟨_, by rw [h, List.append_assoc]⟩
  generalize G2 ++ [Cell.list (u.rows.map fun r => strO r.2.1)] = G3 at H3 L3 g1 g2 g3 y3 ⊢
  have d1 := H.i
  have d2 := H.n
  have d3 := H.s
  have hsl : (sn ++ seenT u.rows ++ seenK u.rows).length ≤ 10000 := by rw [List.length_append, List.length_append, seenT, List.length_map]; have := seenK_len u.rows; lia
  refine fin_use (κ := Sto × Nat) (fun k => [some (usV u), some (.hands li ln ls), some (.bytes (itemB es u.src)), some (.loc σ.length), some (.int b), some (.loc (σ.length + 1)), some (.loc (σ.length + 2)), some (.loc k.2), some (.int (unP es u ms b).2.1), some (.bool (unP es u ms b).2.2), none, none, none, none, none, none, none]) (fun k => st3 k.1 li ln ls es fs (sn ++ seenT u.rows ++ seenK u.rows)) (fun k => (∃ g, k.1 = G3 ++ g) ∧ k.1[k.2]? = some (.list ((unP es u ms b).1.map pieceV)) ∧ σ.length ≤ k.2) ?fin fun fin => ?split
  case fin =>
    rintro ⟨G, lp⟩ ⟨⟨g, hG⟩, hlp, hle⟩
    dsimp only at hG hlp hle ⊢
    obtain ⟨g3', h3'⟩ := y3
    have hGs : G = σ ++ (g3' ++ g) := by rw [hG, h3', List.append_assoc]
    have H6 : Apart3 G li ln ls := by rw [hG]; exact H3.app g
    have e2 : G[σ.length + 1]? = some (.list (u.rows.map fun r => .str r.1)) := by rw [hG]; exact get_leftG g2
    have e3 : G[σ.length + 2]? = some (.list (u.rows.map fun r => strO r.2.1)) := by rw [hG]; exact get_leftG g3
    have hpl := @partS_len ms (sizesT es u.rows) (itemB es u.src) b
    rw [sizesT, List.length_map] at hpl
    obtain ⟨p1, p2⟩ : (unP es u ms b).1.length ≤ u.rows.length ∧ ∀ p ∈ (unP es u ms b).1, p.1.length ≤ (itemB es u.src).length ∧ p.2.length ≤ 1 := hpl
    have ql := lay_of (es := es) (fs := fs) (sn := sn ++ seenT u.rows ++ seenK u.rows) (rows := u.rows) (lg := σ.length + 1) (lk := σ.length + 2) (st3_at H6 hlp (by lia) (by lia) (by lia)) (st3_i H6) (st3_n H6) (st3_s H6) ⟨st3_at H6 e2 (by lia) (by lia) (by lia), st3_at H6 e3 (by lia) (by lia) (by lia), hne, by lia, by lia, by lia, p1, hrl, hsl, fun p hp => ⟨Nat.le_trans (p2 p hp).1 w2, Nat.le_trans (p2 p hp).2 (by decide)⟩, ks, js, hh.wd, hh.hr⟩
    rw [st3_st3 H6] at ql
    have wT : Wd ks js (layAll ⟨es, fs, sn ++ seenT u.rows ++ seenK u.rows⟩ (unP es u ms b).1 u.rows).es (layAll ⟨es, fs, sn ++ seenT u.rows ++ seenK u.rows⟩ (unP es u ms b).1 u.rows).fs := layAll_wd (T := ⟨es, fs, sn ++ seenT u.rows ++ seenK u.rows⟩) hh.wd hh.hr
    show Ends _ _ (st3 σ li ln ls (layAll ⟨es, fs, sn ++ seenT u.rows ++ seenK u.rows⟩ (unP es u ms b).1 u.rows).es (tallyD (movedD (layAll ⟨es, fs, sn ++ seenT u.rows ++ seenK u.rows⟩ (unP es u ms b).1 u.rows).fs (unP es u ms b).2.1 u.ptr) (unP es u ms b).1.length u.tal) (layAll ⟨es, fs, sn ++ seenT u.rows ++ seenK u.rows⟩ (unP es u ms b).1 u.rows).sn)
    clear u1 u2 u3 p1 p2
    generalize layAll ⟨es, fs, sn ++ seenT u.rows ++ seenK u.rows⟩ (unP es u ms b).1 u.rows = T at ql wT ⊢
    generalize unP es u ms b = P at ql hlp ⊢
    obtain ⟨P1, P2, P3⟩ := P
    dsimp only at ql hlp ⊢
    have qm := moved_of (li := li) (ls := ls) (ptr := u.ptr) (k := P2) (st3_n H6 (es := T.es) (fs := T.fs) (sn := T.sn)) wT.fl
    rw [st3_setn H6] at qm
    have wM := wT.moved (p := P2) hh.hp
    refine .of (b_seq (b_bind (b_bind rfl (b_call ql)) rfl) (b_seq (b_bind (b_bind rfl (b_call qm)) rfl) rfl)) ?_
    have hfin : ∀ (E F : List (Str × V)) (S : List V) (ρ : Loc), some (Fl.ret (overV P3), ρ, st3 G li ln ls E F S) = some (Fl.ret (overV P3), ρ, st3 σ li ln ls E F S ++ (g3' ++ g)) := fun E F S ρ => by rw [hGs, st3_app H]
    cases htal : u.tal with
    | none =>
      have hN : ∀ τ, vcmpS .IsNot (oV u.tal) .none τ = some false := fun τ => by rw [htal]; rfl
      refine .of (b_seq (b_iff (b_bind rfl (b_bind rfl (b_sto (hN _)))) rfl rfl) rfl) ?_
      cases P3
      · exact .retG ((b_bind (b_ief rfl rfl rfl) rfl).trans (hfin _ _ _ _))
      · exact .retG ((b_bind (b_iet rfl rfl rfl) rfl).trans (hfin _ _ _ _))
    | some x =>
      have hN : ∀ τ, vcmpS .IsNot (oV u.tal) .none τ = some true := fun τ => by rw [htal]; rfl
      have qa : t_amount li ln ls [oV u.tal] (st3 G li ln ls T.es (movedD T.fs P2 u.ptr) T.sn) = some (.int (numI (movedD T.fs P2 u.ptr) x), st3 G li ln ls T.es (movedD T.fs P2 u.ptr) T.sn) := by rw [htal]; exact amount_of (st3_n H6) (wM.num (hh.ht x htal))
      have qk : t_keep li ln ls [oV u.tal, .int (numI (movedD T.fs P2 u.ptr) x + (P1.length : Nat))] (st3 G li ln ls T.es (movedD T.fs P2 u.ptr) T.sn) = some (.none, st3 G li ln ls T.es (dset (movedD T.fs P2 u.ptr) x (.int (numI (movedD T.fs P2 u.ptr) x + (P1.length : Nat)))) T.sn) := by rw [htal]; exact keep_st H6 wM
      have hlen := len_list (st3_at (es := T.es) (fs := movedD T.fs P2 u.ptr) (sn := T.sn) H6 hlp (by lia) (by lia) (by lia))
      rw [List.length_map] at hlen
      refine .of (b_seq (b_ift (b_bind rfl (b_bind rfl (b_sto (hN _)))) rfl (b_seq (b_bind (b_bind rfl (b_bind rfl (b_bind (b_bind rfl (b_bind (b_bind (b_bind (b_bind rfl (b_bind rfl (b_bind rfl (b_hands qa)))) (b_bind (b_bind rfl (b_call hlen)) rfl)) rfl) rfl)) (b_hands qk)))) rfl) rfl)) rfl) ?_
      cases P3
      · exact .retG ((b_bind (b_ief rfl rfl rfl) rfl).trans (hfin _ _ _ _))
      · exact .retG ((b_bind (b_iet rfl rfl rfl) rfl).trans (hfin _ _ _ _))
  case split =>
    have hPl : ∀ ρ : Loc, plist [] ρ (st3 G3 li ln ls es fs (sn ++ seenT u.rows ++ seenK u.rows)) = some (.loc (σ.length + 3), ρ, st3 (G3 ++ [.list []]) li ln ls es fs (sn ++ seenT u.rows ++ seenK u.rows)) := fun ρ => (b_list (Nat.zero_le _)).trans (by rw [st3_len, L3, st3_app H3])
    have H4 := H3.app [.list []]
    have L4 : (G3 ++ [Cell.list []]).length = σ.length + 4 := by rw [List.length_append, L3]; rfl
    have k1 := get_left g1 (Cell.list [])
    have k2 := get_left g2 (Cell.list [])
    have k3 : (G3 ++ [Cell.list []])[σ.length + 3]? = some (.list []) := by rw [← L3]; exact get_last ..
    have y4 : ∃ g, G3 ++ [Cell.list []] = G3 ++ g := ⟨_, rfl⟩
    clear g1 g2 g3 u1 u2 u3 y3
    generalize G3 ++ [Cell.list []] = G4 at hPl H4 L4 k1 k2 k3 y4
    obtain ⟨g4, y4⟩ := y4
    have s1 := st3_at (es := es) (fs := fs) (sn := sn ++ seenT u.rows ++ seenK u.rows) H4 k1 (by lia) (by lia) (by lia)
    have s2 := st3_at (es := es) (fs := fs) (sn := sn ++ seenT u.rows ++ seenK u.rows) H4 k2 (by lia) (by lia) (by lia)
    have hEq := eq_none s1 (st3_at (es := es) (fs := fs) (sn := sn ++ seenT u.rows ++ seenK u.rows) H4 k3 (by lia) (by lia) (by lia))
    by_cases hms : ms = []
    · have hcr : pcompL (fun S => S[σ.length + 1]? = some (.list (u.rows.map fun r => .str r.1))) (pstore (0 + 1)) (pret true) (pbind (pvar (0 + 1 + 1)) fun a => pbind (plift (isHands a)) fun _ => pbind (pbind (pvar (0 + 1)) fun a => pbind (pret []) fun as => pret (a :: as)) fun ds => phands t_room a ds) (σ.length + 4) [none, none, some (.hands li ln ls)] (u.rows.map fun r => .str r.1) (st3 G4 li ln ls es fs (sn ++ seenT u.rows ++ seenK u.rows) ++ [.list []]) =
          some (st3 (G4 ++ [.list ((sizesT es u.rows).map .int)]) li ln ls es fs (sn ++ seenT u.rows ++ seenK u.rows)) := by
        rw [st3_app H4]
        refine cm_use (ι := List (Str × Option Str × Option Str) × List (Str × Option Str × Option Str)) (fun i => i.2.map fun r => .str r.1) (fun i => st3 G4 li ln ls es fs (sn ++ seenT u.rows ++ seenK u.rows) ++ [.list ((sizesT es i.1).map .int)]) (fun i => u.rows = i.1 ++ i.2) ([], u.rows) rfl rfl rfl ?_
        rintro ⟨dn, rows⟩ h1
        dsimp only at h1
        cases rows with
        | nil => rw [List.append_nil] at h1; exact .nil rfl (get_left s2 _) (by rw [h1])
        | cons r rows =>
          have hlen : dn.length + 1 ≤ 1000 := by rw [h1, List.length_append, List.length_cons] at hrl; lia
          have hrk := hh.hr r (by rw [h1]; exact List.mem_append_right _ (List.mem_cons_self ..))
          have q4 := room_app (fs := fs) (sn := sn ++ seenT u.rows ++ seenK u.rows) (c := .list ((sizesT es dn).map .int)) H4 hh.wd hrk.1
          have q5 := append_st (G := G4) (li := li) (ln := ln) (ls := ls) (es := es) (fs := fs) (sn := sn ++ seenT u.rows ++ seenK u.rows) (xs := (sizesT es dn).map .int) (d := .int ((itemB es r.1).length : Nat)) (ys := (sizesT es (dn ++ [r])).map .int) (by rw [List.length_map, sizesT, List.length_map]; lia) (by unfold sizesT; rw [List.map_append, List.map_append]; rfl)
          rw [L4] at q5
          exact .next (dn ++ [r], rows) rfl (get_left s2 _) rfl rfl rfl (b_bind rfl (b_bind rfl (b_bind rfl (b_hands q4)))) q5 ⟨rfl, trivial⟩ rfl (by dsimp only; rw [h1, List.append_assoc]; rfl)
      have H5 := H4.app [.list ((sizesT es u.rows).map .int)]
      have L5 : (G4 ++ [Cell.list ((sizesT es u.rows).map .int)]).length = σ.length + 5 := by rw [List.length_append, L4]; rfl
      have k5 : (G4 ++ [Cell.list ((sizesT es u.rows).map .int)])[σ.length + 4]? = some (.list ((sizesT es u.rows).map .int)) := by rw [← L4]; exact get_last ..
      have qc := cut_of (o := itemB es u.src) (b := b) (st3_at (es := es) (fs := fs) (sn := sn ++ seenT u.rows ++ seenK u.rows) H5 k5 (by lia) (by lia) (by lia)) (intsOf_map (sizesT es u.rows)) ⟨w2, fun n hn => by
        obtain ⟨r, _, rfl⟩ := List.mem_map.mp hn
        exact Int.natCast_nonneg _, by rw [sizesT, List.length_map]; exact hrl⟩
      rw [cutR_eq, st3_len, L5, ← st3_app H5, show cut3 (itemB es u.src) b (cutS (sizesT es u.rows) ((itemB es u.src).drop (b - 1).toNat)) = unP es u ms b by unfold unP partS; rw [if_pos hms]] at qc
      exact .of (b_seq (b_ift (b_bind rfl (b_bind (b_bind rfl (hPl _)) (b_sto hEq))) (decide_eq_true hms) (b_seq (b_bind (b_bind (b_bind rfl (b_bind (b_bind (b_compAt (st3_len.trans L4) rfl (src_list s2) hcr) rfl) rfl)) (b_call qc)) rfl) rfl)) rfl) (fin ⟨_, σ.length + 5⟩ ⟨⟨g4 ++ [.list ((sizesT es u.rows).map .int)] ++ [.list ((unP es u ms b).1.map pieceV)], by dsimp only; rw [y4]; simp only [List.append_assoc]⟩, by dsimp only; rw [← L5]; exact get_last .., Nat.le_add_right ..⟩)
    · have hlen := len_list s2
      rw [List.length_map] at hlen
      have qu := unstrung_of (o := itemB es u.src) (b := b) (many := (u.rows.length : Nat)) s1 (marksOf_map ms) ⟨by lia, by lia, w2⟩
      rw [cutR_eq, st3_len, L4, ← st3_app H4, Int.toNat_natCast, show cut3 (itemB es u.src) b (unS ms u.rows.length ((itemB es u.src).drop (b - 1).toNat)) = unP es u ms b by unfold unP partS; rw [if_neg hms, sizesT, List.length_map]] at qu
      exact .of (b_seq (b_iff (b_bind rfl (b_bind (b_bind rfl (hPl _)) (b_sto hEq))) (decide_eq_false hms) (b_seq (b_bind (b_bind (b_bind rfl (b_bind (b_bind rfl (b_bind (b_bind rfl (b_bind (b_bind (b_bind rfl (b_call hlen)) rfl) rfl)) rfl)) rfl)) (b_call qu)) rfl) rfl)) rfl) (fin ⟨_, σ.length + 4⟩ ⟨⟨g4 ++ [.list ((unP es u ms b).1.map pieceV)], by dsimp only; rw [y4]; simp only [List.append_assoc]⟩, by dsimp only; rw [← L4]; exact get_last .., Nat.le_add_right ..⟩)
noncomputable def hitsS (ms : List (UInt8 × Bool)) (c : UInt8) : List (UInt8 × Bool) := ms.filter fun p => c == p.1
theorem hits_hit (ms : List (UInt8 × Bool)) (c : UInt8) : (hitsS ms c).head? = hitOf ms c := List.head?_filter ..
theorem hits_nil {ms : List (UInt8 × Bool)} {c : UInt8} (h : hitsS ms c = []) : hitOf ms c = none := by rw [← hits_hit, h]; rfl
theorem hits_cons {ms : List (UInt8 × Bool)} {c : UInt8} {p : UInt8 × Bool} {r : List (UInt8 × Bool)} (h : hitsS ms c = p :: r) : hitOf ms c = some p ∧ p.1 = c := by
  refine ⟨by rw [← hits_hit, h]; rfl, ?_⟩
  have : p ∈ hitsS ms c := by rw [h]; exact List.mem_cons_self ..
  have := (List.mem_filter.mp this).2
  exact (beq_iff_eq.mp this).symm
noncomputable def pieceS (ms : List (UInt8 × Bool)) (size : Nat) (l : List UInt8) : List UInt8 × List UInt8 × List UInt8 :=
  if ms = [] then (l.take size, [], l.drop size) else nextS ms l
noncomputable def contS (ms : List (UInt8 × Bool)) (size : Nat) (pc mk l : List UInt8) : List UInt8 × List UInt8 × List UInt8 :=
  if mk = [] then (pc ++ (pieceS ms (size - pc.length) l).1, (pieceS ms (size - pc.length) l).2.1, (pieceS ms (size - pc.length) l).2.2) else (pc, mk, l)
theorem contS_start (ms : List (UInt8 × Bool)) (size : Nat) (l : List UInt8) : contS ms size [] [] l = pieceS ms size l := by
  unfold contS; simp
theorem contS_mark {ms : List (UInt8 × Bool)} {size : Nat} {pc mk l : List UInt8} (h : mk ≠ []) : contS ms size pc mk l = (pc, mk, l) := by
  unfold contS; rw [if_neg h]
theorem contS_end {ms : List (UInt8 × Bool)} {size : Nat} {pc mk : List UInt8} : contS ms size pc mk [] = (pc, mk, []) := by
  unfold contS pieceS
  by_cases h : mk = []
  · subst h
    by_cases hm : ms = [] <;> simp [hm, nextS]
  · rw [if_neg h]
theorem contS_full {size : Nat} {pc l : List UInt8} (h : size ≤ pc.length) : contS [] size pc [] l = (pc, [], l) := by
  unfold contS pieceS
  have e : size - pc.length = 0 := by lia
  simp [e]
theorem contS_step {size : Nat} {pc r : List UInt8} {c : UInt8} (h : pc.length < size) : contS [] size pc [] (c :: r) = contS [] size (pc ++ [c]) [] r := by
  unfold contS pieceS
  obtain ⟨k, e⟩ : ∃ k, size - pc.length = k + 1 := ⟨size - pc.length - 1, by lia⟩
  have e2 : size - (pc ++ [c]).length = k := by rw [List.length_append]; simp; lia
  rw [e, e2]; simp
theorem nextS_cons (ms : List (UInt8 × Bool)) (c : UInt8) (r : List UInt8) : nextS ms (c :: r) = match hitOf ms c with
    | some p => ([], [p.1], if p.2 = true then r.dropWhile (· == p.1) else r)
    | none => (c :: (nextS ms r).1, (nextS ms r).2.1, (nextS ms r).2.2) := rfl
theorem contS_miss {ms : List (UInt8 × Bool)} {size : Nat} {pc r : List UInt8} {c : UInt8} (hm : ms ≠ []) (h : hitOf ms c = none) : contS ms size pc [] (c :: r) = contS ms size (pc ++ [c]) [] r := by
  unfold contS pieceS
  simp only [if_neg hm, if_true]
  rw [nextS_cons, h]; simp
theorem contS_hit {ms : List (UInt8 × Bool)} {size : Nat} {pc r : List UInt8} {c : UInt8} {p : UInt8 × Bool} (hm : ms ≠ []) (h : hitOf ms c = some p) : contS ms size pc [] (c :: r) = contS ms size pc [p.1] (if p.2 = true then r.dropWhile (· == p.1) else r) := by
  rw [contS_mark (mk := [p.1]) (List.cons_ne_nil _ _)]
  unfold contS pieceS
  simp only [if_neg hm, if_true]
  rw [nextS_cons, h]; simp
theorem dropWhile_eq {p : UInt8 → Bool} : ∀ l : List UInt8, l.dropWhile p = l.drop (l.takeWhile p).length
  | [] => rfl
  | a :: r => by
    rw [List.dropWhile_cons, List.takeWhile_cons]
    split
    · rw [List.length_cons, List.drop_succ_cons]; exact dropWhile_eq r
    · rfl
theorem pieceS_len (ms : List (UInt8 × Bool)) (size : Nat) (l : List UInt8) : ∃ q, q ≤ l.length ∧ (pieceS ms size l).2.2 = l.drop q := by
  unfold pieceS
  split
  · by_cases h : size ≤ l.length
    · exact ⟨size, h, rfl⟩
    · exact ⟨l.length, Nat.le_refl _, by show l.drop size = _; rw [List.drop_of_length_le (by lia), List.drop_length]⟩
  · exact nextS_drop ms l
noncomputable def pieceR (o : List UInt8) (w : List UInt8 × List UInt8 × List UInt8) : V := .tup [.bytes w.1, .bytes w.2.1, .int ((o.length : Int) - (w.2.2.length : Int))]
noncomputable def s_piece : Spec := fun ds σ => a4 ds fun x y z w => vB x fun o => vL y fun l => vI z fun a => vI w fun n => sL σ l fun xs => vo (marksOf xs) fun ms => if 0 ≤ a ∧ a.toNat ≤ o.length ∧ 0 ≤ n ∧ o.length ≤ 1000 ∧ n ≤ 1000 ∧ ms.length ≤ 1000 then some (pieceR o (pieceS ms n.toNat (o.drop a.toNat)), σ) else none
theorem sl_one {o : List UInt8} {x y : Int} {p : Nat} (hx : x = (p : Int)) (hy : y = ((p + 1 : Nat) : Int)) : slOk (some x) (some y) = true ∧ sl o (some x) (some y) = (o.drop p).take 1 := by
  subst hx hy
  refine ⟨?_, ?_⟩
  · have h1 : (0 : Int) ≤ (p : Int) := Int.natCast_nonneg _
    have h2 : (0 : Int) ≤ ((p + 1 : Nat) : Int) := Int.natCast_nonneg _
    simp only [slOk, Option.all, h1, h2, decide_true, Bool.and_self]
  · show (o.drop (p : Int).toNat).take (((p + 1 : Nat) : Int).toNat - (p : Int).toNat) = _
    rw [Int.toNat_natCast, Int.toNat_natCast, Nat.add_sub_cancel_left]
theorem ne_none {l k : Nat} {ms : List (UInt8 × Bool)} {τ : Sto} (h1 : τ[l]? = some (.list (ms.map markV))) (h2 : τ[k]? = some (.list [])) : vcmpS .NotEq (.loc l) (.loc k) τ = some (decide (ms ≠ [])) := by
  show neC τ l k = _
  unfold neC
  rw [sL_of h1, sL_of h2]
  cases ms with
  | nil => rfl
  | cons m ms => rfl
theorem piece_of {o : List UInt8} {l : Nat} {a n : Int} {ms : List (UInt8 × Bool)} {σ : Sto} (he : σ[l]? = some (.list (ms.map markV))) (h : 0 ≤ a ∧ a.toNat ≤ o.length ∧ 0 ≤ n ∧ o.length ≤ 1000 ∧ n ≤ 1000 ∧ ms.length ≤ 1000) : s_piece [.bytes o, .loc l, .int a, .int n] σ = some (pieceR o (pieceS ms n.toNat (o.drop a.toNat)), σ) := (sL_of he).trans ((vo_of (marksOf_map ms)).trans (if_pos h))
theorem drop_cons {o : List UInt8} {p : Nat} (h : p < o.length) : o.drop p = o.getD p 0 :: o.drop (p + 1) := by
  rw [List.drop_eq_getElem_cons h, List.getD_eq_getElem?_getD, List.getElem?_eq_getElem h]; rfl
noncomputable def pcL (o : List UInt8) (l n0 : Nat) (pc mk : List UInt8) (p : Nat) (x : Option V) : Loc := [some (.bytes o), some (.loc l), some (.int (p : Nat)), some (.int n0), some (.bytes pc), some (.bytes mk), x, none]
abbrev pcW (o : List UInt8) (ms : List (UInt8 × Bool)) (n0 a0 : Nat) (i : List UInt8 × List UInt8 × Nat × Option V × Sto) : Prop := i.2.2.1 ≤ o.length ∧ i.1.length ≤ i.2.2.1 ∧ contS ms n0 i.1 i.2.1 (o.drop i.2.2.1) = pieceS ms n0 (o.drop a0)
theorem d_piece {prog : Program} : CallOk prog KK 3 (.ref 252) s_piece := by
  refine' defOk (f := 252) ["octets", "marks", "place", "size"] 4 (by intro P; k_is) (by intro P; k_is) (bind4 fun _ _ _ _ => rfl) ?body (Runs.meets ⟨fun ds σ hu hd => Sat.a4 fun x y z w e1 => .B fun o e2 => .L fun l e3 => .I fun a e4 => .I fun n e5 => .sL fun xs he => .o fun ms hms => .fi fun ⟨h0, ha, hn, hl, hn2, hml⟩ => .ok ?_⟩) (by decide +kernel) rfl rfl rfl
  case body => conv => { arg 4; whnf }; conv => { arg 5; whnf }; repeat' (with_reducible show (_ : Prop); first
   | (show JE _ _ _ _ (Expr.Name _ _) _; first | refine' W_local (by first | ((repeat first | exact At.here | apply At.there); done) | fail) (by decide +kernel) (by decide +kernel) | refine' W_cell (by first | ((repeat first | exact At.here | apply At.there); done) | fail) (by decide +kernel) (by decide +kernel))
   | (show JE _ _ _ _ (Expr.Constant _ _ _) _; first | exact JE_int _ | refine' JE_bytes _ (by decide))
   | (show JE _ _ _ _ (Expr.Call _ _ _ _) _; refine' W_callB (by first | ((repeat first | exact At.here | apply At.there); done) | fail) (by intro P; k_is) (by first | exact PySem.boot_len | fail) (by decide +kernel) (by decide +kernel) (by first | exact cLen | fail) ?_ (by intro _; with_unfolding_all rfl) (by intro _; with_unfolding_all rfl))
   | (show JE _ _ _ _ _ _; first | refine' JE_bin ?_ ?_ | refine' JE_sub ?_ ?_ (by intro _ _; with_unfolding_all rfl) | refine' JE_slice ?_ ?_ ?_ | refine' JE_tuple ?_ | refine' JE_list ?_)
   | exact JA_nil
   | refine' JA_cons ?_ ?_ (by intro _; with_unfolding_all rfl)
   | exact JXs_nil
   | refine' JXs_cons ?_ ?_
   | (show JX _ _ _ _ (Stmt.Assign _ _ _) _; first | refine' JX_comp ?_ ?_ ?_ ?_ ?_ (by first | ((repeat first | exact At.here | apply At.there); done) | fail) (by first | exact .inl rfl | exact .inr rfl) (by decide +kernel) (by intro _ _; with_unfolding_all rfl) (by intro env O; obtain ⟨scp, b, c, d, e, f, g, h, i⟩ := env; have hs := O.scp; dsimp only at hs; subst hs; with_unfolding_all rfl) | refine' W_store ?_ (by first | ((repeat first | exact At.here | apply At.there); done) | fail) (by intro _; with_unfolding_all rfl) | refine' W_storeC ?_ (by first | ((repeat first | exact At.here | apply At.there); done) | fail) (by intro _; with_unfolding_all rfl) | refine' JX_assignTup ?_ ?_ (by intro _; with_unfolding_all rfl) (by intro env O; obtain ⟨scp, b, c, d, e, f, g, h, i⟩ := env; have hs := O.scp; dsimp only at hs; subst hs; with_unfolding_all rfl))
   | (show JX _ _ _ _ _ _; first | refine' JX_return ?_ | refine' JX_if ?_ ?_ ?_ | refine' JX_while big ?_ ?_)
   | (show JT _ _ _ _ _ _; first | refine' JT_cmpS ?_ ?_ (by with_unfolding_all rfl) | refine' JT_bool ?_ | refine' JT_val ?_ (by intro _ _; with_unfolding_all rfl))
   | (show JS _ _ _ _ _ _; first | refine' JS_local (by first | ((repeat first | exact At.here | apply At.there); done) | fail) | refine' JS_tuple ?_)
   | refine' JSs_cons ?_ ?_ (by intro _; with_unfolding_all rfl)
   | exact JSs_nil
   | refine' JP_some ?_
   | refine' JB_and ?_ ?_
   | exact JB_andNil
   | refine' JB_or ?_ ?_
   | exact JB_orNil
   | exact Cap.nil
   | refine' Cap.loc ?_
   | refine' Cap.cell (by first | ((repeat first | exact At.here | apply At.there); done) | fail) ?_
   | refine' JI_one ?_)
  subst e1 e2 e3 e4 e5
  obtain rfl := marksOf_inv hms
  obtain ⟨a0, rfl⟩ := Int.eq_ofNat_of_zero_le h0
  obtain ⟨n0, rfl⟩ := Int.eq_ofNat_of_zero_le hn
  rw [Int.toNat_natCast] at ha
  rw [Int.toNat_natCast, Int.toNat_natCast]
  refine .keep rfl hu (by simp [pieceR, V.under, V.underAll]) (.of (b_seq (b_bind rfl rfl) rfl) ?_)
  have hlt : l < σ.length := (List.getElem?_eq_some_iff.mp he).1
  refine wh_use (ι := List UInt8 × List UInt8 × Nat × Option V × Sto) (fun i => o.length - i.2.2.1) (fun i => pcL o l n0 i.1 i.2.1 i.2.2.1 i.2.2.2.1) (fun i => σ ++ i.2.2.2.2) (pcW o ms n0 a0) ([], [], a0, none, []) (by unfold big; dsimp only; lia) rfl (by rw [List.append_nil]) ⟨ha, Nat.zero_le _, contS_start ..⟩ ?_
  rintro ⟨pc, mk, p, x6, G⟩ ⟨h2, h3, h4⟩
  dsimp only at h2 h3 h4
  have fin : ∀ (G' : Sto) (ρ : Loc), contS ms n0 pc mk (o.drop p) = (pc, mk, o.drop p) → ρ = pcL o l n0 pc mk p x6 → Ends (pseq (pbind (pbind (pbind (pvar (0 + 1 + 1 + 1 + 1)) fun a => pbind (pbind (pvar (0 + 1 + 1 + 1 + 1 + 1)) fun a => pbind (pbind (pvar (0 + 1 + 1)) fun a => pbind (pret []) fun as => pret (a :: as)) fun as => pret (a :: as)) fun as => pret (a :: as)) ptup) fun d => pret (Fl.ret d)) (pret Fl.next) ρ (σ ++ G')) (pieceR o (pieceS ms n0 (o.drop a0))) σ := by
    intro G' ρ hc hρ
    subst hρ
    rw [← h4, hc, pieceR]
    dsimp only
    rw [show (o.length : Int) - ((o.drop p).length : Int) = (p : Int) by rw [List.length_drop]; lia]
    exact .retG (b_bind rfl rfl)
  by_cases hp : p < o.length
  case neg => exact .stop (b_ief (b_bind rfl (b_bind (b_bind rfl rfl) rfl)) (decide_eq_false (fun z => hp (Int.ofNat_lt.mp z))) rfl) rfl (fin _ _ (by rw [List.drop_of_length_le (Nat.le_of_not_lt hp), contS_end]) rfl)
  cases mk with
  | cons m mk => exact .stop (b_iet (b_bind rfl (b_bind (b_bind rfl rfl) rfl)) (decide_eq_true (Int.ofNat_lt.mpr hp)) (b_ief (b_bind rfl (b_bind rfl (b_sto rfl))) rfl rfl)) rfl (fin _ _ (contS_mark (List.cons_ne_nil _ _)) rfl)
  | nil =>
  have L1 : (σ ++ G ++ [Cell.list []]).length = (σ ++ G).length + 1 := by rw [List.length_append (as := σ ++ G)]; rfl
  have g0 : (σ ++ G ++ [Cell.list []])[l]? = some (.list (ms.map markV)) := get_left (get_leftG he) _
  have hNe := ne_none g0 (get_last (σ ++ G) (.list []))
  have hPl : ∀ (τ : Sto) (ρ : Loc), plist [] ρ τ = some (.loc τ.length, ρ, τ ++ [.list []]) := fun τ ρ => b_list (Nat.zero_le _)
  by_cases hfull : ms = [] ∧ n0 ≤ pc.length
  case pos =>
    obtain ⟨rfl, hfull⟩ := hfull
    exact .stop (b_iet (b_bind rfl (b_bind (b_bind rfl rfl) rfl)) (decide_eq_true (Int.ofNat_lt.mpr hp)) (b_iet (b_bind rfl (b_bind rfl (b_sto rfl))) rfl (b_ief (b_ief (b_bind rfl (b_bind (b_bind rfl (hPl _ _)) (b_sto hNe))) rfl (b_ief (b_bind (b_bind rfl rfl) (b_bind rfl (b_sto rfl))) (decide_eq_false (fun z => absurd (Int.ofNat_lt.mp z) (Nat.not_lt.mpr hfull))) rfl)) rfl rfl))) rfl (by rw [List.append_assoc]; exact fin _ _ (contS_full hfull) rfl)
  case neg =>
  have hT : ∀ x6, (pbind (pbind (pvar (0 + 1)) fun a => pbind (pbind (pret []) plist) fun b => psto (vcmpS CmpOp.NotEq a b)) fun b => if b = true then pret true else pbind (pbind (pbind (pbind (pvar (0 + 1 + 1 + 1 + 1)) fun a => pbind (pret []) fun as => pret (a :: as)) (pcall sLen)) fun a => pbind (pvar (0 + 1 + 1 + 1)) fun b => psto (vcmpS CmpOp.Lt a b)) fun b => if b = true then pret true else pret false) (pcL o l n0 pc [] p x6) (σ ++ G) = some (true, (pcL o l n0 pc [] p x6), σ ++ G ++ [.list []]) := fun x6 => by
    by_cases hms : ms = []
    · exact b_ief (b_bind rfl (b_bind (b_bind rfl (hPl _ _)) (b_sto hNe))) (decide_eq_false (fun z => z hms)) (b_iet (b_bind (b_bind rfl rfl) (b_bind rfl (b_sto rfl))) (decide_eq_true (by have : ¬ n0 ≤ pc.length := fun z => hfull ⟨hms, z⟩; lia)) rfl)
    · exact b_iet (b_bind rfl (b_bind (b_bind rfl (hPl _ _)) (b_sto hNe))) (decide_eq_true hms) rfl
  obtain ⟨k1, k2⟩ := sl_one (o := o) (x := (p : Int)) (y := (p : Int) + 1) (p := p) rfl rfl
  have k3 : (o.drop p).take 1 = [o.getD p 0] := by rw [drop_cons hp]; rfl
  rw [k3] at k2
  have hC : pcompL (fun S => S[l]? = some (.list (ms.map markV))) (pstore (0 + 1)) (pbind (pbind (pvar (0 + 1)) fun a => pbind (pret (V.int 0)) fun b => psto (vidx a b)) fun a => pbind (pbind (pvar (0 + 1 + 1)) fun a => pbind (pbind (pvar (0 + 1 + 1 + 1)) fun a => plift (asInt a)) fun lo => pbind (pbind (pbind (pvar (0 + 1 + 1 + 1)) fun a => pbind (pret (V.int 1)) fun b => plift (vbin Operator.Add a b)) fun a => plift (asInt a)) fun hi => pslice a lo hi) fun b => psto (vcmpS CmpOp.Eq a b)) (pvar (0 + 1)) ((σ ++ G).length + 1) [none, none, some (.bytes o), some (.int (p : Nat))] (ms.map markV) (σ ++ G ++ [.list []] ++ [.list []]) = some (σ ++ G ++ [.list []] ++ [.list ((hitsS ms (o.getD p 0)).map markV)]) := by
    refine cm_use (ι := List (UInt8 × Bool) × List (UInt8 × Bool)) (fun i => i.2.map markV) (fun i => σ ++ G ++ [.list []] ++ [.list ((hitsS i.1 (o.getD p 0)).map markV)]) (fun i => ms = i.1 ++ i.2) ([], ms) rfl rfl rfl ?_
    rintro ⟨dn, rest⟩ h1
    dsimp only at h1
    cases rest with
    | nil => rw [List.append_nil] at h1; exact .nil rfl (get_left g0 _) (by rw [h1])
    | cons m rest =>
      have ht : ∀ τ : Sto, (pbind (pbind (pvar (0 + 1)) fun a => pbind (pret (V.int 0)) fun b => psto (vidx a b)) fun a => pbind (pbind (pvar (0 + 1 + 1)) fun a => pbind (pbind (pvar (0 + 1 + 1 + 1)) fun a => plift (asInt a)) fun lo => pbind (pbind (pbind (pvar (0 + 1 + 1 + 1)) fun a => pbind (pret (V.int 1)) fun b => plift (vbin Operator.Add a b)) fun a => plift (asInt a)) fun hi => pslice a lo hi) fun b => psto (vcmpS CmpOp.Eq a b)) [none, some (markV m), some (.bytes o), some (.int (p : Nat))] τ = some ([m.1] == [o.getD p 0], [none, some (markV m), some (.bytes o), some (.int (p : Nat))], τ) := fun τ => b_bind (b_bind rfl (b_bind rfl (b_sto rfl))) (b_bind (b_bind rfl (b_bind rfl (b_bind rfl (b_sliceE k1 k2)))) (b_sto rfl))
      by_cases hm : o.getD p 0 = m.1
      · have hh : hitsS (dn ++ [m]) (o.getD p 0) = hitsS dn (o.getD p 0) ++ [m] := by unfold hitsS; rw [List.filter_append, List.filter_cons_of_pos (by rw [hm]; exact beq_self_eq_true _)]; rfl
        have hlen : (hitsS dn (o.getD p 0)).length ≤ dn.length := List.length_filter_le ..
        have hdl : dn.length ≤ 1000 := by rw [h1, List.length_append] at hml; lia
        have q := append_last (σ := σ ++ G ++ [.list []]) (xs := (hitsS dn (o.getD p 0)).map markV) (d := markV m) (ys := (hitsS (dn ++ [m]) (o.getD p 0)).map markV) (by rw [List.length_map]; lia) (by rw [hh, List.map_append]; rfl)
        rw [L1] at q
        exact .next (dn ++ [m], rest) rfl (get_left g0 _) rfl (ht _) (by rw [hm]; exact beq_self_eq_true _) rfl q ⟨rfl, rfl, trivial⟩ rfl (by dsimp only; rw [h1, List.append_assoc]; rfl)
      · have hh : hitsS (dn ++ [m]) (o.getD p 0) = hitsS dn (o.getD p 0) := by unfold hitsS; rw [List.filter_append, List.filter_cons_of_neg (by simpa using hm)]; exact List.append_nil _
        have ht := ht (σ ++ G ++ [.list []] ++ [.list ((hitsS dn (o.getD p 0)).map markV)])
        rw [show ([m.1] == [o.getD p 0]) = false by simpa using Ne.symm hm, ← hh] at ht
        exact .skip (ρ2 := [none, some (markV m), some (.bytes o), some (.int (p : Nat))]) (dn ++ [m], rest) rfl (get_left g0 _) rfl (by dsimp only; rw [← hh]; exact ht) rfl ⟨rfl, rfl, trivial⟩ rfl (by dsimp only; rw [h1, List.append_assoc]; rfl)
  have hD := drop_cons hp
  have L2 : (σ ++ G ++ [Cell.list []] ++ [Cell.list ((hitsS ms (o.getD p 0)).map markV)]).length = (σ ++ G).length + 2 := by rw [List.length_append (as := σ ++ G ++ [Cell.list []]), L1]; rfl
  have gH : (σ ++ G ++ [Cell.list []] ++ [Cell.list ((hitsS ms (o.getD p 0)).map markV)] ++ [Cell.list []])[(σ ++ G).length + 1]? = some (.list ((hitsS ms (o.getD p 0)).map markV)) := get_left (by rw [← L1]; exact get_last ..) _
  have hEq := eq_none gH (get_last (σ ++ G ++ [Cell.list []] ++ [Cell.list ((hitsS ms (o.getD p 0)).map markV)]) (.list []))
  have hGG : ∀ X : Cell, σ ++ G ++ [Cell.list []] ++ [X] ++ [Cell.list []] = σ ++ (G ++ [Cell.list []] ++ [X] ++ [Cell.list []]) := fun X => by simp only [List.append_assoc]
  have hlen : (o.drop (p + 1)).length = o.length - (p + 1) := List.length_drop ..
  rw [hD] at h4
  cases hh : hitsS ms (o.getD p 0) with
  | nil =>
    rw [hh] at hC hEq gH
    have hadd : vbin .Add (.bytes pc) (.bytes [o.getD p 0]) = some (.bytes (pc ++ [o.getD p 0])) := if_pos (by simp only [List.length_singleton]; lia)
    refine .next (pc ++ [o.getD p 0], [], p + 1, some (.loc ((σ ++ G).length + 1)), G ++ [Cell.list []] ++ [.list (List.map markV [])] ++ [Cell.list []]) (b_iet (b_bind rfl (b_bind (b_bind rfl rfl) rfl)) (decide_eq_true (Int.ofNat_lt.mpr hp)) (b_iet (b_bind rfl (b_bind rfl (b_sto rfl))) rfl (b_iet (hT x6) rfl rfl))) rfl ?_ (by dsimp only; lia) ⟨hp, by rw [List.length_append, List.length_singleton]; dsimp only; lia, ?_⟩
    · dsimp only
      rw [← hGG]
      exact b_seq (b_bind (b_compAt L1 rfl (src_list g0) hC) rfl) (b_seq (b_ift (b_bind rfl (b_bind (b_bind rfl (hPl _ _)) (b_sto hEq))) (decide_eq_true rfl) (b_seq (b_bind (b_bind rfl (b_bind (b_bind rfl (b_bind rfl (b_bind rfl (b_sliceE k1 k2)))) (b_lift hadd))) rfl) rfl)) (b_seq (b_bind (b_bind rfl (b_bind rfl (b_lift rfl))) rfl) rfl))
    · rw [← h4]
      by_cases hms : ms = []
      · subst hms
        exact (contS_step (Nat.lt_of_not_le fun z => hfull ⟨rfl, z⟩)).symm
      · exact (contS_miss hms (hits_nil hh)).symm
  | cons q rest =>
    rw [hh] at hC hEq gH
    obtain ⟨hq1, hq2⟩ := hits_cons hh
    have hms : ms ≠ [] := fun z => by rw [z] at hh; cases hh
    obtain ⟨K, hK⟩ : ∃ K, K = if q.2 = true then ((o.drop (p + 1)).takeWhile (· == q.1)).length else 0 := ⟨_, rfl⟩
    have hKl : K ≤ o.length - (p + 1) := by
      rw [← hlen, hK]
      split
      · have := dropWhile_len (p := (· == q.1)) (o.drop (p + 1)); lia
      · exact Nat.zero_le _
    have hv : vidx (.loc ((σ ++ G).length + 1)) (.int 0) (σ ++ G ++ [Cell.list []] ++ [Cell.list ((q :: rest).map markV)] ++ [Cell.list []]) = some (markV q) := v_list gH (Int.le_refl 0) rfl
    refine .next (pc, [q.1], p + K + 1, some (.loc ((σ ++ G).length + 1)), G ++ [Cell.list []] ++ [.list ((q :: rest).map markV)] ++ [Cell.list []]) (b_iet (b_bind rfl (b_bind (b_bind rfl rfl) rfl)) (decide_eq_true (Int.ofNat_lt.mpr hp)) (b_iet (b_bind rfl (b_bind rfl (b_sto rfl))) rfl (b_iet (hT x6) rfl rfl))) rfl ?_ (by dsimp only; lia) ⟨by dsimp only; lia, by dsimp only; lia, ?_⟩
    · dsimp only
      rw [← hGG]
      refine b_seq (b_bind (b_compAt L1 rfl (src_list g0) hC) rfl) (b_seq (ρ1 := pcL o l n0 pc [q.1] (p + K) (some (.loc ((σ ++ G).length + 1)))) (σ1 := σ ++ G ++ [Cell.list []] ++ [Cell.list ((q :: rest).map markV)] ++ [Cell.list []]) (b_iff (b_bind rfl (b_bind (b_bind rfl (hPl _ _)) (b_sto hEq))) (decide_eq_false (List.cons_ne_nil _ _)) (b_seq (b_bind (b_bind (b_bind rfl (b_bind rfl (b_sto hv))) (b_bind rfl (b_sto rfl))) rfl) ?_)) (b_seq (b_bind (b_bind rfl (b_bind rfl (b_lift rfl))) rfl) rfl))
      refine wq_use (ι := Nat) (fun j => o.length - j) (fun j => pcL o l n0 pc [q.1] (p + j) (some (.loc ((σ ++ G).length + 1)))) (fun _ => σ ++ G ++ [Cell.list []] ++ [Cell.list ((q :: rest).map markV)] ++ [Cell.list []]) (fun j => j ≤ K) 0 (by unfold big; lia) rfl rfl (Nat.zero_le _) ?_
      intro j hj
      obtain ⟨q1, q2⟩ := q
      dsimp only at hK ⊢
      cases q2 with
      | false =>
        obtain rfl : K = 0 := hK
        obtain rfl : j = 0 := Nat.le_zero.mp hj
        exact .stop (b_ief (b_bind (b_bind (b_bind rfl (b_bind rfl (b_sto hv))) (b_bind rfl (b_sto rfl))) (b_lift rfl)) rfl rfl) rfl rfl
      | true =>
        have hK : K = ((o.drop (p + 1)).takeWhile (· == q1)).length := hK
        obtain ⟨s1, s2⟩ := sl_one (o := o) (x := ((p + j : Nat) : Int) + 1) (y := ((p + j : Nat) : Int) + 2) (p := p + j + 1) rfl rfl
        have s3 := tw_at (m := q1) (o.drop (p + 1)) j (by lia)
        rw [List.drop_drop, ← hK, show p + 1 + j = p + j + 1 by lia] at s3
        have s4 : ∀ τ, vcmpS .Eq (.bytes ((o.drop (p + j + 1)).take 1)) (.bytes [q1]) τ = some (decide (j < K)) := fun τ => congrArg some s3
        by_cases hjk : j < K
        · exact .next (j + 1) (b_iet (b_bind (b_bind (b_bind rfl (b_bind rfl (b_sto hv))) (b_bind rfl (b_sto rfl))) (b_lift rfl)) rfl (b_iet (b_bind (b_bind rfl (b_bind rfl (b_bind rfl (b_sliceE s1 s2)))) (b_bind rfl (b_sto (s4 _)))) (decide_eq_true hjk) rfl)) rfl (b_seq (b_bind (b_bind rfl (b_bind rfl (b_lift rfl))) rfl) rfl) (by lia) hjk
        · obtain rfl : j = K := by lia
          exact .stop (b_iet (b_bind (b_bind (b_bind rfl (b_bind rfl (b_sto hv))) (b_bind rfl (b_sto rfl))) (b_lift rfl)) rfl (b_ief (b_bind (b_bind rfl (b_bind rfl (b_bind rfl (b_sliceE s1 s2)))) (b_bind rfl (b_sto (s4 _)))) (decide_eq_false hjk) rfl)) rfl rfl
    · rw [← h4, contS_hit hms hq1]
      show contS ms n0 pc [q.1] (o.drop (p + K + 1)) = _
      congr 1
      rw [hK]
      split
      · rw [dropWhile_eq, List.drop_drop]; congr 1; lia
      · rfl
noncomputable def s_udue : Spec := fun ds σ => a4 ds fun i n s w => vL i fun li => vL n fun ln => vo (back usV s) fun u => vL w fun ls => sD σ li fun es => sD σ ln fun fs => sL σ ls fun sn => vo (marksD es u.marks) fun ms => vo (posOf fs u.ptr) fun b =>
  iff' (li ≠ ln ∧ sn.length ≤ 1000 ∧ ∃ ks js, UnOk ks js es fs u ms b) (some (overV (unP es u ms b).2.2, st3 σ li ln ls (unT es fs sn u ms b).es (unT es fs sn u ms b).fs (unT es fs sn u ms b).sn))
theorem udue_of {li ln ls : Nat} {es fs : List (Str × V)} {sn : List V} {u : UStm} {ms : List (UInt8 × Bool)} {b : Int} {σ : Sto} {ks js : List Str} (h1 : σ[li]? = some (.dict es)) (h2 : σ[ln]? = some (.dict fs)) (h3 : σ[ls]? = some (.list sn)) (hne : li ≠ ln) (hz : sn.length ≤ 1000) (h : UnOk ks js es fs u ms b) :
    s_udue [.loc li, .loc ln, usV u, .loc ls] σ = some (overV (unP es u ms b).2.2, st3 σ li ln ls (unT es fs sn u ms b).es (unT es fs sn u ms b).fs (unT es fs sn u ms b).sn) :=
  (vo_of (back_of usV_inj u)).trans ((sD_of h1).trans ((sD_of h2).trans ((sL_of h3).trans ((vo_of h.hm).trans ((vo_of h.hb).trans (iff_pos ⟨hne, hz, ks, js, h⟩))))))
noncomputable def pieS (ms : List (UInt8 × Bool)) (es : List (Str × V)) : List (Str × Option Str × Option Str) → List UInt8 → List (List UInt8 × List UInt8) × List UInt8
  | [], r => ([], r)
  | x :: xs, r => if r = [] then ([], []) else (((pieceS ms (itemB es x.1).length r).1, (pieceS ms (itemB es x.1).length r).2.1) :: (pieS ms es xs (pieceS ms (itemB es x.1).length r).2.2).1, (pieS ms es xs (pieceS ms (itemB es x.1).length r).2.2).2)
theorem pieS_nil (ms : List (UInt8 × Bool)) (es : List (Str × V)) (rows : List (Str × Option Str × Option Str)) : pieS ms es rows [] = ([], []) := by cases rows <;> rfl
theorem pieS_cut (es : List (Str × V)) : ∀ (rows : List (Str × Option Str × Option Str)) (r : List UInt8), cutS (sizesT es rows) r = pieS [] es rows r
  | [], _ => rfl
  | x :: xs, r => by
    show cutS (((itemB es x.1).length : Int) :: sizesT es xs) r = _
    rw [cutS, pieS, pieS_cut es xs, Int.toNat_natCast]; rfl
theorem pieS_un {ms : List (UInt8 × Bool)} (hm : ms ≠ []) (es : List (Str × V)) : ∀ (rows : List (Str × Option Str × Option Str)) (r : List UInt8), unS ms rows.length r = pieS ms es rows r
  | [], _ => rfl
  | x :: xs, r => by
    have h : ∀ n l, pieceS ms n l = nextS ms l := fun n l => if_neg hm
    rw [List.length_cons, unS, pieS, pieS_un hm es xs, h]
theorem unP_pie (es : List (Str × V)) (u : UStm) (ms : List (UInt8 × Bool)) (b : Int) : unP es u ms b = cut3 (itemB es u.src) b (pieS ms es u.rows ((itemB es u.src).drop (b - 1).toNat)) := by
  unfold unP partS
  by_cases hm : ms = []
  · subst hm; rw [if_pos rfl, pieS_cut]
  · rw [if_neg hm, sizesT, List.length_map, pieS_un hm es]
theorem itemB_set {es : List (Str × V)} {x : Str} {g : List UInt8} (h : x ∈ es.map (·.1)) (y : Str) : itemB (dset es x (.bytes g)) y = if y = x then g else itemB es y := by
  unfold itemB
  rw [dset_val h]
  by_cases hy : y = x
  · rw [if_pos hy, if_pos hy]; rfl
  · rw [if_neg hy, if_neg hy]
theorem bringT_size {ks js : List Str} {es fs : List (Str × V)} {x : Str} {b : List UInt8} (w : Wd ks js es fs) (h : x ∈ ks) (y : Str) : (itemB (bringT es x b) y).length = (itemB es y).length := by
  unfold bringT
  rw [itemB_set (by rw [w.ek]; exact h)]
  by_cases hy : y = x
  · rw [if_pos hy, fitS_len, hy]
  · rw [if_neg hy]
theorem layT_size {ks js : List Str} {T : Tabs} {p : List UInt8 × List UInt8} {r : Str × Option Str × Option Str} (w : Wd ks js T.es T.fs) (h : RowOk ks js r) (y : Str) : (itemB (layT T p r).es y).length = (itemB T.es y).length := by
  obtain ⟨x, k, c⟩ := r
  have e1 : (layT T p (x, k, c)).es = (layK (lay1 T x p.1) p.2 k).es := by unfold layT; cases c <;> rfl
  rw [e1]
  have w1 : Wd ks js (lay1 T x p.1).es (lay1 T x p.1).fs := lay1_wd w h.1
  cases k with
  | none => exact bringT_size w h.1 y
  | some k => exact (bringT_size w1 (h.2.1 k rfl) y).trans (bringT_size w h.1 y)
noncomputable def seenG (f : Str × Option Str × Option Str → Option Str) : List (Str × Option Str × Option Str) → List V
  | [] => []
  | r :: rs => (f r).elim (seenG f rs) fun k => .str (qS k) :: seenG f rs
theorem seenG_T : ∀ rows : List (Str × Option Str × Option Str), seenG (fun r => some r.1) rows = seenT rows
  | [] => rfl
  | r :: rs => congrArg (V.str (qS r.1) :: ·) (seenG_T rs)
theorem seenG_K : ∀ rows : List (Str × Option Str × Option Str), seenG (fun r => r.2.1) rows = seenK rows
  | [] => rfl
  | (x, none, c) :: rs => seenG_K rs
  | (x, some k, c) :: rs => congrArg (V.str (qS k) :: ·) (seenG_K rs)
theorem seenG_app (f : Str × Option Str × Option Str → Option Str) (a b : List (Str × Option Str × Option Str)) : seenG f (a ++ b) = seenG f a ++ seenG f b := by
  induction a with
  | nil => rfl
  | cons r a ih =>
    show (f r).elim (seenG f (a ++ b)) (fun k => .str (qS k) :: seenG f (a ++ b)) = ((f r).elim (seenG f a) fun k => .str (qS k) :: seenG f a) ++ seenG f b
    rw [ih]
    cases f r <;> rfl
theorem seenG_len (f : Str × Option Str × Option Str → Option Str) : ∀ a : List (Str × Option Str × Option Str), (seenG f a).length ≤ a.length
  | [] => Nat.le_refl _
  | r :: a => by
    have ih := seenG_len f a
    rw [seenG]
    cases f r with
    | none => exact Nat.le_succ_of_le ih
    | some k => exact Nat.succ_le_succ ih
theorem extend_st {G : Sto} {li ln ls : Nat} {es fs : List (Str × V)} {sn ys : List V} (H : Apart3 G li ln ls) (h : sn.length + ys.length < 1000000) : s_extend [.loc ls, .loc G.length] (st3 G li ln ls es fs sn ++ [.list ys]) = some (.none, st3 (G ++ [.list ys]) li ln ls es fs (sn ++ ys)) := by
  have h1 : (st3 G li ln ls es fs sn ++ [Cell.list ys])[ls]? = some (.list sn) := get_left (st3_s H) _
  have h2 : (st3 G li ln ls es fs sn ++ [Cell.list ys])[G.length]? = some (.list ys) := by rw [← st3_len (σ := G) (li := li) (ln := ln) (ls := ls) (es := es) (fs := fs) (sn := sn)]; exact get_last ..
  refine (sL_of h1).trans ((sL_of h2).trans ((if_pos ⟨h, Nat.ne_of_lt H.s⟩).trans ?_))
  rw [List.set_append_left _ _ (by rw [st3_len]; exact H.s), st3_sets, st3_app H]
theorem pieceS_le (ms : List (UInt8 × Bool)) (n : Nat) (l : List UInt8) : (pieceS ms n l).1.length ≤ l.length ∧ (pieceS ms n l).2.1.length ≤ 1 := by
  unfold pieceS
  split
  · exact ⟨by rw [List.length_take]; exact Nat.min_le_right .., Nat.zero_le _⟩
  · exact nextS_len ms l
theorem marksD_len {es : List (Str × V)} : ∀ {marks : List (Opd × Bool)} {ms : List (UInt8 × Bool)}, marksD es marks = some ms → ms.length = marks.length
  | [], _, h => by cases h; rfl
  | m :: marks, _, h => by
    obtain ⟨c, r, _, h2, rfl⟩ := marksD_cons h
    rw [List.length_cons, List.length_cons, marksD_len h2]
abbrev UI : Type := Tabs × List (Str × Option Str × Option Str) × Nat × Nat × Sto × Option V × Option V × Option V × Option V × Option V
noncomputable def udL (σ : Sto) (li ln ls : Nat) (es : List (Str × V)) (u : UStm) (i : UI) : Loc := [some (.loc li), some (.loc ln), some (usV u), some (.loc ls), some (.bytes (itemB es u.src)), some (.int ((i.2.2.1 : Int) + 1)), some (.loc σ.length), some (.int 1), some (.int (i.2.2.2.1 : Nat)), i.2.2.2.2.2.1, i.2.2.2.2.2.2.1, i.2.2.2.2.2.2.2.1, i.2.2.2.2.2.2.2.2.1, i.2.2.2.2.2.2.2.2.2, none, none, none, none]
noncomputable def udS (li ln ls : Nat) (i : UI) : Sto := st3 i.2.2.2.2.1 li ln ls i.1.es i.1.fs i.1.sn
structure UdW (ks js : List Str) (es : List (Str × V)) (u : UStm) (ms : List (UInt8 × Bool)) (T0 : Tabs) (w0 : List (List UInt8 × List UInt8) × List UInt8) (G3 : Sto) (i : UI) : Prop where
  k1 : Wd ks js i.1.es i.1.fs
  k2 : ∀ y, (itemB i.1.es y).length = (itemB es y).length
  k3 : ∀ r ∈ i.2.1, RowOk ks js r
  k4 : i.1.sn.length + 2 * i.2.1.length ≤ 10000
  k5 : i.2.2.1 ≤ (itemB es u.src).length
  k6 : layAll T0 w0.1 u.rows = layAll i.1 (pieS ms es i.2.1 ((itemB es u.src).drop i.2.2.1)).1 i.2.1
  k7 : w0.1.length = i.2.2.2.1 + (pieS ms es i.2.1 ((itemB es u.src).drop i.2.2.1)).1.length
  k8 : w0.2 = (pieS ms es i.2.1 ((itemB es u.src).drop i.2.2.1)).2
  k9 : ∃ g, i.2.2.2.2.1 = G3 ++ g
theorem d_udue {prog : Program} : CallOk prog KK 4 (.ref 257) s_udue := by
  refine' defOk (f := 257) ["items", "numbers", "statement", "seen"] 14 (by intro P; k_is) (by intro P; k_is) (bind4 fun _ _ _ _ => rfl) ?body (Runs.meets ⟨fun ds σ hu hd => Sat.a4 fun i n s w e1 => .L fun li e2 => .L fun ln e3 => .o fun u hu1 => .L fun ls e4 => .sD fun es hi => .sD fun fs hf => .sL fun sn hs => .o fun ms _ => .o fun b _ => .iff' fun ⟨hne, hz, ks, js, hh⟩ => .ok ?_⟩) (by decide +kernel) rfl rfl rfl
  case body => conv => { arg 4; whnf }; conv => { arg 5; whnf }; repeat' (with_reducible show (_ : Prop); first
   | (show JE _ _ _ _ (Expr.Name _ _) _; first | refine' W_local (by first | ((repeat first | exact At.here | apply At.there); done) | fail) (by decide +kernel) (by decide +kernel) | refine' W_cell (by first | ((repeat first | exact At.here | apply At.there); done) | fail) (by decide +kernel) (by decide +kernel))
   | (show JE _ _ _ _ (Expr.Constant _ _ _) _; first | exact JE_int _ | exact JE_str _ | exact JE_none)
   | (show JE _ _ _ _ (Expr.Call (Expr.Attribute _ _ _) _ _ _) _; refine' W_extend ?_ ?_ (by intro _; with_unfolding_all rfl) (by intro _; with_unfolding_all rfl) (by with_unfolding_all rfl) (by intro _; with_unfolding_all rfl) (by intro _; with_unfolding_all rfl))
   | (show JE _ _ _ _ (Expr.Call _ _ _ _) _; first | refine' W_callB (by first | ((repeat first | exact At.here | apply At.there); done) | fail) (by intro P; k_is) (by first | exact PySem.boot_len | fail) (by decide +kernel) (by decide +kernel) (by first | exact cLen | fail) ?_ (by intro _; with_unfolding_all rfl) (by intro _; with_unfolding_all rfl) | refine' W_call (by first | ((repeat first | exact At.here | apply At.there); done) | fail) (by intro P; k_is) (by decide +kernel) (by intro P; k_is) (by first | exact callOk_le d_bring (by decide) | exact callOk_le d_fetch (by decide) | exact callOk_le d_piece (by decide) | fail) ?_ (by intro _; with_unfolding_all rfl) (by intro _; with_unfolding_all rfl))
   | (show JE _ _ _ _ _ _; first | refine' JE_bin ?_ ?_ | refine' JE_sub ?_ ?_ (by intro _ _; with_unfolding_all rfl) | refine' JE_tuple ?_ | refine' JE_if ?_ ?_ ?_ | refine' JE_comp ?_ ?_ ?_ ?_ ?_ (by decide +kernel) (by intro _ _; with_unfolding_all rfl))
   | exact JA_nil
   | refine' JA_cons ?_ ?_ (by intro _; with_unfolding_all rfl)
   | exact JXs_nil
   | refine' JXs_cons ?_ ?_
   | (show JX _ _ _ _ (Stmt.Assign _ _ _) _; first | refine' JX_comp ?_ ?_ ?_ ?_ ?_ (by first | ((repeat first | exact At.here | apply At.there); done) | fail) (by first | exact .inl rfl | exact .inr rfl) (by decide +kernel) (by intro _ _; with_unfolding_all rfl) (by intro env O; obtain ⟨scp, b, c, d, e, f, g, h, i⟩ := env; have hs := O.scp; dsimp only at hs; subst hs; with_unfolding_all rfl) | refine' W_store ?_ (by first | ((repeat first | exact At.here | apply At.there); done) | fail) (by intro _; with_unfolding_all rfl) | refine' JX_setItem ?_ ?_ ?_ (by intro _; with_unfolding_all rfl) | refine' JX_assignTup ?_ ?_ (by intro _; with_unfolding_all rfl) (by intro env O; obtain ⟨scp, b, c, d, e, f, g, h, i⟩ := env; have hs := O.scp; dsimp only at hs; subst hs; with_unfolding_all rfl))
   | (show JX _ _ _ _ _ _; first | refine' W_expr ?_ (by intro _; with_unfolding_all rfl) | refine' JX_return ?_ | refine' JX_if ?_ ?_ ?_ | refine' JX_for ?_ ?_ ?_ (by intro _ _; with_unfolding_all rfl))
   | (show JT _ _ _ _ _ _; first | refine' JT_cmpS ?_ ?_ (by with_unfolding_all rfl) | refine' JT_chain2 ?_ ?_ ?_ (by with_unfolding_all rfl) (by with_unfolding_all rfl) | refine' JT_not ?_)
   | (show JS _ _ _ _ _ _; first | refine' JS_local (by first | ((repeat first | exact At.here | apply At.there); done) | fail) | refine' JS_cell (by first | ((repeat first | exact At.here | apply At.there); done) | fail) | refine' JS_tuple ?_)
   | refine' JSs_cons ?_ ?_ (by intro _; with_unfolding_all rfl)
   | exact JSs_nil
   | exact Cap.nil
   | refine' Cap.loc ?_
   | refine' Cap.glob ?_
   | refine' Cap.cell (by first | ((repeat first | exact At.here | apply At.there); done) | fail) ?_
   | exact JI_nil
   | refine' JI_one ?_)
  obtain rfl := back_inv hu1
  subst e1 e2 e3 e4
  have hb : li ≠ ls := fun z => by rw [z, hs] at hi; cases hi
  have hc : ln ≠ ls := fun z => by rw [z, hs] at hf; cases hf
  have H : Apart3 σ li ln ls := ⟨hne, hb, hc, (List.getElem?_eq_some_iff.mp hi).1, (List.getElem?_eq_some_iff.mp hf).1, (List.getElem?_eq_some_iff.mp hs).1⟩
  obtain ⟨w1, w2⟩ := hh.wd.item hh.hs
  obtain ⟨u1, u2, u3⟩ := unT_un (u := u) (ms := ms) (b := b) (under_get hu hi) (under_get hu hf) (under_get hu hs)
  refine .leave rfl (by rw [st3_len]; exact Nat.le_refl _) (st3_under hu u1 u2 u3) (by simp [overV, V.under]) ?_
  clear u1 u2 u3
  have hs0 : s_fetch [.loc li, refV u.src, .int 1] σ = some (.bytes (itemB es u.src), σ) := fetch_of (o := .ref u.src) hi ((vo_of w1).trans rfl)
  have hrl := hh.rl
  have hpl : (pbind (pbind (pbind (pvar (0 + 1 + 1)) fun a => pbind (pret (V.int 4)) fun b => psto (vidx a b)) fun a => pbind (pret V.none) fun b => psto (vcmpS CmpOp.Is a b)) fun c => if c = true then pret (V.int 1) else pbind (pvar (0 + 1)) fun a => pbind (pbind (pbind (pvar (0 + 1 + 1)) fun a => pbind (pret (V.int 4)) fun b => psto (vidx a b)) fun a => pbind (pret (V.int 1)) fun b => psto (vidx a b)) fun b => psto (vidx a b)) [some (.loc li), some (.loc ln), some (usV u), some (.loc ls), some (.bytes (itemB es u.src)), none, none, none, none, none, none, none, none, none, none, none, none, none] σ = some (.int b, [some (.loc li), some (.loc ln), some (usV u), some (.loc ls), some (.bytes (itemB es u.src)), none, none, none, none, none, none, none, none, none, none, none, none, none], σ) := by
    have hb := hh.hb
    clear hs0 hh w1 w2 hrl hd hu1
    obtain ⟨src, marks, rows, ptr, tal⟩ := u
    cases ptr with
    | none => cases hb; exact b_iet rfl rfl rfl
    | some x =>
      obtain ⟨d, h1, h2⟩ := vo_some hb
      obtain ⟨j, rfl, h3⟩ := vI_some h2
      cases h3
      exact b_ief rfl rfl (b_bind rfl (b_bind rfl (b_sto (v_dict hf h1))))
  have hcm : pcompL (fun _ => True) (psTup (psCons (pstore (0 + 1)) (psCons (pstore (0 + 1 + 1)) psNil))) (pret true) (pbind (pbind (pbind (pbind (pvar (0 + 1 + 1 + 1 + 1)) fun a => pbind (pbind (pvar (0 + 1)) fun a => pbind (pbind (pret (V.int 1)) fun a => pbind (pret []) fun as => pret (a :: as)) fun as => pret (a :: as)) fun as => pret (a :: as)) (pcall s_fetch)) fun a => pbind (pbind (pvar (0 + 1 + 1)) fun a => pbind (pret []) fun as => pret (a :: as)) fun as => pret (a :: as)) ptup) σ.length [none, none, none, none, some (.loc li)] (u.marks.map umV) (σ ++ [.list []]) = some (σ ++ [.list (ms.map markV)]) := by
    refine cm_use (ι := List (UInt8 × Bool) × List (Opd × Bool) × List (UInt8 × Bool)) (fun i => i.2.1.map umV) (fun i => σ ++ [.list (i.1.map markV)]) (fun i => marksD es i.2.1 = some i.2.2 ∧ ms = i.1 ++ i.2.2 ∧ i.1.length + i.2.1.length ≤ 1000) ([], u.marks, ms) rfl rfl ⟨hh.hm, rfl, by have := hh.ml; dsimp only [List.length_nil]; lia⟩ ?_
    rintro ⟨dn, marks, rest⟩ ⟨h1, h2, h3⟩
    dsimp only at h1 h2 h3
    cases marks with
    | nil =>
      cases h1
      rw [List.append_nil] at h2
      exact .nil rfl trivial (by rw [h2])
    | cons m marks =>
      obtain ⟨c, r, h4, h5, rfl⟩ := marksD_cons h1
      rw [List.length_cons] at h3
      have q1 := fetch_of (get_left hi (.list (dn.map markV))) h4
      have q2 := append_last (σ := σ) (xs := dn.map markV) (d := .tup [.bytes [c], .bool m.2]) (ys := (dn ++ [(c, m.2)]).map markV) (by rw [List.length_map]; lia) (by rw [List.map_append]; rfl)
      exact .next (dn ++ [(c, m.2)], marks, r) rfl trivial rfl rfl rfl (b_bind (b_bind (b_bind rfl (b_call q1)) rfl) rfl) q2 ⟨rfl, trivial⟩ rfl ⟨h5, by rw [h2, List.append_assoc]; rfl, by rw [List.length_append, List.length_singleton]; dsimp only; lia⟩
  have hcs : ∀ (f : Str × Option Str × Option Str → Option Str) (k : Int) (τ : Sto) (m : Nat), τ.length = m → (∀ r τ', vidx (urV r) (.int k) τ' = some (oV (f r))) → (∀ r ∈ u.rows, ∀ x, f r = some x → x ∈ ks) → pcompL (fun _ => True) (pstore (0 + 1)) (pbind (pbind (pvar (0 + 1)) fun a => pbind (pvar (0 + 1 + 1)) fun b => psto (vidx a b)) fun a => pbind (pret V.none) fun b => psto (vcmpS CmpOp.IsNot a b)) (pbind (pret (V.str (Str.ofString "?"))) fun a => pbind (pbind (pbind (pvar (0 + 1)) fun a => pbind (pvar (0 + 1 + 1)) fun b => psto (vidx a b)) fun a => pbind (pret (V.int 1)) fun b => psto (vidx a b)) fun b => plift (vbin Operator.Add a b)) m [none, none, some (.int k)] (u.rows.map urV) (τ ++ [.list []]) = some (τ ++ [.list (seenG f u.rows)]) := by
    intro f k τ m hm hv hk
    subst hm
    refine cm_use (ι := List (Str × Option Str × Option Str) × List (Str × Option Str × Option Str)) (fun i => i.2.map urV) (fun i => τ ++ [.list (seenG f i.1)]) (fun i => u.rows = i.1 ++ i.2) ([], u.rows) rfl rfl rfl ?_
    rintro ⟨dn, rows⟩ h1
    dsimp only at h1
    cases rows with
    | nil => rw [List.append_nil] at h1; exact .nil rfl trivial (by rw [h1])
    | cons r rows =>
      have hlen : dn.length + 1 ≤ 1000 := by rw [h1, List.length_append, List.length_cons] at hrl; lia
      have hgl := seenG_len f dn
      have hfr := hv r
      have hkr := hk r (by rw [h1]; exact List.mem_append_right _ (List.mem_cons_self ..))
      have hga := seenG_app f dn [r]
      cases hr : f r with
      | none =>
        rw [hr] at hfr
        have hga : seenG f (dn ++ [r]) = seenG f dn := by rw [hga]; show seenG f dn ++ (f r).elim _ _ = _; rw [hr]; exact List.append_nil _
        exact .skip (b := false) (ρ2 := [none, some (urV r), some (.int k)]) (dn ++ [r], rows) rfl trivial rfl (by dsimp only; rw [hga]; exact b_bind (b_bind rfl (b_bind rfl (b_sto (hfr _)))) (b_bind rfl (b_sto rfl))) rfl ⟨rfl, trivial⟩ rfl (by dsimp only; rw [h1, List.append_assoc]; rfl)
      | some x =>
        rw [hr] at hfr
        have hga : seenG f (dn ++ [r]) = seenG f dn ++ [.str (qS x)] := by rw [hga]; show seenG f dn ++ (f r).elim _ _ = _; rw [hr]; rfl
        have q5 := append_last (σ := τ) (xs := seenG f dn) (d := .str (qS x)) (ys := seenG f (dn ++ [r])) (by lia) hga.symm
        have hq : vbin .Add (.str (Str.ofString "?")) (.str x) = some (.str (qS x)) := if_pos (hh.nm x (hkr x hr))
        exact .next (dn ++ [r], rows) rfl trivial rfl (b_bind (b_bind rfl (b_bind rfl (b_sto (hfr _)))) (b_bind rfl (b_sto rfl))) rfl (b_bind rfl (b_bind (b_bind (b_bind rfl (b_bind rfl (b_sto (hfr _)))) (b_bind rfl (b_sto rfl))) (b_lift hq))) q5 ⟨rfl, trivial⟩ rfl (by dsimp only; rw [h1, List.append_assoc]; rfl)
  have L1 : (σ ++ [Cell.list (ms.map markV)]).length = σ.length + 1 := by rw [List.length_append]; rfl
  have H1 := H.app [.list (ms.map markV)]
  have hst1 := st3_self (get_left hi (.list (ms.map markV))) (get_left hf _) (get_left hs _)
  have hgT := seenG_len (fun r => some r.1) u.rows
  have hgK := seenG_len (fun r => r.2.1) u.rows
  have c0 := hcs (fun r => some r.1) 0 (st3 (σ ++ [.list (ms.map markV)]) li ln ls es fs sn) (σ.length + 1) (st3_len.trans L1) (fun r τ' => rfl) (fun r hr x hx => by cases hx; exact (hh.hr r hr).1)
  have x0 := extend_st (es := es) (fs := fs) (sn := sn) (ys := seenG (fun r => some r.1) u.rows) H1 (by lia)
  rw [L1] at x0
  rw [seenG_T] at c0 x0 hgT
  have H2 := H1.app [.list (seenT u.rows)]
  have L2 : (σ ++ [Cell.list (ms.map markV)] ++ [Cell.list (seenT u.rows)]).length = σ.length + 2 := by rw [List.length_append, L1]; rfl
  have c1 := hcs (fun r => r.2.1) 1 (st3 (σ ++ [.list (ms.map markV)] ++ [.list (seenT u.rows)]) li ln ls es fs (sn ++ seenT u.rows)) (σ.length + 2) (st3_len.trans L2) (fun r τ' => rfl) (fun r hr x hx => (hh.hr r hr).2.1 x hx)
  have x1 := extend_st (es := es) (fs := fs) (sn := sn ++ seenT u.rows) (ys := seenG (fun r => r.2.1) u.rows) H2 (by rw [List.length_append]; lia)
  rw [L2] at x1
  rw [seenG_K] at c1 x1 hgK
  have hls : (st3 (σ ++ [Cell.list (ms.map markV)]) li ln ls es fs sn)[ls]? = some (.list sn) := st3_s H1
  have hls2 : (st3 (σ ++ [Cell.list (ms.map markV)] ++ [Cell.list (seenT u.rows)]) li ln ls es fs (sn ++ seenT u.rows))[ls]? = some (.list (sn ++ seenT u.rows)) := st3_s H2
  refine .of (b_seq (b_bind (b_bind rfl (b_call hs0)) rfl) (b_seq (b_bind hpl rfl) (b_seq (b_bind (b_compAt rfl rfl rfl hcm) rfl) (b_into (b_bind rfl rfl) (b_into (b_sto rfl) rfl))))) ?_
  rw [tup_items, tup_ok, ← hst1]
  refine .of (b_forN trivial rfl (b_seq (b_bind (b_bind rfl (b_bind (b_sto (is_list hls)) (b_bind (b_bind (b_compAt (st3_len.trans L1) rfl rfl c0) rfl) (b_call x0)))) rfl) rfl) (b_forN trivial rfl (b_seq (b_bind (b_bind rfl (b_bind (b_sto (is_list hls2)) (b_bind (b_bind (b_compAt (st3_len.trans L2) rfl rfl c1) rfl) (b_call x1)))) rfl) rfl) (b_for0 trivial rfl))) ?_
  clear c0 c1 x0 x1 hls hls2 hcs hcm hpl hs0 hst1
  have H3 := H2.app [.list (seenK u.rows)]
  have L3 : (σ ++ [Cell.list (ms.map markV)] ++ [Cell.list (seenT u.rows)] ++ [Cell.list (seenK u.rows)]).length = σ.length + 3 := by rw [List.length_append, L2]; rfl
  have g1 : (σ ++ [Cell.list (ms.map markV)] ++ [Cell.list (seenT u.rows)] ++ [Cell.list (seenK u.rows)])[σ.length]? = some (.list (ms.map markV)) := get_left (get_left (get_last ..) _) _
  have y3 : ∃ g, σ ++ [Cell.list (ms.map markV)] ++ [Cell.list (seenT u.rows)] ++ [Cell.list (seenK u.rows)] = σ ++ g := ⟨_, by simp only [List.append_assoc]; rfl⟩
  generalize σ ++ [Cell.list (ms.map markV)] ++ [Cell.list (seenT u.rows)] ++ [Cell.list (seenK u.rows)] = G3 at H3 L3 g1 y3 ⊢
  obtain ⟨g3, y3⟩ := y3
  have hend : ∀ (G g : Sto) (E F : List (Str × V)) (S : List V), G = G3 ++ g → st3 G li ln ls E F S = st3 σ li ln ls E F S ++ (g3 ++ g) := fun G g E F S e => by rw [e, y3, List.append_assoc, st3_app H]
  by_cases hr : 1 ≤ b ∧ b ≤ (itemB es u.src).length
  case neg =>
    have hP : unP es u ms b = ([], b, true) := by rw [unP_pie]; exact if_neg hr
    have hM : movedD fs b u.ptr = fs := by
      have hb := hh.hb
      cases hp : u.ptr with
      | none => rfl
      | some x =>
        rw [hp] at hb
        obtain ⟨d, h1, h2⟩ := vo_some hb
        obtain ⟨j, rfl, h3⟩ := vI_some h2
        cases h3
        exact dset_id hh.wd.keysF h1
    have hT : tallyD fs 0 u.tal = fs := by
      cases ht : u.tal with
      | none => rfl
      | some x =>
        refine dset_id hh.wd.keysF ?_
        rw [hh.wd.num (hh.ht x ht)]
        congr 2
        exact (Int.add_zero _).symm
    have hUT : unT es fs sn u ms b = ⟨es, fs, sn ++ seenT u.rows ++ seenK u.rows⟩ := by
      unfold unT
      rw [hP]
      show (⟨es, tallyD (movedD fs b u.ptr) 0 u.tal, _⟩ : Tabs) = _
      rw [hM, hT]; rfl
    rw [hUT, hP, hend G3 [] es fs _ (List.append_nil _).symm]
    by_cases h1 : 1 ≤ b
    · exact .of (b_seqr (b_ift (b_bind (b_bind rfl (b_bind rfl (b_iet rfl (decide_eq_true h1) (b_bind (b_bind rfl rfl) rfl)))) rfl) (by rw [decide_eq_false (fun h => hr ⟨h1, h⟩)]; rfl) (b_seqr rfl))) ⟨_, _, _, rfl, rfl⟩
    · exact .of (b_seqr (b_ift (b_bind (b_bind rfl (b_bind rfl (b_ief rfl (decide_eq_false h1) rfl))) rfl) rfl (b_seqr rfl))) ⟨_, _, _, rfl, rfl⟩
  case pos =>
  obtain ⟨p0, hp0⟩ : ∃ p0 : Nat, b = (p0 : Int) + 1 := ⟨(b - 1).toNat, by lia⟩
  have hp1 : p0 ≤ (itemB es u.src).length := by lia
  have hP : unP es u ms b = ((pieS ms es u.rows ((itemB es u.src).drop p0)).1, ((itemB es u.src).length : Int) - ((pieS ms es u.rows ((itemB es u.src).drop p0)).2.length : Int) + 1, decide ((pieS ms es u.rows ((itemB es u.src).drop p0)).2 ≠ [])) := by
    rw [unP_pie, show (b - 1).toNat = p0 by lia]
    exact if_pos hr
  refine .of (b_seq (b_iff (b_bind (b_bind rfl (b_bind rfl (b_iet rfl (decide_eq_true hr.1) (b_bind (b_bind rfl rfl) rfl)))) rfl) (by rw [decide_eq_true hr.2]; rfl) rfl) (b_seq rfl (b_into (b_bind rfl (b_bind rfl (b_sto rfl))) (b_into (b_sto rfl) rfl)))) ?_
  rw [tup_items, tup_ok]
  have hml := marksD_len hh.hm
  have hml2 := hh.ml
  have hwd := hh.wd
  have hrows := hh.hr
  unfold unT
  rw [hP]
  dsimp only
  generalize hw0 : pieS ms es u.rows ((itemB es u.src).drop p0) = w0
  subst hp0
  refine for_use (ι := UI) (fun i => i.2.1.map urV) (udL σ li ln ls es u) (udS li ln ls) (UdW ks js es u ms ⟨es, fs, sn ++ seenT u.rows ++ seenK u.rows⟩ w0 G3)
    (⟨es, fs, sn ++ seenT u.rows ++ seenK u.rows⟩, u.rows, p0, 0, G3, none, none, none, none, none) rfl rfl rfl ⟨hwd, fun _ => rfl, hrows, by dsimp only; rw [List.length_append, List.length_append]; lia, hp1, by rw [hw0], by dsimp only; rw [hw0, Nat.zero_add], by rw [hw0], [], (List.append_nil _).symm⟩ ?_
  rintro ⟨T, rest, p, cnt, G, x9, x10, x11, x12, x13⟩ ⟨k1, k2, k3, k4, k5, k6, k7, k8, g, k9⟩
  dsimp only at k1 k2 k3 k4 k5 k6 k7 k8 k9
  have H6 : Apart3 G li ln ls := by rw [k9]; exact H3.app g
  have d1 := H.i
  have d2 := H.n
  have d3 := H.s
  cases rest with
  | nil =>
    refine .nil rfl trivial ?_
    rw [k6, show layAll T (pieS ms es [] ((itemB es u.src).drop p)).1 [] = T from rfl, k7, k8, show (pieS ms es [] ((itemB es u.src).drop p)).1.length = 0 from rfl, show (pieS ms es [] ((itemB es u.src).drop p)).2 = (itemB es u.src).drop p from rfl, show ((itemB es u.src).length : Int) - (((itemB es u.src).drop p).length : Int) + 1 = (p : Int) + 1 by rw [List.length_drop]; lia, Nat.add_zero]
    have wM : Wd ks js T.es (movedD T.fs ((p : Int) + 1) u.ptr) := k1.moved hh.hp
    refine fin_use (κ := Unit) (fun _ => [some (.loc li), some (.loc ln), some (usV u), some (.loc ls), some (.bytes (itemB es u.src)), some (.int ((p : Int) + 1)), some (.loc σ.length), some (.int 1), some (.int (cnt : Nat)), x9, x10, x11, x12, x13, none, none, none, none]) (fun _ => st3 G li ln ls T.es (movedD T.fs ((p : Int) + 1) u.ptr) T.sn) (fun _ => True) ?fin fun fin => ?split
    case fin =>
      intro _ _
      refine fin_use (κ := Unit) (fun _ => [some (.loc li), some (.loc ln), some (usV u), some (.loc ls), some (.bytes (itemB es u.src)), some (.int ((p : Int) + 1)), some (.loc σ.length), some (.int 1), some (.int (cnt : Nat)), x9, x10, x11, x12, x13, none, none, none, none]) (fun _ => st3 G li ln ls T.es (tallyD (movedD T.fs ((p : Int) + 1) u.ptr) cnt u.tal) T.sn) (fun _ => True) ?fin2 fun fin => ?split2
      case fin2 =>
        intro _ _
        rw [hend G g _ _ _ k9]
        by_cases hpo : p < (itemB es u.src).length
        · rw [decide_eq_true (drop_ne hpo)]
          exact .retG (b_bind (b_iet (b_bind rfl (b_bind (b_bind rfl rfl) rfl)) (decide_eq_true (by lia)) rfl) rfl)
        · rw [List.drop_of_length_le (Nat.le_of_not_lt hpo), decide_eq_false (fun h => h rfl)]
          exact .retG (b_bind (b_ief (b_bind rfl (b_bind (b_bind rfl rfl) rfl)) (decide_eq_false (by lia)) rfl) rfl)
      case split2 =>
        have fin := fin () trivial
        have ht := hh.ht
        cases htal : u.tal with
        | none =>
          rw [htal] at fin
          have hN : ∀ τ, vcmpS .IsNot (oV u.tal) .none τ = some false := fun τ => by rw [htal]; rfl
          exact .of (b_seq (b_iff (b_bind (b_bind rfl (b_bind rfl (b_sto rfl))) (b_bind rfl (b_sto (hN _)))) rfl rfl) rfl) fin
        | some x =>
          rw [htal] at fin
          have hN : ∀ τ, vcmpS .IsNot (oV u.tal) .none τ = some true := fun τ => by rw [htal]; rfl
          have hI : ∀ τ, vidx (oV u.tal) (.int 1) τ = some (.str x) := fun τ => by rw [htal]; rfl
          have hv : vidx (.loc ln) (.str x) (st3 G li ln ls T.es (movedD T.fs ((p : Int) + 1) u.ptr) T.sn) = some (.int (numI (movedD T.fs ((p : Int) + 1) u.ptr) x)) := v_dict (st3_n H6) (wM.num (ht x htal))
          have hS : ∀ ρ : Loc, psetItem (.loc ln) (.str x) (.int (numI (movedD T.fs ((p : Int) + 1) u.ptr) x + (cnt : Nat))) ρ (st3 G li ln ls T.es (movedD T.fs ((p : Int) + 1) u.ptr) T.sn) = some ((), ρ, st3 G li ln ls T.es (tallyD (movedD T.fs ((p : Int) + 1) u.ptr) cnt (some x)) T.sn) := fun ρ => by rw [b_setD (st3_n H6) wM.fl, st3_setn H6]; rfl
          exact .of (b_seq (b_ift (b_bind (b_bind rfl (b_bind rfl (b_sto rfl))) (b_bind rfl (b_sto (hN _)))) rfl (b_seq (b_bind (b_bind (b_bind rfl (b_bind (b_bind (b_bind rfl (b_bind rfl (b_sto rfl))) (b_bind rfl (b_sto (hI _)))) (b_sto hv))) (b_bind rfl (b_lift rfl))) (b_bind rfl (b_bind (b_bind (b_bind rfl (b_bind rfl (b_sto rfl))) (b_bind rfl (b_sto (hI _)))) (b_bind (hS _) rfl)))) rfl)) rfl) fin
    case split =>
      have fin := fin () trivial
      cases hptr : u.ptr with
      | none =>
        rw [hptr] at fin
        have hN : ∀ τ, vcmpS .IsNot (oV u.ptr) .none τ = some false := fun τ => by rw [hptr]; rfl
        exact .of (b_seq (b_iff (b_bind (b_bind rfl (b_bind rfl (b_sto rfl))) (b_bind rfl (b_sto (hN _)))) rfl rfl) rfl) fin
      | some x =>
        rw [hptr] at fin
        have hN : ∀ τ, vcmpS .IsNot (oV u.ptr) .none τ = some true := fun τ => by rw [hptr]; rfl
        have hI : ∀ τ, vidx (oV u.ptr) (.int 1) τ = some (.str x) := fun τ => by rw [hptr]; rfl
        have hS : ∀ ρ : Loc, psetItem (.loc ln) (.str x) (.int ((p : Int) + 1)) ρ (st3 G li ln ls T.es T.fs T.sn) = some ((), ρ, st3 G li ln ls T.es (movedD T.fs ((p : Int) + 1) (some x)) T.sn) := fun ρ => by rw [b_setD (st3_n H6) k1.fl, st3_setn H6]; rfl
        exact .of (b_seq (b_ift (b_bind (b_bind rfl (b_bind rfl (b_sto rfl))) (b_bind rfl (b_sto (hN _)))) rfl (b_seq (b_bind rfl (b_bind rfl (b_bind (b_bind (b_bind rfl (b_bind rfl (b_sto rfl))) (b_bind rfl (b_sto (hI _)))) (b_bind (hS _) rfl)))) rfl)) rfl) fin
  | cons r rest =>
    obtain ⟨x, k, c⟩ := r
    rw [List.length_cons] at k4
    obtain ⟨r1, r2, r3⟩ := k3 (x, k, c) (List.mem_cons_self ..)
    dsimp only at r1 r2 r3
    by_cases hpo : p < (itemB es u.src).length
    · obtain ⟨q, hq1, hq2⟩ := pieceS_len ms (itemB es x).length ((itemB es u.src).drop p)
      obtain ⟨b1, b2⟩ := pieceS_le ms (itemB es x).length ((itemB es u.src).drop p)
      rw [List.length_drop] at hq1 b1
      rw [List.drop_drop] at hq2
      obtain ⟨t1, t2⟩ := k1.item r1
      have hv : vidx (.loc li) (.str x) (st3 G li ln ls T.es T.fs T.sn) = some (.bytes (itemB T.es x)) := v_dict (st3_i H6) t1
      have hpc := piece_of (o := itemB es u.src) (l := σ.length) (a := (p : Int) + 1 - 1) (n := ((itemB T.es x).length : Nat)) (ms := ms) (σ := st3 G li ln ls T.es T.fs T.sn) (st3_at H6 (by rw [k9]; exact get_leftG g1) (by lia) (by lia) (by lia)) ⟨by lia, by lia, by lia, w2, by lia, by lia⟩
      have hz : ((itemB es u.src).length : Int) - ((pieceS ms (itemB es x).length ((itemB es u.src).drop p)).2.2.length : Int) = ((p + q : Nat) : Int) := by rw [hq2, List.length_drop]; lia
      rw [Int.toNat_natCast, show ((p : Int) + 1 - 1).toNat = p by lia, k2 x, pieceR, hz] at hpc
      have e8 : pieS ms es ((x, k, c) :: rest) ((itemB es u.src).drop p) = (((pieceS ms (itemB es x).length ((itemB es u.src).drop p)).1, (pieceS ms (itemB es x).length ((itemB es u.src).drop p)).2.1) :: (pieS ms es rest ((itemB es u.src).drop (p + q))).1, (pieS ms es rest ((itemB es u.src).drop (p + q))).2) := by rw [pieS, if_neg (drop_ne hpo), hq2]
      rw [e8] at k6 k7 k8
      clear e8 hz hq2
      generalize pieceS ms (itemB es x).length ((itemB es u.src).drop p) = w at *
      obtain ⟨wp, wm, wr⟩ := w
      dsimp only at b1 b2 hpc k6 k7 k8
      have hpc : s_piece [.bytes (itemB es u.src), .loc σ.length, .int ((p : Int) + 1 - 1), .int ((itemB T.es x).length : Nat)] (st3 G li ln ls T.es T.fs T.sn) = some (.tup [.bytes wp, .bytes wm, .int ((p + q : Nat) : Int)], st3 G li ln ls T.es T.fs T.sn) := by rw [k2 x]; exact hpc
      have hbr : ∀ {T : Tabs} {y : Str} {bts : List UInt8}, Wd ks js T.es T.fs → y ∈ ks → bts.length ≤ 1000 → T.sn.length < 1000000 → s_bring [.loc li, .loc ls, .str y, .bytes bts] (st3 G li ln ls T.es T.fs T.sn) = some (.none, st3 G li ln ls (lay1 T y bts).es (lay1 T y bts).fs (lay1 T y bts).sn) := fun w h hb hz => bring_st H6 w h hb hz
      have hset : ∀ {T : Tabs} {y : Str} (m : Nat) (ρ : Loc), Wd ks js T.es T.fs → psetItem (.loc ln) (.str y) (.int (m : Nat)) ρ (st3 G li ln ls T.es T.fs T.sn) = some ((), ρ, st3 G li ln ls (layC T m (some y)).es (layC T m (some y)).fs (layC T m (some y)).sn) := fun m ρ w => by rw [b_setD (st3_n H6) w.fl, st3_setn H6]; rfl
      have wT1 : Wd ks js (lay1 T x wp).es (lay1 T x wp).fs := lay1_wd k1 r1
      have l1 : (lay1 T x wp).sn.length < 1000000 := by show (T.sn ++ [V.str x]).length < _; rw [List.length_append, List.length_singleton]; lia
      refine .next (layT T (wp, wm) (x, k, c), rest, p + q, cnt + 1, G, some (refV x), some (oV k), some (oV c), some (.bytes wp), some (.bytes wm)) rfl trivial rfl ?_ rfl ⟨layT_wd k1 ⟨r1, r2, r3⟩, fun y => (layT_size k1 ⟨r1, r2, r3⟩ y).trans (k2 y), fun r hr => k3 r (List.mem_cons_of_mem _ hr), ?_, by dsimp only; lia, by rw [k6, layAll], by dsimp only; rw [k7, List.length_cons]; lia, k8, g, k9⟩
      · have hb1 := hbr (bts := wp) k1 r1 (by lia) (by lia)
        refine b_seq (b_ift (b_bind rfl (b_bind (b_bind rfl rfl) rfl)) (decide_eq_true (by dsimp only; lia)) (b_seq (b_bind (b_bind (b_bind rfl (b_bind (b_bind rfl (b_bind (b_bind rfl (b_bind (b_bind (b_bind (b_bind (b_bind rfl (b_bind rfl (b_sto hv))) rfl) rfl) rfl) rfl)) rfl)) rfl)) (b_call hpc)) rfl) (b_seq rfl (b_seq rfl (b_seq (b_bind (b_bind rfl (b_call hb1)) rfl) ?_))))) rfl
        cases k with
        | none =>
          cases c with
          | none => exact b_seq (b_iff (b_bind rfl (b_bind rfl (b_sto rfl))) rfl rfl) (b_seq (b_iff (b_bind rfl (b_bind rfl (b_sto rfl))) rfl rfl) rfl)
          | some c => exact b_seq (b_iff (b_bind rfl (b_bind rfl (b_sto rfl))) rfl rfl) (b_seq (b_ift (b_bind rfl (b_bind rfl (b_sto rfl))) rfl (b_seq (b_bind rfl (b_bind rfl (b_bind rfl (b_bind (hset _ _ wT1) rfl)))) rfl)) rfl)
        | some y =>
          have hb2 := hbr (y := y) (bts := wm) wT1 (r2 y rfl) (by lia) l1
          have wT2 : Wd ks js (lay1 (lay1 T x wp) y wm).es (lay1 (lay1 T x wp) y wm).fs := lay1_wd wT1 (r2 y rfl)
          cases c with
          | none => exact b_seq (b_ift (b_bind rfl (b_bind rfl (b_sto rfl))) rfl (b_seq (b_bind (b_bind rfl (b_call hb2)) rfl) rfl)) (b_seq (b_iff (b_bind rfl (b_bind rfl (b_sto rfl))) rfl rfl) rfl)
          | some c => exact b_seq (b_ift (b_bind rfl (b_bind rfl (b_sto rfl))) rfl (b_seq (b_bind (b_bind rfl (b_call hb2)) rfl) rfl)) (b_seq (b_ift (b_bind rfl (b_bind rfl (b_sto rfl))) rfl (b_seq (b_bind rfl (b_bind rfl (b_bind rfl (b_bind (hset _ _ wT2) rfl)))) rfl)) rfl)
      · have := @layT_sn T (wp, wm) (x, k, c)
        dsimp only
        lia
    · have hz : (itemB es u.src).drop p = [] := List.drop_of_length_le (by lia)
      refine .next (T, rest, p, cnt, G, some (refV x), some (oV k), some (oV c), x12, x13) rfl trivial rfl (b_seq (b_iff (b_bind rfl (b_bind (b_bind rfl rfl) rfl)) (decide_eq_false (by dsimp only; lia)) rfl) rfl) rfl ⟨k1, k2, fun r hr => k3 r (List.mem_cons_of_mem _ hr), by dsimp only; lia, k5, ?_, ?_, ?_, g, k9⟩
      · rw [k6, hz, pieS_nil, pieS_nil]; cases rest <;> rfl
      · dsimp only; rw [k7, hz, pieS_nil, pieS_nil]
      · rw [k8, hz, pieS_nil, pieS_nil]
noncomputable def cellS (ns : List Int) (t : Int) : Int := if ns = [] then 30103 * t + 1201 + ((ns.take 1).sum).fmod 1000003 else ns.getD (t.fmod ns.length).toNat 0
noncomputable def mix1 (c t : Int) : Int := ((c.fmod 2147483587 + 30103 * t + 1201) ^ 5).fmod 2147483629
noncomputable def mix2 (m t : Int) : Int := ((m * (2 * t + 4801) + 30103 * t * t + 41) ^ 3).fmod 2147483579
noncomputable def absS (a : Int) : Int := if a < 0 then -a else a
noncomputable def greatS (c : Int) : Int := 2 * (absS c - 1000000000000000000) + (if decide (c < 0) = true then 1 else 0)
noncomputable def drawS (ns : List Int) (m : Int) (s : Int × Int) : Int × Int × Int :=
  if 0 < s.2 then (s.2.fmod m, s.1, s.2.fdiv m)
  else if s.1 < ns.length ∧ 1000000000000000000 ≤ absS (cellS ns s.1) then ((greatS (cellS ns s.1)).fmod m, s.1 + 1, (greatS (cellS ns s.1)).fdiv m)
  else (((mix2 (mix1 (cellS ns s.1) s.1) s.1).fdiv 32).fmod m, s.1 + 1, s.2)
theorem fmod_range {a b : Int} (h : 0 < b) : 0 ≤ a.fmod b ∧ a.fmod b < b := ⟨Int.fmod_nonneg_of_pos _ h, Int.fmod_lt_of_pos _ h⟩
theorem fdiv_nonneg' {a b : Int} (h : 0 ≤ a) (hb : 0 < b) : 0 ≤ a.fdiv b := Int.fdiv_nonneg h (Int.le_of_lt hb)
theorem greatS_nonneg {c : Int} (h : 1000000000000000000 ≤ absS c) : 0 ≤ greatS c := by
  unfold greatS; split <;> lia
def PenOk (N : Int) (s : Int × Int) : Prop := 0 ≤ s.1 ∧ s.1 ≤ N ∧ 0 ≤ s.2
theorem PenOk.le {N M : Int} {s : Int × Int} (h : PenOk N s) (hm : N ≤ M) : PenOk M s := ⟨h.1, Int.le_trans h.2.1 hm, h.2.2⟩
theorem draw_range {ns : List Int} {m : Int} {s : Int × Int} {N : Int} (hm : 0 < m) (h : PenOk N s) : (0 ≤ (drawS ns m s).1 ∧ (drawS ns m s).1 < m) ∧ PenOk (N + 1) (drawS ns m s).2 := by
  obtain ⟨h1, h2, h3⟩ := h
  have h4 : s.1 + 1 ≤ N + 1 := Int.add_le_add_right h2 1
  have h5 : 0 ≤ s.1 + 1 := Int.le_trans h1 (Int.le_add_of_nonneg_right (by decide))
  have h6 : s.1 ≤ N + 1 := Int.le_trans h2 (Int.le_add_of_nonneg_right (by decide))
  unfold drawS
  split
  · exact ⟨fmod_range hm, h1, h6, fdiv_nonneg' h3 hm⟩
  · split
    · rename_i h
      exact ⟨fmod_range hm, h5, h4, fdiv_nonneg' (greatS_nonneg h.2) hm⟩
    · exact ⟨fmod_range hm, h5, h4, h3⟩
noncomputable def penC (ln : Nat) (s : Int × Int) : Cell := .list [.loc ln, .int s.1, .int s.2]
noncomputable def vPen {β : Type} (σ : Sto) (l : Nat) (k : Nat → List Int → Int × Int → Option β) : Option β := sL σ l fun xs => a3 xs fun x y z => vL x fun j => vI y fun t => vI z fun r => sL σ j fun ys => vo (intsOf ys) fun ns => k j ns (t, r)
structure PenAt (σ : Sto) (l j : Nat) (ns : List Int) (s : Int × Int) : Prop where
  pen : σ[l]? = some (penC j s)
  cells : σ[j]? = some (.list (ns.map .int))
  ne : l ≠ j
theorem Sat.pen {P : V → Sto → Prop} {σ : Sto} {l : Nat} {k : Nat → List Int → Int × Int → Option (V × Sto)} (h : ∀ j ns s, PenAt σ l j ns s → Sat (k j ns s) P) : Sat (vPen σ l k) P :=
  .sL fun xs e1 => .a3 fun x y z e2 => .L fun j e3 => .I fun t e4 => .I fun r e5 => .sL fun ys e6 => .o fun ns e7 => by
    subst e2 e3 e4 e5
    rw [intsOf_inv e7] at e6
    refine h j ns (t, r) ⟨e1, e6, fun z => ?_⟩
    rw [z, e6] at e1
    cases ns with
    | nil => cases e1
    | cons n ns => cases e1
theorem pen_of {β : Type} {σ : Sto} {l j : Nat} {ns : List Int} {s : Int × Int} {k : Nat → List Int → Int × Int → Option β} (h : PenAt σ l j ns s) : vPen σ l k = k j ns s :=
  (sL_of h.pen).trans ((sL_of h.cells).trans (vo_of (intsOf_map ns)))
theorem PenAt.set {σ : Sto} {l j : Nat} {ns : List Int} {s s' : Int × Int} (h : PenAt σ l j ns s) : PenAt (σ.set l (penC j s')) l j ns s' :=
  ⟨List.getElem?_set_self (List.getElem?_eq_some_iff.mp h.pen).1, by rw [List.getElem?_set_ne h.ne]; exact h.cells, h.ne⟩
theorem PenAt.app {σ : Sto} {l j : Nat} {ns : List Int} {s : Int × Int} (h : PenAt σ l j ns s) (G : Sto) : PenAt (σ ++ G) l j ns s := ⟨get_leftG h.pen, get_leftG h.cells, h.ne⟩
theorem PenAt.und {σ : Sto} {l j : Nat} {ns : List Int} {s s' : Int × Int} (h : PenAt σ l j ns s) (hu : Und σ) : Und (σ.set l (penC j s')) :=
  under_set hu (by simp [penC, Cell.under, V.underAll, V.under, (List.getElem?_eq_some_iff.mp h.cells).1])
noncomputable def s_draw : Spec := fun ds σ => a2 ds fun p m => vL p fun l => vI m fun m => vPen σ l fun j ns s => iff' (PenOk 100000 s ∧ 0 < m ∧ m ≤ 1000) (some (.int (drawS ns m s).1, σ.set l (penC j (drawS ns m s).2)))
theorem draw_of {σ : Sto} {l j : Nat} {ns : List Int} {s : Int × Int} {m : Int} (h : PenAt σ l j ns s) (hs : PenOk 100000 s) (h1 : 0 < m) (h2 : m ≤ 1000) : s_draw [.loc l, .int m] σ = some (.int (drawS ns m s).1, σ.set l (penC j (drawS ns m s).2)) := by
  show vPen σ l (fun j ns s => iff' (PenOk 100000 s ∧ 0 < m ∧ m ≤ 1000) (some (V.int (drawS ns m s).1, σ.set l (penC j (drawS ns m s).2)))) = _
  rw [pen_of h]
  exact iff_pos ⟨hs, h1, h2⟩
theorem mulV {x y : Int} (h : x.natAbs < 2 ^ 64) : vbin .Mult (.int x) (.int y) = some (.int (x * y)) := if_pos h
theorem modV {x y : Int} (h : y ≠ 0) : vbin .Mod (.int x) (.int y) = some (.int (x.fmod y)) := if_neg h
theorem divV {x y : Int} (h : y ≠ 0 ∧ y.natAbs < 1073741824) : vbin .FloorDiv (.int x) (.int y) = some (.int (x.fdiv y)) := if_pos h
theorem powV {x y : Int} (h : 0 ≤ y ∧ y ≤ 1000 ∧ x.natAbs < 2 ^ 64) : vbin .Pow (.int x) (.int y) = some (.int (x ^ y.toNat)) := if_pos h
theorem mix_bounds {c t : Int} (h0 : 0 ≤ t) (h1 : t ≤ 100000) : (c.fmod 2147483587 + 30103 * t + 1201).natAbs < 2 ^ 64 ∧ (mix1 c t).natAbs < 2 ^ 64 ∧ (30103 * t).natAbs < 2 ^ 64 ∧ (mix1 c t * (2 * t + 4801) + 30103 * t * t + 41).natAbs < 2 ^ 64 := by
  obtain ⟨a1, a2⟩ := fmod_range (a := c) (b := 2147483587) (by decide)
  obtain ⟨b1, b2⟩ := fmod_range (a := (c.fmod 2147483587 + 30103 * t + 1201) ^ 5) (b := 2147483629) (by decide)
  have e : mix1 c t = ((c.fmod 2147483587 + 30103 * t + 1201) ^ 5).fmod 2147483629 := rfl
  rw [← e] at b1 b2
  generalize mix1 c t = x at *
  generalize c.fmod 2147483587 = y at *
  have c1 : x * (2 * t + 4801) ≤ 2147483629 * 204801 := Int.mul_le_mul (by lia) (by lia) (by lia) (by decide)
  have c2 : 0 ≤ x * (2 * t + 4801) := Int.mul_nonneg b1 (by lia)
  have c3 : 30103 * t * t ≤ 3010300000 * 100000 := Int.mul_le_mul (by lia) h1 h0 (by decide)
  have c4 : 0 ≤ 30103 * t * t := Int.mul_nonneg (by lia) h0
  generalize x * (2 * t + 4801) = p at *
  generalize 30103 * t * t = q at *
  lia
theorem ne_ints {l k : Nat} {ns : List Int} {τ : Sto} (h1 : τ[l]? = some (.list (ns.map .int))) (h2 : τ[k]? = some (.list [])) : vcmpS .NotEq (.loc l) (.loc k) τ = some (decide (ns ≠ [])) := by
  show neC τ l k = _
  unfold neC
  rw [sL_of h1, sL_of h2]
  cases ns with
  | nil => rfl
  | cons m ms => rfl
theorem sum_of {l : Nat} {ns : List Int} {τ : Sto} (h : τ[l]? = some (.list (ns.map .int))) : sSum [.loc l] τ = some (.int ns.sum, τ) := (sL_of h).trans (vo_of (intsOf_map ns))
theorem PenAt.v0 {σ : Sto} {l j : Nat} {ns : List Int} {s : Int × Int} (h : PenAt σ l j ns s) : vidx (.loc l) (.int 0) σ = some (.loc j) := v_list h.pen (by decide) rfl
theorem PenAt.v1 {σ : Sto} {l j : Nat} {ns : List Int} {s : Int × Int} (h : PenAt σ l j ns s) : vidx (.loc l) (.int 1) σ = some (.int s.1) := v_list h.pen (by decide) rfl
theorem PenAt.v2 {σ : Sto} {l j : Nat} {ns : List Int} {s : Int × Int} (h : PenAt σ l j ns s) : vidx (.loc l) (.int 2) σ = some (.int s.2) := v_list h.pen (by decide) rfl
theorem PenAt.set1 {σ : Sto} {l j : Nat} {ns : List Int} {s : Int × Int} (h : PenAt σ l j ns s) (t : Int) (ρ : Loc) : psetItem (.loc l) (.int 1) (.int t) ρ σ = some ((), ρ, σ.set l (penC j (t, s.2))) := b_setL h.pen ⟨by decide, by show _ < 3; decide⟩
theorem PenAt.set2 {σ : Sto} {l j : Nat} {ns : List Int} {s : Int × Int} (h : PenAt σ l j ns s) (t : Int) (ρ : Loc) : psetItem (.loc l) (.int 2) (.int t) ρ σ = some ((), ρ, σ.set l (penC j (s.1, t))) := b_setL h.pen ⟨by decide, by show _ < 3; decide⟩
theorem PenAt.lt {σ : Sto} {l j : Nat} {ns : List Int} {s : Int × Int} (h : PenAt σ l j ns s) : l < σ.length := (List.getElem?_eq_some_iff.mp h.pen).1
theorem d_draw {prog : Program} : CallOk prog KK 2 (.ref 191) s_draw := by
  refine' defOk (f := 191) ["pen", "many"] 9 (by intro P; k_is) (by intro P; k_is) (bind2 fun _ _ => rfl) ?body (Runs.meets ⟨fun ds σ hu hd => Sat.a2 fun p m e1 => .L fun l e2 => .I fun m e3 => .pen fun j ns s hp => .iff' fun ⟨⟨ht0, ht1, hr0⟩, hm0, hm1⟩ => .ok ?_⟩) (by decide +kernel) rfl rfl rfl
  case body => conv => { arg 4; whnf }; conv => { arg 5; whnf }; repeat' (with_reducible show (_ : Prop); first
   | (show JE _ _ _ _ (Expr.Name _ _) _; refine' W_local (by first | ((repeat first | exact At.here | apply At.there); done) | fail) (by decide +kernel) (by decide +kernel))
   | (show JE _ _ _ _ (Expr.Constant _ _ _) _; exact JE_int _)
   | (show JE _ _ _ _ (Expr.Call _ _ _ _) _; first | refine' W_callB (by first | ((repeat first | exact At.here | apply At.there); done) | fail) (by intro P; k_is) (by first | exact PySem.boot_len | exact boot_abs | exact boot_sum | fail) (by decide +kernel) (by decide +kernel) (by first | exact cAbs | exact cLen | exact cSum | fail) ?_ (by intro _; with_unfolding_all rfl) (by intro _; with_unfolding_all rfl) | refine' W_callT (by first | ((repeat first | exact At.here | apply At.there); done) | fail) (by intro P; k_is) (by first | exact PyProof.Rows.boot_int | fail) (by decide +kernel) (by decide +kernel) (by first | exact cInt | fail) ?_ (by intro _; with_unfolding_all rfl) (by intro _; with_unfolding_all rfl))
   | (show JE _ _ _ _ _ _; first | refine' JE_bin ?_ ?_ | refine' JE_sub ?_ ?_ (by intro _ _; with_unfolding_all rfl) | refine' JE_slice ?_ ?_ ?_ | refine' JE_list ?_ | refine' JE_cmpS ?_ ?_ (by with_unfolding_all rfl))
   | exact JA_nil
   | refine' JA_cons ?_ ?_ (by intro _; with_unfolding_all rfl)
   | exact JXs_nil
   | refine' JXs_cons ?_ ?_
   | (show JX _ _ _ _ (Stmt.Assign _ _ _) _; first | refine' W_store ?_ (by first | ((repeat first | exact At.here | apply At.there); done) | fail) (by intro _; with_unfolding_all rfl) | refine' JX_setItem ?_ ?_ ?_ (by intro _; with_unfolding_all rfl))
   | (show JX _ _ _ _ _ _; first | refine' JX_return ?_ | refine' JX_if ?_ ?_ ?_)
   | (show JT _ _ _ _ _ _; first | refine' JT_cmpS ?_ ?_ (by with_unfolding_all rfl) | refine' JT_bool ?_)
   | refine' JP_some ?_
   | exact JP_none
   | refine' JB_and ?_ ?_
   | exact JB_andNil)
  subst e1 e2 e3
  refine .leave rfl (by rw [List.length_set]; exact Nat.le_refl _) (hp.und hu) (by simp [V.under]) ?_
  have k1 : m ≠ 0 := Int.ne_of_gt hm0
  have k2 : m ≠ 0 ∧ m.natAbs < 1073741824 := ⟨k1, by omega⟩
  by_cases hr : 0 < s.2
  case pos =>
    rw [show drawS ns m s = (s.2.fmod m, s.1, s.2.fdiv m) from if_pos hr]
    exact .ret (b_ift (b_bind (b_bind rfl (b_bind rfl (b_sto hp.v2))) (b_bind rfl (b_sto rfl))) (decide_eq_true hr) (b_seq (b_bind (b_bind (b_bind (b_bind (b_bind rfl (b_bind rfl (b_sto hp.v2))) rfl) rfl) (b_bind rfl (b_lift (modV k1)))) rfl) (b_seq (b_bind (b_bind (b_bind (b_bind (b_bind rfl (b_bind rfl (b_sto hp.v2))) rfl) rfl) (b_bind rfl (b_lift (divV k2)))) (b_bind rfl (b_bind rfl (b_bind (hp.set2 _ _) rfl)))) (b_seqr (b_bind rfl rfl)))))
  case neg =>
  have P1 := hp.set (s' := (s.1 + 1, s.2))
  have P2 := P1.app [.list ((ns.take 1).map .int)]
  have P3 := P2.app [.list []]
  have hsl : ∀ ρ : Loc, pslice (.loc j) none (some 1) ρ (σ.set l (penC j (s.1 + 1, s.2))) = some (.loc (σ.set l (penC j (s.1 + 1, s.2))).length, ρ, σ.set l (penC j (s.1 + 1, s.2)) ++ [.list ((ns.take 1).map .int)]) := fun ρ => by
    rw [b_sliceL rfl P1.cells, List.map_take]; rfl
  obtain ⟨w1, w2, w3, w4⟩ := mix_bounds (c := cellS ns s.1) ht0 ht1
  have hsum := sum_of (get_last (σ.set l (penC j (s.1 + 1, s.2))) (.list ((ns.take 1).map .int)))
  have hlen := len_list P3.cells
  rw [List.length_map] at hlen
  have hpow : vbin .Pow (.int 10) (.int 18) = some (.int 1000000000000000000) := powV ⟨by decide, by decide, by decide⟩
  refine .of (b_seq (b_iff (b_bind (b_bind rfl (b_bind rfl (b_sto hp.v2))) (b_bind rfl (b_sto rfl))) (decide_eq_false hr) rfl) (b_seq (b_bind (b_bind rfl (b_bind rfl (b_sto hp.v1))) rfl) (b_seq (b_bind (b_bind rfl (b_bind rfl (b_lift rfl))) (b_bind rfl (b_bind rfl (b_bind (hp.set1 _ _) rfl)))) (b_seq (b_bind (b_bind (b_bind (b_bind rfl (b_bind rfl (b_lift (mulV (by decide))))) (b_bind rfl (b_lift rfl))) (b_bind (b_bind (b_bind (b_bind (b_bind (b_bind (b_bind (b_bind rfl (b_bind rfl (b_sto P1.v0))) (b_bind rfl (b_bind (b_bind rfl rfl) (hsl _)))) rfl) (b_call hsum)) rfl) rfl) (b_bind rfl (b_lift (modV (by decide))))) (b_lift rfl))) rfl) rfl)))) ?_
  refine fin_use (κ := Unit) (fun _ => [some (.loc l), some (.int m), none, some (.int s.1), some (.int (cellS ns s.1)), none, none, none, none, none, none]) (fun _ => σ.set l (penC j (s.1 + 1, s.2)) ++ [.list ((ns.take 1).map .int)] ++ [.list []]) (fun _ => True) ?fin fun fin => ?split
  case split =>
    have hNe := ne_ints (k := (σ.set l (penC j (s.1 + 1, s.2)) ++ [Cell.list ((ns.take 1).map .int)]).length) P3.cells (get_last ..)
    have hPl : ∀ ρ : Loc, plist [] ρ (σ.set l (penC j (s.1 + 1, s.2)) ++ [.list ((ns.take 1).map .int)]) = some (.loc (σ.set l (penC j (s.1 + 1, s.2)) ++ [Cell.list ((ns.take 1).map .int)]).length, ρ, σ.set l (penC j (s.1 + 1, s.2)) ++ [.list ((ns.take 1).map .int)] ++ [.list []]) := fun ρ => b_list (Nat.zero_le _)
    refine .of (b_seq ?_ rfl) (fin () trivial)
    unfold cellS
    by_cases hn : ns = []
    · rw [if_pos hn]
      exact b_iff (b_bind (b_bind rfl (b_bind rfl (b_sto P2.v0))) (b_bind (b_bind rfl (hPl _)) (b_sto hNe))) (decide_eq_false fun z => z hn) rfl
    · rw [if_neg hn]
      have hn0 : (0 : Int) < ns.length := by have := List.length_pos_iff.mpr hn; omega
      obtain ⟨f1, f2⟩ := fmod_range (a := s.1) hn0
      have hget : (ns.map V.int)[(s.1.fmod ns.length).toNat]? = some (.int (ns.getD (s.1.fmod ns.length).toNat 0)) := by
        rw [List.getElem?_map, List.getD_eq_getElem?_getD, List.getElem?_eq_getElem (by omega)]; rfl
      exact b_ift (b_bind (b_bind rfl (b_bind rfl (b_sto P2.v0))) (b_bind (b_bind rfl (hPl _)) (b_sto hNe))) (decide_eq_true hn) (b_seq (b_bind (b_bind (b_bind rfl (b_bind rfl (b_sto P3.v0))) (b_bind (b_bind (b_bind (b_bind rfl rfl) rfl) (b_bind (b_bind (b_bind (b_bind rfl (b_bind rfl (b_sto P3.v0))) rfl) (b_call hlen)) (b_lift (modV (Int.ne_of_gt hn0))))) (b_sto (v_list P3.cells f1 hget)))) rfl) rfl)
  case fin =>
  intro _ _
  unfold drawS
  rw [if_neg hr]
  generalize cellS ns s.1 = c at *
  by_cases hb : s.1 < ns.length ∧ 1000000000000000000 ≤ absS c
  case pos =>
    rw [if_pos hb]
    have hset : ∀ (x : Int) (ρ : Loc), psetItem (.loc l) (.int 2) (.int x) ρ (σ.set l (penC j (s.1 + 1, s.2)) ++ [.list ((ns.take 1).map .int)] ++ [.list []]) = some ((), ρ, σ.set l (penC j (s.1 + 1, x)) ++ ([.list ((ns.take 1).map .int)] ++ [.list []])) := fun x ρ => by
      rw [P3.set2, List.append_assoc, List.set_append_left _ _ P1.lt, List.set_set]
    exact .retG (b_ift (b_iet (b_bind rfl (b_bind (b_bind (b_bind (b_bind rfl (b_bind rfl (b_sto P3.v0))) rfl) (b_call hlen)) (b_sto rfl))) (decide_eq_true hb.1) (b_iet (b_bind (b_bind (b_bind rfl rfl) rfl) (b_bind (b_bind rfl (b_bind rfl (b_lift hpow))) (b_sto rfl))) (decide_eq_true hb.2) rfl)) rfl
      (b_seq (b_bind (b_bind (b_bind rfl (b_bind (b_bind (b_bind (b_bind rfl rfl) rfl) (b_bind (b_bind rfl (b_bind rfl (b_lift hpow))) (b_lift rfl))) (b_lift (mulV (by decide))))) (b_bind (b_bind (b_bind (b_bind rfl (b_bind rfl (b_bind (b_sto rfl) rfl))) rfl) rfl) (b_lift rfl))) rfl)
      (b_seq (b_bind (b_bind (b_bind (b_bind rfl rfl) rfl) (b_bind rfl (b_lift (divV k2)))) (b_bind rfl (b_bind rfl (b_bind (hset _ _) rfl))))
      (b_seqr (b_bind (b_bind (b_bind (b_bind rfl rfl) rfl) (b_bind rfl (b_lift (modV k1)))) rfl)))))
  case neg =>
    rw [if_neg hb]
    have p5 := powV (x := c.fmod 2147483587 + 30103 * s.1 + 1201) (y := 5) ⟨by decide, by decide, w1⟩
    have p3 := powV (x := mix1 c s.1 * (2 * s.1 + 4801) + 30103 * s.1 * s.1 + 41) (y := 3) ⟨by decide, by decide, w4⟩
    refine .of (b_seq (b_iff (c := false) (ρ1 := [some (.loc l), some (.int m), none, some (.int s.1), some (.int c), none, none, none, none, none, none]) (σ1 := σ.set l (penC j (s.1 + 1, s.2)) ++ [.list ((ns.take 1).map .int)] ++ [.list []]) ?_ rfl rfl) rfl) ?_
    · by_cases h1 : s.1 < ns.length
      · exact b_iet (b_bind rfl (b_bind (b_bind (b_bind (b_bind rfl (b_bind rfl (b_sto P3.v0))) rfl) (b_call hlen)) (b_sto rfl))) (decide_eq_true h1) (b_ief (b_bind (b_bind (b_bind rfl rfl) rfl) (b_bind (b_bind rfl (b_bind rfl (b_lift hpow))) (b_sto rfl))) (decide_eq_false fun z => hb ⟨h1, z⟩) rfl)
      · exact b_ief (b_bind rfl (b_bind (b_bind (b_bind (b_bind rfl (b_bind rfl (b_sto P3.v0))) rfl) (b_call hlen)) (b_sto rfl))) (decide_eq_false h1) rfl
    refine .of (b_seq (b_bind (b_bind (b_bind (b_bind (b_bind (b_bind (b_bind (b_bind (b_bind (b_bind rfl rfl) rfl) (b_bind rfl (b_lift (modV (by decide))))) (b_bind (b_bind rfl (b_bind rfl (b_lift (mulV (by decide))))) (b_lift rfl))) (b_bind rfl (b_lift rfl))) (b_bind rfl (b_lift p5))) rfl) rfl) (b_bind rfl (b_lift (modV (by decide))))) rfl) rfl) ?_
    refine .of (b_seq (b_bind (b_bind (b_bind (b_bind (b_bind (b_bind (b_bind (b_bind rfl (b_bind (b_bind (b_bind rfl (b_bind rfl (b_lift (mulV (by decide))))) (b_bind rfl (b_lift rfl))) (b_lift (mulV w2)))) (b_bind (b_bind (b_bind rfl (b_bind rfl (b_lift (mulV (by decide))))) (b_bind rfl (b_lift (mulV w3)))) (b_lift rfl))) (b_bind rfl (b_lift rfl))) (b_bind rfl (b_lift p3))) rfl) rfl) (b_bind rfl (b_lift (modV (by decide))))) rfl) rfl) ?_
    rw [List.append_assoc]
    exact .retG (b_bind (b_bind (b_bind (b_bind (b_bind rfl (b_bind rfl (b_lift (divV ⟨by decide, by decide⟩)))) rfl) rfl) (b_bind rfl (b_lift (modV k1)))) rfl)
noncomputable def pst (σ : Sto) (l j : Nat) (s : Int × Int) (G : Sto) : Sto := σ.set l (penC j s) ++ G
theorem Ends.start {F : PM Fl} {ρ : Loc} {σ σ0 σ' : Sto} {r : V} (h : σ = σ0) (e : Ends (F ρ σ0) r σ') : Ends (F ρ σ) r σ' := by rw [h]; exact e
section
variable {σ : Sto} {l j : Nat} {ns : List Int} {s0 s : Int × Int} {G : Sto}
theorem pst_self (h : PenAt σ l j ns s0) : σ = pst σ l j s0 [] := by rw [pst, List.append_nil, set_same h.pen]
theorem pst_at (h : PenAt σ l j ns s0) : PenAt (pst σ l j s G) l j ns s := (h.set).app G
theorem pst_set (h : PenAt σ l j ns s0) (s' : Int × Int) : (pst σ l j s G).set l (penC j s') = pst σ l j s' G := by
  unfold pst
  rw [List.set_append_left _ _ (by rw [List.length_set]; exact h.lt), List.set_set]
theorem pst_app (d : Cell) : pst σ l j s G ++ [d] = pst σ l j s (G ++ [d]) := List.append_assoc ..
theorem pst_g {i : Nat} : (pst σ l j s G)[σ.length + i]? = G[i]? := by
  unfold pst
  rw [List.getElem?_append_right (by rw [List.length_set]; exact Nat.le_add_right ..), List.length_set, Nat.add_sub_cancel_left]
theorem pst_o {k : Nat} {c : Cell} (h : σ[k]? = some c) (hk : k ≠ l) : (pst σ l j s G)[k]? = some c := get_leftG (by rw [List.getElem?_set_ne (Ne.symm hk)]; exact h)
theorem pst_new (ds : List V) (hl : ds.length ≤ 1000000) (ρ : Loc) {k : Nat} (hk : G.length = k) : plist ds ρ (pst σ l j s G) = some (.loc (σ.length + k), ρ, pst σ l j s (G ++ [.list ds])) := by
  rw [b_list hl, pst_app, ← hk]
  congr 3
  unfold pst
  rw [List.length_append, List.length_set]
theorem draw_st {N m : Int} (h : PenAt σ l j ns s0) (hs : PenOk N s) (hN : N ≤ 100000) (h1 : 0 < m) (h2 : m ≤ 1000) : s_draw [.loc l, .int m] (pst σ l j s G) = some (.int (drawS ns m s).1, pst σ l j (drawS ns m s).2 G) := by
  rw [draw_of (pst_at h) (hs.le hN) h1 h2, pst_set h]
end
noncomputable def pickS {α : Type} (ns : List Int) (xs : List α) (d : α) (s : Int × Int) : α × Int × Int := (xs.getD (drawS ns xs.length s).1.toNat d, (drawS ns xs.length s).2)
theorem pick_lt {α : Type} {ns : List Int} {xs : List α} {s : Int × Int} {N : Int} (hx : xs ≠ []) (h : PenOk N s) : (0 ≤ (drawS ns xs.length s).1 ∧ (drawS ns xs.length s).1.toNat < xs.length) ∧ PenOk (N + 1) (drawS ns xs.length s).2 := by
  have h0 := List.length_pos_iff.mpr hx
  obtain ⟨⟨h1, h2⟩, h3⟩ := draw_range (ns := ns) (m := xs.length) (Int.natCast_pos.mpr h0) h
  exact ⟨⟨h1, by lia⟩, h3⟩
theorem pick_mem {α : Type} {ns : List Int} {xs : List α} {d : α} {s : Int × Int} {N : Int} (hx : xs ≠ []) (h : PenOk N s) : (pickS ns xs d s).1 ∈ xs ∧ PenOk (N + 1) (pickS ns xs d s).2 := by
  obtain ⟨⟨_, h1⟩, h2⟩ := pick_lt (ns := ns) hx h
  refine ⟨?_, h2⟩
  unfold pickS
  rw [List.getD_eq_getElem?_getD, List.getElem?_eq_getElem h1]
  exact List.getElem_mem _
theorem pick_get {α : Type} {ns : List Int} {xs : List α} {d : α} {s : Int × Int} {N : Int} (hx : xs ≠ []) (h : PenOk N s) : xs[(drawS ns xs.length s).1.toNat]? = some (pickS ns xs d s).1 := by
  obtain ⟨⟨_, h1⟩, _⟩ := pick_lt (ns := ns) hx h
  unfold pickS
  rw [List.getD_eq_getElem?_getD, List.getElem?_eq_getElem h1]; rfl
theorem pick_map {α β : Type} {ns : List Int} {xs : List α} {d : α} {s : Int × Int} {N : Int} (f : α → β) (e : β) (hx : xs ≠ []) (h : PenOk N s) : pickS ns (xs.map f) e s = (f (pickS ns xs d s).1, (pickS ns xs d s).2) := by
  obtain ⟨⟨_, h1⟩, _⟩ := pick_lt (ns := ns) hx h
  unfold pickS
  rw [List.length_map, List.getD_eq_getElem?_getD, List.getElem?_map, List.getElem?_eq_getElem h1, List.getD_eq_getElem?_getD, List.getElem?_eq_getElem h1]; rfl
noncomputable def vBL {β : Type} (a : V) (kb : List UInt8 → Option β) (kl : Nat → Option β) : Option β := match a with | .bytes b => kb b | .loc i => kl i | _ => none
theorem Sat.BL {P : V → Sto → Prop} {a : V} {kb : List UInt8 → Option (V × Sto)} {kl : Nat → Option (V × Sto)} (h1 : ∀ b, a = .bytes b → Sat (kb b) P) (h2 : ∀ i, a = .loc i → Sat (kl i) P) : Sat (vBL a kb kl) P := fun r σ' e => by
  unfold vBL at e
  split at e
  · exact h1 _ rfl r σ' e
  · exact h2 _ rfl r σ' e
  · cases e
noncomputable def pickK (σ : Sto) (l : Nat) (x : V) (j : Nat) (ns : List Int) (s : Int × Int) : Option (V × Sto) := vBL x (fun b => iff' (PenOk 100000 s ∧ b ≠ [] ∧ b.length ≤ 1000) (some (.int ((pickS ns b 0 s).1.toNat : Nat), σ.set l (penC j (pickS ns b 0 s).2))))
  fun k => sL σ k fun xs => iff' (PenOk 100000 s ∧ xs ≠ [] ∧ xs.length ≤ 1000 ∧ k ≠ l) (some ((pickS ns xs .none s).1, σ.set l (penC j (pickS ns xs .none s).2)))
noncomputable def s_pick : Spec := fun ds σ => a2 ds fun p x => vL p fun l => vPen σ l (pickK σ l x)
section
variable {σ τ : Sto} {l j : Nat} {ns : List Int} {s0 s : Int × Int} {G : Sto}
theorem pick_ofB {b : List UInt8} (h : PenAt τ l j ns s) (hs : PenOk 100000 s) (h1 : b ≠ []) (h2 : b.length ≤ 1000) : s_pick [.loc l, .bytes b] τ = some (.int ((pickS ns b 0 s).1.toNat : Nat), τ.set l (penC j (pickS ns b 0 s).2)) :=
  (pen_of (k := pickK τ l (.bytes b)) h).trans (iff_pos (P := PenOk 100000 s ∧ b ≠ [] ∧ b.length ≤ 1000) ⟨hs, h1, h2⟩)
theorem pick_ofL {k : Nat} {xs : List V} (h : PenAt τ l j ns s) (hs : PenOk 100000 s) (hk : τ[k]? = some (.list xs)) (hkl : k ≠ l) (h1 : xs ≠ []) (h2 : xs.length ≤ 1000) : s_pick [.loc l, .loc k] τ = some ((pickS ns xs .none s).1, τ.set l (penC j (pickS ns xs .none s).2)) :=
  (pen_of (k := pickK τ l (.loc k)) h).trans ((sL_of hk).trans (iff_pos (P := PenOk 100000 s ∧ xs ≠ [] ∧ xs.length ≤ 1000 ∧ k ≠ l) ⟨hs, h1, h2, hkl⟩))
theorem pick_stB {N : Int} {b : List UInt8} (h : PenAt σ l j ns s0) (hs : PenOk N s) (hN : N ≤ 100000) (h1 : b ≠ []) (h2 : b.length ≤ 1000) : s_pick [.loc l, .bytes b] (pst σ l j s G) = some (.int ((pickS ns b 0 s).1.toNat : Nat), pst σ l j (pickS ns b 0 s).2 G) := by
  rw [pick_ofB (pst_at h) (hs.le hN) h1 h2, pst_set h]
theorem pick_stL {N : Int} {k : Nat} {xs : List V} (h : PenAt σ l j ns s0) (hs : PenOk N s) (hN : N ≤ 100000) (hk : (pst σ l j s G)[k]? = some (.list xs)) (hkl : k ≠ l) (h1 : xs ≠ []) (h2 : xs.length ≤ 1000) : s_pick [.loc l, .loc k] (pst σ l j s G) = some ((pickS ns xs .none s).1, pst σ l j (pickS ns xs .none s).2 G) := by
  rw [pick_ofL (pst_at h) (hs.le hN) hk hkl h1 h2, pst_set h]
end
theorem under_mem {n : Nat} {xs : List V} {d : V} (h : (Cell.list xs).under n) (hd : d ∈ xs) : d.under n := underAll_mem.mp h d hd
theorem d_pick {prog : Program} : CallOk prog KK 3 (.ref 198) s_pick := by
  refine' defOk (f := 198) ["pen", "some"] 2 (by intro P; k_is) (by intro P; k_is) (bind2 fun _ _ => rfl) ?body (Runs.meets ⟨fun ds σ hu hd => Sat.a2 fun p x e1 => .L fun l e2 => .pen fun j ns s hp => .BL (fun b e3 => .iff' fun ⟨hs, h1, h2⟩ => .ok ?_) fun k e3 => .sL fun xs hx => .iff' fun ⟨hs, h1, h2, h3⟩ => .ok ?_⟩) (by decide +kernel) rfl rfl rfl
  case body => conv => { arg 4; whnf }; conv => { arg 5; whnf }; repeat' (with_reducible show (_ : Prop); first
   | (show JE _ _ _ _ (Expr.Name _ _) _; refine' W_local (by first | ((repeat first | exact At.here | apply At.there); done) | fail) (by decide +kernel) (by decide +kernel))
   | (show JE _ _ _ _ (Expr.Call _ _ _ _) _; first | refine' W_callB (by first | ((repeat first | exact At.here | apply At.there); done) | fail) (by intro P; k_is) (by first | exact PySem.boot_len | fail) (by decide +kernel) (by decide +kernel) (by first | exact cLen | fail) ?_ (by intro _; with_unfolding_all rfl) (by intro _; with_unfolding_all rfl) | refine' W_call (by first | ((repeat first | exact At.here | apply At.there); done) | fail) (by intro P; k_is) (by decide +kernel) (by intro P; k_is) (by first | exact callOk_le d_draw (by decide) | fail) ?_ (by intro _; with_unfolding_all rfl) (by intro _; with_unfolding_all rfl))
   | (show JE _ _ _ _ _ _; refine' JE_sub ?_ ?_ (by intro _ _; with_unfolding_all rfl))
   | exact JA_nil
   | refine' JA_cons ?_ ?_ (by intro _; with_unfolding_all rfl)
   | exact JXs_nil
   | refine' JXs_cons ?_ ?_
   | (show JX _ _ _ _ _ _; refine' JX_return ?_))
  · subst e1 e2 e3
    have h0 := List.length_pos_iff.mpr h1
    refine .leave rfl (by rw [List.length_set]; exact Nat.le_refl _) (hp.und hu) (by simp [V.under]) ?_
    exact .ret (b_bind (b_bind rfl (b_bind (b_bind (b_bind rfl (b_bind (b_bind (b_bind rfl rfl) rfl) rfl)) (b_call (draw_of hp hs (Int.natCast_pos.mpr h0) (by lia)))) (b_sto (v_byte (pick_lt h1 hs).1.1 (pick_get (d := 0) h1 hs))))) rfl)
  · subst e1 e2 e3
    have h0 := List.length_pos_iff.mpr h1
    refine .leave rfl (by rw [List.length_set]; exact Nat.le_refl _) (hp.und hu) (by rw [List.length_set]; exact under_mem (under_get hu hx) (pick_mem h1 hs).1) ?_
    have hx2 : (σ.set l (penC j (drawS ns xs.length s).2))[k]? = some (.list xs) := by rw [List.getElem?_set_ne (Ne.symm h3)]; exact hx
    exact .ret (b_bind (b_bind rfl (b_bind (b_bind (b_bind rfl (b_bind (b_bind (b_bind rfl (b_call (len_list hx))) rfl) rfl)) (b_call (draw_of hp hs (Int.natCast_pos.mpr h0) (by lia)))) (b_sto (v_list hx2 (pick_lt h1 hs).1.1 (pick_get (d := .none) h1 hs))))) rfl)
noncomputable def vIL {β : Type} (a : V) (k : List Int → Option β) : Option β := match a with | .ilist ns => k ns | _ => none
theorem Sat.IL {P : V → Sto → Prop} {a : V} {k : List Int → Option (V × Sto)} (h : ∀ x, a = .ilist x → Sat (k x) P) : Sat (vIL a k) P := fun r σ' e => by
  unfold vIL at e
  split at e
  · exact h _ rfl r σ' e
  · cases e
noncomputable def s_pen : Spec := fun ds σ => a1 ds fun x => vIL x fun ns => if ns.length ≤ 1000 then some (.loc (σ.length + 2), σ ++ [.list ((ns.take 48).map .int)] ++ [.list ((ns.take 48).map .int)] ++ [penC (σ.length + 1) (0, 0)]) else none
theorem ints_un (n : Nat) (ns : List Int) : V.underAll n (ns.map .int) := underAll_mem.mpr fun d h => by
  obtain ⟨r, _, rfl⟩ := List.mem_map.mp h
  trivial
theorem und_snoc {σ : Sto} {c : Cell} (h : Und σ) (hc : c.under (σ.length + 1)) : Und (σ ++ [c]) := under_snoc h hc
theorem d_pen {prog : Program} : CallOk prog KK 2 (.ref 184) s_pen := by
  refine' defOk (f := 184) ["script"] 0 (by intro P; k_is) (by intro P; k_is) (bind1 fun _ => rfl) ?body (Runs.meets ⟨fun ds σ hu hd => Sat.a1 fun x e1 => .IL fun ns e2 => .fi fun hl => .ok ?_⟩) (by decide +kernel) rfl rfl rfl
  case body => conv => { arg 4; whnf }; conv => { arg 5; whnf }; repeat' (with_reducible show (_ : Prop); first
   | (show JE _ _ _ _ (Expr.Name _ _) _; refine' W_local (by first | ((repeat first | exact At.here | apply At.there); done) | fail) (by decide +kernel) (by decide +kernel))
   | (show JE _ _ _ _ (Expr.Constant _ _ _) _; exact JE_int _)
   | (show JE _ _ _ _ (Expr.Call _ _ _ _) _; refine' W_callT (by first | ((repeat first | exact At.here | apply At.there); done) | fail) (by intro P; k_is) (by first | exact PyProof.Rows.boot_int | fail) (by decide +kernel) (by decide +kernel) (by first | exact cInt | fail) ?_ (by intro _; with_unfolding_all rfl) (by intro _; with_unfolding_all rfl))
   | (show JE _ _ _ _ _ _; first | refine' JE_slice ?_ ?_ ?_ | refine' JE_list ?_ | refine' JE_comp ?_ ?_ ?_ ?_ ?_ (by decide +kernel) (by intro _ _; with_unfolding_all rfl))
   | exact JA_nil
   | refine' JA_cons ?_ ?_ (by intro _; with_unfolding_all rfl)
   | exact JXs_nil
   | refine' JXs_cons ?_ ?_
   | (show JX _ _ _ _ _ _; refine' JX_return ?_)
   | (show JS _ _ _ _ _ _; refine' JS_local (by first | ((repeat first | exact At.here | apply At.there); done) | fail))
   | refine' JP_some ?_
   | exact JP_none
   | exact Cap.nil
   | refine' Cap.loc ?_
   | refine' Cap.glob ?_
   | exact JI_nil)
  subst e1 e2
  have L1 : (σ ++ [Cell.list ((ns.take 48).map .int)]).length = σ.length + 1 := by rw [List.length_append]; rfl
  have L2 : (σ ++ [Cell.list ((ns.take 48).map .int)] ++ [Cell.list ((ns.take 48).map .int)]).length = σ.length + 2 := by rw [List.length_append, L1]; rfl
  have L3 : (σ ++ [Cell.list ((ns.take 48).map .int)] ++ [Cell.list ((ns.take 48).map .int)] ++ [penC (σ.length + 1) (0, 0)]).length = σ.length + 3 := by rw [List.length_append, L2]; rfl
  refine .leave rfl (by rw [L3]; lia) (und_snoc (und_snoc (und_snoc hu (ints_un _ _)) (ints_un _ _)) ?_) (by rw [L3]; exact Nat.lt_succ_self _) ?_
  · rw [L2]; simp [penC, Cell.under, V.underAll, V.under]
  have hsl : ∀ ρ : Loc, pslice (.ilist ns) none (some 48) ρ σ = some (.loc σ.length, ρ, σ ++ [.list ((ns.take 48).map .int)]) := fun ρ => by
    rw [List.map_take]
    exact (if_pos rfl).trans (if_pos (Nat.le_trans hl (by decide)))
  have hcm : pcompL (fun S => S[σ.length]? = some (.list ((ns.take 48).map .int))) (pstore (0 + 1)) (pret true) (pbind (pbind (pvar (0 + 1)) fun a => pbind (pret []) fun as => pret (a :: as)) (pcall sInt)) (σ.length + 1) [none, none, none] ((ns.take 48).map .int) (σ ++ [.list ((ns.take 48).map .int)] ++ [.list []]) = some (σ ++ [.list ((ns.take 48).map .int)] ++ [.list ((ns.take 48).map .int)]) := by
    refine cm_use (ι := List Int × List Int) (fun i => i.2.map .int) (fun i => σ ++ [.list ((ns.take 48).map .int)] ++ [.list (i.1.map .int)]) (fun i => ns.take 48 = i.1 ++ i.2) ([], ns.take 48) rfl rfl rfl ?_
    rintro ⟨dn, rest⟩ h1
    dsimp only at h1
    have g0 : ∀ c : Cell, (σ ++ [.list ((ns.take 48).map .int)] ++ [c])[σ.length]? = some (.list ((ns.take 48).map .int)) := fun c => get_left (get_last ..) _
    have hlen : dn.length ≤ 48 := by
      have := congrArg List.length h1
      rw [List.length_take, List.length_append] at this
      lia
    cases rest with
    | nil => rw [List.append_nil] at h1; exact .nil rfl (g0 _) (by rw [h1])
    | cons n rest =>
      have q := append_last (σ := σ ++ [.list ((ns.take 48).map .int)]) (xs := dn.map .int) (d := .int n) (ys := (dn ++ [n]).map .int) (by rw [List.length_map]; lia) (by rw [List.map_append]; rfl)
      rw [L1] at q
      exact .next (dn ++ [n], rest) rfl (g0 _) rfl rfl rfl (b_bind (b_bind rfl rfl) rfl) q trivial rfl (by dsimp only; rw [h1, List.append_assoc]; rfl)
  have hli : ∀ ρ : Loc, plist [.loc (σ.length + 1), .int 0, .int 0] ρ (σ ++ [.list ((ns.take 48).map .int)] ++ [.list ((ns.take 48).map .int)]) = some (.loc (σ.length + 2), ρ, σ ++ [.list ((ns.take 48).map .int)] ++ [.list ((ns.take 48).map .int)] ++ [penC (σ.length + 1) (0, 0)]) := fun ρ => by rw [← L2]; exact b_list (Nat.le_of_ble_eq_true rfl)
  exact .ret (b_bind (b_bind (b_bind (b_compAt L1 (b_bind rfl (b_bind rfl (b_bind (b_bind rfl rfl) (hsl _)))) (src_list (get_last ..)) hcm) rfl) (hli _)) rfl)
noncomputable def markL : List Opd := [.text [44], .space, .ref (Str.ofString "M"), .text [65]]
noncomputable def markS (ns : List Int) (s : Int × Int) : Opd × Int × Int := pickS ns markL .space s
theorem opV_un (n : Nat) (o : Opd) : V.under n (opV o) := by cases o <;> simp [opV, refV, V.under, V.underAll]
noncomputable def markK (σ : Sto) (l j : Nat) (ns : List Int) (s : Int × Int) : Option (V × Sto) := iff' (PenOk 90000 s) (some (opV (markS ns s).1, σ.set l (penC j (markS ns s).2)))
noncomputable def s_mark : Spec := fun ds σ => a1 ds fun p => vL p fun l => vPen σ l (markK σ l)
theorem markL_ne : markL ≠ [] := List.cons_ne_nil _ _
theorem markS_ok {ns : List Int} {s : Int × Int} {N : Int} (h : PenOk N s) : (markS ns s).1 ∈ markL ∧ PenOk (N + 1) (markS ns s).2 := pick_mem markL_ne h
theorem d_mark {prog : Program} : CallOk prog KK 4 (.ref 269) s_mark := by
  refine' defOk (f := 269) ["pen"] 2 (by intro P; k_is) (by intro P; k_is) (bind1 fun _ => rfl) ?body (Runs.meets ⟨fun ds σ hu hd => Sat.a1 fun p e1 => .L fun l e2 => .pen fun j ns s hp => .iff' fun hs => .ok ?_⟩) (by decide +kernel) rfl rfl rfl
  case body => conv => { arg 4; whnf }; conv => { arg 5; whnf }; repeat' (with_reducible show (_ : Prop); first
   | (show JE _ _ _ _ (Expr.Name _ _) _; refine' W_local (by first | ((repeat first | exact At.here | apply At.there); done) | fail) (by decide +kernel) (by decide +kernel))
   | (show JE _ _ _ _ (Expr.Constant _ _ _) _; first | exact JE_str _ | refine' JE_bytes _ (by decide))
   | (show JE _ _ _ _ (Expr.Call _ _ _ _) _; refine' W_call (by first | ((repeat first | exact At.here | apply At.there); done) | fail) (by intro P; k_is) (by decide +kernel) (by intro P; k_is) (by first | exact callOk_le d_pick (by decide) | exact callOk_le d_ref (by decide) | fail) ?_ (by intro _; with_unfolding_all rfl) (by intro _; with_unfolding_all rfl))
   | (show JE _ _ _ _ _ _; first | refine' JE_tuple ?_ | refine' JE_list ?_)
   | exact JA_nil
   | refine' JA_cons ?_ ?_ (by intro _; with_unfolding_all rfl)
   | exact JXs_nil
   | refine' JXs_cons ?_ ?_
   | (show JX _ _ _ _ _ _; refine' JX_return ?_))
  subst e1 e2
  refine .leave rfl (by rw [List.length_set]; exact Nat.le_refl _) (hp.und hu) (opV_un _ _) (.start (pst_self hp) ?_)
  have h1 := pick_stL (G := [.list (markL.map opV)]) (k := σ.length + 0) hp hs (by decide) (pst_g (i := 0)) (Nat.ne_of_gt hp.lt) (List.cons_ne_nil _ _) (show (markL.map opV).length ≤ 1000 by rw [List.length_map]; exact Nat.le_of_ble_eq_true rfl)
  rw [pick_map opV .none markL_ne hs] at h1
  exact .retG (b_bind (b_bind (b_bind rfl (b_bind (b_bind (b_bind rfl (pst_new (markL.map opV) (by rw [List.length_map]; exact Nat.le_of_ble_eq_true rfl) _ rfl)) rfl) rfl)) (b_call h1)) rfl)
noncomputable def abL : List UInt8 := [65, 66, 44, 32, 48]
noncomputable def picksS (ns : List Int) (b : List UInt8) : Nat → Int × Int → List UInt8 × Int × Int
  | 0, s => ([], s)
  | n + 1, s => ((pickS ns b 0 s).1 :: (picksS ns b n (pickS ns b 0 s).2).1, (picksS ns b n (pickS ns b 0 s).2).2)
theorem picksS_ok {ns : List Int} {b : List UInt8} (hb : b ≠ []) : ∀ (n : Nat) {s : Int × Int} {N : Int}, PenOk N s → (picksS ns b n s).1.length = n ∧ PenOk (N + n) (picksS ns b n s).2
  | 0, s, N, h => ⟨rfl, by rw [show N + ((0 : Nat) : Int) = N from Int.add_zero N]; exact h⟩
  | n + 1, s, N, h => by
    obtain ⟨h1, h2⟩ := picksS_ok hb n (pick_mem (ns := ns) (d := 0) hb h).2
    exact ⟨congrArg Nat.succ h1, h2.le (by lia)⟩
noncomputable def textS (ns : List Int) (s : Int × Int) : List UInt8 × Int × Int := picksS ns abL (1 + (drawS ns 4 s).1).toNat (drawS ns 4 s).2
noncomputable def nmS (ns : List Int) (nm : List Str) (s : Int × Int) : Str × Int × Int := pickS ns nm (Str.ofString "") s
noncomputable def figL (x y : Str) : List Opd := [.space, .zero, .ref x, .ref y]
noncomputable def figS (ns : List Int) (nm : List Str) (s : Int × Int) : Opd × Int × Int := pickS ns (figL (nmS ns nm s).1 (nmS ns nm (nmS ns nm s).2).1) .space (nmS ns nm (nmS ns nm s).2).2
noncomputable def opS (ns : List Int) (nm : List Str) (s : Int × Int) : Opd × Int × Int :=
  if (drawS ns 3 s).1 = 0 then (.text (textS ns (drawS ns 3 s).2).1, (textS ns (drawS ns 3 s).2).2) else figS ns nm (drawS ns 3 s).2
def OpdIn (nm : List Str) (o : Opd) : Prop := (∃ b, o = .text b ∧ b.length ≤ 10) ∨ o = .space ∨ o = .zero ∨ ∃ x ∈ nm, o = .ref x
theorem textS_ok {ns : List Int} {s : Int × Int} {N : Int} (h : PenOk N s) : (textS ns s).1.length ≤ 10 ∧ PenOk (N + 5) (textS ns s).2 := by
  obtain ⟨⟨h1, h2⟩, h3⟩ := draw_range (ns := ns) (m := 4) (by decide) h
  obtain ⟨h4, h5⟩ := picksS_ok (ns := ns) (b := abL) (List.cons_ne_nil _ _) (1 + (drawS ns 4 s).1).toNat h3
  exact ⟨by show (picksS ns abL _ _).1.length ≤ 10; lia, h5.le (by lia)⟩
theorem opS_ok {ns : List Int} {nm : List Str} {s : Int × Int} {N : Int} (hn : nm ≠ []) (h : PenOk N s) : OpdIn nm (opS ns nm s).1 ∧ PenOk (N + 6) (opS ns nm s).2 := by
  obtain ⟨_, h3⟩ := draw_range (ns := ns) (m := 3) (by decide) h
  unfold opS
  split
  · obtain ⟨h4, h5⟩ := textS_ok (ns := ns) h3
    exact ⟨.inl ⟨_, rfl, h4⟩, h5.le (by lia)⟩
  · obtain ⟨a1, a2⟩ := pick_mem (ns := ns) (d := Str.ofString "") hn h3
    obtain ⟨b1, b2⟩ := pick_mem (ns := ns) (d := Str.ofString "") hn a2
    obtain ⟨c1, c2⟩ := pick_mem (ns := ns) (xs := figL (nmS ns nm (drawS ns 3 s).2).1 (nmS ns nm (nmS ns nm (drawS ns 3 s).2).2).1) (d := .space) (List.cons_ne_nil _ _) b2
    refine ⟨?_, c2.le (by lia)⟩
    change (figS ns nm (drawS ns 3 s).2).1 ∈ _ at c1
    simp only [figL, List.mem_cons, List.not_mem_nil, or_false] at c1
    rcases c1 with e | e | e | e
    · exact .inr (.inl e)
    · exact .inr (.inr (.inl e))
    · exact .inr (.inr (.inr ⟨_, a1, e⟩))
    · exact .inr (.inr (.inr ⟨_, b1, e⟩))
noncomputable def strsV (nm : List Str) : V := .tup (nm.map .str)
theorem strsV_inj (a b : List Str) (h : strsV a = strsV b) : a = b := by
  simp only [strsV, V.tup.injEq] at h
  exact map_inj (fun _ _ h => by simpa using h) h
noncomputable def opK (σ : Sto) (l k j : Nat) (ns : List Int) (s : Int × Int) : Option (V × Sto) := sL σ k fun xs => vo (back strsV (.tup xs)) fun nm => iff' (PenOk 90000 s ∧ k ≠ l ∧ nm ≠ [] ∧ nm.length ≤ 1000) (some (opV (opS ns nm s).1, σ.set l (penC j (opS ns nm s).2)))
noncomputable def s_operand : Spec := fun ds σ => a2 ds fun p x => vL p fun l => vL x fun k => vPen σ l (opK σ l k)
section
variable {σ τ : Sto} {l j k : Nat} {ns : List Int} {s0 s : Int × Int} {G : Sto}
theorem mark_st {N : Int} (h : PenAt σ l j ns s0) (hs : PenOk N s) (hN : N ≤ 90000) : s_mark [.loc l] (pst σ l j s G) = some (opV (markS ns s).1, pst σ l j (markS ns s).2 G) := by
  have : s_mark [.loc l] (pst σ l j s G) = some (opV (markS ns s).1, (pst σ l j s G).set l (penC j (markS ns s).2)) := (pen_of (k := markK (pst σ l j s G) l) (pst_at h)).trans (iff_pos (hs.le hN))
  rw [this, pst_set h]
theorem operand_st {N : Int} {nm : List Str} (h : PenAt σ l j ns s0) (hs : PenOk N s) (hN : N ≤ 90000) (hk : (pst σ l j s G)[k]? = some (.list (nm.map .str))) (hkl : k ≠ l) (h1 : nm ≠ []) (h2 : nm.length ≤ 1000) : s_operand [.loc l, .loc k] (pst σ l j s G) = some (opV (opS ns nm s).1, pst σ l j (opS ns nm s).2 G) := by
  have : s_operand [.loc l, .loc k] (pst σ l j s G) = some (opV (opS ns nm s).1, (pst σ l j s G).set l (penC j (opS ns nm s).2)) := (pen_of (k := opK (pst σ l j s G) l k) (pst_at h)).trans ((sL_of hk).trans ((vo_of (back_of strsV_inj nm)).trans (iff_pos (P := PenOk 90000 s ∧ k ≠ l ∧ nm ≠ [] ∧ nm.length ≤ 1000) ⟨hs.le hN, hkl, h1, h2⟩)))
  rw [this, pst_set h]
theorem append_pst {xs ys : List V} {d : V} (h2 : xs.length < 1000000) (h : xs ++ [d] = ys) : s_append [.loc σ.length, d] (pst σ l j s [.list xs]) = some (.none, pst σ l j s [.list ys]) := by
  have := append_last (σ := σ.set l (penC j s)) h2 h
  rw [List.length_set] at this
  exact this
end
theorem d_operand {prog : Program} : CallOk prog KK 4 (.ref 262) s_operand := by
  refine' defOk (f := 262) ["pen", "names"] 5 (by intro P; k_is) (by intro P; k_is) (bind2 fun _ _ => rfl) ?body (Runs.meets ⟨fun ds σ hu hd => Sat.a2 fun p x e1 => .L fun l e2 => .L fun k e3 => .pen fun j ns s hp => .sL fun xs hx => .o fun nm hnm => .iff' fun ⟨hs, hkl, hn, hnl⟩ => .ok ?_⟩) (by decide +kernel) rfl rfl rfl
  case body => conv => { arg 4; whnf }; conv => { arg 5; whnf }; repeat' (with_reducible show (_ : Prop); first
   | (show JE _ _ _ _ (Expr.Name _ _) _; first | refine' W_local (by first | ((repeat first | exact At.here | apply At.there); done) | fail) (by decide +kernel) (by decide +kernel) | refine' W_cell (by first | ((repeat first | exact At.here | apply At.there); done) | fail) (by decide +kernel) (by decide +kernel))
   | (show JE _ _ _ _ (Expr.Constant _ _ _) _; first | exact JE_int _ | exact JE_str _ | refine' JE_bytes _ (by decide))
   | (show JE _ _ _ _ (Expr.Call _ _ _ _) _; first | refine' W_callT (by first | ((repeat first | exact At.here | apply At.there); done) | fail) (by intro P; k_is) (by first | exact boot_range | exact boot_bytes | fail) (by decide +kernel) (by decide +kernel) (by first | exact cBytes | exact cRange | fail) ?_ (by intro _; with_unfolding_all rfl) (by intro _; with_unfolding_all rfl) | refine' W_call (by first | ((repeat first | exact At.here | apply At.there); done) | fail) (by intro P; k_is) (by decide +kernel) (by intro P; k_is) (by first | exact callOk_le d_draw (by decide) | exact callOk_le d_pick (by decide) | exact callOk_le d_ref (by decide) | fail) ?_ (by intro _; with_unfolding_all rfl) (by intro _; with_unfolding_all rfl))
   | (show JE _ _ _ _ _ _; first | refine' JE_bin ?_ ?_ | refine' JE_tuple ?_ | refine' JE_list ?_ | refine' JE_comp ?_ ?_ ?_ ?_ ?_ (by decide +kernel) (by intro _ _; with_unfolding_all rfl))
   | exact JA_nil
   | refine' JA_cons ?_ ?_ (by intro _; with_unfolding_all rfl)
   | exact JXs_nil
   | refine' JXs_cons ?_ ?_
   | (show JX _ _ _ _ _ _; first | refine' JX_return ?_ | refine' JX_if ?_ ?_ ?_)
   | (show JT _ _ _ _ _ _; refine' JT_cmpS ?_ ?_ (by with_unfolding_all rfl))
   | (show JS _ _ _ _ _ _; refine' JS_local (by first | ((repeat first | exact At.here | apply At.there); done) | fail))
   | exact Cap.nil
   | refine' Cap.loc ?_
   | refine' Cap.glob ?_
   | refine' Cap.cell (by first | ((repeat first | exact At.here | apply At.there); done) | fail) ?_
   | exact JI_nil)
  have hxs := back_inv hnm
  simp only [strsV, V.tup.injEq] at hxs
  subst e1 e2 e3 hxs
  refine .leave rfl (by rw [List.length_set]; exact Nat.le_refl _) (hp.und hu) (opV_un _ _) (.start (pst_self hp) ?_)
  have h3 := draw_st (G := []) (m := 3) hp hs (by decide) (by decide) (by decide)
  obtain ⟨_, s1⟩ := draw_range (ns := ns) (m := 3) (by decide) hs
  unfold opS
  by_cases hd0 : (drawS ns 3 s).1 = 0
  case pos =>
    rw [if_pos hd0]
    clear hd hu
    generalize (drawS ns 3 s).2 = s2 at *
    have h4 := draw_st (G := []) (m := 4) hp s1 (by decide) (by decide) (by decide)
    obtain ⟨⟨r1, r2⟩, t1⟩ := draw_range (ns := ns) (m := 4) (by decide) s1
    unfold textS
    generalize drawS ns 4 s2 = d at *
    obtain ⟨d1, d2⟩ := d
    dsimp only at r1 r2 t1 h4 ⊢
    generalize hw : picksS ns abL (1 + d1).toNat d2 = w
    have hcm : pcompL (Src.rng 0 (1 + d1)).ok (pstore (0 + 1)) (pret true) (pbind (pbind (pvar (0 + 1 + 1 + 1)) fun a => pbind (pbind (pret (V.bytes [65, 66, 44, 32, 48])) fun a => pbind (pret []) fun as => pret (a :: as)) fun as => pret (a :: as)) (pcall s_pick)) σ.length [none, none, none, some (.loc l)] (Src.rng 0 (1 + d1)).items (pst σ l j d2 [] ++ [.list []]) = some (pst σ l j w.2 [.list (byteV w.1)]) := by
      rw [rng_items, rng_ok, Int.sub_zero]
      refine cm_use (ι := List UInt8 × Nat × Int × Int × Int) (fun i => intsFrom i.2.2.1 i.2.1) (fun i => pst σ l j i.2.2.2 [.list (byteV i.1)]) (fun i => PenOk (90002 + i.1.length) i.2.2.2 ∧ w = (i.1 ++ (picksS ns abL i.2.1 i.2.2.2).1, (picksS ns abL i.2.1 i.2.2.2).2) ∧ i.1.length + i.2.1 ≤ 10) ([], (1 + d1).toNat, 0, d2) rfl (pst_app (.list [])) ⟨t1, hw.symm, by dsimp only [List.length_nil]; lia⟩ ?_
      rintro ⟨dn, n, lo, s⟩ ⟨h1, h2, h5⟩
      dsimp only at h1 h2 h5
      cases n with
      | zero => exact .nil rfl trivial (by rw [h2]; show _ = pst σ l j s [.list (byteV (dn ++ []))]; rw [List.append_nil])
      | succ n =>
        have hpk := pick_stB (G := [.list (byteV dn)]) (b := abL) hp h1 (by lia) (List.cons_ne_nil _ _) (Nat.le_of_ble_eq_true rfl)
        have hap := append_pst (σ := σ) (l := l) (j := j) (s := (pickS ns abL 0 s).2) (xs := byteV dn) (d := .int ((pickS ns abL 0 s).1.toNat : Nat)) (ys := byteV (dn ++ [(pickS ns abL 0 s).1])) (by rw [byteV_len]; lia) (byteV_app dn [(pickS ns abL 0 s).1]).symm
        have hm := (pick_mem (ns := ns) (xs := abL) (d := 0) (List.cons_ne_nil _ _) h1).2
        refine .next (dn ++ [(pickS ns abL 0 s).1], n, lo + 1, (pickS ns abL 0 s).2) rfl trivial rfl rfl rfl (b_bind rfl (b_call hpk)) hap ⟨rfl, trivial⟩ rfl ⟨hm.le ?_, ?_, ?_⟩
        · dsimp only; rw [List.length_append, List.length_singleton]; lia
        · rw [h2, List.append_assoc]; rfl
        · dsimp only; rw [List.length_append, List.length_singleton]; lia
    have hl0 : (pst σ l j d2 []).length = σ.length := by unfold pst; rw [List.append_nil, List.length_set]
    have hby := bytes_of (pst_g (σ := σ) (l := l) (j := j) (s := w.2) (G := [.list (byteV w.1)]) (i := 0))
    exact .retG (b_ift (b_bind (b_bind rfl (b_call h3)) (b_bind rfl (b_sto rfl))) (by rw [hd0]; rfl) (b_seqr (b_bind (b_bind (b_bind rfl (b_bind (b_bind (b_bind (b_bind (b_compAt hl0 (b_bind (b_bind (b_bind rfl (b_bind (b_bind rfl (b_call h4)) (b_lift rfl))) rfl) rfl) (src_rng (Int.le_refl 0) (by decide) (by lia) (by lia)) hcm) rfl) (b_call hby)) rfl) rfl)) rfl) rfl)))
  case neg =>
    rw [if_neg hd0]
    have hk0 : ∀ s', (pst σ l j s' [])[k]? = some (.list (nm.map .str)) := fun s' => pst_o hx hkl
    refine .of (b_seq (b_iff (b_bind (b_bind rfl (b_call h3)) (b_bind rfl (b_sto rfl))) (by simpa using hd0) rfl) rfl) ?_
    clear hd hu
    generalize (drawS ns 3 s).2 = s2 at *
    have hnl' : (nm.map V.str).length ≤ 1000 := by rw [List.length_map]; exact hnl
    have hn' : nm.map V.str ≠ [] := fun z => hn (List.map_eq_nil_iff.mp z)
    obtain ⟨_, a2⟩ := pick_mem (ns := ns) (d := Str.ofString "") hn s1
    have p1 := pick_stL (G := []) hp s1 (by decide) (hk0 _) hkl hn' hnl'
    rw [pick_map (d := Str.ofString "") V.str .none hn s1] at p1
    obtain ⟨_, b2⟩ := pick_mem (ns := ns) (d := Str.ofString "") hn a2
    have p2 := pick_stL (G := []) hp a2 (by decide) (hk0 _) hkl hn' hnl'
    rw [pick_map (d := Str.ofString "") V.str .none hn a2] at p2
    have hfl : ((figL (nmS ns nm s2).1 (nmS ns nm (nmS ns nm s2).2).1).map opV).length ≤ 1000 := by rw [List.length_map]; exact Nat.le_of_ble_eq_true rfl
    have p3 := pick_stL (G := [.list ((figL (nmS ns nm s2).1 (nmS ns nm (nmS ns nm s2).2).1).map opV)]) (k := σ.length + 0) hp b2 (by decide) (pst_g (i := 0)) (Nat.ne_of_gt hp.lt) (List.cons_ne_nil _ _) hfl
    rw [pick_map (xs := figL (nmS ns nm s2).1 (nmS ns nm (nmS ns nm s2).2).1) (d := .space) opV .none (List.cons_ne_nil _ _) b2] at p3
    have p4 := fun ρ => pst_new (σ := σ) (l := l) (j := j) (s := (nmS ns nm (nmS ns nm s2).2).2) (G := []) ((figL (nmS ns nm s2).1 (nmS ns nm (nmS ns nm s2).2).1).map opV) (Nat.le_trans hfl (by decide)) ρ rfl
    exact .retG (b_bind (b_bind (b_bind rfl (b_bind (b_bind (b_bind (b_bind rfl (b_bind (b_bind rfl (b_bind (b_bind (b_bind (b_bind (b_bind rfl (b_call p1)) rfl) rfl) (b_bind (b_bind (b_bind (b_bind (b_bind rfl (b_call p2)) rfl) rfl) rfl) rfl)) rfl)) rfl)) (p4 _)) rfl) rfl)) (b_call p3)) rfl)
noncomputable def manyS {α : Type} (f : Int × Int → α × Int × Int) : Nat → Int × Int → List α × Int × Int
  | 0, s => ([], s)
  | n + 1, s => ((f s).1 :: (manyS f n (f s).2).1, (manyS f n (f s).2).2)
theorem manyS_ok {α : Type} {f : Int × Int → α × Int × Int} {P : α → Prop} {c : Int} (hf : ∀ s N, PenOk N s → P (f s).1 ∧ PenOk (N + c) (f s).2) : ∀ (n : Nat) {s : Int × Int} {N : Int}, PenOk N s → (∀ x ∈ (manyS f n s).1, P x) ∧ (manyS f n s).1.length = n ∧ PenOk (N + c * n) (manyS f n s).2
  | 0, s, N, h => ⟨(fun _ h => nomatch h), rfl, by rw [Int.natCast_zero, Int.mul_zero, Int.add_zero]; exact h⟩
  | n + 1, s, N, h => by
    obtain ⟨h1, h2⟩ := hf s N h
    obtain ⟨h3, h4, h5⟩ := manyS_ok hf n h2
    refine ⟨fun x hx => ?_, congrArg Nat.succ h4, ?_⟩
    · rcases List.mem_cons.mp hx with rfl | hx
      · exact h1
      · exact h3 x hx
    · rw [Int.natCast_succ, Int.mul_add, Int.mul_one, Int.add_comm (c * n) c, ← Int.add_assoc]; exact h5
section
variable {σ : Sto} {l j : Nat} {ns : List Int} {s0 s : Int × Int} {G : Sto}
theorem pst_length : (pst σ l j s G).length = σ.length + G.length := by unfold pst; rw [List.length_append, List.length_set]
theorem append_at {i : Nat} {xs : List V} {d : V} (h : G[i]? = some (.list xs)) (h2 : xs.length < 1000000) : s_append [.loc (σ.length + i), d] (pst σ l j s G) = some (.none, pst σ l j s (G.set i (Cell.list (xs ++ [d])))) := by
  rw [append_of (pst_g.trans h) h2]
  unfold pst
  rw [List.set_append_right _ _ (by rw [List.length_set]; exact Nat.le_add_right ..), List.length_set, Nat.add_sub_cancel_left]
end
noncomputable def nmL : List Str := [Str.ofString "S", Str.ofString "U", Str.ofString "V"]
noncomputable def rowS (ns : List Int) (s : Int × Int) : (Opd × Option Opd) × Int × Int :=
  if (drawS ns 2 (opS ns nmL s).2).1 = 0 then (((opS ns nmL s).1, none), (drawS ns 2 (opS ns nmL s).2).2)
  else (((opS ns nmL s).1, some (markS ns (drawS ns 2 (opS ns nmL s).2).2).1), (markS ns (drawS ns 2 (opS ns nmL s).2).2).2)
noncomputable def guL : List Str := [Str.ofString "G", Str.ofString "U"]
noncomputable def optL (x : Str) : List (Option Str) := [none, some x]
noncomputable def optS (ns : List Int) (x : Str) (s : Int × Int) : Option Str × Int × Int := pickS ns (optL x) none s
noncomputable def rowsS (ns : List Int) (s : Int × Int) : List (Opd × Option Opd) × Int × Int := manyS (rowS ns) (1 + (drawS ns 4 s).1).toNat (drawS ns 4 s).2
noncomputable def strStm (ns : List Int) (s : Int × Int) : SStm × Int × Int :=
  (⟨(rowsS ns s).1, (nmS ns guL (rowsS ns s).2).1, (optS ns (Str.ofString "P") (nmS ns guL (rowsS ns s).2).2).1⟩, (optS ns (Str.ofString "P") (nmS ns guL (rowsS ns s).2).2).2)
def RowIn (r : Opd × Option Opd) : Prop := OpdIn nmL r.1 ∧ ∀ m, r.2 = some m → m ∈ markL
theorem nmL_ne : nmL ≠ [] := List.cons_ne_nil _ _
theorem guL_ne : guL ≠ [] := List.cons_ne_nil _ _
theorem optL_ne {x : Str} : optL x ≠ [] := List.cons_ne_nil _ _
theorem rowS_ok {ns : List Int} (s : Int × Int) (N : Int) (h : PenOk N s) : RowIn (rowS ns s).1 ∧ PenOk (N + 8) (rowS ns s).2 := by
  obtain ⟨h1, h2⟩ := opS_ok (ns := ns) nmL_ne h
  obtain ⟨_, h3⟩ := draw_range (ns := ns) (m := 2) (by decide) h2
  unfold rowS
  split
  · exact ⟨⟨h1, (fun _ e => nomatch e)⟩, h3.le (by lia)⟩
  · obtain ⟨h4, h5⟩ := markS_ok (ns := ns) h3
    exact ⟨⟨h1, fun m e => by cases e; exact h4⟩, h5.le (by lia)⟩
theorem rowsS_ok {ns : List Int} {s : Int × Int} {N : Int} (h : PenOk N s) : (∀ x ∈ (rowsS ns s).1, RowIn x) ∧ (rowsS ns s).1.length ≤ 4 ∧ PenOk (N + 33) (rowsS ns s).2 := by
  obtain ⟨⟨h1, h2⟩, h3⟩ := draw_range (ns := ns) (m := 4) (by decide) h
  obtain ⟨h4, h5, h6⟩ := manyS_ok (rowS_ok (ns := ns)) (1 + (drawS ns 4 s).1).toNat h3
  exact ⟨h4, by show (manyS _ _ _).1.length ≤ 4; lia, h6.le (by lia)⟩
structure StrIn (st : SStm) : Prop where
  rows : ∀ x ∈ st.rows, RowIn x
  rl : st.rows.length ≤ 4
  goal : st.goal ∈ guL
  ptr : st.ptr ∈ optL (Str.ofString "P")
theorem strStm_ok {ns : List Int} {s : Int × Int} {N : Int} (h : PenOk N s) : StrIn (strStm ns s).1 ∧ PenOk (N + 35) (strStm ns s).2 := by
  obtain ⟨h1, h2, h3⟩ := rowsS_ok (ns := ns) h
  obtain ⟨h4, h5⟩ := pick_mem (ns := ns) (d := Str.ofString "") guL_ne h3
  obtain ⟨h6, h7⟩ := pick_mem (ns := ns) (d := none) (optL_ne (x := Str.ofString "P")) h5
  exact ⟨⟨h1, h2, h4, h6⟩, h7.le (by lia)⟩
noncomputable def stringK (σ : Sto) (l j : Nat) (ns : List Int) (s : Int × Int) : Option (V × Sto) := iff' (PenOk 80000 s) (some (ssV (strStm ns s).1, σ.set l (penC j (strStm ns s).2)))
noncomputable def s_lstring : Spec := fun ds σ => a1 ds fun p => vL p fun l => vPen σ l (stringK σ l)
theorem map_un {α : Type} {f : α → V} {n : Nat} (hf : ∀ a, V.under n (f a)) (xs : List α) : V.underAll n (xs.map f) := underAll_mem.mpr fun d h => by
  obtain ⟨r, _, rfl⟩ := List.mem_map.mp h
  exact hf r
theorem oV_un (n : Nat) (x : Option Str) : V.under n (oV x) := by cases x <;> simp [oV, refV, V.under, V.underAll]
theorem refV_un (n : Nat) (x : Str) : V.under n (refV x) := by simp [refV, V.under, V.underAll]
theorem rowV_un (n : Nat) (r : Opd × Option Opd) : V.under n (rowV r) := by
  obtain ⟨o, d⟩ := r
  cases d <;> simp [rowV, V.under, V.underAll, opV_un]
theorem ssV_un (n : Nat) (s : SStm) : V.under n (ssV s) := by
  simp only [ssV, V.under, V.underAll, refV_un, oV_un, map_un (rowV_un n), and_true]
theorem d_lstring {prog : Program} : CallOk prog KK 5 (.ref 274) s_lstring := by
  refine' defOk (f := 274) ["pen"] 6 (by intro P; k_is) (by intro P; k_is) (bind1 fun _ => rfl) ?body (Runs.meets ⟨fun ds σ hu hd => Sat.a1 fun p e1 => .L fun l e2 => .pen fun j ns s hp => .iff' fun hs => .ok ?_⟩) (by decide +kernel) rfl rfl rfl
  case body => conv => { arg 4; whnf }; conv => { arg 5; whnf }; repeat' (with_reducible show (_ : Prop); first
   | (show JE _ _ _ _ (Expr.Name _ _) _; first | refine' W_local (by first | ((repeat first | exact At.here | apply At.there); done) | fail) (by decide +kernel) (by decide +kernel) | refine' W_cell (by first | ((repeat first | exact At.here | apply At.there); done) | fail) (by decide +kernel) (by decide +kernel))
   | (show JE _ _ _ _ (Expr.Constant _ _ _) _; first | exact JE_int _ | exact JE_str _ | exact JE_none)
   | (show JE _ _ _ _ (Expr.Call _ _ _ _) _; first | refine' W_callT (by first | ((repeat first | exact At.here | apply At.there); done) | fail) (by intro P; k_is) (by first | exact boot_range | exact PyProof.Rows.boot_tuple | fail) (by decide +kernel) (by decide +kernel) (by first | exact cRange | exact cTuple | fail) ?_ (by intro _; with_unfolding_all rfl) (by intro _; with_unfolding_all rfl) | refine' W_call (by first | ((repeat first | exact At.here | apply At.there); done) | fail) (by intro P; k_is) (by decide +kernel) (by intro P; k_is) (by first | exact callOk_le d_draw (by decide) | exact callOk_le d_mark (by decide) | exact callOk_le d_operand (by decide) | exact callOk_le d_pick (by decide) | exact callOk_le d_ref (by decide) | fail) ?_ (by intro _; with_unfolding_all rfl) (by intro _; with_unfolding_all rfl))
   | (show JE _ _ _ _ _ _; first | refine' JE_bin ?_ ?_ | refine' JE_tuple ?_ | refine' JE_list ?_ | refine' JE_if ?_ ?_ ?_)
   | exact JA_nil
   | refine' JA_cons ?_ ?_ (by intro _; with_unfolding_all rfl)
   | exact JXs_nil
   | refine' JXs_cons ?_ ?_
   | (show JX _ _ _ _ (Stmt.Assign _ _ _) _; refine' JX_comp ?_ ?_ ?_ ?_ ?_ (by first | ((repeat first | exact At.here | apply At.there); done) | fail) (by first | exact .inl rfl | exact .inr rfl) (by decide +kernel) (by intro _ _; with_unfolding_all rfl) (by intro env O; obtain ⟨scp, b, c, d, e, f, g, h, i⟩ := env; have hs := O.scp; dsimp only at hs; subst hs; with_unfolding_all rfl))
   | (show JX _ _ _ _ _ _; refine' JX_return ?_)
   | (show JT _ _ _ _ _ _; refine' JT_cmpS ?_ ?_ (by with_unfolding_all rfl))
   | (show JS _ _ _ _ _ _; refine' JS_local (by first | ((repeat first | exact At.here | apply At.there); done) | fail))
   | exact Cap.nil
   | refine' Cap.loc ?_
   | refine' Cap.glob ?_
   | refine' Cap.cell (by first | ((repeat first | exact At.here | apply At.there); done) | fail) ?_
   | exact JI_nil)
  subst e1 e2
  refine .leave rfl (by rw [List.length_set]; exact Nat.le_refl _) (hp.und hu) (ssV_un _ _) (.start (pst_self hp) ?_)
  have h4 := draw_st (G := []) (m := 4) hp hs (by decide) (by decide) (by decide)
  obtain ⟨⟨r1, r2⟩, t1⟩ := draw_range (ns := ns) (m := 4) (by decide) hs
  obtain ⟨_, hwl, t2⟩ := rowsS_ok (ns := ns) hs
  unfold strStm
  generalize hw : rowsS ns s = w at *
  unfold rowsS at hw
  generalize drawS ns 4 s = d at *
  obtain ⟨d1, d2⟩ := d
  dsimp only at r1 r2 t1 h4 hw ⊢
  clear hd hu
  have hcm : pcompL (Src.rng 0 (1 + d1)).ok (pstore (0 + 1)) (pret true) (pbind (pbind (pbind (pbind (pvar (0 + 1 + 1 + 1 + 1 + 1)) fun a => pbind (pbind (pbind (pbind (pret (V.str (Str.ofString "S"))) fun a => pbind (pbind (pret (V.str (Str.ofString "U"))) fun a => pbind (pbind (pret (V.str (Str.ofString "V"))) fun a => pbind (pret []) fun as => pret (a :: as)) fun as => pret (a :: as)) fun as => pret (a :: as)) plist) fun a => pbind (pret []) fun as => pret (a :: as)) fun as => pret (a :: as)) (pcall s_operand)) fun a => pbind (pbind (pbind (pbind (pbind (pbind (pvar (0 + 1 + 1 + 1 + 1 + 1)) fun a => pbind (pbind (pret (V.int 2)) fun a => pbind (pret []) fun as => pret (a :: as)) fun as => pret (a :: as)) (pcall s_draw)) fun a => pbind (pret (V.int 0)) fun b => psto (vcmpS CmpOp.Eq a b)) fun c => if c = true then pret V.none else pbind (pbind (pvar (0 + 1 + 1 + 1 + 1 + 1)) fun a => pbind (pret []) fun as => pret (a :: as)) (pcall s_mark)) fun a => pbind (pret []) fun as => pret (a :: as)) fun as => pret (a :: as)) ptup)
      σ.length [none, none, none, none, none, some (.loc l)] (Src.rng 0 (1 + d1)).items (pst σ l j d2 [] ++ [Cell.list []]) = some (pst σ l j w.2 (Cell.list (w.1.map rowV) :: List.replicate w.1.length (Cell.list (nmL.map .str)))) := by
    rw [rng_items, rng_ok, Int.sub_zero]
    refine cm_use (ι := List (Opd × Option Opd) × Nat × Int × Int × Int) (fun i => intsFrom i.2.2.1 i.2.1) (fun i => pst σ l j i.2.2.2 (Cell.list (i.1.map rowV) :: List.replicate i.1.length (Cell.list (nmL.map .str)))) (fun i => PenOk (80001 + 8 * i.1.length) i.2.2.2 ∧ w = (i.1 ++ (manyS (rowS ns) i.2.1 i.2.2.2).1, (manyS (rowS ns) i.2.1 i.2.2.2).2) ∧ i.1.length + i.2.1 ≤ 10) ([], (1 + d1).toNat, 0, d2) rfl (pst_app (Cell.list [])) ⟨t1, hw.symm, by dsimp only [List.length_nil]; lia⟩ ?_
    rintro ⟨dn, n, lo, s⟩ ⟨h1, h2, h5⟩
    dsimp only at h1 h2 h5
    cases n with
    | zero =>
      have h2 : w = (dn, s) := by rw [h2]; show (dn ++ [], s) = _; rw [List.append_nil]
      exact .nil rfl trivial (by rw [h2])
    | succ n =>
      have hnew := fun ρ => pst_new (σ := σ) (l := l) (j := j) (s := s) (G := Cell.list (dn.map rowV) :: List.replicate dn.length (Cell.list (nmL.map .str))) (nmL.map .str) (by rw [List.length_map]; exact Nat.le_of_ble_eq_true rfl) ρ rfl
      have hop := operand_st (nm := nmL) hp h1 (by lia) (pst_g.trans (get_last (Cell.list (dn.map rowV) :: List.replicate dn.length (Cell.list (nmL.map .str))) (Cell.list (nmL.map .str)))) (by have := hp.lt; lia) nmL_ne (Nat.le_of_ble_eq_true rfl)
      obtain ⟨_, o2⟩ := opS_ok (ns := ns) nmL_ne h1
      have hdr := draw_st (G := (Cell.list (dn.map rowV) :: List.replicate dn.length (Cell.list (nmL.map .str))) ++ [Cell.list (nmL.map .str)]) (m := 2) hp o2 (by lia) (by decide) (by decide)
      obtain ⟨_, o3⟩ := draw_range (ns := ns) (m := 2) (by decide) o2
      have hmk := mark_st (G := (Cell.list (dn.map rowV) :: List.replicate dn.length (Cell.list (nmL.map .str))) ++ [Cell.list (nmL.map .str)]) hp o3 (by lia)
      obtain ⟨_, o4⟩ := rowS_ok (ns := ns) s _ h1
      have hap := fun s' r => append_at (σ := σ) (l := l) (j := j) (s := s') (G := (Cell.list (dn.map rowV) :: List.replicate dn.length (Cell.list (nmL.map .str))) ++ [Cell.list (nmL.map .str)]) (i := 0) (xs := dn.map rowV) (d := rowV r) rfl (by rw [List.length_map]; lia)
      have hS : ∀ s' r, pst σ l j s' (((Cell.list (dn.map rowV) :: List.replicate dn.length (Cell.list (nmL.map .str))) ++ [Cell.list (nmL.map .str)]).set 0 (Cell.list (dn.map rowV ++ [rowV r]))) = pst σ l j s' (Cell.list ((dn ++ [r]).map rowV) :: List.replicate (dn ++ [r]).length (Cell.list (nmL.map .str))) := fun s' r => by
        rw [List.map_append, List.length_append, List.length_singleton, List.replicate_succ']; rfl
      refine .next (b := true) (x := rowV (rowS ns s).1) (r := .none) (σ3 := pst σ l j (rowS ns s).2 ((Cell.list (dn.map rowV) :: List.replicate dn.length (Cell.list (nmL.map .str))) ++ [Cell.list (nmL.map .str)])) (ρ3 := [none, some (.int lo), none, none, none, some (.loc l)]) (dn ++ [(rowS ns s).1], n, lo + 1, (rowS ns s).2) rfl trivial rfl rfl rfl ?_ (by rw [← hS]; exact hap _ _) ⟨rfl, trivial⟩ rfl ⟨o4.le (by dsimp only; rw [List.length_append, List.length_singleton]; lia), by rw [h2, List.append_assoc]; rfl, by dsimp only; rw [List.length_append, List.length_singleton]; lia⟩
      unfold rowS
      by_cases hd0 : (drawS ns 2 (opS ns nmL s).2).1 = 0
      · rw [if_pos hd0]
        exact b_bind (b_bind (b_bind (b_bind rfl (b_bind (b_bind (b_bind rfl (hnew _)) rfl) rfl)) (b_call hop)) (b_bind (b_bind (b_iet (b_bind (b_bind rfl (b_call hdr)) (b_bind rfl (b_sto rfl))) (by rw [hd0]; rfl) rfl) rfl) rfl)) rfl
      · rw [if_neg hd0]
        exact b_bind (b_bind (b_bind (b_bind rfl (b_bind (b_bind (b_bind rfl (hnew _)) rfl) rfl)) (b_call hop)) (b_bind (b_bind (b_ief (b_bind (b_bind rfl (b_call hdr)) (b_bind rfl (b_sto rfl))) (by simpa using hd0) (b_bind rfl (b_call hmk))) rfl) rfl)) rfl
  have hl0 : (pst σ l j d2 []).length = σ.length := pst_length
  refine .of (b_seq (b_bind (b_compAt hl0 (b_bind (b_bind (b_bind rfl (b_bind (b_bind rfl (b_call h4)) (b_lift rfl))) rfl) rfl) (src_rng (Int.le_refl 0) (by decide) (by lia) (by lia)) hcm) rfl) rfl) ?_
  clear hcm hw
  generalize List.replicate w.1.length (Cell.list (nmL.map .str)) = gs
  have htup : sTuple [.loc (σ.length + 0)] (pst σ l j w.2 (Cell.list (w.1.map rowV) :: gs)) = some (.tup (w.1.map rowV), pst σ l j w.2 (Cell.list (w.1.map rowV) :: gs)) := sL_of (pst_g.trans rfl)
  have n1 := fun ρ => pst_new (σ := σ) (l := l) (j := j) (s := w.2) (G := Cell.list (w.1.map rowV) :: gs) (guL.map .str) (by rw [List.length_map]; exact Nat.le_of_ble_eq_true rfl) ρ rfl
  have p1 := pick_stL hp t2 (by decide) (pst_g.trans (get_last (Cell.list (w.1.map rowV) :: gs) (Cell.list (guL.map .str)))) (by have := hp.lt; lia) (List.cons_ne_nil _ _) (show (guL.map V.str).length ≤ 1000 by rw [List.length_map]; exact Nat.le_of_ble_eq_true rfl)
  rw [pick_map (d := Str.ofString "") V.str .none guL_ne t2] at p1
  obtain ⟨_, t3⟩ := pick_mem (ns := ns) (d := Str.ofString "") guL_ne t2
  have n2 := fun ρ => pst_new (σ := σ) (l := l) (j := j) (s := (nmS ns guL w.2).2) (G := (Cell.list (w.1.map rowV) :: gs) ++ [Cell.list (guL.map .str)]) ((optL (Str.ofString "P")).map oV) (by rw [List.length_map]; exact Nat.le_of_ble_eq_true rfl) ρ rfl
  have p2 := pick_stL hp t3 (by decide) (pst_g.trans (get_last ((Cell.list (w.1.map rowV) :: gs) ++ [Cell.list (guL.map .str)]) (Cell.list ((optL (Str.ofString "P")).map oV)))) (by have := hp.lt; lia) (List.cons_ne_nil _ _) (show ((optL (Str.ofString "P")).map oV).length ≤ 1000 by rw [List.length_map]; exact Nat.le_of_ble_eq_true rfl)
  rw [pick_map (d := none) oV .none optL_ne t3] at p2
  exact .retG (b_bind (b_bind (b_bind rfl (b_bind (b_bind (b_bind rfl (b_call htup)) (b_bind (b_bind (b_bind (b_bind (b_bind (b_bind rfl (b_bind (b_bind (b_bind rfl (n1 _)) rfl) rfl)) (b_call p1)) rfl) rfl) (b_bind (b_bind (b_bind (b_bind rfl (b_bind (b_bind (b_bind rfl (n2 _)) rfl) rfl)) (b_call p2)) (b_bind rfl rfl)) rfl)) rfl)) rfl)) rfl) rfl)
noncomputable def umkS (ns : List Int) (s : Int × Int) : (Opd × Bool) × Int × Int := (((markS ns s).1, (drawS ns 2 (markS ns s).2).1 == 0), (drawS ns 2 (markS ns s).2).2)
noncomputable def umsS (ns : List Int) (s : Int × Int) : List (Opd × Bool) × Int × Int := manyS (umkS ns) (drawS ns 4 s).1.toNat (drawS ns 4 s).2
noncomputable def goalsL : List (Str × Option Str × Option Str) :=
  [(Str.ofString "U", some (Str.ofString "M"), some (Str.ofString "K")), (Str.ofString "V", none, some (Str.ofString "L")), (Str.ofString "G", some (Str.ofString "U"), none), (Str.ofString "V", some (Str.ofString "M"), some (Str.ofString "K")), (Str.ofString "U", none, none)]
noncomputable def goalV (r : Str × Option Str × Option Str) : V := .tup [.str r.1, strO r.2.1, strO r.2.2]
noncomputable def goalS (ns : List Int) (s : Int × Int) : (Str × Option Str × Option Str) × Int × Int := pickS ns goalsL (Str.ofString "", none, none) s
noncomputable def ursS (ns : List Int) (s : Int × Int) : List (Str × Option Str × Option Str) × Int × Int := manyS (goalS ns) (1 + (drawS ns 4 s).1).toNat (drawS ns 4 s).2
noncomputable def unTail (ns : List Int) (s : Int × Int) : Option Str × Option Str × Int × Int := ((optS ns (Str.ofString "P") s).1, optS ns (Str.ofString "T") (optS ns (Str.ofString "P") s).2)
noncomputable def unStm (ns : List Int) (s : Int × Int) : UStm × Int × Int :=
  (⟨Str.ofString "S", (umsS ns s).1, (ursS ns (umsS ns s).2).1, (unTail ns (ursS ns (umsS ns s).2).2).1, (unTail ns (ursS ns (umsS ns s).2).2).2.1⟩, (unTail ns (ursS ns (umsS ns s).2).2).2.2)
theorem goalsL_ne : goalsL ≠ [] := List.cons_ne_nil _ _
theorem umkS_ok {ns : List Int} (s : Int × Int) (N : Int) (h : PenOk N s) : (umkS ns s).1.1 ∈ markL ∧ PenOk (N + 2) (umkS ns s).2 := by
  obtain ⟨h1, h2⟩ := markS_ok (ns := ns) h
  obtain ⟨_, h3⟩ := draw_range (ns := ns) (m := 2) (by decide) h2
  exact ⟨h1, h3.le (by lia)⟩
theorem umsS_ok {ns : List Int} {s : Int × Int} {N : Int} (h : PenOk N s) : (∀ x ∈ (umsS ns s).1, x.1 ∈ markL) ∧ (umsS ns s).1.length ≤ 4 ∧ PenOk (N + 9) (umsS ns s).2 := by
  obtain ⟨⟨h1, h2⟩, h3⟩ := draw_range (ns := ns) (m := 4) (by decide) h
  obtain ⟨h4, h5, h6⟩ := manyS_ok (P := fun x : Opd × Bool => x.1 ∈ markL) (umkS_ok (ns := ns)) (drawS ns 4 s).1.toNat h3
  exact ⟨h4, by show (manyS _ _ _).1.length ≤ 4; lia, h6.le (by lia)⟩
theorem ursS_ok {ns : List Int} {s : Int × Int} {N : Int} (h : PenOk N s) : (∀ x ∈ (ursS ns s).1, x ∈ goalsL) ∧ (ursS ns s).1.length ≤ 4 ∧ PenOk (N + 5) (ursS ns s).2 := by
  obtain ⟨⟨h1, h2⟩, h3⟩ := draw_range (ns := ns) (m := 4) (by decide) h
  obtain ⟨h4, h5, h6⟩ := manyS_ok (P := fun x => x ∈ goalsL) (c := 1) (fun s N h => pick_mem (ns := ns) (d := (Str.ofString "", none, none)) goalsL_ne h) (1 + (drawS ns 4 s).1).toNat h3
  exact ⟨h4, by show (manyS _ _ _).1.length ≤ 4; exact Nat.le_trans (Nat.le_of_eq h5) (by lia), h6.le (by lia)⟩
structure UnIn (u : UStm) : Prop where
  src : u.src = Str.ofString "S"
  marks : ∀ x ∈ u.marks, x.1 ∈ markL
  ml : u.marks.length ≤ 4
  rows : ∀ x ∈ u.rows, x ∈ goalsL
  rl : u.rows.length ≤ 4
  ptr : u.ptr ∈ optL (Str.ofString "P")
  tal : u.tal ∈ optL (Str.ofString "T")
theorem unStm_ok {ns : List Int} {s : Int × Int} {N : Int} (h : PenOk N s) : UnIn (unStm ns s).1 ∧ PenOk (N + 16) (unStm ns s).2 := by
  obtain ⟨h1, h2, h3⟩ := umsS_ok (ns := ns) h
  obtain ⟨h4, h5, h6⟩ := ursS_ok (ns := ns) h3
  obtain ⟨h7, h8⟩ := pick_mem (ns := ns) (d := none) (optL_ne (x := Str.ofString "P")) h6
  obtain ⟨h9, h0⟩ := pick_mem (ns := ns) (d := none) (optL_ne (x := Str.ofString "T")) h8
  exact ⟨⟨rfl, h1, h2, h4, h5, h7, h9⟩, h0.le (by lia)⟩
noncomputable def unstringK (σ : Sto) (l j : Nat) (ns : List Int) (s : Int × Int) : Option (V × Sto) := iff' (PenOk 80000 s) (some (usV (unStm ns s).1, σ.set l (penC j (unStm ns s).2)))
noncomputable def s_lunstring : Spec := fun ds σ => a1 ds fun p => vL p fun l => vPen σ l (unstringK σ l)
theorem umV_un (n : Nat) (m : Opd × Bool) : V.under n (umV m) := by simp [umV, V.under, V.underAll, opV_un]
theorem urV_un (n : Nat) (r : Str × Option Str × Option Str) : V.under n (urV r) := by simp [urV, V.under, V.underAll, refV_un, oV_un]
theorem usV_un (n : Nat) (u : UStm) : V.under n (usV u) := by
  simp only [usV, rowsV, V.under, V.underAll, refV_un, oV_un, map_un (umV_un n), map_un (urV_un n), and_true]
abbrev LuI : Type := List (Str × Option Str × Option Str) × Nat × Int × (Int × Int) × Option V × Option V × Sto
noncomputable def luL (l : Nat) (σ : Sto) (i : LuI) : Loc := [some (.loc l), i.2.2.2.2.1, some (.loc σ.length), some (.loc (σ.length + 1)), some (.loc (σ.length + 2)), i.2.2.2.2.2.1, none, none, none, none, none]
noncomputable def luG (m : List (Opd × Bool)) (rows : List (Str × Option Str × Option Str)) (gs : Sto) : Sto := Cell.list (m.map umV) :: Cell.list (goalsL.map goalV) :: Cell.list (rows.map urV) :: gs
abbrev luW (ns : List Int) (z : List (Str × Option Str × Option Str) × Int × Int) (i : LuI) : Prop := PenOk (80010 + i.1.length) i.2.2.2.1 ∧ z = (i.1 ++ (manyS (goalS ns) i.2.1 i.2.2.2.1).1, (manyS (goalS ns) i.2.1 i.2.2.2.1).2) ∧ i.1.length + i.2.1 ≤ 10
theorem d_lunstring {prog : Program} : CallOk prog KK 5 (.ref 279) s_lunstring := by
  refine' defOk (f := 279) ["pen"] 10 (by intro P; k_is) (by intro P; k_is) (bind1 fun _ => rfl) ?body (Runs.meets ⟨fun ds σ hu hd => Sat.a1 fun p e1 => .L fun l e2 => .pen fun j ns s hp => .iff' fun hs => .ok ?_⟩) (by decide +kernel) rfl rfl rfl
  case body => conv => { arg 4; whnf }; conv => { arg 5; whnf }; repeat' (with_reducible show (_ : Prop); first
   | (show JE _ _ _ _ (Expr.Name _ _) _; first | refine' W_local (by first | ((repeat first | exact At.here | apply At.there); done) | fail) (by decide +kernel) (by decide +kernel) | refine' W_cell (by first | ((repeat first | exact At.here | apply At.there); done) | fail) (by decide +kernel) (by decide +kernel))
   | (show JE _ _ _ _ (Expr.Constant _ _ _) _; first | exact JE_int _ | exact JE_str _ | exact JE_none)
   | (show JE _ _ _ _ (Expr.Call (Expr.Attribute _ _ _) _ _ _) _; refine' W_append ?_ ?_ (by intro _; with_unfolding_all rfl) (by intro _; with_unfolding_all rfl) (by with_unfolding_all rfl) (by intro _; with_unfolding_all rfl) (by intro _; with_unfolding_all rfl))
   | (show JE _ _ _ _ (Expr.Call _ _ _ _) _; first | refine' W_callT (by first | ((repeat first | exact At.here | apply At.there); done) | fail) (by intro P; k_is) (by first | exact boot_range | exact PyProof.Rows.boot_tuple | fail) (by decide +kernel) (by decide +kernel) (by first | exact cRange | exact cTuple | fail) ?_ (by intro _; with_unfolding_all rfl) (by intro _; with_unfolding_all rfl) | refine' W_call (by first | ((repeat first | exact At.here | apply At.there); done) | fail) (by intro P; k_is) (by decide +kernel) (by intro P; k_is) (by first | exact callOk_le d_draw (by decide) | exact callOk_le d_mark (by decide) | exact callOk_le d_pick (by decide) | exact callOk_le d_ref (by decide) | fail) ?_ (by intro _; with_unfolding_all rfl) (by intro _; with_unfolding_all rfl))
   | (show JE _ _ _ _ _ _; first | refine' JE_bin ?_ ?_ | refine' JE_tuple ?_ | refine' JE_list ?_ | refine' JE_if ?_ ?_ ?_ | refine' JE_cmpS ?_ ?_ (by with_unfolding_all rfl) | refine' JE_comp ?_ ?_ ?_ ?_ ?_ (by decide +kernel) (by intro _ _; with_unfolding_all rfl))
   | exact JA_nil
   | refine' JA_cons ?_ ?_ (by intro _; with_unfolding_all rfl)
   | exact JXs_nil
   | refine' JXs_cons ?_ ?_
   | (show JX _ _ _ _ (Stmt.Assign _ _ _) _; first | refine' JX_comp ?_ ?_ ?_ ?_ ?_ (by first | ((repeat first | exact At.here | apply At.there); done) | fail) (by first | exact .inl rfl | exact .inr rfl) (by decide +kernel) (by intro _ _; with_unfolding_all rfl) (by intro env O; obtain ⟨scp, b, c, d, e, f, g, h, i⟩ := env; have hs := O.scp; dsimp only at hs; subst hs; with_unfolding_all rfl) | refine' W_store ?_ (by first | ((repeat first | exact At.here | apply At.there); done) | fail) (by intro _; with_unfolding_all rfl))
   | (show JX _ _ _ _ _ _; first | refine' W_expr ?_ (by intro _; with_unfolding_all rfl) | refine' JX_return ?_ | refine' JX_for ?_ ?_ ?_ (by intro _ _; with_unfolding_all rfl))
   | (show JT _ _ _ _ _ _; refine' JT_cmpS ?_ ?_ (by with_unfolding_all rfl))
   | (show JS _ _ _ _ _ _; refine' JS_local (by first | ((repeat first | exact At.here | apply At.there); done) | fail))
   | exact Cap.nil
   | refine' Cap.loc ?_
   | refine' Cap.glob ?_
   | refine' Cap.cell (by first | ((repeat first | exact At.here | apply At.there); done) | fail) ?_
   | exact JI_nil)
  subst e1 e2
  refine .leave rfl (by rw [List.length_set]; exact Nat.le_refl _) (hp.und hu) (usV_un _ _) (.start (pst_self hp) ?_)
  have hlt := hp.lt
  have h4 := draw_st (G := []) (m := 4) hp hs (by decide) (by decide) (by decide)
  obtain ⟨⟨r1, r2⟩, t1⟩ := draw_range (ns := ns) (m := 4) (by decide) hs
  obtain ⟨_, hwl, t2⟩ := umsS_ok (ns := ns) hs
  unfold unStm
  generalize hw : umsS ns s = w at *
  unfold umsS at hw
  generalize drawS ns 4 s = d at *
  obtain ⟨d1, d2⟩ := d
  dsimp only at r1 r2 t1 h4 hw ⊢
  clear hd hu
  have hcm : pcompL (Src.rng 0 d1).ok (pstore (0 + 1)) (pret true) (pbind (pbind (pbind (pbind (pvar (0 + 1 + 1 + 1 + 1)) fun a => pbind (pret []) fun as => pret (a :: as)) (pcall s_mark)) fun a => pbind (pbind (pbind (pbind (pbind (pvar (0 + 1 + 1 + 1 + 1)) fun a => pbind (pbind (pret (V.int 2)) fun a => pbind (pret []) fun as => pret (a :: as)) fun as => pret (a :: as)) (pcall s_draw)) fun a => pbind (pret (V.int 0)) fun b => pbind (psto (vcmpS CmpOp.Eq a b)) fun c => pret (V.bool c)) fun a => pbind (pret []) fun as => pret (a :: as)) fun as => pret (a :: as)) ptup)
      σ.length [none, none, none, none, some (.loc l)] (Src.rng 0 d1).items (pst σ l j d2 [] ++ [Cell.list []]) = some (pst σ l j w.2 [Cell.list (w.1.map umV)]) := by
    rw [rng_items, rng_ok, Int.sub_zero]
    refine cm_use (ι := List (Opd × Bool) × Nat × Int × Int × Int) (fun i => intsFrom i.2.2.1 i.2.1) (fun i => pst σ l j i.2.2.2 [Cell.list (i.1.map umV)]) (fun i => PenOk (80001 + 2 * i.1.length) i.2.2.2 ∧ w = (i.1 ++ (manyS (umkS ns) i.2.1 i.2.2.2).1, (manyS (umkS ns) i.2.1 i.2.2.2).2) ∧ i.1.length + i.2.1 ≤ 10) ([], d1.toNat, 0, d2) rfl (pst_app (Cell.list [])) ⟨t1.le (by show (80000 : Int) + 1 ≤ 80001 + 2 * ((0 : Nat) : Int); decide), hw.symm, by dsimp only [List.length_nil]; lia⟩ ?_
    rintro ⟨dn, n, lo, s⟩ ⟨h1, h2, h5⟩
    dsimp only at h1 h2 h5
    cases n with
    | zero =>
      have h2 : w = (dn, s) := by rw [h2]; show (dn ++ [], s) = _; rw [List.append_nil]
      exact .nil rfl trivial (by rw [h2])
    | succ n =>
      have hmk := mark_st (G := [Cell.list (dn.map umV)]) hp h1 (by lia)
      obtain ⟨_, o2⟩ := markS_ok (ns := ns) h1
      have hdr := draw_st (G := [Cell.list (dn.map umV)]) (m := 2) hp o2 (by lia) (by decide) (by decide)
      obtain ⟨_, o4⟩ := umkS_ok (ns := ns) s _ h1
      have hap := append_pst (σ := σ) (l := l) (j := j) (s := (umkS ns s).2) (xs := dn.map umV) (d := umV (umkS ns s).1) (ys := (dn ++ [(umkS ns s).1]).map umV) (by rw [List.length_map]; lia) (by rw [List.map_append]; rfl)
      exact .next (dn ++ [(umkS ns s).1], n, lo + 1, (umkS ns s).2) rfl trivial rfl rfl rfl (b_bind (b_bind (b_bind rfl (b_call hmk)) (b_bind (b_bind (b_bind (b_bind rfl (b_call hdr)) (b_bind rfl (b_bind (b_sto rfl) rfl))) rfl) rfl)) rfl) hap ⟨rfl, trivial⟩ rfl ⟨o4.le (by dsimp only; rw [List.length_append, List.length_singleton]; lia), by rw [h2, List.append_assoc]; rfl, by dsimp only; rw [List.length_append, List.length_singleton]; lia⟩
  have hrow : ∀ (τ : Sto) (m : Nat) (os : List (Option Str)), τ.length = m → os.length ≤ 10 → pcompL (fun _ => True) (pstore (0 + 1)) (pret true) (pbind (pbind (pvar (0 + 1)) fun a => pbind (pret V.none) fun b => psto (vcmpS CmpOp.Is a b)) fun c => if c = true then pret V.none else pbind (pbind (pvar (0 + 1)) fun a => pbind (pret []) fun as => pret (a :: as)) (pcall s_ref)) m [none, none, none] (os.map strO) (τ ++ [Cell.list []]) = some (τ ++ [Cell.list (os.map oV)]) := by
    intro τ m os hm hos
    subst hm
    refine cm_use (ι := List (Option Str) × List (Option Str)) (fun i => i.2.map strO) (fun i => τ ++ [Cell.list (i.1.map oV)]) (fun i => os = i.1 ++ i.2) ([], os) rfl rfl rfl ?_
    rintro ⟨dn, rest⟩ h1
    dsimp only at h1
    cases rest with
    | nil => rw [List.append_nil] at h1; exact .nil rfl trivial (by rw [h1])
    | cons o rest =>
      have hdl : dn.length ≤ 10 := by rw [h1, List.length_append] at hos; lia
      have q := append_last (σ := τ) (xs := dn.map oV) (d := oV o) (ys := (dn ++ [o]).map oV) (by rw [List.length_map]; lia) (by rw [List.map_append]; rfl)
      cases o with
      | none => exact .next (dn ++ [none], rest) rfl trivial rfl rfl rfl (b_iet rfl rfl rfl) q trivial rfl (by dsimp only; rw [h1, List.append_assoc]; rfl)
      | some x => exact .next (dn ++ [some x], rest) rfl trivial rfl rfl rfl (b_ief rfl rfl (b_bind rfl (b_call rfl))) q trivial rfl (by dsimp only; rw [h1, List.append_assoc]; rfl)
  have hl0 : (pst σ l j d2 []).length = σ.length := pst_length
  have n1 := fun ρ => pst_new (σ := σ) (l := l) (j := j) (s := w.2) (G := [Cell.list (w.1.map umV)]) (goalsL.map goalV) (by rw [List.length_map]; exact Nat.le_of_ble_eq_true rfl) ρ rfl
  have n2 := fun ρ => pst_new (σ := σ) (l := l) (j := j) (s := w.2) (G := [Cell.list (w.1.map umV)] ++ [Cell.list (goalsL.map goalV)]) [] (Nat.zero_le _) ρ rfl
  have h5 := draw_st (G := [Cell.list (w.1.map umV)] ++ [Cell.list (goalsL.map goalV)] ++ [Cell.list []]) (m := 4) hp t2 (by decide) (by decide) (by decide)
  obtain ⟨⟨u1, u2⟩, t3⟩ := draw_range (ns := ns) (m := 4) (by decide) t2
  obtain ⟨_, hzl, t4⟩ := ursS_ok (ns := ns) t2
  generalize hz : ursS ns w.2 = z at *
  unfold ursS at hz
  generalize drawS ns 4 w.2 = e at *
  obtain ⟨e1, e2⟩ := e
  dsimp only at u1 u2 t3 h5 hz
  refine .of (b_seq (b_bind (b_compAt hl0 (b_bind (b_bind (b_bind rfl (b_call h4)) rfl) rfl) (src_rng (Int.le_refl 0) (by decide) (by lia) (by lia)) hcm) rfl) (b_seq (b_bind (b_bind rfl (n1 _)) rfl) (b_seq (b_bind (b_bind rfl (n2 _)) rfl) (b_into (b_bind (b_bind (b_bind rfl (b_bind (b_bind rfl (b_call h5)) (b_lift rfl))) rfl) rfl) (b_into (b_sto (src_rng (Int.le_refl 0) (by decide) (by lia) (by lia))) rfl))))) ?_
  clear hcm hw n1 n2 h4 h5
  rw [rng_items, rng_ok, Int.sub_zero]
  refine for_use (ι := LuI) (fun i => intsFrom i.2.2.1 i.2.1) (luL l σ) (fun i => pst σ l j i.2.2.2.1 (luG w.1 i.1 i.2.2.2.2.2.2))
    (luW ns z) ([], (1 + e1).toNat, 0, e2, none, none, []) rfl rfl rfl ⟨t3, hz.symm, by dsimp only [List.length_nil]; lia⟩ ?_
  rintro ⟨dn, n, lo, s', x1, x5, gs⟩ ⟨h1, h2, h5⟩
  dsimp only at h1 h2 h5
  cases n with
  | zero =>
    have h2 : z = (dn, s') := by rw [h2]; show (dn ++ [], s') = _; rw [List.append_nil]
    subst h2
    dsimp only at t4 ⊢
    have ht1 : sTuple [.loc (σ.length + 0)] (pst σ l j s' (luG w.1 dn gs)) = some (.tup (w.1.map umV), pst σ l j s' (luG w.1 dn gs)) := sL_of (pst_g.trans rfl)
    have ht2 : sTuple [.loc (σ.length + 2)] (pst σ l j s' (luG w.1 dn gs)) = some (.tup (dn.map urV), pst σ l j s' (luG w.1 dn gs)) := sL_of (pst_g.trans rfl)
    generalize hG : luG w.1 dn gs = G at ht1 ht2
    have ol : ∀ x, ((optL x).map oV).length ≤ 1000 := fun x => by rw [List.length_map]; exact Nat.le_of_ble_eq_true rfl
    have n1 := fun ρ => pst_new (σ := σ) (l := l) (j := j) (s := s') (G := G) ((optL (Str.ofString "P")).map oV) (Nat.le_trans (ol _) (by decide)) ρ rfl
    have p1 := pick_stL hp t4 (by decide) (pst_g.trans (get_last G (Cell.list ((optL (Str.ofString "P")).map oV)))) (by lia) (List.cons_ne_nil _ _) (ol _)
    rw [pick_map (d := none) oV .none optL_ne t4] at p1
    obtain ⟨_, t5⟩ := pick_mem (ns := ns) (d := none) (optL_ne (x := Str.ofString "P")) t4
    have n2 := fun ρ => pst_new (σ := σ) (l := l) (j := j) (s := (optS ns (Str.ofString "P") s').2) (G := G ++ [Cell.list ((optL (Str.ofString "P")).map oV)]) ((optL (Str.ofString "T")).map oV) (Nat.le_trans (ol _) (by decide)) ρ rfl
    have p2 := pick_stL hp t5 (by decide) (pst_g.trans (get_last (G ++ [Cell.list ((optL (Str.ofString "P")).map oV)]) (Cell.list ((optL (Str.ofString "T")).map oV)))) (by lia) (List.cons_ne_nil _ _) (ol _)
    rw [pick_map (d := none) oV .none optL_ne t5] at p2
    refine .nil rfl trivial ?_
    dsimp only
    rw [hG]
    exact .retG (b_bind (b_bind (b_bind rfl (b_bind (b_bind rfl (b_bind (b_bind (b_bind rfl (b_call ht1)) (b_bind (b_bind (b_bind rfl (b_call ht2)) (b_bind (b_bind (b_bind (b_bind rfl (b_bind (b_bind (b_bind rfl (n1 _)) rfl) rfl)) (b_call p1)) (b_bind (b_bind (b_bind (b_bind rfl (b_bind (b_bind (b_bind rfl (n2 _)) rfl) rfl)) (b_call p2)) (b_bind rfl rfl)) rfl)) rfl)) rfl)) rfl)) rfl)) rfl) rfl)
  | succ n =>
    have p1 := pick_stL (k := σ.length + 1) (xs := goalsL.map goalV) (G := luG w.1 dn gs) hp h1 (by lia) (pst_g.trans rfl) (by lia) (List.cons_ne_nil _ _) (by rw [List.length_map]; exact Nat.le_of_ble_eq_true rfl)
    rw [pick_map (d := (Str.ofString "", none, none)) goalV .none goalsL_ne h1] at p1
    obtain ⟨_, o2⟩ := pick_mem (ns := ns) (d := (Str.ofString "", none, none)) goalsL_ne h1
    have hr := hrow (pst σ l j (goalS ns s').2 (luG w.1 dn gs)) _ [some (goalS ns s').1.1, (goalS ns s').1.2.1, (goalS ns s').1.2.2] pst_length (Nat.le_of_ble_eq_true rfl)
    rw [pst_app (Cell.list (List.map oV _))] at hr
    have ht : sTuple [.loc (σ.length + (luG w.1 dn gs).length)] (pst σ l j (goalS ns s').2 ((luG w.1 dn gs) ++ [Cell.list ([some (goalS ns s').1.1, (goalS ns s').1.2.1, (goalS ns s').1.2.2].map oV)])) = some (urV (goalS ns s').1, pst σ l j (goalS ns s').2 ((luG w.1 dn gs) ++ [Cell.list ([some (goalS ns s').1.1, (goalS ns s').1.2.1, (goalS ns s').1.2.2].map oV)])) := sL_of (pst_g.trans (get_last ..))
    have hap := append_at (σ := σ) (l := l) (j := j) (s := (goalS ns s').2) (G := (luG w.1 dn gs) ++ [Cell.list ([some (goalS ns s').1.1, (goalS ns s').1.2.1, (goalS ns s').1.2.2].map oV)]) (i := 2) (xs := dn.map urV) (d := urV (goalS ns s').1) rfl (by rw [List.length_map]; lia)
    rw [show dn.map urV ++ [urV (goalS ns s').1] = (dn ++ [(goalS ns s').1]).map urV by rw [List.map_append]; rfl] at hap
    have hls : isList (.loc (σ.length + 2)) (pst σ l j (goalS ns s').2 (luG w.1 dn gs)) = some () := is_list (pst_g.trans rfl)
    exact .next (dn ++ [(goalS ns s').1], n, lo + 1, (goalS ns s').2, some (.int lo), some (goalV (goalS ns s').1), gs ++ [Cell.list ([some (goalS ns s').1.1, (goalS ns s').1.2.1, (goalS ns s').1.2.2].map oV)]) rfl trivial rfl (b_seq (b_bind (b_bind rfl (b_call p1)) rfl) (b_seq (b_bind (b_bind rfl (b_bind (b_sto hls) (b_bind (b_bind (b_bind (b_bind (b_compAt pst_length rfl rfl hr) rfl) (b_call ht)) rfl) (b_call hap)))) rfl) rfl)) rfl ⟨o2.le (by dsimp only; rw [List.length_append, List.length_singleton]; lia), by rw [h2, List.append_assoc]; rfl, by dsimp only; rw [List.length_append, List.length_singleton]; lia⟩
noncomputable def q2 (σ : Sto) (li ln : Nat) (E F : List (Str × V)) (K : Sto) : Sto := (σ.set li (.dict E)).set ln (.dict F) ++ K
structure Apart2 (σ : Sto) (li ln : Nat) : Prop where
  a : li ≠ ln
  i : li < σ.length
  n : ln < σ.length
section
variable {σ K : Sto} {li ln : Nat} {E F : List (Str × V)}
theorem q2_self (hi : σ[li]? = some (.dict E)) (hn : σ[ln]? = some (.dict F)) : σ = q2 σ li ln E F [] := by
  unfold q2
  rw [set_same hi, set_same hn, List.append_nil]
theorem q2_len : (q2 σ li ln E F K).length = σ.length + K.length := by unfold q2; rw [List.length_append, List.length_set, List.length_set]
theorem q2_i (H : Apart2 σ li ln) : (q2 σ li ln E F K)[li]? = some (.dict E) := get_leftG (by rw [List.getElem?_set_ne (Ne.symm H.a)]; exact List.getElem?_set_self H.i)
theorem q2_n (H : Apart2 σ li ln) : (q2 σ li ln E F K)[ln]? = some (.dict F) := get_leftG (List.getElem?_set_self (by rw [List.length_set]; exact H.n))
theorem q2_o {k : Nat} {c : Cell} (h : σ[k]? = some c) (h1 : k ≠ li) (h2 : k ≠ ln) : (q2 σ li ln E F K)[k]? = some c := get_leftG (by rw [List.getElem?_set_ne (Ne.symm h2), List.getElem?_set_ne (Ne.symm h1)]; exact h)
theorem q2_g {i : Nat} : (q2 σ li ln E F K)[σ.length + i]? = K[i]? := by
  unfold q2
  rw [List.getElem?_append_right (by rw [List.length_set, List.length_set]; exact Nat.le_add_right ..), List.length_set, List.length_set, Nat.add_sub_cancel_left]
theorem q2_app (d : Cell) : q2 σ li ln E F K ++ [d] = q2 σ li ln E F (K ++ [d]) := List.append_assoc ..
theorem q2_seti (H : Apart2 σ li ln) (E' : List (Str × V)) : (q2 σ li ln E F K).set li (.dict E') = q2 σ li ln E' F K := by
  unfold q2
  rw [List.set_append_left _ _ (by rw [List.length_set, List.length_set]; exact H.i), List.set_comm _ _ (Ne.symm H.a), List.set_set]
theorem q2_setn (H : Apart2 σ li ln) (F' : List (Str × V)) : (q2 σ li ln E F K).set ln (.dict F') = q2 σ li ln E F' K := by
  unfold q2
  rw [List.set_append_left _ _ (by rw [List.length_set, List.length_set]; exact H.n), List.set_set]
theorem q2_setg {i : Nat} (c : Cell) : (q2 σ li ln E F K).set (σ.length + i) c = q2 σ li ln E F (K.set i c) := by
  unfold q2
  rw [List.set_append_right _ _ (by rw [List.length_set, List.length_set]; exact Nat.le_add_right ..), List.length_set, List.length_set, Nat.add_sub_cancel_left]
theorem q2_dictI (H : Apart2 σ li ln) {k : Nat} (hk : K.length = k) : sDict [.loc li] (q2 σ li ln E F K) = some (.loc (σ.length + k), q2 σ li ln E F (K ++ [.dict E])) := by
  subst hk
  refine (sD_of (q2_i H)).trans ?_
  rw [q2_app, q2_len]
theorem q2_dictN (H : Apart2 σ li ln) {k : Nat} (hk : K.length = k) : sDict [.loc ln] (q2 σ li ln E F K) = some (.loc (σ.length + k), q2 σ li ln E F (K ++ [.dict F])) := by
  subst hk
  refine (sD_of (q2_n H)).trans ?_
  rw [q2_app, q2_len]
theorem q2_new (ds : List V) (hl : ds.length ≤ 1000000) (ρ : Loc) {k : Nat} (hk : K.length = k) : plist ds ρ (q2 σ li ln E F K) = some (.loc (σ.length + k), ρ, q2 σ li ln E F (K ++ [.list ds])) := by
  rw [b_list hl, q2_app, q2_len, hk]
end
theorem pl_set {σ : Sto} {i : Nat} {c : Cell} (h : Sto.pl σ = true) (hc : c.pl = true) : Sto.pl (σ.set i c) = true := by
  unfold Sto.pl at *
  rw [List.all_eq_true] at *
  intro d hd
  rcases List.mem_or_eq_of_mem_set hd with q | rfl
  · exact h d q
  · exact hc
theorem pl_app {σ K : Sto} (h : Sto.pl σ = true) (hk : Sto.pl K = true) : Sto.pl (σ ++ K) = true := by
  unfold Sto.pl at *
  rw [List.all_append, h, hk]; rfl
theorem plAll_of {xs : List V} (h : ∀ d ∈ xs, d.pl = true) : V.plAll xs = true := by
  induction xs with
  | nil => rfl
  | cons d r ih =>
    show (V.pl d && V.plAll r) = true
    rw [h d (List.mem_cons_self ..), ih fun d hd => h d (List.mem_cons_of_mem _ hd)]; rfl
theorem val_mem {p : Str × V} : ∀ {es : List (Str × V)}, Keys es → p ∈ es → valOf' es p.1 = some p.2
  | [], _, h => nomatch h
  | (k, d) :: r, hk, h => by
    rw [Keys, List.map_cons, List.nodup_cons] at hk
    rw [valOf']
    rcases List.mem_cons.mp h with rfl | h
    · exact if_pos rfl
    · rw [if_neg (fun z : k = p.1 => hk.1 (List.mem_map.mpr ⟨p, h, z.symm⟩))]
      exact val_mem hk.2 h
section
variable {ks js : List Str} {es fs : List (Str × V)}
theorem Wd.mE (w : Wd ks js es fs) {p : Str × V} (h : p ∈ es) : ∃ g, p.2 = .bytes g := by
  obtain ⟨g, h1, _⟩ := w.ei p.1 (by rw [← w.ek]; exact List.mem_map_of_mem h)
  rw [val_mem w.keysE h] at h1
  exact ⟨g, Option.some.inj h1⟩
theorem Wd.mF (w : Wd ks js es fs) {p : Str × V} (h : p ∈ fs) : ∃ g, p.2 = .int g := by
  obtain ⟨g, h1⟩ := w.fi p.1 (by rw [← w.fk]; exact List.mem_map_of_mem h)
  rw [val_mem w.keysF h] at h1
  exact ⟨g, Option.some.inj h1⟩
theorem Wd.plE (w : Wd ks js es fs) : (Cell.dict es).pl = true := plAll_of fun d hd => by
  obtain ⟨p, hp, rfl⟩ := List.mem_map.mp hd
  obtain ⟨g, e⟩ := w.mE hp
  rw [e]; rfl
theorem Wd.plF (w : Wd ks js es fs) : (Cell.dict fs).pl = true := plAll_of fun d hd => by
  obtain ⟨p, hp, rfl⟩ := List.mem_map.mp hd
  obtain ⟨g, e⟩ := w.mF hp
  rw [e]; rfl
theorem Wd.unE (w : Wd ks js es fs) (n : Nat) : (Cell.dict es).under n := underAll_mem.mpr fun d hd => by
  obtain ⟨p, hp, rfl⟩ := List.mem_map.mp hd
  obtain ⟨g, e⟩ := w.mE hp
  rw [e]; trivial
theorem Wd.unF (w : Wd ks js es fs) (n : Nat) : (Cell.dict fs).under n := underAll_mem.mpr fun d hd => by
  obtain ⟨p, hp, rfl⟩ := List.mem_map.mp hd
  obtain ⟨g, e⟩ := w.mF hp
  rw [e]; trivial
end
theorem dhits_self {es : List (Str × V)} : ∀ {l : List (Str × V)}, (∀ p ∈ l, valOf' es p.1 = some p.2 ∧ veq p.2 p.2 = some true) → dhits es l = some true
  | [], _ => rfl
  | p :: r, h => by
    obtain ⟨h1, h2⟩ := h p (List.mem_cons_self ..)
    refine (vo_of h1).trans ?_
    rw [h2, dhits_self fun q hq => h q (List.mem_cons_of_mem _ hq)]; rfl
theorem deq_self {es : List (Str × V)} (hk : Keys es) (h : ∀ p ∈ es, veq p.2 p.2 = some true) : deq es es = some true := by
  unfold deq
  rw [dhits_self fun p hp => ⟨val_mem hk hp, h p hp⟩, beq_self_eq_true]; rfl
theorem eqd {l k : Nat} {es : List (Str × V)} {τ : Sto} (h1 : τ[l]? = some (.dict es)) (h2 : τ[k]? = some (.dict es)) (h : deq es es = some true) : vcmpS .Eq (.loc l) (.loc k) τ = some true := by
  show eqC τ l k = _
  unfold eqC
  rw [h1]
  exact (sD_of h2).trans h
theorem eql {l k : Nat} {xs : List V} {τ : Sto} (h1 : τ[l]? = some (.list xs)) (h2 : τ[k]? = some (.list xs)) (h : eqL xs xs = some true) : vcmpS .Eq (.loc l) (.loc k) τ = some true := by
  show eqC τ l k = _
  unfold eqC
  rw [h1]
  exact (sL_of h2).trans ((if_pos rfl).trans h)
def Strs (xs : List V) : Prop := ∀ d ∈ xs, ∃ x, d = .str x
theorem eqL_self : ∀ {xs : List V}, Strs xs → eqL xs xs = some true
  | [], _ => rfl
  | d :: r, h => by
    obtain ⟨x, rfl⟩ := h d (List.mem_cons_self ..)
    show andO (some (x == x)) (eqL r r) = _
    rw [eqL_self fun d hd => h d (List.mem_cons_of_mem _ hd), beq_self_eq_true]; rfl
theorem Strs.app {a b : List V} (ha : Strs a) (hb : Strs b) : Strs (a ++ b) := fun d hd => (List.mem_append.mp hd).elim (ha d) (hb d)
theorem Strs.pl {xs : List V} (h : Strs xs) : (Cell.list xs).pl = true := plAll_of fun d hd => by
  obtain ⟨x, rfl⟩ := h d hd; rfl
theorem seenT_strs (rows : List (Str × Option Str × Option Str)) : Strs (seenT rows) := fun d hd => by
  obtain ⟨r, _, rfl⟩ := List.mem_map.mp hd
  exact ⟨_, rfl⟩
theorem seenK_strs : ∀ rows : List (Str × Option Str × Option Str), Strs (seenK rows)
  | [] => fun _ h => nomatch h
  | (_, none, _) :: rs => seenK_strs rs
  | (_, some k, _) :: rs => fun d hd => by
    rcases List.mem_cons.mp hd with rfl | hd
    · exact ⟨_, rfl⟩
    · exact seenK_strs rs d hd
theorem str1 (x : Str) : Strs [V.str x] := fun d hd => ⟨x, List.mem_singleton.mp hd⟩
theorem layAll_strs : ∀ {ps : List (List UInt8 × List UInt8)} {rs : List (Str × Option Str × Option Str)} {T : Tabs}, Strs T.sn → Strs (layAll T ps rs).sn
  | [], _, _, h => h
  | _ :: _, [], _, h => h
  | p :: ps, (x, k, c) :: rs, T, h => by
    rw [layAll]
    refine layAll_strs ?_
    unfold layT
    rw [layC_sn]
    cases k with
    | none => exact h.app (str1 x)
    | some k => exact (h.app (str1 x)).app (str1 k)
theorem layAll_size {ks js : List Str} : ∀ {ps : List (List UInt8 × List UInt8)} {rs : List (Str × Option Str × Option Str)} {T : Tabs}, Wd ks js T.es T.fs → (∀ r ∈ rs, RowOk ks js r) → ∀ y, (itemB (layAll T ps rs).es y).length = (itemB T.es y).length
  | [], _, _, _, _, _ => rfl
  | _ :: _, [], _, _, _, _ => rfl
  | p :: ps, r :: rs, T, w, h, y => by
    rw [layAll]
    have hr := h r (List.mem_cons_self ..)
    exact (layAll_size (layT_wd w hr) (fun q hq => h q (List.mem_cons_of_mem _ hq)) y).trans (layT_size w hr y)
inductive Stm where
  | str (s : SStm)
  | un (u : UStm)
noncomputable def stmV : Stm → V
  | .str s => ssV s
  | .un u => usV u
theorem su_ne {s : SStm} {u : UStm} (h : ssV s = usV u) : False := by simp [ssV, usV] at h
theorem stmV_inj (a b : Stm) (h : stmV a = stmV b) : a = b := by
  cases a <;> cases b
  · exact congrArg _ (ssV_inj _ _ h)
  · exact (su_ne h).elim
  · exact (su_ne h.symm).elim
  · exact congrArg _ (usV_inj _ _ h)
noncomputable def psO (es : List (Str × V)) (s : SStm) : List (List UInt8 × Option UInt8) := (piecesOf es s.rows).getD []
noncomputable def bO (fs : List (Str × V)) (ptr : Option Str) : Int := (posOf fs ptr).getD 1
noncomputable def msO (es : List (Str × V)) (u : UStm) : List (UInt8 × Bool) := (marksD es u.marks).getD []
noncomputable def outS (es fs : List (Str × V)) : Stm → List (Str × V) × List (Str × V)
  | .str s => (strE es s (psO es s) (itemB es s.goal) (bO fs s.ptr), strF fs s (psO es s) (itemB es s.goal) (bO fs s.ptr))
  | .un u => ((unT es fs [] u (msO es u) (bO fs u.ptr)).es, (unT es fs [] u (msO es u) (bO fs u.ptr)).fs)
structure StrGood (ks js : List Str) (es fs : List (Str × V)) (s : SStm) : Prop where
  ok : StrOk es fs s (psO es s) (itemB es s.goal) (bO fs s.ptr)
  goal : s.goal ∈ ks
  ptr : ∀ x, s.ptr = some x → x ∈ js
def StmOk (ks js : List Str) (es fs : List (Str × V)) : Stm → Prop
  | .str s => StrGood ks js es fs s
  | .un u => UnOk ks js es fs u (msO es u) (bO fs u.ptr)
theorem stringS_len {ps : List (List UInt8)} {g : List UInt8} {b : Int} : (stringS ps g b).1.length = g.length := by
  unfold stringS
  split
  · rename_i h
    show (strS ps g (b - 1).toNat).1.length = _
    rw [strS_layL _ _ _ (by omega), layL_len]
  · rfl
theorem out_wd {ks js : List Str} {es fs : List (Str × V)} {t : Stm} (w : Wd ks js es fs) (h : StmOk ks js es fs t) : Wd ks js (outS es fs t).1 (outS es fs t).2 ∧ ∀ y, (itemB (outS es fs t).1 y).length = (itemB es y).length := by
  cases t with
  | str s =>
    refine ⟨(w.setE h.goal (by rw [stringS_len]; exact h.ok.gl)).moved h.ptr, fun y => ?_⟩
    show (itemB (dset es s.goal (.bytes _)) y).length = _
    rw [itemB_set (by rw [w.ek]; exact h.goal)]
    by_cases hy : y = s.goal
    · rw [if_pos hy, stringS_len, hy]
    · rw [if_neg hy]
  | un u =>
    have h : UnOk ks js es fs u (msO es u) (bO fs u.ptr) := h
    have wT := layAll_wd (T := ⟨es, fs, [] ++ seenT u.rows ++ seenK u.rows⟩) (ps := (unP es u (msO es u) (bO fs u.ptr)).1) w h.hr
    have wM := wT.moved (p := (unP es u (msO es u) (bO fs u.ptr)).2.1) h.hp
    refine ⟨?_, layAll_size w h.hr⟩
    show Wd ks js _ (tallyD _ _ u.tal)
    have ht := h.ht
    cases htal : u.tal with
    | none => exact wM
    | some x => exact wM.setF (ht x htal)
structure DoneOk (σ : Sto) (li ln : Nat) (ks js : List Str) (es fs : List (Str × V)) (t : Stm) : Prop where
  wd : Wd ks js es fs
  ok : StmOk ks js es fs t
  ne : li ≠ ln
  tab : σ[0]? = some (.tab qLam)
  pl : Sto.pl σ = true
noncomputable def s_done : Spec := fun ds σ => a3 ds fun i n s => vL i fun li => vL n fun ln => vo (back stmV s) fun t => sD σ li fun es => sD σ ln fun fs => iff' (∃ ks js, DoneOk σ li ln ks js es fs t) (some (.bool true, (σ.set li (.dict (outS es fs t).1)).set ln (.dict (outS es fs t).2)))
theorem done_of {li ln : Nat} {ks js : List Str} {es fs : List (Str × V)} {t : Stm} {σ : Sto} (h1 : σ[li]? = some (.dict es)) (h2 : σ[ln]? = some (.dict fs)) (h : DoneOk σ li ln ks js es fs t) : s_done [.loc li, .loc ln, stmV t] σ = some (.bool true, (σ.set li (.dict (outS es fs t).1)).set ln (.dict (outS es fs t).2)) :=
  (vo_of (back_of stmV_inj t)).trans ((sD_of h1).trans ((sD_of h2).trans (iff_pos ⟨ks, js, h⟩)))
theorem switch_of {spec : Spec} {d r : V} {li ln ls : Nat} {ρ : Loc} {σ σ' : Sto} (h0 : σ[0]? = some (.tab qLam)) (h1 : li < σ.length) (h2 : ln < σ.length) (h3 : ls < σ.length) (h : spec [d, .hands li ln ls] σ = some (r, σ')) (p1 : Sto.pl σ' = true) (p2 : Loc.pl ρ = true) (p3 : r.pl = true) : pswitch spec d [.loc li, .loc ln, .loc ls] ρ σ = some (r, ρ, σ') := by
  show vTab σ[0]? _ = _
  rw [h0]
  exact (if_pos ⟨rfl, h1, h2, h3⟩).trans ((vo_of h).trans (if_pos ⟨p1, p2, p3⟩))
theorem opV_pl (o : Opd) : (opV o).pl = true := by cases o <;> simp [opV, refV, V.pl, V.plAll]
theorem refV_pl (x : Str) : (refV x).pl = true := by simp [refV, V.pl, V.plAll]
theorem oV_pl (x : Option Str) : (oV x).pl = true := by
  cases x with
  | none => simp [oV, V.pl]
  | some x => exact refV_pl x
theorem map_pl {α : Type} {f : α → V} (hf : ∀ a, (f a).pl = true) (xs : List α) : V.plAll (xs.map f) = true := plAll_of fun d h => by
  obtain ⟨r, _, rfl⟩ := List.mem_map.mp h
  exact hf r
theorem rowV_pl (r : Opd × Option Opd) : (rowV r).pl = true := by
  obtain ⟨o, d⟩ := r
  cases d <;> simp [rowV, V.pl, V.plAll, opV_pl]
theorem stmV_pl (t : Stm) : (stmV t).pl = true := by
  cases t with
  | str s => simp only [stmV, ssV, V.pl, V.plAll, refV_pl, oV_pl, map_pl rowV_pl, Bool.and_self]
  | un u => simp only [stmV, usV, rowsV, V.pl, V.plAll, refV_pl, oV_pl, map_pl (f := umV) (fun m => by simp [umV, V.pl, V.plAll, opV_pl]), map_pl (f := urV) (fun m => by simp [urV, V.pl, V.plAll, refV_pl, oV_pl]), Bool.and_self]
theorem d_done {prog : Program} : CallOk prog KK 9 (.ref 286) s_done := by
  refine' defOk (f := 286) ["items", "numbers", "statement"] 12 (by intro P; k_is) (by intro P; k_is) (bind3 fun _ _ _ => rfl) ?body (Runs.meets ⟨fun ds σ hu hd => Sat.a3 fun i n s e1 => .L fun li e2 => .L fun ln e3 => .o fun t ht => .sD fun es hi => .sD fun fs hn => .iff' fun ⟨ks, js, hh⟩ => .ok ?_⟩) (by decide +kernel) rfl rfl rfl
  case body => conv => { arg 4; whnf }; conv => { arg 5; whnf }; repeat' (with_reducible show (_ : Prop); first
   | (show JE _ _ _ _ (Expr.Name _ _) _; refine' W_local (by first | ((repeat first | exact At.here | apply At.there); done) | fail) (by decide +kernel) (by decide +kernel))
   | (show JE _ _ _ _ (Expr.Constant _ _ _) _; first | exact JE_int _ | exact JE_str _)
   | (show JE _ _ _ _ (Expr.Call _ _ _ _) _; first | refine' W_callT (by first | ((repeat first | exact At.here | apply At.there); done) | fail) (by intro P; k_is) (by first | exact PyProof.Rows.boot_dict | fail) (by decide +kernel) (by decide +kernel) (by first | exact cDict | fail) ?_ (by intro _; with_unfolding_all rfl) (by intro _; with_unfolding_all rfl) | refine' JE_switch (by first | ((repeat first | exact At.here | apply At.there); done) | fail) (by intro P; k_is) (by decide +kernel) (by intro P; k_is) (by first | exact callOk_le d_sdue (by decide) | exact callOk_le d_strwith (by decide) | exact callOk_le d_udue (by decide) | exact callOk_le d_unwith (by decide) | fail) (by first | ((repeat first | exact At.here | apply At.there); done) | fail) (by intro P; k_is) (by decide +kernel) (by intro P; k_is) ?_ ?_ (by intro _; with_unfolding_all rfl) (by intro _; with_unfolding_all rfl) (by intro _; with_unfolding_all rfl) (by intro _; with_unfolding_all rfl) | refine' W_call (by first | ((repeat first | exact At.here | apply At.there); done) | fail) (by intro P; k_is) (by decide +kernel) (by intro P; k_is) (by first | exact callOk_le d_sdue (by decide) | exact callOk_le d_strwith (by decide) | exact callOk_le d_udue (by decide) | exact callOk_le d_unwith (by decide) | fail) ?_ (by intro _; with_unfolding_all rfl) (by intro _; with_unfolding_all rfl))
   | (show JE _ _ _ _ _ _; first | refine' JE_sub ?_ ?_ (by intro _ _; with_unfolding_all rfl) | refine' JE_tuple ?_ | refine' JE_list ?_ | refine' JE_cmpS ?_ ?_ (by with_unfolding_all rfl) | refine' JE_and ?_)
   | exact JA_nil
   | refine' JA_cons ?_ ?_ (by intro _; with_unfolding_all rfl)
   | exact JXs_nil
   | refine' JXs_cons ?_ ?_
   | (show JX _ _ _ _ (Stmt.Assign _ _ _) _; first | refine' W_swap2 ?_ (by first | ((repeat first | exact At.here | apply At.there); done) | fail) (by first | ((repeat first | exact At.here | apply At.there); done) | fail) (by intro _; with_unfolding_all rfl) (by intro env O; obtain ⟨scp, b, c, d, e, f, g, h, i⟩ := env; have hs := O.scp; dsimp only at hs; subst hs; with_unfolding_all rfl) | refine' JX_assignTup ?_ ?_ (by intro _; with_unfolding_all rfl) (by intro env O; obtain ⟨scp, b, c, d, e, f, g, h, i⟩ := env; have hs := O.scp; dsimp only at hs; subst hs; with_unfolding_all rfl))
   | (show JX _ _ _ _ _ _; first | refine' JX_return ?_ | refine' JX_if ?_ ?_ ?_)
   | (show JT _ _ _ _ _ _; refine' JT_cmpS ?_ ?_ (by with_unfolding_all rfl))
   | (show JS _ _ _ _ _ _; first | refine' JS_local (by first | ((repeat first | exact At.here | apply At.there); done) | fail) | refine' JS_tuple ?_)
   | refine' JSs_cons ?_ ?_ (by intro _; with_unfolding_all rfl)
   | exact JSs_nil
   | refine' JC_cons ?_ ?_
   | refine' JC_one ?_)
  obtain rfl := back_inv ht
  subst e1 e2 e3
  obtain ⟨wO, _⟩ := out_wd hh.wd hh.ok
  refine .leave rfl (by rw [List.length_set, List.length_set]; exact Nat.le_refl _) (under_set (under_set hu (wO.unE _)) (by rw [List.length_set]; exact wO.unF _)) trivial (.start (q2_self hi hn) ?_)
  have H : Apart2 σ li ln := ⟨hh.ne, (List.getElem?_eq_some_iff.mp hi).1, (List.getElem?_eq_some_iff.mp hn).1⟩
  have hI := H.i
  have hN := H.n
  have z1 : 0 ≠ li := fun z => by rw [← z, hh.tab] at hi; cases hi
  have z2 : 0 ≠ ln := fun z => by rw [← z, hh.tab] at hn; cases hn
  have n1 := fun ρ => q2_new (σ := σ) (li := li) (ln := ln) (E := es) (F := fs) (K := [] ++ [Cell.dict es] ++ [Cell.dict fs]) [] (Nat.zero_le _) ρ rfl
  have n2 := fun ρ => q2_new (σ := σ) (li := li) (ln := ln) (E := es) (F := fs) (K := [] ++ [Cell.dict es] ++ [Cell.dict fs] ++ [Cell.list []]) [] (Nat.zero_le _) ρ rfl
  refine .of (b_seq (b_bind (b_bind (b_bind (b_bind rfl (b_call (q2_dictI H rfl))) (b_bind (b_bind (b_bind rfl (b_call (q2_dictN H rfl))) (b_bind (b_bind (b_bind rfl (n1 _)) (b_bind (b_bind (b_bind rfl (n2 _)) rfl) rfl)) rfl)) rfl)) rfl) rfl) rfl) ?_
  clear n1 n2
  refine fin_use (κ := Str × List V) (fun k => [some (.loc li), some (.loc ln), some (stmV t), some (.loc (σ.length + 0)), some (.loc (σ.length + 1)), some (.loc (σ.length + 2)), some (.loc (σ.length + 3)), some (.str k.1), some (.str k.1), none, none, none, none, none, none]) (fun k => q2 σ li ln (outS es fs t).1 (outS es fs t).2 [Cell.dict (outS es fs t).1, Cell.dict (outS es fs t).2, Cell.list k.2, Cell.list k.2]) (fun k => Strs k.2) ?fin fun fin => ?split
  case fin =>
    rintro ⟨x, S⟩ hS
    dsimp only at hS ⊢
    have e1 : ∀ τ, vcmpS .Eq (.str x) (.str x) τ = some true := fun τ => congrArg some (beq_self_eq_true x)
    have e2 : vcmpS .Eq (.loc (σ.length + 0)) (.loc li) (q2 σ li ln (outS es fs t).1 (outS es fs t).2 [Cell.dict (outS es fs t).1, Cell.dict (outS es fs t).2, Cell.list S, Cell.list S]) = some true := eqd (q2_g.trans rfl) (q2_i H) (deq_self wO.keysE fun p hp => by
      obtain ⟨g, e⟩ := wO.mE hp
      rw [e]; exact congrArg some (beq_self_eq_true g))
    have e3 : vcmpS .Eq (.loc (σ.length + 1)) (.loc ln) (q2 σ li ln (outS es fs t).1 (outS es fs t).2 [Cell.dict (outS es fs t).1, Cell.dict (outS es fs t).2, Cell.list S, Cell.list S]) = some true := eqd (q2_g.trans rfl) (q2_n H) (deq_self wO.keysF fun p hp => by
      obtain ⟨g, e⟩ := wO.mF hp
      rw [e]; exact congrArg some (beq_self_eq_true g))
    have e4 : vcmpS .Eq (.loc (σ.length + 2)) (.loc (σ.length + 3)) (q2 σ li ln (outS es fs t).1 (outS es fs t).2 [Cell.dict (outS es fs t).1, Cell.dict (outS es fs t).2, Cell.list S, Cell.list S]) = some true := eql (q2_g.trans rfl) (q2_g.trans rfl) (eqL_self hS)
    exact .retG (b_bind (b_bind (b_bind rfl (b_bind rfl (b_bind (b_sto (e1 _)) rfl))) (b_iet (b_lift rfl) rfl (b_bind (b_bind rfl (b_bind rfl (b_bind (b_sto e2) rfl))) (b_iet (b_lift rfl) rfl (b_bind (b_bind rfl (b_bind rfl (b_bind (b_sto e3) rfl))) (b_iet (b_lift rfl) rfl (b_bind rfl (b_bind rfl (b_bind (b_sto e4) rfl))))))))) rfl)
  case split =>
  have hpl : ∀ (K : Sto), Sto.pl K = true → Sto.pl (q2 σ li ln (outS es fs t).1 (outS es fs t).2 K) = true := fun K hK => pl_app (pl_set (pl_set hh.pl wO.plE) wO.plF) hK
  have hplK : ∀ S, Strs S → Sto.pl [Cell.dict (outS es fs t).1, Cell.dict (outS es fs t).2, Cell.list S, Cell.list S] = true := fun S hS => by
    simp only [Sto.pl, List.all_cons, List.all_nil, wO.plE, wO.plF, hS.pl, Bool.and_self]
  have htab : ∀ E F K, (q2 σ li ln E F K)[0]? = some (.tab qLam) := fun E F K => q2_o hh.tab z1 z2
  have hl : ∀ (E F : List (Str × V)) (a b c d : Cell) (i : Nat), i < 4 → σ.length + i < (q2 σ li ln E F [a, b, c, d]).length := fun E F a b c d i h => by rw [q2_len]; exact Nat.add_lt_add_left h _
  have hst := stmV_pl t
  have hrho : Loc.pl [some (.loc li), some (.loc ln), some (stmV t), some (.loc (σ.length + 0)), some (.loc (σ.length + 1)), some (.loc (σ.length + 2)), some (.loc (σ.length + 3)), none, none, none, none, none, none, none, none] = true := by
    simp only [Loc.pl, List.all_cons, List.all_nil, V.pl, hst, Bool.and_self]
  have hov : ∀ o, (overV o).pl = true := fun o => by simp only [overV, V.pl]
  have hok := hh.ok
  have hwd := hh.wd
  cases t with
  | str st =>
    have hok : StrGood ks js es fs st := hok
    have a1 := sdue_of (q2_i (E := es) (F := fs) (K := [Cell.dict es, Cell.dict fs, Cell.list [], Cell.list []]) H) (q2_n H) H.a hok.ok hwd.keysE hwd.keysF
    rw [q2_seti H, q2_setn H] at a1
    have a2 := strwith_of (li := σ.length + 0) (ln := σ.length + 1) (ls := σ.length + 2) (σ := q2 σ li ln (outS es fs (.str st)).1 (outS es fs (.str st)).2 [Cell.dict es, Cell.dict fs, Cell.list [], Cell.list []]) (q2_g.trans rfl) (q2_g.trans rfl) (by lia) hok.ok
    rw [q2_setg, q2_setg] at a2
    have a3 := switch_of (ρ := [some (.loc li), some (.loc ln), some (stmV (.str st)), some (.loc (σ.length + 0)), some (.loc (σ.length + 1)), some (.loc (σ.length + 2)), some (.loc (σ.length + 3)), none, none, none, none, none, none, none, none]) (htab _ _ _) (hl _ _ _ _ _ _ 0 (by decide)) (hl _ _ _ _ _ _ 1 (by decide)) (hl _ _ _ _ _ _ 2 (by decide)) a2 (hpl _ (hplK [] fun _ h => nomatch h)) hrho (hov _)
    have hS : ∀ τ, vcmpS .Eq (.str (Str.ofString "string")) (.str (Str.ofString "string")) τ = some true := fun τ => congrArg some (beq_self_eq_true _)
    exact .of (b_seq (b_ift (b_bind (b_bind rfl (b_bind rfl (b_sto rfl))) (b_bind rfl (b_sto (hS _)))) rfl (b_seq (b_bind (b_bind (b_bind (b_bind rfl (b_call a1)) (b_bind (b_bind (b_bind rfl (b_bind rfl a3)) rfl) rfl)) rfl) (b_bind (b_lift rfl) (b_bind rfl rfl))) rfl)) rfl) (fin (_, []) fun _ h => nomatch h)
  | un u =>
    have hok : UnOk ks js es fs u (msO es u) (bO fs u.ptr) := hok
    have a1 := udue_of (li := li) (ln := ln) (ls := σ.length + 3) (sn := []) (q2_i (E := es) (F := fs) (K := [Cell.dict es, Cell.dict fs, Cell.list [], Cell.list []]) H) (q2_n H) (q2_g.trans rfl) H.a (Nat.zero_le _) hok
    unfold st3 at a1
    rw [q2_seti H, q2_setn H, q2_setg] at a1
    have a2 := unwith_of (li := σ.length + 0) (ln := σ.length + 1) (ls := σ.length + 2) (sn := []) (σ := q2 σ li ln (outS es fs (.un u)).1 (outS es fs (.un u)).2 [Cell.dict es, Cell.dict fs, Cell.list [], Cell.list (unT es fs [] u (msO es u) (bO fs u.ptr)).sn]) (q2_g.trans rfl) (q2_g.trans rfl) (q2_g.trans rfl) (by lia) (Nat.zero_le _) hok
    unfold st3 at a2
    rw [q2_setg, q2_setg, q2_setg] at a2
    have hSS : Strs (unT es fs [] u (msO es u) (bO fs u.ptr)).sn := layAll_strs ((Strs.app (a := []) (fun _ h => nomatch h) (seenT_strs _)).app (seenK_strs _))
    have a3 := switch_of (ρ := [some (.loc li), some (.loc ln), some (stmV (.un u)), some (.loc (σ.length + 0)), some (.loc (σ.length + 1)), some (.loc (σ.length + 2)), some (.loc (σ.length + 3)), none, none, none, none, none, none, none, none]) (htab _ _ _) (hl _ _ _ _ _ _ 0 (by decide)) (hl _ _ _ _ _ _ 1 (by decide)) (hl _ _ _ _ _ _ 2 (by decide)) a2 (hpl _ (hplK _ hSS)) hrho (hov _)
    have hS : ∀ τ, vcmpS .Eq (.str (Str.ofString "unstring")) (.str (Str.ofString "string")) τ = some false := fun τ => congrArg some ((str_beq _ _).trans (decide_eq_false (by decide)))
    exact .of (b_seq (b_iff (b_bind (b_bind rfl (b_bind rfl (b_sto rfl))) (b_bind rfl (b_sto (hS _)))) rfl (b_seq (b_bind (b_bind (b_bind (b_bind rfl (b_call a1)) (b_bind (b_bind (b_bind rfl (b_bind rfl a3)) rfl) rfl)) rfl) (b_bind (b_lift rfl) (b_bind rfl rfl))) rfl)) rfl) (fin (_, _) hSS)
noncomputable def ksL : List Str := [Str.ofString "S", Str.ofString "U", Str.ofString "V", Str.ofString "G", Str.ofString "M"]
noncomputable def jsL : List Str := [Str.ofString "P", Str.ofString "T", Str.ofString "K", Str.ofString "L"]
noncomputable def tabE (s u v g m : List UInt8) : List (Str × V) := [(Str.ofString "S", .bytes s), (Str.ofString "U", .bytes u), (Str.ofString "V", .bytes v), (Str.ofString "G", .bytes g), (Str.ofString "M", .bytes m)]
noncomputable def tabF (p t k l : Int) : List (Str × V) := [(Str.ofString "P", .int p), (Str.ofString "T", .int t), (Str.ofString "K", .int k), (Str.ofString "L", .int l)]
theorem ksL_nd : ksL.Nodup := by simp [ksL, str_eq]
theorem jsL_nd : jsL.Nodup := by simp [jsL, str_eq]
theorem tab_wd {s u v g m : List UInt8} {p t k l : Int} (h1 : s.length ≤ 1000) (h2 : u.length ≤ 1000) (h3 : v.length ≤ 1000) (h4 : g.length ≤ 1000) (h5 : m.length ≤ 1000) : Wd ksL jsL (tabE s u v g m) (tabF p t k l) := by
  have kE : Keys (tabE s u v g m) := ksL_nd
  have kF : Keys (tabF p t k l) := jsL_nd
  refine ⟨rfl, rfl, fun x hx => ?_, fun x hx => ?_, ksL_nd, jsL_nd, Nat.le_of_ble_eq_true rfl, Nat.le_of_ble_eq_true rfl⟩
  · have hx : x ∈ (tabE s u v g m).map (·.1) := hx
    obtain ⟨q, hq, rfl⟩ := List.mem_map.mp hx
    have hv := val_mem kE hq
    simp only [tabE, List.mem_cons, List.not_mem_nil, or_false] at hq
    rcases hq with rfl | rfl | rfl | rfl | rfl
    · exact ⟨_, hv, h1⟩
    · exact ⟨_, hv, h2⟩
    · exact ⟨_, hv, h3⟩
    · exact ⟨_, hv, h4⟩
    · exact ⟨_, hv, h5⟩
  · have hx : x ∈ (tabF p t k l).map (·.1) := hx
    obtain ⟨q, hq, rfl⟩ := List.mem_map.mp hx
    have hv := val_mem kF hq
    simp only [tabF, List.mem_cons, List.not_mem_nil, or_false] at hq
    rcases hq with rfl | rfl | rfl | rfl <;> exact ⟨_, hv⟩
section
variable {es fs : List (Str × V)}
theorem oct_in (w : Wd ksL jsL es fs) {o : Opd} (h : OpdIn nmL o) : ∃ b, octOf es o = some b ∧ b.length ≤ 1000 := by
  rcases h with ⟨b, rfl, hb⟩ | rfl | rfl | ⟨x, hx, rfl⟩
  · exact ⟨b, rfl, Nat.le_trans hb (by decide)⟩
  · exact ⟨_, rfl, by decide⟩
  · exact ⟨_, rfl, by decide⟩
  · have hk : x ∈ ksL := by
      simp only [nmL, List.mem_cons, List.not_mem_nil, or_false] at hx
      rcases hx with rfl | rfl | rfl <;> simp [ksL]
    obtain ⟨h1, h2⟩ := w.item hk
    exact ⟨_, (vo_of h1).trans rfl, h2⟩
theorem oct_mark (w : Wd ksL jsL es fs) (hM : (itemB es (Str.ofString "M")).length = 1) {m : Opd} (h : m ∈ markL) : ∃ c, octOf es m = some [c] := by
  simp only [markL, List.mem_cons, List.not_mem_nil, or_false] at h
  rcases h with rfl | rfl | rfl | rfl
  · exact ⟨_, rfl⟩
  · exact ⟨_, rfl⟩
  · obtain ⟨h1, _⟩ := w.item (x := Str.ofString "M") (by simp [ksL])
    obtain ⟨c, hc⟩ := len1 hM
    rw [hc] at h1
    exact ⟨c, (vo_of h1).trans rfl⟩
  · exact ⟨_, rfl⟩
theorem pieces_in (w : Wd ksL jsL es fs) (hM : (itemB es (Str.ofString "M")).length = 1) : ∀ {rows : List (Opd × Option Opd)}, (∀ r ∈ rows, RowIn r) → ∃ ps, piecesOf es rows = some ps ∧ ∀ p ∈ ps, p.1.length ≤ 1000
  | [], _ => ⟨[], rfl, fun _ h => nomatch h⟩
  | (o, d) :: rows, h => by
    obtain ⟨h1, h2⟩ := h _ (List.mem_cons_self ..)
    obtain ⟨b, e1, e2⟩ := oct_in w h1
    obtain ⟨ps, e3, e4⟩ := pieces_in w hM fun r hr => h r (List.mem_cons_of_mem _ hr)
    have hp : ∃ d', pieceOf es (o, d) = some (b, d') := by
      cases d with
      | none => exact ⟨_, (vo_of e1).trans rfl⟩
      | some m =>
        obtain ⟨c, e5⟩ := oct_mark w hM (h2 m rfl)
        exact ⟨_, (vo_of e1).trans ((vo_of e5).trans rfl)⟩
    obtain ⟨d', hp⟩ := hp
    refine ⟨(b, d') :: ps, (vo_of hp).trans ((vo_of e3).trans rfl), fun p hp => ?_⟩
    rcases List.mem_cons.mp hp with rfl | hp
    · exact e2
    · exact e4 p hp
theorem marks_in (w : Wd ksL jsL es fs) (hM : (itemB es (Str.ofString "M")).length = 1) : ∀ {marks : List (Opd × Bool)}, (∀ m ∈ marks, m.1 ∈ markL) → ∃ ms, marksD es marks = some ms
  | [], _ => ⟨[], rfl⟩
  | m :: marks, h => by
    obtain ⟨c, e1⟩ := oct_mark w hM (h _ (List.mem_cons_self ..))
    obtain ⟨ms, e2⟩ := marks_in w hM fun r hr => h r (List.mem_cons_of_mem _ hr)
    exact ⟨_, (vo_of e1).trans ((vo_of (k := fun r => some ((c, m.2) :: r)) e2))⟩
theorem opt_in {x y : Str} {ptr : Option Str} (hx : x ∈ jsL) (h : ptr ∈ optL x) (e : ptr = some y) : y ∈ jsL := by
  subst e
  simp only [optL, List.mem_cons, List.not_mem_nil, or_false, reduceCtorEq, false_or, Option.some.injEq] at h
  exact h ▸ hx
theorem pos_in (w : Wd ksL jsL es fs) {x : Str} {ptr : Option Str} (hx : x ∈ jsL) (h : ptr ∈ optL x) : posOf fs ptr = some (bO fs ptr) := by
  cases ptr with
  | none => rfl
  | some y =>
    have hv := w.num (opt_in hx h rfl)
    have : posOf fs (some y) = some (numI fs y) := (vo_of hv).trans rfl
    unfold bO
    rw [this]; rfl
theorem str_in (w : Wd ksL jsL es fs) (hM : (itemB es (Str.ofString "M")).length = 1) {st : SStm} (h : StrIn st) : StmOk ksL jsL es fs (.str st) := by
  obtain ⟨ps, h1, h2⟩ := pieces_in w hM h.rows
  have hP : Str.ofString "P" ∈ jsL := List.mem_cons_self ..
  have hg : st.goal ∈ ksL := by
    have := h.goal
    simp only [guL, List.mem_cons, List.not_mem_nil, or_false] at this
    rcases this with e | e <;> rw [e] <;> simp [ksL]
  obtain ⟨g1, g2⟩ := w.item hg
  have hps : psO es st = ps := by unfold psO; rw [h1]; rfl
  exact ⟨⟨by rw [hps]; exact h1, g1, pos_in w hP h.ptr, by rw [hps]; exact h2, g2, Nat.le_trans h.rl (by decide), w.el, w.fl⟩, hg, fun x e => opt_in hP h.ptr e⟩
theorem un_in (w : Wd ksL jsL es fs) (hM : (itemB es (Str.ofString "M")).length = 1) {u : UStm} (h : UnIn u) : StmOk ksL jsL es fs (.un u) := by
  obtain ⟨ms, h1⟩ := marks_in w hM h.marks
  have hP : Str.ofString "P" ∈ jsL := List.mem_cons_self ..
  have hT : Str.ofString "T" ∈ jsL := List.mem_cons_of_mem _ (List.mem_cons_self ..)
  have hms : msO es u = ms := by unfold msO; rw [h1]; rfl
  show UnOk ksL jsL es fs u (msO es u) (bO fs u.ptr)
  refine ⟨w, by rw [h.src]; exact List.mem_cons_self .., by rw [hms]; exact h1, pos_in w hP h.ptr, fun x e => opt_in hP h.ptr e, fun x e => opt_in hT h.tal e, fun r hr => ?_, Nat.le_trans h.rl (by decide), Nat.le_trans h.ml (by decide), fun x hx => ?_⟩
  · have := h.rows r hr
    simp only [goalsL, List.mem_cons, List.not_mem_nil, or_false] at this
    rcases this with rfl | rfl | rfl | rfl | rfl <;> refine ⟨by simp [ksL], fun k e => ?_, fun c e => ?_⟩ <;> cases e <;> simp [ksL, jsL]
  · simp only [ksL, List.mem_cons, List.not_mem_nil, or_false] at hx
    rcases hx with rfl | rfl | rfl | rfl | rfl <;> exact Nat.le_of_ble_eq_true (by decide +kernel)
end
noncomputable def u1 : UStm := ⟨Str.ofString "S", [(.text [44], true)], [(Str.ofString "U", some (Str.ofString "M"), some (Str.ofString "K"))], some (Str.ofString "P"), some (Str.ofString "T")⟩
noncomputable def st1 : SStm := ⟨[(.ref (Str.ofString "S"), some (.text [44])), (.zero, none)], Str.ofString "G", none⟩
theorem u1_in : UnIn u1 := ⟨rfl, fun x h => by
  obtain rfl := List.mem_singleton.mp h
  exact List.mem_cons_self .., by decide, fun x h => by
  obtain rfl := List.mem_singleton.mp h
  exact List.mem_cons_self .., by decide, List.mem_cons_of_mem _ (List.mem_cons_self ..), List.mem_cons_of_mem _ (List.mem_cons_self ..)⟩
theorem st1_in : StrIn st1 := by
  refine ⟨fun x h => ?_, by decide, List.mem_cons_self .., List.mem_cons_self ..⟩
  simp only [st1, List.mem_cons, List.not_mem_nil, or_false] at h
  rcases h with rfl | rfl
  · exact ⟨.inr (.inr (.inr ⟨_, List.mem_cons_self .., rfl⟩)), fun m e => by cases e; exact List.mem_cons_self ..⟩
  · exact ⟨.inr (.inr (.inl rfl)), fun m e => nomatch e⟩
theorem out1 : outS (tabE [65, 44, 44, 66, 32, 48] [117, 117] [118, 118, 118] [46, 46, 46, 46] [44]) (tabF 2 7 5 5) (.un u1) = (tabE [65, 44, 44, 66, 32, 48] [95, 95] [118, 118, 118] [46, 46, 46, 46] [44], tabF 4 8 0 5) := by kernel_rfl
theorem out2 : outS (tabE [65, 44, 44, 66, 32, 48] [95, 95] [118, 118, 118] [46, 46, 46, 46] [44]) (tabF 4 8 0 5) (.str st1) = (tabE [65, 44, 44, 66, 32, 48] [95, 95] [118, 118, 118] [65, 48, 46, 46] [44], tabF 4 8 0 5) := by kernel_rfl
section
variable {σ G : Sto}
theorem g_get {i : Nat} : (σ ++ G)[σ.length + i]? = G[i]? := by rw [List.getElem?_append_right (Nat.le_add_right ..), Nat.add_sub_cancel_left]
theorem g_set {i : Nat} (c : Cell) : (σ ++ G).set (σ.length + i) c = σ ++ G.set i c := by rw [List.set_append_right _ _ (Nat.le_add_right ..), Nat.add_sub_cancel_left]
theorem g_dict {es : List (Str × V)} (h : es.length ≤ 15 ∧ (es.map (·.1)).Nodup) (ρ : Loc) {k : Nat} (hk : G.length = k) : pdict es ρ (σ ++ G) = some (.loc (σ.length + k), ρ, σ ++ (G ++ [.dict es])) := by
  rw [b_dict h, List.length_append, hk, List.append_assoc]
end
noncomputable def gst (σ : Sto) (ns : List Int) (E F : List (Str × V)) (s : Int × Int) (K : Sto) : Sto := σ ++ (.dict E :: .dict F :: .dict (tabF 4 8 0 5) :: .list (ns.map .int) :: .list (ns.map .int) :: penC (σ.length + 4) s :: K)
section
variable {σ K : Sto} {ns : List Int} {E F : List (Str × V)} {s : Int × Int}
theorem gst_pen : PenAt (gst σ ns E F s K) (σ.length + 5) (σ.length + 4) ns s := ⟨g_get.trans rfl, g_get.trans rfl, by lia⟩
theorem gst_set (s' : Int × Int) : (gst σ ns E F s K).set (σ.length + 5) (penC (σ.length + 4) s') = gst σ ns E F s' K := g_set _
theorem gst_i : (gst σ ns E F s K)[σ.length + 0]? = some (.dict E) := g_get.trans rfl
theorem gst_n : (gst σ ns E F s K)[σ.length + 1]? = some (.dict F) := g_get.trans rfl
theorem gst_k {i : Nat} : (gst σ ns E F s K)[σ.length + (i + 6)]? = K[i]? := g_get.trans rfl
theorem gst_seti (E' : List (Str × V)) : (gst σ ns E F s K).set (σ.length + 0) (.dict E') = gst σ ns E' F s K := g_set _
theorem gst_setn (F' : List (Str × V)) : (gst σ ns E F s K).set (σ.length + 1) (.dict F') = gst σ ns E F' s K := g_set _
theorem gst_app (c : Cell) : gst σ ns E F s K ++ [c] = gst σ ns E F s (K ++ [c]) := List.append_assoc ..
theorem gst_len : (gst σ ns E F s K).length = σ.length + (K.length + 6) := List.length_append ..
theorem gst_draw {N m : Int} (hs : PenOk N s) (hN : N ≤ 100000) (h1 : 0 < m) (h2 : m ≤ 1000) : s_draw [.loc (σ.length + 5), .int m] (gst σ ns E F s K) = some (.int (drawS ns m s).1, gst σ ns E F (drawS ns m s).2 K) := by
  rw [draw_of gst_pen (hs.le hN) h1 h2, gst_set]
theorem gst_str {N : Int} (hs : PenOk N s) (hN : N ≤ 80000) : s_lstring [.loc (σ.length + 5)] (gst σ ns E F s K) = some (stmV (.str (strStm ns s).1), gst σ ns E F (strStm ns s).2 K) := by
  rw [← gst_set (strStm ns s).2]
  exact (pen_of (k := stringK (gst σ ns E F s K) (σ.length + 5)) gst_pen).trans (iff_pos (hs.le hN))
theorem gst_un {N : Int} (hs : PenOk N s) (hN : N ≤ 80000) : s_lunstring [.loc (σ.length + 5)] (gst σ ns E F s K) = some (stmV (.un (unStm ns s).1), gst σ ns E F (unStm ns s).2 K) := by
  rw [← gst_set (unStm ns s).2]
  exact (pen_of (k := unstringK (gst σ ns E F s K) (σ.length + 5)) gst_pen).trans (iff_pos (hs.le hN))
theorem gst_pl (h : Sto.pl σ = true) (w : Wd ksL jsL E F) (hk : Sto.pl K = true) : Sto.pl (gst σ ns E F s K) = true := by
  have hI : V.plAll (ns.map .int) = true := map_pl (fun i => by simp [V.pl]) ns
  have hF : (Cell.dict (tabF 4 8 0 5)).pl = true := (tab_wd (s := []) (u := []) (v := []) (g := []) (m := []) (by decide) (by decide) (by decide) (by decide) (by decide)).plF
  have hL : (Cell.list (ns.map .int)).pl = true := hI
  have hP : (penC (σ.length + 4) s).pl = true := by simp [penC, Cell.pl, V.pl, V.plAll]
  refine pl_app h ?_
  unfold Sto.pl at hk
  simp only [Sto.pl, List.all_cons, w.plE, w.plF, hF, hk, hL, hP, Bool.and_self]
theorem gst_done {t : Stm} (ht : σ[0]? = some (.tab qLam)) (h : Sto.pl σ = true) (w : Wd ksL jsL E F) (hk : Sto.pl K = true) (ok : StmOk ksL jsL E F t) : s_done [.loc (σ.length + 0), .loc (σ.length + 1), stmV t] (gst σ ns E F s K) = some (.bool true, gst σ ns (outS E F t).1 (outS E F t).2 s K) := by
  rw [done_of gst_i gst_n ⟨w, ok, by lia, get_leftG ht, gst_pl h w hk⟩, gst_seti, gst_setn]
end
section
variable {σ K : Sto} {ns : List Int} {E F : List (Str × V)} {s : Int × Int}
theorem gst_pickB {N : Int} {b : List UInt8} (hs : PenOk N s) (hN : N ≤ 100000) (h1 : b ≠ []) (h2 : b.length ≤ 1000) : s_pick [.loc (σ.length + 5), .bytes b] (gst σ ns E F s K) = some (.int ((pickS ns b 0 s).1.toNat : Nat), gst σ ns E F (pickS ns b 0 s).2 K) := by
  rw [pick_ofB gst_pen (hs.le hN) h1 h2, gst_set]
theorem gst_pickI {N : Int} {is : List Int} (hs : PenOk N s) (hN : N ≤ 100000) (h1 : is ≠ []) (h2 : is.length ≤ 1000) : s_pick [.loc (σ.length + 5), .loc (σ.length + (K.length + 6))] (gst σ ns E F s (K ++ [Cell.list (is.map .int)])) = some (.int (pickS ns is 0 s).1, gst σ ns E F (pickS ns is 0 s).2 (K ++ [Cell.list (is.map .int)])) := by
  rw [pick_ofL gst_pen (hs.le hN) (gst_k.trans (get_last ..)) (by lia) (fun z => h1 (List.map_eq_nil_iff.mp z)) (by rw [List.length_map]; exact h2), gst_set, pick_map (d := 0) V.int .none h1 hs]
theorem gst_new (ds : List V) (hl : ds.length ≤ 1000000) (ρ : Loc) : plist ds ρ (gst σ ns E F s K) = some (.loc (σ.length + (K.length + 6)), ρ, gst σ ns E F s (K ++ [Cell.list ds])) := by
  rw [b_list hl, gst_app, gst_len]
theorem gst_append {xs ys : List V} {d : V} (h2 : xs.length < 1000000) (h : xs ++ [d] = ys) : s_append [.loc (σ.length + 6), d] (gst σ ns E F s [Cell.list xs]) = some (.none, gst σ ns E F s [Cell.list ys]) := by
  rw [append_of (gst_k (i := 0)) h2, h]
  congr 2
  exact g_set _
theorem gst_itE {x : Str} {d : V} (w : Wd ksL jsL E F) (ρ : Loc) : psetItem (.loc (σ.length + 0)) (.str x) d ρ (gst σ ns E F s K) = some ((), ρ, gst σ ns (dset E x d) F s K) := by
  rw [b_setD gst_i w.el, gst_seti]
theorem gst_itF {x : Str} {d : V} (w : Wd ksL jsL E F) (ρ : Loc) : psetItem (.loc (σ.length + 1)) (.str x) d ρ (gst σ ns E F s K) = some ((), ρ, gst σ ns E (dset F x d) s K) := by
  rw [b_setD gst_n w.fl, gst_setn]
end
noncomputable def sL6 : List UInt8 := [65, 44, 44, 32, 66, 48]
noncomputable def s_law : Spec := fun ds σ => a1 ds fun x => vIL x fun ns => iff' (ns.length ≤ 1000 ∧ σ[0]? = some (.tab qLam) ∧ Sto.pl σ = true) (some (.bool true, σ))
abbrev LwI : Type := List (Str × V) × List (Str × V) × Nat × Int × (Int × Int) × Option V × Option V × Sto
noncomputable def lwL (σ : Sto) (ns0 : List Int) (x y : Option V) : Loc := [some (.ilist ns0), some (.loc (σ.length + 0)), some (.loc (σ.length + 1)), some (.tup [.tup [.tup [.str (Str.ofString "text"), .bytes [44]], .bool true]]), some (stmV (.str st1)), some (.loc (σ.length + 5)), x, y, none, none, none, none, none, none, none, none, none, none]
abbrev lwW (i : LwI) : Prop := Wd ksL jsL i.1 i.2.1 ∧ (itemB i.1 (Str.ofString "M")).length = 1 ∧ PenOk (1000 - 100 * i.2.2.1) i.2.2.2.2.1 ∧ Sto.pl i.2.2.2.2.2.2.2 = true ∧ i.2.2.1 ≤ 5
theorem t_law {prog : Program} : TopOk prog KK 10 (.ref 291) s_law := by
  refine' defTop (f := 291) ["script"] 17 (by intro P; k_is) (by intro P; k_is) (bind1 fun _ => rfl) ?body (Runs.meets ⟨fun ds σ hu hd => Sat.a1 fun x e1 => .IL fun ns0 e2 => .iff' fun ⟨hl, htab, hpl⟩ => .ok ?_⟩) (by decide +kernel) rfl rfl rfl
  case body => conv => { arg 4; whnf }; conv => { arg 5; whnf }; repeat' (with_reducible show (_ : Prop); first
   | (show JE _ _ _ _ (Expr.Name _ _) _; first | refine' W_local (by first | ((repeat first | exact At.here | apply At.there); done) | fail) (by decide +kernel) (by decide +kernel) | refine' W_cell (by first | ((repeat first | exact At.here | apply At.there); done) | fail) (by decide +kernel) (by decide +kernel))
   | (show JE _ _ _ _ (Expr.Constant _ _ _) _; first | exact JE_int _ | exact JE_str _ | exact JE_none | exact JE_bool _ | refine' JE_bytes _ (by decide))
   | (show JE _ _ _ _ (Expr.Call _ _ _ _) _; first | refine' W_callB (by first | ((repeat first | exact At.here | apply At.there); done) | fail) (by intro P; k_is) (by first | exact PySem.boot_len | fail) (by decide +kernel) (by decide +kernel) (by first | exact cLen | fail) ?_ (by intro _; with_unfolding_all rfl) (by intro _; with_unfolding_all rfl) | refine' W_callT (by first | ((repeat first | exact At.here | apply At.there); done) | fail) (by intro P; k_is) (by first | exact boot_range | exact boot_bytes | fail) (by decide +kernel) (by decide +kernel) (by first | exact cBytes | exact cRange | fail) ?_ (by intro _; with_unfolding_all rfl) (by intro _; with_unfolding_all rfl) | refine' W_call (by first | ((repeat first | exact At.here | apply At.there); done) | fail) (by intro P; k_is) (by decide +kernel) (by intro P; k_is) (by first | exact callOk_le d_done (by decide) | exact callOk_le d_draw (by decide) | exact callOk_le d_lstring (by decide) | exact callOk_le d_lunstring (by decide) | exact callOk_le d_pen (by decide) | exact callOk_le d_pick (by decide) | exact callOk_le d_ref (by decide) | fail) ?_ (by intro _; with_unfolding_all rfl) (by intro _; with_unfolding_all rfl))
   | (show JE _ _ _ _ _ _; first | refine' JE_bin ?_ ?_ | refine' JE_sub ?_ ?_ (by intro _ _; with_unfolding_all rfl) | refine' JE_tuple ?_ | refine' JE_list ?_ | refine' JE_if ?_ ?_ ?_ | refine' JE_comp ?_ ?_ ?_ ?_ ?_ (by decide +kernel) (by intro _ _; with_unfolding_all rfl) | refine' JE_dict ?_ (by with_unfolding_all rfl) (by with_unfolding_all rfl) (List.cons_ne_nil _ _) (by decide +kernel))
   | exact JA_nil
   | refine' JA_cons ?_ ?_ (by intro _; with_unfolding_all rfl)
   | exact JXs_nil
   | refine' JXs_cons ?_ ?_
   | (show JX _ _ _ _ (Stmt.Assign _ _ _) _; first | refine' W_store ?_ (by first | ((repeat first | exact At.here | apply At.there); done) | fail) (by intro _; with_unfolding_all rfl) | refine' W_storeC ?_ (by first | ((repeat first | exact At.here | apply At.there); done) | fail) (by intro _; with_unfolding_all rfl) | refine' JX_setItem ?_ ?_ ?_ (by intro _; with_unfolding_all rfl) | refine' W_swap2 ?_ (by first | ((repeat first | exact At.here | apply At.there); done) | fail) (by first | ((repeat first | exact At.here | apply At.there); done) | fail) (by intro _; with_unfolding_all rfl) (by intro env O; obtain ⟨scp, b, c, d, e, f, g, h, i⟩ := env; have hs := O.scp; dsimp only at hs; subst hs; with_unfolding_all rfl))
   | (show JX _ _ _ _ _ _; first | refine' JX_return ?_ | refine' JX_if ?_ ?_ ?_ | refine' JX_for ?_ ?_ ?_ (by intro _ _; with_unfolding_all rfl))
   | (show JT _ _ _ _ _ _; first | refine' JT_cmpS ?_ ?_ (by with_unfolding_all rfl) | refine' JT_not ?_ | refine' JT_bool ?_ | refine' JT_val ?_ (by intro _ _; with_unfolding_all rfl))
   | (show JS _ _ _ _ _ _; refine' JS_local (by first | ((repeat first | exact At.here | apply At.there); done) | fail))
   | refine' JB_or ?_ ?_
   | exact JB_orNil
   | exact Cap.nil
   | refine' Cap.loc ?_
   | refine' Cap.glob ?_
   | refine' Cap.cell (by first | ((repeat first | exact At.here | apply At.there); done) | fail) ?_
   | exact JI_nil
   | exact JD_nil
   | refine' JD_cons ?_ ?_)
  subst e1 e2
  refine .keep rfl hu trivial (.start (List.append_nil σ).symm ?_)
  have w0 := tab_wd (s := [65, 44, 44, 66, 32, 48]) (u := [117, 117]) (v := [118, 118, 118]) (g := [46, 46, 46, 46]) (m := [44]) (p := 2) (t := 7) (k := 5) (l := 5) (by decide) (by decide) (by decide) (by decide) (by decide)
  have w1 := tab_wd (s := [65, 44, 44, 66, 32, 48]) (u := [95, 95]) (v := [118, 118, 118]) (g := [46, 46, 46, 46]) (m := [44]) (p := 4) (t := 8) (k := 0) (l := 5) (by decide) (by decide) (by decide) (by decide) (by decide)
  have w2 := tab_wd (s := [65, 44, 44, 66, 32, 48]) (u := [95, 95]) (v := [118, 118, 118]) (g := [65, 48, 46, 46]) (m := [44]) (p := 4) (t := 8) (k := 0) (l := 5) (by decide) (by decide) (by decide) (by decide) (by decide)
  have d1 := fun ρ => g_dict (σ := σ) (G := []) (es := tabE [65, 44, 44, 66, 32, 48] [117, 117] [118, 118, 118] [46, 46, 46, 46] [44]) ⟨Nat.le_of_ble_eq_true rfl, w0.keysE⟩ ρ rfl
  have d2 := fun ρ => g_dict (σ := σ) (G := [] ++ [Cell.dict (tabE [65, 44, 44, 66, 32, 48] [117, 117] [118, 118, 118] [46, 46, 46, 46] [44])]) (es := tabF 2 7 5 5) ⟨Nat.le_of_ble_eq_true rfl, w0.keysF⟩ ρ rfl
  have o1 := done_of (t := .un u1) (σ := σ ++ [Cell.dict (tabE [65, 44, 44, 66, 32, 48] [117, 117] [118, 118, 118] [46, 46, 46, 46] [44]), Cell.dict (tabF 2 7 5 5)]) (li := σ.length + 0) (ln := σ.length + 1) (g_get.trans rfl) (g_get.trans rfl) ⟨w0, un_in w0 (by kernel_rfl) u1_in, by lia, get_leftG htab, pl_app hpl (by simp only [Sto.pl, List.all_cons, List.all_nil, w0.plE, w0.plF, Bool.and_self])⟩
  rw [out1, g_set, g_set] at o1
  have v1 : vidx (.loc (σ.length + 0)) (.str (Str.ofString "U")) (σ ++ [Cell.dict (tabE [65, 44, 44, 66, 32, 48] [95, 95] [118, 118, 118] [46, 46, 46, 46] [44]), Cell.dict (tabF 4 8 0 5)]) = some (.bytes [95, 95]) := v_dict (g_get.trans rfl) (by kernel_rfl)
  have v2 : vidx (.loc (σ.length + 0)) (.str (Str.ofString "M")) (σ ++ [Cell.dict (tabE [65, 44, 44, 66, 32, 48] [95, 95] [118, 118, 118] [46, 46, 46, 46] [44]), Cell.dict (tabF 4 8 0 5)]) = some (.bytes [44]) := v_dict (g_get.trans rfl) (by kernel_rfl)
  have d3 := fun ρ => g_dict (σ := σ) (G := [Cell.dict (tabE [65, 44, 44, 66, 32, 48] [95, 95] [118, 118, 118] [46, 46, 46, 46] [44]), Cell.dict (tabF 4 8 0 5)]) (es := tabF 4 8 0 5) ⟨Nat.le_of_ble_eq_true rfl, w1.keysF⟩ ρ rfl
  have c1 : vcmpS .NotEq (.tup [.bytes [95, 95], .bytes [44], .loc (σ.length + 1)]) (.tup [.bytes [95, 95], .bytes [44], .loc (σ.length + 2)]) (σ ++ ([Cell.dict (tabE [65, 44, 44, 66, 32, 48] [95, 95] [118, 118, 118] [46, 46, 46, 46] [44]), Cell.dict (tabF 4 8 0 5)] ++ [Cell.dict (tabF 4 8 0 5)])) = some false := by
    have h3 : veqS (σ ++ ([Cell.dict (tabE [65, 44, 44, 66, 32, 48] [95, 95] [118, 118, 118] [46, 46, 46, 46] [44]), Cell.dict (tabF 4 8 0 5)] ++ [Cell.dict (tabF 4 8 0 5)])) (.loc (σ.length + 1)) (.loc (σ.length + 2)) = some true :=
      (if_neg (by lia)).trans ((sD_of (g_get.trans rfl)).trans ((sD_of (g_get.trans rfl)).trans (deq_self w1.keysF fun p hp => by
        obtain ⟨g, e⟩ := w1.mF hp
        rw [e]; exact congrArg some (beq_self_eq_true g))))
    show Option.map (!·) (andO (some ([95, 95] == ([95, 95] : List UInt8))) (andO (some ([44] == ([44] : List UInt8))) (andO (veqS _ (.loc (σ.length + 1)) (.loc (σ.length + 2))) (some true)))) = some false
    rw [h3]; rfl
  have o2 := done_of (t := .str st1) (σ := σ ++ [Cell.dict (tabE [65, 44, 44, 66, 32, 48] [95, 95] [118, 118, 118] [46, 46, 46, 46] [44]), Cell.dict (tabF 4 8 0 5), Cell.dict (tabF 4 8 0 5)]) (li := σ.length + 0) (ln := σ.length + 1) (g_get.trans rfl) (g_get.trans rfl) ⟨w1, str_in w1 (by kernel_rfl) st1_in, by lia, get_leftG htab, pl_app hpl (by simp only [Sto.pl, List.all_cons, List.all_nil, w1.plE, w1.plF, Bool.and_self])⟩
  rw [out2, g_set, g_set] at o2
  have v3 : vidx (.loc (σ.length + 0)) (.str (Str.ofString "G")) (σ ++ [Cell.dict (tabE [65, 44, 44, 66, 32, 48] [95, 95] [118, 118, 118] [65, 48, 46, 46] [44]), Cell.dict (tabF 4 8 0 5), Cell.dict (tabF 4 8 0 5)]) = some (.bytes [65, 48, 46, 46]) := v_dict (g_get.trans rfl) (by kernel_rfl)
  refine .of (b_seq (b_bind (b_bind (b_bind (b_bind rfl (d1 _)) (b_bind (b_bind (b_bind rfl (d2 _)) rfl) rfl)) rfl) (b_bind (b_lift rfl) (b_bind rfl rfl))) (b_seq rfl (b_seq rfl
    (b_seq (b_iff (b_ief (b_bind (b_bind (b_bind rfl (b_call o1)) (b_lift rfl)) rfl) rfl (b_ief (b_bind (b_bind (b_bind (b_bind rfl (b_bind rfl (b_sto v1))) (b_bind (b_bind (b_bind rfl (b_bind rfl (b_sto v2))) (b_bind rfl rfl)) rfl)) rfl) (b_bind (b_bind (b_bind rfl (b_bind (b_bind rfl (b_bind (b_bind (b_bind rfl (d3 _)) rfl) rfl)) rfl)) rfl) (b_sto c1))) rfl rfl)) rfl rfl)
    (b_seq rfl (b_seq (b_iff (b_ief (b_bind (b_bind (b_bind rfl (b_call o2)) (b_lift rfl)) rfl) rfl (b_ief (b_bind (b_bind rfl (b_bind rfl (b_sto v3))) (b_bind rfl (b_sto rfl))) rfl rfl)) rfl rfl) rfl)))))) ?_
  clear d1 d2 d3 o1 o2 c1 v1 v2 v3 w0 w1
  have hp : s_pen [.ilist ns0] (σ ++ [Cell.dict (tabE [65, 44, 44, 66, 32, 48] [95, 95] [118, 118, 118] [65, 48, 46, 46] [44]), Cell.dict (tabF 4 8 0 5), Cell.dict (tabF 4 8 0 5)]) = some (.loc (σ.length + 5), gst σ (ns0.take 48) (tabE [65, 44, 44, 66, 32, 48] [95, 95] [118, 118, 118] [65, 48, 46, 46] [44]) (tabF 4 8 0 5) (0, 0) []) := by
    refine (if_pos hl).trans ?_
    rw [List.length_append]
    simp only [List.append_assoc]
    rfl
  have hM : (itemB (tabE [65, 44, 44, 66, 32, 48] [95, 95] [118, 118, 118] [65, 48, 46, 46] [44]) (Str.ofString "M")).length = 1 := by kernel_rfl
  generalize tabE [65, 44, 44, 66, 32, 48] [95, 95] [118, 118, 118] [65, 48, 46, 46] [44] = E at *
  generalize ns0.take 48 = ns at hp
  have p0 : PenOk 0 ((0, 0) : Int × Int) := ⟨Int.le_refl _, Int.le_refl _, Int.le_refl _⟩
  have h12 := gst_draw (σ := σ) (ns := ns) (E := E) (F := tabF 4 8 0 5) (K := []) (m := 12) p0 (by decide) (by decide) (by decide)
  obtain ⟨⟨r1, r2⟩, t1⟩ := draw_range (ns := ns) (m := 12) (by decide) p0
  generalize drawS ns 12 (0, 0) = d at *
  obtain ⟨d1, s1⟩ := d
  dsimp only at r1 r2 t1 h12
  obtain ⟨q1, q2⟩ := picksS_ok (ns := ns) (b := sL6) (List.cons_ne_nil _ _) (1 + d1).toNat t1
  generalize hw : picksS ns sL6 (1 + d1).toNat s1 = w at *
  have hcm : pcompL (Src.rng 0 (1 + d1)).ok (pstore (0 + 1)) (pret true) (pbind (pbind (pvar (0 + 1 + 1 + 1)) fun a => pbind (pbind (pret (V.bytes [65, 44, 44, 32, 66, 48])) fun a => pbind (pret []) fun as => pret (a :: as)) fun as => pret (a :: as)) (pcall s_pick)) (σ.length + 6) [none, none, none, some (.loc (σ.length + 5))] (Src.rng 0 (1 + d1)).items (gst σ ns E (tabF 4 8 0 5) s1 [] ++ [Cell.list []]) = some (gst σ ns E (tabF 4 8 0 5) w.2 [Cell.list (byteV w.1)]) := by
    rw [rng_items, rng_ok, Int.sub_zero]
    refine cm_use (ι := List UInt8 × Nat × Int × Int × Int) (fun i => intsFrom i.2.2.1 i.2.1) (fun i => gst σ ns E (tabF 4 8 0 5) i.2.2.2 [Cell.list (byteV i.1)]) (fun i => PenOk (1 + i.1.length) i.2.2.2 ∧ w = (i.1 ++ (picksS ns sL6 i.2.1 i.2.2.2).1, (picksS ns sL6 i.2.1 i.2.2.2).2) ∧ i.1.length + i.2.1 ≤ 100) ([], (1 + d1).toNat, 0, s1) rfl (gst_app (Cell.list [])) ⟨t1, hw.symm, by dsimp only [List.length_nil]; lia⟩ ?_
    rintro ⟨dn, n, lo, s⟩ ⟨h1, h2, h5⟩
    dsimp only at h1 h2 h5
    cases n with
    | zero =>
      have h2 : w = (dn, s) := by rw [h2]; show (dn ++ [], s) = _; rw [List.append_nil]
      exact .nil rfl trivial (by rw [h2])
    | succ n =>
      have hpk := gst_pickB (σ := σ) (E := E) (F := tabF 4 8 0 5) (ns := ns) (K := [Cell.list (byteV dn)]) (b := sL6) h1 (by lia) (List.cons_ne_nil _ _) (Nat.le_of_ble_eq_true rfl)
      have hap := gst_append (σ := σ) (E := E) (F := tabF 4 8 0 5) (ns := ns) (s := (pickS ns sL6 0 s).2) (xs := byteV dn) (d := .int ((pickS ns sL6 0 s).1.toNat : Nat)) (ys := byteV (dn ++ [(pickS ns sL6 0 s).1])) (by rw [byteV_len]; lia) (byteV_app dn [(pickS ns sL6 0 s).1]).symm
      have hm := (pick_mem (ns := ns) (xs := sL6) (d := 0) (List.cons_ne_nil _ _) h1).2
      exact .next (dn ++ [(pickS ns sL6 0 s).1], n, lo + 1, (pickS ns sL6 0 s).2) rfl trivial rfl rfl rfl (b_bind rfl (b_call hpk)) hap ⟨rfl, trivial⟩ rfl ⟨hm.le (by dsimp only; rw [List.length_append, List.length_singleton]; lia), by rw [h2, List.append_assoc]; rfl, by dsimp only; rw [List.length_append, List.length_singleton]; lia⟩
  obtain ⟨bs, s2⟩ := w
  dsimp only at hcm q1 q2
  have hby := bytes_of (gst_k (σ := σ) (ns := ns) (E := E) (F := tabF 4 8 0 5) (s := s2) (K := [Cell.list (byteV bs)]) (i := 0))
  have kS : Str.ofString "S" ∈ ksL := List.mem_cons_self ..
  have kG : Str.ofString "G" ∈ ksL := List.mem_cons_of_mem _ (List.mem_cons_of_mem _ (List.mem_cons_of_mem _ (List.mem_cons_self ..)))
  have w3 := w2.setE (g := bs) kS (by lia)
  have hset := gst_itE (σ := σ) (ns := ns) (s := s2) (K := [Cell.list (byteV bs)]) (x := Str.ofString "S") (d := .bytes bs) w2
  have p2 : PenOk 100 s2 := q2.le (by lia)
  have h8 := gst_draw (σ := σ) (ns := ns) (E := dset E (Str.ofString "S") (.bytes bs)) (F := tabF 4 8 0 5) (K := [Cell.list (byteV bs)]) (m := 8) p2 (by decide) (by decide) (by decide)
  obtain ⟨⟨r3, r4⟩, t3⟩ := draw_range (ns := ns) (m := 8) (by decide) p2
  generalize drawS ns 8 s2 = d at *
  obtain ⟨d8, s3⟩ := d
  dsimp only at r3 r4 t3 h8
  have hmul : vbin .Mult (.bytes [46]) (.int (1 + d8)) = some (.bytes (List.replicate (1 + d8).toNat 46)) := by
    have : vbin .Mult (.bytes [46]) (.int (1 + d8)) = some (.bytes (List.replicate (1 + d8).toNat [46]).flatten) := if_pos ⟨by simp, by decide, by lia, by lia⟩
    rw [this, rep_one]
  have w4 := w3.setE (g := List.replicate (1 + d8).toNat 46) kG (by rw [List.length_replicate]; lia)
  have hset2 := gst_itE (σ := σ) (ns := ns) (s := s3) (K := [Cell.list (byteV bs)]) (x := Str.ofString "G") (d := .bytes (List.replicate (1 + d8).toNat 46)) w3
  have hM4 : (itemB (dset (dset E (Str.ofString "S") (.bytes bs)) (Str.ofString "G") (.bytes (List.replicate (1 + d8).toNat 46))) (Str.ofString "M")).length = 1 := by
    rw [itemB_set (by rw [w3.ek]; exact kG), if_neg (by simp [str_eq]), itemB_set (by rw [w2.ek]; exact kS), if_neg (by simp [str_eq])]
    exact hM
  have hlg : (gst σ ns E (tabF 4 8 0 5) s1 []).length = σ.length + 6 := gst_len
  refine .of (b_seq (b_bind (b_bind rfl (b_call hp)) rfl) (b_seq (b_bind (b_bind (b_bind (b_compAt hlg (b_bind (b_bind (b_bind rfl (b_bind (b_bind rfl (b_call h12)) (b_lift rfl))) rfl) rfl) (src_rng (Int.le_refl 0) (by decide) (by lia) (by lia)) hcm) rfl) (b_call hby)) (b_bind rfl (b_bind rfl (b_bind (hset _) rfl))))
    (b_seq (b_bind (b_bind rfl (b_bind (b_bind rfl (b_bind (b_bind rfl (b_call h8)) (b_lift rfl))) (b_lift hmul))) (b_bind rfl (b_bind rfl (b_bind (hset2 _) rfl)))) (b_into (b_bind rfl rfl) (b_into (b_sto (src_rng (lo := 0) (hi := 5) (by decide) (by decide) (by decide) (by decide))) rfl))))) ?_
  clear hcm hw hp h12 hby hset hset2 h8 hmul hM w2 w3 q1 q2 hlg
  generalize dset (dset E (Str.ofString "S") (.bytes bs)) (Str.ofString "G") (.bytes (List.replicate (1 + d8).toNat 46)) = E4 at *
  have hkb : Sto.pl [Cell.list (byteV bs)] = true := by
    simp only [Sto.pl, List.all_cons, List.all_nil, Cell.pl, byteV, map_pl (f := fun c : UInt8 => V.int c.toNat) (fun c => by simp [V.pl]) bs, Bool.and_self]
  rw [rng_items, rng_ok]
  refine for_use (ι := LwI) (fun i => intsFrom i.2.2.2.1 i.2.2.1) (fun i => lwL σ ns0 i.2.2.2.2.2.1 i.2.2.2.2.2.2.1)
    (fun i => gst σ ns i.1 i.2.1 i.2.2.2.2.1 i.2.2.2.2.2.2.2) lwW (E4, tabF 4 8 0 5, 5, 0, s3, none, none, [Cell.list (byteV bs)]) rfl rfl rfl ⟨w4, hM4, t3.le (by show (100 : Int) + 1 ≤ 1000 - 100 * ((5 : Nat) : Int); decide), hkb, Nat.le_refl _⟩ ?_
  rintro ⟨E, F, n, lo, s, x6, x7, K⟩ ⟨w, hM, hs, hk, hn⟩
  dsimp only at w hM hs hk hn
  cases n with
  | zero => exact .nil rfl trivial (.retG rfl)
  | succ n =>
    have hs : PenOk (900 - 100 * n) s := hs.le (by lia)
    have hN : (900 : Int) - 100 * n ≤ 900 := by lia
    generalize hNN : (900 : Int) - 100 * n = N at hs hN
    have jP : Str.ofString "P" ∈ jsL := List.mem_cons_self ..
    have vS : vidx (.loc (σ.length + 0)) (.str (Str.ofString "S")) (gst σ ns E F s K) = some (.bytes (itemB E (Str.ofString "S"))) := v_dict gst_i (w.item kS).1
    have vG : vidx (.loc (σ.length + 0)) (.str (Str.ofString "G")) (gst σ ns E F s K) = some (.bytes (itemB E (Str.ofString "G"))) := v_dict gst_i (w.item kG).1
    have vP : vidx (.loc (σ.length + 1)) (.str (Str.ofString "P")) (gst σ ns E F s K) = some (.int (numI F (Str.ofString "P"))) := v_dict gst_n (w.num jP)
    obtain ⟨is, his⟩ : ∃ is : List Int, is = [1, 1, 2, 3, ((itemB E (Str.ofString "S")).length : Int), ((itemB E (Str.ofString "G")).length : Int) + 1, 0, numI F (Str.ofString "P")] := ⟨_, rfl⟩
    have hnew := fun ρ => gst_new (σ := σ) (ns := ns) (E := E) (F := F) (s := s) (K := K) (is.map .int) (by rw [his]; exact Nat.le_of_ble_eq_true rfl) ρ
    have hpk := gst_pickI (σ := σ) (ns := ns) (E := E) (F := F) (K := K) (is := is) hs (by lia) (by rw [his]; exact List.cons_ne_nil _ _) (by rw [his]; exact Nat.le_of_ble_eq_true rfl)
    have hs1 := (pick_mem (ns := ns) (xs := is) (d := 0) (by rw [his]; exact List.cons_ne_nil _ _) hs).2
    have hk2 : Sto.pl (K ++ [Cell.list (is.map .int)]) = true := pl_app hk (by
      simp only [Sto.pl, List.all_cons, List.all_nil, Cell.pl, map_pl (f := V.int) (fun c => by simp [V.pl]) is, Bool.and_self])
    generalize pickS ns is 0 s = pk at *
    obtain ⟨pv, sp⟩ := pk
    dsimp only at hpk hs1
    have wP := w.setF (i := pv) jP
    have hsP := gst_itF (σ := σ) (ns := ns) (s := sp) (K := K ++ [Cell.list (is.map .int)]) (x := Str.ofString "P") (d := .int pv) w
    generalize dset F (Str.ofString "P") (.int pv) = F' at *
    have h2 := gst_draw (σ := σ) (ns := ns) (E := E) (F := F') (K := K ++ [Cell.list (is.map .int)]) (m := 2) hs1 (by lia) (by decide) (by decide)
    obtain ⟨_, hs2⟩ := draw_range (ns := ns) (m := 2) (by decide) hs1
    generalize drawS ns 2 sp = d at *
    obtain ⟨d2, s4⟩ := d
    dsimp only at h2 hs2
    obtain ⟨t, s5, ok, h5, hrun⟩ : ∃ t s5, StmOk ksL jsL E F' t ∧ PenOk (N + 60) s5 ∧ (pbind (pbind (pbind (pbind (pvar (0 + 1 + 1 + 1 + 1 + 1)) fun a => pbind (pbind (pret (V.int 2)) fun a => pbind (pret []) fun as => pret (a :: as)) fun as => pret (a :: as)) (pcall s_draw)) fun a => pbind (pret (V.int 0)) fun b => psto (vcmpS CmpOp.Eq a b)) fun c => if c = true then pbind (pbind (pvar (0 + 1 + 1 + 1 + 1 + 1)) fun a => pbind (pret []) fun as => pret (a :: as)) (pcall s_lstring) else pbind (pbind (pvar (0 + 1 + 1 + 1 + 1 + 1)) fun a => pbind (pret []) fun as => pret (a :: as)) (pcall s_lunstring))
        (lwL σ ns0 (some (.int lo)) x7) (gst σ ns E F' sp (K ++ [Cell.list (is.map .int)])) =
        some (stmV t, (lwL σ ns0 (some (.int lo)) x7), gst σ ns E F' s5 (K ++ [Cell.list (is.map .int)])) := by
      by_cases hd0 : d2 = 0
      · obtain ⟨i1, i2⟩ := strStm_ok (ns := ns) hs2
        exact ⟨.str (strStm ns s4).1, (strStm ns s4).2, str_in wP hM i1, i2.le (by lia), b_iet (b_bind (b_bind rfl (b_call h2)) (b_bind rfl (b_sto rfl))) (by rw [hd0]; rfl) (b_bind rfl (b_call (gst_str hs2 (by lia))))⟩
      · obtain ⟨i1, i2⟩ := unStm_ok (ns := ns) hs2
        exact ⟨.un (unStm ns s4).1, (unStm ns s4).2, un_in wP hM i1, i2.le (by lia), b_ief (b_bind (b_bind rfl (b_call h2)) (b_bind rfl (b_sto rfl))) (by simpa using hd0) (b_bind rfl (b_call (gst_un hs2 (by lia))))⟩
    obtain ⟨a1, a2⟩ := out_wd wP ok
    have hdn := gst_done (ns := ns) (s := s5) htab hpl wP hk2 ok
    exact .next ((outS E F' t).1, (outS E F' t).2, n, lo + 1, s5, some (.int lo), some (stmV t), K ++ [Cell.list (is.map .int)]) rfl trivial rfl
      (b_seq (b_bind (b_bind (b_bind rfl (b_bind (b_bind (b_bind (b_bind rfl (b_bind (b_bind rfl (b_bind (b_bind rfl (b_bind (b_bind rfl (b_bind (b_bind (b_bind (b_bind (b_bind rfl (b_bind rfl (b_sto vS))) rfl) rfl) (b_bind (b_bind (b_bind (b_bind (b_bind (b_bind rfl (b_bind rfl (b_sto vG))) rfl) rfl) (b_bind rfl (b_lift rfl))) (b_bind (b_bind rfl (b_bind (b_bind (b_bind rfl (b_bind rfl (b_sto vP))) rfl) rfl)) rfl)) rfl)) rfl)) rfl)) rfl)) rfl)) (by rw [his] at hnew; exact hnew _)) rfl) rfl)) (b_call (by rw [← his]; exact hpk))) (b_bind rfl (b_bind rfl (b_bind (hsP _) rfl))))
        (b_seq (b_bind hrun rfl) (b_seq (b_iff (b_bind (b_bind (b_bind rfl (b_call hdn)) (b_lift rfl)) rfl) rfl rfl) rfl))) rfl ⟨a1, (a2 _).trans hM, h5.le (by dsimp only; lia), hk2, Nat.le_of_succ_le hn⟩
end Mine
open PySem PySem.W PyProof.Rows
set_option Elab.async false
namespace Mine
noncomputable def as : List Addr := [2, 3, 15, 22, 23, 24, 26, 27, 29, 30, 31, 33, 34, 36, 37, 38, 39, 40, 41, 44, 51, 52, 53, 56, 58, 59, 61, 62, 63, 65, 66, 68, 69, 70, 72, 73, 75, 76, 77, 79, 80, 82, 83, 84, 86, 87, 89, 90, 91, 93, 94, 96, 97, 98, 100, 101, 103, 104, 105, 107, 108, 110, 111, 112, 114, 115, 117, 118, 126, 128, 129, 131, 132, 133, 134, 135, 136, 137, 140, 142, 143, 145, 146, 147, 149, 150, 152, 153, 154, 156, 157, 159, 160, 161, 163, 164, 166, 167, 168, 170, 171, 173, 174, 175, 178, 179, 180, 183, 184, 185, 187, 188, 190, 191, 192, 194, 195, 197, 198, 199, 201, 202, 204, 205, 206, 208, 209, 211, 212, 213, 215, 216, 218, 219, 220, 222, 223, 225, 226, 227, 229, 230, 232, 233, 234, 236, 237, 239, 240, 241, 243, 244, 246, 247, 248, 251, 252, 253, 256, 257, 258, 261, 262, 263, 265, 266, 268, 269, 270, 273, 274, 275, 278, 279, 280, 282, 283, 285, 286, 287, 290, 291]
noncomputable def view : Program := { PySem.Challenge.pw_og0081_01 with main := { PySem.Challenge.pw_og0081_01.main with body := [1, 2, 4, 5, 6, 7, 8, 9, 10, 11, 12, 13, 14, 15, 16, 17, 18, 19, 21, 22, 23, 24, 25, 26, 27, 28, 29, 30, 31, 32, 33, 34, 35, 36, 37, 38].map stm } }
theorem as_eq (P : Params) : as = (KK P).map (·.1) := by kernel_rfl
noncomputable abbrev hook : Hook := kmHook KK as as_eq [235]
set_option maxRecDepth 100000
set_option maxHeartbeats 0
noncomputable def foldB (x : Bool) : List Bool → Bool
  | [] => x
  | b :: r => foldB (x && b) r
noncomputable def nthB : List Bool → Nat → Bool
  | [], _ => true
  | b :: _, 0 => b
  | _ :: r, n + 1 => nthB r n
abbrev AllN (bs : List Bool) : Nat → Prop
  | 0 => True
  | n + 1 => nthB bs n = true ∧ AllN bs n
theorem AllN.get {bs : List Bool} : ∀ {n i : Nat}, AllN bs n → i < n → nthB bs i = true
  | 0, _, _, h => absurd h (Nat.not_lt_zero _)
  | n + 1, i, a, h => if q : i = n then q ▸ a.1 else a.2.get (Nat.lt_of_le_of_ne (Nat.le_of_lt_succ h) q)
theorem foldB_true : ∀ {bs : List Bool} {x : Bool}, x = true → (∀ i, i < bs.length → nthB bs i = true) → foldB x bs = true
  | [], _, h, _ => h
  | b :: r, x, h, k => foldB_true (bs := r) (x := x && b) (by rw [h, show b = true from k 0 (Nat.succ_pos _)]; rfl) fun i q => k (i + 1) (Nat.succ_lt_succ q)
noncomputable def spine (l : OpenLaw) : { p : Bool × List Bool // l.wellSaid = foldB p.1 p.2 } := ⟨(_, [_, _, _, _, _, _, _, _, _, _, _, _, _, _, _, _, _, _, _, _, _, _, _, _, _, _, _, _, _, _, _, _, _, _, _, _, _, _]), rfl⟩
theorem spine_len (l : OpenLaw) : (spine l).1.2.length = 38 := rfl
theorem spine_all (l : OpenLaw) (h : (spine l).1.1 = true) (a : AllN (spine l).1.2 38) : l.wellSaid = true := (spine l).2.trans (foldB_true h fun _ q => a.get (spine_len l ▸ q))
theorem sk0 : nthB (spine PySem.Challenge.rw_og0081_01).1.2 0 = true := by kernel_rfl
theorem sk1 : nthB (spine PySem.Challenge.rw_og0081_01).1.2 1 = true := by kernel_rfl
theorem sk2 : nthB (spine PySem.Challenge.rw_og0081_01).1.2 2 = true := by kernel_rfl
theorem sk3 : nthB (spine PySem.Challenge.rw_og0081_01).1.2 3 = true := by kernel_rfl
theorem sk4 : nthB (spine PySem.Challenge.rw_og0081_01).1.2 4 = true := by kernel_rfl
theorem sk5 : nthB (spine PySem.Challenge.rw_og0081_01).1.2 5 = true := by kernel_rfl
theorem sk6 : nthB (spine PySem.Challenge.rw_og0081_01).1.2 6 = true := by kernel_rfl
theorem sk7 : nthB (spine PySem.Challenge.rw_og0081_01).1.2 7 = true := by kernel_rfl
theorem sk8 : nthB (spine PySem.Challenge.rw_og0081_01).1.2 8 = true := by kernel_rfl
theorem sk9 : nthB (spine PySem.Challenge.rw_og0081_01).1.2 9 = true := by kernel_rfl
theorem sk10 : nthB (spine PySem.Challenge.rw_og0081_01).1.2 10 = true := by kernel_rfl
theorem sk11 : nthB (spine PySem.Challenge.rw_og0081_01).1.2 11 = true := by kernel_rfl
theorem sk12 : nthB (spine PySem.Challenge.rw_og0081_01).1.2 12 = true := by kernel_rfl
theorem sk13 : nthB (spine PySem.Challenge.rw_og0081_01).1.2 13 = true := by kernel_rfl
theorem sk14 : nthB (spine PySem.Challenge.rw_og0081_01).1.2 14 = true := by kernel_rfl
theorem sk15 : nthB (spine PySem.Challenge.rw_og0081_01).1.2 15 = true := by kernel_rfl
theorem sk16 : nthB (spine PySem.Challenge.rw_og0081_01).1.2 16 = true := by kernel_rfl
theorem sk17 : nthB (spine PySem.Challenge.rw_og0081_01).1.2 17 = true := by kernel_rfl
theorem sk18 : nthB (spine PySem.Challenge.rw_og0081_01).1.2 18 = true := by kernel_rfl
theorem sk19 : nthB (spine PySem.Challenge.rw_og0081_01).1.2 19 = true := by kernel_rfl
theorem sk20 : nthB (spine PySem.Challenge.rw_og0081_01).1.2 20 = true := by kernel_rfl
theorem sk21 : nthB (spine PySem.Challenge.rw_og0081_01).1.2 21 = true := by kernel_rfl
theorem sk22 : nthB (spine PySem.Challenge.rw_og0081_01).1.2 22 = true := by kernel_rfl
theorem sk23 : nthB (spine PySem.Challenge.rw_og0081_01).1.2 23 = true := by kernel_rfl
theorem sk24 : nthB (spine PySem.Challenge.rw_og0081_01).1.2 24 = true := by kernel_rfl
theorem sk25 : nthB (spine PySem.Challenge.rw_og0081_01).1.2 25 = true := by kernel_rfl
theorem sk26 : nthB (spine PySem.Challenge.rw_og0081_01).1.2 26 = true := by kernel_rfl
theorem sk27 : nthB (spine PySem.Challenge.rw_og0081_01).1.2 27 = true := by kernel_rfl
theorem sk28 : nthB (spine PySem.Challenge.rw_og0081_01).1.2 28 = true := by kernel_rfl
theorem sk29 : nthB (spine PySem.Challenge.rw_og0081_01).1.2 29 = true := by kernel_rfl
theorem sk30 : nthB (spine PySem.Challenge.rw_og0081_01).1.2 30 = true := by kernel_rfl
theorem sk31 : nthB (spine PySem.Challenge.rw_og0081_01).1.2 31 = true := by kernel_rfl
theorem sk32 : nthB (spine PySem.Challenge.rw_og0081_01).1.2 32 = true := by kernel_rfl
theorem sk33 : nthB (spine PySem.Challenge.rw_og0081_01).1.2 33 = true := by kernel_rfl
theorem sk34 : nthB (spine PySem.Challenge.rw_og0081_01).1.2 34 = true := by kernel_rfl
theorem sk35 : nthB (spine PySem.Challenge.rw_og0081_01).1.2 35 = true := by kernel_rfl
theorem sk36 : nthB (spine PySem.Challenge.rw_og0081_01).1.2 36 = true := by kernel_rfl
theorem sk37 : nthB (spine PySem.Challenge.rw_og0081_01).1.2 37 = true := by kernel_rfl
theorem skz : (spine PySem.Challenge.rw_og0081_01).1.1 = true := by kernel_rfl
theorem said : PySem.Challenge.rw_og0081_01.wellSaid = true := spine_all _ skz ⟨sk37, sk36, sk35, sk34, sk33, sk32, sk31, sk30, sk29, sk28, sk27, sk26, sk25, sk24, sk23, sk22, sk21, sk20, sk19, sk18, sk17, sk16, sk15, sk14, sk13, sk12, sk11, sk10, sk9, sk8, sk7, sk6, sk5, sk4, sk3, sk2, sk1, sk0, trivial⟩
abbrev QQ : Program := PySem.Challenge.rw_og0081_01.row.toRowW.prog
noncomputable def fop (st : Stmt) (name qual : Str) : Obj := { cls := .none, data := .func { name, qualname := qual, params := argsOf st, body := .stmts (bodyOf st), scope := scopeOf st, globals := 0, closure := [], defaults := .none, kwdefaults := .none } }
noncomputable def oF : Obj := { cls := .none, data := .fields #[] }
noncomputable def oT : Obj := { cls := .type "tuple", data := .seq #[] }
noncomputable def MM : Params → Frag := fun P =>
  (nat_lit 16, { cls := Value.type "builtin_function_or_method", data := Data.fields #[Value.builtin "type.__prepare__", Value.type "type"] }) ::
  (nat_lit 17, { cls := Value.type "dict", data := Data.dict #[{ hash := PyData.keyHash P (Str.ofString "__module__"), key := Value.str (Str.ofString "__module__") 196, val := Value.str (Str.ofString "ledgerspeak.errors") 187 }, { hash := PyData.keyHash P (Str.ofString "__qualname__"), key := Value.str (Str.ofString "__qualname__") 198, val := Value.str (Str.ofString "LedgerError") 197 }, { hash := PyData.keyHash P (Str.ofString "__firstlineno__"), key := Value.str (Str.ofString "__firstlineno__") 200, val := Value.int 2 199 }, { hash := PyData.keyHash P (Str.ofString "__init__"), key := Value.str (Str.ofString "__init__") 211, val := Value.ref 30 }, { hash := PyData.keyHash P (Str.ofString "told"), key := Value.str (Str.ofString "told") 218, val := Value.ref 37 }, { hash := PyData.keyHash P (Str.ofString "__static_attributes__"), key := Value.str (Str.ofString "__static_attributes__") 221, val := Value.ref 38 }] 6 }) ::
  (nat_lit 18, oT) ::
  (nat_lit 19, { cls := Value.none, data := Data.fields #[Value.int 4 0, Value.int 4 0, Value.ref 29, Value.int 9 0, Value.int 4 0, Value.ref 36] }) ::
  (nat_lit 20, { cls := Value.type "code", data := Data.fields #[Value.str (Str.ofString "LedgerError") 191, Value.str (Str.ofString "LedgerError") 192, Value.str (Str.ofString "/claim/cut.py") 193, Value.int 2 0, Value.int 0 0, Value.int 0 0, Value.int 0 0, Value.int 0 0, Value.ref 18, Value.bool Bool.false, Value.int 181 0, Value.ref 19, Value.none, Value.none, Value.none, Value.none, Value.int 194 0, Value.int 2 0, Value.str (Str.ofString "/claim/cut.py") 195] }) ::
  (nat_lit 21, { cls := Value.type "frame", slots := #[Option.some (Value.ref 20), Option.some (Value.ref 3), Option.some (Value.ref 17), Option.none, Option.some (Value.str (Str.ofString "ledgerspeak.errors") 187), Option.none, Option.some (Value.ref 0)] }) ::
  (nat_lit 25, oF) ::
  (nat_lit 28, fop (ins (stm 1) 0) (Str.ofString "__init__") (Str.ofString "LedgerError.__init__")) ::
  (nat_lit 32, oF) ::
  (nat_lit 35, fop (ins (stm 1) 1) (Str.ofString "told") (Str.ofString "LedgerError.told")) ::
  (nat_lit 42, { cls := Value.type "super", data := Data.fields #[Value.ref 40, Value.ref 40, Value.ref 40] }) ::
  (nat_lit 43, { cls := Value.type "builtin_function_or_method", data := Data.fields #[Value.builtin "object.__init_subclass__", Value.ref 40] }) ::
  (nat_lit 45, { cls := Value.type "builtin_function_or_method", data := Data.fields #[Value.builtin "type.__prepare__", Value.type "type"] }) ::
  (nat_lit 46, { cls := Value.type "dict", data := Data.dict #[{ hash := PyData.keyHash P (Str.ofString "__module__"), key := Value.str (Str.ofString "__module__") 236, val := Value.str (Str.ofString "ledgerspeak.errors") 187 }, { hash := PyData.keyHash P (Str.ofString "__qualname__"), key := Value.str (Str.ofString "__qualname__") 238, val := Value.str (Str.ofString "RunFault") 237 }, { hash := PyData.keyHash P (Str.ofString "__firstlineno__"), key := Value.str (Str.ofString "__firstlineno__") 240, val := Value.int 11 239 }, { hash := PyData.keyHash P (Str.ofString "__static_attributes__"), key := Value.str (Str.ofString "__static_attributes__") 241, val := Value.ref 51 }] 4 }) ::
  (nat_lit 47, oT) ::
  (nat_lit 48, oF) ::
  (nat_lit 49, { cls := Value.type "code", data := Data.fields #[Value.str (Str.ofString "RunFault") 231, Value.str (Str.ofString "RunFault") 232, Value.str (Str.ofString "/claim/cut.py") 233, Value.int 11 0, Value.int 0 0, Value.int 0 0, Value.int 0 0, Value.int 0 0, Value.ref 47, Value.bool Bool.false, Value.int 181 0, Value.ref 48, Value.none, Value.none, Value.none, Value.none, Value.int 234 0, Value.int 11 0, Value.str (Str.ofString "/claim/cut.py") 235] }) ::
  (nat_lit 50, { cls := Value.type "frame", slots := #[Option.some (Value.ref 49), Option.some (Value.ref 3), Option.some (Value.ref 46), Option.none, Option.some (Value.str (Str.ofString "ledgerspeak.errors") 187), Option.none, Option.some (Value.ref 0)] }) ::
  (nat_lit 54, { cls := Value.type "super", data := Data.fields #[Value.ref 53, Value.ref 53, Value.ref 53] }) ::
  (nat_lit 55, { cls := Value.type "builtin_function_or_method", data := Data.fields #[Value.builtin "object.__init_subclass__", Value.ref 53] }) ::
  (nat_lit 57, oF) ::
  (nat_lit 60, fop (stm 4) (Str.ofString "lies_at") (Str.ofString "lies_at")) ::
  (nat_lit 64, oF) ::
  (nat_lit 67, fop (stm 5) (Str.ofString "first_at") (Str.ofString "first_at")) ::
  (nat_lit 71, oF) ::
  (nat_lit 74, fop (stm 6) (Str.ofString "sent_part") (Str.ofString "sent_part")) ::
  (nat_lit 78, oF) ::
  (nat_lit 81, fop (stm 7) (Str.ofString "strung") (Str.ofString "strung")) ::
  (nat_lit 85, oF) ::
  (nat_lit 88, fop (stm 8) (Str.ofString "delimiter_at") (Str.ofString "delimiter_at")) ::
  (nat_lit 92, oF) ::
  (nat_lit 95, fop (stm 9) (Str.ofString "behind_delimiter") (Str.ofString "behind_delimiter")) ::
  (nat_lit 99, oF) ::
  (nat_lit 102, fop (stm 10) (Str.ofString "next_piece") (Str.ofString "next_piece")) ::
  (nat_lit 106, oF) ::
  (nat_lit 109, fop (stm 11) (Str.ofString "unstrung") (Str.ofString "unstrung")) ::
  (nat_lit 113, oF) ::
  (nat_lit 116, fop (stm 12) (Str.ofString "cut_by_sizes") (Str.ofString "cut_by_sizes")) ::
  (nat_lit 119, oT) ::
  (nat_lit 120, { cls := Value.type "builtin_function_or_method", data := Data.fields #[Value.builtin "type.__prepare__", Value.type "type"] }) ::
  (nat_lit 121, { cls := Value.type "dict", data := Data.dict #[{ hash := PyData.keyHash P (Str.ofString "__module__"), key := Value.str (Str.ofString "__module__") 356, val := Value.str (Str.ofString "ledgerspeak.stringing") 245 }, { hash := PyData.keyHash P (Str.ofString "__qualname__"), key := Value.str (Str.ofString "__qualname__") 358, val := Value.str (Str.ofString "Hands") 357 }, { hash := PyData.keyHash P (Str.ofString "__firstlineno__"), key := Value.str (Str.ofString "__firstlineno__") 360, val := Value.int 76 359 }, { hash := PyData.keyHash P (Str.ofString "__init__"), key := Value.str (Str.ofString "__init__") 374, val := Value.ref 132 }, { hash := PyData.keyHash P (Str.ofString "__static_attributes__"), key := Value.str (Str.ofString "__static_attributes__") 382, val := Value.ref 133 }] 5 }) ::
  (nat_lit 122, oT) ::
  (nat_lit 123, { cls := Value.none, data := Data.fields #[Value.int 78 0, Value.int 4 0, Value.ref 131] }) ::
  (nat_lit 124, { cls := Value.type "code", data := Data.fields #[Value.str (Str.ofString "Hands") 351, Value.str (Str.ofString "Hands") 352, Value.str (Str.ofString "/claim/cut.py") 353, Value.int 76 0, Value.int 0 0, Value.int 0 0, Value.int 0 0, Value.int 0 0, Value.ref 122, Value.bool Bool.false, Value.int 181 0, Value.ref 123, Value.none, Value.none, Value.none, Value.none, Value.int 354 0, Value.int 76 0, Value.str (Str.ofString "/claim/cut.py") 355] }) ::
  (nat_lit 125, { cls := Value.type "frame", slots := #[Option.some (Value.ref 124), Option.some (Value.ref 3), Option.some (Value.ref 121), Option.none, Option.some (Value.str (Str.ofString "ledgerspeak.stringing") 245), Option.none, Option.some (Value.ref 0)] }) ::
  (nat_lit 127, oF) ::
  (nat_lit 130, fop (ins (stm 13) 0) (Str.ofString "__init__") (Str.ofString "Hands.__init__")) ::
  (nat_lit 138, { cls := Value.type "super", data := Data.fields #[Value.ref 135, Value.ref 135, Value.ref 135] }) ::
  (nat_lit 139, { cls := Value.type "builtin_function_or_method", data := Data.fields #[Value.builtin "object.__init_subclass__", Value.ref 135] }) ::
  (nat_lit 141, oF) ::
  (nat_lit 144, fop (stm 14) (Str.ofString "lone_octets") (Str.ofString "lone_octets")) ::
  (nat_lit 148, oF) ::
  (nat_lit 151, fop (stm 15) (Str.ofString "pointed") (Str.ofString "pointed")) ::
  (nat_lit 155, oF) ::
  (nat_lit 158, fop (stm 16) (Str.ofString "moved_on") (Str.ofString "moved_on")) ::
  (nat_lit 162, oF) ::
  (nat_lit 165, fop (stm 17) (Str.ofString "string_with") (Str.ofString "string_with")) ::
  (nat_lit 169, oF) ::
  (nat_lit 172, fop (stm 18) (Str.ofString "lay_pieces") (Str.ofString "lay_pieces")) ::
  (nat_lit 176, oF) ::
  (nat_lit 177, fop (stm 19) (Str.ofString "unstring_with") (Str.ofString "unstring_with")) ::
  (nat_lit 181, oF) ::
  (nat_lit 182, fop (stm 21) (Str.ofString "_law_pen") (Str.ofString "_law_pen")) ::
  (nat_lit 186, oF) ::
  (nat_lit 189, fop (stm 22) (Str.ofString "_law_draw") (Str.ofString "_law_draw")) ::
  (nat_lit 193, oF) ::
  (nat_lit 196, fop (stm 23) (Str.ofString "_law_pick") (Str.ofString "_law_pick")) ::
  (nat_lit 200, oF) ::
  (nat_lit 203, fop (stm 24) (Str.ofString "_law_ref") (Str.ofString "_law_ref")) ::
  (nat_lit 207, oF) ::
  (nat_lit 210, fop (stm 25) (Str.ofString "_law_fetch") (Str.ofString "_law_fetch")) ::
  (nat_lit 214, oF) ::
  (nat_lit 217, fop (stm 26) (Str.ofString "_law_put") (Str.ofString "_law_put")) ::
  (nat_lit 221, oF) ::
  (nat_lit 224, fop (stm 27) (Str.ofString "_law_bring") (Str.ofString "_law_bring")) ::
  (nat_lit 228, oF) ::
  (nat_lit 231, fop (stm 28) (Str.ofString "_law_spot") (Str.ofString "_law_spot")) ::
  (nat_lit 235, oF) ::
  (nat_lit 238, fop (stm 29) (Str.ofString "_law_hands") (Str.ofString "_law_hands")) ::
  (nat_lit 242, oF) ::
  (nat_lit 245, fop (stm 30) (Str.ofString "_law_string_due") (Str.ofString "_law_string_due")) ::
  (nat_lit 249, oF) ::
  (nat_lit 250, fop (stm 31) (Str.ofString "_law_piece") (Str.ofString "_law_piece")) ::
  (nat_lit 254, oF) ::
  (nat_lit 255, fop (stm 32) (Str.ofString "_law_unstring_due") (Str.ofString "_law_unstring_due")) ::
  (nat_lit 259, oF) ::
  (nat_lit 260, fop (stm 33) (Str.ofString "_law_operand") (Str.ofString "_law_operand")) ::
  (nat_lit 264, oF) ::
  (nat_lit 267, fop (stm 34) (Str.ofString "_law_mark") (Str.ofString "_law_mark")) ::
  (nat_lit 271, oF) ::
  (nat_lit 272, fop (stm 35) (Str.ofString "_law_string") (Str.ofString "_law_string")) ::
  (nat_lit 276, oF) ::
  (nat_lit 277, fop (stm 36) (Str.ofString "_law_unstring") (Str.ofString "_law_unstring")) ::
  (nat_lit 281, oF) ::
  (nat_lit 284, fop (stm 37) (Str.ofString "_law_is_done") (Str.ofString "_law_is_done")) ::
  (nat_lit 288, oF) ::
  (nat_lit 289, fop (stm 38) (Str.ofString "law") (Str.ofString "law")) ::
  []
noncomputable def mrg : Nat → Frag → Frag → List Obj
  | 0, _, _ => []
  | _ + 1, [], [] => []
  | n + 1, x :: k, [] => x.2 :: mrg n k []
  | n + 1, [], y :: m => y.2 :: mrg n [] m
  | n + 1, x :: k, y :: m => cond (Nat.blt x.1 y.1) (x.2 :: mrg n k (y :: m)) (y.2 :: mrg n (x :: k) m)
noncomputable def thirdO (f : Obj → Obj → Frag → List Obj) : Frag → List Obj
  | x :: y :: k => f x.2 y.2 k
  | _ => []
noncomputable def upto (v : Value) (j : Nat) (o : Obj) : Obj := match o with
  | { cls, dict, data := .dict (.mk (e :: es)) _, slots } => { cls, dict, data := .dict (Array.mk ({ e with val := v } :: es.take (j - 1))) j, slots }
  | o => o
noncomputable def n0 : Value := .str (Str.ofString "ledgerspeak.errors") 187
noncomputable def n1 : Value := .str (Str.ofString "ledgerspeak.stringing") 245
noncomputable def n2 : Value := .str (Str.ofString "law_og0081_01") 450
noncomputable def consts : List Value := [Value.int 2 0, Value.int 0 0, Value.ref 20, Value.int 11 0, Value.int 0 0, Value.ref 49, Value.int 14 0, Value.int 0 0, Value.ref 61, Value.int 16 0, Value.int 0 0, Value.ref 68, Value.int 23 0, Value.int 0 0, Value.ref 75, Value.int 28 0, Value.int 0 0, Value.ref 82, Value.int 41 0, Value.int 0 0, Value.ref 89, Value.int 48 0, Value.int 0 0, Value.ref 96, Value.int 53 0, Value.int 0 0, Value.ref 103, Value.int 59 0, Value.int 0 0, Value.ref 110, Value.int 67 0, Value.int 0 0, Value.ref 117, Value.int 76 0, Value.int 0 0, Value.ref 124, Value.int 86 0, Value.int 0 0, Value.ref 145, Value.int 88 0, Value.int 0 0, Value.ref 152, Value.int 90 0, Value.int 0 0, Value.ref 159, Value.int 93 0, Value.int 0 0, Value.ref 166, Value.int 102 0, Value.int 0 0, Value.ref 173, Value.int 110 0, Value.int 0 0, Value.ref 178, Value.int 126 0, Value.int 0 0, Value.ref 183, Value.int 128 0, Value.int 0 0, Value.ref 190, Value.int 145 0, Value.int 0 0, Value.ref 197, Value.int 147 0, Value.int 0 0, Value.ref 204, Value.int 149 0, Value.int 0 0, Value.ref 211, Value.int 153 0, Value.int 0 0, Value.ref 218, Value.int 155 0, Value.int 0 0, Value.ref 225, Value.int 159 0, Value.int 0 0, Value.ref 232, Value.int 162 0, Value.int 0 0, Value.ref 239, Value.int 171 0, Value.int 0 0, Value.ref 246, Value.int 194 0, Value.int 0 0, Value.ref 251, Value.int 206 0, Value.int 0 0, Value.ref 256, Value.int 230 0, Value.int 0 0, Value.ref 261, Value.int 234 0, Value.int 0 0, Value.ref 268, Value.int 236 0, Value.int 0 0, Value.ref 273, Value.int 239 0, Value.int 0 0, Value.ref 278, Value.int 247 0, Value.int 0 0, Value.ref 285, Value.int 254 0, Value.int 0 0, Value.ref 290]
noncomputable def o12 (k : Nat) : Obj := { cls := .none, data := .fields (Array.mk (consts.take k)) }
noncomputable def o13 : List Obj := [{ cls := Value.type "code", data := Data.fields #[Value.str (Str.ofString "<module>") 182, Value.str (Str.ofString "<module>") 183, Value.str (Str.ofString "/claim/cut.py") 184, Value.int 1 0, Value.int 0 0, Value.int 0 0, Value.int 0 0, Value.int 0 0, Value.ref 11, Value.bool Bool.false, Value.int 181 0, Value.ref 12, Value.none, Value.none, Value.none, Value.none, Value.int 185 0, Value.int 1 0, Value.str (Str.ofString "/claim/cut.py") 186] }, { cls := Value.type "frame", slots := #[Option.some (Value.ref 13), Option.some (Value.ref 3), Option.some (Value.ref 3), Option.none, Option.some (Value.str (Str.ofString "__main__") 164), Option.none, Option.some (Value.ref 0)] }]
noncomputable def hp0 (P : Params) : Heap := ⟨Array.mk (boot_o_0 P :: boot_o_1 P :: boot_o_2 P :: boot_o_3 P :: boot_o_4 P :: boot_o_5 P :: boot_o_6 P :: boot_o_7 P :: boot_o_8 P :: boot_o_9 P :: boot_o_10 P :: oT :: o12 0 :: o13), {}⟩
noncomputable def hp (P : Params) (v : Value) (n j k : Nat) : Heap := ⟨Array.mk (thirdO (fun a b r => boot_o_0 P :: boot_o_1 P :: a :: upto v j b :: boot_o_4 P :: boot_o_5 P :: boot_o_6 P :: boot_o_7 P :: boot_o_8 P :: boot_o_9 P :: boot_o_10 P :: oT :: o12 k :: (o13 ++ mrg n r (MM P))) (KK P)), {}⟩
noncomputable abbrev sh (h : Heap) (t : Nat) (os : OsState) : Shared := ⟨h, Array.mk [], boot_drawn, t, os⟩
noncomputable def envQ : Env := { scope := QQ.main.scope, locals := mainNs, globals := mainNs, cells := [], code := .ref 13, frame := some 14 }
noncomputable def bq0 : List Stmt := [stm 0, stm 1, stm 2]
noncomputable def bq1 : List Stmt := [stm 3, stm 4, stm 5, stm 6, stm 7, stm 8, stm 9, stm 10, stm 11, stm 12]
noncomputable def bq2 : List Stmt := [stm 13]
noncomputable def bq3 : List Stmt := [stm 14, stm 15, stm 16, stm 17, stm 18, stm 19, stm 20, stm 21, stm 22, stm 23, stm 24, stm 25, stm 26, stm 27, stm 28, stm 29, stm 30, stm 31, stm 32, stm 33, stm 34, stm 35, stm 36, stm 37, stm 38]
theorem bqs : behindTheImports QQ = (bq0 ++ (bq1 ++ (bq2 ++ (bq3 ++ [])))) := by kernel_rfl
noncomputable abbrev cq : Code := .body (behindTheImports QQ) envQ
theorem lq_pre (w : World) (os : OsState) : topGo treeTable QQ w 11 (some (.ref 6)) 12 (sh (boot_heap w.params) boot_toks os) (topStub QQ) = some (sh (hp0 w.params) 187 os, ⟨denote treeTable cq, cq, default, [topFrame default]⟩) := by kernel_rfl
theorem lq_block (w : World) (os : OsState) : segRun treeTable QQ w 11 (some (.ref 6)) 1 1 (sh (hp0 w.params) 187 os) (blockOf (behindTheImports QQ) envQ cq default [topFrame default]) = some (.next, sh (hp0 w.params) 187 os, cq, default) := by kernel_rfl
theorem lq_0 (w : World) (os : OsState) : segRun treeTable QQ w 11 (some (.ref 6)) 1 489 (sh (hp0 w.params) 187 os) (PySem.W.piecesOf bq0 envQ cq default [topFrame default]) = some (.next, sh (hp w.params n0 41 11 6) 245 os, cq, { line := 11, col := 0, endLine := 12, endCol := 8 }) := by kernel_rfl
theorem lq_1 (w : World) (os : OsState) : segRun treeTable QQ w 11 (some (.ref 6)) 1 310 (sh (hp w.params n0 41 11 6) 245 os) (PySem.W.piecesOf bq1 envQ cq ({ line := 11, col := 0, endLine := 12, endCol := 8 } : Pos) [topFrame default]) = some (.next, sh (hp w.params n1 104 20 33) 349 os, cq, { line := 67, col := 0, endLine := 75, endCol := 45 }) := by kernel_rfl
theorem lq_2 (w : World) (os : OsState) : segRun treeTable QQ w 11 (some (.ref 6)) 1 235 (sh (hp w.params n1 104 20 33) 349 os) (PySem.W.piecesOf bq2 envQ cq ({ line := 67, col := 0, endLine := 75, endCol := 45 } : Pos) [topFrame default]) = some (.next, sh (hp w.params n1 125 21 36) 390 os, cq, { line := 76, col := 0, endLine := 85, endCol := 24 }) := by kernel_rfl
theorem lq_3 (w : World) (os : OsState) : segRun treeTable QQ w 11 (some (.ref 6)) 1 743 (sh (hp w.params n1 125 21 36) 390 os) (PySem.W.piecesOf bq3 envQ cq ({ line := 76, col := 0, endLine := 85, endCol := 24 } : Pos) [topFrame default]) = some (.next, sh (hp w.params n2 277 45 108) 613 os, cq, { line := 254, col := 0, endLine := 271, endCol := 15 }) := by kernel_rfl
theorem lq_fin (w : World) (os : OsState) : topRun treeTable QQ w 11 (some (.ref 6)) 2 (sh (hp w.params n2 277 45 108) 613 os) ⟨doneF .next, cq, ({ line := 254, col := 0, endLine := 271, endCol := 15 } : Pos), [topFrame default]⟩ = some (sh (hp w.params n2 277 45 108) 613 os) := by kernel_rfl
theorem lq_rest (w : World) (os : OsState) : topRun treeTable QQ w 11 (some (.ref 6)) (489 + (310 + (235 + (743 + (2))))) (sh (hp0 w.params) 187 os) (restOf (behindTheImports QQ) envQ cq default [topFrame default]) = some (sh (hp w.params n2 277 45 108) 613 os) := by
  rw [bqs]
  exact piece_app (lq_0 w os) (piece_app (lq_1 w os) (piece_app (lq_2 w os) (piece_app (lq_3 w os) (piece_nil (lq_fin w os)))))
theorem lq_run (w : World) (os : OsState) : topRun treeTable QQ w 11 (some (.ref 6)) (12 + (1 + (489 + (310 + (235 + (743 + (2))))))) (sh (boot_heap w.params) boot_toks os) (topStub QQ) = some (sh (hp w.params n2 277 45 108) 613 os) := go_top (lq_pre w os) (piece_block (lq_block w os) (lq_rest w os))
theorem left : LeftO PySem.Challenge.rw_og0081_01.row.toRowW.prog view [Str.ofString "LedgerError"] (fun s => xlAt view [] s && recOk (RowW.records PySem.Challenge.rw_og0081_01.row.toRowW) s) (Hook.obs hook) (Hook.val hook) 3672 := by
  refine LeftO.of_pieces (H₁ := fun P => hp P n2 277 45 108) (boot_open (by kernel_rfl) (by kernel_rfl) fun s => by kernel_rfl) (fun w => ?_) lq_run (by decide) fun w => ?_
  · kernel_rfl
  · kernel_rfl
end Mine
open PySem PySem.W PySem.Calls PyProof.Rows
set_option Elab.async false
set_option maxRecDepth 100000
set_option maxHeartbeats 0
namespace Mine
theorem forall_tab {P : Params} {h : Heap} (KX : (KK P).In h) (KT : ∀ p ∈ [235], h.get? p = some (tabObj #[])) : TabsAt [(239, 235)] h := fun q hq => by
  obtain rfl := List.mem_singleton.mp hq
  exact ⟨codeHd_of_K KX (by kernel_rfl), KT 235 (List.mem_cons_self ..)⟩
theorem top_run {prog : Program} {w : World} {p : Program} {loose : List Str} {mean : ExcName → Option Value} {mg mb : Str → Option Value} {s : Shared} {l : Addr} {vs : List Value} {ns : List Int} {Q E : Value → Shared → Prop}
    (KX : (KK w.params).In s.heap) (KT : ∀ p ∈ [235], s.heap.get? p = some (tabObj #[])) (T : Top p loose mean mg mb s.heap) (hse : s.heap.NoSeer) (hL : s.heap.IsList l vs.toArray) (hI : IntsAre vs ns) (hn : ns.length ≤ 1000)
    (hQ : ∀ tk h', (∀ b o, s.heap.get? b = some o → b ≠ 235 → h'.get? b = some o) → (∃ ps, h'.get? 235 = some (tabObj ps)) → Q (.bool true) { s with heap := h', toks := tk }) :
    wpAny (model prog w) callerA (call (.ref 291) [.ref l]) Q E s := by
  have hT := forall_tab KX KT
  have e0 := KT 235 (List.mem_cons_self ..)
  have hb : ∀ b o, s.heap.get? b = some o → b ≠ 235 → (ghostOf s.heap [(239, 235)]).get? b = some o := fun b o e h => ghost_ne e fun z => h (List.mem_singleton.mp z)
  have G : Good prog KK ⟨w, ghostOf s.heap [(239, 235)]⟩ := by
    refine ⟨ghost_K hT KX (by kernel_rfl), ⟨_, _, mg, mb, topRead_of (ghost_top hT T), ?_⟩, ?_, (ghost_code hT).1⟩
    · obtain ⟨bm, ob, a1, a2, a3, a4, a5, a6⟩ := T.bmain
      refine ⟨bm, ob, a1, a2, fun z => ?_, fun z => ?_, hb bm ob a3 fun z => ?_, a4, a5, a6⟩
      · obtain ⟨o, es, ep, ho, hd, _⟩ := T.g
        rw [← z, a3] at ho
        cases ho
        rw [a6] at hd; cases hd
      · rw [show tabP = 235 from rfl] at z
        rw [z, e0] at a3
        cases a3; cases a4
      · rw [z, e0] at a3
        cases a3; cases a4
    · obtain ⟨mm, ⟨o, es, ep, ho, _⟩, _⟩ := hse.mods
      rw [show (Fix.mk w (ghostOf s.heap [(239, 235)])).hb.get? sysModules = some o from hb _ _ ho (by decide)]; rfl
  refine t_law ⟨w, ghostOf s.heap [(239, 235)]⟩ callerA [tabP] [.tab qLam] s [.ref l] [.ilist ns] (.bool true) [.tab qLam] Q E G ⟨rfl, by decide +kernel, by decide +kernel⟩ ⟨fun b o e => of_hideAll _ e, rfl, fun i c e => ?_, List.nodup_cons.mpr ⟨List.not_mem_nil, List.nodup_nil⟩⟩ (.cons (.ilist (ghost_list hT hL) hI) .nil) (iff_pos ⟨hn, rfl, rfl⟩) fun v tk h' α' g hc hv old => ?_
  · cases i with
    | zero =>
      cases e
      exact ⟨tabP, rfl, .tab rfl e0 trivial (fun _ _ q => nomatch q), hideAll_none _ (List.mem_cons_self ..)⟩
    | succ i => cases e
  · have hv : v = .bool true := hv.inv
    subst hv
    refine hQ tk h' (fun b o e h => old b o e fun z => h (List.mem_singleton.mp z)) ?_
    obtain ⟨a, _, x, _⟩ := hc 0 (.tab qLam) rfl
    cases x with
    | tab ha ho _ _ =>
      subst ha
      exact ⟨_, ho⟩
theorem hh : PySem.Challenge.rw_og0081_01.Holds := by
  w_on
  refine holds_law said fun said => ?_
  refine holds_open (q := view) (loose := [Str.ofString "LedgerError"]) (Xt := fun s => xlAt view [] s && recOk (RowW.records PySem.Challenge.rw_og0081_01.row.toRowW) s) (XP := XL view []) (Yf := Hook.obs hook) (Ya := Hook.val hook) (YP := Hook.says hook) (N := 3672) left (Hook.of hook) (Hook.keeps hook) (fun s e => xl_of s (Bool.and_eq_true_iff.mp e).1) XL.keeps (by rfl) (by rfl) (by rfl) (fun s e => recFacts_of (Bool.and_eq_true_iff.mp e).2) (by first | rfl | fail "x") (by first | assumption | decide +kernel) (by decide +kernel) ⟨rfl, rfl, rfl, rfl, rfl, by decide +kernel⟩ ?hw ?hc
  case hw => w_witness2
  case hc =>
    intro w s₀ s₁ mg mb G Y fa o pm cd doc dV kV ho hd hcd hD hmg hg args vals as hpre hlay hrd hwl hlo
    have KX := km_in_of Y
    have KT := km_tabs_of Y
    refine Ground.open G ?_
    intro T B D TE TW
    have ef : fa = 291 := by
      have h1 := mg_of (n := Str.ofString "law") (v := .ref 291) KX T.g (by kernel_rfl)
      rw [show mg (Str.ofString "law") = some (.ref fa) from hmg] at h1
      cases h1; rfl
    clear ho hd hcd hD hmg
    subst ef
    have hse := T.seer (by kernel_rfl)
    clear B D TE TW
    have hT := forall_tab KX KT
    wrow_args hpre hlay hrd hwl hlo
    rename_i ns hs hlay0 hL1 hr1 hl2 as1 as2 l vs as3 hL ra w1 r0 hI hr hc1 hc2
    refine top_run KX KT T hse hL hI (by lia) fun tk h' old ⟨ps, hP⟩ => ?_
    have grown : ∀ b o, b = 235 → s₁.heap.get? b = some o → isCodeTable s₁.heap b ∧ o = tabObj #[] := fun b o hb e => by
      subst hb
      rw [KT 235 (List.mem_cons_self ..)] at e
      exact ⟨((hT _ (List.mem_cons_self ..)).1.tab (hT _ (List.mem_cons_self ..)).2).isCodeTable, (Option.some.inj e).symm⟩
    refine ⟨.inl ⟨.bool true, .bool true, [], rfl, raisesW_false (by wrow_none_raised), .bool true, by wrow_post, unshared_nil⟩, ⟨fun b o e => ?_, fun b o e => ?_⟩, rfl, .of_eq hg⟩
    · by_cases hb : b = 235
      · obtain ⟨ht, rfl⟩ := grown b o hb e
        subst hb
        exact .inr (.inl ⟨ht, rfl, #[], ps, rfl, by rw [Array.empty_append]; exact hP⟩)
      · exact .inl (old b o e hb)
    · by_cases hb : b = 235
      · subst hb; exact ⟨_, hP⟩
      · exact ⟨o, old b o e hb⟩
end Mine
theorem PySem.Challenge.cw_og0081_01_holds : PySem.Challenge.rw_og0081_01.Holds := by
  exact Mine.hh
