import PyProof.Rows.All
import Wide.All
import OpenK.AllK
import Wide.FinOn
import PySem.Challenge.RW_rr0018_01
open PySem PySem.W PyProof.Rows PySem.Spec PyProof.V
set_option Elab.async false
set_option maxRecDepth 100000
set_option maxHeartbeats 8000000
namespace Mine
/-- a type that carries a thing along: the unifier reads its parts -/
abbrev Along (α : Type) {β : Type} (_ : β) : Type := α
noncomputable abbrev stmts : List Stmt := PySem.Challenge.rw_rr0018_01.row.prog.main.body
noncomputable def st (i : Nat) : Stmt := (stmts[i]?).getD (.Pass default)
noncomputable def sub (s : Stmt) (j : Nat) : Stmt := match s with
  | .ClassDef _ _ _ b _ _ _ _ _ _ _ => (b[j]?).getD (.Pass default)
  | s => s
noncomputable def fnOf (s : Stmt) (q m : Str) (tok : Tok) (code : Addr) : Obj := match s with
  | .FunctionDef n a b _ _ _ sc _ _ _ => { cls := .type "function", data := .func { name := n, qualname := q, params := a, body := .stmts b, scope := sc, globals := 3, closure := [], defaults := .none, kwdefaults := .none, pyModule := .str m tok, code := .ref code } }
  | _ => { cls := .none, data := .plain }
noncomputable def hd.heap_39 : Params → Frag := fun P =>
  (nat_lit 2, { cls := PySem.Value.none, data := PySem.Data.dict #[{ hash := PySem.PyData.keyHash P (PySem.Str.ofString "type.__subclasses__.Exception.0"), key := PySem.Value.str (PySem.Str.ofString "type.__subclasses__.Exception.0") 212, val := PySem.Value.int 31 0 }, { hash := PySem.PyData.keyHash P (PySem.Str.ofString "type.__subclasses__.Exception.n"), key := PySem.Value.str (PySem.Str.ofString "type.__subclasses__.Exception.n") 213, val := PySem.Value.int 1 0 }] 2 }) ::
  (nat_lit 3, { cls := PySem.Value.type "dict", data := PySem.Data.dict (List.toArray ({ hash := PySem.PyData.keyHash P (PySem.Str.ofString "__name__"), key := PySem.Value.str (PySem.Str.ofString "__name__") 165, val := PySem.Value.str (PySem.Str.ofString "law_rr0018_01") 491 } :: { hash := PySem.PyData.keyHash P (PySem.Str.ofString "__doc__"), key := PySem.Value.str (PySem.Str.ofString "__doc__") 166, val := PySem.Value.none } :: { hash := PySem.PyData.keyHash P (PySem.Str.ofString "__package__"), key := PySem.Value.str (PySem.Str.ofString "__package__") 167, val := PySem.Value.none } :: { hash := PySem.PyData.keyHash P (PySem.Str.ofString "__loader__"), key := PySem.Value.str (PySem.Str.ofString "__loader__") 168, val := PySem.Value.builtin "__main__.__loader__#opaque" } :: { hash := PySem.PyData.keyHash P (PySem.Str.ofString "__spec__"), key := PySem.Value.str (PySem.Str.ofString "__spec__") 169, val := PySem.Value.none } :: { hash := PySem.PyData.keyHash P (PySem.Str.ofString "__annotations__"), key := PySem.Value.str (PySem.Str.ofString "__annotations__") 170, val := PySem.Value.ref 6 } :: { hash := PySem.PyData.keyHash P (PySem.Str.ofString "__builtins__"), key := PySem.Value.str (PySem.Str.ofString "__builtins__") 171, val := PySem.Value.ref 4 } :: { hash := PySem.PyData.keyHash P (PySem.Str.ofString "__file__"), key := PySem.Value.str (PySem.Str.ofString "__file__") 173, val := PySem.Value.str (PySem.Str.ofString "/claim/cut.py") 172 } :: { hash := PySem.PyData.keyHash P (PySem.Str.ofString "__cached__"), key := PySem.Value.str (PySem.Str.ofString "__cached__") 174, val := PySem.Value.none } :: { hash := PySem.PyData.keyHash P (PySem.Str.ofString "_wall"), key := PySem.Value.str (PySem.Str.ofString "_wall") 193, val := PySem.Value.ref 21 } :: { hash := PySem.PyData.keyHash P (PySem.Str.ofString "ClausemillError"), key := PySem.Value.str (PySem.Str.ofString "ClausemillError") 215, val := PySem.Value.ref 31 } :: { hash := PySem.PyData.keyHash P (PySem.Str.ofString "PrologError"), key := PySem.Value.str (PySem.Str.ofString "PrologError") 240, val := PySem.Value.ref 51 } :: { hash := PySem.PyData.keyHash P (PySem.Str.ofString "A_CUT"), key := PySem.Value.str (PySem.Str.ofString "A_CUT") 242, val := PySem.Value.int 15 241 } :: { hash := PySem.PyData.keyHash P (PySem.Str.ofString "A_TRUE"), key := PySem.Value.str (PySem.Str.ofString "A_TRUE") 244, val := PySem.Value.int 16 243 } :: { hash := PySem.PyData.keyHash P (PySem.Str.ofString "A_SYSTEM"), key := PySem.Value.str (PySem.Str.ofString "A_SYSTEM") 246, val := PySem.Value.int 25 245 } :: { hash := PySem.PyData.keyHash P (PySem.Str.ofString "F_COMMA"), key := PySem.Value.str (PySem.Str.ofString "F_COMMA") 248, val := PySem.Value.int 1 247 } :: { hash := PySem.PyData.keyHash P (PySem.Str.ofString "F_SEMI"), key := PySem.Value.str (PySem.Str.ofString "F_SEMI") 250, val := PySem.Value.int 2 249 } :: { hash := PySem.PyData.keyHash P (PySem.Str.ofString "F_ARROW"), key := PySem.Value.str (PySem.Str.ofString "F_ARROW") 252, val := PySem.Value.int 3 251 } :: { hash := PySem.PyData.keyHash P (PySem.Str.ofString "F_NOT"), key := PySem.Value.str (PySem.Str.ofString "F_NOT") 254, val := PySem.Value.int 4 253 } :: { hash := PySem.PyData.keyHash P (PySem.Str.ofString "F_NECK"), key := PySem.Value.str (PySem.Str.ofString "F_NECK") 256, val := PySem.Value.int 5 255 } :: { hash := PySem.PyData.keyHash P (PySem.Str.ofString "F_ERROR"), key := PySem.Value.str (PySem.Str.ofString "F_ERROR") 258, val := PySem.Value.int 16 257 } :: { hash := PySem.PyData.keyHash P (PySem.Str.ofString "fixed_atoms"), key := PySem.Value.str (PySem.Str.ofString "fixed_atoms") 264, val := PySem.Value.ref 60 } :: { hash := PySem.PyData.keyHash P (PySem.Str.ofString "fixed_functors"), key := PySem.Value.str (PySem.Str.ofString "fixed_functors") 270, val := PySem.Value.ref 67 } :: { hash := PySem.PyData.keyHash P (PySem.Str.ofString "Symbols"), key := PySem.Value.str (PySem.Str.ofString "Symbols") 389, val := PySem.Value.ref 154 } :: { hash := PySem.PyData.keyHash P (PySem.Str.ofString "flat_goals"), key := PySem.Value.str (PySem.Str.ofString "flat_goals") 401, val := PySem.Value.ref 165 } :: { hash := PySem.PyData.keyHash P (PySem.Str.ofString "has_cut"), key := PySem.Value.str (PySem.Str.ofString "has_cut") 410, val := PySem.Value.ref 172 } :: { hash := PySem.PyData.keyHash P (PySem.Str.ofString "atom"), key := PySem.Value.str (PySem.Str.ofString "atom") 419, val := PySem.Value.ref 179 } :: { hash := PySem.PyData.keyHash P (PySem.Str.ofString "is_callable"), key := PySem.Value.str (PySem.Str.ofString "is_callable") 426, val := PySem.Value.ref 186 } :: { hash := PySem.PyData.keyHash P (PySem.Str.ofString "system_error"), key := PySem.Value.str (PySem.Str.ofString "system_error") 433, val := PySem.Value.ref 193 } :: { hash := PySem.PyData.keyHash P (PySem.Str.ofString "formal_of"), key := PySem.Value.str (PySem.Str.ofString "formal_of") 444, val := PySem.Value.ref 200 } :: { hash := PySem.PyData.keyHash P (PySem.Str.ofString "instantiation_error"), key := PySem.Value.str (PySem.Str.ofString "instantiation_error") 451, val := PySem.Value.ref 207 } :: { hash := PySem.PyData.keyHash P (PySem.Str.ofString "type_error"), key := PySem.Value.str (PySem.Str.ofString "type_error") 460, val := PySem.Value.ref 214 } :: { hash := PySem.PyData.keyHash P (PySem.Str.ofString "is_body"), key := PySem.Value.str (PySem.Str.ofString "is_body") 471, val := PySem.Value.ref 221 } :: { hash := PySem.PyData.keyHash P (PySem.Str.ofString "split_clause"), key := PySem.Value.str (PySem.Str.ofString "split_clause") 481, val := PySem.Value.ref 228 } :: { hash := PySem.PyData.keyHash P (PySem.Str.ofString "right_spine"), key := PySem.Value.str (PySem.Str.ofString "right_spine") 490, val := PySem.Value.ref 235 } :: { hash := PySem.PyData.keyHash P (PySem.Str.ofString "_law_roll"), key := PySem.Value.str (PySem.Str.ofString "_law_roll") 501, val := PySem.Value.ref 242 } :: { hash := PySem.PyData.keyHash P (PySem.Str.ofString "_law_leaf"), key := PySem.Value.str (PySem.Str.ofString "_law_leaf") 510, val := PySem.Value.ref 249 } :: { hash := PySem.PyData.keyHash P (PySem.Str.ofString "_law_body"), key := PySem.Value.str (PySem.Str.ofString "_law_body") 522, val := PySem.Value.ref 256 } :: { hash := PySem.PyData.keyHash P (PySem.Str.ofString "_law_under"), key := PySem.Value.str (PySem.Str.ofString "_law_under") 530, val := PySem.Value.ref 263 } :: { hash := PySem.PyData.keyHash P (PySem.Str.ofString "_law_goals"), key := PySem.Value.str (PySem.Str.ofString "_law_goals") 537, val := PySem.Value.ref 270 } :: { hash := PySem.PyData.keyHash P (PySem.Str.ofString "_law_cuts"), key := PySem.Value.str (PySem.Str.ofString "_law_cuts") 544, val := PySem.Value.ref 277 } :: { hash := PySem.PyData.keyHash P (PySem.Str.ofString "_law_sound"), key := PySem.Value.str (PySem.Str.ofString "_law_sound") 551, val := PySem.Value.ref 284 } :: { hash := PySem.PyData.keyHash P (PySem.Str.ofString "_law_spine"), key := PySem.Value.str (PySem.Str.ofString "_law_spine") 559, val := PySem.Value.ref 291 } :: { hash := PySem.PyData.keyHash P (PySem.Str.ofString "_law_split"), key := PySem.Value.str (PySem.Str.ofString "_law_split") 568, val := PySem.Value.ref 298 } :: { hash := PySem.PyData.keyHash P (PySem.Str.ofString "law"), key := PySem.Value.str (PySem.Str.ofString "law") 581, val := PySem.Value.ref 305 } :: [])) 45 }) ::
  (nat_lit 15, { cls := PySem.Value.type "tuple", data := PySem.Data.seq #[] }) ::
  (nat_lit 17, { cls := PySem.Value.type "tuple", data := PySem.Data.seq #[PySem.Value.str (PySem.Str.ofString "k") 190] }) ::
  (nat_lit 18, { cls := PySem.Value.type "tuple", data := PySem.Data.seq #[] }) ::
  (nat_lit 20, { cls := PySem.Value.type "code", data := PySem.Data.fields #[PySem.Value.str (PySem.Str.ofString "_wall") 187, PySem.Value.str (PySem.Str.ofString "_wall") 188, PySem.Value.str (PySem.Str.ofString "/claim/cut.py") 189, PySem.Value.int 1 0, PySem.Value.int 1 0, PySem.Value.int 0 0, PySem.Value.int 0 0, PySem.Value.int 3 0, PySem.Value.ref 15, PySem.Value.bool Bool.true, PySem.Value.int 181 0, PySem.Value.ref 16, PySem.Value.none, PySem.Value.ref 17, PySem.Value.ref 18, PySem.Value.ref 19, PySem.Value.int 191 0, PySem.Value.int 1 0, PySem.Value.str (PySem.Str.ofString "/claim/cut.py") 192] }) ::
  (nat_lit 21, fnOf (st 0) (Str.ofString "_wall") (Str.ofString "__main__") 164 20) ::
  (nat_lit 22, { cls := PySem.Value.type "tuple", data := PySem.Data.seq #[PySem.Value.type "Exception"] }) ::
  (nat_lit 29, { cls := PySem.Value.type "tuple", data := PySem.Data.seq #[] }) ::
  (nat_lit 30, { cls := PySem.Value.type "dict", data := PySem.Data.dict #[{ hash := PySem.PyData.keyHash P (PySem.Str.ofString "__module__"), key := PySem.Value.str (PySem.Str.ofString "__module__") 203, val := PySem.Value.str (PySem.Str.ofString "clausemill.symbols") 194 }, { hash := PySem.PyData.keyHash P (PySem.Str.ofString "__firstlineno__"), key := PySem.Value.str (PySem.Str.ofString "__firstlineno__") 207, val := PySem.Value.int 5 206 }, { hash := PySem.PyData.keyHash P (PySem.Str.ofString "__static_attributes__"), key := PySem.Value.str (PySem.Str.ofString "__static_attributes__") 208, val := PySem.Value.ref 29 }, { hash := PySem.PyData.keyHash P (PySem.Str.ofString "__weakref__"), key := PySem.Value.str (PySem.Str.ofString "__weakref__") 210, val := PySem.Value.ref 32 }, { hash := PySem.PyData.keyHash P (PySem.Str.ofString "__doc__"), key := PySem.Value.str (PySem.Str.ofString "__doc__") 211, val := PySem.Value.none }] 3 }) ::
  (nat_lit 31, { cls := PySem.Value.type "type", data := PySem.Data.cls { name := PySem.Str.ofString "ClausemillError", bases := [PySem.Value.type "Exception"], mro := [PySem.Value.ref 31, PySem.Value.type "Exception", PySem.Value.type "BaseException", PySem.Value.type "object"], ns := 30, qualname := PySem.Str.ofString "ClausemillError", subclasses := [PySem.Value.ref 51] }, slots := #[Option.some (PySem.Value.ref 22), Option.none, Option.some (PySem.Value.str (PySem.Str.ofString "ClausemillError") 196), Option.some (PySem.Value.str (PySem.Str.ofString "ClausemillError") 204), Option.some (PySem.Value.builtin "Exception.__new__"), Option.some (PySem.Value.bool Bool.true)] }) ::
  (nat_lit 32, { cls := PySem.Value.type "getset_descriptor", data := PySem.Data.fields #[PySem.Value.str (PySem.Str.ofString "__weakref__") 209, PySem.Value.ref 31, PySem.Value.builtin "ExceptionGroup.__weakref__", PySem.Value.none] }) ::
  (nat_lit 35, { cls := PySem.Value.type "tuple", data := PySem.Data.seq #[PySem.Value.ref 31] }) ::
  (nat_lit 42, { cls := PySem.Value.type "tuple", data := PySem.Data.seq #[] }) ::
  (nat_lit 44, { cls := PySem.Value.type "tuple", data := PySem.Data.seq #[PySem.Value.str (PySem.Str.ofString "self") 231, PySem.Value.str (PySem.Str.ofString "ball") 232] }) ::
  (nat_lit 45, { cls := PySem.Value.type "tuple", data := PySem.Data.seq #[] }) ::
  (nat_lit 47, { cls := PySem.Value.type "code", data := PySem.Data.fields #[PySem.Value.str (PySem.Str.ofString "__init__") 228, PySem.Value.str (PySem.Str.ofString "PrologError.__init__") 229, PySem.Value.str (PySem.Str.ofString "/claim/cut.py") 230, PySem.Value.int 9 0, PySem.Value.int 2 0, PySem.Value.int 0 0, PySem.Value.int 0 0, PySem.Value.int 3 0, PySem.Value.ref 42, PySem.Value.bool Bool.true, PySem.Value.int 181 0, PySem.Value.ref 43, PySem.Value.none, PySem.Value.ref 44, PySem.Value.ref 45, PySem.Value.ref 46, PySem.Value.int 233 0, PySem.Value.int 9 0, PySem.Value.str (PySem.Str.ofString "/claim/cut.py") 234] }) ::
  (nat_lit 48, fnOf (sub (st 3) 0) (Str.ofString "PrologError.__init__") (Str.ofString "clausemill.symbols") 194 47) ::
  (nat_lit 49, { cls := PySem.Value.type "tuple", data := PySem.Data.seq #[PySem.Value.str (PySem.Str.ofString "ball") 236] }) ::
  (nat_lit 50, { cls := PySem.Value.type "dict", data := PySem.Data.dict #[{ hash := PySem.PyData.keyHash P (PySem.Str.ofString "__module__"), key := PySem.Value.str (PySem.Str.ofString "__module__") 223, val := PySem.Value.str (PySem.Str.ofString "clausemill.symbols") 194 }, { hash := PySem.PyData.keyHash P (PySem.Str.ofString "__firstlineno__"), key := PySem.Value.str (PySem.Str.ofString "__firstlineno__") 227, val := PySem.Value.int 7 226 }, { hash := PySem.PyData.keyHash P (PySem.Str.ofString "__init__"), key := PySem.Value.str (PySem.Str.ofString "__init__") 235, val := PySem.Value.ref 48 }, { hash := PySem.PyData.keyHash P (PySem.Str.ofString "__static_attributes__"), key := PySem.Value.str (PySem.Str.ofString "__static_attributes__") 237, val := PySem.Value.ref 49 }, { hash := PySem.PyData.keyHash P (PySem.Str.ofString "__doc__"), key := PySem.Value.str (PySem.Str.ofString "__doc__") 238, val := PySem.Value.none }] 2 }) ::
  (nat_lit 51, { cls := PySem.Value.type "type", data := PySem.Data.cls { name := PySem.Str.ofString "PrologError", bases := [PySem.Value.ref 31], mro := [PySem.Value.ref 51, PySem.Value.ref 31, PySem.Value.type "Exception", PySem.Value.type "BaseException", PySem.Value.type "object"], ns := 50, qualname := PySem.Str.ofString "PrologError" }, slots := #[Option.some (PySem.Value.ref 35), Option.none, Option.some (PySem.Value.str (PySem.Str.ofString "PrologError") 216), Option.some (PySem.Value.str (PySem.Str.ofString "PrologError") 224), Option.some (PySem.Value.builtin "Exception.__new__"), Option.some (PySem.Value.bool Bool.true)] }) ::
  (nat_lit 54, { cls := PySem.Value.type "tuple", data := PySem.Data.seq #[] }) ::
  (nat_lit 56, { cls := PySem.Value.type "tuple", data := PySem.Data.seq #[] }) ::
  (nat_lit 57, { cls := PySem.Value.type "tuple", data := PySem.Data.seq #[] }) ::
  (nat_lit 59, { cls := PySem.Value.type "code", data := PySem.Data.fields #[PySem.Value.str (PySem.Str.ofString "fixed_atoms") 259, PySem.Value.str (PySem.Str.ofString "fixed_atoms") 260, PySem.Value.str (PySem.Str.ofString "/claim/cut.py") 261, PySem.Value.int 20 0, PySem.Value.int 0 0, PySem.Value.int 0 0, PySem.Value.int 0 0, PySem.Value.int 3 0, PySem.Value.ref 54, PySem.Value.bool Bool.true, PySem.Value.int 181 0, PySem.Value.ref 55, PySem.Value.none, PySem.Value.ref 56, PySem.Value.ref 57, PySem.Value.ref 58, PySem.Value.int 262 0, PySem.Value.int 20 0, PySem.Value.str (PySem.Str.ofString "/claim/cut.py") 263] }) ::
  (nat_lit 60, fnOf (st 13) (Str.ofString "fixed_atoms") (Str.ofString "clausemill.symbols") 194 59) ::
  (nat_lit 61, { cls := PySem.Value.type "tuple", data := PySem.Data.seq #[] }) ::
  (nat_lit 63, { cls := PySem.Value.type "tuple", data := PySem.Data.seq #[] }) ::
  (nat_lit 64, { cls := PySem.Value.type "tuple", data := PySem.Data.seq #[] }) ::
  (nat_lit 66, { cls := PySem.Value.type "code", data := PySem.Data.fields #[PySem.Value.str (PySem.Str.ofString "fixed_functors") 265, PySem.Value.str (PySem.Str.ofString "fixed_functors") 266, PySem.Value.str (PySem.Str.ofString "/claim/cut.py") 267, PySem.Value.int 22 0, PySem.Value.int 0 0, PySem.Value.int 0 0, PySem.Value.int 0 0, PySem.Value.int 3 0, PySem.Value.ref 61, PySem.Value.bool Bool.true, PySem.Value.int 181 0, PySem.Value.ref 62, PySem.Value.none, PySem.Value.ref 63, PySem.Value.ref 64, PySem.Value.ref 65, PySem.Value.int 268 0, PySem.Value.int 22 0, PySem.Value.str (PySem.Str.ofString "/claim/cut.py") 269] }) ::
  (nat_lit 67, fnOf (st 14) (Str.ofString "fixed_functors") (Str.ofString "clausemill.symbols") 194 66) ::
  (nat_lit 75, { cls := PySem.Value.type "tuple", data := PySem.Data.seq #[] }) ::
  (nat_lit 77, { cls := PySem.Value.type "tuple", data := PySem.Data.seq #[PySem.Value.str (PySem.Str.ofString "self") 286, PySem.Value.str (PySem.Str.ofString "text") 287, PySem.Value.str (PySem.Str.ofString "row") 288] }) ::
  (nat_lit 78, { cls := PySem.Value.type "tuple", data := PySem.Data.seq #[] }) ::
  (nat_lit 80, { cls := PySem.Value.type "code", data := PySem.Data.fields #[PySem.Value.str (PySem.Str.ofString "__init__") 283, PySem.Value.str (PySem.Str.ofString "Symbols.__init__") 284, PySem.Value.str (PySem.Str.ofString "/claim/cut.py") 285, PySem.Value.int 26 0, PySem.Value.int 1 0, PySem.Value.int 0 0, PySem.Value.int 0 0, PySem.Value.int 3 0, PySem.Value.ref 75, PySem.Value.bool Bool.true, PySem.Value.int 181 0, PySem.Value.ref 76, PySem.Value.none, PySem.Value.ref 77, PySem.Value.ref 78, PySem.Value.ref 79, PySem.Value.int 289 0, PySem.Value.int 26 0, PySem.Value.str (PySem.Str.ofString "/claim/cut.py") 290] }) ::
  (nat_lit 81, fnOf (sub (st 15) 0) (Str.ofString "Symbols.__init__") (Str.ofString "clausemill.symbols") 194 80) ::
  (nat_lit 82, { cls := PySem.Value.type "tuple", data := PySem.Data.seq #[] }) ::
  (nat_lit 84, { cls := PySem.Value.type "tuple", data := PySem.Data.seq #[PySem.Value.str (PySem.Str.ofString "self") 295, PySem.Value.str (PySem.Str.ofString "text") 296, PySem.Value.str (PySem.Str.ofString "found") 297, PySem.Value.str (PySem.Str.ofString "number") 298] }) ::
  (nat_lit 85, { cls := PySem.Value.type "tuple", data := PySem.Data.seq #[] }) ::
  (nat_lit 87, { cls := PySem.Value.type "code", data := PySem.Data.fields #[PySem.Value.str (PySem.Str.ofString "atom") 292, PySem.Value.str (PySem.Str.ofString "Symbols.atom") 293, PySem.Value.str (PySem.Str.ofString "/claim/cut.py") 294, PySem.Value.int 36 0, PySem.Value.int 2 0, PySem.Value.int 0 0, PySem.Value.int 0 0, PySem.Value.int 3 0, PySem.Value.ref 82, PySem.Value.bool Bool.true, PySem.Value.int 181 0, PySem.Value.ref 83, PySem.Value.none, PySem.Value.ref 84, PySem.Value.ref 85, PySem.Value.ref 86, PySem.Value.int 299 0, PySem.Value.int 36 0, PySem.Value.str (PySem.Str.ofString "/claim/cut.py") 300] }) ::
  (nat_lit 88, fnOf (sub (st 15) 1) (Str.ofString "Symbols.atom") (Str.ofString "clausemill.symbols") 194 87) ::
  (nat_lit 89, { cls := PySem.Value.type "tuple", data := PySem.Data.seq #[] }) ::
  (nat_lit 91, { cls := PySem.Value.type "tuple", data := PySem.Data.seq #[PySem.Value.str (PySem.Str.ofString "self") 305, PySem.Value.str (PySem.Str.ofString "number") 306] }) ::
  (nat_lit 92, { cls := PySem.Value.type "tuple", data := PySem.Data.seq #[] }) ::
  (nat_lit 94, { cls := PySem.Value.type "code", data := PySem.Data.fields #[PySem.Value.str (PySem.Str.ofString "text") 302, PySem.Value.str (PySem.Str.ofString "Symbols.text") 303, PySem.Value.str (PySem.Str.ofString "/claim/cut.py") 304, PySem.Value.int 45 0, PySem.Value.int 2 0, PySem.Value.int 0 0, PySem.Value.int 0 0, PySem.Value.int 3 0, PySem.Value.ref 89, PySem.Value.bool Bool.true, PySem.Value.int 181 0, PySem.Value.ref 90, PySem.Value.none, PySem.Value.ref 91, PySem.Value.ref 92, PySem.Value.ref 93, PySem.Value.int 307 0, PySem.Value.int 45 0, PySem.Value.str (PySem.Str.ofString "/claim/cut.py") 308] }) ::
  (nat_lit 95, fnOf (sub (st 15) 2) (Str.ofString "Symbols.text") (Str.ofString "clausemill.symbols") 194 94) ::
  (nat_lit 96, { cls := PySem.Value.type "tuple", data := PySem.Data.seq #[] }) ::
  (nat_lit 98, { cls := PySem.Value.type "tuple", data := PySem.Data.seq #[PySem.Value.str (PySem.Str.ofString "self") 313, PySem.Value.str (PySem.Str.ofString "atom") 314, PySem.Value.str (PySem.Str.ofString "arity") 315, PySem.Value.str (PySem.Str.ofString "key") 316, PySem.Value.str (PySem.Str.ofString "found") 317, PySem.Value.str (PySem.Str.ofString "number") 318] }) ::
  (nat_lit 99, { cls := PySem.Value.type "tuple", data := PySem.Data.seq #[] }) ::
  (nat_lit 101, { cls := PySem.Value.type "code", data := PySem.Data.fields #[PySem.Value.str (PySem.Str.ofString "functor") 310, PySem.Value.str (PySem.Str.ofString "Symbols.functor") 311, PySem.Value.str (PySem.Str.ofString "/claim/cut.py") 312, PySem.Value.int 48 0, PySem.Value.int 3 0, PySem.Value.int 0 0, PySem.Value.int 0 0, PySem.Value.int 3 0, PySem.Value.ref 96, PySem.Value.bool Bool.true, PySem.Value.int 181 0, PySem.Value.ref 97, PySem.Value.none, PySem.Value.ref 98, PySem.Value.ref 99, PySem.Value.ref 100, PySem.Value.int 319 0, PySem.Value.int 48 0, PySem.Value.str (PySem.Str.ofString "/claim/cut.py") 320] }) ::
  (nat_lit 102, fnOf (sub (st 15) 3) (Str.ofString "Symbols.functor") (Str.ofString "clausemill.symbols") 194 101) ::
  (nat_lit 103, { cls := PySem.Value.type "tuple", data := PySem.Data.seq #[] }) ::
  (nat_lit 105, { cls := PySem.Value.type "tuple", data := PySem.Data.seq #[PySem.Value.str (PySem.Str.ofString "self") 325, PySem.Value.str (PySem.Str.ofString "text") 326, PySem.Value.str (PySem.Str.ofString "arity") 327] }) ::
  (nat_lit 106, { cls := PySem.Value.type "tuple", data := PySem.Data.seq #[] }) ::
  (nat_lit 108, { cls := PySem.Value.type "code", data := PySem.Data.fields #[PySem.Value.str (PySem.Str.ofString "func") 322, PySem.Value.str (PySem.Str.ofString "Symbols.func") 323, PySem.Value.str (PySem.Str.ofString "/claim/cut.py") 324, PySem.Value.int 58 0, PySem.Value.int 3 0, PySem.Value.int 0 0, PySem.Value.int 0 0, PySem.Value.int 3 0, PySem.Value.ref 103, PySem.Value.bool Bool.true, PySem.Value.int 181 0, PySem.Value.ref 104, PySem.Value.none, PySem.Value.ref 105, PySem.Value.ref 106, PySem.Value.ref 107, PySem.Value.int 328 0, PySem.Value.int 58 0, PySem.Value.str (PySem.Str.ofString "/claim/cut.py") 329] }) ::
  (nat_lit 109, fnOf (sub (st 15) 4) (Str.ofString "Symbols.func") (Str.ofString "clausemill.symbols") 194 108) ::
  (nat_lit 110, { cls := PySem.Value.type "tuple", data := PySem.Data.seq #[] }) ::
  (nat_lit 112, { cls := PySem.Value.type "tuple", data := PySem.Data.seq #[PySem.Value.str (PySem.Str.ofString "self") 334, PySem.Value.str (PySem.Str.ofString "functor") 335] }) ::
  (nat_lit 113, { cls := PySem.Value.type "tuple", data := PySem.Data.seq #[] }) ::
  (nat_lit 115, { cls := PySem.Value.type "code", data := PySem.Data.fields #[PySem.Value.str (PySem.Str.ofString "name") 331, PySem.Value.str (PySem.Str.ofString "Symbols.name") 332, PySem.Value.str (PySem.Str.ofString "/claim/cut.py") 333, PySem.Value.int 61 0, PySem.Value.int 2 0, PySem.Value.int 0 0, PySem.Value.int 0 0, PySem.Value.int 3 0, PySem.Value.ref 110, PySem.Value.bool Bool.true, PySem.Value.int 181 0, PySem.Value.ref 111, PySem.Value.none, PySem.Value.ref 112, PySem.Value.ref 113, PySem.Value.ref 114, PySem.Value.int 336 0, PySem.Value.int 61 0, PySem.Value.str (PySem.Str.ofString "/claim/cut.py") 337] }) ::
  (nat_lit 116, fnOf (sub (st 15) 5) (Str.ofString "Symbols.name") (Str.ofString "clausemill.symbols") 194 115) ::
  (nat_lit 117, { cls := PySem.Value.type "tuple", data := PySem.Data.seq #[] }) ::
  (nat_lit 119, { cls := PySem.Value.type "tuple", data := PySem.Data.seq #[PySem.Value.str (PySem.Str.ofString "self") 342, PySem.Value.str (PySem.Str.ofString "functor") 343] }) ::
  (nat_lit 120, { cls := PySem.Value.type "tuple", data := PySem.Data.seq #[] }) ::
  (nat_lit 122, { cls := PySem.Value.type "code", data := PySem.Data.fields #[PySem.Value.str (PySem.Str.ofString "arity") 339, PySem.Value.str (PySem.Str.ofString "Symbols.arity") 340, PySem.Value.str (PySem.Str.ofString "/claim/cut.py") 341, PySem.Value.int 64 0, PySem.Value.int 2 0, PySem.Value.int 0 0, PySem.Value.int 0 0, PySem.Value.int 3 0, PySem.Value.ref 117, PySem.Value.bool Bool.true, PySem.Value.int 181 0, PySem.Value.ref 118, PySem.Value.none, PySem.Value.ref 119, PySem.Value.ref 120, PySem.Value.ref 121, PySem.Value.int 344 0, PySem.Value.int 64 0, PySem.Value.str (PySem.Str.ofString "/claim/cut.py") 345] }) ::
  (nat_lit 123, fnOf (sub (st 15) 6) (Str.ofString "Symbols.arity") (Str.ofString "clausemill.symbols") 194 122) ::
  (nat_lit 124, { cls := PySem.Value.type "tuple", data := PySem.Data.seq #[] }) ::
  (nat_lit 126, { cls := PySem.Value.type "tuple", data := PySem.Data.seq #[PySem.Value.str (PySem.Str.ofString "self") 350, PySem.Value.str (PySem.Str.ofString "functor") 351] }) ::
  (nat_lit 127, { cls := PySem.Value.type "tuple", data := PySem.Data.seq #[] }) ::
  (nat_lit 129, { cls := PySem.Value.type "code", data := PySem.Data.fields #[PySem.Value.str (PySem.Str.ofString "label") 347, PySem.Value.str (PySem.Str.ofString "Symbols.label") 348, PySem.Value.str (PySem.Str.ofString "/claim/cut.py") 349, PySem.Value.int 67 0, PySem.Value.int 2 0, PySem.Value.int 0 0, PySem.Value.int 0 0, PySem.Value.int 3 0, PySem.Value.ref 124, PySem.Value.bool Bool.true, PySem.Value.int 181 0, PySem.Value.ref 125, PySem.Value.none, PySem.Value.ref 126, PySem.Value.ref 127, PySem.Value.ref 128, PySem.Value.int 352 0, PySem.Value.int 67 0, PySem.Value.str (PySem.Str.ofString "/claim/cut.py") 353] }) ::
  (nat_lit 130, fnOf (sub (st 15) 7) (Str.ofString "Symbols.label") (Str.ofString "clausemill.symbols") 194 129) ::
  (nat_lit 131, { cls := PySem.Value.type "tuple", data := PySem.Data.seq #[] }) ::
  (nat_lit 133, { cls := PySem.Value.type "tuple", data := PySem.Data.seq #[PySem.Value.str (PySem.Str.ofString "self") 358] }) ::
  (nat_lit 134, { cls := PySem.Value.type "tuple", data := PySem.Data.seq #[] }) ::
  (nat_lit 136, { cls := PySem.Value.type "code", data := PySem.Data.fields #[PySem.Value.str (PySem.Str.ofString "count") 355, PySem.Value.str (PySem.Str.ofString "Symbols.count") 356, PySem.Value.str (PySem.Str.ofString "/claim/cut.py") 357, PySem.Value.int 70 0, PySem.Value.int 1 0, PySem.Value.int 0 0, PySem.Value.int 0 0, PySem.Value.int 3 0, PySem.Value.ref 131, PySem.Value.bool Bool.true, PySem.Value.int 181 0, PySem.Value.ref 132, PySem.Value.none, PySem.Value.ref 133, PySem.Value.ref 134, PySem.Value.ref 135, PySem.Value.int 359 0, PySem.Value.int 70 0, PySem.Value.str (PySem.Str.ofString "/claim/cut.py") 360] }) ::
  (nat_lit 137, fnOf (sub (st 15) 8) (Str.ofString "Symbols.count") (Str.ofString "clausemill.symbols") 194 136) ::
  (nat_lit 138, { cls := PySem.Value.type "tuple", data := PySem.Data.seq #[] }) ::
  (nat_lit 140, { cls := PySem.Value.type "tuple", data := PySem.Data.seq #[PySem.Value.str (PySem.Str.ofString "self") 365] }) ::
  (nat_lit 141, { cls := PySem.Value.type "tuple", data := PySem.Data.seq #[] }) ::
  (nat_lit 143, { cls := PySem.Value.type "code", data := PySem.Data.fields #[PySem.Value.str (PySem.Str.ofString "functor_count") 362, PySem.Value.str (PySem.Str.ofString "Symbols.functor_count") 363, PySem.Value.str (PySem.Str.ofString "/claim/cut.py") 364, PySem.Value.int 73 0, PySem.Value.int 1 0, PySem.Value.int 0 0, PySem.Value.int 0 0, PySem.Value.int 3 0, PySem.Value.ref 138, PySem.Value.bool Bool.true, PySem.Value.int 181 0, PySem.Value.ref 139, PySem.Value.none, PySem.Value.ref 140, PySem.Value.ref 141, PySem.Value.ref 142, PySem.Value.int 366 0, PySem.Value.int 73 0, PySem.Value.str (PySem.Str.ofString "/claim/cut.py") 367] }) ::
  (nat_lit 144, fnOf (sub (st 15) 9) (Str.ofString "Symbols.functor_count") (Str.ofString "clausemill.symbols") 194 143) ::
  (nat_lit 145, { cls := PySem.Value.type "tuple", data := PySem.Data.seq #[] }) ::
  (nat_lit 147, { cls := PySem.Value.type "tuple", data := PySem.Data.seq #[PySem.Value.str (PySem.Str.ofString "self") 372, PySem.Value.str (PySem.Str.ofString "text") 373, PySem.Value.str (PySem.Str.ofString "arity") 374] }) ::
  (nat_lit 148, { cls := PySem.Value.type "tuple", data := PySem.Data.seq #[] }) ::
  (nat_lit 150, { cls := PySem.Value.type "code", data := PySem.Data.fields #[PySem.Value.str (PySem.Str.ofString "known") 369, PySem.Value.str (PySem.Str.ofString "Symbols.known") 370, PySem.Value.str (PySem.Str.ofString "/claim/cut.py") 371, PySem.Value.int 76 0, PySem.Value.int 3 0, PySem.Value.int 0 0, PySem.Value.int 0 0, PySem.Value.int 3 0, PySem.Value.ref 145, PySem.Value.bool Bool.true, PySem.Value.int 181 0, PySem.Value.ref 146, PySem.Value.none, PySem.Value.ref 147, PySem.Value.ref 148, PySem.Value.ref 149, PySem.Value.int 375 0, PySem.Value.int 76 0, PySem.Value.str (PySem.Str.ofString "/claim/cut.py") 376] }) ::
  (nat_lit 151, fnOf (sub (st 15) 10) (Str.ofString "Symbols.known") (Str.ofString "clausemill.symbols") 194 150) ::
  (nat_lit 152, { cls := PySem.Value.type "tuple", data := PySem.Data.seq #[PySem.Value.str (PySem.Str.ofString "atom_numbers") 378, PySem.Value.str (PySem.Str.ofString "functor_numbers") 379, PySem.Value.str (PySem.Str.ofString "functors") 380, PySem.Value.str (PySem.Str.ofString "texts") 381] }) ::
  (nat_lit 153, { cls := PySem.Value.type "dict", data := PySem.Data.dict #[{ hash := PySem.PyData.keyHash P (PySem.Str.ofString "__module__"), key := PySem.Value.str (PySem.Str.ofString "__module__") 278, val := PySem.Value.str (PySem.Str.ofString "clausemill.symbols") 194 }, { hash := PySem.PyData.keyHash P (PySem.Str.ofString "__firstlineno__"), key := PySem.Value.str (PySem.Str.ofString "__firstlineno__") 282, val := PySem.Value.int 24 281 }, { hash := PySem.PyData.keyHash P (PySem.Str.ofString "__init__"), key := PySem.Value.str (PySem.Str.ofString "__init__") 291, val := PySem.Value.ref 81 }, { hash := PySem.PyData.keyHash P (PySem.Str.ofString "atom"), key := PySem.Value.str (PySem.Str.ofString "atom") 301, val := PySem.Value.ref 88 }, { hash := PySem.PyData.keyHash P (PySem.Str.ofString "text"), key := PySem.Value.str (PySem.Str.ofString "text") 309, val := PySem.Value.ref 95 }, { hash := PySem.PyData.keyHash P (PySem.Str.ofString "functor"), key := PySem.Value.str (PySem.Str.ofString "functor") 321, val := PySem.Value.ref 102 }, { hash := PySem.PyData.keyHash P (PySem.Str.ofString "func"), key := PySem.Value.str (PySem.Str.ofString "func") 330, val := PySem.Value.ref 109 }, { hash := PySem.PyData.keyHash P (PySem.Str.ofString "name"), key := PySem.Value.str (PySem.Str.ofString "name") 338, val := PySem.Value.ref 116 }, { hash := PySem.PyData.keyHash P (PySem.Str.ofString "arity"), key := PySem.Value.str (PySem.Str.ofString "arity") 346, val := PySem.Value.ref 123 }, { hash := PySem.PyData.keyHash P (PySem.Str.ofString "label"), key := PySem.Value.str (PySem.Str.ofString "label") 354, val := PySem.Value.ref 130 }, { hash := PySem.PyData.keyHash P (PySem.Str.ofString "count"), key := PySem.Value.str (PySem.Str.ofString "count") 361, val := PySem.Value.ref 137 }, { hash := PySem.PyData.keyHash P (PySem.Str.ofString "functor_count"), key := PySem.Value.str (PySem.Str.ofString "functor_count") 368, val := PySem.Value.ref 144 }, { hash := PySem.PyData.keyHash P (PySem.Str.ofString "known"), key := PySem.Value.str (PySem.Str.ofString "known") 377, val := PySem.Value.ref 151 }, { hash := PySem.PyData.keyHash P (PySem.Str.ofString "__static_attributes__"), key := PySem.Value.str (PySem.Str.ofString "__static_attributes__") 382, val := PySem.Value.ref 152 }, { hash := PySem.PyData.keyHash P (PySem.Str.ofString "__dict__"), key := PySem.Value.str (PySem.Str.ofString "__dict__") 384, val := PySem.Value.ref 155 }, { hash := PySem.PyData.keyHash P (PySem.Str.ofString "__weakref__"), key := PySem.Value.str (PySem.Str.ofString "__weakref__") 386, val := PySem.Value.ref 156 }, { hash := PySem.PyData.keyHash P (PySem.Str.ofString "__doc__"), key := PySem.Value.str (PySem.Str.ofString "__doc__") 387, val := PySem.Value.none }] 4 }) ::
  (nat_lit 154, { cls := PySem.Value.type "type", data := PySem.Data.cls { name := PySem.Str.ofString "Symbols", bases := [PySem.Value.type "object"], mro := [PySem.Value.ref 154, PySem.Value.type "object"], ns := 153, qualname := PySem.Str.ofString "Symbols" }, slots := #[Option.none, Option.none, Option.some (PySem.Value.str (PySem.Str.ofString "Symbols") 271), Option.some (PySem.Value.str (PySem.Str.ofString "Symbols") 279), Option.some (PySem.Value.builtin "object.__new__"), Option.some (PySem.Value.bool Bool.true)] }) ::
  (nat_lit 155, { cls := PySem.Value.type "getset_descriptor", data := PySem.Data.fields #[PySem.Value.str (PySem.Str.ofString "__dict__") 383, PySem.Value.ref 154, PySem.Value.builtin "function.__dict__", PySem.Value.builtin "function.__dict__#set"] }) ::
  (nat_lit 156, { cls := PySem.Value.type "getset_descriptor", data := PySem.Data.fields #[PySem.Value.str (PySem.Str.ofString "__weakref__") 385, PySem.Value.ref 154, PySem.Value.builtin "ExceptionGroup.__weakref__", PySem.Value.none] }) ::
  (nat_lit 159, { cls := PySem.Value.type "tuple", data := PySem.Data.seq #[] }) ::
  (nat_lit 161, { cls := PySem.Value.type "tuple", data := PySem.Data.seq #[PySem.Value.str (PySem.Str.ofString "term") 395, PySem.Value.str (PySem.Str.ofString "goals") 396, PySem.Value.str (PySem.Str.ofString "stack") 397, PySem.Value.str (PySem.Str.ofString "t") 398] }) ::
  (nat_lit 162, { cls := PySem.Value.type "tuple", data := PySem.Data.seq #[] }) ::
  (nat_lit 164, { cls := PySem.Value.type "code", data := PySem.Data.fields #[PySem.Value.str (PySem.Str.ofString "flat_goals") 392, PySem.Value.str (PySem.Str.ofString "flat_goals") 393, PySem.Value.str (PySem.Str.ofString "/claim/cut.py") 394, PySem.Value.int 79 0, PySem.Value.int 1 0, PySem.Value.int 0 0, PySem.Value.int 0 0, PySem.Value.int 3 0, PySem.Value.ref 159, PySem.Value.bool Bool.true, PySem.Value.int 181 0, PySem.Value.ref 160, PySem.Value.none, PySem.Value.ref 161, PySem.Value.ref 162, PySem.Value.ref 163, PySem.Value.int 399 0, PySem.Value.int 79 0, PySem.Value.str (PySem.Str.ofString "/claim/cut.py") 400] }) ::
  (nat_lit 165, fnOf (st 17) (Str.ofString "flat_goals") (Str.ofString "clausemill.normal") 390 164) ::
  (nat_lit 166, { cls := PySem.Value.type "tuple", data := PySem.Data.seq #[] }) ::
  (nat_lit 168, { cls := PySem.Value.type "tuple", data := PySem.Data.seq #[PySem.Value.str (PySem.Str.ofString "term") 405, PySem.Value.str (PySem.Str.ofString "stack") 406, PySem.Value.str (PySem.Str.ofString "t") 407] }) ::
  (nat_lit 169, { cls := PySem.Value.type "tuple", data := PySem.Data.seq #[] }) ::
  (nat_lit 171, { cls := PySem.Value.type "code", data := PySem.Data.fields #[PySem.Value.str (PySem.Str.ofString "has_cut") 402, PySem.Value.str (PySem.Str.ofString "has_cut") 403, PySem.Value.str (PySem.Str.ofString "/claim/cut.py") 404, PySem.Value.int 92 0, PySem.Value.int 1 0, PySem.Value.int 0 0, PySem.Value.int 0 0, PySem.Value.int 3 0, PySem.Value.ref 166, PySem.Value.bool Bool.true, PySem.Value.int 181 0, PySem.Value.ref 167, PySem.Value.none, PySem.Value.ref 168, PySem.Value.ref 169, PySem.Value.ref 170, PySem.Value.int 408 0, PySem.Value.int 92 0, PySem.Value.str (PySem.Str.ofString "/claim/cut.py") 409] }) ::
  (nat_lit 172, fnOf (st 18) (Str.ofString "has_cut") (Str.ofString "clausemill.normal") 390 171) ::
  (nat_lit 173, { cls := PySem.Value.type "tuple", data := PySem.Data.seq #[] }) ::
  (nat_lit 175, { cls := PySem.Value.type "tuple", data := PySem.Data.seq #[PySem.Value.str (PySem.Str.ofString "number") 416] }) ::
  (nat_lit 176, { cls := PySem.Value.type "tuple", data := PySem.Data.seq #[] }) ::
  (nat_lit 178, { cls := PySem.Value.type "code", data := PySem.Data.fields #[PySem.Value.str (PySem.Str.ofString "atom") 413, PySem.Value.str (PySem.Str.ofString "atom") 414, PySem.Value.str (PySem.Str.ofString "/claim/cut.py") 415, PySem.Value.int 107 0, PySem.Value.int 1 0, PySem.Value.int 0 0, PySem.Value.int 0 0, PySem.Value.int 3 0, PySem.Value.ref 173, PySem.Value.bool Bool.true, PySem.Value.int 181 0, PySem.Value.ref 174, PySem.Value.none, PySem.Value.ref 175, PySem.Value.ref 176, PySem.Value.ref 177, PySem.Value.int 417 0, PySem.Value.int 107 0, PySem.Value.str (PySem.Str.ofString "/claim/cut.py") 418] }) ::
  (nat_lit 179, fnOf (st 20) (Str.ofString "atom") (Str.ofString "clausemill.terms") 411 178) ::
  (nat_lit 180, { cls := PySem.Value.type "tuple", data := PySem.Data.seq #[] }) ::
  (nat_lit 182, { cls := PySem.Value.type "tuple", data := PySem.Data.seq #[PySem.Value.str (PySem.Str.ofString "term") 423] }) ::
  (nat_lit 183, { cls := PySem.Value.type "tuple", data := PySem.Data.seq #[] }) ::
  (nat_lit 185, { cls := PySem.Value.type "code", data := PySem.Data.fields #[PySem.Value.str (PySem.Str.ofString "is_callable") 420, PySem.Value.str (PySem.Str.ofString "is_callable") 421, PySem.Value.str (PySem.Str.ofString "/claim/cut.py") 422, PySem.Value.int 109 0, PySem.Value.int 1 0, PySem.Value.int 0 0, PySem.Value.int 0 0, PySem.Value.int 3 0, PySem.Value.ref 180, PySem.Value.bool Bool.true, PySem.Value.int 181 0, PySem.Value.ref 181, PySem.Value.none, PySem.Value.ref 182, PySem.Value.ref 183, PySem.Value.ref 184, PySem.Value.int 424 0, PySem.Value.int 109 0, PySem.Value.str (PySem.Str.ofString "/claim/cut.py") 425] }) ::
  (nat_lit 186, fnOf (st 21) (Str.ofString "is_callable") (Str.ofString "clausemill.terms") 411 185) ::
  (nat_lit 187, { cls := PySem.Value.type "tuple", data := PySem.Data.seq #[] }) ::
  (nat_lit 189, { cls := PySem.Value.type "tuple", data := PySem.Data.seq #[PySem.Value.str (PySem.Str.ofString "formal") 430] }) ::
  (nat_lit 190, { cls := PySem.Value.type "tuple", data := PySem.Data.seq #[] }) ::
  (nat_lit 192, { cls := PySem.Value.type "code", data := PySem.Data.fields #[PySem.Value.str (PySem.Str.ofString "system_error") 427, PySem.Value.str (PySem.Str.ofString "system_error") 428, PySem.Value.str (PySem.Str.ofString "/claim/cut.py") 429, PySem.Value.int 111 0, PySem.Value.int 1 0, PySem.Value.int 0 0, PySem.Value.int 0 0, PySem.Value.int 3 0, PySem.Value.ref 187, PySem.Value.bool Bool.true, PySem.Value.int 181 0, PySem.Value.ref 188, PySem.Value.none, PySem.Value.ref 189, PySem.Value.ref 190, PySem.Value.ref 191, PySem.Value.int 431 0, PySem.Value.int 111 0, PySem.Value.str (PySem.Str.ofString "/claim/cut.py") 432] }) ::
  (nat_lit 193, fnOf (st 22) (Str.ofString "system_error") (Str.ofString "clausemill.terms") 411 192) ::
  (nat_lit 194, { cls := PySem.Value.type "tuple", data := PySem.Data.seq #[] }) ::
  (nat_lit 196, { cls := PySem.Value.type "tuple", data := PySem.Data.seq #[PySem.Value.str (PySem.Str.ofString "symbols") 437, PySem.Value.str (PySem.Str.ofString "name") 438, PySem.Value.str (PySem.Str.ofString "parts") 439, PySem.Value.str (PySem.Str.ofString "args") 440, PySem.Value.str (PySem.Str.ofString "part") 441] }) ::
  (nat_lit 197, { cls := PySem.Value.type "tuple", data := PySem.Data.seq #[] }) ::
  (nat_lit 199, { cls := PySem.Value.type "code", data := PySem.Data.fields #[PySem.Value.str (PySem.Str.ofString "formal_of") 434, PySem.Value.str (PySem.Str.ofString "formal_of") 435, PySem.Value.str (PySem.Str.ofString "/claim/cut.py") 436, PySem.Value.int 113 0, PySem.Value.int 3 0, PySem.Value.int 0 0, PySem.Value.int 0 0, PySem.Value.int 3 0, PySem.Value.ref 194, PySem.Value.bool Bool.true, PySem.Value.int 181 0, PySem.Value.ref 195, PySem.Value.none, PySem.Value.ref 196, PySem.Value.ref 197, PySem.Value.ref 198, PySem.Value.int 442 0, PySem.Value.int 113 0, PySem.Value.str (PySem.Str.ofString "/claim/cut.py") 443] }) ::
  (nat_lit 200, fnOf (st 23) (Str.ofString "formal_of") (Str.ofString "clausemill.terms") 411 199) ::
  (nat_lit 201, { cls := PySem.Value.type "tuple", data := PySem.Data.seq #[] }) ::
  (nat_lit 203, { cls := PySem.Value.type "tuple", data := PySem.Data.seq #[PySem.Value.str (PySem.Str.ofString "symbols") 448] }) ::
  (nat_lit 204, { cls := PySem.Value.type "tuple", data := PySem.Data.seq #[] }) ::
  (nat_lit 206, { cls := PySem.Value.type "code", data := PySem.Data.fields #[PySem.Value.str (PySem.Str.ofString "instantiation_error") 445, PySem.Value.str (PySem.Str.ofString "instantiation_error") 446, PySem.Value.str (PySem.Str.ofString "/claim/cut.py") 447, PySem.Value.int 118 0, PySem.Value.int 1 0, PySem.Value.int 0 0, PySem.Value.int 0 0, PySem.Value.int 3 0, PySem.Value.ref 201, PySem.Value.bool Bool.true, PySem.Value.int 181 0, PySem.Value.ref 202, PySem.Value.none, PySem.Value.ref 203, PySem.Value.ref 204, PySem.Value.ref 205, PySem.Value.int 449 0, PySem.Value.int 118 0, PySem.Value.str (PySem.Str.ofString "/claim/cut.py") 450] }) ::
  (nat_lit 207, fnOf (st 24) (Str.ofString "instantiation_error") (Str.ofString "clausemill.terms") 411 206) ::
  (nat_lit 208, { cls := PySem.Value.type "tuple", data := PySem.Data.seq #[] }) ::
  (nat_lit 210, { cls := PySem.Value.type "tuple", data := PySem.Data.seq #[PySem.Value.str (PySem.Str.ofString "symbols") 455, PySem.Value.str (PySem.Str.ofString "kind") 456, PySem.Value.str (PySem.Str.ofString "culprit") 457] }) ::
  (nat_lit 211, { cls := PySem.Value.type "tuple", data := PySem.Data.seq #[] }) ::
  (nat_lit 213, { cls := PySem.Value.type "code", data := PySem.Data.fields #[PySem.Value.str (PySem.Str.ofString "type_error") 452, PySem.Value.str (PySem.Str.ofString "type_error") 453, PySem.Value.str (PySem.Str.ofString "/claim/cut.py") 454, PySem.Value.int 120 0, PySem.Value.int 3 0, PySem.Value.int 0 0, PySem.Value.int 0 0, PySem.Value.int 3 0, PySem.Value.ref 208, PySem.Value.bool Bool.true, PySem.Value.int 181 0, PySem.Value.ref 209, PySem.Value.none, PySem.Value.ref 210, PySem.Value.ref 211, PySem.Value.ref 212, PySem.Value.int 458 0, PySem.Value.int 120 0, PySem.Value.str (PySem.Str.ofString "/claim/cut.py") 459] }) ::
  (nat_lit 214, fnOf (st 25) (Str.ofString "type_error") (Str.ofString "clausemill.terms") 411 213) ::
  (nat_lit 215, { cls := PySem.Value.type "tuple", data := PySem.Data.seq #[] }) ::
  (nat_lit 217, { cls := PySem.Value.type "tuple", data := PySem.Data.seq #[PySem.Value.str (PySem.Str.ofString "term") 466, PySem.Value.str (PySem.Str.ofString "stack") 467, PySem.Value.str (PySem.Str.ofString "t") 468] }) ::
  (nat_lit 218, { cls := PySem.Value.type "tuple", data := PySem.Data.seq #[] }) ::
  (nat_lit 220, { cls := PySem.Value.type "code", data := PySem.Data.fields #[PySem.Value.str (PySem.Str.ofString "is_body") 463, PySem.Value.str (PySem.Str.ofString "is_body") 464, PySem.Value.str (PySem.Str.ofString "/claim/cut.py") 465, PySem.Value.int 123 0, PySem.Value.int 1 0, PySem.Value.int 0 0, PySem.Value.int 0 0, PySem.Value.int 3 0, PySem.Value.ref 215, PySem.Value.bool Bool.true, PySem.Value.int 181 0, PySem.Value.ref 216, PySem.Value.none, PySem.Value.ref 217, PySem.Value.ref 218, PySem.Value.ref 219, PySem.Value.int 469 0, PySem.Value.int 123 0, PySem.Value.str (PySem.Str.ofString "/claim/cut.py") 470] }) ::
  (nat_lit 221, fnOf (st 27) (Str.ofString "is_body") (Str.ofString "clausemill.kernel") 461 220) ::
  (nat_lit 222, { cls := PySem.Value.type "tuple", data := PySem.Data.seq #[] }) ::
  (nat_lit 224, { cls := PySem.Value.type "tuple", data := PySem.Data.seq #[PySem.Value.str (PySem.Str.ofString "symbols") 475, PySem.Value.str (PySem.Str.ofString "term") 476, PySem.Value.str (PySem.Str.ofString "head") 477, PySem.Value.str (PySem.Str.ofString "body") 478] }) ::
  (nat_lit 225, { cls := PySem.Value.type "tuple", data := PySem.Data.seq #[] }) ::
  (nat_lit 227, { cls := PySem.Value.type "code", data := PySem.Data.fields #[PySem.Value.str (PySem.Str.ofString "split_clause") 472, PySem.Value.str (PySem.Str.ofString "split_clause") 473, PySem.Value.str (PySem.Str.ofString "/claim/cut.py") 474, PySem.Value.int 133 0, PySem.Value.int 2 0, PySem.Value.int 0 0, PySem.Value.int 0 0, PySem.Value.int 3 0, PySem.Value.ref 222, PySem.Value.bool Bool.true, PySem.Value.int 181 0, PySem.Value.ref 223, PySem.Value.none, PySem.Value.ref 224, PySem.Value.ref 225, PySem.Value.ref 226, PySem.Value.int 479 0, PySem.Value.int 133 0, PySem.Value.str (PySem.Str.ofString "/claim/cut.py") 480] }) ::
  (nat_lit 228, fnOf (st 28) (Str.ofString "split_clause") (Str.ofString "clausemill.kernel") 461 227) ::
  (nat_lit 229, { cls := PySem.Value.type "tuple", data := PySem.Data.seq #[] }) ::
  (nat_lit 231, { cls := PySem.Value.type "tuple", data := PySem.Data.seq #[PySem.Value.str (PySem.Str.ofString "term") 485, PySem.Value.str (PySem.Str.ofString "functors") 486, PySem.Value.str (PySem.Str.ofString "parts") 487] }) ::
  (nat_lit 232, { cls := PySem.Value.type "tuple", data := PySem.Data.seq #[] }) ::
  (nat_lit 234, { cls := PySem.Value.type "code", data := PySem.Data.fields #[PySem.Value.str (PySem.Str.ofString "right_spine") 482, PySem.Value.str (PySem.Str.ofString "right_spine") 483, PySem.Value.str (PySem.Str.ofString "/claim/cut.py") 484, PySem.Value.int 146 0, PySem.Value.int 2 0, PySem.Value.int 0 0, PySem.Value.int 0 0, PySem.Value.int 3 0, PySem.Value.ref 229, PySem.Value.bool Bool.true, PySem.Value.int 181 0, PySem.Value.ref 230, PySem.Value.none, PySem.Value.ref 231, PySem.Value.ref 232, PySem.Value.ref 233, PySem.Value.int 488 0, PySem.Value.int 146 0, PySem.Value.str (PySem.Str.ofString "/claim/cut.py") 489] }) ::
  (nat_lit 235, fnOf (st 29) (Str.ofString "right_spine") (Str.ofString "clausemill.kernel") 461 234) ::
  (nat_lit 236, { cls := PySem.Value.type "tuple", data := PySem.Data.seq #[] }) ::
  (nat_lit 238, { cls := PySem.Value.type "tuple", data := PySem.Data.seq #[PySem.Value.str (PySem.Str.ofString "die") 496, PySem.Value.str (PySem.Str.ofString "faces") 497, PySem.Value.str (PySem.Str.ofString "throw") 498] }) ::
  (nat_lit 239, { cls := PySem.Value.type "tuple", data := PySem.Data.seq #[] }) ::
  (nat_lit 241, { cls := PySem.Value.type "code", data := PySem.Data.fields #[PySem.Value.str (PySem.Str.ofString "_law_roll") 493, PySem.Value.str (PySem.Str.ofString "_law_roll") 494, PySem.Value.str (PySem.Str.ofString "/claim/cut.py") 495, PySem.Value.int 154 0, PySem.Value.int 2 0, PySem.Value.int 0 0, PySem.Value.int 0 0, PySem.Value.int 3 0, PySem.Value.ref 236, PySem.Value.bool Bool.true, PySem.Value.int 181 0, PySem.Value.ref 237, PySem.Value.none, PySem.Value.ref 238, PySem.Value.ref 239, PySem.Value.ref 240, PySem.Value.int 499 0, PySem.Value.int 154 0, PySem.Value.str (PySem.Str.ofString "/claim/cut.py") 500] }) ::
  (nat_lit 242, fnOf (st 31) (Str.ofString "_law_roll") (Str.ofString "law_rr0018_01") 491 241) ::
  (nat_lit 243, { cls := PySem.Value.type "tuple", data := PySem.Data.seq #[] }) ::
  (nat_lit 245, { cls := PySem.Value.type "tuple", data := PySem.Data.seq #[PySem.Value.str (PySem.Str.ofString "die") 505, PySem.Value.str (PySem.Str.ofString "names") 506, PySem.Value.str (PySem.Str.ofString "way") 507] }) ::
  (nat_lit 246, { cls := PySem.Value.type "tuple", data := PySem.Data.seq #[] }) ::
  (nat_lit 248, { cls := PySem.Value.type "code", data := PySem.Data.fields #[PySem.Value.str (PySem.Str.ofString "_law_leaf") 502, PySem.Value.str (PySem.Str.ofString "_law_leaf") 503, PySem.Value.str (PySem.Str.ofString "/claim/cut.py") 504, PySem.Value.int 160 0, PySem.Value.int 2 0, PySem.Value.int 0 0, PySem.Value.int 0 0, PySem.Value.int 3 0, PySem.Value.ref 243, PySem.Value.bool Bool.true, PySem.Value.int 181 0, PySem.Value.ref 244, PySem.Value.none, PySem.Value.ref 245, PySem.Value.ref 246, PySem.Value.ref 247, PySem.Value.int 508 0, PySem.Value.int 160 0, PySem.Value.str (PySem.Str.ofString "/claim/cut.py") 509] }) ::
  (nat_lit 249, fnOf (st 32) (Str.ofString "_law_leaf") (Str.ofString "law_rr0018_01") 491 248) ::
  (nat_lit 250, { cls := PySem.Value.type "tuple", data := PySem.Data.seq #[] }) ::
  (nat_lit 252, { cls := PySem.Value.type "tuple", data := PySem.Data.seq #[PySem.Value.str (PySem.Str.ofString "die") 514, PySem.Value.str (PySem.Str.ofString "names") 515, PySem.Value.str (PySem.Str.ofString "deep") 516, PySem.Value.str (PySem.Str.ofString "way") 517, PySem.Value.str (PySem.Str.ofString "first") 518, PySem.Value.str (PySem.Str.ofString "second") 519] }) ::
  (nat_lit 253, { cls := PySem.Value.type "tuple", data := PySem.Data.seq #[] }) ::
  (nat_lit 255, { cls := PySem.Value.type "code", data := PySem.Data.fields #[PySem.Value.str (PySem.Str.ofString "_law_body") 511, PySem.Value.str (PySem.Str.ofString "_law_body") 512, PySem.Value.str (PySem.Str.ofString "/claim/cut.py") 513, PySem.Value.int 173 0, PySem.Value.int 3 0, PySem.Value.int 0 0, PySem.Value.int 0 0, PySem.Value.int 3 0, PySem.Value.ref 250, PySem.Value.bool Bool.true, PySem.Value.int 181 0, PySem.Value.ref 251, PySem.Value.none, PySem.Value.ref 252, PySem.Value.ref 253, PySem.Value.ref 254, PySem.Value.int 520 0, PySem.Value.int 173 0, PySem.Value.str (PySem.Str.ofString "/claim/cut.py") 521] }) ::
  (nat_lit 256, fnOf (st 33) (Str.ofString "_law_body") (Str.ofString "law_rr0018_01") 491 255) ::
  (nat_lit 257, { cls := PySem.Value.type "tuple", data := PySem.Data.seq #[] }) ::
  (nat_lit 259, { cls := PySem.Value.type "tuple", data := PySem.Data.seq #[PySem.Value.str (PySem.Str.ofString "term") 526, PySem.Value.str (PySem.Str.ofString "functors") 527] }) ::
  (nat_lit 260, { cls := PySem.Value.type "tuple", data := PySem.Data.seq #[] }) ::
  (nat_lit 262, { cls := PySem.Value.type "code", data := PySem.Data.fields #[PySem.Value.str (PySem.Str.ofString "_law_under") 523, PySem.Value.str (PySem.Str.ofString "_law_under") 524, PySem.Value.str (PySem.Str.ofString "/claim/cut.py") 525, PySem.Value.int 184 0, PySem.Value.int 2 0, PySem.Value.int 0 0, PySem.Value.int 0 0, PySem.Value.int 3 0, PySem.Value.ref 257, PySem.Value.bool Bool.true, PySem.Value.int 181 0, PySem.Value.ref 258, PySem.Value.none, PySem.Value.ref 259, PySem.Value.ref 260, PySem.Value.ref 261, PySem.Value.int 528 0, PySem.Value.int 184 0, PySem.Value.str (PySem.Str.ofString "/claim/cut.py") 529] }) ::
  (nat_lit 263, fnOf (st 34) (Str.ofString "_law_under") (Str.ofString "law_rr0018_01") 491 262) ::
  (nat_lit 264, { cls := PySem.Value.type "tuple", data := PySem.Data.seq #[] }) ::
  (nat_lit 266, { cls := PySem.Value.type "tuple", data := PySem.Data.seq #[PySem.Value.str (PySem.Str.ofString "term") 534] }) ::
  (nat_lit 267, { cls := PySem.Value.type "tuple", data := PySem.Data.seq #[] }) ::
  (nat_lit 269, { cls := PySem.Value.type "code", data := PySem.Data.fields #[PySem.Value.str (PySem.Str.ofString "_law_goals") 531, PySem.Value.str (PySem.Str.ofString "_law_goals") 532, PySem.Value.str (PySem.Str.ofString "/claim/cut.py") 533, PySem.Value.int 186 0, PySem.Value.int 1 0, PySem.Value.int 0 0, PySem.Value.int 0 0, PySem.Value.int 3 0, PySem.Value.ref 264, PySem.Value.bool Bool.true, PySem.Value.int 181 0, PySem.Value.ref 265, PySem.Value.none, PySem.Value.ref 266, PySem.Value.ref 267, PySem.Value.ref 268, PySem.Value.int 535 0, PySem.Value.int 186 0, PySem.Value.str (PySem.Str.ofString "/claim/cut.py") 536] }) ::
  (nat_lit 270, fnOf (st 35) (Str.ofString "_law_goals") (Str.ofString "law_rr0018_01") 491 269) ::
  (nat_lit 271, { cls := PySem.Value.type "tuple", data := PySem.Data.seq #[] }) ::
  (nat_lit 273, { cls := PySem.Value.type "tuple", data := PySem.Data.seq #[PySem.Value.str (PySem.Str.ofString "term") 541] }) ::
  (nat_lit 274, { cls := PySem.Value.type "tuple", data := PySem.Data.seq #[] }) ::
  (nat_lit 276, { cls := PySem.Value.type "code", data := PySem.Data.fields #[PySem.Value.str (PySem.Str.ofString "_law_cuts") 538, PySem.Value.str (PySem.Str.ofString "_law_cuts") 539, PySem.Value.str (PySem.Str.ofString "/claim/cut.py") 540, PySem.Value.int 190 0, PySem.Value.int 1 0, PySem.Value.int 0 0, PySem.Value.int 0 0, PySem.Value.int 3 0, PySem.Value.ref 271, PySem.Value.bool Bool.true, PySem.Value.int 181 0, PySem.Value.ref 272, PySem.Value.none, PySem.Value.ref 273, PySem.Value.ref 274, PySem.Value.ref 275, PySem.Value.int 542 0, PySem.Value.int 190 0, PySem.Value.str (PySem.Str.ofString "/claim/cut.py") 543] }) ::
  (nat_lit 277, fnOf (st 36) (Str.ofString "_law_cuts") (Str.ofString "law_rr0018_01") 491 276) ::
  (nat_lit 278, { cls := PySem.Value.type "tuple", data := PySem.Data.seq #[] }) ::
  (nat_lit 280, { cls := PySem.Value.type "tuple", data := PySem.Data.seq #[PySem.Value.str (PySem.Str.ofString "term") 548] }) ::
  (nat_lit 281, { cls := PySem.Value.type "tuple", data := PySem.Data.seq #[] }) ::
  (nat_lit 283, { cls := PySem.Value.type "code", data := PySem.Data.fields #[PySem.Value.str (PySem.Str.ofString "_law_sound") 545, PySem.Value.str (PySem.Str.ofString "_law_sound") 546, PySem.Value.str (PySem.Str.ofString "/claim/cut.py") 547, PySem.Value.int 196 0, PySem.Value.int 1 0, PySem.Value.int 0 0, PySem.Value.int 0 0, PySem.Value.int 3 0, PySem.Value.ref 278, PySem.Value.bool Bool.true, PySem.Value.int 181 0, PySem.Value.ref 279, PySem.Value.none, PySem.Value.ref 280, PySem.Value.ref 281, PySem.Value.ref 282, PySem.Value.int 549 0, PySem.Value.int 196 0, PySem.Value.str (PySem.Str.ofString "/claim/cut.py") 550] }) ::
  (nat_lit 284, fnOf (st 37) (Str.ofString "_law_sound") (Str.ofString "law_rr0018_01") 491 283) ::
  (nat_lit 285, { cls := PySem.Value.type "tuple", data := PySem.Data.seq #[] }) ::
  (nat_lit 287, { cls := PySem.Value.type "tuple", data := PySem.Data.seq #[PySem.Value.str (PySem.Str.ofString "term") 555, PySem.Value.str (PySem.Str.ofString "functors") 556] }) ::
  (nat_lit 288, { cls := PySem.Value.type "tuple", data := PySem.Data.seq #[] }) ::
  (nat_lit 290, { cls := PySem.Value.type "code", data := PySem.Data.fields #[PySem.Value.str (PySem.Str.ofString "_law_spine") 552, PySem.Value.str (PySem.Str.ofString "_law_spine") 553, PySem.Value.str (PySem.Str.ofString "/claim/cut.py") 554, PySem.Value.int 200 0, PySem.Value.int 2 0, PySem.Value.int 0 0, PySem.Value.int 0 0, PySem.Value.int 3 0, PySem.Value.ref 285, PySem.Value.bool Bool.true, PySem.Value.int 181 0, PySem.Value.ref 286, PySem.Value.none, PySem.Value.ref 287, PySem.Value.ref 288, PySem.Value.ref 289, PySem.Value.int 557 0, PySem.Value.int 200 0, PySem.Value.str (PySem.Str.ofString "/claim/cut.py") 558] }) ::
  (nat_lit 291, fnOf (st 38) (Str.ofString "_law_spine") (Str.ofString "law_rr0018_01") 491 290) ::
  (nat_lit 292, { cls := PySem.Value.type "tuple", data := PySem.Data.seq #[] }) ::
  (nat_lit 294, { cls := PySem.Value.type "tuple", data := PySem.Data.seq #[PySem.Value.str (PySem.Str.ofString "names") 563, PySem.Value.str (PySem.Str.ofString "term") 564, PySem.Value.str (PySem.Str.ofString "error") 565] }) ::
  (nat_lit 295, { cls := PySem.Value.type "tuple", data := PySem.Data.seq #[] }) ::
  (nat_lit 297, { cls := PySem.Value.type "code", data := PySem.Data.fields #[PySem.Value.str (PySem.Str.ofString "_law_split") 560, PySem.Value.str (PySem.Str.ofString "_law_split") 561, PySem.Value.str (PySem.Str.ofString "/claim/cut.py") 562, PySem.Value.int 204 0, PySem.Value.int 2 0, PySem.Value.int 0 0, PySem.Value.int 0 0, PySem.Value.int 3 0, PySem.Value.ref 292, PySem.Value.bool Bool.true, PySem.Value.int 181 0, PySem.Value.ref 293, PySem.Value.none, PySem.Value.ref 294, PySem.Value.ref 295, PySem.Value.ref 296, PySem.Value.int 566 0, PySem.Value.int 204 0, PySem.Value.str (PySem.Str.ofString "/claim/cut.py") 567] }) ::
  (nat_lit 298, fnOf (st 39) (Str.ofString "_law_split") (Str.ofString "law_rr0018_01") 491 297) ::
  (nat_lit 299, { cls := PySem.Value.type "tuple", data := PySem.Data.seq #[] }) ::
  (nat_lit 301, { cls := PySem.Value.type "tuple", data := PySem.Data.seq #[PySem.Value.str (PySem.Str.ofString "script") 572, PySem.Value.str (PySem.Str.ofString "die") 573, PySem.Value.str (PySem.Str.ofString "names") 574, PySem.Value.str (PySem.Str.ofString "head") 575, PySem.Value.str (PySem.Str.ofString "body") 576, PySem.Value.str (PySem.Str.ofString "functors") 577, PySem.Value.str (PySem.Str.ofString "due") 578] }) ::
  (nat_lit 302, { cls := PySem.Value.type "tuple", data := PySem.Data.seq #[] }) ::
  (nat_lit 304, { cls := PySem.Value.type "code", data := PySem.Data.fields #[PySem.Value.str (PySem.Str.ofString "law") 569, PySem.Value.str (PySem.Str.ofString "law") 570, PySem.Value.str (PySem.Str.ofString "/claim/cut.py") 571, PySem.Value.int 209 0, PySem.Value.int 1 0, PySem.Value.int 0 0, PySem.Value.int 0 0, PySem.Value.int 3 0, PySem.Value.ref 299, PySem.Value.bool Bool.true, PySem.Value.int 181 0, PySem.Value.ref 300, PySem.Value.none, PySem.Value.ref 301, PySem.Value.ref 302, PySem.Value.ref 303, PySem.Value.int 579 0, PySem.Value.int 209 0, PySem.Value.str (PySem.Str.ofString "/claim/cut.py") 580] }) ::
  (nat_lit 305, fnOf (st 40) (Str.ofString "law") (Str.ofString "law_rr0018_01") 491 304) :: []
noncomputable def hd.view_39 : Program := by
  change Along Program stmts
  change Along Program [?s0, ?s1, ?s2, ?s3, ?s4, ?s5, ?s6, ?s7, ?s8, ?s9, ?s10, ?s11, ?s12, ?s13, ?s14, ?s15, ?s16, ?s17, ?s18, ?s19, ?s20, ?s21, ?s22, ?s23, ?s24, ?s25, ?s26, ?s27, ?s28, ?s29, ?s30, ?s31, ?s32, ?s33, ?s34, ?s35, ?s36, ?s37, ?s38, ?s39, ?s40]
  exact { PySem.Challenge.rw_rr0018_01.row.prog with main := { PySem.Challenge.rw_rr0018_01.row.prog.main with body := [?s0, ?s2, ?s3, ?s4, ?s5, ?s6, ?s7, ?s8, ?s9, ?s10, ?s11, ?s12, ?s13, ?s14, ?s15, ?s17, ?s18, ?s20, ?s21, ?s22, ?s23, ?s24, ?s25, ?s27, ?s28, ?s29, ?s31, ?s32, ?s33, ?s34, ?s35, ?s36, ?s37, ?s38, ?s39, ?s40] } }
noncomputable abbrev hd.adr : List Addr := 2 :: 3 :: 15 :: 17 :: 18 :: 20 :: 21 :: 22 :: 29 :: 30 :: 31 :: 32 :: 35 :: 42 :: 44 :: 45 :: 47 :: 48 :: 49 :: 50 :: 51 :: 54 :: 56 :: 57 :: 59 :: 60 :: 61 :: 63 :: 64 :: 66 :: 67 :: 75 :: 77 :: 78 :: 80 :: 81 :: 82 :: 84 :: 85 :: 87 :: 88 :: 89 :: 91 :: 92 :: 94 :: 95 :: 96 :: 98 :: 99 :: 101 :: 102 :: 103 :: 105 :: 106 :: 108 :: 109 :: 110 :: 112 :: 113 :: 115 :: 116 :: 117 :: 119 :: 120 :: 122 :: 123 :: 124 :: 126 :: 127 :: 129 :: 130 :: 131 :: 133 :: 134 :: 136 :: 137 :: 138 :: 140 :: 141 :: 143 :: 144 :: 145 :: 147 :: 148 :: 150 :: 151 :: 152 :: 153 :: 154 :: 155 :: 156 :: 159 :: 161 :: 162 :: 164 :: 165 :: 166 :: 168 :: 169 :: 171 :: 172 :: 173 :: 175 :: 176 :: 178 :: 179 :: 180 :: 182 :: 183 :: 185 :: 186 :: 187 :: 189 :: 190 :: 192 :: 193 :: 194 :: 196 :: 197 :: 199 :: 200 :: 201 :: 203 :: 204 :: 206 :: 207 :: 208 :: 210 :: 211 :: 213 :: 214 :: 215 :: 217 :: 218 :: 220 :: 221 :: 222 :: 224 :: 225 :: 227 :: 228 :: 229 :: 231 :: 232 :: 234 :: 235 :: 236 :: 238 :: 239 :: 241 :: 242 :: 243 :: 245 :: 246 :: 248 :: 249 :: 250 :: 252 :: 253 :: 255 :: 256 :: 257 :: 259 :: 260 :: 262 :: 263 :: 264 :: 266 :: 267 :: 269 :: 270 :: 271 :: 273 :: 274 :: 276 :: 277 :: 278 :: 280 :: 281 :: 283 :: 284 :: 285 :: 287 :: 288 :: 290 :: 291 :: 292 :: 294 :: 295 :: 297 :: 298 :: 299 :: 301 :: 302 :: 304 :: 305 :: []
theorem hd.adr_ok (P : Params) : hd.adr = (hd.heap_39 P).map (·.1) := by kernel_rfl
noncomputable abbrev hd.hook : Hook := kHook hd.heap_39 hd.adr hd.adr_ok
noncomputable def topRunT (tb : String → Option Builtin) (p : Program) (w : World) (n₀ : Nat) (ann : Option Value) : Nat → SharedT → Thread → Option SharedT
  | 0, _, _ => none
  | n + 1, s, t => match through t with
    | true => some s
    | false => match stepOk n₀ ann t with
      | false => none
      | true => match stepT (denote tb) p w s t with
        | some (s', t') => topRunT tb p w n₀ ann n s' t'
        | none => none
theorem topRunT_of {tb : String → Option Builtin} {p : Program} {w : World} {n₀ : Nat} {ann : Option Value} : ∀ {n : Nat} {s s' : SharedT} {t : Thread}, topRunT tb p w n₀ ann n s t = some s' → topRun tb p w n₀ ann n s.abs t = some s'.abs
  | 0, _, _, _, h => by cases h
  | n + 1, s, s', t, h => by
    unfold topRunT at h
    unfold topRun
    cases hk : through t with
    | true => rw [hk] at h; cases h; rfl
    | false =>
      rw [hk] at h
      cases ho : stepOk n₀ ann t with
      | false => rw [ho] at h; cases h
      | true =>
        rw [ho] at h
        cases hs : stepT (denote tb) p w s t with
        | none => rw [hs] at h; cases h
        | some r =>
          obtain ⟨s1, t1⟩ := r
          rw [hs] at h
          dsimp only
          rw [stepT_spec hs]
          exact topRunT_of h
noncomputable def ofL : Nat → BT → List Obj → BT
  | _, t, [] => t
  | k, t, o :: r => ofL (k + 1) (t.ins k o) r
noncomputable def bootT (P : Params) : BT := ofL 0 .nil (boot_heap P).objs.toList
theorem boot_abs (P : Params) : absHeap (bootT P) 11 (boot_heap P).life = boot_heap P := by kernel_rfl
noncomputable def S0 (w : World) (os : OsState) : SharedT := ⟨bootT w.params, 11, (boot_heap w.params).life, Array.mk [], boot_drawn, boot_toks, os⟩
open PySem.W.Fast in
noncomputable def topRunQ (p : Program) (w : World) (n₀ : Nat) (ann : Option Value) : Nat → SharedT → Thread → Option SharedT
  | 0, _, _ => none
  | n + 1, s, t => match through t with
    | true => some s
    | false => match tw6613529449190102663 n₀ ann t with
      | false => none
      | true => match tw10156331382660048174 (tw11892475500146522536 tw14364793385576792824) p w s t with
        | some (s', t') => topRunQ p w n₀ ann n s' t'
        | none => none
theorem topRunQ_eq (p : Program) (w : World) (n₀ : Nat) (ann : Option Value) : ∀ (n : Nat) (s : SharedT) (t : Thread), topRunT treeTable p w n₀ ann n s t = topRunQ p w n₀ ann n s t
  | 0, _, _ => rfl
  | n + 1, s, t => by
    unfold topRunT topRunQ
    rw [← PySem.W.Fast.te6613529449190102663, ← PySem.W.Fast.te10156331382660048174, ← PySem.W.Fast.te11892475500146522536, ← PySem.W.Fast.te14364793385576792824]
    cases through t with
    | true => rfl
    | false =>
      cases stepOk n₀ ann t with
      | false => rfl
      | true =>
        cases stepT (denote treeTable) p w s t with
        | none => rfl
        | some r => exact topRunQ_eq p w n₀ ann n r.1 r.2
abbrev PQ : Program := PySem.Challenge.rw_rr0018_01.row.prog
theorem run_A (w : World) (os : OsState) : ((topRunQ PQ w 11 (some (.ref 6)) 1900 (S0 w os) (topStub PQ)).map fun sT =>
    ((staticsOk (importedModules PQ.main.body) (boot_heap w.params) sT.abs.heap && namesBound PQ sT.abs.heap && gensDone sT.abs && laidKept (boot_heap w.params) sT.abs.heap), hd.hook.obs sT.abs)) = some (true, hd.hook.val w) := by kernel_rfl
theorem run_B (w : World) (os : OsState) : ((topRunQ PQ w 11 (some (.ref 6)) 1900 (S0 w os) (topStub PQ)).map fun sT =>
      openSeen hd.view_39 [] (importedModules PQ.main.body) (fun s => xlAt hd.view_39 [] s && recOk (RowW.records PySem.Challenge.rw_rr0018_01.row.toRowW) s) true sT.abs) = some (openGood hd.view_39 []) := by kernel_rfl
theorem boot_size (w : World) : ((boot_heap w.params).isNs mainGlobals && (Array.mk [] : Array GenState).size == 0, (boot_heap w.params).objs.size, (boot_heap w.params).nsMap mainGlobals "__annotations__") = (true, 11, some (.ref 6)) := by kernel_rfl
theorem LeftO.of_tree {p q : Program} {loose : List Str} {Xt : Shared → Bool} {α : Type} {Yf : Shared → α} {Ya : World → α} {N M K : Nat} {g0 : Bool} {H₀ : Params → Heap} {gs₀ : Array GenState} {d₀ : Drawn} {k₀ m₀ : Nat} {ann : Option Value} {S : World → OsState → SharedT}
    (open_ : ∀ w : World, (fencedOpening treeTable p w N).map (fun s => (s.heap, s.gens, s.drawn, s.toks)) = some (H₀ w.params, gs₀, d₀, k₀))
    (size : ∀ w : World, ((H₀ w.params).isNs mainGlobals && gs₀.size == 0, (H₀ w.params).objs.size, (H₀ w.params).nsMap mainGlobals "__annotations__") = (true, m₀, ann))
    (hS : ∀ w os, (S w os).abs = ⟨H₀ w.params, gs₀, d₀, k₀, os⟩) (le : M + K = N)
    (A : ∀ w os, ((topRunQ p w m₀ ann M (S w os) (topStub p)).map fun sT => ((staticsOk (importedModules p.main.body) (H₀ w.params) sT.abs.heap && namesBound p sT.abs.heap && gensDone sT.abs && laidKept (H₀ w.params) sT.abs.heap), Yf sT.abs)) = some (true, Ya w))
    (B : ∀ w os, ((topRunQ p w m₀ ann M (S w os) (topStub p)).map fun sT => openSeen q loose (importedModules p.main.body) Xt g0 sT.abs) = some (openGood q loose)) : LeftO p q loose Xt Yf Ya N g0 := by
  intro w
  cases hf : fencedOpening treeTable p w N with
  | none => have := open_ w; rw [hf] at this; cases this
  | some s₀ =>
    have ho := open_ w
    have hz := size w
    simp only [hf, Option.map_some, Option.some.injEq, Prod.mk.injEq] at ho hz
    have hA := A w s₀.os
    have hB := B w s₀.os
    cases hq : topRunQ p w m₀ ann M (S w s₀.os) (topStub p) with
    | none => rw [hq] at hA; cases hA
    | some sT =>
      simp only [hq, Option.map_some, Option.some.injEq, Prod.mk.injEq] at hA hB
      have hr := topRun_mono K _ _ _ _ (topRunT_of ((topRunQ_eq _ _ _ _ _ _ _).trans hq))
      have hs : (S w s₀.os).abs = s₀ := by
        rw [hS, ← ho.1, ← ho.2.1, ← ho.2.2.1, ← ho.2.2.2]
      rw [hs, le] at hr
      have hn : topFrom treeTable p w N s₀ = some sT.abs := by
        rw [← ho.1, ← ho.2.1] at hz
        rw [← ho.1] at hA
        simp only [topFrom, hz.1, hz.2.1, hz.2.2, hr, Option.bind_some, hA.1]
      simp only [openEnds, hf, Option.bind_some, hn, Option.map_some, hB, hA.2]
theorem S0_abs (w : World) (os : OsState) : (S0 w os).abs = ⟨boot_heap w.params, Array.mk [], boot_drawn, boot_toks, os⟩ := congrArg (fun x => (⟨x, Array.mk [], boot_drawn, boot_toks, os⟩ : Shared)) (boot_abs w.params)
theorem op_plain : opening PQ = plainProg PQ.main.scope.names := by kernel_rfl
theorem op_fence (s : Shared) : fenceModules? PQ s = some s := by kernel_rfl
theorem hd.left : LeftO PySem.Challenge.rw_rr0018_01.row.prog hd.view_39 [] (fun s => xlAt hd.view_39 [] s && recOk (RowW.records PySem.Challenge.rw_rr0018_01.row.toRowW) s) hd.hook.obs hd.hook.val 3826 :=
  LeftO.of_tree (K := 1926) (boot_open op_plain (by decide) op_fence) boot_size S0_abs (by decide) run_A run_B
theorem hd.law (h : PySem.Challenge.rw_rr0018_01.row.wellSaid = true → PySem.Challenge.rw_rr0018_01.row.Holds) : PySem.Challenge.rw_rr0018_01.Holds := by
  o_law
  exact h (by assumption)
theorem hd.keep (s : Shared) (e : (xlAt hd.view_39 [] s && recOk (RowW.records PySem.Challenge.rw_rr0018_01.row.toRowW) s) = true) : XL hd.view_39 [] (s.heap.nsMap mainGlobals) s.heap := xl_of s (Bool.and_eq_true_iff.mp e).1
theorem hd.oks : (chainsOk hd.view_39 && opensWell PySem.Challenge.rw_rr0018_01.row.prog && (frees PySem.Challenge.rw_rr0018_01.row.toRowW && PySem.Challenge.rw_rr0018_01.row.toRowW.within.isEmpty)) = true := by decide +kernel
theorem hd.wit : PySem.Challenge.rw_rr0018_01.row.toRowW.promised := by w_on; w_witness2
theorem hd.top {d : DefRec} {kwd : List (Str × Expr)} (hdef : defOf hd.view_39 PySem.Challenge.rw_rr0018_01.row.name = some (d, kwd)) (hp : PySem.Challenge.rw_rr0018_01.row.prog.theDef PySem.Challenge.rw_rr0018_01.row.name = some (d.params, d.body, d.scope)) (hk : kwWritten? d.params.kwonlyargs d.params.kw_defaults = some kwd)
    (call : WalkO hd.view_39 [] (XL hd.view_39 []) hd.hook.says PySem.Challenge.rw_rr0018_01.row.toRowW d kwd fun f vs => PySem.call f vs) : PySem.Challenge.rw_rr0018_01.Holds :=
  hd.law fun said => holds_open hd.left (Hook.of hd.hook) (Hook.keeps hd.hook) hd.keep XL.keeps hdef hp hk (fun s e => recFacts_of (Bool.and_eq_true_iff.mp e).2) (by rfl) said hd.oks ⟨rfl, rfl, rfl, rfl, rfl, by decide +kernel⟩ hd.wit call
local macro_rules | `(tactic| k_all) => `(tactic| k_extra "m:k_all")
local macro_rules | `(tactic| walk_at "call builtin:dict.get") => `(tactic| k_extra "m:call builtin:dict.get")
local macro_rules | `(tactic| walk_at "call builtin:len") => `(tactic| k_extra "m:call builtin:len")
local macro_rules | `(tactic| walk_at "setItem ref str") => `(tactic| k_extra "m:setItem ref str")
local macro_rules | `(tactic| walk_at "getMethod ref") => `(tactic| k_extra "m:getMethod ref")
local macro_rules | `(tactic| ktr_units) => `(tactic| k_extra "m:ktr_units")
local macro_rules | `(tactic| walk_at "setItem ref ref") => `(tactic| k_extra "m:setItem ref ref")
local macro_rules | `(tactic| ktr_room) => `(tactic| k_extra "m:ktr_room")
local macro_rules | `(tactic| walk_at "call ref") => `(tactic| k_extra "m:call ref")
local macro_rules | `(tactic| walk_at "compareOp In int ref") => `(tactic| k_extra "m:compareOp In int ref")
local macro_rules | `(tactic| walk_at "callWith") => `(tactic| k_extra "m:callWith")
local macro_rules | `(tactic| walk_at "subscriptTail Name Constant ref int") => `(tactic| k_extra "m:subscriptTail Name Constant ref int")
local macro_rules | `(tactic| walk_at "subscriptTail Subscript") => `(tactic| k_extra "m:subscriptTail Subscript")
local macro_rules | `(tactic| walk_at "eval Call") => `(tactic| k_extra "m:eval Call")
local macro_rules | `(tactic| k_mem) => `(tactic| k_extra "m:k_mem")
local macro_rules | `(tactic| walk_at "compareOp Eq ref ref") => `(tactic| k_extra "m:compareOp Eq ref ref")
local macro_rules | `(tactic| walk_at "binaryOp Add ref ref") => `(tactic| k_extra "m:binaryOp Add ref ref")
local macro_rules | `(tactic| walk_at "truthy ref") => `(tactic| k_extra "m:truthy ref")
local macro_rules | `(tactic| walk_at "call builtin:list.pop") => `(tactic| k_extra "m:call builtin:list.pop")
local macro_rules | `(tactic| walk_at "call builtin:list.append") => `(tactic| k_extra "m:call builtin:list.append")
local macro_rules | `(tactic| walk_at "exec") => `(tactic| k_extra "m:exec")
local macro_rules | `(tactic| walk_at "exec While") => `(tactic| k_extra "m:exec While")
local macro_rules | `(tactic| walk_at "spliced") => `(tactic| k_extra "m:spliced")
local macro_rules | `(tactic| walk_at "pyIter ref") => `(tactic| k_extra "m:pyIter ref")
local macro_rules | `(tactic| x_close) => `(tactic| k_extra "m:x_close")
local macro_rules | `(tactic| walk_at "exec For") => `(tactic| k_extra "m:exec For")
local macro_rules | `(tactic| walk_at "exec Raise some none") => `(tactic| k_extra "m:exec Raise some none")
local macro_rules | `(tactic| walk_at "getAttr ref") => `(tactic| k_extra "m:getAttr ref")
local macro_rules | `(tactic| walk_at "compareOp NotEq ref ref") => `(tactic| k_extra "m:compareOp NotEq ref ref")
local macro_rules | `(tactic| walk_at "compareOp NotEq bool bool") => `(tactic| k_extra "m:compareOp NotEq bool bool")
local macro_rules | `(tactic| walk_at "exec If") => `(tactic| k_extra "m:exec If")
section
theorem start_MBase_0 : (0 : Nat) ≤ 1 := by
  w_top off
  k_with_none
  exact Nat.zero_le 1
/-! room for the frames and the units, by small terms (omega's are dear in the compiled file) -/
theorem rm0 {dp c lim : Nat} (h : dp + c < lim) : dp < lim := Nat.lt_of_le_of_lt (Nat.le_add_right _ _) h
theorem rm1 {dp a c lim : Nat} (h : dp + c < lim) (e : a + 1 ≤ c) : dp + 1 + a < lim := by omega
theorem rm2 {dp a c lim : Nat} (h : dp + c < lim) (e : a + 1 + 1 ≤ c) : dp + 1 + 1 + a < lim := by omega
theorem rm3 {dp c lim : Nat} (h : dp + c < lim) (e : 1 ≤ c) : dp + 1 < lim := by omega
theorem un1 {un a c lim : Nat} (h : un + 8 * c < lim) (e : a + 1 ≤ c) : un + 3 + 8 * a < lim := by omega
theorem un2 {un a c lim : Nat} (h : un + 8 * c < lim) (e : a + 1 ≤ c) : un + 1 + 3 + 8 * a < lim := by omega
theorem un3 {un c lim : Nat} (h : un + 8 * c < lim) (e : 1 ≤ c) : un + 3 < lim := by omega
theorem dpl1 {x nd : Nat} {b : Prop} (h : x + 1 ≤ nd ∧ b) : 10 + 5 * x + 1 ≤ 10 + 5 * nd := by omega
theorem dpl2 {x nd : Nat} {b : Prop} (h : b ∧ x + 1 ≤ nd) : 10 + 5 * x + 1 ≤ 10 + 5 * nd := by omega
theorem lwr {t : Nat} (h : t ≤ 5 + 2) : 301 + 1 + (10 + 5 * t) < 1000 := by omega
theorem lwu {t : Nat} (h : t ≤ 5 + 2) : 4 + 3 + 8 * (10 + 5 * t) < 9900 := by omega

abbrev PP : Program := PySem.Challenge.rw_rr0018_01.row.prog

def Ctr (w : World) (f : Addr) (vs : List Value) (sz : Nat) (news : List (Addr × Obj)) (Out : List (Addr × Obj) → Value → Prop) : Prop :=
  ∀ (mean : ExcName → Option Value) (mg mb : Str → Option Value) (dp un : Nat) (gd : Option (List Code)) (cn : Str) (cs : Scope) (a : Addr) (ccd : Value) (cl : List (Str × Addr)) (outer : List Env) (A₀ : Around) (base h₀ : Heap) (L : Addr) (m : Str → Option Value) (s : Shared) (Q E : Value → Shared → Prop),
    Below A₀ base outer h₀ → Fr h₀ L s.heap m → (hd.heap_39 w.params).In h₀ → News h₀ L s.heap news → Top hd.view_39 (looseW hd.view_39 []) mean mg mb h₀ → cs.kind = .function → dp + sz < recursionLimit → un + 8 * sz < cLine →
    (∀ r news' h' tk', Fr h₀ L h' m → News h₀ L h' news' → Out news' r → Q r { s with heap := h', toks := tk' }) →
    wpAny (model PySem.Challenge.rw_rr0018_01.row.prog w) (ktrTop dp un gd cn cs L a ccd cl outer) (call (.ref f) vs) Q E s

theorem news_sub {h₀ h : Heap} {L : Addr} {l l' : List (Addr × Obj)} (N : News h₀ L h l) (s : ∀ p ∈ l', p ∈ l) : News h₀ L h l' := fun p hp => N p (s p hp)

/-! the symbol table as two plain lists -/
def Tdat : Nat → List Str → List (PyData × PyData)
  | _, [] => []
  | k, t :: r => (.str t, .int k) :: Tdat (k + 1) r
def Fdat : Nat → List (Int × Int) → List (PyData × PyData)
  | _, [] => []
  | k, p :: r => (encTuple PyData.int [p.1, p.2], .int k) :: Fdat (k + 1) r
def atomTo (T : List Str) (t : Str) : List Str := if t ∈ T then T else T ++ [t]
def funcTo (F : List (Int × Int)) (p : Int × Int) : List (Int × Int) := if p ∈ F then F else F ++ [p]

theorem Tdat_length : ∀ (T : List Str) (k : Nat), (Tdat k T).length = T.length
  | [], _ => rfl
  | _ :: r, k => by simp [Tdat, Tdat_length r]
theorem Fdat_length : ∀ (F : List (Int × Int)) (k : Nat), (Fdat k F).length = F.length
  | [], _ => rfl
  | _ :: r, k => by simp [Fdat, Fdat_length r]
theorem Tdat_lookup (t : Str) : ∀ (T : List Str) (k : Nat), Spec.lookup (.str t) (Tdat k T) = if t ∈ T then some (.int ((k + T.idxOf t : Nat) : Int)) else none
  | [], _ => by simp [Tdat, Spec.lookup]
  | u :: r, k => by
    simp only [Tdat, Spec.lookup, PyProof.V.same_str]
    by_cases h : u = t
    · subst h; simp
    · have h' : ¬ t = u := fun e => h e.symm
      rw [Tdat_lookup t r (k + 1)]
      have hb : (u == t) = false := by simpa using h
      simp only [h, decide_false, Bool.false_eq_true, if_false, List.mem_cons, h', false_or, List.idxOf_cons, hb, cond_false]
      split <;> simp_all; omega
theorem Tdat_append (t : Str) : ∀ (T : List Str) (k : Nat), Tdat k (T ++ [t]) = Tdat k T ++ [(.str t, .int ((k + T.length : Nat) : Int))]
  | [], k => by simp [Tdat]
  | u :: r, k => by simp [Tdat, Tdat_append t r (k + 1)]; omega
theorem Tdat_put (t : Str) (T : List Str) (h : t ∉ T) : putD (.str t) (.int (T.length : Int)) (Tdat 0 T) = Tdat 0 (T ++ [t]) := by
  rw [putD_absent (by rw [Tdat_lookup, if_neg h]), Tdat_append]; simp
theorem same_key (p q : Int × Int) : PySem.Spec.same (encTuple PyData.int [p.1, p.2]) (encTuple PyData.int [q.1, q.2]) = decide (p = q) := by
  rw [same_encTuple PyProof.V.same_int]
  obtain ⟨a, b⟩ := p; obtain ⟨c, d⟩ := q
  simp
theorem Fdat_lookup (t : Int × Int) : ∀ (F : List (Int × Int)) (k : Nat), Spec.lookup (encTuple PyData.int [t.1, t.2]) (Fdat k F) = if t ∈ F then some (.int ((k + F.idxOf t : Nat) : Int)) else none
  | [], _ => by simp [Fdat, Spec.lookup]
  | u :: r, k => by
    simp only [Fdat, Spec.lookup, same_key]
    by_cases h : u = t
    · subst h; simp
    · have h' : ¬ t = u := fun e => h e.symm
      rw [Fdat_lookup t r (k + 1)]
      have hb : (u == t) = false := by simpa using h
      simp only [h, decide_false, Bool.false_eq_true, if_false, List.mem_cons, h', false_or, List.idxOf_cons, hb, cond_false]
      split <;> simp_all; omega
theorem Fdat_append (t : Int × Int) : ∀ (F : List (Int × Int)) (k : Nat), Fdat k (F ++ [t]) = Fdat k F ++ [(encTuple PyData.int [t.1, t.2], .int ((k + F.length : Nat) : Int))]
  | [], k => by simp [Fdat]
  | u :: r, k => by simp [Fdat, Fdat_append t r (k + 1)]; omega
theorem Fdat_put (t : Int × Int) (F : List (Int × Int)) (h : t ∉ F) : putD (encTuple PyData.int [t.1, t.2]) (.int (F.length : Int)) (Fdat 0 F) = Fdat 0 (F ++ [t]) := by
  rw [putD_absent (by rw [Fdat_lookup, if_neg h]), Fdat_append]; simp

/-! the symbol table in the heap -/
structure SymAd where
  x : Nat
  dx : Nat
  tx : Nat
  ax : Nat
  fx : Nat
  gx : Nat
  t1 : Tok
  t2 : Tok
  t3 : Tok
  t4 : Tok
structure SymSt where
  vT : Array Value
  eT : Nat
  oa : Obj
  vF : Array Value
  eF : Nat
  og : Obj
abbrev symD (w : World) (t1 t2 t3 t4 : Tok) (tx ax fx gx : Addr) : Obj :=
  dictOf [⟨PyData.keyHash w.params (Str.ofString "texts"), .str (Str.ofString "texts") t1, .ref tx⟩, ⟨PyData.keyHash w.params (Str.ofString "atom_numbers"), .str (Str.ofString "atom_numbers") t2, .ref ax⟩,
    ⟨PyData.keyHash w.params (Str.ofString "functors"), .str (Str.ofString "functors") t3, .ref fx⟩, ⟨PyData.keyHash w.params (Str.ofString "functor_numbers"), .str (Str.ofString "functor_numbers") t4, .ref gx⟩] 4
abbrev SymL (w : World) (a : SymAd) (S : SymSt) (R : List (Addr × Obj)) : List (Addr × Obj) :=
  (a.x, instObj 154 a.dx) :: (a.dx, symD w a.t1 a.t2 a.t3 a.t4 a.tx a.ax a.fx a.gx) :: (a.tx, listOf S.vT S.eT) :: (a.ax, S.oa) :: (a.fx, listOf S.vF S.eF) :: (a.gx, S.og) :: R

/-- the functor table: its keys' objects lie in K -/
def FunTab (w : World) (K : List (Addr × Obj)) (o : Obj) (D : List (PyData × PyData)) : Prop :=
  ∃ es ep xs, o.ExactDict ∧ o.data = .dict es ep ∧ es.toList = xs.map (entryOfKey (tupleKind (PySem.intKind PP w))) ∧ (xs.map (·.1)).Nodup ∧
    (∀ x ∈ xs, ∃ ok, (x.2.1, ok) ∈ K ∧ TupKeyObj (PySem.intKind PP w) x.1 ok) ∧ FlatPairs (encTuple PyData.int) (kvsOf xs) D
theorem FunTab.sub {w : World} {K K' : List (Addr × Obj)} {o : Obj} {D : List (PyData × PyData)} (T : FunTab w K o D) (s : ∀ p ∈ K, p ∈ K') : FunTab w K' o D :=
  let ⟨es, ep, xs, hc, hd, he, hn, hk, hf⟩ := T
  ⟨es, ep, xs, hc, hd, he, hn, fun x hx => let ⟨ok, hm, t⟩ := hk x hx; ⟨ok, s _ hm, t⟩, hf⟩
theorem FunTab.tab {w : World} {K news : List (Addr × Obj)} {o : Obj} {d : Addr} {D : List (PyData × PyData)} (T : FunTab w K o D) (lo : (d == sysModules) = false) (hm : (d, o) ∈ news) (s : ∀ p ∈ K, p ∈ news) : TupTab (PySem.intKind PP w) PyData.int news d D :=
  let ⟨es, ep, xs, hc, hd, he, hn, hk, hf⟩ := T
  ⟨lo, o, es, ep, xs, hm, hc, hd, he, hn, fun x hx => let ⟨ok, hq, t⟩ := hk x hx; ⟨ok, s _ hq, t⟩, hf⟩
theorem fun_get {w : World} {A : Around} {E : Value → Shared → Prop} {s : Shared} {h₀ : Heap} {L d k : Addr} {K news : List (Addr × Obj)} {o : Obj} {D : List (PyData × PyData)} {p q j i : Int} {tp tq tk : Tok} {Q : Value → Shared → Prop}
    (hu : A.units + 1 < cLine) (N : News h₀ L s.heap news) (T : FunTab w K o D) (lo : (d == sysModules) = false) (hm : (d, o) ∈ news) (sub : ∀ p ∈ K, p ∈ news) (hk : (k, ({ cls := .type "tuple", data := .seq [.int p tp, .int q tq].toArray } : Obj)) ∈ news)
    (hl : (lookup (encTuple PyData.int [p, q]) D).getD (.int j) = .int i) (h : ∀ t' tk', Q (.int i t') { s with toks := tk' }) : wpAny (model PP w) A (call (.builtin "dict.get") [.ref d, .ref k, .int j tk]) Q E s :=
  call_get2_tupTab (knd := PySem.intKind PP w) (enc := PyData.int) PyProof.V.same_int hu N (T.tab lo hm sub) hk (TupKeyObj.made (.cons (intKind_is _ _ _ _) (.cons (intKind_is _ _ _ _) .nil))) (Flat.int j tk) fun v hv => by
    rw [hl] at hv; obtain ⟨t', rfl⟩ := hv.int_inv; exact h t' _
theorem fun_set {w : World} {A : Around} {E : Value → Shared → Prop} {s : Shared} {h₀ : Heap} {L d k : Addr} {m : Str → Option Value} {K news : List (Addr × Obj)} {g : Obj → List (Addr × Obj)} {o : Obj} {D : List (PyData × PyData)} {p q i : Int} {tp tq tk : Tok} {Q : Unit → Shared → Prop}
    (hu : A.units + 1 < cLine) (F : Fr h₀ L s.heap m) (N : News h₀ L s.heap news) (T : FunTab w K o D) (U : UpdF d o news g) (sub : ∀ p ∈ K, p ∈ news) (hk : (k, ({ cls := .type "tuple", data := .seq [.int p tp, .int q tq].toArray } : Obj)) ∈ news)
    (h : ∀ h' o' tk', Fr h₀ L h' m → News h₀ L h' (g o') → FunTab w ((k, ({ cls := .type "tuple", data := .seq [.int p tp, .int q tq].toArray } : Obj)) :: K) o' (putD (encTuple PyData.int [p, q]) (.int i) D) → Q () { s with heap := h', toks := tk' })
    (hz : D.length ≤ sizeLine) : wpAny (model PP w) A (setItem (.ref d) (.ref k) (.int i tk)) Q E s := by
  obtain ⟨es, ep, xs, hc, hd, he, hn, hks, hf⟩ := T
  obtain ⟨pre, post, rfl, hg, a1, a2⟩ := U.split
  have hm : (d, o) ∈ pre ++ (d, o) :: post := by simp
  have tk0 : TupKeyObj (PySem.intKind PP w) [p, q] { cls := .type "tuple", data := .seq [.int p tp, .int q tq].toArray } := TupKeyObj.made (.cons (intKind_is _ _ _ _) (.cons (intKind_is _ _ _ _) .nil))
  have hD : s.heap.DictOfH (tupleKind (PySem.intKind PP w)) d xs := ⟨o, es, ep, N.get hm, hc, hd, he, fun x hx => let ⟨_, hq, t⟩ := hks x hx; t.key (N.get (sub _ hq)), hn⟩
  have hxs : xs.length ≤ sizeLine := by have e := hf.length; simp only [kvsOf, List.length_map] at e; omega
  refine wpAny_setItem_heap (hsz := hxs) (knd := tupleKind (PySem.intKind PP w)) (tupleKind_room_in1 hu) (tk0.key (N.get hk)) hD fun h' hm' hs => ?_
  obtain ⟨o', es', ep', ho', hc', hd', he', _, hn'⟩ := hm'
  refine h h' o' _ (F.change hs (N _ hm).2.1 (N.fresh hm)) (hg o' ▸ news_set N a1 a2 hs ho') ⟨es', ep', _, hc', hd', he', hn', fun x hx => ?_, by rw [kvsOf_storedH]; exact hf.stored (same_encTuple PyProof.V.same_int) [p, q] (Flat.int i tk)⟩
  rcases mem_storedH hx with ⟨y, hy, e1, e2⟩ | ⟨e1, e2⟩
  · obtain ⟨oky, hmk, t⟩ := hks y hy
    exact ⟨oky, by rw [e2]; exact .tail _ hmk, by rw [e1]; exact t⟩
  · exact ⟨_, by rw [e2]; exact .head _, by rw [e1]; exact tk0⟩

structure SymOk (w : World) (a : SymAd) (S : SymSt) (T : List Str) (F : List (Int × Int)) (K : List (Addr × Obj)) : Prop where
  kA : ∃ kvs, S.oa.IsDictOf (PySem.strKind PP w) kvs ∧ FlatPairs PyData.str kvs (Tdat 0 T)
  zT : S.vT.size = T.length
  zF : S.vF.size = F.length
  tF : FunTab w K S.og (Fdat 0 F)
  lg : (a.gx == sysModules) = false
  c1 : a.dx < a.x
  c2 : a.x < a.tx
  c3 : a.tx < a.ax
  c4 : a.ax < a.fx
  c5 : a.fx < a.gx
  lo : (a.ax == sysModules) = false
structure Off (a : SymAd) (R : List (Addr × Obj)) : Prop where
  h1 : ∀ p ∈ R, p.1 ≠ a.dx
  h2 : ∀ p ∈ R, p.1 ≠ a.x
  h3 : ∀ p ∈ R, p.1 ≠ a.tx
  h4 : ∀ p ∈ R, p.1 ≠ a.ax
  h5 : ∀ p ∈ R, p.1 ≠ a.fx
  h6 : ∀ p ∈ R, p.1 ≠ a.gx
theorem Off.cons {a : SymAd} {R : List (Addr × Obj)} (h : Off a R) {p : Addr × Obj} (h1 : p.1 ≠ a.dx) (h2 : p.1 ≠ a.x) (h3 : p.1 ≠ a.tx) (h4 : p.1 ≠ a.ax) (h5 : p.1 ≠ a.fx) (h6 : p.1 ≠ a.gx) : Off a (p :: R) :=
  ⟨List.forall_mem_cons.mpr ⟨h1, h.1⟩, List.forall_mem_cons.mpr ⟨h2, h.2⟩, List.forall_mem_cons.mpr ⟨h3, h.3⟩, List.forall_mem_cons.mpr ⟨h4, h.4⟩, List.forall_mem_cons.mpr ⟨h5, h.5⟩, List.forall_mem_cons.mpr ⟨h6, h.6⟩⟩

theorem Ctr.perm {w : World} {f : Addr} {vs : List Value} {sz : Nat} {news news₀ : List (Addr × Obj)} {Out Out' : List (Addr × Obj) → Value → Prop} (C : Ctr w f vs sz news Out) (h : ∀ p ∈ news, p ∈ news₀)
    (h2 : ∀ n r, Out n r → ∃ n', (∀ p ∈ n', p ∈ n) ∧ Out' n' r) : Ctr w f vs sz news₀ Out' := by
  intro mean mg mb dp un gd cn cs a ccd cl outer A₀ base h₀ L m s Q E B F X N T hk hd hu hret
  exact C mean mg mb dp un gd cn cs a ccd cl outer A₀ base h₀ L m s Q E B F X (news_sub N h) T hk hd hu fun r n h' tk' F' N' o => by
    obtain ⟨n', s', o'⟩ := h2 n r o
    exact hret r n' h' tk' F' (news_sub N' s') o'
theorem ctr_use {w : World} {f : Addr} {vs : List Value} {sz : Nat} {news : List (Addr × Obj)} {Out : List (Addr × Obj) → Value → Prop} (C : Ctr w f vs sz news Out) {mean : ExcName → Option Value} {mg mb : Str → Option Value} {dp un : Nat} {gd : Option (List Code)} {cn : Str} {cs : Scope} {a : Addr} {ccd : Value} {cl : List (Str × Addr)} {outer : List Env} {A₀ : Around} {base h₀ : Heap} {L : Addr} {m : Str → Option Value} {s : Shared} {Q E : Value → Shared → Prop}
    (B : Below A₀ base outer h₀) (F : Fr h₀ L s.heap m) (X : (hd.heap_39 w.params).In h₀) (N : News h₀ L s.heap news) (T : Top hd.view_39 (looseW hd.view_39 []) mean mg mb h₀) (hk : cs.kind = .function) (hd : dp + sz < recursionLimit) (hu : un + 8 * sz < cLine)
    (ret : ∀ r news' h' tk', Fr h₀ L h' m → News h₀ L h' news' → Out news' r → Q r { s with heap := h', toks := tk' }) :
    wpAny (model PySem.Challenge.rw_rr0018_01.row.prog w) (ktrTop dp un gd cn cs L a ccd cl outer) (call (.ref f) vs) Q E s :=
  C mean mg mb dp un gd cn cs a ccd cl outer A₀ base h₀ L m s Q E B F X N T hk hd hu ret
/-- the same, the ledger first -/
theorem ctr_N {w : World} {f : Addr} {vs : List Value} {sz : Nat} {news : List (Addr × Obj)} {Out : List (Addr × Obj) → Value → Prop} {mean : ExcName → Option Value} {mg mb : Str → Option Value} {dp un : Nat} {gd : Option (List Code)} {cn : Str} {cs : Scope} {a : Addr} {ccd : Value} {cl : List (Str × Addr)} {outer : List Env} {A₀ : Around} {base h₀ : Heap} {L : Addr} {m : Str → Option Value} {s : Shared} {Q E : Value → Shared → Prop}
    (B : Below A₀ base outer h₀) (F : Fr h₀ L s.heap m) (X : (hd.heap_39 w.params).In h₀) (N : News h₀ L s.heap news) (T : Top hd.view_39 (looseW hd.view_39 []) mean mg mb h₀) (hk : cs.kind = .function) (C : Ctr w f vs sz news Out) (hd : dp + sz < recursionLimit) (hu : un + 8 * sz < cLine)
    (ret : ∀ r news' h' tk', Fr h₀ L h' m → News h₀ L h' news' → Out news' r → Q r { s with heap := h', toks := tk' }) :
    wpAny (model PySem.Challenge.rw_rr0018_01.row.prog w) (ktrTop dp un gd cn cs L a ccd cl outer) (call (.ref f) vs) Q E s :=
  C mean mg mb dp un gd cn cs a ccd cl outer A₀ base h₀ L m s Q E B F X N T hk hd hu ret
end

section
theorem start_A1_0 : (0 : Nat) ≤ 1 := by
  w_top off
  k_with_none
  exact Nat.zero_le 1
theorem atom_get {prog : Program} {w : World} {A : Around} {E : Value → Shared → Prop} {s : Shared} {d : Addr} {D : List (PyData × PyData)} {x : Str} {t tk : Tok} {j i : Int} {Q : Value → Shared → Prop} (T : StrTab prog w s.heap d D)
    (hl : (lookup (.str x) D).getD (.int j) = .int i) (h : ∀ t', Q (.int i t') { s with toks := s.toks + 1 }) : wpAny (model prog w) A (call (.builtin "dict.get") [.ref d, .str x t, .int j tk]) Q E s :=
  call_get2_strTab T (Flat.int j tk) fun v hv => by rw [hl] at hv; obtain ⟨t', rfl⟩ := hv.int_inv; exact h t'
theorem len_l {prog : Program} {w : World} {A : Around} {E : Value → Shared → Prop} {s : Shared} {h₀ : Heap} {L l : Addr} {news : List (Addr × Obj)} {items : Array Value} {n : Nat} {Q : Value → Shared → Prop} (N : News h₀ L s.heap news) (hm : (l, listOf items n) ∈ news) (hz : items.size ≤ 10000000)
    (h : ∀ t, Q (.int items.size t) { s with toks := s.toks + 1 + 1 }) : wpAny (model prog w) A (call (.builtin "len") [.ref l]) Q E s :=
  PySem.Calls.call_len_list (N.isList hm) (by omega) (h _)
theorem line_of {D : List (PyData × PyData)} (h : D.length ≤ 10000000) : D.length ≤ sizeLine := by rw [sizeLine_eq]; omega


theorem start_A1_1 : (0 : Nat) ≤ 1 := by
  w_top off
  k_with "m:k_all" => assumption
  k_with "m:call builtin:dict.get" => (k_here; k_dflt (refine' atom_get (by k_tabat) (by assumption) ?_; k_whole); intro _)
  k_with "m:call builtin:len" => (k_here; (with_reducible show wpAny _ _ (call (Value.builtin "len") [Value.ref _]) _ _ _); k_dflt (refine' len_l (by k_asm) (by k_mem) (by assumption) ?_; k_whole); intro _)
  k_with "m:setItem ref str" => (k_here; k_dflt (refine' setItem_K PyProof.V.same_str (strKind_is _ _ _ _) (by k_flat) (by k_asm) (by k_asm) (by k_updF) (by k_asm) (by k_asm) ?_ (by exact line_of (by assumption))); intro h' o' F' N' hd' hf'; (try dsimp only at N'); (try k_sweep))
  exact Nat.zero_le 1
theorem atom_c (w : World) (a : SymAd) (S : SymSt) (T : List Str) (Fs : List (Int × Int)) (K R : List (Addr × Obj)) (ok : SymOk w a S T Fs K) (off : Off a R) (hN : T.length ≤ 1000000) (t : Str) (tk : Tok) :
    Ctr w 88 [.ref a.x, .str t tk] 5 (SymL w a S R) (fun news' r => ∃ S' k, news' = SymL w a S' R ∧ SymOk w a S' (atomTo T t) Fs K ∧ r = .int (T.idxOf t : Nat) k) := by
  obtain ⟨x, dx, tx, ax, fx, gx, t1, t2, t3, t4⟩ := a
  obtain ⟨vT, eT, oa, vF, eF, og⟩ := S
  obtain ⟨⟨kvs, hd, hf⟩, zT, zF, tF, lg, c1, c2, c3, c4, c5, lo⟩ := ok
  obtain ⟨r1, r2, r3, r4, r5, r6⟩ := off
  dsimp only at *
  have hNT : (Tdat 0 T).length ≤ 10000000 := by rw [Tdat_length]; omega
  have hM : vT.size ≤ 10000000 := by omega
  have hm : ∀ o' : Obj, (∃ kvs, o'.IsDictOf (PySem.strKind PP w) kvs ∧ FlatPairs PyData.str kvs (Tdat 0 T)) → atomTo T t = T → True := fun _ _ _ => trivial
  unfold Ctr
  k_fill
  intro mean mg mb dp un gd cn cs a ccd cl outer A₀ base h₀ L m s Q E B F X N T' hk hdd hu hret
  by_cases hmem : t ∈ T
  · have hl : (lookup (.str t) (Tdat 0 T)).getD (.int (-1)) = .int ((T.idxOf t : Nat) : Int) := by rw [Tdat_lookup, if_pos hmem]; simp
    have hge : (0 : Int) ≤ ((T.idxOf t : Nat) : Int) := Int.natCast_nonneg _
    have hto : atomTo T t = T := if_pos hmem
    refine wpAny_call ?_
    k_dflt ktr_enter
    k_steps
    exact hret _ _ _ _ (by assumption) (by assumption) ⟨⟨vT, eT, oa, vF, eF, og⟩, _, rfl, by rw [hto]; exact ⟨⟨_, hd, hf⟩, zT, zF, tF, lg, c1, c2, c3, c4, c5, lo⟩, rfl⟩
  · have hl : (lookup (.str t) (Tdat 0 T)).getD (.int (-1)) = .int (-1) := by rw [Tdat_lookup, if_neg hmem]; simp
    have hto : atomTo T t = T ++ [t] := if_neg hmem
    have hix : T.idxOf t = T.length := List.idxOf_eq_length hmem
    refine wpAny_call ?_
    k_dflt ktr_enter
    k_steps
    (rename Obj.IsDictOf _ _ _ => hd')
    (rename FlatPairs _ _ _ => hf')
    refine hret _ _ _ _ (by assumption) (by assumption) ⟨⟨_, _, _, vF, eF, og⟩, _, rfl, ?_, by rw [hix, zT]⟩
    rw [hto]
    rw [zT] at hd' hf'
    exact ⟨⟨_, hd', by rw [← Tdat_put t T hmem]; exact hf'⟩, by simp [zT], zF, tF, lg, c1, c2, c3, c4, c5, lo⟩
end

section
theorem start_A2_0 : (0 : Nat) ≤ 1 := by
  w_top off
  k_with_none
  exact Nat.zero_le 1
theorem fun_meth {w : World} {A : Around} {E : Value → Shared → Prop} {s : Shared} {h₀ : Heap} {L d : Addr} {K news : List (Addr × Obj)} {o : Obj} {D : List (PyData × PyData)} {pl : Sem Bool} {Q : Value × List Value → Shared → Prop}
    (N : News h₀ L s.heap news) (T : FunTab w K o D) (lo : (d == sysModules) = false) (hm : (d, o) ∈ news) (sub : ∀ p ∈ K, p ∈ news) (h : Q (.builtin "dict.get", [.ref d]) s) : wpAny (model PP w) A (getMethod (.ref d) "get" pl) Q E s :=
  getMethod_tupTab_get N (T.tab lo hm sub) h

theorem start_A2_1 : (0 : Nat) ≤ 1 := by
  w_top off
  k_with "m:getMethod ref" => (k_here; k_dflt (refine' fun_meth (by k_asm) (by assumption) (by assumption) (by k_mem) ?_ ?_; (focus (((rename (∀ p ∈ _, p ∈ _) => hsubX); intro p9 h9; have h8 := hsubX p9 h9; simp only [List.mem_cons]; simp only [h8, or_true]))); k_whole))
  k_with "m:k_all" => assumption
  k_with "m:ktr_units" => ((have hcL9 := cLine_is); (simp only [units_in1, units_deeper, Around.mark_units, units_caller] at *); omega)
  k_with "m:call builtin:dict.get" => (k_here; k_dflt (refine' fun_get (by ktr_units) (by k_asm) (by assumption) (by assumption) (by k_mem) ?_ (by k_mem) (by assumption) ?_; (focus (((rename (∀ p ∈ _, p ∈ _) => hsubX); intro p9 h9; have h8 := hsubX p9 h9; simp only [List.mem_cons]; simp only [h8, or_true]))); k_whole); intro _ _)
  k_with "m:call builtin:len" => (k_here; (with_reducible show wpAny _ _ (call (Value.builtin "len") [Value.ref _]) _ _ _); k_dflt (refine' len_l (by k_asm) (by k_mem) (by assumption) ?_; k_whole); intro _)
  k_with "m:setItem ref ref" => (k_here; k_dflt (refine' fun_set (by ktr_units) (by k_asm) (by k_asm) (by assumption) (by k_updF) ?_ (by k_mem) ?_ (by exact line_of (by assumption)); (focus (((rename (∀ p ∈ _, p ∈ _) => hsubX); intro p9 h9; have h8 := hsubX p9 h9; simp only [List.mem_cons]; simp only [h8, or_true])))); intro h' o' tk' F' N' hd'; (try dsimp only at N'); (try k_sweep))
  exact Nat.zero_le 1
theorem news_rot6 {h₀ h : Heap} {L : Addr} {q c1 c2 c3 c4 c5 c6 : Addr × Obj} {R : List (Addr × Obj)} (N : News h₀ L h (q :: c1 :: c2 :: c3 :: c4 :: c5 :: c6 :: R)) : News h₀ L h (c1 :: c2 :: c3 :: c4 :: c5 :: c6 :: q :: R) :=
  news_sub N fun z hz => by simp only [List.mem_cons] at hz ⊢; grind
theorem functor_c (w : World) (a : SymAd) (S : SymSt) (T : List Str) (Fs : List (Int × Int)) (K R : List (Addr × Obj)) (ok : SymOk w a S T Fs K) (hsub : ∀ p ∈ K, p ∈ R) (off : Off a R) (hN : Fs.length ≤ 1000000) (p q : Int) (tp tq : Tok) :
    Ctr w 102 [.ref a.x, .int p tp, .int q tq] 5 (SymL w a S R) (fun news' r => ∃ S' kt kO k, news' = SymL w a S' ((kt, kO) :: R) ∧ (∀ z ∈ SymL w a S R, z.1 < kt) ∧ SymOk w a S' T (funcTo Fs (p, q)) ((kt, kO) :: K) ∧ r = .int (Fs.idxOf (p, q) : Nat) k) := by
  obtain ⟨x, dx, tx, ax, fx, gx, t1, t2, t3, t4⟩ := a
  obtain ⟨vT, eT, oa, vF, eF, og⟩ := S
  obtain ⟨kA, zT, zF, tF, lg, c1, c2, c3, c4, c5, lo⟩ := ok
  obtain ⟨r1, r2, r3, r4, r5, r6⟩ := off
  dsimp only at *
  have hNF : (Fdat 0 Fs).length ≤ 10000000 := by rw [Fdat_length]; omega
  have hM : vF.size ≤ 10000000 := by omega
  unfold Ctr
  k_fill
  intro mean mg mb dp un gd cn cs a ccd cl outer A₀ base h₀ L m s Q E B F X N T' hk hdd hu hret
  by_cases hmem : (p, q) ∈ Fs
  · have hl : (lookup (encTuple PyData.int [p, q]) (Fdat 0 Fs)).getD (.int (-1)) = .int ((Fs.idxOf (p, q) : Nat) : Int) := by rw [Fdat_lookup (p, q), if_pos hmem]; simp
    have hge : (0 : Int) ≤ ((Fs.idxOf (p, q) : Nat) : Int) := Int.natCast_nonneg _
    refine wpAny_call ?_
    k_dflt ktr_enter
    k_steps
    (rename (_ < _ ∧ _ < _ ∧ _) => l1)
    obtain ⟨q1, q2, q3, q4, q5, q6, q7⟩ := l1
    have q8 := ktn_ltOf q7
    (rename News h₀ L _ (_ :: _) => kN)
    have N1 := news_rot6 kN
    refine hret _ _ _ _ (by assumption) N1 ⟨⟨vT, eT, oa, vF, eF, og⟩, _, _, _, rfl, ?_, ?_, rfl⟩
    · intro z hz; simp only [List.mem_cons] at hz; rcases hz with rfl | rfl | rfl | rfl | rfl | rfl | hz <;> first | assumption | exact q8 _ hz
    · rw [funcTo, if_pos hmem]
      exact ⟨kA, zT, zF, tF.sub fun z hz => .tail _ hz, lg, c1, c2, c3, c4, c5, lo⟩
  · have hl : (lookup (encTuple PyData.int [p, q]) (Fdat 0 Fs)).getD (.int (-1)) = .int (-1) := by rw [Fdat_lookup (p, q), if_neg hmem]; simp
    refine wpAny_call ?_
    k_dflt ktr_enter
    k_steps
    (rename (_ < _ ∧ _ < _ ∧ _) => l1)
    obtain ⟨q1, q2, q3, q4, q5, q6, q7⟩ := l1
    have q8 := ktn_ltOf q7
    (rename News h₀ L _ (_ :: _) => kN)
    have N1 := news_rot6 kN
    refine hret _ _ _ _ (by assumption) N1 ⟨⟨vT, eT, oa, _, _, _⟩, _, _, _, rfl, ?_, ?_, by rw [zF, List.idxOf_eq_length hmem]⟩
    · intro z hz; simp only [List.mem_cons] at hz; rcases hz with rfl | rfl | rfl | rfl | rfl | rfl | hz <;> first | assumption | exact q8 _ hz
    · rename FunTab _ _ _ (putD _ _ _) => hd'
      dsimp only at hd'
      rw [zF, Fdat_put (p, q) Fs hmem] at hd'
      rw [funcTo, if_neg hmem]
      exact ⟨kA, zT, by simp [zF], hd', lg, c1, c2, c3, c4, c5, lo⟩
end

section

theorem start_A3_0 : (0 : Nat) ≤ 1 := by
  w_top off
  k_with_none
  k_with "m:ktr_room" => (first | exact Nat.le_of_ble_eq_true rfl | exact rm0 (by assumption) | exact rm1 (by assumption) (by first | exact Nat.le_of_ble_eq_true rfl | exact Nat.le_add_right_of_le (Nat.le_of_ble_eq_true rfl) | exact dpl1 (by assumption) | exact dpl2 (by assumption) | omega) | exact rm2 (by assumption) (by first | exact Nat.le_of_ble_eq_true rfl | exact Nat.le_add_right_of_le (Nat.le_of_ble_eq_true rfl) | exact dpl1 (by assumption) | exact dpl2 (by assumption) | omega) | exact rm3 (by assumption) (by first | exact Nat.le_of_ble_eq_true rfl | exact Nat.le_add_right_of_le (Nat.le_of_ble_eq_true rfl) | exact dpl1 (by assumption) | exact dpl2 (by assumption) | omega) | exact lwr (by assumption) | omega | ((try simp only [depth_under_make, depth_under_kw, depth_in1, depth_deeper, depth_caller] at *); (try dsimp only [ktrTop] at *); omega))
  k_with "m:ktr_units" => (first | exact Nat.le_of_ble_eq_true rfl | exact un1 (by assumption) (by first | exact Nat.le_of_ble_eq_true rfl | exact Nat.le_add_right_of_le (Nat.le_of_ble_eq_true rfl) | exact dpl1 (by assumption) | exact dpl2 (by assumption) | omega) | exact un2 (by assumption) (by first | exact Nat.le_of_ble_eq_true rfl | exact Nat.le_add_right_of_le (Nat.le_of_ble_eq_true rfl) | exact dpl1 (by assumption) | exact dpl2 (by assumption) | omega) | exact un3 (by assumption) (by first | exact Nat.le_of_ble_eq_true rfl | exact Nat.le_add_right_of_le (Nat.le_of_ble_eq_true rfl) | exact dpl1 (by assumption) | exact dpl2 (by assumption) | omega) | exact lwu (by assumption) | omega | ((try simp only [units_in1, units_deeper, Around.mark_units, units_caller] at *); (try dsimp only [ktrTop] at *); omega))
  k_with "m:call ref" => (k_here; (fail_if_success (fail_if_success (with_reducible show wpAny _ _ (PySem.call (PySem.Value.ref 88) _ _) _ _ _))); k_dflt (refine' ctr_use (atom_c _ _ _ _ _ _ _ (by assumption) (by assumption) (by assumption) _ _) (by k_asm) (by k_asm) (by k_asm) (by k_asm) (by k_asm) (by first | exact rfl | assumption) (by ktr_room) (by ktr_units) ?_; k_whole); intro r' n' h' tk' F' N' o'; obtain ⟨S', k', e1', ok', e2'⟩ := o'; subst e1' e2'; (try k_sweep); (try k_fold))
  k_with "m:call ref" => (k_here; (fail_if_success (fail_if_success (with_reducible show wpAny _ _ (PySem.call (PySem.Value.ref 102) _ _) _ _ _))); k_dflt (refine' ctr_use (functor_c _ _ _ _ _ _ _ (by assumption) (by assumption) (by assumption) (by assumption) _ _ _ _) (by k_asm) (by k_asm) (by k_asm) (by k_asm) (by k_asm) (by first | exact rfl | assumption) (by ktr_room) (by ktr_units) ?_; k_whole); intro r' n' h' tk' F' N' o'; obtain ⟨S', kt', kO', k', e1', lt', ok', e2'⟩ := o'; subst e1' e2'; (try k_sweep); (try k_fold))
  exact Nat.zero_le 1
theorem key_lt {kt : Addr} {l : List (Addr × Obj)} (h : ∀ z ∈ l, z.1 < kt) {a : Addr} {o : Obj} (hm : (a, o) ∈ l) : a < kt := h _ hm

theorem func_c (w : World) (a : SymAd) (S : SymSt) (T : List Str) (Fs : List (Int × Int)) (K R : List (Addr × Obj)) (ok : SymOk w a S T Fs K) (hsub : ∀ p ∈ K, p ∈ R) (off : Off a R) (hN : T.length ≤ 1000000) (hM : Fs.length ≤ 1000000) (t : Str) (q : Int) (tk tq : Tok) :
    Ctr w 109 [.ref a.x, .str t tk, .int q tq] 10 (SymL w a S R) (fun news' r => ∃ S' kt kO k, news' = SymL w a S' ((kt, kO) :: R) ∧ (∀ z ∈ SymL w a S R, z.1 < kt) ∧ SymOk w a S' (atomTo T t) (funcTo Fs ((T.idxOf t : Nat), q)) ((kt, kO) :: K) ∧ r = .int (Fs.idxOf (((T.idxOf t : Nat) : Int), q) : Nat) k) := by
  unfold Ctr
  k_fill
  intro mean mg mb dp un gd cn cs a' ccd cl outer A₀ base h₀ L m s Q E B F X N T' hk hdd hu hret
  refine wpAny_call ?_
  k_dflt ktr_enter
  k_steps
  (rename (∀ z : Addr × Obj, z ∈ SymL _ _ _ _ → z.1 < _) => lt1)
  refine hret _ _ _ _ (by assumption) (by assumption) ⟨_, _, _, _, rfl, fun z hz => ?_, by assumption, rfl⟩
  simp only [List.mem_cons] at hz
  rcases hz with rfl | rfl | rfl | rfl | rfl | rfl | hz
  · exact lt1 _ (.head _)
  · exact key_lt lt1 (.tail _ (.head _))
  · exact key_lt lt1 (.tail _ (.tail _ (.head _)))
  · exact key_lt lt1 (.tail _ (.tail _ (.tail _ (.head _))))
  · exact key_lt lt1 (.tail _ (.tail _ (.tail _ (.tail _ (.head _)))))
  · exact key_lt lt1 (.tail _ (.tail _ (.tail _ (.tail _ (.tail _ (.head _))))))
  · exact lt1 _ (.tail _ (.tail _ (.tail _ (.tail _ (.tail _ (.tail _ hz))))))
end

section

theorem start_R1_0 : (0 : Nat) ≤ 1 := by
  w_top off
  k_with_none
  k_with "m:k_all" => assumption
  exact Nat.zero_le 1
theorem fmod_lo {x f : Int} (h : 0 < f) : 0 ≤ x.fmod f := by
  rw [Int.fmod_eq_emod_of_nonneg _ (by omega)]; exact Int.emod_nonneg _ (by omega)
theorem fmod_hi {x f : Int} (h : 0 < f) : x.fmod f < f := by
  rw [Int.fmod_eq_emod_of_nonneg _ (by omega)]; exact Int.emod_lt_of_pos _ (by omega)

theorem roll_c (w : World) (vals : List Value) (ns : List Int) (hI : IntsAre vals ns) (hlen : ns.length ≤ 63) (d sl : Nat) (i : Int) (ti tf : Tok) (e e0 : Nat) (h0 : 0 ≤ i) (hi : i ≤ 1000000) (faces : Int) (hf : 0 < faces) (hf2 : faces < 100) (hne : sl ≠ d) (rest : List (Addr × Obj)) (hr : ∀ p ∈ rest, p.1 ≠ d) :
  Ctr w 242 [.ref d, .int faces tf] 5 ((d, listOf #[.ref sl, .int i ti] e) :: (sl, listOf vals.toArray e0) :: rest) (fun news' r => ∃ ti' e' tr k, news' = ((d, listOf #[.ref sl, .int (i+1) ti'] e') :: (sl, listOf vals.toArray e0) :: rest) ∧ r = .int k tr ∧ 0 ≤ k ∧ k < faces) := by
  unfold Ctr
  k_fill
  intro mean mg mb dp un gd cn cs a ccd cl outer A₀ base h₀ L m s Q E B F X N T hk hd hu hret
  refine wpAny_call ?_
  k_dflt ktr_enter
  k_steps
  · exact hret _ _ _ _ (by assumption) (by assumption) ⟨_, _, _, _, rfl, rfl, by omega, by omega⟩
  · exact hret _ _ _ _ (by assumption) (by assumption) ⟨_, _, _, _, rfl, rfl, fmod_lo hf, fmod_hi hf⟩
  · exact hret _ _ _ _ (by assumption) (by assumption) ⟨_, _, _, _, rfl, rfl, fmod_lo hf, fmod_hi hf⟩

/-! the state of a walk of the law's own defs: the die, the symbol table, and what does not change any more -/
structure Die where
  d : Nat
  sl : Nat
  vals : List Value
  ns : List Int
  e0 : Nat
abbrev StL (w : World) (D : Die) (a : SymAd) (S : SymSt) (i : Int) (ti : Tok) (e : Nat) (R : List (Addr × Obj)) : List (Addr × Obj) :=
  (D.d, listOf #[.ref D.sl, .int i ti] e) :: (D.sl, listOf D.vals.toArray D.e0) :: SymL w a S R
/-- the first six rows of the functor table, by their arities -/
def Good6 (F : List (Int × Int)) : Prop := ∃ a b c d e f F', F = (a, 2) :: (b, 2) :: (c, 2) :: (d, 2) :: (e, 1) :: (f, 2) :: F'
theorem Good6.to {F : List (Int × Int)} (g : Good6 F) (p : Int × Int) : Good6 (funcTo F p) := by
  obtain ⟨a, b, c, d, e, f, F', rfl⟩ := g
  unfold funcTo; split
  · exact ⟨a, b, c, d, e, f, F', rfl⟩
  · exact ⟨a, b, c, d, e, f, F' ++ [p], rfl⟩
theorem Good6.idx {F : List (Int × Int)} (g : Good6 F) (p : Int) : 4 ≤ F.idxOf (p, 1) ∧ F.idxOf (p, 1) ≠ 5 := by
  obtain ⟨a, b, c, d, e, f, F', rfl⟩ := g
  have q : ∀ x y : Int, (((x, (2 : Int)) : Int × Int) == (y, 1)) = false := fun x y => by rw [beq_eq_false_iff_ne]; simp
  simp only [List.idxOf_cons, q, cond_false]
  by_cases h : e = p
  · subst h; simp
  · have : ((e, (1 : Int)) == (p, 1)) = false := by rw [beq_eq_false_iff_ne]; simp [h]
    simp only [this, cond_false]; omega
structure StOk (w : World) (D : Die) (a : SymAd) (S : SymSt) (T : List Str) (F : List (Int × Int)) (K R : List (Addr × Obj)) (i : Int) (n : Nat) : Prop where
  sym : SymOk w a S T F K
  sub : ∀ p ∈ K, p ∈ R
  hi : ∀ p ∈ R, a.gx < p.1
  isI : IntsAre D.vals D.ns
  len : D.ns.length ≤ 63
  c6 : D.sl < D.d
  c7 : D.d < a.dx
  i0 : 0 ≤ i
  iN : i ≤ n
  tN : T.length ≤ n
  fN : F.length ≤ n
  g6 : Good6 F
theorem SymOk.off {w : World} {a : SymAd} {S : SymSt} {T : List Str} {F : List (Int × Int)} {K R : List (Addr × Obj)} (s : SymOk w a S T F K) (hi : ∀ p ∈ R, a.gx < p.1) : Off a R := by
  obtain ⟨_, _, _, _, _, c1, c2, c3, c4, c5, _⟩ := s
  constructor <;> intro p hp <;> have := hi p hp <;> (refine neN ?_; omega)
theorem StOk.more {w : World} {D : Die} {a : SymAd} {S : SymSt} {T : List Str} {F : List (Int × Int)} {K R : List (Addr × Obj)} {i : Int} {n m : Nat} (s : StOk w D a S T F K R i n) (h : n ≤ m) : StOk w D a S T F K R i m := by
  obtain ⟨a1, a2, a3, a4, a5, a6, a7, a8, a9, b1, b2, b3⟩ := s
  exact ⟨a1, a2, a3, a4, a5, a6, a7, a8, by omega, by omega, by omega, b3⟩
theorem StOk.cons {w : World} {D : Die} {a : SymAd} {S : SymSt} {T : List Str} {F : List (Int × Int)} {K R : List (Addr × Obj)} {i : Int} {n : Nat} (s : StOk w D a S T F K R i n) {p : Addr × Obj} (h : a.gx < p.1) : StOk w D a S T F K (p :: R) i n :=
  { s with sub := fun q hq => .tail _ (s.sub q hq), hi := List.forall_mem_cons.mpr ⟨h, s.hi⟩ }

theorem atomTo_len (T : List Str) (t : Str) : (atomTo T t).length ≤ T.length + 1 := by
  unfold atomTo; split
  · omega
  · simp
theorem funcTo_len (F : List (Int × Int)) (t : Int × Int) : (funcTo F t).length ≤ F.length + 1 := by
  unfold funcTo; split
  · omega
  · simp
theorem roll_d {w : World} {D : Die} {a : SymAd} {S : SymSt} {T : List Str} {F : List (Int × Int)} {K R : List (Addr × Obj)} {i : Int} {n : Nat} {ti tf : Tok} {e : Nat} {faces : Int} (ok : StOk w D a S T F K R i n) (hn : n ≤ 1000000) (hf : 0 < faces) (hf2 : faces < 100) :
    Ctr w 242 [.ref D.d, .int faces tf] 5 (StL w D a S i ti e R) (fun n' r => ∃ ti' e' k tr, n' = StL w D a S (i + 1) ti' e' R ∧ StOk w D a S T F K R (i + 1) (n + 1) ∧ r = .int k tr ∧ 0 ≤ k ∧ k < faces) := by
  have ok0 := ok
  obtain ⟨a1, a2, a3, a4, a5, a6, a7, a8, a9, b1, b2, b3⟩ := ok
  obtain ⟨_, _, _, _, _, c1, c2, c3, c4, c5, _⟩ := a1
  refine Ctr.perm (roll_c w D.vals D.ns a4 a5 D.d D.sl i ti tf e D.e0 a8 (by omega) faces hf hf2 (by omega) (SymL w a S R) ?_) (fun p hp => hp) ?_
  · intro p hp
    simp only [List.mem_cons] at hp
    rcases hp with rfl | rfl | rfl | rfl | rfl | rfl | hp
    · show a.x ≠ D.d; omega
    · show a.dx ≠ D.d; omega
    · show a.tx ≠ D.d; omega
    · show a.ax ≠ D.d; omega
    · show a.fx ≠ D.d; omega
    · show a.gx ≠ D.d; omega
    · have := a3 p hp; refine neN ?_; omega
  · rintro n' r ⟨ti', e', tr, k, rfl, rfl, h1, h2⟩
    exact ⟨_, fun p hp => hp, ti', e', k, tr, rfl, { ok0 with i0 := by omega, iN := by omega, tN := by omega, fN := by omega }, rfl, h1, h2⟩

theorem die_off {w : World} {D : Die} {a : SymAd} {S : SymSt} {T : List Str} {F : List (Int × Int)} {K R : List (Addr × Obj)} {i : Int} {n : Nat} {o1 o2 : Obj} (ok : StOk w D a S T F K R i n) : Off a ((D.d, o1) :: (D.sl, o2) :: R) := by
  obtain ⟨a1, a2, a3, a4, a5, a6, a7, a8, a9, b1, b2, b3⟩ := ok
  have o := a1.off a3
  obtain ⟨_, _, _, _, _, c1, c2, c3, c4, c5, _⟩ := a1
  refine Off.cons (Off.cons o ?_ ?_ ?_ ?_ ?_ ?_) ?_ ?_ ?_ ?_ ?_ ?_ <;> (refine neN ?_; dsimp only; omega)

theorem atom_d {w : World} {D : Die} {a : SymAd} {S : SymSt} {T : List Str} {F : List (Int × Int)} {K R : List (Addr × Obj)} {i : Int} {n : Nat} {ti tk : Tok} {e : Nat} {t : Str} (ok : StOk w D a S T F K R i n) (hn : n ≤ 1000000) :
    Ctr w 88 [.ref a.x, .str t tk] 5 (StL w D a S i ti e R) (fun n' r => ∃ S' k, n' = StL w D a S' i ti e R ∧ StOk w D a S' (atomTo T t) F K R i (n + 1) ∧ r = .int (T.idxOf t : Nat) k) := by
  refine Ctr.perm (atom_c w a S T F K ((D.d, listOf #[.ref D.sl, .int i ti] e) :: (D.sl, listOf D.vals.toArray D.e0) :: R) ok.sym (die_off ok) (Nat.le_trans ok.tN hn) t tk) ?_ ?_
  · intro p hp; simp only [List.mem_cons] at hp ⊢; grind
  · rintro n' r ⟨S', k, rfl, ok', rfl⟩
    refine ⟨StL w D a S' i ti e R, ?_, S', k, rfl, ?_, rfl⟩
    · intro p hp; simp only [List.mem_cons] at hp ⊢; grind
    · have h1 := ok.tN; have h2 := ok.fN; have h3 := ok.iN
      exact { ok with sym := ok', tN := Nat.le_trans (atomTo_len T t) (by omega), fN := by omega, iN := by omega }

theorem func_d {w : World} {D : Die} {a : SymAd} {S : SymSt} {T : List Str} {F : List (Int × Int)} {K R : List (Addr × Obj)} {i : Int} {n : Nat} {ti tk tq : Tok} {e : Nat} {t : Str} {q : Int} (ok : StOk w D a S T F K R i n) (hn : n ≤ 1000000) :
    Ctr w 109 [.ref a.x, .str t tk, .int q tq] 10 (StL w D a S i ti e R) (fun n' r => ∃ S' K' p k, n' = StL w D a S' i ti e (p :: R) ∧ (∀ z ∈ R, z.1 < p.1) ∧ StOk w D a S' (atomTo T t) (funcTo F ((T.idxOf t : Nat), q)) K' (p :: R) i (n + 1) ∧ r = .int (F.idxOf (((T.idxOf t : Nat) : Int), q) : Nat) k) := by
  refine Ctr.perm (func_c w a S T F K ((D.d, listOf #[.ref D.sl, .int i ti] e) :: (D.sl, listOf D.vals.toArray D.e0) :: R) ok.sym (fun p hp => .tail _ (.tail _ (ok.sub p hp))) (die_off ok) (Nat.le_trans ok.tN hn) (Nat.le_trans ok.fN hn) t q tk tq) ?_ ?_
  · intro p hp; simp only [List.mem_cons] at hp ⊢; grind
  · rintro n' r ⟨S', kt, kO, k, rfl, lt, ok', rfl⟩
    refine ⟨StL w D a S' i ti e ((kt, kO) :: R), ?_, S', (kt, kO) :: K, (kt, kO), k, rfl, ?_, ?_, rfl⟩
    · intro p hp; simp only [List.mem_cons] at hp ⊢; grind
    · intro z hz; exact lt z (by simp [hz])
    · have h1 := ok.tN; have h2 := ok.fN; have h3 := ok.iN
      refine { ok with sym := ok', tN := Nat.le_trans (atomTo_len T t) (by omega), fN := Nat.le_trans (funcTo_len F _) (by omega), g6 := ok.g6.to _, iN := by omega, sub := List.forall_mem_cons.mpr ⟨.head _, fun p hp => .tail _ (ok.sub p hp)⟩, hi := List.forall_mem_cons.mpr ⟨lt (a.gx, S.og) (by simp), ok.hi⟩ }
end

section
theorem start_L1_0 : (0 : Nat) ≤ 1 := by
  w_top off
  k_with_none
  exact Nat.zero_le 1
/-! the bodies as trees that carry their addresses -/
inductive Tr where
  | leaf (a : Nat) (k : Str) (n : Int)
  | one (a b : Nat) (f : Int) (x : Tr)
  | two (a b : Nat) (f : Int) (x y : Tr)
def Tr.adr : Tr → Nat
  | .leaf a _ _ => a
  | .one a _ _ _ => a
  | .two a _ _ _ _ => a
def Tr.dep : Tr → Nat
  | .leaf _ _ _ => 1
  | .one _ _ _ x => x.dep + 1
  | .two _ _ _ x y => max x.dep y.dep + 1
abbrev tupO (vs : List Value) : Obj := { cls := .type "tuple", data := .seq vs.toArray }
inductive TreeIn (R : List (Addr × Obj)) : Tr → Prop where
  | leaf {a : Nat} {k : Str} {n : Int} {t1 t2 : Tok} : (a, tupO [.str k t1, .int n t2]) ∈ R → (k = Str.ofString "a" ∨ k = Str.ofString "v" ∨ k = Str.ofString "i") → TreeIn R (.leaf a k n)
  | one {a b : Nat} {f : Int} {x : Tr} {t1 t2 : Tok} : (a, tupO [.str (Str.ofString "s") t1, .int f t2, .ref b]) ∈ R → (b, tupO [.ref x.adr]) ∈ R → 4 ≤ f → TreeIn R x → TreeIn R (.one a b f x)
  | two {a b : Nat} {f : Int} {x y : Tr} {t1 t2 : Tok} : (a, tupO [.str (Str.ofString "s") t1, .int f t2, .ref b]) ∈ R → (b, tupO [.ref x.adr, .ref y.adr]) ∈ R → (f = 1 ∨ f = 2 ∨ f = 3) → TreeIn R x → TreeIn R y → TreeIn R (.two a b f x y)
theorem TreeIn.mono {R R' : List (Addr × Obj)} {t : Tr} (h : TreeIn R t) (s : ∀ p ∈ R, p ∈ R') : TreeIn R' t := by
  induction h with
  | leaf h k => exact .leaf (s _ h) k
  | one h1 h2 f _ ih => exact .one (s _ h1) (s _ h2) f ih
  | two h1 h2 f _ _ ih1 ih2 => exact .two (s _ h1) (s _ h2) f ih1 ih2

def BodyOut (w : World) (D : Die) (a : SymAd) (R : List (Addr × Obj)) (n : Nat) (dep : Nat) (news' : List (Addr × Obj)) (r : Value) : Prop :=
  ∃ S' T' F' K' R' i' ti' e' t, news' = StL w D a S' i' ti' e' R' ∧ StOk w D a S' T' F' K' R' i' n ∧ (∀ p ∈ R, p ∈ R') ∧ TreeIn R' t ∧ t.dep ≤ dep ∧ r = .ref t.adr

section
variable {w : World} {D : Die} {a : SymAd} {S : SymSt} {T : List Str} {F : List (Int × Int)} {K R R0 : List (Addr × Obj)} {i : Int} {n n' dep : Nat} {ti : Tok} {e : Nat} {h₀ h : Heap} {L : Addr}
theorem leaf_end {p : Nat} {k : Str} {v : Int} {t1 t2 : Tok} (N : News h₀ L h ((p, tupO [.str k t1, .int v t2]) :: StL w D a S i ti e R)) (ok : StOk w D a S T F K R i n') (hn : n' ≤ n) (hlt : a.gx < p) (hk : k = Str.ofString "a" ∨ k = Str.ofString "v" ∨ k = Str.ofString "i")
    (sub : ∀ q ∈ R0, q ∈ R) (hd : 1 ≤ dep) : ∃ news', News h₀ L h news' ∧ BodyOut w D a R0 n dep news' (.ref p) := by
  refine ⟨StL w D a S i ti e ((p, tupO [.str k t1, .int v t2]) :: R), news_sub N fun z hz => ?_, S, T, F, K, _, i, ti, e, .leaf p k v, rfl, (ok.cons hlt).more hn, fun q hq => .tail _ (sub q hq), .leaf (.head _) hk, hd, rfl⟩
  simp only [List.mem_cons] at hz ⊢; grind
theorem one_end {c b : Nat} {x : Tr} {f : Int} {t1 t2 : Tok} (N : News h₀ L h ((c, tupO [.str (Str.ofString "s") t1, .int f t2, .ref b]) :: (b, tupO [.ref x.adr]) :: StL w D a S i ti e R)) (ok : StOk w D a S T F K R i n') (hn : n' ≤ n) (hc : a.gx < c) (hb : a.gx < b) (hx : TreeIn R x) (hf : 4 ≤ f)
    (sub : ∀ q ∈ R0, q ∈ R) (hd : x.dep + 1 ≤ dep) : ∃ news', News h₀ L h news' ∧ BodyOut w D a R0 n dep news' (.ref c) := by
  refine ⟨StL w D a S i ti e ((c, tupO [.str (Str.ofString "s") t1, .int f t2, .ref b]) :: (b, tupO [.ref x.adr]) :: R), news_sub N fun z hz => ?_, S, T, F, K, _, i, ti, e, .one c b f x, rfl, ((ok.cons hb).cons hc).more hn, fun q hq => .tail _ (.tail _ (sub q hq)), .one (.head _) (.tail _ (.head _)) hf (hx.mono fun q hq => .tail _ (.tail _ hq)), hd, rfl⟩
  simp only [List.mem_cons] at hz ⊢; grind
theorem dleaf_end {c b q : Nat} {f : Int} {t1 t2 t3 t4 : Tok} (N : News h₀ L h ((c, tupO [.str (Str.ofString "s") t1, .int f t2, .ref b]) :: (b, tupO [.ref q]) :: (q, tupO [.str (Str.ofString "i") t3, .int 4 t4]) :: StL w D a S i ti e R)) (ok : StOk w D a S T F K R i n') (hn : n' ≤ n) (hc : a.gx < c) (hb : a.gx < b) (hq : a.gx < q) (hf : 4 ≤ f)
    (sub : ∀ q ∈ R0, q ∈ R) (hd : 2 ≤ dep) : ∃ news', News h₀ L h news' ∧ BodyOut w D a R0 n dep news' (.ref c) := by
  refine one_end (t1 := t1) (t2 := t2) (ti := ti) (e := e) (x := .leaf q (Str.ofString "i") 4) (R := (q, tupO [.str (Str.ofString "i") t3, .int 4 t4]) :: R) (news_sub N fun z hz => ?_) (ok.cons hq) hn hc hb (.leaf (.head _) (.inr (.inr rfl))) hf (fun p hp => .tail _ (sub p hp)) hd
  simp only [List.mem_cons, Tr.adr] at hz ⊢; grind
theorem two_end {c b : Nat} {x y : Tr} {f : Int} {t1 t2 : Tok} (N : News h₀ L h ((c, tupO [.str (Str.ofString "s") t1, .int f t2, .ref b]) :: (b, tupO [.ref x.adr, .ref y.adr]) :: StL w D a S i ti e R)) (ok : StOk w D a S T F K R i n') (hn : n' ≤ n) (hc : a.gx < c) (hb : a.gx < b) (hx : TreeIn R x) (hy : TreeIn R y) (hf : f = 1 ∨ f = 2 ∨ f = 3)
    (sub : ∀ q ∈ R0, q ∈ R) (hd : x.dep + 1 ≤ dep) (hd2 : y.dep + 1 ≤ dep) : ∃ news', News h₀ L h news' ∧ BodyOut w D a R0 n dep news' (.ref c) := by
  refine ⟨StL w D a S i ti e ((c, tupO [.str (Str.ofString "s") t1, .int f t2, .ref b]) :: (b, tupO [.ref x.adr, .ref y.adr]) :: R), news_sub N fun z hz => ?_, S, T, F, K, _, i, ti, e, .two c b f x y, rfl, ((ok.cons hb).cons hc).more hn, fun q hq => .tail _ (.tail _ (sub q hq)),
    .two (.head _) (.tail _ (.head _)) hf (hx.mono fun q hq => .tail _ (.tail _ hq)) (hy.mono fun q hq => .tail _ (.tail _ hq)), by simp only [Tr.dep]; omega, rfl⟩
  simp only [List.mem_cons] at hz ⊢; grind
end

theorem start_L1_1 : (0 : Nat) ≤ 1 := by
  w_top off
  k_with "m:ktr_room" => (first | exact Nat.le_of_ble_eq_true rfl | exact rm0 (by assumption) | exact rm1 (by assumption) (by first | exact Nat.le_of_ble_eq_true rfl | exact Nat.le_add_right_of_le (Nat.le_of_ble_eq_true rfl) | exact dpl1 (by assumption) | exact dpl2 (by assumption) | omega) | exact rm2 (by assumption) (by first | exact Nat.le_of_ble_eq_true rfl | exact Nat.le_add_right_of_le (Nat.le_of_ble_eq_true rfl) | exact dpl1 (by assumption) | exact dpl2 (by assumption) | omega) | exact rm3 (by assumption) (by first | exact Nat.le_of_ble_eq_true rfl | exact Nat.le_add_right_of_le (Nat.le_of_ble_eq_true rfl) | exact dpl1 (by assumption) | exact dpl2 (by assumption) | omega) | exact lwr (by assumption) | omega | ((try simp only [depth_under_make, depth_under_kw, depth_in1, depth_deeper, depth_caller] at *); (try dsimp only [ktrTop] at *); omega))
  k_with "m:ktr_units" => (first | exact Nat.le_of_ble_eq_true rfl | exact un1 (by assumption) (by first | exact Nat.le_of_ble_eq_true rfl | exact Nat.le_add_right_of_le (Nat.le_of_ble_eq_true rfl) | exact dpl1 (by assumption) | exact dpl2 (by assumption) | omega) | exact un2 (by assumption) (by first | exact Nat.le_of_ble_eq_true rfl | exact Nat.le_add_right_of_le (Nat.le_of_ble_eq_true rfl) | exact dpl1 (by assumption) | exact dpl2 (by assumption) | omega) | exact un3 (by assumption) (by first | exact Nat.le_of_ble_eq_true rfl | exact Nat.le_add_right_of_le (Nat.le_of_ble_eq_true rfl) | exact dpl1 (by assumption) | exact dpl2 (by assumption) | omega) | exact lwu (by assumption) | omega | ((try simp only [units_in1, units_deeper, Around.mark_units, units_caller] at *); (try dsimp only [ktrTop] at *); omega))
  k_with "m:call ref" => (k_here; (fail_if_success (fail_if_success (with_reducible show wpAny _ _ (PySem.call (PySem.Value.ref 242) _ _) _ _ _))); k_dflt (refine' ctr_use (roll_d (by assumption) (by omega) (by decide) (by decide)) (by k_asm) (by k_asm) (by k_asm) (by k_asm) (by k_asm) (by first | exact rfl | assumption) (by ktr_room) (by ktr_units) ?_; k_whole); intro r' n' h' tk' F' N' o'; obtain ⟨ti', e', k', tr', e1', ok', e2', lo', hi'⟩ := o'; subst e1' e2'; (try k_sweep); (try k_fold))
  k_with "m:call ref" => (k_here; (fail_if_success (fail_if_success (with_reducible show wpAny _ _ (PySem.call (PySem.Value.ref 88) _ _) _ _ _))); k_dflt (refine' ctr_use (atom_d (by assumption) (by omega)) (by k_asm) (by k_asm) (by k_asm) (by k_asm) (by k_asm) (by first | exact rfl | assumption) (by ktr_room) (by ktr_units) ?_; k_whole); intro r' n' h' tk' F' N' o'; obtain ⟨S', k', e1', ok', e2'⟩ := o'; subst e1' e2'; (try k_sweep); (try k_fold))
  k_with "m:call ref" => (k_here; (fail_if_success (fail_if_success (with_reducible show wpAny _ _ (PySem.call (PySem.Value.ref 109) _ _) _ _ _))); k_dflt (refine' ctr_use (func_d (by assumption) (by omega)) (by k_asm) (by k_asm) (by k_asm) (by k_asm) (by k_asm) (by first | exact rfl | assumption) (by ktr_room) (by ktr_units) ?_; k_whole); intro r' n' h' tk' F' N' o'; obtain ⟨S', K', p', k', e1', lt', ok', e2'⟩ := o'; subst e1' e2'; (try k_sweep); (try k_fold))
  exact Nat.zero_le 1
theorem leaf_c {w : World} {D : Die} {a : SymAd} {S : SymSt} {T : List Str} {F : List (Int × Int)} {K R : List (Addr × Obj)} {i : Int} {n : Nat} {ti : Tok} {e : Nat} (ok : StOk w D a S T F K R i n) (hn : n ≤ 900000) :
    Ctr w 249 [.ref D.d, .ref a.x] 20 (StL w D a S i ti e R) (BodyOut w D a R (n + 3) 2) := by
  unfold Ctr
  k_fill
  intro mean mg mb dp un gd cn cs a' ccd cl outer A₀ base h₀ L m s Q E B F X N T' hk hdd hu hret
  refine wpAny_call ?_
  k_dflt ktr_enter
  k_steps
  all_goals (rename News h₀ L _ (_ :: _ :: _ :: _) => kN)
  · obtain ⟨n9, N9, O9⟩ := leaf_end (n := n + 3) (R0 := R) (dep := 2) kN (by assumption) (by omega) (by omega) (.inl rfl) (fun _ h => h) (by omega)
    exact hret _ _ _ _ (by assumption) N9 O9
  · obtain ⟨n9, N9, O9⟩ := leaf_end (n := n + 3) (R0 := R) (dep := 2) kN (by assumption) (by omega) (by omega) (.inl rfl) (fun _ h => h) (by omega)
    exact hret _ _ _ _ (by assumption) N9 O9
  · obtain ⟨n9, N9, O9⟩ := leaf_end (n := n + 3) (R0 := R) (dep := 2) kN (by assumption) (by omega) (by omega) (.inr (.inl rfl)) (fun _ h => h) (by omega)
    exact hret _ _ _ _ (by assumption) N9 O9
  · obtain ⟨n9, N9, O9⟩ := leaf_end (n := n + 3) (R0 := R) (dep := 2) kN (by assumption) (by omega) (by omega) (.inr (.inr rfl)) (fun _ h => h) (by omega)
    exact hret _ _ _ _ (by assumption) N9 O9
  · obtain ⟨n9, N9, O9⟩ := dleaf_end (n := n + 3) (R0 := R) (dep := 2) kN (by assumption) (by omega) (by omega) (by omega) (by omega) (Int.ofNat_le.mpr (ok.g6.idx _).1) (fun _ h => .tail _ h) (by omega)
    exact hret _ _ _ _ (by assumption) N9 O9
  · obtain ⟨n9, N9, O9⟩ := leaf_end (n := n + 3) (R0 := R) (dep := 2) kN (by assumption) (by omega) (by omega) (.inl rfl) (fun _ h => h) (by omega)
    exact hret _ _ _ _ (by assumption) N9 O9
  · obtain ⟨n9, N9, O9⟩ := leaf_end (n := n + 3) (R0 := R) (dep := 2) kN (by assumption) (by omega) (by omega) (.inl rfl) (fun _ h => h) (by omega)
    exact hret _ _ _ _ (by assumption) N9 O9
end

section
theorem start_B1_0 : (0 : Nat) ≤ 1 := by
  w_top off
  k_with_none
  exact Nat.zero_le 1
def bud : Nat → Nat
  | 0 => 3
  | d + 1 => 2 * bud d + 5
def BodyIH (w : World) (D : Die) (a : SymAd) (d : Nat) : Prop :=
  ∀ (S : SymSt) (T : List Str) (F : List (Int × Int)) (K R : List (Addr × Obj)) (i : Int) (n : Nat) (ti : Tok) (e : Nat) (z : Int) (tz : Tok), StOk w D a S T F K R i n → n + bud d ≤ 900000 → z = (d : Int) →
    Ctr w 256 [.ref D.d, .ref a.x, .int z tz] (25 + 2 * d) (StL w D a S i ti e R) (BodyOut w D a R (n + bud d) (d + 2))

theorem menu_f {k : Int} (h0 : 0 ≤ k) (h8 : k < 8) (h7 : k ≠ 7) (h4 : k ≠ 4) (h5 : k ≠ 5) : ([1, 1, 2, 3, 4, 4, 1] : List Int).getD k.toNat 0 = 1 ∨ ([1, 1, 2, 3, 4, 4, 1] : List Int).getD k.toNat 0 = 2 ∨ ([1, 1, 2, 3, 4, 4, 1] : List Int).getD k.toNat 0 = 3 := by
  have : k = 0 ∨ k = 1 ∨ k = 2 ∨ k = 3 ∨ k = 6 := by omega
  rcases this with rfl | rfl | rfl | rfl | rfl <;> simp
theorem bodyOut_weak {w : World} {D : Die} {a : SymAd} {R R' : List (Addr × Obj)} {n m dep dep' : Nat} {news' : List (Addr × Obj)} {r : Value} (o : BodyOut w D a R n dep news' r) (s : ∀ p ∈ R', p ∈ R) (h : n ≤ m) (hd : dep ≤ dep') : BodyOut w D a R' m dep' news' r := by
  obtain ⟨S', T', F', K', R'', i', ti', e', t', e1', ok', sub', tin', dp, e2'⟩ := o
  exact ⟨S', T', F', K', R'', i', ti', e', t', e1', ok'.more h, fun p hp => sub' p (s p hp), tin', by omega, e2'⟩
section
variable {w : World} {D : Die} {a : SymAd} {S : SymSt} {T : List Str} {F : List (Int × Int)} {K R R0 : List (Addr × Obj)} {i : Int} {n n' dep : Nat} {ti : Tok} {e : Nat} {h₀ h : Heap} {L : Addr}
theorem two_end' {c b l : Nat} {lo : Obj} {x y : Tr} {f : Int} {t1 t2 : Tok} (N : News h₀ L h ((c, tupO [.str (Str.ofString "s") t1, .int f t2, .ref b]) :: (b, tupO [.ref x.adr, .ref y.adr]) :: (l, lo) :: StL w D a S i ti e R)) (ok : StOk w D a S T F K R i n') (hn : n' ≤ n) (hc : a.gx < c) (hb : a.gx < b) (hl : a.gx < l) (hx : TreeIn R x) (hy : TreeIn R y) (hf : f = 1 ∨ f = 2 ∨ f = 3)
    (sub : ∀ q ∈ R0, q ∈ R) (hd : x.dep + 1 ≤ dep) (hd2 : y.dep + 1 ≤ dep) : ∃ news', News h₀ L h news' ∧ BodyOut w D a R0 n dep news' (.ref c) := by
  refine two_end (t1 := t1) (t2 := t2) (ti := ti) (e := e) (R := (l, lo) :: R) (news_sub N fun z hz => ?_) (ok.cons hl) hn hc hb (hx.mono fun _ h => .tail _ h) (hy.mono fun _ h => .tail _ h) hf (fun p hp => .tail _ (sub p hp)) hd hd2
  simp only [List.mem_cons] at hz ⊢; grind
end

theorem start_B1_1 : (0 : Nat) ≤ 1 := by
  w_top off
  k_with "m:ktr_room" => (first | exact Nat.le_of_ble_eq_true rfl | exact rm0 (by assumption) | exact rm1 (by assumption) (by first | exact Nat.le_of_ble_eq_true rfl | exact Nat.le_add_right_of_le (Nat.le_of_ble_eq_true rfl) | exact dpl1 (by assumption) | exact dpl2 (by assumption) | omega) | exact rm2 (by assumption) (by first | exact Nat.le_of_ble_eq_true rfl | exact Nat.le_add_right_of_le (Nat.le_of_ble_eq_true rfl) | exact dpl1 (by assumption) | exact dpl2 (by assumption) | omega) | exact rm3 (by assumption) (by first | exact Nat.le_of_ble_eq_true rfl | exact Nat.le_add_right_of_le (Nat.le_of_ble_eq_true rfl) | exact dpl1 (by assumption) | exact dpl2 (by assumption) | omega) | exact lwr (by assumption) | omega | ((try simp only [depth_under_make, depth_under_kw, depth_in1, depth_deeper, depth_caller] at *); (try dsimp only [ktrTop] at *); omega))
  k_with "m:ktr_units" => (first | exact Nat.le_of_ble_eq_true rfl | exact un1 (by assumption) (by first | exact Nat.le_of_ble_eq_true rfl | exact Nat.le_add_right_of_le (Nat.le_of_ble_eq_true rfl) | exact dpl1 (by assumption) | exact dpl2 (by assumption) | omega) | exact un2 (by assumption) (by first | exact Nat.le_of_ble_eq_true rfl | exact Nat.le_add_right_of_le (Nat.le_of_ble_eq_true rfl) | exact dpl1 (by assumption) | exact dpl2 (by assumption) | omega) | exact un3 (by assumption) (by first | exact Nat.le_of_ble_eq_true rfl | exact Nat.le_add_right_of_le (Nat.le_of_ble_eq_true rfl) | exact dpl1 (by assumption) | exact dpl2 (by assumption) | omega) | exact lwu (by assumption) | omega | ((try simp only [units_in1, units_deeper, Around.mark_units, units_caller] at *); (try dsimp only [ktrTop] at *); omega))
  k_with "m:call ref" => (k_here; (fail_if_success (fail_if_success (with_reducible show wpAny _ _ (PySem.call (PySem.Value.ref 242) _ _) _ _ _))); k_dflt (refine' ctr_use (roll_d (by assumption) (by omega) (by decide) (by decide)) (by k_asm) (by k_asm) (by k_asm) (by k_asm) (by k_asm) (by first | exact rfl | assumption) (by ktr_room) (by ktr_units) ?_; k_whole); intro r' n' h' tk' F' N' o'; obtain ⟨ti', e', k', tr', e1', ok', e2', lo', hi'⟩ := o'; subst e1' e2'; (try k_sweep); (try k_fold))
  k_with "m:call ref" => (k_here; (fail_if_success (fail_if_success (with_reducible show wpAny _ _ (PySem.call (PySem.Value.ref 249) _ _) _ _ _))); k_dflt (refine' ctr_use (leaf_c (by assumption) (by omega)) (by k_asm) (by k_asm) (by k_asm) (by k_asm) (by k_asm) (by first | exact rfl | assumption) (by ktr_room) (by ktr_units) ?_; k_whole); intro r' n' h' tk' F' N' o'; obtain ⟨S', T', F', K', R', i', ti', e', t', e1', ok', sub', tin', dep', e2'⟩ := o'; subst e1' e2'; (try k_sweep); (try k_fold))
  k_with "m:call ref" => (k_here; (fail_if_success (fail_if_success (with_reducible show wpAny _ _ (PySem.call (PySem.Value.ref 109) _ _) _ _ _))); k_dflt (refine' ctr_use (func_d (by assumption) (by omega)) (by k_asm) (by k_asm) (by k_asm) (by k_asm) (by k_asm) (by first | exact rfl | assumption) (by ktr_room) (by ktr_units) ?_; k_whole); intro r' n' h' tk' F' N' o'; obtain ⟨S', K', p', k', e1', lt', ok', e2'⟩ := o'; subst e1' e2'; (try k_sweep); (try k_fold))
  k_with "m:call ref" => (k_here; (rename BodyIH _ _ _ _ => ih9); k_dflt (refine' ctr_use (ih9 _ _ _ _ _ _ _ _ _ _ _ (by assumption) (by omega) (by omega)) (by k_asm) (by k_asm) (by k_asm) (by k_asm) (by k_asm) (by first | exact rfl | assumption) (by ktr_room) (by ktr_units) ?_; k_whole); intro r' n' h' tk' F' N' o'; obtain ⟨S', T', F', K', R', i', ti', e', t', e1', ok', sub', tin', dep', e2'⟩ := o'; subst e1' e2'; (try k_sweep); (try k_fold))
  exact Nat.zero_le 1
theorem body_0 (w : World) (D : Die) (a : SymAd) : BodyIH w D a 0 := by
  intro S T F K R i n ti e z tz ok hn hz
  have hb : bud 0 = 3 := rfl
  unfold Ctr
  k_fill
  intro mean mg mb dp un gd cn cs a' ccd cl outer A₀ base h₀ L m s Q E B F X N T' hk hdd hu hret
  refine wpAny_call ?_
  k_dflt ktr_enter
  k_steps
  exact hret _ _ _ _ (by assumption) (by assumption) ⟨_, _, _, _, _, _, _, _, _, rfl, by assumption, by assumption, by assumption, by assumption, rfl⟩

theorem body_s (w : World) (D : Die) (a : SymAd) (d : Nat) (ih : BodyIH w D a d) : BodyIH w D a (d + 1) := by
  intro S T F K R i n ti e z tz ok hn hz
  have hb : bud (d + 1) = 2 * bud d + 5 := rfl
  have hz0 : 0 < z := by omega
  unfold Ctr
  k_fill
  intro mean mg mb dp un gd cn cs a' ccd cl outer A₀ base h₀ L m s Q E B F X N T' hk hdd hu hret
  refine wpAny_call ?_
  k_dflt ktr_enter
  k_steps
  · (rename Tr.dep _ ≤ _ => q1)
    (rename StOk _ _ _ _ _ _ _ _ _ _ => q2)
    exact hret _ _ _ _ (by assumption) (by assumption) ⟨_, _, _, _, _, _, _, _, _, rfl, q2.more (by omega), by assumption, by assumption, by omega, rfl⟩
  all_goals (rename News h₀ L _ (_ :: _ :: _ :: _) => kN)
  all_goals (rename Tr.dep _ ≤ _ => q1)
  · obtain ⟨n9, N9, O9⟩ := one_end (n := n + bud (d + 1)) (R0 := R) (dep := d + 1 + 2) kN (by assumption) (by omega) (by omega) (by omega) (by assumption) (by omega) (by assumption) (by omega)
    exact hret _ _ _ _ (by assumption) N9 O9
  · (rename StOk _ _ _ _ _ _ _ _ _ _ => q2)
    (rename TreeIn _ _ => q3)
    (rename (∀ p ∈ R, p ∈ _) => q4)
    (rename StOk _ _ _ _ _ _ _ _ _ (_ + bud d) => q5)
    obtain ⟨n9, N9, O9⟩ := one_end (n := n + bud (d + 1)) (R0 := R) (dep := d + 1 + 2) kN q2 (by omega) (by omega) (by omega) (q3.mono fun _ h => .tail _ h) (Int.ofNat_le.mpr (q5.g6.idx _).1) (fun p hp => .tail _ (q4 p hp)) (by omega)
    exact hret _ _ _ _ (by assumption) N9 O9
  · (rename (∀ p ∈ _, p ∈ _) => q5)
    (rename (∀ p ∈ R, p ∈ _) => q4)
    obtain ⟨n9, N9, O9⟩ := two_end' (n := n + bud (d + 1)) (R0 := R) (dep := d + 1 + 2) kN (by assumption) (by omega) (by omega) (by omega) (by omega) (TreeIn.mono (by assumption) q5) (by assumption) (menu_f (by assumption) (by assumption) (by assumption) (by assumption) (by assumption)) (fun p hp => q5 p (q4 p hp)) (by omega) (by omega)
    exact hret _ _ _ _ (by assumption) N9 O9

theorem body_c (w : World) (D : Die) (a : SymAd) : ∀ d, BodyIH w D a d
  | 0 => body_0 w D a
  | d + 1 => body_s w D a d (body_c w D a d)
end

section
theorem start_U1_0 : (0 : Nat) ≤ 1 := by
  w_top off
  k_with_none
  exact Nat.zero_le 1
def SeqInts (news : List (Addr × Obj)) (fa : Nat) (fs : List Int) : Prop := ∃ fv, IntsAre fv fs ∧ ((∃ e, (fa, listOf fv.toArray e) ∈ news) ∨ (fa, tupO fv) ∈ news)
theorem SeqInts.mono {R R' : List (Addr × Obj)} {fa : Nat} {fs : List Int} (h : SeqInts R fa fs) (s : ∀ p ∈ R, p ∈ R') : SeqInts R' fa fs := by
  obtain ⟨fv, hi, h⟩ := h
  exact ⟨fv, hi, h.imp (fun ⟨e, h⟩ => ⟨e, s _ h⟩) (s _)⟩
theorem in_seq {prog : Program} {w : World} {A : Around} {E : Value → Shared → Prop} {s : Shared} {h₀ : Heap} {L : Addr} {news : List (Addr × Obj)} {fa : Nat} {fs : List Int} {k : Int} {t : Tok} {Q : Value → Shared → Prop} (N : News h₀ L s.heap news) (h : SeqInts news fa fs)
    (q : Q (.bool (fs.any (fun y => y == k))) s) : wpAny (model prog w) A (compareOp .In (.int k t) (.ref fa)) Q E s := by
  obtain ⟨fv, hi, ⟨e, h⟩ | h⟩ := h
  · exact in_list_ints (N.isList h) hi q
  · exact in_tuple_ints (N.isTup h) (by simpa using hi) q
def under (fs : List Int) : Tr → Bool
  | .leaf _ _ _ => false
  | .one _ _ f _ => fs.any (fun y => y == f)
  | .two _ _ f _ _ => fs.any (fun y => y == f)


theorem start_U1_1 : (0 : Nat) ≤ 1 := by
  w_top off
  k_with "m:compareOp In int ref" => (k_here; k_dflt (refine' in_seq (by k_asm) (by assumption) ?_; k_whole))
  exact Nat.zero_le 1
/-- a tree that stands in the ledger at an address -/
def At (R : List (Addr × Obj)) (a : Nat) (t : Tr) : Prop := TreeIn R t ∧ t.adr = a
theorem At.mono {R R' : List (Addr × Obj)} {a : Nat} {t : Tr} (h : At R a t) (s : ∀ p ∈ R, p ∈ R') : At R' a t := ⟨h.1.mono s, h.2⟩
theorem At.leaf {R : List (Addr × Obj)} {a a' : Nat} {k : Str} {n : Int} (h : At R a (.leaf a' k n)) : ∃ t1 t2, (a, tupO [.str k t1, .int n t2]) ∈ R ∧ (k = Str.ofString "a" ∨ k = Str.ofString "v" ∨ k = Str.ofString "i") := by
  obtain ⟨h, e⟩ := h
  cases h with
  | leaf hm hk => cases e; exact ⟨_, _, hm, hk⟩
theorem At.one {R : List (Addr × Obj)} {a a' b : Nat} {f : Int} {x : Tr} (h : At R a (.one a' b f x)) : ∃ t1 t2 ax, (a, tupO [.str (Str.ofString "s") t1, .int f t2, .ref b]) ∈ R ∧ (b, tupO [.ref ax]) ∈ R ∧ 4 ≤ f ∧ At R ax x := by
  obtain ⟨h, e⟩ := h
  cases h with
  | one h1 h2 h3 h4 => cases e; exact ⟨_, _, _, h1, h2, h3, h4, rfl⟩
theorem At.two {R : List (Addr × Obj)} {a a' b : Nat} {f : Int} {x y : Tr} (h : At R a (.two a' b f x y)) : ∃ t1 t2 ax ay, (a, tupO [.str (Str.ofString "s") t1, .int f t2, .ref b]) ∈ R ∧ (b, tupO [.ref ax, .ref ay]) ∈ R ∧ (f = 1 ∨ f = 2 ∨ f = 3) ∧ At R ax x ∧ At R ay y := by
  obtain ⟨h, e⟩ := h
  cases h with
  | two h1 h2 h3 h4 h5 => cases e; exact ⟨_, _, _, _, h1, h2, h3, ⟨h4, rfl⟩, h5, rfl⟩

theorem under_c {w : World} {news : List (Addr × Obj)} {t : Tr} {a fa : Nat} {fs : List Int} (ht : At news a t) (hf : SeqInts news fa fs) :
    Ctr w 263 [.ref a, .ref fa] 5 news (fun n' r => n' = news ∧ r = .bool (under fs t)) := by
  unfold Ctr
  k_fill
  intro mean mg mb dp un gd cn cs a' ccd cl outer A₀ base h₀ L m s Q E B F X N T' hk hdd hu hret
  cases t with
  | leaf a1 k n =>
    obtain ⟨t1, t2, hm, hk⟩ := ht.leaf
    rcases hk with rfl | rfl | rfl
    all_goals (refine wpAny_call ?_; k_dflt ktr_enter; k_steps)
    all_goals exact hret _ _ _ _ (by assumption) (by assumption) ⟨rfl, rfl⟩
  | one a1 b f x =>
    obtain ⟨t1, t2, ax, hm, hm2, hf, hx⟩ := ht.one
    refine wpAny_call ?_; k_dflt ktr_enter; k_steps
    exact hret _ _ _ _ (by assumption) (by assumption) ⟨rfl, rfl⟩
  | two a1 b f x y =>
    obtain ⟨t1, t2, ax, ay, hm, hm2, hf, hx, hy⟩ := ht.two
    refine wpAny_call ?_; k_dflt ktr_enter; k_steps
    exact hret _ _ _ _ (by assumption) (by assumption) ⟨rfl, rfl⟩
end

section

theorem start_K1_0 : (0 : Nat) ≤ 1 := by
  w_top off
  k_with_none
  k_with "m:callWith" => (walk_plain_pass; first | refine callWith_method1 ?_ | refine callWith_builtin1 ?_)
  k_with "m:subscriptTail Name Constant ref int" => (k_here; (with_reducible show wpAny _ _ (subscriptTail _ _ (Value.ref _) (Value.int _ _)) _ _ _); k_dflt (refine' item_tupleT (by exact News.isTup (by k_asm) (by k_mem)) (by decide) (by decide) (by rfl) (by rfl) ?_; k_whole))
  k_with "m:subscriptTail Subscript" => (k_here; (with_reducible show wpAny _ _ (subscriptTail _ _ (Value.ref _) (Value.int _ _)) _ _ _); first | k_dflt (refine' item_tupleT (by exact News.isTup (by k_asm) (by k_mem)) (by decide) (by decide) (by rfl) (by rfl) ?_; k_whole) | (exfalso; omega))
  exact Nat.zero_le 1
theorem seq_l1 {news : List (Addr × Obj)} {fa : Nat} {k1 : Int} {t1 : Tok} {e : Nat} (h2 : (fa, listOf #[.int k1 t1] e) ∈ news) : SeqInts news fa [k1] := ⟨[.int k1 t1], .cons _ _ .nil, .inl ⟨e, h2⟩⟩
theorem seq_l2 {news : List (Addr × Obj)} {fa : Nat} {k1 k2 : Int} {t1 t2 : Tok} {e : Nat} (h2 : (fa, listOf #[.int k1 t1, .int k2 t2] e) ∈ news) : SeqInts news fa [k1, k2] := ⟨[.int k1 t1, .int k2 t2], .cons _ _ (.cons _ _ .nil), .inl ⟨e, h2⟩⟩
theorem seq_l3 {news : List (Addr × Obj)} {fa : Nat} {k1 k2 k3 : Int} {t1 t2 t3 : Tok} {e : Nat} (h2 : (fa, listOf #[.int k1 t1, .int k2 t2, .int k3 t3] e) ∈ news) : SeqInts news fa [k1, k2, k3] := ⟨[.int k1 t1, .int k2 t2, .int k3 t3], .cons _ _ (.cons _ _ (.cons _ _ .nil)), .inl ⟨e, h2⟩⟩
theorem under_t {w : World} {news : List (Addr × Obj)} {t : Tr} {a fa : Nat} {fs : List Int} (ht : At news a t) (hf : SeqInts news fa fs) (hb : under fs t = true) :
    Ctr w 263 [.ref a, .ref fa] 5 news (fun n' r => n' = news ∧ r = .bool true) := by rw [← hb]; exact under_c ht hf
theorem under_f {w : World} {news : List (Addr × Obj)} {t : Tr} {a fa : Nat} {fs : List Int} (ht : At news a t) (hf : SeqInts news fa fs) (hb : under fs t = false) :
    Ctr w 263 [.ref a, .ref fa] 5 news (fun n' r => n' = news ∧ r = .bool false) := by rw [← hb]; exact under_c ht hf
theorem under_lo {a b : Nat} {f : Int} {x : Tr} (hf : 4 ≤ f) {fs : List Int} (h : ∀ y ∈ fs, y < 4) : under fs (.one a b f x) = false := by
  refine List.any_eq_false.mpr fun y hy e => ?_
  have h1 := h y hy
  have h2 : y = f := by simpa using e
  omega

theorem tup_at {h₀ h : Heap} {L a : Addr} {news : List (Addr × Obj)} {vs : List Value} (N : News h₀ L h news) (hm : (a, tupO vs) ∈ news) : h.IsTuple a vs.toArray := ⟨_, N.get hm, rfl, _, rfl⟩
theorem eq_leaf {prog : Program} {w : World} {A : Around} {E : Value → Shared → Prop} {s : Shared} {h₀ : Heap} {L a b : Addr} {news : List (Addr × Obj)} {k k' : Str} {n n' : Int} {t1 t2 t3 t4 : Tok} {Q : Value → Shared → Prop} (N : News h₀ L s.heap news)
    (ha : (a, tupO [.str k t1, .int n t2]) ∈ news) (hb : (b, tupO [.str k' t3, .int n' t4]) ∈ news) (hu : A.units < cLine) (h : Q (.bool (k == k' && n == n')) s) : wpAny (model prog w) A (compareOp .Eq (.ref a) (.ref b)) Q E s := by
  refine PySem.SeqAt.eq_tupleAt (e := fun j => if j = 0 then k == k' else n == n') (tup_at N ha) (tup_at N hb) hu (fun j h1 h2 => ?_) (by simpa [List.range_succ] using h)
  match j, h1 with
  | 0, _ => exact (eqGives_str k k' t1 t3).at _ _
  | 1, _ => exact (PySem.MeetsSeq.EqGives.int n n' t2 t4).at _ _
theorem eq_node {prog : Program} {w : World} {A : Around} {E : Value → Shared → Prop} {s : Shared} {h₀ : Heap} {L a b : Addr} {news : List (Addr × Obj)} {k k' : Str} {n n' : Int} {v : Value} {t1 t2 t3 t4 : Tok} {Q : Value → Shared → Prop} (N : News h₀ L s.heap news)
    (ha : (a, tupO [.str k t1, .int n t2, v]) ∈ news) (hb : (b, tupO [.str k' t3, .int n' t4]) ∈ news) (hu : A.units < cLine) (h : Q (.bool false) s) : wpAny (model prog w) A (compareOp .Eq (.ref a) (.ref b)) Q E s := by
  refine PySem.SeqAt.eq_tupleAt (e := fun j => if j = 0 then k == k' else n == n') (tup_at N ha) (tup_at N hb) hu (fun j h1 h2 => ?_) (by simpa [List.range_succ] using h)
  match j, h2 with
  | 0, _ => exact (eqGives_str k k' t1 t3).at _ _
  | 1, _ => exact (PySem.MeetsSeq.EqGives.int n n' t2 t4).at _ _

def cutsT : Tr → Bool
  | .leaf _ k n => k == Str.ofString "a" && n == 15
  | .one _ _ _ _ => false
  | .two _ _ f x y => if f = 3 then cutsT y else (cutsT x || cutsT y)
def soundT : Tr → Bool
  | .leaf _ k _ => !(k == Str.ofString "i")
  | .one _ _ _ _ => true
  | .two _ _ _ x y => soundT x && soundT y
theorem dep_one {a b : Nat} {f : Int} {x : Tr} : x.dep + 1 ≤ (Tr.one a b f x).dep := Nat.le_refl _
theorem dep_two {a b : Nat} {f : Int} {x y : Tr} : x.dep + 1 ≤ (Tr.two a b f x y).dep ∧ y.dep + 1 ≤ (Tr.two a b f x y).dep := by simp only [Tr.dep]; omega
def BoolIH (w : World) (fn : Addr) (g : Tr → Bool) (t : Tr) : Prop := ∀ news a, At news a t → Ctr w fn [.ref a] (10 + 5 * t.dep) news (fun n' r => news <:+ n' ∧ r = .bool (g t))

theorem start_K1_1 : (0 : Nat) ≤ 1 := by
  w_top off
  k_with "m:eval Call" => ((with_reducible show wpAny _ _ (eval (Expr.Call (Expr.Name _ _) _ [] _) _) _ _ _); k_dflt (refine Call_ ?_))
  k_with "m:ktr_room" => (first | exact Nat.le_of_ble_eq_true rfl | exact rm0 (by assumption) | exact rm1 (by assumption) (by first | exact Nat.le_of_ble_eq_true rfl | exact Nat.le_add_right_of_le (Nat.le_of_ble_eq_true rfl) | exact dpl1 (by assumption) | exact dpl2 (by assumption) | omega) | exact rm2 (by assumption) (by first | exact Nat.le_of_ble_eq_true rfl | exact Nat.le_add_right_of_le (Nat.le_of_ble_eq_true rfl) | exact dpl1 (by assumption) | exact dpl2 (by assumption) | omega) | exact rm3 (by assumption) (by first | exact Nat.le_of_ble_eq_true rfl | exact Nat.le_add_right_of_le (Nat.le_of_ble_eq_true rfl) | exact dpl1 (by assumption) | exact dpl2 (by assumption) | omega) | exact lwr (by assumption) | omega | ((try simp only [depth_under_make, depth_under_kw, depth_in1, depth_deeper, depth_caller] at *); (try dsimp only [ktrTop] at *); omega))
  k_with "m:ktr_units" => (first | exact Nat.le_of_ble_eq_true rfl | exact un1 (by assumption) (by first | exact Nat.le_of_ble_eq_true rfl | exact Nat.le_add_right_of_le (Nat.le_of_ble_eq_true rfl) | exact dpl1 (by assumption) | exact dpl2 (by assumption) | omega) | exact un2 (by assumption) (by first | exact Nat.le_of_ble_eq_true rfl | exact Nat.le_add_right_of_le (Nat.le_of_ble_eq_true rfl) | exact dpl1 (by assumption) | exact dpl2 (by assumption) | omega) | exact un3 (by assumption) (by first | exact Nat.le_of_ble_eq_true rfl | exact Nat.le_add_right_of_le (Nat.le_of_ble_eq_true rfl) | exact dpl1 (by assumption) | exact dpl2 (by assumption) | omega) | exact lwu (by assumption) | omega | ((try simp only [units_in1, units_deeper, Around.mark_units, units_caller] at *); (try dsimp only [ktrTop] at *); omega))
  k_with "m:k_mem" => first | assumption | exact List.Mem.head _ | (refine' List.Mem.tail _ ?_; k_mem)
  exact Nat.zero_le 1
-- a tree of the ledger as it stands now; the list of functors

theorem start_K1_2 : (0 : Nat) ≤ 1 := by
  w_top off
  k_with "my tree" => (refine At.mono (by assumption) ?_; intro p9 h9; simp only [List.mem_cons, List.mem_append, h9, or_true, true_or])
  k_with "my seq" => (first | (refine' seq_l1 (by k_mem)) | (refine' seq_l2 (by k_mem)) | (refine' seq_l3 (by k_mem)))
  k_with "my call" => ((case B => k_asm); (case F => k_asm); (case X => k_asm); (case T => k_asm); (case hk => first | exact rfl | assumption); (case hd => ktr_room); (case hu => ktr_units); k_whole)
  k_with "m:compareOp Eq ref ref" => (k_here; k_dflt (first | (refine' eq_leaf (by k_asm) (by k_mem) (by k_mem) (by ktr_units) ?_; k_whole) | (refine' eq_node (by k_asm) (by k_mem) (by k_mem) (by ktr_units) ?_; k_whole)))
  k_with "m:call ref" => (k_here; (fail_if_success (fail_if_success (with_reducible show wpAny _ _ (PySem.call (PySem.Value.ref 263) _ _) _ _ _))); k_dflt (refine' ctr_N (by k_asm) (by k_asm) (by k_asm) (by k_asm) (by k_asm) (by first | exact rfl | assumption) (under_f (by walk_at "my tree") (by walk_at "my seq") (by first | exact rfl | exact under_lo (by assumption) (by decide))) (by ktr_room) (by ktr_units) ?_); intro r' n' h' tk' F' N' o'; obtain ⟨e1', e2'⟩ := o'; subst e1' e2'; (try k_sweep); (try k_fold))
  k_with "m:call ref" => (k_here; (fail_if_success (fail_if_success (with_reducible show wpAny _ _ (PySem.call (PySem.Value.ref 263) _ _) _ _ _))); k_dflt (refine' ctr_N (by k_asm) (by k_asm) (by k_asm) (by k_asm) (by k_asm) (by first | exact rfl | assumption) (under_t (by walk_at "my tree") (by walk_at "my seq") (by exact rfl)) (by ktr_room) (by ktr_units) ?_); intro r' n' h' tk' F' N' o'; obtain ⟨e1', e2'⟩ := o'; subst e1' e2'; (try k_sweep); (try k_fold))
  exact Nat.zero_le 1
theorem bool_use {w : World} {fn : Addr} {g : Tr → Bool} {t : Tr} {news : List (Addr × Obj)} {a : Nat} (ih : BoolIH w fn g t) (ht : At news a t) : Ctr w fn [.ref a] (10 + 5 * t.dep) news (fun n' r => news <:+ n' ∧ r = .bool (g t)) := ih news a ht
theorem bool_use2 {w : World} {fn : Addr} {g : Tr → Bool} {t : Tr} {news : List (Addr × Obj)} {a : Nat} (ht : At news a t) (ih : BoolIH w fn g t) : Ctr w fn [.ref a] (10 + 5 * t.dep) news (fun n' r => news <:+ n' ∧ r = .bool (g t)) := ih news a ht
theorem start_K1_3 : (0 : Nat) ≤ 1 := by
  w_top off
  k_with "m:call ref" => (k_here; k_dflt (refine' ctr_N (by k_asm) (by k_asm) (by k_asm) (by k_asm) (by k_asm) (by first | exact rfl | assumption) (bool_use2 (by walk_at "my tree") (by assumption)) (by ktr_room) (by ktr_units) ?_); intro r' n' h' tk' F' N' o'; obtain ⟨⟨tl', e1'⟩, e2'⟩ := o'; subst e1' e2'; (try k_sweep); (try k_fold))
  k_with "my suf" => (repeat (first | exact List.suffix_rfl | refine List.IsSuffix.trans ?_ (List.suffix_append _ _) | refine List.IsSuffix.trans ?_ (List.suffix_cons _ _)))
  exact Nat.zero_le 1
theorem cuts_leaf {w : World} {a : Nat} {k : Str} {n : Int} : BoolIH w 277 cutsT (.leaf a k n) := by
  intro news a0 ht
  unfold Ctr
  k_fill
  intro mean mg mb dp un gd cn cs a' ccd cl outer A₀ base h₀ L m s Q E B F X N T' hk hdd hu hret
  obtain ⟨t1, t2, hm, hk⟩ := ht.leaf
  rcases hk with rfl | rfl | rfl
  all_goals (refine wpAny_call ?_; k_dflt ktr_enter; k_steps)
  all_goals (rename News h₀ L _ (_ :: _) => kN)
  all_goals exact hret _ _ _ _ (by assumption) kN ⟨by walk_at "my suf", rfl⟩

theorem cuts_one {w : World} {a b : Nat} {f : Int} {x : Tr} : BoolIH w 277 cutsT (.one a b f x) := by
  intro news a0 ht
  unfold Ctr
  k_fill
  intro mean mg mb dp un gd cn cs a' ccd cl outer A₀ base h₀ L m s Q E B F X N T' hk hdd hu hret
  obtain ⟨t1, t2, ax, hm, hm2, hf, hx⟩ := ht.one
  refine wpAny_call ?_; k_dflt ktr_enter; k_steps
  (rename News h₀ L _ (_ :: _) => kN)
  exact hret _ _ _ _ (by assumption) kN ⟨by walk_at "my suf", rfl⟩

theorem cuts_two {w : World} {a b : Nat} {f : Int} {x y : Tr} (ihx : BoolIH w 277 cutsT x) (ihy : BoolIH w 277 cutsT y) : BoolIH w 277 cutsT (.two a b f x y) := by
  intro news a0 ht
  unfold Ctr
  k_fill
  intro mean mg mb dp un gd cn cs a' ccd cl outer A₀ base h₀ L m s Q E B F X N T' hk hdd hu hret
  obtain ⟨t1, t2, ax, ay, hm, hm2, hf, hx, hy⟩ := ht.two
  have hdp := @dep_two a b f x y
  generalize (Tr.two a b f x y).dep = nd at *
  rcases hf with rfl | rfl | rfl
  all_goals (refine wpAny_call ?_; k_dflt ktr_enter; k_steps)
  all_goals (first | (rename News h₀ L _ (_ :: _) => kN) | (rename News h₀ L _ (_ ++ _) => kN))
  all_goals refine hret _ _ _ _ (by assumption) kN ⟨by walk_at "my suf", ?_⟩
  all_goals simp_all [cutsT]

theorem cuts_c (w : World) : ∀ t, BoolIH w 277 cutsT t
  | .leaf _ _ _ => cuts_leaf
  | .one _ _ _ _ => cuts_one
  | .two _ _ _ x y => cuts_two (cuts_c w x) (cuts_c w y)

theorem sound_leaf {w : World} {a : Nat} {k : Str} {n : Int} : BoolIH w 284 soundT (.leaf a k n) := by
  intro news a0 ht
  unfold Ctr
  k_fill
  intro mean mg mb dp un gd cn cs a' ccd cl outer A₀ base h₀ L m s Q E B F X N T' hk hdd hu hret
  obtain ⟨t1, t2, hm, hk⟩ := ht.leaf
  rcases hk with rfl | rfl | rfl
  all_goals (refine wpAny_call ?_; k_dflt ktr_enter; k_steps)
  all_goals (rename News h₀ L _ (_ :: _) => kN)
  all_goals refine hret _ _ _ _ (by assumption) kN ⟨by walk_at "my suf", ?_⟩
  all_goals rfl

theorem sound_one {w : World} {a b : Nat} {f : Int} {x : Tr} : BoolIH w 284 soundT (.one a b f x) := by
  intro news a0 ht
  unfold Ctr
  k_fill
  intro mean mg mb dp un gd cn cs a' ccd cl outer A₀ base h₀ L m s Q E B F X N T' hk hdd hu hret
  obtain ⟨t1, t2, ax, hm, hm2, hf, hx⟩ := ht.one
  refine wpAny_call ?_; k_dflt ktr_enter; k_steps
  (rename News h₀ L _ (_ :: _) => kN)
  refine hret _ _ _ _ (by assumption) kN ⟨by walk_at "my suf", ?_⟩
  rfl

theorem sound_two {w : World} {a b : Nat} {f : Int} {x y : Tr} (ihx : BoolIH w 284 soundT x) (ihy : BoolIH w 284 soundT y) : BoolIH w 284 soundT (.two a b f x y) := by
  intro news a0 ht
  unfold Ctr
  k_fill
  intro mean mg mb dp un gd cn cs a' ccd cl outer A₀ base h₀ L m s Q E B F X N T' hk hdd hu hret
  obtain ⟨t1, t2, ax, ay, hm, hm2, hf, hx, hy⟩ := ht.two
  have hdp := @dep_two a b f x y
  generalize (Tr.two a b f x y).dep = nd at *
  rcases hf with rfl | rfl | rfl
  all_goals (refine wpAny_call ?_; k_dflt ktr_enter; k_steps)
  all_goals (first | (rename News h₀ L _ (_ :: _) => kN) | (rename News h₀ L _ (_ ++ _) => kN))
  all_goals refine hret _ _ _ _ (by assumption) kN ⟨by walk_at "my suf", ?_⟩
  all_goals simp_all [soundT]

theorem sound_c (w : World) : ∀ t, BoolIH w 284 soundT t
  | .leaf _ _ _ => sound_leaf
  | .one _ _ _ _ => sound_one
  | .two _ _ _ x y => sound_two (sound_c w x) (sound_c w y)
end

section
theorem start_G1_0 : (0 : Nat) ≤ 1 := by
  w_top off
  k_with_none
  exact Nat.zero_le 1
abbrev refsO (l : List Nat) (e : Nat) : Obj := listOf (l.map Value.ref).toArray e
def goalsT : Tr → List Nat
  | .leaf a k n => if k == Str.ofString "a" && n == 16 then [] else [a]
  | .one a _ _ _ => [a]
  | .two a _ f x y => if f = 1 then goalsT x ++ goalsT y else [a]
theorem goals_len : ∀ t : Tr, (goalsT t).length ≤ 2 ^ t.dep
  | .leaf _ _ _ => by simp only [goalsT, Tr.dep]; split <;> simp
  | .one _ _ _ x => by simp only [goalsT, Tr.dep, List.length_singleton]; exact Nat.one_le_two_pow
  | .two _ _ f x y => by
    have h1 := goals_len x
    have h2 := goals_len y
    have h3 : 2 ^ x.dep ≤ 2 ^ (max x.dep y.dep) := Nat.pow_le_pow_right (by omega) (by omega)
    have h4 : 2 ^ y.dep ≤ 2 ^ (max x.dep y.dep) := Nat.pow_le_pow_right (by omega) (by omega)
    simp only [goalsT, Tr.dep]
    split
    · rw [List.length_append, Nat.pow_succ]; omega
    · simp only [List.length_singleton]; exact Nat.one_le_two_pow
theorem goals_1024 {t : Tr} (h : t.dep ≤ 10) : (goalsT t).length ≤ 1024 := Nat.le_trans (goals_len t) (Nat.le_trans (Nat.pow_le_pow_right (by omega) h) (by decide))
theorem add_refs {prog : Program} {w : World} {A : Around} {E : Value → Shared → Prop} {s : Shared} {h₀ : Heap} {L l b : Addr} {m : Str → Option Value} {news : List (Addr × Obj)} {xs ys : List Nat} {e1 e2 : Nat} {Q : Value → Shared → Prop} (F : Fr h₀ L s.heap m) (N : News h₀ L s.heap news)
    (hl : (l, refsO xs e1) ∈ news) (hb : (b, refsO ys e2) ∈ news) (hx : xs.length ≤ 1024) (hy : ys.length ≤ 1024)
    (h : ∀ D h', Fr h₀ L h' m → News h₀ L h' ((D, refsO (xs ++ ys) 0) :: news) → (∀ p ∈ news, p.1 < D) → Q (.ref D) { s with heap := h' }) : wpAny (model prog w) A (binaryOp .Add (.ref l) (.ref b)) Q E s := by
  refine add_lists F N (N.isList hl) (N.isList hb) (fun h' F' N' => h _ h' F' ?_ fun p hp => Heap.lt_size (N p hp).1) (by rw [sizeLine_eq]; simp; omega)
  have e : refsO (xs ++ ys) 0 = { cls := .type "list", data := .seq (xs.map Value.ref ++ ys.map Value.ref).toArray } := by unfold refsO; rw [List.map_append]
  rw [e]; exact N'
def ListIH (w : World) (fn : Addr) (g : Tr → List Nat) (t : Tr) : Prop := ∀ news a, At news a t → t.dep ≤ 10 → Ctr w fn [.ref a] (10 + 5 * t.dep) news (fun n' r => news <:+ n' ∧ ∃ l e, r = .ref l ∧ (l, refsO (g t) e) ∈ n')
theorem list_use {w : World} {fn : Addr} {g : Tr → List Nat} {t : Tr} {news : List (Addr × Obj)} {a : Nat} (ih : ListIH w fn g t) (ht : At news a t) (hd : t.dep ≤ 10) : Ctr w fn [.ref a] (10 + 5 * t.dep) news (fun n' r => news <:+ n' ∧ ∃ l e, r = .ref l ∧ (l, refsO (g t) e) ∈ n') := ih news a ht hd
theorem list_use2 {w : World} {fn : Addr} {g : Tr → List Nat} {t : Tr} {news : List (Addr × Obj)} {a : Nat} (ht : At news a t) (ih : ListIH w fn g t) (hd : t.dep ≤ 10) : Ctr w fn [.ref a] (10 + 5 * t.dep) news (fun n' r => news <:+ n' ∧ ∃ l e, r = .ref l ∧ (l, refsO (g t) e) ∈ n') := ih news a ht hd
theorem start_G1_1 : (0 : Nat) ≤ 1 := by
  w_top off
  k_with "m:eval Call" => ((with_reducible show wpAny _ _ (eval (Expr.Call (Expr.Name _ _) _ [] _) _) _ _ _); k_dflt (refine Call_ ?_))
  k_with "m:ktr_room" => (first | exact Nat.le_of_ble_eq_true rfl | exact rm0 (by assumption) | exact rm1 (by assumption) (by first | exact Nat.le_of_ble_eq_true rfl | exact Nat.le_add_right_of_le (Nat.le_of_ble_eq_true rfl) | exact dpl1 (by assumption) | exact dpl2 (by assumption) | omega) | exact rm2 (by assumption) (by first | exact Nat.le_of_ble_eq_true rfl | exact Nat.le_add_right_of_le (Nat.le_of_ble_eq_true rfl) | exact dpl1 (by assumption) | exact dpl2 (by assumption) | omega) | exact rm3 (by assumption) (by first | exact Nat.le_of_ble_eq_true rfl | exact Nat.le_add_right_of_le (Nat.le_of_ble_eq_true rfl) | exact dpl1 (by assumption) | exact dpl2 (by assumption) | omega) | exact lwr (by assumption) | omega | ((try simp only [depth_under_make, depth_under_kw, depth_in1, depth_deeper, depth_caller] at *); (try dsimp only [ktrTop] at *); omega))
  k_with "m:ktr_units" => (first | exact Nat.le_of_ble_eq_true rfl | exact un1 (by assumption) (by first | exact Nat.le_of_ble_eq_true rfl | exact Nat.le_add_right_of_le (Nat.le_of_ble_eq_true rfl) | exact dpl1 (by assumption) | exact dpl2 (by assumption) | omega) | exact un2 (by assumption) (by first | exact Nat.le_of_ble_eq_true rfl | exact Nat.le_add_right_of_le (Nat.le_of_ble_eq_true rfl) | exact dpl1 (by assumption) | exact dpl2 (by assumption) | omega) | exact un3 (by assumption) (by first | exact Nat.le_of_ble_eq_true rfl | exact Nat.le_add_right_of_le (Nat.le_of_ble_eq_true rfl) | exact dpl1 (by assumption) | exact dpl2 (by assumption) | omega) | exact lwu (by assumption) | omega | ((try simp only [units_in1, units_deeper, Around.mark_units, units_caller] at *); (try dsimp only [ktrTop] at *); omega))
  k_with "m:k_mem" => first | assumption | exact List.Mem.head _ | (refine' List.Mem.tail _ ?_; k_mem)
  exact Nat.zero_le 1
-- a tree of the ledger as it stands now; the list of functors


theorem start_G1_2 : (0 : Nat) ≤ 1 := by
  w_top off
  k_with "my tree" => (refine At.mono (by assumption) ?_; intro p9 h9; simp only [List.mem_cons, List.mem_append, h9, or_true, true_or])
  k_with "my seq" => (first | (refine' seq_l1 (by k_mem)) | (refine' seq_l2 (by k_mem)) | (refine' seq_l3 (by k_mem)))
  k_with "my call" => ((case B => k_asm); (case F => k_asm); (case X => k_asm); (case T => k_asm); (case hk => first | exact rfl | assumption); (case hd => ktr_room); (case hu => ktr_units); k_whole)
  k_with "m:compareOp Eq ref ref" => (k_here; k_dflt (first | (refine' eq_leaf (by k_asm) (by k_mem) (by k_mem) (by ktr_units) ?_; k_whole) | (refine' eq_node (by k_asm) (by k_mem) (by k_mem) (by ktr_units) ?_; k_whole)))
  k_with "m:call ref" => (k_here; (fail_if_success (fail_if_success (with_reducible show wpAny _ _ (PySem.call (PySem.Value.ref 263) _ _) _ _ _))); k_dflt (refine' ctr_N (by k_asm) (by k_asm) (by k_asm) (by k_asm) (by k_asm) (by first | exact rfl | assumption) (under_f (by walk_at "my tree") (by walk_at "my seq") (by first | exact rfl | exact under_lo (by assumption) (by decide))) (by ktr_room) (by ktr_units) ?_); intro r' n' h' tk' F' N' o'; obtain ⟨e1', e2'⟩ := o'; subst e1' e2'; (try k_sweep); (try k_fold))
  k_with "m:call ref" => (k_here; (fail_if_success (fail_if_success (with_reducible show wpAny _ _ (PySem.call (PySem.Value.ref 263) _ _) _ _ _))); k_dflt (refine' ctr_N (by k_asm) (by k_asm) (by k_asm) (by k_asm) (by k_asm) (by first | exact rfl | assumption) (under_t (by walk_at "my tree") (by walk_at "my seq") (by exact rfl)) (by ktr_room) (by ktr_units) ?_); intro r' n' h' tk' F' N' o'; obtain ⟨e1', e2'⟩ := o'; subst e1' e2'; (try k_sweep); (try k_fold))
  k_with "my suf" => (repeat (first | exact List.suffix_rfl | refine List.IsSuffix.trans ?_ (List.suffix_append _ _) | refine List.IsSuffix.trans ?_ (List.suffix_cons _ _)))
  k_with "m:call ref" => (k_here; k_dflt (refine' ctr_N (by k_asm) (by k_asm) (by k_asm) (by k_asm) (by k_asm) (by first | exact rfl | assumption) (list_use2 (by walk_at "my tree") (by assumption) (by omega)) (by ktr_room) (by ktr_units) ?_); intro r' n' h' tk' F' N' o'; obtain ⟨⟨tl', e1'⟩, l', e', e2', m'⟩ := o'; subst e1' e2'; (try k_sweep); (try k_fold))
  k_with "m:binaryOp Add ref ref" => (k_here; k_dflt (refine' add_refs (by k_asm) (by k_asm) (by k_mem) (by k_mem) (by assumption) (by assumption) ?_); intro D' h' F' N' l1; (try k_sweep))
  k_with "m:k_mem" => first | assumption | (refine' List.mem_append.mpr (Or.inr ?_); k_mem) | exact List.Mem.head _ | (refine' List.Mem.tail _ ?_; k_mem) | (refine' List.mem_append.mpr (Or.inl ?_); k_mem)
  exact Nat.zero_le 1
theorem goals_leaf {w : World} {a : Nat} {k : Str} {n : Int} : ListIH w 270 goalsT (.leaf a k n) := by
  intro news a0 ht hd10
  unfold Ctr
  k_fill
  intro mean mg mb dp un gd cn cs a' ccd cl outer A₀ base h₀ L m s Q E B F X N T' hk hdd hu hret
  obtain ⟨t1, t2, hm, hk⟩ := ht.leaf
  have ea : a = a0 := ht.2
  subst ea
  rcases hk with rfl | rfl | rfl
  all_goals (refine wpAny_call ?_; k_dflt ktr_enter; k_steps)
  all_goals (rename News h₀ L _ (_ :: _) => kN)
  all_goals refine hret _ _ _ _ (by assumption) kN ⟨by walk_at "my suf", _, 0, rfl, ?_⟩
  all_goals first | (rw [show goalsT _ = [] from by simp_all [goalsT]]; exact .head _) | (rw [show goalsT _ = [a] from by simp_all [goalsT]]; exact .head _) | (exfalso; simp_all)

theorem goals_one {w : World} {a b : Nat} {f : Int} {x : Tr} : ListIH w 270 goalsT (.one a b f x) := by
  intro news a0 ht hd10
  unfold Ctr
  k_fill
  intro mean mg mb dp un gd cn cs a' ccd cl outer A₀ base h₀ L m s Q E B F X N T' hk hdd hu hret
  obtain ⟨t1, t2, ax, hm, hm2, hf, hx⟩ := ht.one
  have ea : a = a0 := ht.2
  subst ea
  refine wpAny_call ?_; k_dflt ktr_enter; k_steps
  (rename News h₀ L _ (_ :: _) => kN)
  exact hret _ _ _ _ (by assumption) kN ⟨by walk_at "my suf", _, 0, rfl, .head _⟩

theorem goals_two {w : World} {a b : Nat} {f : Int} {x y : Tr} (ihx : ListIH w 270 goalsT x) (ihy : ListIH w 270 goalsT y) : ListIH w 270 goalsT (.two a b f x y) := by
  intro news a0 ht hd10
  unfold Ctr
  k_fill
  intro mean mg mb dp un gd cn cs a' ccd cl outer A₀ base h₀ L m s Q E B F X N T' hk hdd hu hret
  obtain ⟨t1, t2, ax, ay, hm, hm2, hf, hx, hy⟩ := ht.two
  have ea : a = a0 := ht.2
  subst ea
  have hdp := @dep_two a b f x y
  generalize (Tr.two a b f x y).dep = nd at *
  have hlx := goals_1024 (t := x) (by omega)
  have hly := goals_1024 (t := y) (by omega)
  rcases hf with rfl | rfl | rfl
  all_goals (refine wpAny_call ?_; k_dflt ktr_enter; k_steps)
  all_goals (rename News h₀ L _ (_ :: _) => kN)
  all_goals exact hret _ _ _ _ (by assumption) kN ⟨by walk_at "my suf", _, 0, rfl, .head _⟩

theorem goals_c (w : World) : ∀ t, ListIH w 270 goalsT t
  | .leaf _ _ _ => goals_leaf
  | .one _ _ _ _ => goals_one
  | .two _ _ _ x y => goals_two (goals_c w x) (goals_c w y)
end

section
theorem start_S1_0 : (0 : Nat) ≤ 1 := by
  w_top off
  k_with_none
  exact Nat.zero_le 1
def spineT (fs : List Int) : Tr → List Nat
  | .leaf a _ _ => [a]
  | .one a _ _ _ => [a]
  | .two a _ f x y => if fs.any (fun z => z == f) then x.adr :: spineT fs y else [a]
theorem spine_len (fs : List Int) : ∀ t : Tr, (spineT fs t).length ≤ t.dep
  | .leaf _ _ _ => by simp [spineT, Tr.dep]
  | .one _ _ _ x => by simp [spineT, Tr.dep]
  | .two _ _ f x y => by
    have h2 := spine_len fs y
    simp only [spineT, Tr.dep]
    split
    · rw [List.length_cons]; omega
    · simp
def SpineIH (w : World) (fs : List Int) (t : Tr) : Prop := ∀ news a fa, At news a t → SeqInts news fa fs → t.dep ≤ 10 → Ctr w 291 [.ref a, .ref fa] (10 + 5 * t.dep) news (fun n' r => news <:+ n' ∧ ∃ l e, r = .ref l ∧ (l, refsO (spineT fs t) e) ∈ n')
theorem spine_use {w : World} {fs : List Int} {t : Tr} {news : List (Addr × Obj)} {a fa : Nat} (ih : SpineIH w fs t) (ht : At news a t) (hf : SeqInts news fa fs) (hd : t.dep ≤ 10) : Ctr w 291 [.ref a, .ref fa] (10 + 5 * t.dep) news (fun n' r => news <:+ n' ∧ ∃ l e, r = .ref l ∧ (l, refsO (spineT fs t) e) ∈ n') := ih news a fa ht hf hd
theorem spine_use2 {w : World} {fs : List Int} {t : Tr} {news : List (Addr × Obj)} {a fa : Nat} (ht : At news a t) (ih : SpineIH w fs t) (hf : SeqInts news fa fs) (hd : t.dep ≤ 10) : Ctr w 291 [.ref a, .ref fa] (10 + 5 * t.dep) news (fun n' r => news <:+ n' ∧ ∃ l e, r = .ref l ∧ (l, refsO (spineT fs t) e) ∈ n') := ih news a fa ht hf hd
theorem add_ref1 {prog : Program} {w : World} {A : Around} {E : Value → Shared → Prop} {s : Shared} {h₀ : Heap} {L l b : Addr} {m : Str → Option Value} {news : List (Addr × Obj)} {x : Nat} {ys : List Nat} {e1 e2 : Nat} {Q : Value → Shared → Prop} (F : Fr h₀ L s.heap m) (N : News h₀ L s.heap news)
    (hl : (l, listOf #[.ref x] e1) ∈ news) (hb : (b, refsO ys e2) ∈ news) (hy : ys.length ≤ 1024)
    (h : ∀ D h', Fr h₀ L h' m → News h₀ L h' ((D, refsO (x :: ys) 0) :: news) → (∀ p ∈ news, p.1 < D) → Q (.ref D) { s with heap := h' }) : wpAny (model prog w) A (binaryOp .Add (.ref l) (.ref b)) Q E s :=
  add_refs (xs := [x]) F N hl hb (by simp) hy h
theorem start_S1_1 : (0 : Nat) ≤ 1 := by
  w_top off
  k_with "m:eval Call" => ((with_reducible show wpAny _ _ (eval (Expr.Call (Expr.Name _ _) _ [] _) _) _ _ _); k_dflt (refine Call_ ?_))
  k_with "m:ktr_room" => (first | exact Nat.le_of_ble_eq_true rfl | exact rm0 (by assumption) | exact rm1 (by assumption) (by first | exact Nat.le_of_ble_eq_true rfl | exact Nat.le_add_right_of_le (Nat.le_of_ble_eq_true rfl) | exact dpl1 (by assumption) | exact dpl2 (by assumption) | omega) | exact rm2 (by assumption) (by first | exact Nat.le_of_ble_eq_true rfl | exact Nat.le_add_right_of_le (Nat.le_of_ble_eq_true rfl) | exact dpl1 (by assumption) | exact dpl2 (by assumption) | omega) | exact rm3 (by assumption) (by first | exact Nat.le_of_ble_eq_true rfl | exact Nat.le_add_right_of_le (Nat.le_of_ble_eq_true rfl) | exact dpl1 (by assumption) | exact dpl2 (by assumption) | omega) | exact lwr (by assumption) | omega | ((try simp only [depth_under_make, depth_under_kw, depth_in1, depth_deeper, depth_caller] at *); (try dsimp only [ktrTop] at *); omega))
  k_with "m:ktr_units" => (first | exact Nat.le_of_ble_eq_true rfl | exact un1 (by assumption) (by first | exact Nat.le_of_ble_eq_true rfl | exact Nat.le_add_right_of_le (Nat.le_of_ble_eq_true rfl) | exact dpl1 (by assumption) | exact dpl2 (by assumption) | omega) | exact un2 (by assumption) (by first | exact Nat.le_of_ble_eq_true rfl | exact Nat.le_add_right_of_le (Nat.le_of_ble_eq_true rfl) | exact dpl1 (by assumption) | exact dpl2 (by assumption) | omega) | exact un3 (by assumption) (by first | exact Nat.le_of_ble_eq_true rfl | exact Nat.le_add_right_of_le (Nat.le_of_ble_eq_true rfl) | exact dpl1 (by assumption) | exact dpl2 (by assumption) | omega) | exact lwu (by assumption) | omega | ((try simp only [units_in1, units_deeper, Around.mark_units, units_caller] at *); (try dsimp only [ktrTop] at *); omega))
  k_with "m:k_mem" => first | assumption | exact List.Mem.head _ | (refine' List.Mem.tail _ ?_; k_mem)
  exact Nat.zero_le 1
-- a tree of the ledger as it stands now; the list of functors


theorem start_S1_2 : (0 : Nat) ≤ 1 := by
  w_top off
  k_with "my tree" => (refine At.mono (by assumption) ?_; intro p9 h9; simp only [List.mem_cons, List.mem_append, h9, or_true, true_or])
  k_with "my seq" => (first | (refine SeqInts.mono (by assumption) ?_; intro p9 h9; simp only [List.mem_cons, List.mem_append, h9, or_true, true_or]) | (refine' seq_l1 (by k_mem)) | (refine' seq_l2 (by k_mem)) | (refine' seq_l3 (by k_mem)))
  k_with "my call" => ((case B => k_asm); (case F => k_asm); (case X => k_asm); (case T => k_asm); (case hk => first | exact rfl | assumption); (case hd => ktr_room); (case hu => ktr_units); k_whole)
  k_with "m:compareOp Eq ref ref" => (k_here; k_dflt (first | (refine' eq_leaf (by k_asm) (by k_mem) (by k_mem) (by ktr_units) ?_; k_whole) | (refine' eq_node (by k_asm) (by k_mem) (by k_mem) (by ktr_units) ?_; k_whole)))
  k_with "m:call ref" => (k_here; (fail_if_success (fail_if_success (with_reducible show wpAny _ _ (PySem.call (PySem.Value.ref 263) _ _) _ _ _))); k_dflt (refine' ctr_N (by k_asm) (by k_asm) (by k_asm) (by k_asm) (by k_asm) (by first | exact rfl | assumption) (under_f (by walk_at "my tree") (by walk_at "my seq") (by first | exact rfl | assumption | exact under_lo (by assumption) (by assumption))) (by ktr_room) (by ktr_units) ?_); intro r' n' h' tk' F' N' o'; obtain ⟨e1', e2'⟩ := o'; subst e1' e2'; (try k_sweep); (try k_fold))
  k_with "m:call ref" => (k_here; (fail_if_success (fail_if_success (with_reducible show wpAny _ _ (PySem.call (PySem.Value.ref 263) _ _) _ _ _))); k_dflt (refine' ctr_N (by k_asm) (by k_asm) (by k_asm) (by k_asm) (by k_asm) (by first | exact rfl | assumption) (under_t (by walk_at "my tree") (by walk_at "my seq") (by first | exact rfl | assumption)) (by ktr_room) (by ktr_units) ?_); intro r' n' h' tk' F' N' o'; obtain ⟨e1', e2'⟩ := o'; subst e1' e2'; (try k_sweep); (try k_fold))
  k_with "my suf" => (repeat (first | exact List.suffix_rfl | refine List.IsSuffix.trans ?_ (List.suffix_append _ _) | refine List.IsSuffix.trans ?_ (List.suffix_cons _ _)))
  k_with "m:call ref" => (k_here; k_dflt (refine' ctr_N (by k_asm) (by k_asm) (by k_asm) (by k_asm) (by k_asm) (by first | exact rfl | assumption) (spine_use2 (by walk_at "my tree") (by assumption) (by walk_at "my seq") (by omega)) (by ktr_room) (by ktr_units) ?_); intro r' n' h' tk' F' N' o'; obtain ⟨⟨tl', e1'⟩, l', e', e2', m'⟩ := o'; subst e1' e2'; (try k_sweep); (try k_fold))
  k_with "m:binaryOp Add ref ref" => (k_here; k_dflt (refine' add_ref1 (by k_asm) (by k_asm) (by k_mem) (by k_mem) (by assumption) ?_); intro D' h' F' N' l1; (try k_sweep))
  k_with "m:k_mem" => first | assumption | (refine' List.mem_append.mpr (Or.inr ?_); k_mem) | exact List.Mem.head _ | (refine' List.Mem.tail _ ?_; k_mem) | (refine' List.mem_append.mpr (Or.inl ?_); k_mem)
  exact Nat.zero_le 1
theorem spine_leaf {w : World} {fs : List Int} {a : Nat} {k : Str} {n : Int} : SpineIH w fs (.leaf a k n) := by
  intro news a0 fa ht hsq hd10
  unfold Ctr
  k_fill
  intro mean mg mb dp un gd cn cs a' ccd cl outer A₀ base h₀ L m s Q E B F X N T' hk hdd hu hret
  obtain ⟨t1, t2, hm, hk⟩ := ht.leaf
  have ea : a = a0 := ht.2
  subst ea
  refine wpAny_call ?_; k_dflt ktr_enter; k_steps
  (rename News h₀ L _ (_ :: _) => kN)
  exact hret _ _ _ _ (by assumption) kN ⟨by walk_at "my suf", _, 0, rfl, .head _⟩

theorem spine_one {w : World} {fs : List Int} (hfs : ∀ y ∈ fs, y < 4) {a b : Nat} {f : Int} {x : Tr} : SpineIH w fs (.one a b f x) := by
  intro news a0 fa ht hsq hd10
  unfold Ctr
  k_fill
  intro mean mg mb dp un gd cn cs a' ccd cl outer A₀ base h₀ L m s Q E B F X N T' hk hdd hu hret
  obtain ⟨t1, t2, ax, hm, hm2, hf, hx⟩ := ht.one
  have ea : a = a0 := ht.2
  subst ea
  refine wpAny_call ?_; k_dflt ktr_enter; k_steps
  (rename News h₀ L _ (_ :: _) => kN)
  exact hret _ _ _ _ (by assumption) kN ⟨by walk_at "my suf", _, 0, rfl, .head _⟩

theorem spine_two {w : World} {fs : List Int} {a b : Nat} {f : Int} {x y : Tr} (ihy : SpineIH w fs y) : SpineIH w fs (.two a b f x y) := by
  intro news a0 fa ht hsq hd10
  unfold Ctr
  k_fill
  intro mean mg mb dp un gd cn cs a' ccd cl outer A₀ base h₀ L m s Q E B F X N T' hk hdd hu hret
  obtain ⟨t1, t2, ax, ay, hm, hm2, hf, hx, hy⟩ := ht.two
  have ea : a = a0 := ht.2
  subst ea
  have hxa : x.adr = ax := hx.2
  have hdp := @dep_two a b f x y
  have hly : (spineT fs y).length ≤ 1024 := Nat.le_trans (spine_len fs y) (by omega)
  cases hb : under fs (.two a b f x y) with
  | true =>
    have e9 : spineT fs (.two a b f x y) = ax :: spineT fs y := by rw [← hxa]; exact if_pos hb
    generalize (Tr.two a b f x y).dep = nd at *
    refine wpAny_call ?_; k_dflt ktr_enter; k_steps
    (rename News h₀ L _ (_ :: _) => kN)
    exact hret _ _ _ _ (by assumption) kN ⟨by walk_at "my suf", _, 0, rfl, by rw [e9]; exact .head _⟩
  | false =>
    have e9 : spineT fs (.two a b f x y) = [a] := if_neg (by show ¬ under fs (.two a b f x y) = true; rw [hb]; decide)
    generalize (Tr.two a b f x y).dep = nd at *
    refine wpAny_call ?_; k_dflt ktr_enter; k_steps
    (rename News h₀ L _ (_ :: _) => kN)
    exact hret _ _ _ _ (by assumption) kN ⟨by walk_at "my suf", _, 0, rfl, by rw [e9]; exact .head _⟩

theorem spine_c (w : World) (fs : List Int) (hfs : ∀ y ∈ fs, y < 4) : ∀ t, SpineIH w fs t
  | .leaf _ _ _ => spine_leaf
  | .one _ _ _ _ => spine_one hfs
  | .two _ _ _ _ y => spine_two (spine_c w fs hfs y)
end

section
theorem start_W1_0 : (0 : Nat) ≤ 1 := by
  w_top off
  k_with_none
  exact Nat.zero_le 1
/-! loops over a stack of trees -/
def Tr.siz : Tr → Nat
  | .leaf _ _ _ => 1
  | .one _ _ _ _ => 1
  | .two _ _ _ x y => x.siz + y.siz + 1
theorem siz_le : ∀ t : Tr, t.siz + 1 ≤ 2 ^ t.dep
  | .leaf _ _ _ => by simp [Tr.siz, Tr.dep]
  | .one _ _ _ x => by simp only [Tr.siz, Tr.dep, Nat.pow_succ]; have := Nat.one_le_two_pow (n := x.dep); omega
  | .two _ _ f x y => by
    have h1 := siz_le x
    have h2 := siz_le y
    have h3 : 2 ^ x.dep ≤ 2 ^ (max x.dep y.dep) := Nat.pow_le_pow_right (by omega) (by omega)
    have h4 : 2 ^ y.dep ≤ 2 ^ (max x.dep y.dep) := Nat.pow_le_pow_right (by omega) (by omega)
    simp only [Tr.siz, Tr.dep, Nat.pow_succ]; omega
theorem siz_1024 {t : Tr} (h : t.dep ≤ 10) : t.siz ≤ 1024 := by
  have h1 := siz_le t
  have h2 : 2 ^ t.dep ≤ 2 ^ 10 := Nat.pow_le_pow_right (by omega) h
  omega
theorem siz_pos : ∀ t : Tr, 0 < t.siz
  | .leaf _ _ _ => by simp [Tr.siz]
  | .one _ _ _ _ => by simp [Tr.siz]
  | .two _ _ _ _ _ => by simp only [Tr.siz]; omega
def tot : List Tr → Nat
  | [] => 0
  | t :: r => t.siz + tot r
theorem tot_len : ∀ ts, ts.length ≤ tot ts
  | [] => Nat.le_refl _
  | t :: r => by have h1 := siz_pos t; have h2 := tot_len r; simp only [tot, List.length_cons]; omega
/-- the stack's addresses, the top last -/
def stk : List Tr → List Nat
  | [] => []
  | t :: r => stk r ++ [t.adr]
theorem stk_len : ∀ ts, (stk ts).length = ts.length
  | [] => rfl
  | t :: r => by simp [stk, stk_len r]

section
variable {prog : Program} {w : World} {A : Around} {E : Value → Shared → Prop} {Q : Flow → Shared → Prop} {s : Shared} {env : Env} {h₀ : Heap} {L : Addr}
def stkJ (m : Str → Option Value) (st : Nat) (R : List (Addr × Obj)) (inv : List Tr → List (Addr × Obj) → Prop) (n : Nat) (m₁ : Str → Option Value) (news₁ : List (Addr × Obj)) : Prop :=
  ∃ ts tv e led₁, m₁ = bindM m (Str.ofString "t") tv ∧ (∀ p ∈ (st, refsO (stk ts) e) :: led₁, p ∈ news₁) ∧ (∀ t ∈ ts, TreeIn R t) ∧ inv ts led₁ ∧ tot ts = n ∧ n ≤ 1024
theorem While_stk {test : Expr} {body : List Stmt} {pos : Pos} {m : Str → Option Value} {news R led : List (Addr × Obj)} {st : Nat} {t0 : Tr} {e0 : Nat} (inv : List Tr → List (Addr × Obj) → Prop)
    (F : Fr h₀ L s.heap m) (N : News h₀ L s.heap news) (hn : ∀ p ∈ (st, refsO [t0.adr] e0) :: led, p ∈ news) (i0 : inv [t0] led) (hT : TreeIn R t0) (hd : t0.dep ≤ 10)
    (fin : ∀ tv e led₁ h₁ tk₁, Fr h₀ L h₁ (bindM m (Str.ofString "t") tv) → News h₀ L h₁ ((st, refsO [] e) :: led₁) → inv [] led₁ →
      wpAny (model prog w) A (isTrue test env (eval test env)) (fun b s₂ =>
        if b = true then wpAny (model prog w) A (execs body env) (fun _ _ => False) E s₂ else Q .next s₂) E { s with heap := h₁, toks := tk₁ })
    (turn : ∀ (t : Tr) (r : List Tr) tv e led₁ h₁ tk₁, Fr h₀ L h₁ (bindM m (Str.ofString "t") tv) → News h₀ L h₁ ((st, refsO (stk r ++ [t.adr]) e) :: led₁) → TreeIn R t → r.length ≤ 1024 → inv (t :: r) led₁ →
      wpAny (model prog w) A (isTrue test env (eval test env)) (fun b s₂ =>
        if b = true then wpAny (model prog w) A (execs body env) (fun f s₃ => match f with
          | .next | .cont => ∃ h' tk tv' r' e' led', s₃ = { s with heap := h', toks := tk } ∧ Fr h₀ L h' (bindM m (Str.ofString "t") tv') ∧ News h₀ L h' ((st, refsO (stk (r' ++ r)) e') :: led') ∧ (∀ x ∈ r', TreeIn R x) ∧ tot r' < t.siz ∧ inv (r' ++ r) led'
          | .brk => Q .next s₃
          | .ret v => Q (.ret v) s₃) E s₂ else Q .next s₂) E { s with heap := h₁, toks := tk₁ })
    (hE : PassesOwn (model prog w) A env E := by passes_own) :
    wpAny (model prog w) A (exec (.While test body [] pos) env) Q E s := by
  refine While_inv2 (stkJ m st R inv) (n₀ := tot [t0]) F N
    ⟨[t0], _, e0, led, bindM_start m _, hn, by simpa using hT, i0, rfl, by have := siz_1024 hd; simp only [tot]; omega⟩ ?_ hE
  rintro n m₁ news₁ h₁ tk₁ F₁ N₁ ⟨ts, tv, e, led₁, rfl, hs, hT₁, i₁, hn₁, hl₁⟩
  have N₂ := news_sub N₁ hs
  cases ts with
  | nil =>
    refine wpAny_mono (fin tv e led₁ h₁ tk₁ F₁ N₂ i₁) (fun b s₂ h₂ => ?_) (fun _ _ h => h)
    cases b with
    | false => simpa using h₂
    | true => simp only [if_true] at h₂ ⊢; exact wpAny_mono h₂ (fun _ _ h => h.elim) (fun _ _ h => h)
  | cons t r =>
    have hlr : r.length ≤ 1024 := by have := tot_len r; have := siz_pos t; simp only [tot] at hn₁; omega
    refine wpAny_mono (turn t r tv e led₁ h₁ tk₁ F₁ N₂ (hT₁ t (.head _)) hlr i₁) (fun b s₂ h₂ => ?_) (fun _ _ h => h)
    cases b with
    | false => simpa using h₂
    | true =>
      simp only [if_true] at h₂ ⊢
      refine wpAny_mono h₂ (fun f s₃ h₃ => ?_) (fun _ _ h => h)
      have key : (∃ h' tk tv' r' e' led', s₃ = { s with heap := h', toks := tk } ∧ Fr h₀ L h' (bindM m (Str.ofString "t") tv') ∧ News h₀ L h' ((st, refsO (stk (r' ++ r)) e') :: led') ∧ (∀ x ∈ r', TreeIn R x) ∧ tot r' < t.siz ∧ inv (r' ++ r) led') → WhileStep2 h₀ L s (stkJ m st R inv) Q n .next s₃ := by
        rintro ⟨h', tk, tv', r', e', led', rfl, F₃, N₃, hT₃, hlt, i₃⟩
        have ha : ∀ a b : List Tr, tot (a ++ b) = tot a + tot b := by
          intro a b; induction a with
          | nil => simp [tot]
          | cons x a ih => simp only [List.cons_append, tot, ih]; omega
        have hn3 : tot (r' ++ r) < n := by rw [ha, ← hn₁]; simp only [tot]; omega
        refine ⟨h', tk, _, _, tot (r' ++ r), rfl, F₃, N₃, hn3, r' ++ r, tv', e', led', rfl, fun p hp => hp, ?_, i₃, rfl, by omega⟩
        intro x hx
        rcases List.mem_append.mp hx with hx | hx
        · exact hT₃ x hx
        · exact hT₁ x (.tail _ hx)
      cases f with
      | next => exact key h₃
      | cont => exact key h₃
      | brk => exact h₃
      | ret v => exact h₃
end
section
variable {prog : Program} {w : World} {A : Around} {E : Value → Shared → Prop} {s : Shared} {h₀ : Heap} {L : Addr} {D : Nat} {m : Str → Option Value} {news news' : List (Addr × Obj)} {e : Nat}
theorem truth_r1 {xs : List Nat} {x : Nat} {Q : Bool → Shared → Prop} (N : News h₀ L s.heap news) (hm : (D, refsO (xs ++ [x]) e) ∈ news) (hz : xs.length ≤ 1024)
    (h : Q true { s with toks := s.toks + 1 + 1 }) : wpAny (model prog w) A (truthy (.ref D)) Q E s :=
  kgr_truthy N hm rfl rfl (by simp; omega) (by rw [show ((xs ++ [x]).map Value.ref).isEmpty = false by cases xs <;> rfl]; exact h)
theorem truth_r0 {Q : Bool → Shared → Prop} (N : News h₀ L s.heap news) (hm : (D, refsO [] e) ∈ news)
    (h : Q false { s with toks := s.toks + 1 + 1 }) : wpAny (model prog w) A (truthy (.ref D)) Q E s :=
  kgr_truthy N hm rfl rfl (by simp) (by simpa using h)
theorem pop_r {xs : List Nat} {x : Nat} {Q : Value → Shared → Prop} (F : Fr h₀ L s.heap m) (N : News h₀ L s.heap news) (U : Upd D (refsO (xs ++ [x]) e) (refsO xs (e + 1)) news news') (hz : xs.length ≤ 1024)
    (h : ∀ h', Fr h₀ L h' m → News h₀ L h' news' → Q (.ref x) { s with heap := h' }) : wpAny (model prog w) A (call (.builtin "list.pop") [.ref D]) Q E s :=
  kl_pop F N (p := xs.map Value.ref) (y := .ref x) (by rw [List.map_append]; exact kpa_last _ _) U (by rw [sizeLine_eq]; simp; omega) h
theorem push_r {xs : List Nat} {x : Nat} {Q : Value → Shared → Prop} (F : Fr h₀ L s.heap m) (N : News h₀ L s.heap news) (U : Upd D (refsO xs e) (refsO (xs ++ [x]) (e + 1)) news news') (hz : xs.length ≤ 4096)
    (h : ∀ h', Fr h₀ L h' m → News h₀ L h' news' → Q .none { s with heap := h' }) : wpAny (model prog w) A (call (.builtin "list.append") [.ref D, .ref x]) Q E s :=
  append_K F N (its := (xs.map Value.ref).toArray) (x := .ref x) (by rw [List.push_toArray, ← List.map_singleton (f := Value.ref), ← List.map_append]; exact U) h (by rw [sizeLine_eq]; simp; omega)
end

section
variable {σ : Type}
def TurnEnd (s : Shared) (h₀ : Heap) (L : Addr) (m : Str → Option Value) (st : Nat) (R : List (Addr × Obj)) (inv : List Tr → σ → Prop) (cells : σ → List (Addr × Obj)) (k : Nat) (r : List Tr) (s₃ : Shared) : Prop :=
  ∃ h' tk tv' r' e' z', s₃ = { s with heap := h', toks := tk } ∧ Fr h₀ L h' (bindM m (Str.ofString "t") tv') ∧ News h₀ L h' ((st, refsO (stk (r' ++ r)) e') :: cells z') ∧ (∀ x ∈ r', TreeIn R x) ∧ tot r' < k ∧ inv (r' ++ r) z'
/-- a full turn over a top tree of size k above the rest r -/
abbrev TurnsTo (prog : Program) (w : World) (A : Around) (E : Value → Shared → Prop) (Q : Flow → Shared → Prop) (s : Shared) (env : Env) (test : Expr) (body : List Stmt) (h₀ : Heap) (L : Addr) (m : Str → Option Value) (st : Nat) (R : List (Addr × Obj)) (inv : List Tr → σ → Prop) (cells : σ → List (Addr × Obj)) (k : Nat) (r : List Tr) (h₁ : Heap) (tk₁ : Nat) : Prop :=
  wpAny (model prog w) A (isTrue test env (eval test env)) (fun b s₂ =>
    if b = true then wpAny (model prog w) A (execs body env) (fun f s₃ => match f with
      | .next | .cont => TurnEnd s h₀ L m st R inv cells k r s₃
      | .brk => Q .next s₃
      | .ret v => Q (.ret v) s₃) E s₂ else Q .next s₂) E { s with heap := h₁, toks := tk₁ }
theorem turn_end {s : Shared} {h₀ : Heap} {L : Addr} {m : Str → Option Value} {st : Nat} {R led : List (Addr × Obj)} {inv : List Tr → σ → Prop} {cells : σ → List (Addr × Obj)} {k : Nat} {r : List Tr} {h' : Heap} {tk : Nat} {v tv : Option Value} {e' : Nat} (r' : List Tr) (z' : σ)
    (F : Fr h₀ L h' (fun y => if y = Str.ofString "t" then v else bindM m (Str.ofString "t") tv y)) (N : News h₀ L h' led) (hs : ∀ p ∈ (st, refsO (stk (r' ++ r)) e') :: cells z', p ∈ led) (hT : ∀ x ∈ r', TreeIn R x) (hk : tot r' < k) (hi : inv (r' ++ r) z') :
    TurnEnd s h₀ L m st R inv cells k r { s with heap := h', toks := tk } := by
  refine ⟨h', tk, v, r', e', z', rfl, ?_, news_sub N hs, hT, hk, hi⟩
  have : (fun y => if y = Str.ofString "t" then v else bindM m (Str.ofString "t") tv y) = bindM m (Str.ofString "t") v := by
    funext y; simp only [bindM]; split <;> rfl
  rw [← this]; exact F
variable {prog : Program} {w : World} {A : Around} {E : Value → Shared → Prop} {Q : Flow → Shared → Prop} {s : Shared} {env : Env} {h₀ : Heap} {L : Addr}
theorem While_stk8 {test : Expr} {body : List Stmt} {pos : Pos} {m : Str → Option Value} {news R : List (Addr × Obj)} {st a0 : Nat} {t0 : Tr} {e0 : Nat} {z0 : σ} (inv : List Tr → σ → Prop) (cells : σ → List (Addr × Obj))
    (F : Fr h₀ L s.heap m) (N : News h₀ L s.heap news) (hT : At R a0 t0) (hn : ∀ p ∈ (st, refsO [a0] e0) :: cells z0, p ∈ news) (i0 : inv [t0] z0) (hd : t0.dep ≤ 10)
    (fin : ∀ (tv : Option Value) (e : Nat) (z : σ) (h₁ : Heap) (tk₁ : Nat), Fr h₀ L h₁ (bindM m (Str.ofString "t") tv) → News h₀ L h₁ ((st, refsO [] e) :: cells z) → inv [] z →
      wpAny (model prog w) A (isTrue test env (eval test env)) (fun b s₂ =>
        if b = true then wpAny (model prog w) A (execs body env) (fun _ _ => False) E s₂ else Q .next s₂) E { s with heap := h₁, toks := tk₁ })
    (lA : ∀ (a : Nat) (n : Int) (t1 t2 : Tok) (r : List Tr) (tv : Option Value) (e : Nat) (z : σ) (h₁ : Heap) (tk₁ : Nat), Fr h₀ L h₁ (bindM m (Str.ofString "t") tv) → News h₀ L h₁ ((st, refsO (stk r ++ [a]) e) :: cells z) → (a, tupO [.str (Str.ofString "a") t1, .int n t2]) ∈ R → r.length ≤ 1024 → inv (.leaf a (Str.ofString "a") n :: r) z → TurnsTo prog w A E Q s env test body h₀ L m st R inv cells 1 r h₁ tk₁)
    (lV : ∀ (a : Nat) (n : Int) (t1 t2 : Tok) (r : List Tr) (tv : Option Value) (e : Nat) (z : σ) (h₁ : Heap) (tk₁ : Nat), Fr h₀ L h₁ (bindM m (Str.ofString "t") tv) → News h₀ L h₁ ((st, refsO (stk r ++ [a]) e) :: cells z) → (a, tupO [.str (Str.ofString "v") t1, .int n t2]) ∈ R → r.length ≤ 1024 → inv (.leaf a (Str.ofString "v") n :: r) z → TurnsTo prog w A E Q s env test body h₀ L m st R inv cells 1 r h₁ tk₁)
    (lI : ∀ (a : Nat) (n : Int) (t1 t2 : Tok) (r : List Tr) (tv : Option Value) (e : Nat) (z : σ) (h₁ : Heap) (tk₁ : Nat), Fr h₀ L h₁ (bindM m (Str.ofString "t") tv) → News h₀ L h₁ ((st, refsO (stk r ++ [a]) e) :: cells z) → (a, tupO [.str (Str.ofString "i") t1, .int n t2]) ∈ R → r.length ≤ 1024 → inv (.leaf a (Str.ofString "i") n :: r) z → TurnsTo prog w A E Q s env test body h₀ L m st R inv cells 1 r h₁ tk₁)
    (on : ∀ (a b : Nat) (f : Int) (x : Tr) (t1 t2 : Tok) (r : List Tr) (tv : Option Value) (e : Nat) (z : σ) (h₁ : Heap) (tk₁ : Nat), Fr h₀ L h₁ (bindM m (Str.ofString "t") tv) → News h₀ L h₁ ((st, refsO (stk r ++ [a]) e) :: cells z) → (a, tupO [.str (Str.ofString "s") t1, .int f t2, .ref b]) ∈ R → (b, tupO [.ref x.adr]) ∈ R → 4 ≤ f → r.length ≤ 1024 → inv (.one a b f x :: r) z → TurnsTo prog w A E Q s env test body h₀ L m st R inv cells 1 r h₁ tk₁)
    (tw1 : ∀ (a b : Nat) (x y : Tr) (t1 t2 : Tok) (r : List Tr) (tv : Option Value) (e : Nat) (z : σ) (h₁ : Heap) (tk₁ : Nat), Fr h₀ L h₁ (bindM m (Str.ofString "t") tv) → News h₀ L h₁ ((st, refsO (stk r ++ [a]) e) :: cells z) → (a, tupO [.str (Str.ofString "s") t1, .int 1 t2, .ref b]) ∈ R → (b, tupO [.ref x.adr, .ref y.adr]) ∈ R → TreeIn R x → TreeIn R y → r.length ≤ 1024 → inv (.two a b 1 x y :: r) z → TurnsTo prog w A E Q s env test body h₀ L m st R inv cells (x.siz + y.siz + 1) r h₁ tk₁)
    (tw2 : ∀ (a b : Nat) (x y : Tr) (t1 t2 : Tok) (r : List Tr) (tv : Option Value) (e : Nat) (z : σ) (h₁ : Heap) (tk₁ : Nat), Fr h₀ L h₁ (bindM m (Str.ofString "t") tv) → News h₀ L h₁ ((st, refsO (stk r ++ [a]) e) :: cells z) → (a, tupO [.str (Str.ofString "s") t1, .int 2 t2, .ref b]) ∈ R → (b, tupO [.ref x.adr, .ref y.adr]) ∈ R → TreeIn R x → TreeIn R y → r.length ≤ 1024 → inv (.two a b 2 x y :: r) z → TurnsTo prog w A E Q s env test body h₀ L m st R inv cells (x.siz + y.siz + 1) r h₁ tk₁)
    (tw3 : ∀ (a b : Nat) (x y : Tr) (t1 t2 : Tok) (r : List Tr) (tv : Option Value) (e : Nat) (z : σ) (h₁ : Heap) (tk₁ : Nat), Fr h₀ L h₁ (bindM m (Str.ofString "t") tv) → News h₀ L h₁ ((st, refsO (stk r ++ [a]) e) :: cells z) → (a, tupO [.str (Str.ofString "s") t1, .int 3 t2, .ref b]) ∈ R → (b, tupO [.ref x.adr, .ref y.adr]) ∈ R → TreeIn R x → TreeIn R y → r.length ≤ 1024 → inv (.two a b 3 x y :: r) z → TurnsTo prog w A E Q s env test body h₀ L m st R inv cells (x.siz + y.siz + 1) r h₁ tk₁)
    (hE : PassesOwn (model prog w) A env E := by passes_own) :
    wpAny (model prog w) A (exec (.While test body [] pos) env) Q E s := by
  obtain ⟨hT, rfl⟩ := hT
  refine While_stk (R := R) (fun ts led => ∃ z, led = cells z ∧ inv ts z) F N hn ⟨z0, rfl, i0⟩ hT hd ?_ ?_ hE
  · rintro tv e led₁ h₁ tk₁ F₁ N₁ ⟨z, rfl, i⟩
    exact fin tv e z h₁ tk₁ F₁ N₁ i
  · rintro t r tv e led₁ h₁ tk₁ F₁ N₁ hT₁ hl ⟨z, rfl, i⟩
    have key : ∀ k, k ≤ t.siz → TurnsTo prog w A E Q s env test body h₀ L m st R inv cells k r h₁ tk₁ → wpAny (model prog w) A (isTrue test env (eval test env)) (fun b s₂ =>
        if b = true then wpAny (model prog w) A (execs body env) (fun f s₃ => match f with
          | .next | .cont => ∃ h' tk tv' r' e' led', s₃ = { s with heap := h', toks := tk } ∧ Fr h₀ L h' (bindM m (Str.ofString "t") tv') ∧ News h₀ L h' ((st, refsO (stk (r' ++ r)) e') :: led') ∧ (∀ x ∈ r', TreeIn R x) ∧ tot r' < t.siz ∧ ∃ z, led' = cells z ∧ inv (r' ++ r) z
          | .brk => Q .next s₃
          | .ret v => Q (.ret v) s₃) E s₂ else Q .next s₂) E { s with heap := h₁, toks := tk₁ } := by
      intro k hk hw
      refine wpAny_mono hw (fun b s₂ h₂ => ?_) (fun _ _ h => h)
      cases b with
      | false => simpa using h₂
      | true =>
        simp only [if_true] at h₂ ⊢
        refine wpAny_mono h₂ (fun f s₃ h₃ => ?_) (fun _ _ h => h)
        cases f with
        | next => obtain ⟨h', tk, tv', r', e', z', a1, a2, a3, a4, a5, a6⟩ := h₃; exact ⟨h', tk, tv', r', e', _, a1, a2, a3, a4, Nat.lt_of_lt_of_le a5 hk, z', rfl, a6⟩
        | cont => obtain ⟨h', tk, tv', r', e', z', a1, a2, a3, a4, a5, a6⟩ := h₃; exact ⟨h', tk, tv', r', e', _, a1, a2, a3, a4, Nat.lt_of_lt_of_le a5 hk, z', rfl, a6⟩
        | brk => exact h₃
        | ret v => exact h₃
    cases hT₁ with
    | leaf hm hk =>
      refine key 1 (Nat.le_refl _) ?_
      rcases hk with rfl | rfl | rfl
      · exact lA _ _ _ _ r tv e z h₁ tk₁ F₁ N₁ hm hl i
      · exact lV _ _ _ _ r tv e z h₁ tk₁ F₁ N₁ hm hl i
      · exact lI _ _ _ _ r tv e z h₁ tk₁ F₁ N₁ hm hl i
    | one h1 h2 hf hx => exact key 1 (Nat.le_refl _) (on _ _ _ _ _ _ r tv e z h₁ tk₁ F₁ N₁ h1 h2 hf hl i)
    | two h1 h2 hf hx hy =>
      refine key _ (Nat.le_refl _) ?_
      rcases hf with rfl | rfl | rfl
      · exact tw1 _ _ _ _ _ _ r tv e z h₁ tk₁ F₁ N₁ h1 h2 hx hy hl i
      · exact tw2 _ _ _ _ _ _ r tv e z h₁ tk₁ F₁ N₁ h1 h2 hx hy hl i
      · exact tw3 _ _ _ _ _ _ r tv e z h₁ tk₁ F₁ N₁ h1 h2 hx hy hl i
end

def Stop (P : Prop) : Prop := P
theorem stop_ {P : Prop} (h : Stop P) : P := h
end

section

theorem start_W2_0 : (0 : Nat) ≤ 1 := by
  w_top off
  k_with_none
  k_with "m:callWith" => (walk_plain_pass; first | refine callWith_method1 ?_ | refine callWith_builtin1 ?_)
  k_with "m:subscriptTail Name Constant ref int" => (k_here; (with_reducible show wpAny _ _ (subscriptTail _ _ (Value.ref _) (Value.int _ _)) _ _ _); k_dflt (refine' item_tupleT (by exact News.isTup (by k_asm) (by k_mem)) (by decide) (by decide) (by rfl) (by rfl) ?_; k_whole))
  k_with "m:subscriptTail Subscript" => (k_here; (with_reducible show wpAny _ _ (subscriptTail _ _ (Value.ref _) (Value.int _ _)) _ _ _); first | k_dflt (refine' item_tupleT (by exact News.isTup (by k_asm) (by k_mem)) (by decide) (by decide) (by rfl) (by rfl) ?_; k_whole) | (exfalso; omega))
  k_with "m:ktr_room" => (first | exact Nat.le_of_ble_eq_true rfl | exact rm0 (by assumption) | exact rm1 (by assumption) (by first | exact Nat.le_of_ble_eq_true rfl | exact Nat.le_add_right_of_le (Nat.le_of_ble_eq_true rfl) | exact dpl1 (by assumption) | exact dpl2 (by assumption) | omega) | exact rm2 (by assumption) (by first | exact Nat.le_of_ble_eq_true rfl | exact Nat.le_add_right_of_le (Nat.le_of_ble_eq_true rfl) | exact dpl1 (by assumption) | exact dpl2 (by assumption) | omega) | exact rm3 (by assumption) (by first | exact Nat.le_of_ble_eq_true rfl | exact Nat.le_add_right_of_le (Nat.le_of_ble_eq_true rfl) | exact dpl1 (by assumption) | exact dpl2 (by assumption) | omega) | exact lwr (by assumption) | omega | ((try simp only [depth_under_make, depth_under_kw, depth_in1, depth_deeper, depth_caller] at *); (try dsimp only [ktrTop] at *); omega))
  k_with "m:ktr_units" => (first | exact Nat.le_of_ble_eq_true rfl | exact un1 (by assumption) (by first | exact Nat.le_of_ble_eq_true rfl | exact Nat.le_add_right_of_le (Nat.le_of_ble_eq_true rfl) | exact dpl1 (by assumption) | exact dpl2 (by assumption) | omega) | exact un2 (by assumption) (by first | exact Nat.le_of_ble_eq_true rfl | exact Nat.le_add_right_of_le (Nat.le_of_ble_eq_true rfl) | exact dpl1 (by assumption) | exact dpl2 (by assumption) | omega) | exact un3 (by assumption) (by first | exact Nat.le_of_ble_eq_true rfl | exact Nat.le_add_right_of_le (Nat.le_of_ble_eq_true rfl) | exact dpl1 (by assumption) | exact dpl2 (by assumption) | omega) | exact lwu (by assumption) | omega | ((try simp only [units_in1, units_deeper, Around.mark_units, units_caller] at *); (try dsimp only [ktrTop] at *); omega))
  k_with "m:k_mem" => first | assumption | exact List.Mem.head _ | (refine' List.Mem.tail _ ?_; k_mem)
  k_with "m:k_all" => assumption
  k_with "m:truthy ref" => (k_here; k_dflt (first | (refine' truth_r1 (by k_asm) (by exact List.Mem.head _) (by rw [stk_len]; assumption) ?_) | (refine' truth_r0 (by k_asm) (by exact List.Mem.head _) ?_); k_whole))
  k_with "m:call builtin:list.pop" => (k_here; k_dflt (refine' pop_r (by k_asm) (by k_asm) (by k_upd) (by rw [stk_len]; assumption) ?_); intro h' F' N'; (try k_sweep))
  k_with "m:call builtin:list.append" => (k_here; k_dflt (refine' push_r (by k_asm) (by k_asm) (by k_upd) (by simp only [List.length_append, List.length_singleton, stk_len]; omega) ?_); intro h' F' N'; (try k_sweep))
  k_with "m:exec" => (k_here; (with_reducible show wpAny _ _ (exec (Stmt.While _ _ [] _) _) _ _ _); refine stop_ ?_)
  k_with "m:exec While" => (k_here; refine stop_ ?_)
  exact Nat.zero_le 1
theorem cut_c (w : World) (t0 : Tr) (R : List (Addr × Obj)) (a : Nat) (ht : At R a t0) (hd10 : t0.dep ≤ 10) : Ctr w 172 [.ref a] 10 R (fun n' r => R <:+ n' ∧ r = .bool (cutsT t0)) := by
  unfold Ctr
  k_fill
  intro mean mg mb dp un gd cn cs a' ccd cl outer A₀ base h₀ L m s Q E B F X N T' hk hdd hu hret
  refine wpAny_call ?_; k_dflt ktr_enter; k_steps
  rename News _ _ _ (_ :: _) => N1
  rename (∀ p ∈ R, p.1 < _) => l1
  have l2 := fun p hp => Nat.ne_of_lt (l1 p hp)
  refine While_stk8 (σ := Unit) (R := R) (z0 := ()) (fun ts _ => ts.any cutsT = cutsT t0) (fun _ => R) (by assumption) N1 ht (fun p hp => hp) (by simp) hd10 ?_ ?_ ?_ ?_ ?_ ?_ ?_ ?_ ?_
  · intro tv e z h₁ tk₁ F₁ N₁ i₁; clear N1; k_steps
    (rename News h₀ L _ (_ :: _) => kN); refine hret _ _ _ _ (by assumption) kN ⟨List.suffix_cons _ _, ?_⟩
    rw [← i₁]; rfl
  · intro a n t1 t2 r tv e z h₁ tk₁ F₁ N₁ hm hl i₁; clear N1; k_steps
    · (rename News h₀ L _ (_ :: _) => kN); refine hret _ _ _ _ (by assumption) kN ⟨List.suffix_cons _ _, ?_⟩
      rw [← i₁]; simp_all [cutsT]
    · refine turn_end [] () (by assumption) (by assumption) (fun p hp => hp) (by simp) (by decide) ?_
      rw [← i₁]; simp [cutsT]; omega
  · intro a n t1 t2 r tv e z h₁ tk₁ F₁ N₁ hm hl i₁; clear N1; k_steps
    refine turn_end [] () (by assumption) (by assumption) (fun p hp => hp) (by simp) (by decide) ?_
    rw [← i₁]; simp [show cutsT (.leaf a (Str.ofString "v") n) = false from rfl]
  · intro a n t1 t2 r tv e z h₁ tk₁ F₁ N₁ hm hl i₁; clear N1; k_steps
    refine turn_end [] () (by assumption) (by assumption) (fun p hp => hp) (by simp) (by decide) ?_
    rw [← i₁]; simp [show cutsT (.leaf a (Str.ofString "i") n) = false from rfl]
  · intro a b f x t1 t2 r tv e z h₁ tk₁ F₁ N₁ hm hm2 hf hl i₁; clear N1; k_steps
    all_goals try (exfalso; omega)
    dsimp only
    refine turn_end [] () (by assumption) (by assumption) (fun p hp => hp) (by simp) (by decide) ?_
    rw [← i₁]; simp [cutsT]
  · intro a b x y t1 t2 r tv e z h₁ tk₁ F₁ N₁ hm hm2 hx hy hl i₁; clear N1; k_steps
    refine turn_end [y, x] () (by assumption) (by assumption) (fun p hp => hp) (by simp [hx, hy]) (by simp only [tot]; omega) ?_
    rw [← i₁]; simp [cutsT]; grind
  · intro a b x y t1 t2 r tv e z h₁ tk₁ F₁ N₁ hm hm2 hx hy hl i₁; clear N1; k_steps
    refine turn_end [y, x] () (by assumption) (by assumption) (fun p hp => hp) (by simp [hx, hy]) (by simp only [tot]; omega) ?_
    rw [← i₁]; simp [cutsT]; grind
  · intro a b x y t1 t2 r tv e z h₁ tk₁ F₁ N₁ hm hm2 hx hy hl i₁; clear N1; k_steps
    refine turn_end [y] () (by assumption) (by assumption) (fun p hp => hp) (by simp [hx, hy]) (by simp only [tot]; omega) ?_
    rw [← i₁]; simp [cutsT]
  · k_steps
end

section

theorem start_W3_0 : (0 : Nat) ≤ 1 := by
  w_top off
  k_with_none
  k_with "m:callWith" => (walk_plain_pass; first | refine callWith_method1 ?_ | refine callWith_builtin1 ?_)
  k_with "m:subscriptTail Name Constant ref int" => (k_here; (with_reducible show wpAny _ _ (subscriptTail _ _ (Value.ref _) (Value.int _ _)) _ _ _); k_dflt (refine' item_tupleT (by exact News.isTup (by k_asm) (by k_mem)) (by decide) (by decide) (by rfl) (by rfl) ?_; k_whole))
  k_with "m:subscriptTail Subscript" => (k_here; (with_reducible show wpAny _ _ (subscriptTail _ _ (Value.ref _) (Value.int _ _)) _ _ _); first | k_dflt (refine' item_tupleT (by exact News.isTup (by k_asm) (by k_mem)) (by decide) (by decide) (by rfl) (by rfl) ?_; k_whole) | (exfalso; omega))
  exact Nat.zero_le 1
theorem seq_u3 {news : List (Addr × Obj)} {fa : Nat} {k1 k2 k3 : Int} {t1 t2 t3 : Tok} (h2 : (fa, tupO [.int k1 t1, .int k2 t2, .int k3 t3]) ∈ news) : SeqInts news fa [k1, k2, k3] := ⟨[.int k1 t1, .int k2 t2, .int k3 t3], .cons _ _ (.cons _ _ (.cons _ _ .nil)), .inr h2⟩
theorem in_seqt {prog : Program} {w : World} {A : Around} {E : Value → Shared → Prop} {s : Shared} {h₀ : Heap} {L : Addr} {news : List (Addr × Obj)} {fa : Nat} {fs : List Int} {k : Int} {t : Tok} {Q : Value → Shared → Prop} (N : News h₀ L s.heap news) (h : SeqInts news fa fs)
    (hb : fs.any (fun y => y == k) = true) (q : Q (.bool true) s) : wpAny (model prog w) A (compareOp .In (.int k t) (.ref fa)) Q E s := in_seq N h (by rw [hb]; exact q)
theorem in_seqf {prog : Program} {w : World} {A : Around} {E : Value → Shared → Prop} {s : Shared} {h₀ : Heap} {L : Addr} {news : List (Addr × Obj)} {fa : Nat} {fs : List Int} {k : Int} {t : Tok} {Q : Value → Shared → Prop} (N : News h₀ L s.heap news) (h : SeqInts news fa fs)
    (hb : fs.any (fun y => y == k) = false) (q : Q (.bool false) s) : wpAny (model prog w) A (compareOp .In (.int k t) (.ref fa)) Q E s := in_seq N h (by rw [hb]; exact q)
theorem any_lo {f : Int} (hf : 4 ≤ f) {fs : List Int} (h : ∀ y ∈ fs, y < 4) : fs.any (fun y => y == f) = false := by
  refine List.any_eq_false.mpr fun y hy e => ?_
  have h1 := h y hy
  have h2 : y = f := by simpa using e
  omega
theorem any_lo3 {f : Int} (hf : 4 ≤ f) : [1, 2, 3].any (fun y => y == f) = false := any_lo hf (by decide)

theorem start_W3_1 : (0 : Nat) ≤ 1 := by
  w_top off
  k_with "m:ktr_room" => (first | exact Nat.le_of_ble_eq_true rfl | exact rm0 (by assumption) | exact rm1 (by assumption) (by first | exact Nat.le_of_ble_eq_true rfl | exact Nat.le_add_right_of_le (Nat.le_of_ble_eq_true rfl) | exact dpl1 (by assumption) | exact dpl2 (by assumption) | omega) | exact rm2 (by assumption) (by first | exact Nat.le_of_ble_eq_true rfl | exact Nat.le_add_right_of_le (Nat.le_of_ble_eq_true rfl) | exact dpl1 (by assumption) | exact dpl2 (by assumption) | omega) | exact rm3 (by assumption) (by first | exact Nat.le_of_ble_eq_true rfl | exact Nat.le_add_right_of_le (Nat.le_of_ble_eq_true rfl) | exact dpl1 (by assumption) | exact dpl2 (by assumption) | omega) | exact lwr (by assumption) | omega | ((try simp only [depth_under_make, depth_under_kw, depth_in1, depth_deeper, depth_caller] at *); (try dsimp only [ktrTop] at *); omega))
  k_with "m:ktr_units" => (first | exact Nat.le_of_ble_eq_true rfl | exact un1 (by assumption) (by first | exact Nat.le_of_ble_eq_true rfl | exact Nat.le_add_right_of_le (Nat.le_of_ble_eq_true rfl) | exact dpl1 (by assumption) | exact dpl2 (by assumption) | omega) | exact un2 (by assumption) (by first | exact Nat.le_of_ble_eq_true rfl | exact Nat.le_add_right_of_le (Nat.le_of_ble_eq_true rfl) | exact dpl1 (by assumption) | exact dpl2 (by assumption) | omega) | exact un3 (by assumption) (by first | exact Nat.le_of_ble_eq_true rfl | exact Nat.le_add_right_of_le (Nat.le_of_ble_eq_true rfl) | exact dpl1 (by assumption) | exact dpl2 (by assumption) | omega) | exact lwu (by assumption) | omega | ((try simp only [units_in1, units_deeper, Around.mark_units, units_caller] at *); (try dsimp only [ktrTop] at *); omega))
  k_with "m:k_mem" => first | assumption | exact List.Mem.head _ | (refine' List.Mem.tail _ ?_; k_mem)
  k_with "m:k_all" => assumption
  k_with "m:truthy ref" => (k_here; k_dflt (first | (refine' truth_r1 (by k_asm) (by exact List.Mem.head _) (by rw [stk_len]; assumption) ?_) | (refine' truth_r0 (by k_asm) (by exact List.Mem.head _) ?_); k_whole))
  k_with "m:call builtin:list.pop" => (k_here; k_dflt (refine' pop_r (by k_asm) (by k_asm) (by k_upd) (by rw [stk_len]; assumption) ?_); intro h' F' N'; (try k_sweep))
  k_with "m:call builtin:list.append" => (k_here; k_dflt (refine' push_r (by k_asm) (by k_asm) (by k_upd) (by first | omega | (simp only [List.length_append, List.length_singleton, stk_len]; omega)) ?_); intro h' F' N'; (try k_sweep))
  k_with "m:exec" => (k_here; (with_reducible show wpAny _ _ (exec (Stmt.While _ _ [] _) _) _ _ _); refine stop_ ?_)
  k_with "m:exec While" => (k_here; refine stop_ ?_)
  k_with "m:compareOp In int ref" => (k_here; k_dflt (refine' in_seqf (by k_asm) (by (refine' seq_u3 (by k_mem))) (by first | rfl | exact any_lo3 (by assumption)) ?_; k_whole))
  k_with "m:compareOp In int ref" => (k_here; k_dflt (refine' in_seqt (by k_asm) (by (refine' seq_u3 (by k_mem))) (by rfl) ?_; k_whole))
  exact Nat.zero_le 1
theorem isb_c (w : World) (t0 : Tr) (R : List (Addr × Obj)) (a : Nat) (ht : At R a t0) (hd10 : t0.dep ≤ 10) : Ctr w 221 [.ref a] 10 R (fun n' r => R <:+ n' ∧ r = .bool (soundT t0)) := by
  unfold Ctr
  k_fill
  intro mean mg mb dp un gd cn cs a' ccd cl outer A₀ base h₀ L m s Q E B F X N T' hk hdd hu hret
  refine wpAny_call ?_; k_dflt ktr_enter; k_steps
  rename News _ _ _ (_ :: _) => N1
  rename (∀ p ∈ R, p.1 < _) => l1
  have l2 := fun p hp => Nat.ne_of_lt (l1 p hp)
  refine While_stk8 (σ := Unit) (R := R) (z0 := ()) (fun ts _ => ts.all soundT = soundT t0) (fun _ => R) (by assumption) N1 ht (fun p hp => hp) (by simp) hd10 ?_ ?_ ?_ ?_ ?_ ?_ ?_ ?_ ?_
  · intro tv e z h₁ tk₁ F₁ N₁ i₁; clear N1; k_steps
    (rename News h₀ L _ (_ :: _) => kN); refine hret _ _ _ _ (by assumption) kN ⟨List.suffix_cons _ _, ?_⟩
    rw [← i₁]; rfl
  · intro a n t1 t2 r tv e z h₁ tk₁ F₁ N₁ hm hl i₁; clear N1; k_steps
    refine turn_end [] () (by assumption) (by assumption) (fun p hp => hp) (by simp) (by decide) ?_
    rw [← i₁]; simp [show soundT (.leaf a (Str.ofString "a") n) = true from rfl]
  · intro a n t1 t2 r tv e z h₁ tk₁ F₁ N₁ hm hl i₁; clear N1; k_steps
    refine turn_end [] () (by assumption) (by assumption) (fun p hp => hp) (by simp) (by decide) ?_
    rw [← i₁]; simp [show soundT (.leaf a (Str.ofString "v") n) = true from rfl]
  · intro a n t1 t2 r tv e z h₁ tk₁ F₁ N₁ hm hl i₁; clear N1; k_steps
    (rename News h₀ L _ (_ :: _) => kN); refine hret _ _ _ _ (by assumption) kN ⟨List.suffix_cons _ _, ?_⟩
    rw [← i₁]; simp [show soundT (.leaf a (Str.ofString "i") n) = false from rfl]
  · intro a b f x t1 t2 r tv e z h₁ tk₁ F₁ N₁ hm hm2 hf hl i₁; clear N1; k_steps
    all_goals try (exfalso; omega)
    dsimp only
    refine turn_end [] () (by assumption) (by assumption) (fun p hp => .tail _ hp) (by simp) (by decide) ?_
    rw [← i₁]; simp [soundT]
  · intro a b x y t1 t2 r tv e z h₁ tk₁ F₁ N₁ hm hm2 hx hy hl i₁; clear N1; k_steps
    refine turn_end [x, y] () (by assumption) (by assumption) (fun p hp => .tail _ hp) (by simp [hx, hy]) (by simp only [tot]; omega) ?_
    rw [← i₁]; simp [soundT]; grind
  · intro a b x y t1 t2 r tv e z h₁ tk₁ F₁ N₁ hm hm2 hx hy hl i₁; clear N1; k_steps
    refine turn_end [x, y] () (by assumption) (by assumption) (fun p hp => .tail _ hp) (by simp [hx, hy]) (by simp only [tot]; omega) ?_
    rw [← i₁]; simp [soundT]; grind
  · intro a b x y t1 t2 r tv e z h₁ tk₁ F₁ N₁ hm hm2 hx hy hl i₁; clear N1; k_steps
    refine turn_end [x, y] () (by assumption) (by assumption) (fun p hp => .tail _ hp) (by simp [hx, hy]) (by simp only [tot]; omega) ?_
    rw [← i₁]; simp [soundT]; grind
  · k_steps
end

section


theorem start_W4_0 : (0 : Nat) ≤ 1 := by
  w_top off
  k_with_none
  k_with "m:callWith" => (walk_plain_pass; first | refine callWith_method1 ?_ | refine callWith_builtin1 ?_)
  k_with "m:subscriptTail Name Constant ref int" => (k_here; (with_reducible show wpAny _ _ (subscriptTail _ _ (Value.ref _) (Value.int _ _)) _ _ _); k_dflt (refine' item_tupleT (by exact News.isTup (by k_asm) (by k_mem)) (by decide) (by decide) (by rfl) (by rfl) ?_; k_whole))
  k_with "m:subscriptTail Subscript" => (k_here; (with_reducible show wpAny _ _ (subscriptTail _ _ (Value.ref _) (Value.int _ _)) _ _ _); first | k_dflt (refine' item_tupleT (by exact News.isTup (by k_asm) (by k_mem)) (by decide) (by decide) (by rfl) (by rfl) ?_; k_whole) | (exfalso; omega))
  k_with "m:ktr_room" => (first | exact Nat.le_of_ble_eq_true rfl | exact rm0 (by assumption) | exact rm1 (by assumption) (by first | exact Nat.le_of_ble_eq_true rfl | exact Nat.le_add_right_of_le (Nat.le_of_ble_eq_true rfl) | exact dpl1 (by assumption) | exact dpl2 (by assumption) | omega) | exact rm2 (by assumption) (by first | exact Nat.le_of_ble_eq_true rfl | exact Nat.le_add_right_of_le (Nat.le_of_ble_eq_true rfl) | exact dpl1 (by assumption) | exact dpl2 (by assumption) | omega) | exact rm3 (by assumption) (by first | exact Nat.le_of_ble_eq_true rfl | exact Nat.le_add_right_of_le (Nat.le_of_ble_eq_true rfl) | exact dpl1 (by assumption) | exact dpl2 (by assumption) | omega) | exact lwr (by assumption) | omega | ((try simp only [depth_under_make, depth_under_kw, depth_in1, depth_deeper, depth_caller] at *); (try dsimp only [ktrTop] at *); omega))
  k_with "m:ktr_units" => (first | exact Nat.le_of_ble_eq_true rfl | exact un1 (by assumption) (by first | exact Nat.le_of_ble_eq_true rfl | exact Nat.le_add_right_of_le (Nat.le_of_ble_eq_true rfl) | exact dpl1 (by assumption) | exact dpl2 (by assumption) | omega) | exact un2 (by assumption) (by first | exact Nat.le_of_ble_eq_true rfl | exact Nat.le_add_right_of_le (Nat.le_of_ble_eq_true rfl) | exact dpl1 (by assumption) | exact dpl2 (by assumption) | omega) | exact un3 (by assumption) (by first | exact Nat.le_of_ble_eq_true rfl | exact Nat.le_add_right_of_le (Nat.le_of_ble_eq_true rfl) | exact dpl1 (by assumption) | exact dpl2 (by assumption) | omega) | exact lwu (by assumption) | omega | ((try simp only [units_in1, units_deeper, Around.mark_units, units_caller] at *); (try dsimp only [ktrTop] at *); omega))
  k_with "m:k_mem" => first | assumption | exact List.Mem.head _ | (refine' List.Mem.tail _ ?_; k_mem)
  k_with "m:k_all" => assumption
  k_with "m:truthy ref" => (k_here; k_dflt (first | (refine' truth_r1 (by k_asm) (by exact List.Mem.head _) (by rw [stk_len]; assumption) ?_) | (refine' truth_r0 (by k_asm) (by exact List.Mem.head _) ?_); k_whole))
  k_with "m:call builtin:list.pop" => (k_here; k_dflt (refine' pop_r (by k_asm) (by k_asm) (by k_upd) (by rw [stk_len]; assumption) ?_); intro h' F' N'; (try k_sweep))
  k_with "m:call builtin:list.append" => (k_here; k_dflt (refine' push_r (by k_asm) (by k_asm) (by k_upd) (by first | omega | (simp only [List.length_append, List.length_singleton, stk_len]; omega)) ?_); intro h' F' N'; (try k_sweep))
  k_with "m:exec" => (k_here; (with_reducible show wpAny _ _ (exec (Stmt.While _ _ [] _) _) _ _ _); refine stop_ ?_)
  k_with "m:exec While" => (k_here; refine stop_ ?_)
  k_with "m:compareOp In int ref" => (k_here; k_dflt (refine' in_seqf (by k_asm) (by (refine' seq_u3 (by k_mem))) (by first | rfl | exact any_lo3 (by assumption)) ?_; k_whole))
  k_with "m:compareOp In int ref" => (k_here; k_dflt (refine' in_seqt (by k_asm) (by (refine' seq_u3 (by k_mem))) (by rfl) ?_; k_whole))
  k_with "my suf" => (repeat (first | exact List.suffix_rfl | refine List.IsSuffix.trans ?_ (List.suffix_append _ _) | refine List.IsSuffix.trans ?_ (List.suffix_cons _ _)))
  exact Nat.zero_le 1
theorem flat_len {out : List Nat} {ts : List Tr} {t0 : Tr} (h : out ++ ts.flatMap goalsT = goalsT t0) (hd : t0.dep ≤ 10) : out.length ≤ 1024 := by
  have h1 := goals_1024 hd
  have h2 := congrArg List.length h
  rw [List.length_append] at h2; omega
theorem flat_c (w : World) (t0 : Tr) (R : List (Addr × Obj)) (a : Nat) (ht : At R a t0) (hd10 : t0.dep ≤ 10) : Ctr w 165 [.ref a] 10 R (fun n' r => R <:+ n' ∧ ∃ l e, r = .ref l ∧ (l, refsO (goalsT t0) e) ∈ n') := by
  unfold Ctr
  k_fill
  intro mean mg mb dp un gd cn cs a' ccd cl outer A₀ base h₀ L m s Q E B F X N T' hk hdd hu hret
  refine wpAny_call ?_; k_dflt ktr_enter; k_steps
  rename News _ _ _ (_ :: _ :: _) => N1
  rename (∀ p ∈ R, p.1 < _) => l1
  have l2 := fun p hp => Nat.ne_of_lt (l1 p hp)
  rename (_ < _ ∧ _) => l3
  have l4 := fun p hp => Nat.ne_of_lt (ktn_ltOf l3.2 p hp)
  have l5 := Nat.ne_of_lt l3.1
  have l6 := Nat.ne_of_gt l3.1
  refine While_stk8 (σ := List Nat × Nat) (R := R) (z0 := ([], 0)) (fun ts z => z.1 ++ ts.flatMap goalsT = goalsT t0) (fun z => (_, refsO z.1 z.2) :: R) (by assumption) N1 ht (fun p hp => hp) (by simp) hd10 ?_ ?_ ?_ ?_ ?_ ?_ ?_ ?_ ?_
  · intro tv e z h₁ tk₁ F₁ N₁ i₁; clear N1; have hz := flat_len i₁ hd10; k_steps
    (rename News h₀ L _ (_ :: _) => kN); refine hret _ _ _ _ (by assumption) kN ⟨by walk_at "my suf", _, _, rfl, by rw [← i₁, List.flatMap_nil, List.append_nil]; exact .tail _ (.head _)⟩
  · intro a n t1 t2 r tv e z h₁ tk₁ F₁ N₁ hm hl i₁; clear N1; have hz := flat_len i₁ hd10; k_steps
    all_goals (refine turn_end [] (_, _) (by assumption) (by assumption) (fun p hp => hp) (by simp) (by decide) ?_; rw [← i₁])
    all_goals simp_all [goalsT]
  · intro a n t1 t2 r tv e z h₁ tk₁ F₁ N₁ hm hl i₁; clear N1; have hz := flat_len i₁ hd10; k_steps
    refine turn_end [] (_, _) (by assumption) (by assumption) (fun p hp => hp) (by simp) (by decide) ?_
    rw [← i₁]; simp [show goalsT (.leaf a (Str.ofString "v") n) = [a] from rfl]
  · intro a n t1 t2 r tv e z h₁ tk₁ F₁ N₁ hm hl i₁; clear N1; have hz := flat_len i₁ hd10; k_steps
    refine turn_end [] (_, _) (by assumption) (by assumption) (fun p hp => hp) (by simp) (by decide) ?_
    rw [← i₁]; simp [show goalsT (.leaf a (Str.ofString "i") n) = [a] from rfl]
  · intro a b f x t1 t2 r tv e z h₁ tk₁ F₁ N₁ hm hm2 hf hl i₁; clear N1; have hz := flat_len i₁ hd10; k_steps
    all_goals try (exfalso; omega)
    dsimp only
    refine turn_end [] (_, _) (by assumption) (by assumption) (fun p hp => hp) (by simp) (by decide) ?_
    rw [← i₁]; simp [goalsT]
  · intro a b x y t1 t2 r tv e z h₁ tk₁ F₁ N₁ hm hm2 hx hy hl i₁; clear N1; have hz := flat_len i₁ hd10; k_steps
    refine turn_end [x, y] _ (by assumption) (by assumption) (fun p hp => hp) (by simp [hx, hy]) (by simp only [tot]; omega) ?_
    rw [← i₁]; simp [goalsT]
  · intro a b x y t1 t2 r tv e z h₁ tk₁ F₁ N₁ hm hm2 hx hy hl i₁; clear N1; have hz := flat_len i₁ hd10; k_steps
    refine turn_end [] (_, _) (by assumption) (by assumption) (fun p hp => hp) (by simp) (by simp only [tot]; omega) ?_
    rw [← i₁]; simp [goalsT]
  · intro a b x y t1 t2 r tv e z h₁ tk₁ F₁ N₁ hm hm2 hx hy hl i₁; clear N1; have hz := flat_len i₁ hd10; k_steps
    refine turn_end [] (_, _) (by assumption) (by assumption) (fun p hp => hp) (by simp) (by simp only [tot]; omega) ?_
    rw [← i₁]; simp [goalsT]
  · k_steps
end

section


theorem start_W5_0 : (0 : Nat) ≤ 1 := by
  w_top off
  k_with_none
  k_with "m:callWith" => (walk_plain_pass; first | refine callWith_method1 ?_ | refine callWith_builtin1 ?_)
  k_with "m:subscriptTail Name Constant ref int" => (k_here; (with_reducible show wpAny _ _ (subscriptTail _ _ (Value.ref _) (Value.int _ _)) _ _ _); k_dflt (refine' item_tupleT (by exact News.isTup (by k_asm) (by k_mem)) (by decide) (by decide) (by rfl) (by rfl) ?_; k_whole))
  k_with "m:subscriptTail Subscript" => (k_here; (with_reducible show wpAny _ _ (subscriptTail _ _ (Value.ref _) (Value.int _ _)) _ _ _); first | k_dflt (refine' item_tupleT (by exact News.isTup (by k_asm) (by k_mem)) (by decide) (by decide) (by rfl) (by rfl) ?_; k_whole) | (exfalso; omega))
  exact Nat.zero_le 1
section
def SpEnd (s : Shared) (h₀ : Heap) (L : Addr) (m : Str → Option Value) (pt : Nat) (R : List (Addr × Obj)) (fs : List Int) (t0 : Tr) (k : Nat) (s₃ : Shared) : Prop :=
  ∃ h' tk t' out' e', s₃ = { s with heap := h', toks := tk } ∧ Fr h₀ L h' (bindM m (Str.ofString "term") (some (.ref t'.adr))) ∧ News h₀ L h' ((pt, refsO out' e') :: R) ∧ TreeIn R t' ∧ t'.siz < k ∧ out' ++ spineT fs t' = spineT fs t0
theorem sp_end {s : Shared} {h₀ : Heap} {L : Addr} {m : Str → Option Value} {pt : Nat} {R : List (Addr × Obj)} {fs : List Int} {t0 : Tr} {k : Nat} {h' : Heap} {tk : Nat} {out' : List Nat} {e' : Nat} {v : Option Value} (t' : Tr)
    (F : Fr h₀ L h' (fun y => if y = Str.ofString "term" then some (.ref t'.adr) else bindM m (Str.ofString "term") v y)) (N : News h₀ L h' ((pt, refsO out' e') :: R)) (hT : TreeIn R t') (hk : t'.siz < k) (hi : out' ++ spineT fs t' = spineT fs t0) :
    SpEnd s h₀ L m pt R fs t0 k { s with heap := h', toks := tk } := by
  refine ⟨h', tk, t', out', e', rfl, ?_, N, hT, hk, hi⟩
  have : (fun y => if y = Str.ofString "term" then some (.ref t'.adr) else bindM m (Str.ofString "term") v y) = bindM m (Str.ofString "term") (some (.ref t'.adr)) := by
    funext y; simp only [bindM]; split <;> rfl
  rw [← this]; exact F
variable {prog : Program} {w : World} {A : Around} {E : Value → Shared → Prop} {Q : Flow → Shared → Prop} {s : Shared} {env : Env} {h₀ : Heap} {L : Addr}
abbrev SpTurn (prog : Program) (w : World) (A : Around) (E : Value → Shared → Prop) (Q : Flow → Shared → Prop) (s : Shared) (env : Env) (test : Expr) (body : List Stmt) (h₀ : Heap) (L : Addr) (m : Str → Option Value) (pt : Nat) (R : List (Addr × Obj)) (fs : List Int) (t0 : Tr) (k : Nat) (h₁ : Heap) (tk₁ : Nat) : Prop :=
  wpAny (model prog w) A (isTrue test env (eval test env)) (fun b s₂ =>
    if b = true then wpAny (model prog w) A (execs body env) (fun f s₃ => match f with
      | .next | .cont => SpEnd s h₀ L m pt R fs t0 k s₃
      | .brk => Q .next s₃
      | .ret v => Q (.ret v) s₃) E s₂ else Q .next s₂) E { s with heap := h₁, toks := tk₁ }
def spJ (m : Str → Option Value) (pt : Nat) (R : List (Addr × Obj)) (fs : List Int) (t0 : Tr) (n : Nat) (m₁ : Str → Option Value) (news₁ : List (Addr × Obj)) : Prop :=
  ∃ t' out' e', m₁ = bindM m (Str.ofString "term") (some (.ref t'.adr)) ∧ news₁ = (pt, refsO out' e') :: R ∧ TreeIn R t' ∧ t'.siz = n ∧ out' ++ spineT fs t' = spineT fs t0
theorem While_sp {test : Expr} {body : List Stmt} {pos : Pos} {m : Str → Option Value} {R : List (Addr × Obj)} {pt a0 : Nat} {t0 : Tr} {fs : List Int}
    (F : Fr h₀ L s.heap m) (N : News h₀ L s.heap ((pt, refsO [] 0) :: R)) (hT : At R a0 t0) (hm : m (Str.ofString "term") = some (.ref a0))
    (lA : ∀ (a : Nat) (n : Int) (t1 t2 : Tok) (out : List Nat) (e : Nat) (h₁ : Heap) (tk₁ : Nat), Fr h₀ L h₁ (bindM m (Str.ofString "term") (some (.ref a))) → News h₀ L h₁ ((pt, refsO out e) :: R) → (a, tupO [.str (Str.ofString "a") t1, .int n t2]) ∈ R → out ++ spineT fs (.leaf a (Str.ofString "a") n) = spineT fs t0 → SpTurn prog w A E Q s env test body h₀ L m pt R fs t0 1 h₁ tk₁)
    (lV : ∀ (a : Nat) (n : Int) (t1 t2 : Tok) (out : List Nat) (e : Nat) (h₁ : Heap) (tk₁ : Nat), Fr h₀ L h₁ (bindM m (Str.ofString "term") (some (.ref a))) → News h₀ L h₁ ((pt, refsO out e) :: R) → (a, tupO [.str (Str.ofString "v") t1, .int n t2]) ∈ R → out ++ spineT fs (.leaf a (Str.ofString "v") n) = spineT fs t0 → SpTurn prog w A E Q s env test body h₀ L m pt R fs t0 1 h₁ tk₁)
    (lI : ∀ (a : Nat) (n : Int) (t1 t2 : Tok) (out : List Nat) (e : Nat) (h₁ : Heap) (tk₁ : Nat), Fr h₀ L h₁ (bindM m (Str.ofString "term") (some (.ref a))) → News h₀ L h₁ ((pt, refsO out e) :: R) → (a, tupO [.str (Str.ofString "i") t1, .int n t2]) ∈ R → out ++ spineT fs (.leaf a (Str.ofString "i") n) = spineT fs t0 → SpTurn prog w A E Q s env test body h₀ L m pt R fs t0 1 h₁ tk₁)
    (on : ∀ (a b : Nat) (f : Int) (x : Tr) (t1 t2 : Tok) (out : List Nat) (e : Nat) (h₁ : Heap) (tk₁ : Nat), Fr h₀ L h₁ (bindM m (Str.ofString "term") (some (.ref a))) → News h₀ L h₁ ((pt, refsO out e) :: R) → (a, tupO [.str (Str.ofString "s") t1, .int f t2, .ref b]) ∈ R → (b, tupO [.ref x.adr]) ∈ R → 4 ≤ f → out ++ spineT fs (.one a b f x) = spineT fs t0 → SpTurn prog w A E Q s env test body h₀ L m pt R fs t0 1 h₁ tk₁)
    (tw0 : ∀ (a b : Nat) (f : Int) (x y : Tr) (t1 t2 : Tok) (out : List Nat) (e : Nat) (h₁ : Heap) (tk₁ : Nat), Fr h₀ L h₁ (bindM m (Str.ofString "term") (some (.ref a))) → News h₀ L h₁ ((pt, refsO out e) :: R) → (a, tupO [.str (Str.ofString "s") t1, .int f t2, .ref b]) ∈ R → (b, tupO [.ref x.adr, .ref y.adr]) ∈ R → TreeIn R x → TreeIn R y → fs.any (fun y => y == f) = false → out ++ spineT fs (.two a b f x y) = spineT fs t0 → SpTurn prog w A E Q s env test body h₀ L m pt R fs t0 (x.siz + y.siz + 1) h₁ tk₁)
    (tw1 : ∀ (a b : Nat) (f : Int) (x y : Tr) (t1 t2 : Tok) (out : List Nat) (e : Nat) (h₁ : Heap) (tk₁ : Nat), Fr h₀ L h₁ (bindM m (Str.ofString "term") (some (.ref a))) → News h₀ L h₁ ((pt, refsO out e) :: R) → (a, tupO [.str (Str.ofString "s") t1, .int f t2, .ref b]) ∈ R → (b, tupO [.ref x.adr, .ref y.adr]) ∈ R → TreeIn R x → TreeIn R y → fs.any (fun y => y == f) = true → out ++ spineT fs (.two a b f x y) = spineT fs t0 → SpTurn prog w A E Q s env test body h₀ L m pt R fs t0 (x.siz + y.siz + 1) h₁ tk₁)
    (hE : PassesOwn (model prog w) A env E := by passes_own) :
    wpAny (model prog w) A (exec (.While test body [] pos) env) Q E s := by
  obtain ⟨hT, rfl⟩ := hT
  refine While_inv2 (spJ m pt R fs t0) (n₀ := t0.siz) F N ⟨t0, [], 0, by rw [← hm]; exact bindM_start m _, rfl, hT, rfl, rfl⟩ ?_ hE
  rintro n m₁ news₁ h₁ tk₁ F₁ N₁ ⟨t', out', e', rfl, rfl, hT₁, hn₁, i₁⟩
  have key : ∀ k, k = t'.siz → SpTurn prog w A E Q s env test body h₀ L m pt R fs t0 k h₁ tk₁ → wpAny (model prog w) A (isTrue test env (eval test env)) (fun b s₂ =>
        if b = true then wpAny (model prog w) A (execs body env) (WhileStep2 h₀ L s (spJ m pt R fs t0) Q n) E s₂ else Q .next s₂) E { s with heap := h₁, toks := tk₁ } := by
    intro k hk hw
    refine wpAny_mono hw (fun b s₂ h₂ => ?_) (fun _ _ h => h)
    cases b with
    | false => simpa using h₂
    | true =>
      simp only [if_true] at h₂ ⊢
      refine wpAny_mono h₂ (fun f s₃ h₃ => ?_) (fun _ _ h => h)
      have key : SpEnd s h₀ L m pt R fs t0 k s₃ → WhileStep2 h₀ L s (spJ m pt R fs t0) Q n .next s₃ := by
        rintro ⟨h', tk, t2, o2, e2, rfl, F₃, N₃, hT₃, hlt, i₃⟩
        exact ⟨h', tk, _, _, t2.siz, rfl, F₃, N₃, by omega, t2, o2, e2, rfl, rfl, hT₃, rfl, i₃⟩
      cases f with
      | next => exact key h₃
      | cont => exact key h₃
      | brk => exact h₃
      | ret v => exact h₃
  cases hT₁ with
  | leaf hm hk =>
    refine key 1 rfl ?_
    rcases hk with rfl | rfl | rfl
    · exact lA _ _ _ _ out' e' h₁ tk₁ F₁ N₁ hm i₁
    · exact lV _ _ _ _ out' e' h₁ tk₁ F₁ N₁ hm i₁
    · exact lI _ _ _ _ out' e' h₁ tk₁ F₁ N₁ hm i₁
  | one h1 h2 hf hx => exact key 1 rfl (on _ _ _ _ _ _ out' e' h₁ tk₁ F₁ N₁ h1 h2 hf i₁)
  | @two _ _ f _ _ _ _ h1 h2 hf hx hy =>
    refine key _ rfl ?_
    cases hb : fs.any (fun y => y == f) with
    | false => exact tw0 _ _ _ _ _ _ _ out' e' h₁ tk₁ F₁ N₁ h1 h2 hx hy hb i₁
    | true => exact tw1 _ _ _ _ _ _ _ out' e' h₁ tk₁ F₁ N₁ h1 h2 hx hy hb i₁
end
theorem sp_len {out : List Nat} {fs : List Int} {t t0 : Tr} (h : out ++ spineT fs t = spineT fs t0) (hd : t0.dep ≤ 10) : out.length ≤ 1024 := by
  have h1 := spine_len fs t0
  have h2 := congrArg List.length h
  rw [List.length_append] at h2; omega

theorem start_W5_1 : (0 : Nat) ≤ 1 := by
  w_top off
  k_with "m:ktr_room" => (first | exact Nat.le_of_ble_eq_true rfl | exact rm0 (by assumption) | exact rm1 (by assumption) (by first | exact Nat.le_of_ble_eq_true rfl | exact Nat.le_add_right_of_le (Nat.le_of_ble_eq_true rfl) | exact dpl1 (by assumption) | exact dpl2 (by assumption) | omega) | exact rm2 (by assumption) (by first | exact Nat.le_of_ble_eq_true rfl | exact Nat.le_add_right_of_le (Nat.le_of_ble_eq_true rfl) | exact dpl1 (by assumption) | exact dpl2 (by assumption) | omega) | exact rm3 (by assumption) (by first | exact Nat.le_of_ble_eq_true rfl | exact Nat.le_add_right_of_le (Nat.le_of_ble_eq_true rfl) | exact dpl1 (by assumption) | exact dpl2 (by assumption) | omega) | exact lwr (by assumption) | omega | ((try simp only [depth_under_make, depth_under_kw, depth_in1, depth_deeper, depth_caller] at *); (try dsimp only [ktrTop] at *); omega))
  k_with "m:ktr_units" => (first | exact Nat.le_of_ble_eq_true rfl | exact un1 (by assumption) (by first | exact Nat.le_of_ble_eq_true rfl | exact Nat.le_add_right_of_le (Nat.le_of_ble_eq_true rfl) | exact dpl1 (by assumption) | exact dpl2 (by assumption) | omega) | exact un2 (by assumption) (by first | exact Nat.le_of_ble_eq_true rfl | exact Nat.le_add_right_of_le (Nat.le_of_ble_eq_true rfl) | exact dpl1 (by assumption) | exact dpl2 (by assumption) | omega) | exact un3 (by assumption) (by first | exact Nat.le_of_ble_eq_true rfl | exact Nat.le_add_right_of_le (Nat.le_of_ble_eq_true rfl) | exact dpl1 (by assumption) | exact dpl2 (by assumption) | omega) | exact lwu (by assumption) | omega | ((try simp only [units_in1, units_deeper, Around.mark_units, units_caller] at *); (try dsimp only [ktrTop] at *); omega))
  k_with "m:k_mem" => first | assumption | exact List.Mem.head _ | (refine' List.Mem.tail _ ?_; k_mem)
  k_with "m:k_all" => assumption
  k_with "m:truthy ref" => (k_here; k_dflt (first | (refine' truth_r1 (by k_asm) (by exact List.Mem.head _) (by rw [stk_len]; assumption) ?_) | (refine' truth_r0 (by k_asm) (by exact List.Mem.head _) ?_); k_whole))
  k_with "m:call builtin:list.pop" => (k_here; k_dflt (refine' pop_r (by k_asm) (by k_asm) (by k_upd) (by rw [stk_len]; assumption) ?_); intro h' F' N'; (try k_sweep))
  k_with "m:call builtin:list.append" => (k_here; k_dflt (refine' push_r (by k_asm) (by k_asm) (by k_upd) (by first | omega | (simp only [List.length_append, List.length_singleton, stk_len]; omega)) ?_); intro h' F' N'; (try k_sweep))
  k_with "m:exec" => (k_here; (with_reducible show wpAny _ _ (exec (Stmt.While _ _ [] _) _) _ _ _); refine stop_ ?_)
  k_with "m:exec While" => (k_here; refine stop_ ?_)
  k_with "m:compareOp In int ref" => (k_here; k_dflt (refine' in_seqf (by k_asm) (by (refine' seq_u3 (by k_mem))) (by first | rfl | exact any_lo3 (by assumption)) ?_; k_whole))
  k_with "m:compareOp In int ref" => (k_here; k_dflt (refine' in_seqt (by k_asm) (by (refine' seq_u3 (by k_mem))) (by rfl) ?_; k_whole))
  k_with "my suf" => (repeat (first | exact List.suffix_rfl | refine List.IsSuffix.trans ?_ (List.suffix_append _ _) | refine List.IsSuffix.trans ?_ (List.suffix_cons _ _)))
  k_with "m:compareOp In int ref" => (k_here; k_dflt (refine' in_seqf (by k_asm) (by walk_at "my seq") (by first | assumption | exact any_lo (by assumption) (by assumption)) ?_; k_whole))
  k_with "m:compareOp In int ref" => (k_here; k_dflt (refine' in_seqt (by k_asm) (by walk_at "my seq") (by assumption) ?_; k_whole))
  k_with "my seq" => (refine SeqInts.mono (by assumption) ?_; intro p9 h9; simp only [List.mem_cons, List.mem_append, h9, or_true, true_or])
  exact Nat.zero_le 1
theorem rsp_c (w : World) (t0 : Tr) (R : List (Addr × Obj)) (a fa : Nat) (fs : List Int) (hfs : ∀ y ∈ fs, y < 4) (ht : At R a t0) (hsq : SeqInts R fa fs) (hd10 : t0.dep ≤ 10) : Ctr w 235 [.ref a, .ref fa] 10 R (fun n' r => R <:+ n' ∧ ∃ l e, r = .ref l ∧ (l, refsO (spineT fs t0) e) ∈ n') := by
  unfold Ctr
  k_fill
  intro mean mg mb dp un gd cn cs a' ccd cl outer A₀ base h₀ L m s Q E B F X N T' hk hdd hu hret
  refine wpAny_call ?_; k_dflt ktr_enter; k_steps
  rename News _ _ _ (_ :: _) => N1
  rename (∀ p ∈ R, p.1 < _) => l1
  have l2 := fun p hp => Nat.ne_of_lt (l1 p hp)
  refine While_sp (fs := fs) (t0 := t0) (by assumption) N1 ht rfl ?_ ?_ ?_ ?_ ?_ ?_ ?_
  · intro a n t1 t2 out e h₁ tk₁ F₁ N₁ hm i₁; clear N1; have hz := sp_len i₁ hd10; k_steps
    (rename News h₀ L _ (_ :: _) => kN); refine hret _ _ _ _ (by assumption) kN ⟨by walk_at "my suf", _, _, rfl, by rw [← i₁]; exact .head _⟩
  · intro a n t1 t2 out e h₁ tk₁ F₁ N₁ hm i₁; clear N1; have hz := sp_len i₁ hd10; k_steps
    (rename News h₀ L _ (_ :: _) => kN); refine hret _ _ _ _ (by assumption) kN ⟨by walk_at "my suf", _, _, rfl, by rw [← i₁]; exact .head _⟩
  · intro a n t1 t2 out e h₁ tk₁ F₁ N₁ hm i₁; clear N1; have hz := sp_len i₁ hd10; k_steps
    (rename News h₀ L _ (_ :: _) => kN); refine hret _ _ _ _ (by assumption) kN ⟨by walk_at "my suf", _, _, rfl, by rw [← i₁]; exact .head _⟩
  · intro a b f x t1 t2 out e h₁ tk₁ F₁ N₁ hm hm2 hf i₁; clear N1; have hz := sp_len i₁ hd10; k_steps
    (rename News h₀ L _ (_ :: _) => kN); refine hret _ _ _ _ (by assumption) kN ⟨by walk_at "my suf", _, _, rfl, by rw [← i₁]; exact .head _⟩
  · intro a b f x y t1 t2 out e h₁ tk₁ F₁ N₁ hm hm2 hx hy hb i₁; clear N1; have hz := sp_len i₁ hd10; k_steps
    (rename News h₀ L _ (_ :: _) => kN); refine hret _ _ _ _ (by assumption) kN ⟨by walk_at "my suf", _, _, rfl, by rw [← i₁, spineT, hb]; exact .head _⟩
  · intro a b f x y t1 t2 out e h₁ tk₁ F₁ N₁ hm hm2 hx hy hb i₁; clear N1; have hz := sp_len i₁ hd10; k_steps
    refine sp_end y (by assumption) (by assumption) hy (by omega) ?_
    rw [← i₁]; simp [spineT, hb]
  · k_steps
end

section
theorem start_I1_0 : (0 : Nat) ≤ 1 := by
  w_top off
  k_with_none
  exact Nat.zero_le 1
section
variable {prog : Program} {w : World} {A : Around} {E : Value → Shared → Prop} {Q : Flow → Shared → Prop} {s : Shared} {env : Env} {h₀ : Heap}
def IterEnd (s : Shared) (h₀ : Heap) (L : Addr) (J : Nat → (Str → Option Value) → List (Addr × Obj) → Prop) (I : Nat) (oI : Obj) (i : Nat) (s₃ : Shared) : Prop :=
  ∃ h' tk m₂ news₂, s₃ = { s with heap := h', toks := tk } ∧ Fr h₀ L h' m₂ ∧ News h₀ L h' ((I, oI) :: news₂) ∧ (∀ p ∈ news₂, p.1 ≠ I) ∧ J (i + 1) m₂ news₂
theorem iter_tup {x : Str} {body : List Stmt} {m : Str → Option Value} {news : List (Addr × Obj)} {D : Nat} {vs : List Value} (J : Nat → (Str → Option Value) → List (Addr × Obj) → Prop)
    (F : Fr h₀ env.locals s.heap m) (N : News h₀ env.locals s.heap news) (hD : (D, tupO vs) ∈ news) (hh : A.handled = none) (J0 : J 0 m news) (JD : ∀ i m₁ n₁, J i m₁ n₁ → (D, tupO vs) ∈ n₁)
    (step : ∀ i v m₁ news₁ h tk I oI, vs[i]? = some v → J i m₁ news₁ → (∀ p ∈ news₁, p.1 ≠ I) → Fr h₀ env.locals h (fun y => if y = x then some v else m₁ y) → News h₀ env.locals h ((I, oI) :: news₁) →
      wpAny (model prog w) A (execs body env) (fun f s₃ => match f with
        | .next | .cont => IterEnd s h₀ env.locals J I oI i s₃
        | .brk => Q .next s₃
        | .ret v => Q (.ret v) s₃) E { s with heap := h, toks := tk })
    (fin : ∀ h' tk m' news', Fr h₀ env.locals h' m' → News h₀ env.locals h' news' → J vs.length m' news' → Q .next { s with heap := h', toks := tk }) :
    wpAny (model prog w) A (pyIter (.ref D)) (fun it s₂ => LoopAtV prog w A h₀ env x body Q E it s₂) E s := by
  have hT := tup_at N hD
  have hlt : D < s.heap.objs.size := Heap.lt_size (N _ hD).1
  have hL : env.locals < s.heap.objs.size := F.ns.lt
  have hne : D ≠ s.heap.objs.size := Nat.ne_of_lt hlt
  have hnI : ∀ o, h₀.get? s.heap.objs.size = some o → False := fun o e => by
    exact Nat.lt_irrefl _ (Heap.lt_size (F.keep _ _ e))
  have hI0 : h₀.get? s.heap.objs.size = none := by
    cases e : h₀.get? s.heap.objs.size with
    | none => rfl
    | some o => exact (hnI o e).elim
  refine wpAny_pyIter_tuple hT ?_
  have push : ∀ b o, s.heap.get? b = some o → (s.heap.push { cls := .type "tuple_iterator", data := .fields #[.ref D, .int 0 0] }).get? b = some o := fun b o e => by
    rw [Heap.get?_push_ne _ _ _ (Nat.ne_of_lt (Heap.lt_size e))]; exact e
  refine ⟨s.heap.objs.size, [s.heap.objs.size, D], [s.heap.objs.size], vs.length, _, _, m, news, J, rfl, by simpa using Walks.tuple (prog := prog) (w := w) (A := A) hh s.heap.objs.size D hne vs.toArray, ?_, ?_, ?_, ?_, ?_, ?_, J0, ?_, ?_⟩
  · intro h
    simp only [List.mem_cons, List.not_mem_nil, or_false] at h
    rcases h with h | h
    · exact Nat.ne_of_lt hL h
    · exact (N _ hD).2.1 h.symm
  · intro b hb
    simp only [List.mem_cons, List.not_mem_nil, or_false] at hb
    rw [hb]; exact hI0
  · intro p hp hb
    simp only [List.mem_cons, List.not_mem_nil, or_false] at hb
    exact Nat.ne_of_lt (Heap.lt_size (N p hp).1) hb
  · exact ⟨⟨_, Heap.get?_push_size _ rfl, rfl, rfl⟩, hT.push _⟩
  · exact ⟨F.ns.at' fun o e => push _ o e, fun b o e => push b o (F.keep b o e), F.above⟩
  · exact fun p hp => ⟨push _ _ (N p hp).1, (N p hp).2⟩
  · rintro i v m₁ news₁ s₁ own ⟨h, tk, rfl⟩ hi hv hJ hn ho ho2 hown hst F₁ N₁
    obtain ⟨⟨oI, hoI, _, _⟩, _⟩ := hst
    have mI : (s.heap.objs.size, oI) ∈ own := hown _ (.head _) hI0 _ hoI
    have hD₁ := JD _ _ _ hJ
    refine wpAny_mono (step i v m₁ news₁ h tk s.heap.objs.size oI (by simpa using hv) hJ (fun p hp e => hn p hp (by rw [e]; exact .head _)) F₁ (news_sub N₁ fun p hp => ?_)) (fun f s₃ h₃ => ?_) (fun _ _ h => h)
    · rcases List.mem_cons.mp hp with rfl | hp
      · exact List.mem_append_left _ mI
      · exact List.mem_append_right _ hp
    · have key : IterEnd s h₀ env.locals J s.heap.objs.size oI i s₃ → LoopStepU h₀ env.locals [s.heap.objs.size] own (J (i + 1)) { s with heap := h, toks := tk } .next s₃ := by
        rintro ⟨h', tk', m₂, news₂, rfl, F₂, N₂, hne₂, hJ₂⟩
        refine ⟨rfl, h', tk', m₂, news₂, rfl, F₂, ?_, fun p hp hb => ?_, hJ₂⟩
        · refine News.append (fun p hp => ?_) (fun q hq => N₂ q (.tail _ hq))
          have h1 := ho p hp
          have h2 := ho2 p hp
          simp only [List.mem_cons, List.not_mem_nil, or_false] at h1
          obtain ⟨pa, po⟩ := p
          dsimp only at h1 h2
          rcases h1 with rfl | rfl
          · rw [hoI] at h2; cases h2; exact N₂ _ (.head _)
          · have h3 : h.get? pa = some (tupO vs) := (N₁ _ (List.mem_append_right _ hD₁)).1
            rw [h3] at h2; cases h2; exact N₂ _ (.tail _ (JD _ _ _ hJ₂))
        · simp only [List.mem_cons, List.not_mem_nil, or_false] at hb
          exact hne₂ p hp hb
      cases f with
      | next => exact .next (key h₃)
      | cont => exact .cont (key h₃)
      | brk => exact h₃
      | ret v => exact h₃
  · intro h' tk m' news' F' N' _ hJ
    exact fin h' tk m' news' F' N' hJ
end
end

section

theorem start_I2_0 : (0 : Nat) ≤ 1 := by
  w_top off
  k_with_none
  k_with "m:ktr_room" => (first | exact Nat.le_of_ble_eq_true rfl | exact rm0 (by assumption) | exact rm1 (by assumption) (by first | exact Nat.le_of_ble_eq_true rfl | exact Nat.le_add_right_of_le (Nat.le_of_ble_eq_true rfl) | exact dpl1 (by assumption) | exact dpl2 (by assumption) | omega) | exact rm2 (by assumption) (by first | exact Nat.le_of_ble_eq_true rfl | exact Nat.le_add_right_of_le (Nat.le_of_ble_eq_true rfl) | exact dpl1 (by assumption) | exact dpl2 (by assumption) | omega) | exact rm3 (by assumption) (by first | exact Nat.le_of_ble_eq_true rfl | exact Nat.le_add_right_of_le (Nat.le_of_ble_eq_true rfl) | exact dpl1 (by assumption) | exact dpl2 (by assumption) | omega) | exact lwr (by assumption) | omega | ((try simp only [depth_under_make, depth_under_kw, depth_in1, depth_deeper, depth_caller] at *); (try dsimp only [ktrTop] at *); omega))
  k_with "m:ktr_units" => (first | exact Nat.le_of_ble_eq_true rfl | exact un1 (by assumption) (by first | exact Nat.le_of_ble_eq_true rfl | exact Nat.le_add_right_of_le (Nat.le_of_ble_eq_true rfl) | exact dpl1 (by assumption) | exact dpl2 (by assumption) | omega) | exact un2 (by assumption) (by first | exact Nat.le_of_ble_eq_true rfl | exact Nat.le_add_right_of_le (Nat.le_of_ble_eq_true rfl) | exact dpl1 (by assumption) | exact dpl2 (by assumption) | omega) | exact un3 (by assumption) (by first | exact Nat.le_of_ble_eq_true rfl | exact Nat.le_add_right_of_le (Nat.le_of_ble_eq_true rfl) | exact dpl1 (by assumption) | exact dpl2 (by assumption) | omega) | exact lwu (by assumption) | omega | ((try simp only [units_in1, units_deeper, Around.mark_units, units_caller] at *); (try dsimp only [ktrTop] at *); omega))
  k_with "m:k_mem" => first | assumption | exact List.Mem.head _ | (refine' List.Mem.tail _ ?_; k_mem)
  k_with "m:k_all" => assumption
  exact Nat.zero_le 1
def fixA : List Str := ["[]", ".", "{}", "-", "+", "*", "/", ",", "|", ";", "->", "\\+", ":-", "?-", "-->", "!", "true", "fail", "false", "call", "=", "^", "error", "", "end_of_file", "system", "$VAR", "catch", "throw"].map Str.ofString
def fixR : List (Str × Int) := [(".", 2), (",", 2), (";", 2), ("->", 2), ("\\+", 1), (":-", 2), (":-", 1), ("?-", 1), ("-->", 2), ("{}", 1), ("=", 2), ("^", 2), ("-", 1), ("-", 2), ("+", 2), ("/", 2), ("error", 2), ("$VAR", 1), ("catch", 3), ("throw", 1), ("!", 0), ("true", 0), ("fail", 0), ("false", 0), ("call", 1), ("call", 2), ("call", 3), ("call", 4), ("call", 5), ("call", 6), ("call", 7), ("call", 8)].map (fun p : String × Int => (Str.ofString p.1, p.2))
theorem fixA_is : fixA.length = 29 := rfl
theorem fixR_is : fixR.length = 32 := rfl
theorem fatoms_c (w : World) (R0 : List (Addr × Obj)) : Ctr w 60 [] 3 R0 (fun n' r => ∃ D vs, n' = (D, tupO vs) :: R0 ∧ StrsAre vs fixA ∧ (∀ p ∈ R0, p.1 < D) ∧ r = .ref D) := by
  unfold Ctr
  k_fill
  intro mean mg mb dp un gd cn cs a' ccd cl outer A₀ base h₀ L m s Q E B F X N T' hk hdd hu hret
  refine wpAny_call ?_; k_dflt ktr_enter; k_steps
  (rename News h₀ L _ (_ :: _) => kN)
  refine hret _ _ _ _ (by assumption) kN ⟨_, _, rfl, ?_, by assumption, rfl⟩
  delta fixA
  simp only [List.map_cons, List.map_nil]
  repeat (first | exact .nil | refine .cons _ _ ?_)
inductive RowsAre (N : List (Addr × Obj)) : List Value → List (Str × Int) → Prop
  | nil : RowsAre N [] []
  | cons {d : Nat} {t : Str} {k : Int} {t1 t2 : Tok} {vs : List Value} {r : List (Str × Int)} : (d, tupO [.str t t1, .int k t2]) ∈ N → RowsAre N vs r → RowsAre N (.ref d :: vs) ((t, k) :: r)
theorem RowsAre.mono {N N' : List (Addr × Obj)} {vs : List Value} {r : List (Str × Int)} (h : RowsAre N vs r) (s : ∀ p ∈ N, p ∈ N') : RowsAre N' vs r := by
  induction h with
  | nil => exact .nil
  | cons hm _ ih => exact .cons (s _ hm) ih
theorem RowsAre.len {N : List (Addr × Obj)} {vs : List Value} {r : List (Str × Int)} (h : RowsAre N vs r) : vs.length = r.length := by
  induction h with
  | nil => rfl
  | cons _ _ ih => simp [ih]
/-- written pairs of a text and an int -/
inductive RowE : List Expr → List (Str × Int) → Prop
  | nil : RowE [] []
  | cons {t : Str} {i : Int} {k k1 k2 : Nat} {p p1 p2 : Pos} {es : List Expr} {r : List (Str × Int)} : RowE es r → RowE (.Tuple [.Constant (.str t) k1 p1, .Constant (.int i) k2 p2] k p :: es) ((t, i) :: r)
theorem rows_eval {prog : Program} {w : World} {A : Around} {E : Value → Shared → Prop} {env : Env} {pos : Pos} {h₀ : Heap} {L : Addr} {m : Str → Option Value} {R0 : List (Addr × Obj)} {es : List Expr} {r : List (Str × Int)} (hr : RowE es r) :
    ∀ {N1 : List (Addr × Obj)} {s : Shared} {Q : List Value → Shared → Prop}, Fr h₀ L s.heap m → News h₀ L s.heap (N1 ++ R0) → (∀ p ∈ N1, ∀ q ∈ R0, q.1 < p.1) →
    (∀ h' N2 vs tk, Fr h₀ L h' m → News h₀ L h' (N2 ++ R0) → RowsAre N2 vs r → (∀ p ∈ N1, p ∈ N2) → (∀ p ∈ N2, ∀ q ∈ R0, q.1 < p.1) → Q vs { s with heap := h', toks := tk }) →
    wpAny (model prog w) A (spliced (backTo pos (starEach es env))) Q E s := by
  induction hr with
  | nil => intro N1 s Q F N hl k; exact args_nil (k _ _ _ _ F N .nil (fun p hp => hp) hl)
  | cons _ ih =>
    intro N1 s Q F N hl k
    refine args_cons (Tuple_ (args_cons (Calls.Constant_str (args_cons (wpAny_Constant_int (args_nil ?_)) rfl)) rfl)) rfl
    refine kup_newTuple (s := { s with toks := s.toks + 1 + 1 }) F N (fun D h' F' N' l => ?_) (Nat.le_of_ble_eq_true rfl)
    refine ih (N1 := (D, _) :: N1) F' N' (fun p hp q hq => ?_) (fun h2 N2 vs tk F2 N2' hR hs hl2 => ?_)
    · rcases List.mem_cons.mp hp with rfl | hp
      · exact l _ (List.mem_append_right _ hq)
      · exact hl p hp q hq
    · exact k h2 N2 _ tk F2 N2' (.cons (hs _ (.head _)) hR) (fun p hp => hs p (.tail _ hp)) hl2


theorem start_I2_1 : (0 : Nat) ≤ 1 := by
  w_top off
  k_with "m:spliced" => (k_here; refine stop_ ?_)
  exact Nat.zero_le 1
theorem stopE_1 {P : Prop} (h : P) : Stop P := h
theorem ffuns_c (w : World) (R0 : List (Addr × Obj)) : Ctr w 67 [] 3 R0 (fun n' r => ∃ N1, n' = N1 ++ R0 ∧ ∃ D vs, (D, tupO vs) ∈ N1 ∧ RowsAre N1 vs fixR ∧ (∀ p ∈ N1, ∀ q ∈ R0, q.1 < p.1) ∧ r = .ref D) := by
  unfold Ctr
  k_fill
  intro mean mg mb dp un gd cn cs a' ccd cl outer A₀ base h₀ L m s Q E B F X N T' hk hdd hu hret
  refine wpAny_call ?_; k_dflt ktr_enter; k_steps
  refine stopE_1 ?_
  (rename Fr _ _ _ (fun _ => _) => kF)
  (rename News _ _ _ R0 => kN)
  refine' rows_eval (r := fixR) ?hr (N1 := []) ?hF ?hN ?hl ?hk
  (case hF => exact kF)
  (case hN => exact kN)
  (case hl => exact fun p hp => nomatch hp)
  · delta fixR
    simp only [List.map_cons, List.map_nil]
    repeat (first | exact .nil | refine .cons ?_)
  · intro h' N2 vs tk F2 N2' hR _ hl
    refine kup_newTuple (s := { s with heap := h', toks := tk }) F2 N2' (fun D h2 F3 N3 l3 => ?_) (by rw [hR.len]; decide)
    clear kF kN
    k_steps
    refine hret _ _ _ _ (by assumption) (by assumption) ⟨(D, _) :: N2, rfl, D, vs, .head _, hR.mono fun p hp => .tail _ hp, fun p hp q hq => ?_, rfl⟩
    rcases List.mem_cons.mp hp with rfl | hp
    · exact l3 _ (List.mem_append_right _ hq)
    · exact hl p hp q hq
end

section
theorem start_I3_0 : (0 : Nat) ≤ 1 := by
  w_top off
  k_with_none
  exact Nat.zero_le 1
structure InitOk (w : World) (a : SymAd) (S : SymSt) (T : List Str) (F : List (Int × Int)) (K R R0 : List (Addr × Obj)) : Prop where
  sym : SymOk w a S T F K
  sub : ∀ p ∈ K, p ∈ R
  hi : ∀ p ∈ R, a.gx < p.1
  lo0 : ∀ p ∈ R0, p.1 < a.dx
section
variable {w : World} {a : SymAd} {S : SymSt} {T : List Str} {F : List (Int × Int)} {K R R0 : List (Addr × Obj)} {h₀ h : Heap} {L : Addr}
theorem InitOk.off (ok : InitOk w a S T F K R R0) : Off a (R ++ R0) := by
  have o1 := ok.sym.off ok.hi
  obtain ⟨⟨_, _, _, _, _, c1, c2, c3, c4, c5, _⟩, _, _, l0⟩ := ok
  have key : ∀ b : Nat, a.dx ≤ b → (∀ p ∈ R, p.1 ≠ b) → ∀ p ∈ R ++ R0, p.1 ≠ b := by
    intro b hb h1 p hp
    rcases List.mem_append.mp hp with hp | hp
    · exact h1 p hp
    · exact Nat.ne_of_lt (Nat.lt_of_lt_of_le (l0 p hp) hb)
  exact ⟨key _ (by omega) o1.1, key _ (by omega) o1.2, key _ (by omega) o1.3, key _ (by omega) o1.4, key _ (by omega) o1.5, key _ (by omega) o1.6⟩
theorem led_in {I : Nat} {oI : Obj} {X : List (Addr × Obj)} (N : News h₀ L h ((I, oI) :: SymL w a S X)) (hne : ∀ p ∈ SymL w a S X, p.1 ≠ I) (off : Off a X) : News h₀ L h (SymL w a S ((I, oI) :: X)) ∧ Off a ((I, oI) :: X) := by
  refine ⟨news_sub N fun z hz => by simp only [List.mem_cons] at hz ⊢; grind, off.cons ?_ ?_ ?_ ?_ ?_ ?_⟩
  · exact (hne _ (.tail _ (.head _))).symm
  · exact (hne _ (.head _)).symm
  · exact (hne _ (.tail _ (.tail _ (.head _)))).symm
  · exact (hne _ (.tail _ (.tail _ (.tail _ (.head _))))).symm
  · exact (hne _ (.tail _ (.tail _ (.tail _ (.tail _ (.head _)))))).symm
  · exact (hne _ (.tail _ (.tail _ (.tail _ (.tail _ (.tail _ (.head _))))))).symm
theorem led_out {I : Nat} {oI : Obj} {X : List (Addr × Obj)} (N : News h₀ L h (SymL w a S ((I, oI) :: X))) (off : Off a ((I, oI) :: X)) (hX : ∀ p ∈ X, p.1 ≠ I) : News h₀ L h ((I, oI) :: SymL w a S X) ∧ ∀ p ∈ SymL w a S X, p.1 ≠ I := by
  refine ⟨news_sub N fun z hz => by simp only [List.mem_cons] at hz ⊢; grind, fun p hp => ?_⟩
  simp only [List.mem_cons] at hp
  rcases hp with rfl | rfl | rfl | rfl | rfl | rfl | hp
  · exact (off.2 _ (.head _)).symm
  · exact (off.1 _ (.head _)).symm
  · exact (off.3 _ (.head _)).symm
  · exact (off.4 _ (.head _)).symm
  · exact (off.5 _ (.head _)).symm
  · exact (off.6 _ (.head _)).symm
  · exact hX p hp
theorem fun_empty {o : Obj} (h : o.IsDictOf (PySem.strKind PP w) []) : FunTab w [] o (Fdat 0 []) := by
  obtain ⟨es, ep, hc, hd, _, hp, _⟩ := h
  have he : es.toList = [] := by cases hq : es.toList with
    | nil => rfl
    | cons x r => rw [hq] at hp; cases hp
  exact ⟨es, ep, [], hc, hd, he, .nil, (fun x hx => nomatch hx), .nil⟩
theorem syms_start {D gx fx ax tx x dx : Nat} {vs : List Value} {og oa : Obj} {t1 t2 t3 t4 : Tok} (N : News h₀ L h ((D, tupO vs) :: (gx, og) :: (fx, listOf #[] 0) :: (ax, oa) :: (tx, listOf #[] 0) :: (x, instObj 154 dx) :: (dx, symD w t1 t2 t3 t4 tx ax fx gx) :: R0))
    (lD : ∀ p ∈ ((gx, og) :: (fx, listOf #[] 0) :: (ax, oa) :: (tx, listOf #[] 0) :: (x, instObj 154 dx) :: (dx, symD w t1 t2 t3 t4 tx ax fx gx) :: R0), p.1 < D)
    (l5 : fx < gx ∧ ax < gx ∧ tx < gx ∧ x < gx ∧ dx < gx ∧ AllLt gx R0) (l4 : ax < fx ∧ tx < fx ∧ x < fx ∧ dx < fx ∧ AllLt fx R0) (l3 : tx < ax ∧ x < ax ∧ dx < ax ∧ AllLt ax R0) (l2 : x < tx ∧ dx < tx ∧ AllLt tx R0) (l1 : dx < x) (l0 : ∀ p ∈ R0, p.1 < dx)
    (ha : oa.IsDictOf (PySem.strKind PP w) []) (hg : og.IsDictOf (PySem.strKind PP w) []) (loA : (ax == sysModules) = false) (loG : (gx == sysModules) = false) :
    ∃ (a : SymAd) (S : SymSt), a.x = x ∧ News h₀ L h (SymL w a S ([(D, tupO vs)] ++ R0)) ∧ InitOk w a S [] [] [] [(D, tupO vs)] R0 := by
  refine ⟨⟨x, dx, tx, ax, fx, gx, t1, t2, t3, t4⟩, ⟨#[], 0, oa, #[], 0, og⟩, rfl, news_sub N fun z hz => ?_, ⟨⟨[], ha, .nil⟩, rfl, rfl, fun_empty hg, loG, l1, l2.1, l3.1, l4.1, l5.1, loA⟩, (fun p hp => nomatch hp), fun p hp => ?_, l0⟩
  · simp only [List.mem_cons, List.cons_append, List.nil_append] at hz ⊢; grind
  · simp only [List.mem_cons, List.not_mem_nil, or_false] at hp
    subst hp
    exact lD _ (.head _)
end

theorem strs_at : ∀ {vs : List Value} {ts : List Str} {i : Nat} {v : Value}, StrsAre vs ts → vs[i]? = some v → ∃ t k, v = .str t k ∧ ts[i]? = some t
  | _, _, _, _, .nil, h => by simp at h
  | _, _, 0, _, .cons y t _, h => by simp at h; exact ⟨y, t, h.symm, rfl⟩
  | _, _, i + 1, _, .cons y t r, h => by simp at h; obtain ⟨t', k, a, b⟩ := strs_at r h; exact ⟨t', k, a, by simpa using b⟩
theorem strs_len : ∀ {vs : List Value} {ts : List Str}, StrsAre vs ts → vs.length = ts.length
  | _, _, .nil => rfl
  | _, _, .cons _ _ r => by simp [strs_len r]
theorem rows_at {N : List (Addr × Obj)} : ∀ {vs : List Value} {ts : List (Str × Int)} {i : Nat} {v : Value}, RowsAre N vs ts → vs[i]? = some v → ∃ d t k t1 t2, v = .ref d ∧ (d, tupO [.str t t1, .int k t2]) ∈ N ∧ ts[i]? = some (t, k)
  | _, _, _, _, .nil, h => by simp at h
  | _, _, 0, _, .cons hm _, h => by simp at h; exact ⟨_, _, _, _, _, h.symm, hm, rfl⟩
  | _, _, i + 1, _, .cons _ r, h => by simp at h; obtain ⟨d, t, k, t1, t2, a, b, c⟩ := rows_at r h; exact ⟨d, t, k, t1, t2, a, b, by simpa using c⟩
theorem rows_len {N : List (Addr × Obj)} : ∀ {vs : List Value} {ts : List (Str × Int)}, RowsAre N vs ts → vs.length = ts.length
  | _, _, .nil => rfl
  | _, _, .cons _ r => by simp [rows_len r]
theorem take_new {α : Type} [DecidableEq α] {l : List α} (hn : l.Nodup) {i : Nat} {t : α} (h : l[i]? = some t) : t ∉ l.take i ∧ l.take i ++ [t] = l.take (i + 1) := by
  have hi : i < l.length := by
    rcases Nat.lt_or_ge i l.length with h' | h'
    · exact h'
    · rw [List.getElem?_eq_none h'] at h; cases h
  have ht : l[i] = t := by rw [List.getElem?_eq_getElem hi] at h; exact Option.some.inj h
  refine ⟨fun hm => ?_, by rw [List.take_add_one, h]; simp⟩
  obtain ⟨j, hj, e⟩ := List.mem_iff_getElem.mp hm
  rw [List.getElem_take] at e
  have hj2 : j < i := by rw [List.length_take] at hj; omega
  exact (List.pairwise_iff_getElem.mp hn j i (by omega) hi hj2) (e.trans ht.symm)
def fixF : List (Int × Int) := fixR.map fun p => (((fixA.idxOf p.1 : Nat) : Int), p.2)
theorem fixA_nd : fixA.Nodup := by decide +kernel
theorem fixF_nd : fixF.Nodup := by decide +kernel
theorem fixR_in : ∀ p ∈ fixR, p.1 ∈ fixA := by decide +kernel
theorem fixF_good : Good6 fixF := ⟨1, 7, 9, 10, 11, 12, _, by first | rfl | decide +kernel⟩
end

section

theorem start_I4_0 : (0 : Nat) ≤ 1 := by
  w_top off
  k_with_none
  k_with "m:callWith" => (walk_plain_pass; first | refine callWith_method1 ?_ | refine callWith_builtin1 ?_)
  k_with "m:subscriptTail Name Constant ref int" => (k_here; (with_reducible show wpAny _ _ (subscriptTail _ _ (Value.ref _) (Value.int _ _)) _ _ _); k_dflt (refine' item_tupleT (by exact News.isTup (by k_asm) (by k_mem)) (by decide) (by decide) (by rfl) (by rfl) ?_; k_whole))
  k_with "m:subscriptTail Subscript" => (k_here; (with_reducible show wpAny _ _ (subscriptTail _ _ (Value.ref _) (Value.int _ _)) _ _ _); first | k_dflt (refine' item_tupleT (by exact News.isTup (by k_asm) (by k_mem)) (by decide) (by decide) (by rfl) (by rfl) ?_; k_whole) | (exfalso; omega))
  k_with "m:ktr_room" => (first | exact Nat.le_of_ble_eq_true rfl | exact rm0 (by assumption) | exact rm1 (by assumption) (by first | exact Nat.le_of_ble_eq_true rfl | exact Nat.le_add_right_of_le (Nat.le_of_ble_eq_true rfl) | exact dpl1 (by assumption) | exact dpl2 (by assumption) | omega) | exact rm2 (by assumption) (by first | exact Nat.le_of_ble_eq_true rfl | exact Nat.le_add_right_of_le (Nat.le_of_ble_eq_true rfl) | exact dpl1 (by assumption) | exact dpl2 (by assumption) | omega) | exact rm3 (by assumption) (by first | exact Nat.le_of_ble_eq_true rfl | exact Nat.le_add_right_of_le (Nat.le_of_ble_eq_true rfl) | exact dpl1 (by assumption) | exact dpl2 (by assumption) | omega) | exact lwr (by assumption) | omega | ((try simp only [depth_under_make, depth_under_kw, depth_in1, depth_deeper, depth_caller] at *); (try dsimp only [ktrTop] at *); omega))
  k_with "m:ktr_units" => (first | exact Nat.le_of_ble_eq_true rfl | exact un1 (by assumption) (by first | exact Nat.le_of_ble_eq_true rfl | exact Nat.le_add_right_of_le (Nat.le_of_ble_eq_true rfl) | exact dpl1 (by assumption) | exact dpl2 (by assumption) | omega) | exact un2 (by assumption) (by first | exact Nat.le_of_ble_eq_true rfl | exact Nat.le_add_right_of_le (Nat.le_of_ble_eq_true rfl) | exact dpl1 (by assumption) | exact dpl2 (by assumption) | omega) | exact un3 (by assumption) (by first | exact Nat.le_of_ble_eq_true rfl | exact Nat.le_add_right_of_le (Nat.le_of_ble_eq_true rfl) | exact dpl1 (by assumption) | exact dpl2 (by assumption) | omega) | exact lwu (by assumption) | omega | ((try simp only [units_under_make, units_in1, units_deeper, Around.mark_units, units_caller] at *); (try dsimp only [ktrTop] at *); omega))
  k_with "m:k_mem" => first | assumption | exact List.Mem.head _ | (refine' List.Mem.tail _ ?_; k_mem)
  k_with "m:k_all" => assumption
  k_with "m:eval Call" => ((with_reducible show wpAny _ _ (eval (Expr.Call (Expr.Name _ _) _ [] _) _) _ _ _); k_dflt (refine Call_ ?_))
  k_with "my call" => ((case B => k_asm); (case F => k_asm); (case X => k_asm); (case T => k_asm); (case hk => first | exact rfl | assumption); (case hd => ktr_room); (case hu => ktr_units); k_whole)
  k_with "m:call ref" => (k_here; (fail_if_success (fail_if_success (with_reducible show wpAny _ _ (PySem.call (PySem.Value.ref 60) _ _) _ _ _))); k_dflt (refine' ctr_use (fatoms_c _ _) (by k_asm) (by k_asm) (by k_asm) (by k_asm) (by k_asm) (by first | exact rfl | assumption) (by ktr_room) (by ktr_units) ?_); intro r' n' h' tk' F' N' o'; obtain ⟨D', vs', e1', sA', lt', e2'⟩ := o'; subst e1' e2'; (try k_sweep); (try k_fold))
  k_with "m:call ref" => (k_here; (fail_if_success (fail_if_success (with_reducible show wpAny _ _ (PySem.call (PySem.Value.ref 67) _ _) _ _ _))); k_dflt (refine' ctr_use (ffuns_c _ _) (by k_asm) (by k_asm) (by k_asm) (by k_asm) (by k_asm) (by first | exact rfl | assumption) (by ktr_room) (by ktr_units) ?_); intro r' n' h' tk' F' N' o'; obtain ⟨N1', e1', D', vs', hD', rA', lt', e2'⟩ := o'; subst e1' e2'; (try k_sweep); (try k_fold))
  k_with "m:call ref" => (k_here; (fail_if_success (fail_if_success (with_reducible show wpAny _ _ (PySem.call (PySem.Value.ref 88) _ _) _ _ _))); k_dflt (refine' ctr_use (atom_c _ _ _ _ _ _ _ (by assumption) (by assumption) (by first | assumption | omega) _ _) (by k_asm) (by k_asm) (by k_asm) (by k_asm) (by k_asm) (by first | exact rfl | assumption) (by ktr_room) (by ktr_units) ?_; k_whole); intro r' n' h' tk' F' N' o'; obtain ⟨S', k', e1', ok', e2'⟩ := o'; subst e1' e2'; (try k_sweep); (try k_fold))
  k_with "m:call ref" => (k_here; (fail_if_success (fail_if_success (with_reducible show wpAny _ _ (PySem.call (PySem.Value.ref 109) _ _) _ _ _))); k_dflt (refine' ctr_use (func_c _ _ _ _ _ _ _ (by assumption) (by assumption) (by assumption) (by assumption) (by assumption) _ _ _ _) (by k_asm) (by k_asm) (by k_asm) (by k_asm) (by k_asm) (by first | exact rfl | assumption) (by ktr_room) (by ktr_units) ?_); intro r' n' h' tk' F' N' o'; obtain ⟨S', kt', kO', k', e1', lt', ok', e2'⟩ := o'; subst e1' e2'; (try k_sweep); (try k_fold))
  k_with "m:pyIter ref" => (k_here; refine stop_ ?_)
  exact Nat.zero_le 1
def J1 (w : World) (a : SymAd) (R0 : List (Addr × Obj)) (D : Nat) (vs : List Value) (m : Str → Option Value) (i : Nat) (m₁ : Str → Option Value) (n₁ : List (Addr × Obj)) : Prop :=
  ∃ tv S, m₁ = bindM m (Str.ofString "text") tv ∧ n₁ = SymL w a S ([(D, tupO vs)] ++ R0) ∧ InitOk w a S (fixA.take i) [] [] [(D, tupO vs)] R0
def J2 (w : World) (a : SymAd) (R0 N1 : List (Addr × Obj)) (m : Str → Option Value) (i : Nat) (m₁ : Str → Option Value) (n₁ : List (Addr × Obj)) : Prop :=
  ∃ tv S K R, m₁ = bindM m (Str.ofString "row") tv ∧ n₁ = SymL w a S (R ++ R0) ∧ InitOk w a S fixA (fixF.take i) K R R0 ∧ ∀ p ∈ N1, p ∈ R
theorem bind_fix {h₀ h' : Heap} {L : Addr} {m : Str → Option Value} {x : Str} {v tv : Option Value} (F : Fr h₀ L h' (fun y => if y = x then v else bindM m x tv y)) : Fr h₀ L h' (bindM m x v) := by
  have : (fun y => if y = x then v else bindM m x tv y) = bindM m x v := by
    funext y; simp only [bindM]; split <;> rfl
  rw [← this]; exact F
theorem symL_tail {w : World} {a : SymAd} {S : SymSt} {X : List (Addr × Obj)} {p : Addr × Obj} (h : p ∈ X) : p ∈ SymL w a S X := .tail _ (.tail _ (.tail _ (.tail _ (.tail _ (.tail _ h)))))
theorem start2 {w : World} {a : SymAd} {S : SymSt} {T : List Str} {D : Nat} {vs : List Value} {N1 R0 : List (Addr × Obj)} {h₀ h : Heap} {L : Addr} (ok : InitOk w a S T [] [] [(D, tupO vs)] R0) (N : News h₀ L h (N1 ++ SymL w a S ([(D, tupO vs)] ++ R0))) (lt : ∀ p ∈ N1, ∀ q ∈ SymL w a S ([(D, tupO vs)] ++ R0), q.1 < p.1) :
    News h₀ L h (SymL w a S ((N1 ++ [(D, tupO vs)]) ++ R0)) ∧ InitOk w a S T [] [] (N1 ++ [(D, tupO vs)]) R0 := by
  refine ⟨news_sub N fun z hz => ?_, ok.sym, (fun p hp => nomatch hp), fun p hp => ?_, ok.lo0⟩
  · simp only [List.mem_cons, List.mem_append] at hz ⊢; grind
  · rcases List.mem_append.mp hp with hp | hp
    · exact lt p hp _ (.tail _ (.tail _ (.tail _ (.tail _ (.tail _ (.head _))))))
    · exact ok.hi p hp
theorem step2 {w : World} {a : SymAd} {S : SymSt} {F : List (Int × Int)} {R R0 : List (Addr × Obj)} {kt : Nat} {kO : Obj} {I : Nat} {oI : Obj} {T : List Str} {h₀ h : Heap} {L : Addr} {S0 : SymSt} {T0 : List Str} {F0 : List (Int × Int)} {K0 : List (Addr × Obj)} (ok0 : InitOk w a S0 T0 F0 K0 R R0) (N : News h₀ L h (SymL w a S ((kt, kO) :: (I, oI) :: (R ++ R0)))) (lt : ∀ z ∈ SymL w a S0 ((I, oI) :: (R ++ R0)), z.1 < kt) (hne : ∀ p ∈ SymL w a S0 (R ++ R0), p.1 ≠ I) (off : Off a ((I, oI) :: (R ++ R0)))
    (okS : SymOk w a S T F ((kt, kO) :: K0)) : News h₀ L h ((I, oI) :: SymL w a S (((kt, kO) :: R) ++ R0)) ∧ (∀ p ∈ SymL w a S (((kt, kO) :: R) ++ R0), p.1 ≠ I) ∧ InitOk w a S T F ((kt, kO) :: K0) ((kt, kO) :: R) R0 := by
  have hk : I < kt := lt _ (symL_tail (.head _))
  have hg : a.gx < kt := lt _ (.tail _ (.tail _ (.tail _ (.tail _ (.tail _ (.head _))))))
  have ok1 : InitOk w a S T F ((kt, kO) :: K0) ((kt, kO) :: R) R0 := by
    refine ⟨okS, ?_, ?_, ok0.lo0⟩
    · intro p hp
      rcases List.mem_cons.mp hp with rfl | hp
      · exact .head _
      · exact .tail _ (ok0.sub p hp)
    · intro p hp
      rcases List.mem_cons.mp hp with rfl | hp
      · exact hg
      · exact ok0.hi p hp
  have h1 : ∀ p ∈ ((kt, kO) :: (R ++ R0)), p.1 ≠ I := by
    intro p hp
    rcases List.mem_cons.mp hp with rfl | hp
    · exact Nat.ne_of_gt hk
    · exact hne p (symL_tail hp)
  have o := off
  have o2 := ok1.off
  have off2 : Off a ((I, oI) :: (kt, kO) :: (R ++ R0)) := o2.cons (o.1 _ (.head _)) (o.2 _ (.head _)) (o.3 _ (.head _)) (o.4 _ (.head _)) (o.5 _ (.head _)) (o.6 _ (.head _))
  obtain ⟨N2, h2⟩ := led_out (w := w) (a := a) (S := S) (I := I) (oI := oI) (X := (kt, kO) :: (R ++ R0)) (news_sub N fun z hz => by simp only [List.mem_cons] at hz ⊢; grind) off2 h1
  exact ⟨N2, h2, ok1⟩
theorem atom_fix {t : Str} (h : t ∈ fixA) : atomTo fixA t = fixA := if_pos h
theorem fixF_at {i : Nat} {t : Str} {k : Int} (h : fixR[i]? = some (t, k)) : fixF[i]? = some (((fixA.idxOf t : Nat) : Int), k) := by
  unfold fixF; rw [List.getElem?_map, h]; rfl
theorem fixF_len : fixF.length = 32 := by unfold fixF; rw [List.length_map, fixR_is]
theorem syms_c (w : World) (R0 : List (Addr × Obj)) : Ctr w 154 [] 30 R0 (fun n' r => ∃ a S T F K R, n' = SymL w a S (R ++ R0) ∧ InitOk w a S T F K R R0 ∧ Good6 F ∧ T.length ≤ 100 ∧ F.length ≤ 100 ∧ r = .ref a.x) := by
  unfold Ctr
  k_fill
  intro mean mg mb dp un gd cn cs a' ccd cl outer A₀ base h₀ L m s Q E B F X N T' hk hdd hu hret
  k_dflt (refine' call_cls ?k1 ?k2 ?k3 ?k4 ?k5 ?k6 ?_; (case k1 => k_asm); (case k2 => k_asm); (case k3 => k_asm); (case k4 => k_is); (case k5 => k_is); (case k6 => k_is); k_whole; intro x' d' h' F' N' l1 l2; (try k_lt l1); (try k_lt2 l2); (try k_sweep))
  k_dflt ktr_enter
  k_steps
  (rename News _ _ _ (_ :: _ :: _ :: _ :: _ :: _ :: _ :: _) => kN)
  (rename StrsAre _ _ => sA)
  obtain ⟨a, S, hax, N2, ok0⟩ := syms_start kN (by assumption) (by assumption) (by assumption) (by assumption) (by assumption) l2 l1 (by assumption) (by assumption) (by assumption) (by assumption)
  clear kN
  subst hax
  refine iter_tup (J1 w a R0 _ _ _) (by assumption) N2 (.tail _ (.tail _ (.tail _ (.tail _ (.tail _ (.tail _ (.head _))))))) rfl ⟨_, S, bindM_start _ _, rfl, ok0⟩ ?_ ?_ ?_
  · rintro i m₁ n₁ ⟨tv, S, _, rfl, _⟩
    exact .tail _ (.tail _ (.tail _ (.tail _ (.tail _ (.tail _ (.head _))))))
  · rintro i v m₁ news₁ h tk I oI hv ⟨tv, S, rfl, rfl, ok⟩ hne F₁ N₁
    clear N2 ok0
    obtain ⟨t, k, rfl, ht⟩ := strs_at sA hv
    obtain ⟨N3, off3⟩ := led_in N₁ hne ok.off
    have okS := ok.sym
    have hTl : (fixA.take i).length ≤ 1000000 := by rw [List.length_take, fixA_is]; omega
    clear N₁
    k_steps
    (rename SymOk _ _ _ _ _ _ => ok5)
    (rename News _ _ _ (_ :: _) => N5)
    (rename Fr _ _ _ _ => F5)
    obtain ⟨N6, hne6⟩ := led_out N5 off3 (fun p hp => hne p (symL_tail hp))
    obtain ⟨t1, t2⟩ := take_new fixA_nd ht
    rw [show atomTo (fixA.take i) t = fixA.take (i + 1) from (if_neg t1).trans t2] at ok5
    exact ⟨_, _, _, _, rfl, bind_fix F5, N6, hne6, _, _, rfl, rfl, ⟨ok5, ok.sub, ok.hi, ok.lo0⟩⟩
  · rintro h' tk m' news' F' N' ⟨tv, S, rfl, rfl, ok⟩
    rw [strs_len sA, fixA_is] at ok
    clear N2 ok0
    k_steps
    (rename News _ _ _ (_ ++ _) => kN)
    (rename RowsAre _ _ _ => rA)
    (rename (_ ∈ _) => hD)
    obtain ⟨N2, ok0⟩ := start2 ok kN (by assumption)
    clear kN
    have ok0 : InitOk w a S fixA (fixF.take 0) [] _ R0 := ok0
    refine iter_tup (J2 w a R0 _ _) (by assumption) N2 (symL_tail (List.mem_append_left _ (List.mem_append_left _ hD))) rfl ⟨_, S, [], _, bindM_start _ _, rfl, ok0, fun p hp => List.mem_append_left _ hp⟩ ?_ ?_ ?_
    · rintro i m₁ n₁ ⟨tv, S, K, R, _, rfl, _, hs⟩
      exact symL_tail (List.mem_append_left _ (hs _ hD))
    · rintro i v m₁ news₁ h tk I oI hv ⟨tv, S, K, R, rfl, rfl, ok1, hs⟩ hne F₁ N₁
      clear N2 ok0
      obtain ⟨d, t, k, t1, t2, rfl, hm, ht⟩ := rows_at rA hv
      have hm : (d, tupO [.str t t1, .int k t2]) ∈ R ++ R0 := List.mem_append_left _ (hs _ hm)
      obtain ⟨N3, off3⟩ := led_in N₁ hne ok1.off
      have okS := ok1.sym
      have hTl : fixA.length ≤ 1000000 := by rw [fixA_is]; decide
      have hFl : (fixF.take i).length ≤ 1000000 := by rw [List.length_take, fixF_len]; omega
      have hsub : ∀ p ∈ K, p ∈ (I, oI) :: (R ++ R0) := fun p hp => .tail _ (List.mem_append_left _ (ok1.sub p hp))
      clear N₁
      k_steps
      (rename SymOk _ _ _ _ _ _ => ok5)
      (rename News _ _ _ (_ :: _) => N5)
      (rename Fr _ _ _ _ => F5)
      (rename (∀ z ∈ SymL _ _ _ _, z.1 < _) => lt5)
      obtain ⟨u1, u2⟩ := take_new fixF_nd (fixF_at ht)
      have hin : t ∈ fixA := fixR_in _ (List.mem_of_getElem? ht)
      rw [atom_fix hin, show funcTo (fixF.take i) (((fixA.idxOf t : Nat) : Int), k) = fixF.take (i + 1) from (if_neg u1).trans u2] at ok5
      obtain ⟨N6, hne6, ok6⟩ := step2 ok1 N5 lt5 hne off3 ok5
      exact ⟨_, _, _, _, rfl, bind_fix F5, N6, hne6, _, _, _, _, rfl, rfl, ok6, fun p hp => .tail _ (hs p hp)⟩
    · rintro h' tk m' news' F' N' ⟨tv, S, K, R, rfl, rfl, ok1, hs⟩
      rw [rows_len rA, fixR_is] at ok1
      have ok1 : InitOk w a S fixA fixF K R R0 := ok1
      clear N2 ok0
      k_steps
      (rename News h₀ L _ (_ :: _) => kN)
      exact hret _ _ _ _ (by assumption) kN ⟨a, S, fixA, fixF, K, R, rfl, ok1, fixF_good, by rw [fixA_is]; decide, by rw [fixF_len]; decide, rfl⟩
end

section
theorem start_X1_0 : (0 : Nat) ≤ 1 := by
  w_top off
  k_with_none
  exact Nat.zero_le 1
/-! a step that leaves every object's own dict in its place -/
inductive DK {α : Type} : Sem α → Prop
  | pure (a : α) : DK (.pure a)
  | raise (e : Value) : DK (.raise e)
  | unsup (x : String) : DK (.unsupported x)
  | rule {t : String} {k : Unit → Sem α} : DK (k ()) → DK (.rule t k)
  | at {p : Pos} {k : Unit → Sem α} : DK (k ()) → DK (.at p k)
  | load {a : Addr} {p : Option Value} {k : Obj → Sem α} : (∀ o, DK (k o)) → DK (.load a p k)
  | update {a : Addr} {p : Option Value} {f : Obj → Obj} {k : Unit → Sem α} : (∀ o, (f o).dict = o.dict) → DK (k ()) → DK (.update a p f k)
  | alloc {o : Obj} {k : Addr → Sem α} : (∀ a, DK (k a)) → DK (.alloc o k)
  | alive {a : Addr} {k : Option Obj → Sem α} : (∀ o, DK (k o)) → DK (.loadIfAlive a k)
  | point {l : List Value} {k : Unit → Sem α} : DK (k ()) → DK (.point l k)
  | fresh {k : Tok → Sem α} : (∀ o, DK (k o)) → DK (.fresh k)
  | ask {k : Setting → Sem α} : (∀ o, DK (k o)) → DK (.ask k)
  | handled {o : Bool} {k : Option Value → Sem α} : (∀ o, DK (k o)) → DK (.handled o k)
  | stack {k : List (Code × Pos) → Sem α} : (∀ o, DK (k o)) → DK (.stack k)
theorem DK.bind {α β : Type} {t : Sem α} {f : α → Sem β} (h : DK t) (hf : ∀ a, DK (f a)) : DK (t >>= f) := by
  show DK (t.bind f)
  induction h with
  | pure a => exact hf a
  | raise e => exact .raise e
  | unsup x => exact .unsup x
  | rule _ ih => exact .rule ih
  | «at» _ ih => exact .at ih
  | load _ ih => exact .load ih
  | update hd _ ih => exact .update hd ih
  | alloc _ ih => exact .alloc ih
  | alive _ ih => exact .alive ih
  | point _ ih => exact .point ih
  | fresh _ ih => exact .fresh ih
  | ask _ ih => exact .ask ih
  | handled _ ih => exact .handled ih
  | stack _ ih => exact .stack ih
def RD (e : Nat) (d : Option Addr) (h : Heap) : Prop := ∃ o, h.objs[e]? = some o ∧ o.dict = d
theorem RD.update {e : Nat} {d : Option Addr} {h : Heap} {a : Addr} {f : Obj → Obj} (x : RD e d h) (hf : ∀ o, (f o).dict = o.dict) : RD e d (h.update a f) := by
  obtain ⟨o, ho, hd⟩ := x
  obtain ⟨objs, life⟩ := h
  by_cases c : a = e
  · exact ⟨f o, by simp only [Heap.update, Array.getElem?_modify] at ho ⊢; simp [c, ho], by rw [hf]; exact hd⟩
  · exact ⟨o, by simp only [Heap.update, Array.getElem?_modify] at ho ⊢; simp [c, ho], hd⟩
theorem RD.push {e : Nat} {d : Option Addr} {h : Heap} {o' : Obj} (x : RD e d h) : RD e d (h.push o') := by
  obtain ⟨o, ho, hd⟩ := x
  refine ⟨o, ?_, hd⟩
  rw [Heap.objs_push, Array.getElem?_push]
  have : e < h.objs.size := (Array.getElem?_eq_some_iff.mp ho).1
  rw [if_neg (by omega)]; exact ho
theorem wp_keep {α : Type} {M : Model} {Γ : PySem.Ctx} {t : Sem α} (hk : DK t) {e : Nat} {d : Option Addr} {Q : α → Pos → Shared → Prop} {E : Value → Pos → Shared → Prop} : ∀ {p : Pos} {s : Shared}, RD e d s.heap → Sem.wp M Γ t Q E p s → Sem.wp M Γ t (fun a p' s' => Q a p' s' ∧ RD e d s'.heap) E p s := by
  induction hk with
  | pure a => intro p s x h; exact ⟨h, x⟩
  | raise e => intro p s x h; exact h
  | unsup x => intro p s x h; exact h
  | rule _ ih => intro p s x h; exact ih x h
  | «at» _ ih => intro p s x h; exact ih x h
  | load _ ih => intro p s x h; obtain ⟨o, ho, h⟩ := h; exact ⟨o, ho, ih o x h⟩
  | update hd _ ih => intro p s x h; exact ⟨h.1, ih (x.update hd) h.2⟩
  | alloc _ ih => intro p s x h; exact ih _ (x.push) h
  | alive _ ih => intro p s x h; exact ih _ x h
  | point _ ih => intro p s x h; exact ih x h
  | fresh _ ih => intro p s x h; exact ih _ x h
  | ask _ ih => intro p s x h; exact ih _ x h
  | handled _ ih => intro p s x h; exact ih _ x h
  | stack _ ih => intro p s x h; exact ih _ x h
theorem wpAny_keep {α : Type} {M : Model} {A : Around} {t : Sem α} (hk : DK t) {e : Nat} {d : Option Addr} {Q : α → Shared → Prop} {E : Value → Shared → Prop} {s : Shared} (x : RD e d s.heap) (h : wpAny M A t Q E s) : wpAny M A t (fun a s' => Q a s' ∧ RD e d s'.heap) E s :=
  fun Γ p hp => wp_keep hk x (h Γ p hp)
theorem RD.get {e : Nat} {d : Option Addr} {h : Heap} {o : Obj} (x : RD e d h) (g : h.get? e = some o) : o.dict = d := by
  obtain ⟨o', ho, hd⟩ := x
  obtain ⟨e1, _⟩ := Heap.get?_some_iff.mp g
  rw [ho] at e1; cases e1; exact hd
theorem RD.of_get {e : Nat} {h : Heap} {o : Obj} (g : h.get? e = some o) : RD e o.dict h := ⟨o, (Heap.get?_some_iff.mp g).1, rfl⟩
end

section
theorem start_X2_0 : (0 : Nat) ≤ 1 := by
  w_top off
  k_with_none
  exact Nat.zero_le 1
theorem dk_load (a : Addr) : DK (PySem.load a) := .load fun _ => .pure _
theorem dk_update {a : Addr} {f : Obj → Obj} (h : ∀ o, (f o).dict = o.dict) : DK (PySem.update a f) := .update h (.pure _)
theorem dk_alloc (o : Obj) : DK (PySem.alloc o) := .alloc fun _ => .pure _
theorem dk_stack : DK PySem.stack := .stack fun _ => .pure _
theorem dk_mapFields (f : Array Value → Array Value) (o : Obj) : (Obj.mapFields f o).dict = o.dict := by
  obtain ⟨c, d, dt, s⟩ := o; cases dt <;> rfl
theorem dk_pure' {α : Type} (a : α) : DK (Pure.pure a : Sem α) := .pure a
theorem dk_fieldsOf (v : Value) : DK (fieldsOf v) := by
  unfold fieldsOf
  split
  · refine .bind (dk_load _) fun o => ?_
    split
    · exact .pure _
    · exact .unsup _
  · exact .unsup _
theorem dk_field (v : Value) (i : Nat) : DK (field v i) := by
  unfold field
  refine .bind (dk_fieldsOf v) fun vs => ?_
  split
  · exact .pure _
  · exact .unsup _
theorem dk_setField (v : Value) (i : Nat) (x : Value) : DK (setField v i x) := by
  unfold setField
  split
  · unfold updateField
    refine .bind (dk_load _) fun o => ?_
    split
    · split
      · exact dk_update fun o => dk_mapFields _ o
      · exact .unsup _
    · exact .unsup _
  · exact .unsup _
theorem dk_setFlight (e : Value) (f : Option Addr) : DK (setFlight e f) := by
  unfold setFlight
  refine .bind (dk_field _ _) fun tb => ?_
  split
  · exact dk_setField _ _ _
  · exact .pure _
theorem dk_newFields (ty : String) (vs : List Value) : DK (newFields ty vs) := by
  unfold newFields newObj
  dsimp only
  split
  · exact .unsup _
  · unfold newObjAsIs
    refine .bind ?_ fun a => ?_
    · first | exact dk_alloc _ | (refine .bind (dk_alloc _) fun _ => .pure _)
    · exact .pure _
theorem dk_newEntry (a b c d e : Value) (pl : List Value) : DK (EntryCells.newEntry a b c d e pl) := by
  unfold EntryCells.newEntry
  exact dk_newFields _ _
theorem dk_entryPlaceOf (f : Addr) (b : Bool) : DK (entryPlaceOf f b) := by
  unfold entryPlaceOf
  refine .bind dk_stack fun acts => ?_
  split <;> exact .pure _
theorem dk_behind (env : Env) (outer : List Env) : DK (behindIsImport env outer) := by
  unfold behindIsImport
  split
  · exact .pure _
  · split
    · exact .pure _
    · exact .bind (dk_field _ _) fun _ => .pure _
theorem dk_under : DK underTheClaimsCaller := by
  unfold underTheClaimsCaller
  exact .bind dk_stack fun _ => .pure _
theorem dk_keptBack (env : Env) (b : Bool) (l : List Env) : DK (keptBack env b l) := by
  unfold keptBack
  split
  · split
    · exact .pure _
    · exact .bind dk_under fun _ => by split <;> exact .pure _
  · exact .pure _
theorem dk_readyFrames : ∀ l : List Env, DK (readyFrames l)
  | [] => by unfold readyFrames; exact .pure _
  | env :: outer => by
    unfold readyFrames
    split
    · refine .bind (dk_load _) fun o => ?_
      split
      · exact .pure _
      · refine .bind (dk_behind _ _) fun i => .bind (dk_keptBack _ _ _) fun b => .bind (dk_update fun o => rfl) fun _ => dk_readyFrames outer
    · exact .unsup _
theorem dk_frameObject (l : List Env) : DK (frameObject l) := by
  unfold frameObject
  split
  · exact .pure _
  · exact .bind (dk_readyFrames _) fun _ => .pure _
theorem dk_frameOf (env : Env) : DK (PySem.frameOf env) := by
  unfold PySem.frameOf frameEnvs
  refine .bind (.bind dk_stack fun _ => .pure _) fun _ => .bind (dk_frameObject _) fun r => ?_
  split
  · exact .pure _
  · exact .unsup _
theorem dk_noteFrame (e : Value) (env : Env) : DK (noteFrame e env) := by
  unfold noteFrame
  have fin : ∀ f head, DK (do setField e 1 (← EntryCells.newEntry head (← PySem.frameOf env) .none (rawInt f) .none (← entryPlaceOf f (head != .none)))) := fun f head =>
    .bind (dk_frameOf _) fun _ => .bind (dk_entryPlaceOf _ _) fun _ => .bind (dk_newEntry _ _ _ _ _ _) fun _ => dk_setField _ _ _
  split
  · refine .bind (dk_field _ _) fun head => ?_
    dsimp only
    split
    · refine .bind (dk_field _ _) fun h3 => ?_
      split
      · exact .pure _
      · refine .bind (dk_setField _ _ _) fun _ => fin _ _
    · exact fin _ _
  · exact .unsup _
theorem dk_leaving (env : Env) (e : Value) : DK (leaving env e) := by
  unfold leaving
  exact .bind (dk_noteFrame _ _) fun _ => dk_setFlight _ _
end

section
open PySem PySem.W PyProof.Rows PySem.Spec PyProof.V PySem.W.X

theorem start_X3_0 : (0 : Nat) ≤ 1 := by
  w_top off
  k_with_none
  exact Nat.zero_le 1
abbrev excO (d t : Addr) : Obj := { cls := .ref 51, dict := some d, data := .fields #[.ref t, .none, .none, .none, .bool false, .none] }
abbrev ballD (hh : Int) (b : Addr) (tok : Tok) : Obj := dictOf [⟨hh, .str (Str.ofString "ball") tok, .ref b⟩] 1
def ExcMade (hh : Int) (b : Addr) (h h' : Heap) (e d t : Addr) (tok : Tok) : Prop :=
  (∀ b o, h.get? b = some o → h'.get? b = some o) ∧ h.get? e = none ∧ h.get? d = none ∧ h.get? t = none ∧ h'.get? e = some (excO d t) ∧ h'.get? d = some (ballD hh b tok) ∧ h'.get? t = some (tupO [.ref b]) ∧ e ≠ d ∧ e ≠ t
theorem exc_fin {hh : Int} {b : Addr} {s : Shared} {h : Heap} {e d t f : Nat} {dO fO tO : Obj} {Q : Value → Shared → Prop} {tk : Nat} (D : Mem s.heap h [] [(d, dO), (f, fO), (e, excO d t), (t, tO)]) (hd : dO = ballD hh b (s.toks + 1 + 1 + 1)) (ht : tO = tupO [.ref b])
    (k : ∀ hh h' e d t tok tk, ExcMade hh b s.heap h' e d t tok → Q (.ref e) { s with heap := h', toks := tk }) : Q (.ref e) { heap := h, gens := s.gens, drawn := s.drawn, toks := tk, os := s.os } := by
  subst hd ht
  have o := D.ord
  simp only [List.map_cons, List.map_nil, List.pairwise_cons, List.mem_cons, List.not_mem_nil, or_false] at o
  have o1 : d > e := o.1 e (.inr (.inl rfl))
  have o2 : e > t := o.2.2.1 t rfl
  refine k hh h e d t _ tk ⟨fun b o q => D.keep b o q (by simp [away]), (D.nw _ (.tail _ (.tail _ (.head _)))).2, (D.nw _ (.head _)).2, (D.nw _ (.tail _ (.tail _ (.tail _ (.head _))))).2, (D.nw _ (.tail _ (.tail _ (.head _)))).1, (D.nw _ (.head _)).1, (D.nw _ (.tail _ (.tail _ (.tail _ (.head _))))).1, ?_, ?_⟩
  · exact Nat.ne_of_lt o1
  · exact Nat.ne_of_gt o2
theorem start_X3_1 : (0 : Nat) ≤ 1 := by
  w_top off
  k_with "m:x_close" => (refine' exc_fin (by assumption) (by rfl) (by rfl) (by assumption))
  exact Nat.zero_le 1
theorem fill_X3 {w : World} {s : Shared} {P : Prop} (X : (hd.heap_39 w.params).In s.heap) (k : P) : PySem.Challenge.rw_rr0018_01 = PySem.Challenge.rw_rr0018_01 → (hd.heap_39 w.params).In s.heap → P := by
  k_fill
  intro _ _; exact k
theorem exc_new {prog : Program} {w : World} {b : Addr} {s : Shared} {Q E : Value → Shared → Prop} (X : (hd.heap_39 w.params).In s.heap) (k : ∀ hh h' e d t tok tk, ExcMade hh b s.heap h' e d t tok → Q (.ref e) { s with heap := h', toks := tk }) :
    wpAny (model prog w) ({ depth := 500, units := 5900 } : Around) (call (.ref 51) [.ref b]) Q E s := by
  x_run
end

section
theorem start_X4_0 : (0 : Nat) ≤ 1 := by
  w_top off
  k_with_none
  exact Nat.zero_le 1
theorem top_room {dp un : Nat} {gd : Option (List Code)} {cn : Str} {cs : Scope} {L a : Addr} {ccd : Value} {cl : List (Str × Addr)} {outer : List Env} {α : Type} {M : Model} {t : Sem α} {Q : α → Shared → Prop} {E : Value → Shared → Prop} {s : Shared}
    (hd : dp ≤ 500) (hu : un ≤ 5900) (h : wpAny M ({ depth := 500, units := 5900 } : Around) t Q E s) : wpAny M (ktrTop dp un gd cn cs L a ccd cl outer) t Q E s := by
  intro Γ p hp
  refine h Γ p ⟨hp.1, Nat.le_trans hp.2.1 hd, fun l hl => ?_, fun g hg => ?_, Nat.le_trans hp.2.2.2.2 hu⟩
  · cases hl
  · cases hg
theorem exc_c {w : World} {news : List (Addr × Obj)} {b : Nat} : Ctr w 51 [.ref b] 500 news (fun n' r => ∃ (e d t : Nat) (hh : Int) (tok : Tok), n' = (e, excO d t) :: (d, ballD hh b tok) :: (t, tupO [.ref b]) :: news ∧ (∀ p ∈ news, p.1 ≠ e) ∧ e ≠ d ∧ e ≠ t ∧ r = .ref e) := by
  intro mean mg mb dp un gd cn cs a ccd cl outer A₀ base h₀ L m s Q E B F X N T hk hd hu hret
  have X1 : (_root_.Mine.hd.heap_39 w.params).In s.heap := X.keeps F.keep
  refine top_room (by rw [show recursionLimit = 1000 from rfl] at hd; omega) (by rw [cLine_is] at hu; omega) (exc_new X1 fun hh h' e d t tok tk hm => ?_)
  obtain ⟨hkeep, e0, d0, t0, e1, d1, t1, ned, net⟩ := hm
  have fr : ∀ {b : Addr}, s.heap.get? b = none → b ≠ L ∧ h₀.get? b = none := by
    intro b hb
    refine ⟨fun q => ?_, ?_⟩
    · obtain ⟨o, _, _, ho, _⟩ := F.ns
      rw [q, ho] at hb; cases hb
    · cases q : h₀.get? b with
      | none => rfl
      | some o => rw [F.keep _ _ q] at hb; cases hb
  refine hret (.ref e) _ h' tk ⟨F.ns.at' fun o q => hkeep _ o q, fun b o q => hkeep b o (F.keep b o q), F.above⟩ ?_ ⟨e, d, t, hh, tok, rfl, fun p hp q => ?_, ned, net, rfl⟩
  · intro p hp
    simp only [List.mem_cons] at hp
    rcases hp with rfl | rfl | rfl | hp
    · exact ⟨e1, fr e0⟩
    · exact ⟨d1, fr d0⟩
    · exact ⟨t1, fr t0⟩
    · exact ⟨hkeep _ _ (N p hp).1, (N p hp).2⟩
  · have := (N p hp).1
    rw [q, e0] at this; cases this
end

section

theorem start_E1_0 : (0 : Nat) ≤ 1 := by
  w_top off
  k_with_none
  k_with "m:ktr_room" => (first | exact Nat.le_of_ble_eq_true rfl | exact rm0 (by assumption) | exact rm1 (by assumption) (by first | exact Nat.le_of_ble_eq_true rfl | exact Nat.le_add_right_of_le (Nat.le_of_ble_eq_true rfl) | exact dpl1 (by assumption) | exact dpl2 (by assumption) | omega) | exact rm2 (by assumption) (by first | exact Nat.le_of_ble_eq_true rfl | exact Nat.le_add_right_of_le (Nat.le_of_ble_eq_true rfl) | exact dpl1 (by assumption) | exact dpl2 (by assumption) | omega) | exact rm3 (by assumption) (by first | exact Nat.le_of_ble_eq_true rfl | exact Nat.le_add_right_of_le (Nat.le_of_ble_eq_true rfl) | exact dpl1 (by assumption) | exact dpl2 (by assumption) | omega) | exact lwr (by assumption) | omega | ((try simp only [depth_under_make, depth_under_kw, depth_in1, depth_deeper, depth_caller] at *); (try dsimp only [ktrTop] at *); omega))
  k_with "m:ktr_units" => (first | exact Nat.le_of_ble_eq_true rfl | exact un1 (by assumption) (by first | exact Nat.le_of_ble_eq_true rfl | exact Nat.le_add_right_of_le (Nat.le_of_ble_eq_true rfl) | exact dpl1 (by assumption) | exact dpl2 (by assumption) | omega) | exact un2 (by assumption) (by first | exact Nat.le_of_ble_eq_true rfl | exact Nat.le_add_right_of_le (Nat.le_of_ble_eq_true rfl) | exact dpl1 (by assumption) | exact dpl2 (by assumption) | omega) | exact un3 (by assumption) (by first | exact Nat.le_of_ble_eq_true rfl | exact Nat.le_add_right_of_le (Nat.le_of_ble_eq_true rfl) | exact dpl1 (by assumption) | exact dpl2 (by assumption) | omega) | exact lwu (by assumption) | omega | ((try simp only [units_under_make, units_in1, units_deeper, Around.mark_units, units_caller] at *); (try dsimp only [ktrTop] at *); omega))
  k_with "m:k_mem" => first | assumption | exact List.Mem.head _ | (refine' List.Mem.tail _ ?_; k_mem)
  k_with "m:k_all" => assumption
  k_with "m:eval Call" => ((with_reducible show wpAny _ _ (eval (Expr.Call (Expr.Name _ _) _ [] _) _) _ _ _); k_dflt (refine Call_ ?_))
  k_with "my call" => ((case B => k_asm); (case F => k_asm); (case X => k_asm); (case T => k_asm); (case hk => first | exact rfl | assumption); (case hd => ktr_room); (case hu => ktr_units); k_whole)
  k_with "m:call ref" => (k_here; (fail_if_success (fail_if_success (with_reducible show wpAny _ _ (PySem.call (PySem.Value.ref 88) _ _) _ _ _))); k_dflt (refine' ctr_use (atom_c _ _ _ _ _ _ _ (by assumption) (by assumption) (by first | assumption | omega) _ _) (by k_asm) (by k_asm) (by k_asm) (by k_asm) (by k_asm) (by first | exact rfl | assumption) (by ktr_room) (by ktr_units) ?_; k_whole); intro r' n' h' tk' F' N' o'; obtain ⟨S', k', e1', ok', e2'⟩ := o'; subst e1' e2'; (try k_sweep); (try k_fold))
  k_with "m:call ref" => (k_here; (fail_if_success (fail_if_success (with_reducible show wpAny _ _ (PySem.call (PySem.Value.ref 109) _ _) _ _ _))); k_dflt (refine' ctr_use (func_c _ _ _ _ _ _ _ (by assumption) ?_ (by assumption) (by assumption) (by assumption) _ _ _ _) (by k_asm) (by k_asm) (by k_asm) (by k_asm) (by k_asm) (by first | exact rfl | assumption) (by ktr_room) (by ktr_units) ?_; (focus (first | assumption | ((rename (∀ p ∈ _, p ∈ _) => hsubX); intro p9 h9; have h8 := hsubX p9 h9; simp only [List.mem_cons]; simp only [h8, or_true])))); intro r' n' h' tk' F' N' o'; obtain ⟨S', kt', kO', k', e1', lt', ok', e2'⟩ := o'; subst e1' e2'; (try k_sweep); (try k_fold))
  k_with "m:exec For" => (k_here; (rename Fr _ _ _ _ => lF'); (with_unfolding_all refine' For_invVF lF' (by exact rfl) (by exact rfl) ?_; k_whole))
  k_with "m:pyIter ref" => (k_here; refine stop_ ?_)
  exact Nat.zero_le 1
abbrev sCall : Str := Str.ofString "callable"
abbrev sTE : Str := Str.ofString "type_error"
def FormalAt (news : List (Addr × Obj)) (fo : Nat) (ci fi : Int) (b : Nat) : Prop :=
  ∃ (fa q : Nat) (t1 t2 t3 t4 : Tok), (fo, tupO [.str (Str.ofString "s") t1, .int fi t2, .ref fa]) ∈ news ∧ (fa, tupO [.ref q, .ref b]) ∈ news ∧ (q, tupO [.str (Str.ofString "a") t3, .int ci t4]) ∈ news
def JF (w : World) (a : SymAd) (S : SymSt) (T : List Str) (Fs : List (Int × Int)) (K R : List (Addr × Obj)) (b : Nat) (ci : Int) (al : Nat) (m : Str → Option Value) : Nat → (Str → Option Value) → List (Addr × Obj) → Prop
  | 0, m₁, n₁ => ∃ tv, m₁ = bindM m (Str.ofString "part") tv ∧ n₁ = SymL w a S ((al, listOf #[] 0) :: R)
  | 1, m₁, n₁ => ∃ (tv : Option Value) (S1 : SymSt) (q : Nat) (t3 t4 : Tok) (e : Nat), m₁ = bindM m (Str.ofString "part") tv ∧ n₁ = SymL w a S1 ((q, tupO [.str (Str.ofString "a") t3, .int ci t4]) :: (al, listOf #[.ref q] e) :: R) ∧ SymOk w a S1 T Fs K ∧ Off a ((q, tupO [.str (Str.ofString "a") t3, .int ci t4]) :: (al, listOf #[.ref q] e) :: R) ∧ q ≠ al
  | _ + 2, m₁, n₁ => ∃ (tv : Option Value) (S1 : SymSt) (q : Nat) (t3 t4 : Tok) (e : Nat), m₁ = bindM m (Str.ofString "part") tv ∧ n₁ = SymL w a S1 ((q, tupO [.str (Str.ofString "a") t3, .int ci t4]) :: (al, listOf #[.ref q, .ref b] e) :: R) ∧ SymOk w a S1 T Fs K ∧ Off a ((q, tupO [.str (Str.ofString "a") t3, .int ci t4]) :: (al, listOf #[.ref q, .ref b] e) :: R) ∧ q ≠ al
theorem symL_lt {w : World} {a : SymAd} {S : SymSt} {R : List (Addr × Obj)} {al : Addr} (h : a.x < al ∧ a.dx < al ∧ a.tx < al ∧ a.ax < al ∧ a.fx < al ∧ a.gx < al ∧ AllLt al R) : ∀ p ∈ SymL w a S R, p.1 < al := by
  obtain ⟨h1, h2, h3, h4, h5, h6, h7⟩ := h
  intro p hp
  simp only [List.mem_cons] at hp
  rcases hp with rfl | rfl | rfl | rfl | rfl | rfl | hp
  · exact h1
  · exact h2
  · exact h3
  · exact h4
  · exact h5
  · exact h6
  · exact ktn_ltOf h7 p hp
theorem led_ne {w : World} {a : SymAd} {S : SymSt} {X : List (Addr × Obj)} {I : Nat} {o : Obj} (off : Off a ((I, o) :: X)) (h : ∀ p ∈ X, p.1 ≠ I) : ∀ p ∈ SymL w a S X, p.1 ≠ I := by
  intro p hp
  simp only [List.mem_cons] at hp
  rcases hp with rfl | rfl | rfl | rfl | rfl | rfl | hp
  · exact (off.2 _ (.head _)).symm
  · exact (off.1 _ (.head _)).symm
  · exact (off.3 _ (.head _)).symm
  · exact (off.4 _ (.head _)).symm
  · exact (off.5 _ (.head _)).symm
  · exact (off.6 _ (.head _)).symm
  · exact h p hp
theorem off_ne {a : SymAd} {X : List (Addr × Obj)} {al : Nat} {o : Obj} (off : Off a X) (hm : (al, o) ∈ X) : al ≠ a.dx ∧ al ≠ a.x ∧ al ≠ a.tx ∧ al ≠ a.ax ∧ al ≠ a.fx ∧ al ≠ a.gx := ⟨off.1 _ hm, off.2 _ hm, off.3 _ hm, off.4 _ hm, off.5 _ hm, off.6 _ hm⟩
theorem off_new {a : SymAd} {w : World} {S : SymSt} {X : List (Addr × Obj)} {q : Nat} {o : Obj} (off : Off a X) (h : ∀ p ∈ SymL w a S X, p.1 < q) : Off a ((q, o) :: X) := by
  have h' : ∀ {b : Nat} {ob : Obj}, (b, ob) ∈ SymL w a S X → q ≠ b := fun hm => Nat.ne_of_gt (h _ hm)
  exact off.cons (h' (.tail _ (.head _))) (h' (.head _)) (h' (.tail _ (.tail _ (.head _)))) (h' (.tail _ (.tail _ (.tail _ (.head _))))) (h' (.tail _ (.tail _ (.tail _ (.tail _ (.head _)))))) (h' (.tail _ (.tail _ (.tail _ (.tail _ (.tail _ (.head _)))))))
theorem jf_end {w : World} {a : SymAd} {S S0 : SymSt} {R : List (Addr × Obj)} {q al I : Nat} {qo alo o0 oI : Obj} {h₀ h : Heap} {L : Addr} (off : Off a R) (d : al ≠ a.dx ∧ al ≠ a.x ∧ al ≠ a.tx ∧ al ≠ a.ax ∧ al ≠ a.fx ∧ al ≠ a.gx)
    (hq : a.x < q ∧ a.dx < q ∧ a.tx < q ∧ a.ax < q ∧ a.fx < q ∧ a.gx < q ∧ I < q ∧ al < q ∧ AllLt q R) (hne : ∀ p ∈ SymL w a S0 ((al, o0) :: R), p.1 ≠ I) (N : News h₀ L h ((q, qo) :: SymL w a S ((I, oI) :: (al, alo) :: R))) :
    News h₀ L h ((I, oI) :: SymL w a S ((q, qo) :: (al, alo) :: R)) ∧ (∀ p ∈ SymL w a S ((q, qo) :: (al, alo) :: R), p.1 ≠ I) ∧ Off a ((q, qo) :: (al, alo) :: R) ∧ q ≠ al := by
  obtain ⟨h1, h2, h3, h4, h5, h6, h7, h8, h9⟩ := hq
  have o2 : Off a ((q, qo) :: (al, alo) :: R) := (off.cons d.1 d.2.1 d.2.2.1 d.2.2.2.1 d.2.2.2.2.1 d.2.2.2.2.2).cons (Nat.ne_of_gt h2) (Nat.ne_of_gt h1) (Nat.ne_of_gt h3) (Nat.ne_of_gt h4) (Nat.ne_of_gt h5) (Nat.ne_of_gt h6)
  refine ⟨news_sub N fun z hz => by simp only [List.mem_cons] at hz ⊢; grind, fun p hp => ?_, o2, Nat.ne_of_gt h8⟩
  simp only [List.mem_cons] at hp
  rcases hp with rfl | rfl | rfl | rfl | rfl | rfl | rfl | rfl | hp
  · exact hne (a.x, instObj 154 a.dx) (.head _)
  · exact hne _ (.tail _ (.head _))
  · exact hne (a.tx, listOf S0.vT S0.eT) (.tail _ (.tail _ (.head _)))
  · exact hne (a.ax, S0.oa) (.tail _ (.tail _ (.tail _ (.head _))))
  · exact hne (a.fx, listOf S0.vF S0.eF) (.tail _ (.tail _ (.tail _ (.tail _ (.head _)))))
  · exact hne (a.gx, S0.og) (.tail _ (.tail _ (.tail _ (.tail _ (.tail _ (.head _))))))
  · exact Nat.ne_of_gt h7
  · exact hne (al, o0) (symL_tail (.head _))
  · exact hne p (symL_tail (.tail _ hp))
theorem off_set {a : SymAd} {R : List (Addr × Obj)} {q al : Nat} {qo o o' : Obj} (off : Off a ((q, qo) :: (al, o) :: R)) : Off a ((q, qo) :: (al, o') :: R) := by
  have key : ∀ b : Nat, (∀ p ∈ (q, qo) :: (al, o) :: R, p.1 ≠ b) → ∀ p ∈ (q, qo) :: (al, o') :: R, p.1 ≠ b := by
    intro b h p hp
    simp only [List.mem_cons] at hp
    rcases hp with rfl | rfl | hp
    · exact h _ (.head _)
    · exact h (al, o) (.tail _ (.head _))
    · exact h p (.tail _ (.tail _ hp))
  exact ⟨key _ off.1, key _ off.2, key _ off.3, key _ off.4, key _ off.5, key _ off.6⟩
theorem off_tl {a : SymAd} {R : List (Addr × Obj)} {p : Addr × Obj} (off : Off a (p :: R)) : Off a R :=
  ⟨fun q hq => off.1 q (.tail _ hq), fun q hq => off.2 q (.tail _ hq), fun q hq => off.3 q (.tail _ hq), fun q hq => off.4 q (.tail _ hq), fun q hq => off.5 q (.tail _ hq), fun q hq => off.6 q (.tail _ hq)⟩
theorem jf_end2 {w : World} {a : SymAd} {S : SymSt} {R : List (Addr × Obj)} {q al I : Nat} {qo o o' oI : Obj} {h₀ h : Heap} {L : Addr} (off : Off a ((I, oI) :: (q, qo) :: (al, o) :: R)) (hne : ∀ p ∈ SymL w a S ((q, qo) :: (al, o) :: R), p.1 ≠ I) (N : News h₀ L h (SymL w a S ((I, oI) :: (q, qo) :: (al, o') :: R))) :
    News h₀ L h ((I, oI) :: SymL w a S ((q, qo) :: (al, o') :: R)) ∧ (∀ p ∈ SymL w a S ((q, qo) :: (al, o') :: R), p.1 ≠ I) ∧ Off a ((q, qo) :: (al, o') :: R) := by
  have o1 := off_set (o' := o') (off_tl off)
  obtain ⟨N2, h2⟩ := led_out (w := w) (S := S) N (o1.cons (off.1 _ (.head _)) (off.2 _ (.head _)) (off.3 _ (.head _)) (off.4 _ (.head _)) (off.5 _ (.head _)) (off.6 _ (.head _))) (fun p hp => by
    simp only [List.mem_cons] at hp
    rcases hp with rfl | rfl | hp
    · exact hne _ (symL_tail (.head _))
    · exact hne (al, o) (symL_tail (.tail _ (.head _)))
    · exact hne p (symL_tail (.tail _ (.tail _ hp))))
  exact ⟨N2, h2, o1⟩
theorem formal_mk {news : List (Addr × Obj)} {fo fa q b : Nat} {ci fi : Int} {t1 t2 t3 t4 : Tok} (h1 : (fo, tupO [.str (Str.ofString "s") t1, .int fi t2, .ref fa]) ∈ news) (h2 : (fa, tupO [.ref q, .ref b]) ∈ news) (h3 : (q, tupO [.str (Str.ofString "a") t3, .int ci t4]) ∈ news) : FormalAt news fo ci fi b := ⟨fa, q, t1, t2, t3, t4, h1, h2, h3⟩
theorem formal_c {w : World} {a : SymAd} {S : SymSt} {T : List Str} {Fs : List (Int × Int)} {K R : List (Addr × Obj)} {D b : Nat} {bs : List Value} {tkc tk2 : Tok} (ok : SymOk w a S T Fs K) (hsub : ∀ p ∈ K, p ∈ R) (off : Off a R) (hT : T.length ≤ 1000000) (hF : Fs.length ≤ 1000000)
    (c1 : sCall ∈ T) (c2 : sTE ∈ T) (c3 : (((T.idxOf sTE : Nat) : Int), (2 : Int)) ∈ Fs) (hD : (D, tupO [.str sCall tkc, .ref b]) ∈ R) (hb : (b, tupO bs) ∈ R) :
    Ctr w 200 [.ref a.x, .str sTE tk2, .ref D] 30 (SymL w a S R) (fun n' r => (∀ p ∈ R, p ∈ n') ∧ ∃ fo, r = .ref fo ∧ FormalAt n' fo (T.idxOf sCall : Nat) (Fs.idxOf (((T.idxOf sTE : Nat) : Int), (2 : Int)) : Nat) b) := by
  unfold Ctr
  k_fill
  intro mean mg mb dp un gd cn cs a' ccd cl outer A₀ base h₀ L m s Q E B F X N T' hk hdd hu hret
  refine wpAny_call ?_; k_dflt ktr_enter; k_steps
  (rename News _ _ _ (_ :: _) => N1)
  (rename (_ < _ ∧ _ < _ ∧ _) => l1)
  have l2 : ∀ p ∈ SymL w a S R, p.1 < _ := symL_lt l1
  obtain ⟨N2, off2⟩ := led_in N1 (fun p hp => Nat.ne_of_lt (l2 p hp)) off
  have hRal : ∀ p ∈ R, p.1 ≠ _ := fun p hp => Nat.ne_of_lt (l2 p (symL_tail hp))
  clear N1
  refine iter_tup (JF w a S T Fs K R b (T.idxOf sCall : Nat) _ _) (by assumption) N2 (symL_tail (.tail _ hD)) rfl ⟨_, bindM_start _ _, rfl⟩ ?_ ?_ ?_
  · rintro (_ | _ | i) m₁ n₁ hJ
    · obtain ⟨tv, _, rfl⟩ := hJ; exact symL_tail (.tail _ hD)
    · obtain ⟨tv, S1, q, t3, t4, e, _, rfl, _⟩ := hJ; exact symL_tail (.tail _ (.tail _ hD))
    · obtain ⟨tv, S1, q, t3, t4, e, _, rfl, _⟩ := hJ; exact symL_tail (.tail _ (.tail _ hD))
  · rintro (_ | _ | i) v m₁ news₁ h tk I oI hv hJ hne F₁ N₁
    · obtain ⟨tv, rfl, rfl⟩ := hJ
      clear N2
      obtain rfl : .str sCall tkc = v := by simpa using hv
      obtain ⟨N3, off3⟩ := led_in N₁ hne off2
      clear N₁
      obtain ⟨d1, d2, d3, d4, d5, d6⟩ := off_ne off2 (.head _)
      have d7 : (_ : Nat) ≠ I := hne _ (symL_tail (.head _))
      k_steps
      (rename News _ _ _ (_ :: _) => N5)
      (rename Fr _ _ _ _ => F5)
      (rename SymOk _ _ _ _ _ _ => ok5)
      rw [show atomTo T sCall = T from if_pos c1] at ok5
      obtain ⟨N6, hne6, off6, hqa⟩ := jf_end off ⟨d1, d2, d3, d4, d5, d6⟩ (by assumption) hne N5
      exact ⟨_, _, _, _, rfl, bind_fix F5, N6, hne6, _, _, _, _, _, _, rfl, rfl, ok5, off6, hqa⟩
    · obtain ⟨tv, S1, q, t3, t4, e, rfl, rfl, ok1, off1, hqa⟩ := hJ
      clear N2
      obtain rfl : .ref b = v := by simpa using hv
      obtain ⟨N3, off3⟩ := led_in N₁ hne off1
      clear N₁
      obtain ⟨d1, d2, d3, d4, d5, d6⟩ := off_ne off2 (.head _)
      have d7 : (_ : Nat) ≠ I := hne _ (symL_tail (.tail _ (.head _)))
      have hb9 : (b, tupO bs) ∈ R := hb
      dsimp only [envOf] at F₁ N3
      k_steps
      (rename News _ _ _ (_ :: _) => N5)
      (rename Fr _ _ _ _ => F5)
      obtain ⟨N6, hne6, off6⟩ := jf_end2 off3 hne N5
      exact ⟨_, _, _, _, rfl, bind_fix F5, N6, hne6, _, _, _, _, _, _, rfl, rfl, ok1, off6, hqa⟩
    · simp at hv
  · intro h' tk m' news' F' N' hJ
    obtain ⟨tv, S1, q, t3, t4, e, rfl, rfl, ok1, off1, hqa⟩ := hJ
    clear N2
    dsimp only [envOf] at F' N'
    k_steps
    (rename News h₀ L _ (_ :: _) => kN)
    refine hret _ _ _ _ (by assumption) kN ⟨fun p hp => ?_, _, rfl, ?_⟩
    · simp only [List.mem_cons, hp, or_true]
    · refine' formal_mk ?h1 ?h2 ?h3
      (case h1 => k_mem)
      (case h2 => k_mem)
      (case h3 => k_mem)
end

section

theorem start_E2_0 : (0 : Nat) ≤ 1 := by
  w_top off
  k_with_none
  k_with "m:ktr_room" => (first | exact Nat.le_of_ble_eq_true rfl | exact rm0 (by assumption) | exact rm1 (by assumption) (by first | exact Nat.le_of_ble_eq_true rfl | exact Nat.le_add_right_of_le (Nat.le_of_ble_eq_true rfl) | exact dpl1 (by assumption) | exact dpl2 (by assumption) | omega) | exact rm2 (by assumption) (by first | exact Nat.le_of_ble_eq_true rfl | exact Nat.le_add_right_of_le (Nat.le_of_ble_eq_true rfl) | exact dpl1 (by assumption) | exact dpl2 (by assumption) | omega) | exact rm3 (by assumption) (by first | exact Nat.le_of_ble_eq_true rfl | exact Nat.le_add_right_of_le (Nat.le_of_ble_eq_true rfl) | exact dpl1 (by assumption) | exact dpl2 (by assumption) | omega) | exact lwr (by assumption) | omega | ((try simp only [depth_under_make, depth_under_kw, depth_in1, depth_deeper, depth_caller] at *); (try dsimp only [ktrTop] at *); omega))
  k_with "m:ktr_units" => (first | exact Nat.le_of_ble_eq_true rfl | exact un1 (by assumption) (by first | exact Nat.le_of_ble_eq_true rfl | exact Nat.le_add_right_of_le (Nat.le_of_ble_eq_true rfl) | exact dpl1 (by assumption) | exact dpl2 (by assumption) | omega) | exact un2 (by assumption) (by first | exact Nat.le_of_ble_eq_true rfl | exact Nat.le_add_right_of_le (Nat.le_of_ble_eq_true rfl) | exact dpl1 (by assumption) | exact dpl2 (by assumption) | omega) | exact un3 (by assumption) (by first | exact Nat.le_of_ble_eq_true rfl | exact Nat.le_add_right_of_le (Nat.le_of_ble_eq_true rfl) | exact dpl1 (by assumption) | exact dpl2 (by assumption) | omega) | exact lwu (by assumption) | omega | ((try simp only [units_under_make, units_in1, units_deeper, Around.mark_units, units_caller] at *); (try dsimp only [ktrTop] at *); omega))
  k_with "m:k_mem" => first | assumption | exact List.Mem.head _ | (refine' List.Mem.tail _ ?_; k_mem)
  k_with "m:k_all" => assumption
  k_with "m:eval Call" => ((with_reducible show wpAny _ _ (eval (Expr.Call (Expr.Name _ _) _ [] _) _) _ _ _); k_dflt (refine Call_ ?_))
  k_with "my call" => ((case B => k_asm); (case F => k_asm); (case X => k_asm); (case T => k_asm); (case hk => first | exact rfl | assumption); (case hd => ktr_room); (case hu => ktr_units); k_whole)
  k_with "m:call ref" => (k_here; (fail_if_success (fail_if_success (with_reducible show wpAny _ _ (PySem.call (PySem.Value.ref 51) _ _) _ _ _))); k_dflt (refine' ctr_use (exc_c) (by k_asm) (by k_asm) (by k_asm) (by k_asm) (by k_asm) (by first | exact rfl | assumption) (by ktr_room) (by ktr_units) ?_); intro r' n' h' tk' F' N' o'; obtain ⟨e', d', t', hh', tok', e1', ne1', ned', net', e2'⟩ := o'; subst e1' e2'; (try k_sweep); (try k_fold))
  exact Nat.zero_le 1
def ExcOut (news : List (Addr × Obj)) (fo : Nat) (n' : List (Addr × Obj)) (r : Value) : Prop :=
  ∃ (e d t b1 b2 sa : Nat) (hh : Int) (tok t1 t2 : Tok) (n1 : List (Addr × Obj)), n' = (e, excO d t) :: n1 ∧ (∀ p ∈ n1, p.1 ≠ e) ∧ (∀ p ∈ news, p ∈ n1) ∧ (d, ballD hh b1 tok) ∈ n1 ∧ (b1, tupO [.str (Str.ofString "s") t1, .int 16 t2, .ref b2]) ∈ n1 ∧ (b2, tupO [.ref fo, .ref sa]) ∈ n1 ∧ r = .ref e
theorem exc_mk {news n1 : List (Addr × Obj)} {fo e d t b1 b2 sa : Nat} {hh : Int} {tok t1 t2 : Tok} (hne : ∀ p ∈ n1, p.1 ≠ e) (hs : ∀ p ∈ news, p ∈ n1) (h1 : (d, ballD hh b1 tok) ∈ n1) (h2 : (b1, tupO [.str (Str.ofString "s") t1, .int 16 t2, .ref b2]) ∈ n1) (h3 : (b2, tupO [.ref fo, .ref sa]) ∈ n1) :
    ExcOut news fo ((e, excO d t) :: n1) (.ref e) := ⟨e, d, t, b1, b2, sa, hh, tok, t1, t2, n1, rfl, hne, hs, h1, h2, h3, rfl⟩
theorem system_c {w : World} {news : List (Addr × Obj)} {fo : Nat} : Ctr w 193 [.ref fo] 510 news (ExcOut news fo) := by
  unfold Ctr
  k_fill
  intro mean mg mb dp un gd cn cs a' ccd cl outer A₀ base h₀ L m s Q E B F X N T' hk hdd hu hret
  refine wpAny_call ?_; k_dflt ktr_enter; k_steps
  (rename News h₀ L _ (_ :: _) => kN)
  refine hret _ _ _ _ (by assumption) kN ?_
  refine' exc_mk ?hne ?hs ?h1 ?h2 ?h3
  (case hne => exact List.forall_mem_cons.mpr ⟨Ne.symm (by assumption), List.forall_mem_cons.mpr ⟨Ne.symm (by assumption), by assumption⟩⟩)
  (case hs => (intro p hp; simp only [List.mem_cons, hp, or_true]))
  (case h1 => k_mem)
  (case h2 => k_mem)
  (case h3 => k_mem)
theorem formal_d {w : World} {a : SymAd} {S : SymSt} {T : List Str} {Fs : List (Int × Int)} {K R : List (Addr × Obj)} {D b : Nat} {bs : List Value} {tkc tk2 : Tok} (ok : SymOk w a S T Fs K) (hsub : ∀ p ∈ K, p ∈ R) (off : Off a R) (hT : T.length ≤ 1000000) (hF : Fs.length ≤ 1000000)
    (c1 : sCall ∈ T) (c2 : sTE ∈ T) (c3 : (((T.idxOf sTE : Nat) : Int), (2 : Int)) ∈ Fs) (hb : (b, tupO bs) ∈ R) (lt : a.x < D ∧ a.dx < D ∧ a.tx < D ∧ a.ax < D ∧ a.fx < D ∧ a.gx < D ∧ AllLt D R) :
    Ctr w 200 [.ref a.x, .str sTE tk2, .ref D] 30 ((D, tupO [.str sCall tkc, .ref b]) :: SymL w a S R) (fun n' r => (∀ p ∈ R, p ∈ n') ∧ ∃ fo, r = .ref fo ∧ FormalAt n' fo (T.idxOf sCall : Nat) (Fs.idxOf (((T.idxOf sTE : Nat) : Int), (2 : Int)) : Nat) b) := by
  obtain ⟨h1, h2, h3, h4, h5, h6, h7⟩ := lt
  refine (formal_c (R := (D, tupO [.str sCall tkc, .ref b]) :: R) (b := b) (D := D) ok (fun p hp => .tail _ (hsub p hp)) (off.cons (Nat.ne_of_gt h2) (Nat.ne_of_gt h1) (Nat.ne_of_gt h3) (Nat.ne_of_gt h4) (Nat.ne_of_gt h5) (Nat.ne_of_gt h6)) hT hF c1 c2 c3 (.head _) (.tail _ hb)).perm ?_ ?_
  · intro p hp; simp only [List.mem_cons] at hp ⊢; grind
  · rintro n r ⟨hs, fo, e, hf⟩
    exact ⟨n, fun p hp => hp, fun p hp => hs p (.tail _ hp), fo, e, hf⟩
theorem start_E2_1 : (0 : Nat) ≤ 1 := by
  w_top off
  k_with "m:call ref" => (k_here; (fail_if_success (fail_if_success (with_reducible show wpAny _ _ (PySem.call (PySem.Value.ref 200) _ _) _ _ _))); k_dflt (refine' ctr_N (by k_asm) (by k_asm) (by k_asm) (by k_asm) (by k_asm) (by first | exact rfl | assumption) (formal_d (by assumption) (by assumption) (by assumption) (by assumption) (by assumption) (by assumption) (by assumption) (by assumption) (by assumption) (by assumption)) (by ktr_room) (by ktr_units) ?_); intro r' n' h' tk' F' N' o'; obtain ⟨hs', fo', e2', fa'⟩ := o'; subst e2'; (try k_sweep); (try k_fold))
  k_with "m:call ref" => (k_here; (fail_if_success (fail_if_success (with_reducible show wpAny _ _ (PySem.call (PySem.Value.ref 193) _ _) _ _ _))); k_dflt (refine' ctr_use system_c (by k_asm) (by k_asm) (by k_asm) (by k_asm) (by k_asm) (by first | exact rfl | assumption) (by ktr_room) (by ktr_units) ?_); intro r' n' h' tk' F' N' o'; (try k_sweep); (try k_fold))
  exact Nat.zero_le 1
theorem type_c {w : World} {a : SymAd} {S : SymSt} {T : List Str} {Fs : List (Int × Int)} {K R : List (Addr × Obj)} {b : Nat} {bs : List Value} {tkc : Tok} (ok : SymOk w a S T Fs K) (hsub : ∀ p ∈ K, p ∈ R) (off : Off a R) (hT : T.length ≤ 1000000) (hF : Fs.length ≤ 1000000)
    (c1 : sCall ∈ T) (c2 : sTE ∈ T) (c3 : (((T.idxOf sTE : Nat) : Int), (2 : Int)) ∈ Fs) (hb : (b, tupO bs) ∈ R) :
    Ctr w 214 [.ref a.x, .str sCall tkc, .ref b] 530 (SymL w a S R) (fun n' r => ∃ news fo, (∀ p ∈ R, p ∈ news) ∧ FormalAt news fo (T.idxOf sCall : Nat) (Fs.idxOf (((T.idxOf sTE : Nat) : Int), (2 : Int)) : Nat) b ∧ ExcOut news fo n' r) := by
  unfold Ctr
  k_fill
  intro mean mg mb dp un gd cn cs a' ccd cl outer A₀ base h₀ L m s Q E B F X N T' hk hdd hu hret
  refine wpAny_call ?_; k_dflt ktr_enter; k_steps
  exact hret _ _ _ _ (by assumption) (by assumption) ⟨_, _, by assumption, by assumption, by assumption⟩
end

section

theorem start_E3_0 : (0 : Nat) ≤ 1 := by
  w_top off
  k_with_none
  k_with "m:callWith" => (walk_plain_pass; first | refine callWith_method1 ?_ | refine callWith_builtin1 ?_)
  k_with "m:subscriptTail Name Constant ref int" => (k_here; (with_reducible show wpAny _ _ (subscriptTail _ _ (Value.ref _) (Value.int _ _)) _ _ _); k_dflt (refine' item_tupleT (by exact News.isTup (by k_asm) (by k_mem)) (by decide) (by decide) (by rfl) (by rfl) ?_; k_whole))
  k_with "m:subscriptTail Subscript" => (k_here; (with_reducible show wpAny _ _ (subscriptTail _ _ (Value.ref _) (Value.int _ _)) _ _ _); first | k_dflt (refine' item_tupleT (by exact News.isTup (by k_asm) (by k_mem)) (by decide) (by decide) (by rfl) (by rfl) ?_; k_whole) | (exfalso; omega))
  k_with "m:ktr_room" => (first | exact Nat.le_of_ble_eq_true rfl | exact rm0 (by assumption) | exact rm1 (by assumption) (by first | exact Nat.le_of_ble_eq_true rfl | exact Nat.le_add_right_of_le (Nat.le_of_ble_eq_true rfl) | exact dpl1 (by assumption) | exact dpl2 (by assumption) | omega) | exact rm2 (by assumption) (by first | exact Nat.le_of_ble_eq_true rfl | exact Nat.le_add_right_of_le (Nat.le_of_ble_eq_true rfl) | exact dpl1 (by assumption) | exact dpl2 (by assumption) | omega) | exact rm3 (by assumption) (by first | exact Nat.le_of_ble_eq_true rfl | exact Nat.le_add_right_of_le (Nat.le_of_ble_eq_true rfl) | exact dpl1 (by assumption) | exact dpl2 (by assumption) | omega) | exact lwr (by assumption) | omega | ((try simp only [depth_under_make, depth_under_kw, depth_in1, depth_deeper, depth_caller] at *); (try dsimp only [ktrTop] at *); omega))
  k_with "m:ktr_units" => (first | exact Nat.le_of_ble_eq_true rfl | exact un1 (by assumption) (by first | exact Nat.le_of_ble_eq_true rfl | exact Nat.le_add_right_of_le (Nat.le_of_ble_eq_true rfl) | exact dpl1 (by assumption) | exact dpl2 (by assumption) | omega) | exact un2 (by assumption) (by first | exact Nat.le_of_ble_eq_true rfl | exact Nat.le_add_right_of_le (Nat.le_of_ble_eq_true rfl) | exact dpl1 (by assumption) | exact dpl2 (by assumption) | omega) | exact un3 (by assumption) (by first | exact Nat.le_of_ble_eq_true rfl | exact Nat.le_add_right_of_le (Nat.le_of_ble_eq_true rfl) | exact dpl1 (by assumption) | exact dpl2 (by assumption) | omega) | exact lwu (by assumption) | omega | ((try simp only [units_under_make, units_in1, units_deeper, Around.mark_units, units_caller] at *); (try dsimp only [ktrTop] at *); omega))
  k_with "m:k_mem" => first | assumption | exact List.Mem.head _ | (refine' List.Mem.tail _ ?_; k_mem)
  k_with "m:k_all" => assumption
  k_with "m:eval Call" => ((with_reducible show wpAny _ _ (eval (Expr.Call (Expr.Name _ _) _ [] _) _) _ _ _); k_dflt (refine Call_ ?_))
  k_with "my call" => ((case B => k_asm); (case F => k_asm); (case X => k_asm); (case T => k_asm); (case hk => first | exact rfl | assumption); (case hd => ktr_room); (case hu => ktr_units); k_whole)
  exact Nat.zero_le 1
theorem atomt_c {w : World} {news : List (Addr × Obj)} {n : Int} {tk : Tok} : Ctr w 179 [.int n tk] 3 news (fun n' r => ∃ (q : Nat) (t1 : Tok), n' = (q, tupO [.str (Str.ofString "a") t1, .int n tk]) :: news ∧ (∀ p ∈ news, p.1 < q) ∧ r = .ref q) := by
  unfold Ctr
  k_fill
  intro mean mg mb dp un gd cn cs a' ccd cl outer A₀ base h₀ L m s Q E B F X N T' hk hdd hu hret
  refine wpAny_call ?_; k_dflt ktr_enter; k_steps
  (rename News h₀ L _ (_ :: _) => kN)
  exact hret _ _ _ _ (by assumption) kN ⟨_, _, rfl, by assumption, rfl⟩
inductive HeadIs (R : List (Addr × Obj)) (h : Nat) : Prop
  | a {n : Int} {t1 t2 : Tok} : (h, tupO [.str (Str.ofString "a") t1, .int n t2]) ∈ R → HeadIs R h
  | s {f : Int} {t1 t2 : Tok} {g : Nat} : (h, tupO [.str (Str.ofString "s") t1, .int f t2, .ref g]) ∈ R → f ≠ 5 → HeadIs R h
theorem HeadIs.mono {R R' : List (Addr × Obj)} {h : Nat} (x : HeadIs R h) (s : ∀ p ∈ R, p ∈ R') : HeadIs R' h := by
  cases x with
  | a h1 => exact .a (s _ h1)
  | s h1 h2 => exact .s (s _ h1) h2
theorem callable_c {w : World} {news : List (Addr × Obj)} {h : Nat} (hh : HeadIs news h) : Ctr w 186 [.ref h] 3 news (fun n' r => n' = news ∧ r = .bool true) := by
  unfold Ctr
  k_fill
  intro mean mg mb dp un gd cn cs a' ccd cl outer A₀ base h₀ L m s Q E B F X N T' hk hdd hu hret
  cases hh with
  | a h1 =>
    refine wpAny_call ?_; k_dflt ktr_enter; k_steps
    exact hret _ _ _ _ (by assumption) (by assumption) ⟨rfl, rfl⟩
  | s h1 h2 =>
    refine wpAny_call ?_; k_dflt ktr_enter; k_steps
    exact hret _ _ _ _ (by assumption) (by assumption) ⟨rfl, rfl⟩
theorem isb_b {w : World} {t0 : Tr} {R : List (Addr × Obj)} {a : Nat} {v : Bool} (ht : At R a t0) (hd10 : t0.dep ≤ 10) (hb : soundT t0 = v) : Ctr w 221 [.ref a] 10 R (fun n' r => R <:+ n' ∧ r = .bool v) := by rw [← hb]; exact isb_c w t0 R a ht hd10
theorem leaf_dep {a : Nat} {k : Str} {n : Int} : (Tr.leaf a k n).dep ≤ 10 := by simp [Tr.dep]
theorem start_E3_1 : (0 : Nat) ≤ 1 := by
  w_top off
  k_with "my tree" => (refine At.mono (by assumption) ?_; intro p9 h9; simp only [List.mem_cons, List.mem_append, h9, or_true, true_or])
  k_with "m:call ref" => (k_here; (fail_if_success (fail_if_success (with_reducible show wpAny _ _ (PySem.call (PySem.Value.ref 221) _ _) _ _ _))); k_dflt (refine' ctr_N (by k_asm) (by k_asm) (by k_asm) (by k_asm) (by k_asm) (by first | exact rfl | assumption) (isb_b (v := true) (by first | (walk_at "my tree") | exact ⟨.leaf (List.Mem.head _) (.inl rfl), rfl⟩) (by first | assumption | exact leaf_dep) (by first | assumption | rfl)) (by ktr_room) (by ktr_units) ?_); intro r' n' h' tk' F' N' o'; obtain ⟨⟨tl', e1'⟩, e2'⟩ := o'; subst e1' e2'; (try k_sweep); (try k_fold))
  k_with "m:call ref" => (k_here; (fail_if_success (fail_if_success (with_reducible show wpAny _ _ (PySem.call (PySem.Value.ref 186) _ _) _ _ _))); k_dflt (refine' ctr_N (by k_asm) (by k_asm) (by k_asm) (by k_asm) (by k_asm) (by first | exact rfl | assumption) (callable_c (by (refine HeadIs.mono (by assumption) ?_; intro p9 h9; simp only [List.mem_cons, List.mem_append, h9, or_true, true_or]))) (by ktr_room) (by ktr_units) ?_); intro r' n' h' tk' F' N' o'; obtain ⟨e1', e2'⟩ := o'; subst e1' e2'; (try k_sweep); (try k_fold))
  k_with "m:call ref" => (k_here; (fail_if_success (fail_if_success (with_reducible show wpAny _ _ (PySem.call (PySem.Value.ref 179) _ _) _ _ _))); k_dflt (refine' ctr_use atomt_c (by k_asm) (by k_asm) (by k_asm) (by k_asm) (by k_asm) (by first | exact rfl | assumption) (by ktr_room) (by ktr_units) ?_); intro r' n' h' tk' F' N' o'; obtain ⟨q', t', e1', lt', e2'⟩ := o'; subst e1' e2'; (try k_sweep); (try k_fold))
  k_with "m:k_mem" => first | assumption | (refine' List.mem_append.mpr (Or.inr ?_); k_mem) | exact List.Mem.head _ | (refine' List.Mem.tail _ ?_; k_mem) | (refine' List.mem_append.mpr (Or.inl ?_); k_mem)
  exact Nat.zero_le 1
theorem sph_mk {R n' : List (Addr × Obj)} {h q b : Nat} {t1 t2 : Tok} (hs : ∀ p ∈ R, p ∈ n') (h1 : (q, tupO [.ref h, .ref b]) ∈ n') (h2 : (b, tupO [.str (Str.ofString "a") t1, .int 16 t2]) ∈ n') :
    (∀ p ∈ R, p ∈ n') ∧ ∃ (q' b : Nat) (t1 t2 : Tok), (q', tupO [.ref h, .ref b]) ∈ n' ∧ (b, tupO [.str (Str.ofString "a") t1, .int 16 t2]) ∈ n' ∧ Value.ref q = .ref q' := ⟨hs, q, b, t1, t2, h1, h2, rfl⟩
theorem split_h {w : World} {R : List (Addr × Obj)} {h x : Nat} (hh : HeadIs R h) : Ctr w 228 [.ref x, .ref h] 30 R (fun n' r => (∀ p ∈ R, p ∈ n') ∧ ∃ (q b : Nat) (t1 t2 : Tok), (q, tupO [.ref h, .ref b]) ∈ n' ∧ (b, tupO [.str (Str.ofString "a") t1, .int 16 t2]) ∈ n' ∧ r = .ref q) := by
  unfold Ctr
  k_fill
  intro mean mg mb dp un gd cn cs a' ccd cl outer A₀ base h₀ L m s Q E B F X N T' hk hdd hu hret
  have hh0 := hh
  cases hh with
  | a h1 =>
    refine wpAny_call ?_; k_dflt ktr_enter; k_steps
    (rename News h₀ L _ (_ :: _) => kN)
    refine hret _ _ _ _ (by assumption) kN ?_
    refine' sph_mk ?hs ?h1 ?h2
    (case hs => (intro p hp; simp only [List.mem_cons, List.mem_append, hp, or_true]))
    (case h1 => exact .head _)
    (case h2 => k_mem)
  | s h1 h2 =>
    refine wpAny_call ?_; k_dflt ktr_enter; k_steps
    all_goals try (exfalso; omega)
    (rename News h₀ L _ (_ :: _) => kN)
    refine hret _ _ _ _ (by assumption) kN ?_
    refine' sph_mk ?hs ?h1 ?h2
    (case hs => (intro p hp; simp only [List.mem_cons, List.mem_append, hp, or_true]))
    (case h1 => exact .head _)
    (case h2 => k_mem)
theorem split_s {w : World} {R : List (Addr × Obj)} {h x c p b : Nat} {t1 t2 : Tok} {t : Tr} (hc : (c, tupO [.str (Str.ofString "s") t1, .int 5 t2, .ref p]) ∈ R) (hp : (p, tupO [.ref h, .ref b]) ∈ R) (hh : HeadIs R h) (ht : At R b t) (hd10 : t.dep ≤ 10) (hs : soundT t = true) :
    Ctr w 228 [.ref x, .ref c] 30 R (fun n' r => (∀ p ∈ R, p ∈ n') ∧ ∃ (q : Nat), (q, tupO [.ref h, .ref b]) ∈ n' ∧ r = .ref q) := by
  unfold Ctr
  k_fill
  intro mean mg mb dp un gd cn cs a' ccd cl outer A₀ base h₀ L m s Q E B F X N T' hk hdd hu hret
  have hh0 := hh
  cases hh with
  | a h1 =>
    refine wpAny_call ?_; k_dflt ktr_enter; k_steps
    (rename News h₀ L _ (_ :: _) => kN)
    refine hret _ _ _ _ (by assumption) kN ⟨?_, _, .head _, rfl⟩
    intro p hp; simp only [List.mem_cons, List.mem_append, hp, or_true]
  | s h1 h2 =>
    refine wpAny_call ?_; k_dflt ktr_enter; k_steps
    (rename News h₀ L _ (_ :: _) => kN)
    refine hret _ _ _ _ (by assumption) kN ⟨?_, _, .head _, rfl⟩
    intro p hp; simp only [List.mem_cons, List.mem_append, hp, or_true]
end

section
theorem start_X5_0 : (0 : Nat) ≤ 1 := by
  w_top off
  k_with_none
  exact Nat.zero_le 1
theorem cls51 (w : World) : ktsIn (hd.heap_39 w.params) 51 "BaseException" = true := by rfl
theorem raise_X {prog : Program} {w w' : World} {A : Around} {E : Value → Shared → Prop} {s : Shared} {env : Env} {x : Sem Value} {Q : Flow → Shared → Prop} (hh : A.handled = none)
    (h : wpAny (model prog w) A x (fun v s₁ => ∃ e d t, v = .ref e ∧ (hd.heap_39 w'.params).In s₁.heap ∧ s₁.heap.get? e = some (excO d t) ∧ E (.ref e) s₁) E s) : wpAny (model prog w) A (raiseStmt env (some x) none) Q E s := by
  unfold raiseStmt
  refine wpAny_bind (wpAny_mono h (fun v s₁ h₁ => ?_) fun _ _ x => x)
  obtain ⟨e, d, t, rfl, X, he, hE⟩ := h₁
  obtain ⟨nm, qn, N, bs, bm, hdct, sn, sub, ab, col, dd, k0, k1, k2, k3, k5, newId, hC, hbase, _⟩ := kts_cls X (cls51 w')
  have hcB : (Value.ref 51 :: bm).contains (.type "BaseException") = true := by rw [List.contains_cons, hbase, Bool.or_true]
  obtain ⟨hp, g, d, tk, os⟩ := s₁
  repeat (first | with_reducible refine wpAny_loadPart_at he ?_ | with_reducible refine wpAny_loadPart_at hC ?_ | (with_reducible refine wpAny_isSubtype_exc hC ?_; rw [hcB]) | wp_step)
  exact wpAny_raiseNew_none hh hE
theorem Raise_X {prog : Program} {w w' : World} {A : Around} {E : Value → Shared → Prop} {s : Shared} {env : Env} {x : Expr} {pos : Pos} {Q : Flow → Shared → Prop} (hh : A.handled = none)
    (h : wpAny (model prog w) A (eval x env) (fun v s₁ => ∃ e d t, v = .ref e ∧ (hd.heap_39 w'.params).In s₁.heap ∧ s₁.heap.get? e = some (excO d t) ∧ E (.ref e) s₁) E s) : wpAny (model prog w) A (exec (.Raise (some x) none pos) env) Q E s := by
  show wpAny (model prog w) A (do standAt pos; raiseStmt env (some (do let v ← eval x env; standAt pos; pure v)) none) Q E s
  exact wpAny_bind (wpAny_standAt (raise_X hh (wpAny_bind (wpAny_mono h (fun v s₁ h₁ => wpAny_bind (wpAny_standAt (wpAny_pure h₁))) fun _ _ x => x))))

/-! the exception in flight, with its own dict -/
def RaisedX (base G : Heap) (l : List Env) (e : Nat) (a0 : Value) (d : Addr) (news : List (Addr × Obj)) (h : Heap) : Prop :=
  (∃ B, base.StaysIn B ∧ (∀ b o, G.get? b = some o → b ∉ l.filterMap (·.frame) → B.get? b = some o) ∧ (∀ q ∈ news, B.get? q.1 = some q.2 ∧ G.get? q.1 = none ∧ base.get? q.1 = none) ∧ Heap.FlyingW B l e (.ref 51) a0 h) ∧ RD e (some d) h
theorem leave_X {M : Model} {A : Around} {E : Value → Shared → Prop} {s' : Shared} {base g : Heap} {outer : List Env} {L a : Addr} {e : Nat} {d t : Addr} {m : Str → Option Value} {name : Str} {scope : Scope} {cd : Value} {Q : Unit → Shared → Prop} {news : List (Addr × Obj)}
    (K : Below A base outer g) (F : Fr g L s'.heap m) (N : News g L s'.heap ((e, excO d t) :: news)) (hne : ∀ q ∈ news, q.1 ≠ e)
    (hQ : ∀ h', RaisedX base g outer e (.ref t) d news h' → g.UpToSlots h' → Q () { s' with heap := h' }) (hk : scope.kind = .function := by rfl) :
    wpAny M (A.deeper (envOf name scope L a cd)) (leaving (envOf name scope L a cd) (.ref e)) Q E s' := by
  have K' := K.push (name := name) (a := a) (cd := cd) F hk
  have he := (N _ (.head _)).1
  have heg : g.get? e = none := (N _ (.head _)).2.2
  let fr := (envOf name scope L a cd :: outer).filterMap (·.frame)
  have hin : ∀ env ∈ (envOf name scope L a cd :: outer), ∀ b, env.frame = some b → b ∈ e :: fr := fun env he b hb => .tail _ (List.mem_filterMap.mpr ⟨env, he, hb⟩)
  have notin : ∀ b o, g.get? b = some o → b ∉ outer.filterMap (·.frame) → b ∉ e :: fr := fun b o q nm hm => by
    rcases List.mem_cons.mp hm with z | z
    · rw [z, heg] at q; cases q
    · rcases kts_mem z with z | z
      · rw [z, kts_self F] at q; cases q
      · exact nm z
  have st : base.StaysIn (hideAll s'.heap (e :: fr)) := fun b o q => hideAll_get _ (K'.stays b o q) (notin b o (K.stays b o q) fun hm => by
    rw [(K.frames.mem hm).1] at q; cases q)
  have sg : ∀ b o, g.get? b = some o → b ∉ outer.filterMap (·.frame) → (hideAll s'.heap (e :: fr)).get? b = some o := fun b o q nm => hideAll_get _ (F.keep b o q) (notin b o q nm)
  have hl : ∀ q ∈ news, (hideAll s'.heap (e :: fr)).get? q.1 = some q.2 ∧ g.get? q.1 = none ∧ base.get? q.1 = none := fun q hq => by
    have n := N q (.tail _ hq)
    refine ⟨hideAll_get _ n.1 fun hm => ?_, n.2.2, fresh_of_stays K.stays n.2.2⟩
    rcases List.mem_cons.mp hm with z | z
    · exact hne q hq z
    · obtain ⟨env, he, hf⟩ := List.mem_filterMap.mp z
      rcases List.mem_cons.mp he with rfl | he
      · exact n.2.1 (Option.some.inj hf).symm
      · obtain ⟨o, ho, _⟩ := (K.frames.mem (List.mem_filterMap.mpr ⟨env, he, hf⟩)).2
        rw [n.2.2] at ho; cases ho
  have key : wpAny M (A.deeper (envOf name scope L a cd)) (leaving (envOf name scope L a cd) (.ref e)) (fun _ s'' => ∃ h', s'' = { s' with heap := h' } ∧ Heap.LeftW (hideAll s'.heap (e :: fr)) (envOf name scope L a cd :: outer) e (.ref 51) (.ref t) s'.heap h') E s' :=
    wpAny_leaving_firstW K'.stack (funFrames_hide K'.frames hin) rfl he (fun b o q => of_hideAll _ q) (hideAll_none _ (.head _)) rfl rfl rfl fun h' hL => ⟨h', rfl, hL⟩
  refine wpAny_mono (wpAny_keep (dk_leaving _ _) (RD.of_get he) key) (fun _ s'' hs => ?_) (fun _ _ h => h)
  obtain ⟨⟨h', rfl, k1, ⟨_, _, k2⟩, k3, k4⟩, hrd⟩ := hs
  exact hQ h' ⟨⟨_, st, sg, hl, k1, hideAll_none _ (.head _), k2, k3⟩, hrd⟩ ((Heap.UpToSlots.of_keeps F.keep).trans k4)
end

section

theorem start_E4_0 : (0 : Nat) ≤ 1 := by
  w_top off
  k_with_none
  k_with "m:ktr_room" => (first | exact Nat.le_of_ble_eq_true rfl | exact rm0 (by assumption) | exact rm1 (by assumption) (by first | exact Nat.le_of_ble_eq_true rfl | exact Nat.le_add_right_of_le (Nat.le_of_ble_eq_true rfl) | exact dpl1 (by assumption) | exact dpl2 (by assumption) | omega) | exact rm2 (by assumption) (by first | exact Nat.le_of_ble_eq_true rfl | exact Nat.le_add_right_of_le (Nat.le_of_ble_eq_true rfl) | exact dpl1 (by assumption) | exact dpl2 (by assumption) | omega) | exact rm3 (by assumption) (by first | exact Nat.le_of_ble_eq_true rfl | exact Nat.le_add_right_of_le (Nat.le_of_ble_eq_true rfl) | exact dpl1 (by assumption) | exact dpl2 (by assumption) | omega) | exact lwr (by assumption) | omega | ((try simp only [depth_under_make, depth_under_kw, depth_in1, depth_deeper, depth_caller] at *); (try dsimp only [ktrTop] at *); omega))
  k_with "m:ktr_units" => (first | exact Nat.le_of_ble_eq_true rfl | exact un1 (by assumption) (by first | exact Nat.le_of_ble_eq_true rfl | exact Nat.le_add_right_of_le (Nat.le_of_ble_eq_true rfl) | exact dpl1 (by assumption) | exact dpl2 (by assumption) | omega) | exact un2 (by assumption) (by first | exact Nat.le_of_ble_eq_true rfl | exact Nat.le_add_right_of_le (Nat.le_of_ble_eq_true rfl) | exact dpl1 (by assumption) | exact dpl2 (by assumption) | omega) | exact un3 (by assumption) (by first | exact Nat.le_of_ble_eq_true rfl | exact Nat.le_add_right_of_le (Nat.le_of_ble_eq_true rfl) | exact dpl1 (by assumption) | exact dpl2 (by assumption) | omega) | exact lwu (by assumption) | omega | ((try simp only [units_under_make, units_in1, units_deeper, Around.mark_units, units_caller] at *); (try dsimp only [ktrTop] at *); omega))
  k_with "m:k_mem" => first | assumption | exact List.Mem.head _ | (refine' List.Mem.tail _ ?_; k_mem)
  k_with "m:k_all" => assumption
  k_with "m:eval Call" => ((with_reducible show wpAny _ _ (eval (Expr.Call (Expr.Name _ _) _ [] _) _) _ _ _); k_dflt (refine Call_ ?_))
  k_with "my call" => ((case B => k_asm); (case F => k_asm); (case X => k_asm); (case T => k_asm); (case hk => first | exact rfl | assumption); (case hd => ktr_room); (case hu => ktr_units); k_whole)
  exact Nat.zero_le 1
def CtrE (w : World) (f : Addr) (vs : List Value) (sz : Nat) (news : List (Addr × Obj)) (Out : List (Addr × Obj) → Addr → Prop) : Prop :=
  ∀ (mean : ExcName → Option Value) (mg mb : Str → Option Value) (dp un : Nat) (gd : Option (List Code)) (cn : Str) (cs : Scope) (a : Addr) (ccd : Value) (cl : List (Str × Addr)) (outer : List Env) (A₀ : Around) (base h₀ : Heap) (L : Addr) (m : Str → Option Value) (s : Shared) (Q E : Value → Shared → Prop),
    Below A₀ base outer h₀ → Fr h₀ L s.heap m → (hd.heap_39 w.params).In h₀ → News h₀ L s.heap news → Top hd.view_39 (looseW hd.view_39 []) mean mg mb h₀ → cs.kind = .function → dp + sz < recursionLimit → un + 8 * sz < cLine →
    (∀ e a0 d news' G h' tk', Fr h₀ L G m → RaisedX base G (envX cn cs L a ccd cl :: outer) e a0 d news' h' → G.UpToSlots h' → Out news' d → E (.ref e) { s with heap := h', toks := tk' }) →
    wpAny (model PySem.Challenge.rw_rr0018_01.row.prog w) (ktrTop dp un gd cn cs L a ccd cl outer) (call (.ref f) vs) Q E s
def BallIn (R : List (Addr × Obj)) (ci fi : Int) (b : Nat) (n1 : List (Addr × Obj)) (d : Addr) : Prop :=
  (∀ p ∈ R, p ∈ n1) ∧ ∃ (fo b1 b2 sa : Nat) (hh : Int) (tok t1 t2 : Tok), FormalAt n1 fo ci fi b ∧ (d, ballD hh b1 tok) ∈ n1 ∧ (b1, tupO [.str (Str.ofString "s") t1, .int 16 t2, .ref b2]) ∈ n1 ∧ (b2, tupO [.ref fo, .ref sa]) ∈ n1
theorem FormalAt.mono {R R' : List (Addr × Obj)} {fo b : Nat} {ci fi : Int} (x : FormalAt R fo ci fi b) (s : ∀ p ∈ R, p ∈ R') : FormalAt R' fo ci fi b := by
  obtain ⟨fa, q, t1, t2, t3, t4, h1, h2, h3⟩ := x
  exact ⟨fa, q, t1, t2, t3, t4, s _ h1, s _ h2, s _ h3⟩
theorem At.obj {R : List (Addr × Obj)} {b : Nat} {t : Tr} (h : At R b t) : ∃ bs, (b, tupO bs) ∈ R := by
  obtain ⟨h, rfl⟩ := h
  cases h with
  | leaf h _ => exact ⟨_, h⟩
  | one h _ _ _ => exact ⟨_, h⟩
  | two h _ _ _ _ => exact ⟨_, h⟩
def RaiseEnd (w' : World) (E : Value → Shared → Prop) (v : Value) (s₁ : Shared) : Prop := ∃ e d t, v = .ref e ∧ (hd.heap_39 w'.params).In s₁.heap ∧ s₁.heap.get? e = some (excO d t) ∧ E (.ref e) s₁
theorem Raise_E {prog : Program} {w : World} (w' : World) {A : Around} {E : Value → Shared → Prop} {s : Shared} {env : Env} {x : Expr} {pos : Pos} {Q : Flow → Shared → Prop} (hh : A.handled = none)
    (h : wpAny (model prog w) A (eval x env) (RaiseEnd w' E) E s) : wpAny (model prog w) A (exec (.Raise (some x) none pos) env) Q E s := Raise_X hh h
theorem type_e {w : World} {a : SymAd} {S : SymSt} {T : List Str} {Fs : List (Int × Int)} {K R led : List (Addr × Obj)} {b : Nat} {bs : List Value} {tkc : Tok} (ok : SymOk w a S T Fs K) (hsub : ∀ p ∈ K, p ∈ R) (off : Off a R) (hT : T.length ≤ 1000000) (hF : Fs.length ≤ 1000000)
    (c1 : sCall ∈ T) (c2 : sTE ∈ T) (c3 : (((T.idxOf sTE : Nat) : Int), (2 : Int)) ∈ Fs) (hb : (b, tupO bs) ∈ R) (hl : ∀ p ∈ SymL w a S R, p ∈ led) :
    Ctr w 214 [.ref a.x, .str sCall tkc, .ref b] 530 led (fun n' r => ∃ (e t : Nat) (d : Addr) (n1 : List (Addr × Obj)), n' = (e, excO d t) :: n1 ∧ (∀ p ∈ n1, p.1 ≠ e) ∧ BallIn R (T.idxOf sCall : Nat) (Fs.idxOf (((T.idxOf sTE : Nat) : Int), (2 : Int)) : Nat) b n1 d ∧ r = .ref e) := by
  refine (type_c ok hsub off hT hF c1 c2 c3 hb).perm hl ?_
  rintro n r ⟨news, fo, hs, hf, e, d, t, b1, b2, sa, hh, tok, t1, t2, n1, rfl, hne, hs1, m1, m2, m3, rfl⟩
  exact ⟨_, fun p hp => hp, e, t, d, n1, rfl, hne, ⟨fun p hp => hs1 p (hs p hp), fo, b1, b2, sa, hh, tok, t1, t2, hf.mono hs1, m1, m2, m3⟩, rfl⟩
theorem start_E4_1 : (0 : Nat) ≤ 1 := by
  w_top off
  k_with "my tree" => (refine At.mono (by assumption) ?_; intro p9 h9; simp only [List.mem_cons, List.mem_append, h9, or_true, true_or])
  k_with "m:call ref" => (k_here; (fail_if_success (fail_if_success (with_reducible show wpAny _ _ (PySem.call (PySem.Value.ref 186) _ _) _ _ _))); k_dflt (refine' ctr_N (by k_asm) (by k_asm) (by k_asm) (by k_asm) (by k_asm) (by first | exact rfl | assumption) (callable_c (by (refine HeadIs.mono (by assumption) ?_; intro p9 h9; simp only [List.mem_cons, List.mem_append, h9, or_true, true_or]))) (by ktr_room) (by ktr_units) ?_); intro r' n' h' tk' F' N' o'; obtain ⟨e1', e2'⟩ := o'; subst e1' e2'; (try k_sweep); (try k_fold))
  k_with "m:call ref" => (k_here; (fail_if_success (fail_if_success (with_reducible show wpAny _ _ (PySem.call (PySem.Value.ref 179) _ _) _ _ _))); k_dflt (refine' ctr_use atomt_c (by k_asm) (by k_asm) (by k_asm) (by k_asm) (by k_asm) (by first | exact rfl | assumption) (by ktr_room) (by ktr_units) ?_); intro r' n' h' tk' F' N' o'; obtain ⟨q', t', e1', lt', e2'⟩ := o'; subst e1' e2'; (try k_sweep); (try k_fold))
  k_with "m:k_mem" => first | assumption | exact List.Mem.head _ | (refine' List.Mem.tail _ ?_; k_mem) | ((with_reducible refine' List.mem_append.mpr (Or.inr ?_)); k_mem) | ((with_reducible refine' List.mem_append.mpr (Or.inl ?_)); k_mem)
  k_with "m:call ref" => (k_here; (fail_if_success (fail_if_success (with_reducible show wpAny _ _ (PySem.call (PySem.Value.ref 221) _ _) _ _ _))); k_dflt (refine' ctr_N (by k_asm) (by k_asm) (by k_asm) (by k_asm) (by k_asm) (by first | exact rfl | assumption) (isb_b (v := false) (by first | (walk_at "my tree") | exact ⟨.leaf (List.Mem.head _) (.inl rfl), rfl⟩) (by first | assumption | exact leaf_dep) (by first | assumption | rfl)) (by ktr_room) (by ktr_units) ?_); intro r' n' h' tk' F' N' o'; obtain ⟨⟨tl', e1'⟩, e2'⟩ := o'; subst e1' e2'; (try k_sweep); (try k_fold))
  k_with "m:call ref" => (k_here; k_dflt (refine' ctr_N (by k_asm) (by k_asm) (by k_asm) (by k_asm) (by k_asm) (by first | exact rfl | assumption) (type_e (by assumption) (by assumption) (by assumption) (by assumption) (by assumption) (by assumption) (by assumption) (by assumption) (by assumption) ?_) (by ktr_room) (by ktr_units) ?_; (focus (((rename (∀ p ∈ SymL _ _ _ _, p ∈ _) => hsl); intro p9 h9; have h8 := hsl p9 h9; simp only [List.mem_append, List.mem_cons]; simp only [h8, or_true])))); intro r' n' h' tk' F' N' o'; obtain ⟨e', t', d', n1', e1', ne', ba', e2'⟩ := o'; subst e1' e2'; (try k_sweep); (try k_fold))
  k_with "m:exec Raise some none" => (k_here; refine Raise_E ‹World› rfl ?_)
  exact Nat.zero_le 1
theorem split_x {w : World} {a : SymAd} {S : SymSt} {T : List Str} {Fs : List (Int × Int)} {K R led : List (Addr × Obj)} {h c p b : Nat} {t1 t2 : Tok} {t : Tr} (ok : SymOk w a S T Fs K) (hsub : ∀ p ∈ K, p ∈ R) (off : Off a R) (hT : T.length ≤ 1000000) (hF : Fs.length ≤ 1000000)
    (c1 : sCall ∈ T) (c2 : sTE ∈ T) (c3 : (((T.idxOf sTE : Nat) : Int), (2 : Int)) ∈ Fs) (hsl : ∀ p ∈ SymL w a S R, p ∈ led)
    (hc : (c, tupO [.str (Str.ofString "s") t1, .int 5 t2, .ref p]) ∈ R) (hp : (p, tupO [.ref h, .ref b]) ∈ R) (hh : HeadIs R h) (ht : At R b t) (hd10 : t.dep ≤ 10) (hs : soundT t = false) :
    CtrE w 228 [.ref a.x, .ref c] 540 led (BallIn R (T.idxOf sCall : Nat) (Fs.idxOf (((T.idxOf sTE : Nat) : Int), (2 : Int)) : Nat) b) := by
  unfold CtrE
  k_fill
  intro mean mg mb dp un gd cn cs a' ccd cl outer A₀ base h₀ L m s Q E B F X N T' hk hdd hu hE
  obtain ⟨bs, hbb⟩ := ht.obj
  have hc1 := hsl _ (symL_tail hc)
  have hp1 := hsl _ (symL_tail hp)
  have hh0 := hh.mono fun q hq => hsl _ (symL_tail hq)
  have ht0 := ht.mono fun q hq => hsl _ (symL_tail hq)
  have hh1 := hh0
  clear hc hp hh ht
  cases hh1 with
  | a h1 =>
    refine wpAny_call ?_; k_dflt ktr_enter; k_steps
    (rename News _ _ _ (_ :: _) => N5)
    (rename Fr _ _ _ _ => F5)
    (rename BallIn _ _ _ _ _ _ => ba)
    refine ⟨_, _, _, rfl, Frag.In.keeps (by assumption) F5.keep, (N5 _ (.head _)).1, ?_⟩
    refine leave_X (by assumption) F5 N5 (by assumption) (fun h' R' U' => ?_)
    exact hE _ _ _ _ _ _ _ (by assumption) R' U' ba
  | s h1 h2 =>
    refine wpAny_call ?_; k_dflt ktr_enter; k_steps
    (rename News _ _ _ (_ :: _) => N5)
    (rename Fr _ _ _ _ => F5)
    (rename BallIn _ _ _ _ _ _ => ba)
    refine ⟨_, _, _, rfl, Frag.In.keeps (by assumption) F5.keep, (N5 _ (.head _)).1, ?_⟩
    refine leave_X (by assumption) F5 N5 (by assumption) (fun h' R' U' => ?_)
    exact hE _ _ _ _ _ _ _ (by assumption) R' U' ba
end

section
theorem start_X6_0 : (0 : Nat) ≤ 1 := by
  w_top off
  k_with_none
  exact Nat.zero_le 1
theorem wpAny_keep' {α : Type} {M : Model} {A : Around} {t : Sem α} (hk : DK t) {e : Nat} {d : Option Addr} {Q : α → Shared → Prop} {E : Value → Shared → Prop} {s : Shared} (x : RD e d s.heap) (h : wpAny M A t (fun a s' => RD e d s'.heap → Q a s') E s) : wpAny M A t Q E s :=
  wpAny_mono (wpAny_keep hk x h) (fun _ _ h => h.1 h.2) (fun _ _ h => h)
section
variable {prog : Program} {w w' : World} {A₀ : Around} {E : Value → Shared → Prop} {s' : Shared} {base g G : Heap} {outer : List Env} {L a d : Addr} {e : Nat} {a0 : Value} {m : Str → Option Value} {name : Str} {scope : Scope} {cd : Value}
  {n : Str} {b₀ : Stmt} {suite : List Stmt} {pos np : Pos} {rest : List ExceptHandler} {Q : Flow → Shared → Prop} {news : List (Addr × Obj)} {p : Program} {loose : List Str} {mean : ExcName → Option Value} {mg mb : Str → Option Value} {x : Str}
theorem caught_X (R : RaisedX base G (envOf name scope L a cd :: outer) e a0 d news s'.heap) (F : Fr g L G m) (K : Below A₀ base outer g) (hsm : G.UpToSlots s'.heap) (XB : (hd.heap_39 w'.params).In base) (TB : Top p loose mean mg mb base)
    (ex : nsIn (hd.heap_39 w'.params) mainGlobals x = some (some (.ref 51)))
    (k : ∀ h' g' oe tk, KtsTurn (outer.filterMap (·.frame)) g g' → Fr g' L h' (fun y => if y = n then some (.ref e) else m y) → News g' L h' ((e, oe) :: news) → oe.cls = .ref 51 → oe.dict = some d → (∃ ws, oe.data = .fields ws) → (hd.heap_39 w'.params).In g' → Top p loose mean mg mb g' →
      wpAny (model prog w) ((A₀.deeper (envOf name scope L a cd)).mark (some (.ref e))) (execs (b₀ :: suite) (envOf name scope L a cd))
        (fun f s₄ => wpAny (model prog w) (A₀.deeper (envOf name scope L a cd)) (do bindName (envOf name scope L a cd) n .none; unbindBehindTheSuite (envOf name scope L a cd) n pos) (fun _ s₅ => Q f s₅) E s₄)
        (AsSuiteRaised (model prog w) ((A₀.deeper (envOf name scope L a cd)).mark (some (.ref e))) (envOf name scope L a cd) n pos (notedBy (model prog w) ((A₀.deeper (envOf name scope L a cd)).mark (some (.ref e))) (envOf name scope L a cd) (cameBackBy (model prog w) (A₀.deeper (envOf name scope L a cd)) (envOf name scope L a cd) E)))
        { s' with heap := h', toks := tk })
    (hk : scope.kind = .function := by rfl) (hlo : (envOf name scope L a cd).kindOf n = some .local := by rfl) (hx : (envOf name scope L a cd).kindOf x = some .globalImplicit := by rfl) (hd : (x == ("__debug__" : Str)) = false := by decide) :
    wpAny (model prog w) (A₀.deeper (envOf name scope L a cd)) (noteFrame (.ref e) (envOf name scope L a cd))
      (fun _ s₂ => wpAny (model prog w) (A₀.deeper (envOf name scope L a cd)) (setFlight (.ref e) none) (fun _ s₃ =>
        wpAny (model prog w) (A₀.deeper (envOf name scope L a cd)) (handleBy (.ref e) (envOf name scope L a cd) (.ExceptHandler (some (.Name x np)) (some n) (b₀ :: suite) pos :: rest)) Q E s₃) E s₂) E s' := by
  obtain ⟨⟨B, hB, hBG, hl, hfl⟩, hrd⟩ := R
  have hL : B.get? L = none := by
    obtain ⟨_, ⟨L', _, hf, hn', _⟩, _⟩ := hfl.2.2.1
    obtain rfl : L = L' := Option.some.inj hf
    exact hn'
  refine wpAny_keep' (dk_noteFrame _ _) hrd (wpAny_looks_onW (Around.frames_deeper K.stack) rfl hfl fun h₄ hheld₄ hsm₄ hrd₄ => ?_)
  refine wpAny_keep' (dk_setFlight _ _) hrd₄ (wpAny_landsW hheld₄ fun h₅ hheld hsm₅' hrd₅ => ?_)
  have hsm₅ := hsm₄.trans hsm₅'
  obtain ⟨g₅, T₅, F₅, K₅⟩ := kts_ground K F hBG hheld.1 (hsm.trans hsm₅)
  have X₅ := XB.keeps K₅.stays
  have P₅ : TopRead p loose mg mb g₅ := topRead_of (TB.keeps K₅.stays)
  obtain ⟨ob, hob, hobc⟩ := hheld.there
  obtain ⟨nm, q', N, bs, bm, hdct, sn, sub, ab, col, dd, k0, k1, k2, k3, k5, newId, hC, hbase, hbT⟩ := kts_cls X₅ (cls51 w')
  have hC₅ := F₅.keep _ _ hC
  refine wpAny_handleBy_cons (codeAny_handlers_test (name_K F₅ X₅ P₅ ex ?_ hk hx hd)) (by intro q; cases q)
  refine wpAny_excMatches_sub_self hC₅ hob hobc hbase (codeAny_handlers_suite_as ?_)
  refine wpAny_keep' (dk_setFlight _ _) hrd₅ (lands_againW hheld fun h₆ hfl₆ hsm₆ hrd₆ => ?_)
  obtain ⟨g₆, T₆, F₆, K₆⟩ := kts_ground K F hBG hfl₆.1 ((hsm.trans hsm₅).trans hsm₆)
  obtain ⟨oe, ws, hoe, hoec, hoed, hoe0⟩ := hfl₆.first
  have ne₆ : g₆.get? e = none := T₆.none_ _ (kts_fresh F hBG hfl₆.2.1 fun o ho m => by
    obtain ⟨_, o', ho', hd⟩ := K.frames.mem m
    rw [ho] at ho'
    cases ho'
    obtain ⟨sl, hs⟩ := ((hsm.trans hsm₅).trans hsm₆) _ _ (F.keep _ _ ho) hd
    rw [hoe] at hs
    cases hs
    exact hd _ hoed)
  have N₆ := News.more F₆ News.nil hoe (fun es n q => by rw [hoed] at q; cases q) ne₆
  have Nl : News g₆ L h₆ news := fun q hq => ⟨hfl₆.1 _ _ (hl q hq).1, (fun z => by have := (hl q hq).1; rw [z, hL] at this; cases this), T₆.none_ _ (kts_none F.keep (hl q hq).2.1)⟩
  refine stN F₆ (news := (e, oe) :: news) (fun q hq => (List.mem_cons.mp hq).elim (fun z => N₆ q (by rw [z]; exact .head _)) (Nl q)) (fun h₇ F₇ N₇ => ?_) hk hlo
  exact k h₇ g₆ oe _ T₆ F₇ N₇ hoec (hrd₆.get hoe) ⟨_, hoed⟩ (XB.keeps K₆.stays) (TB.keeps K₆.stays)
end
end

section
open PySem PySem.W PyProof.Rows PySem.Spec PyProof.V PySem.W.X
theorem start_X7_0 : (0 : Nat) ≤ 1 := by
  w_top off
  k_with_none
  k_with "m:x_close" => assumption
  exact Nat.zero_le 1
theorem ball_call {w : World} {H : Option Value} {s : Shared} {e d b1 : Addr} {hh : Int} {tok t0 : Tok} {ws : Array Value} {sl : Array (Option Value)} {Q E : Value → Shared → Prop} (X : (hd.heap_39 w.params).In s.heap)
    (he : s.heap.get? e = some { cls := .ref 51, dict := some d, data := .fields ws, slots := sl }) (hd1 : s.heap.get? d = some { cls := .type "dict", dict := none, data := .dict #[⟨hh, .str (Str.ofString "ball") tok, .ref b1⟩] 1, slots := #[] }) (k : Q (.ref b1) s) :
    wpAny (model PySem.Challenge.rw_rr0018_01.row.prog w) ({ handled := H, depth := 600, units := 5900 } : Around) (call (.builtin "BaseException.__getattribute__") [.ref e, .str (Str.ofString "ball") t0]) Q E s := by
  k_fill
  x_run
theorem wk_any {α : Type} {M : Model} {A : Around} {t : Sem α} {Q : α → Shared → Prop} {E : Value → Shared → Prop} {s : Shared} (hd : A.depth ≤ 600) (hu : A.units ≤ 5900) (h : wpAny M ({ handled := A.handled, depth := 600, units := 5900 } : Around) t Q E s) : wpAny M A t Q E s := by
  intro Γ p hp
  refine h Γ p ⟨hp.1, Nat.le_trans hp.2.1 hd, fun l hl => ?_, fun g hg => ?_, Nat.le_trans hp.2.2.2.2 hu⟩
  · cases hl
  · cases hg
theorem ga_kind : builtinKind "BaseException.__getattribute__" = some .slot := by decide +kernel
theorem ga_bind (self : Value) : bindSpecial (.builtin "BaseException.__getattribute__") self = pure (.builtin "BaseException.__getattribute__", [self]) := by
  have hop : withoutEnding? "BaseException.__getattribute__" "#opaque" = none := by decide +kernel
  have hdat : withoutEnding? "BaseException.__getattribute__" "#data" = none := by decide +kernel
  simp only [bindSpecial, typeOf, builtinType, hop, hdat, ga_kind]; rfl
theorem ball_get {w : World} {A : Around} {E : Value → Shared → Prop} {s : Shared} {h₀ : Heap} {L e : Addr} {m : Str → Option Value} {news : List (Addr × Obj)} {oe : Obj} {d b1 : Addr} {hh : Int} {tok : Tok} {expr : Bool} {ws : Array Value} {Q : Value → Shared → Prop}
    (hdp : A.depth ≤ 600) (hun : A.units ≤ 5900) (F : Fr h₀ L s.heap m) (X : (hd.heap_39 w.params).In h₀) (N : News h₀ L s.heap news) (he : (e, oe) ∈ news) (hd1 : (d, ballD hh b1 tok) ∈ news) (hc : oe.cls = .ref 51) (hdd : oe.dict = some d) (hws : oe.data = .fields ws)
    (h : Q (.ref b1) { s with toks := s.toks + 1 }) : wpAny (model PySem.Challenge.rw_rr0018_01.row.prog w) A (getAttr (.ref e) (Str.ofString "ball") expr) Q E s := by
  have X1 : (hd.heap_39 w.params).In s.heap := X.keeps F.keep
  have he1 := (N _ he).1
  have hd2 := (N _ hd1).1
  obtain ⟨c, dd, dt, sl⟩ := oe
  dsimp only at hc hdd hws he1 hd2
  subst hc hdd hws
  have hT : Looks (model PySem.Challenge.rw_rr0018_01.row.prog w) s.heap (typeOf (.ref e)) (.ref 51) := (Looks.ld he1).andThen .now
  have hga : findIn (hd.heap_39 w.params) (.ref 51) (Str.ofString "__getattribute__") = some (some (.builtin "BaseException.__getattribute__")) := by first | rfl | kernel_rfl
  have hhk : findIn (hd.heap_39 w.params) (.ref 51) (Str.ofString "__getattr__") = some none := by first | rfl | kernel_rfl
  unfold getAttr getAttrBy
  refine wpAny_bind (wpAny_mkText (wpAny_holding (wpAny_bind (hT _ _ _ _ (fun _ _ e => e) (wpAny_bind (looks_findIn X1 hga _ _ _ _ (fun _ _ e => e) ?_))))))
  dsimp only
  rw [show (onTheHeap (.ref 51) && Value.builtin "BaseException.__getattribute__" == Value.builtin "object.__getattribute__") = false from by rw [show (Value.builtin "BaseException.__getattribute__" == Value.builtin "object.__getattribute__") = false from by decide +kernel, Bool.and_false], if_neg (by decide)]
  unfold getAttrByItsOwn hookBefore
  refine wpAny_bind (looks_findIn X1 hhk _ _ _ _ (fun _ _ e => e) (wpAny_bind (wpAny_attempt (wpAny_holding ?_))))
  unfold callGetattribute
  rw [show (expr && onTheHeap (Value.builtin "BaseException.__getattribute__")) = false from Bool.and_false _, if_neg (by decide)]
  unfold boundAndCalled
  rw [ga_bind]
  refine wpAny_bind (wpAny_pure ?_)
  show wpAny _ _ (call (.builtin "BaseException.__getattribute__") [.ref e, .str (Str.ofString "ball") s.toks]) _ _ _
  refine wk_any hdp hun (ball_call X1 he1 hd2 ?_)
  exact wpAny_pure h
end

section

theorem start_E5_0 : (0 : Nat) ≤ 1 := by
  w_top off
  k_with_none
  k_with "m:ktr_room" => (first | exact Nat.le_of_ble_eq_true rfl | exact rm0 (by assumption) | exact rm1 (by assumption) (by first | exact Nat.le_of_ble_eq_true rfl | exact Nat.le_add_right_of_le (Nat.le_of_ble_eq_true rfl) | exact dpl1 (by assumption) | exact dpl2 (by assumption) | omega) | exact rm2 (by assumption) (by first | exact Nat.le_of_ble_eq_true rfl | exact Nat.le_add_right_of_le (Nat.le_of_ble_eq_true rfl) | exact dpl1 (by assumption) | exact dpl2 (by assumption) | omega) | exact rm3 (by assumption) (by first | exact Nat.le_of_ble_eq_true rfl | exact Nat.le_add_right_of_le (Nat.le_of_ble_eq_true rfl) | exact dpl1 (by assumption) | exact dpl2 (by assumption) | omega) | exact lwr (by assumption) | omega | ((try simp only [depth_under_make, depth_under_kw, depth_in1, depth_deeper, depth_caller] at *); (try dsimp only [ktrTop] at *); omega))
  k_with "m:ktr_units" => (first | exact Nat.le_of_ble_eq_true rfl | exact un1 (by assumption) (by first | exact Nat.le_of_ble_eq_true rfl | exact Nat.le_add_right_of_le (Nat.le_of_ble_eq_true rfl) | exact dpl1 (by assumption) | exact dpl2 (by assumption) | omega) | exact un2 (by assumption) (by first | exact Nat.le_of_ble_eq_true rfl | exact Nat.le_add_right_of_le (Nat.le_of_ble_eq_true rfl) | exact dpl1 (by assumption) | exact dpl2 (by assumption) | omega) | exact un3 (by assumption) (by first | exact Nat.le_of_ble_eq_true rfl | exact Nat.le_add_right_of_le (Nat.le_of_ble_eq_true rfl) | exact dpl1 (by assumption) | exact dpl2 (by assumption) | omega) | exact lwu (by assumption) | omega | ((try simp only [units_under_make, units_in1, units_deeper, Around.mark_units, units_caller] at *); (try dsimp only [ktrTop] at *); omega))
  k_with "m:k_mem" => first | assumption | exact List.Mem.head _ | (refine' List.Mem.tail _ ?_; k_mem)
  k_with "m:k_all" => assumption
  k_with "m:eval Call" => ((with_reducible show wpAny _ _ (eval (Expr.Call (Expr.Name _ _) _ [] _) _) _ _ _); k_dflt (refine Call_ ?_))
  k_with "my call" => ((case B => k_asm); (case F => k_asm); (case X => k_asm); (case T => k_asm); (case hk => first | exact rfl | assumption); (case hd => ktr_room); (case hu => ktr_units); k_whole)
  k_with "my tree" => (refine At.mono (by assumption) ?_; intro p9 h9; simp only [List.mem_cons, List.mem_append, h9, or_true, true_or])
  exact Nat.zero_le 1
def CtrT (w : World) (f : Addr) (vs : List Value) (sz : Nat) (news : List (Addr × Obj)) (Out : List (Addr × Obj) → Value → Prop) : Prop :=
  ∀ (mean : ExcName → Option Value) (mg mb : Str → Option Value) (dp un : Nat) (gd : Option (List Code)) (cn : Str) (cs : Scope) (a : Addr) (ccd : Value) (A₀ : Around) (base h₀ : Heap) (L : Addr) (m : Str → Option Value) (s : Shared) (Q E : Value → Shared → Prop),
    Below A₀ base [] h₀ → (hd.heap_39 w.params).In base → Top hd.view_39 (looseW hd.view_39 []) mean mg mb base → Fr h₀ L s.heap m → (hd.heap_39 w.params).In h₀ → News h₀ L s.heap news → Top hd.view_39 (looseW hd.view_39 []) mean mg mb h₀ → cs.kind = .function → dp + sz < recursionLimit → un + 8 * sz < cLine →
    (∀ r news' h' tk', Fr h₀ L h' m → News h₀ L h' news' → Out news' r → Q r { s with heap := h', toks := tk' }) →
    wpAny (model PySem.Challenge.rw_rr0018_01.row.prog w) (ktrTop dp un gd cn cs L a ccd [] []) (call (.ref f) vs) Q E s
def RefusedOut (R : List (Addr × Obj)) (ci fi : Int) (b : Nat) (n' : List (Addr × Obj)) (r : Value) : Prop :=
  (∀ p ∈ R, p ∈ n') ∧ ∃ (rr fo : Nat) (t1 : Tok), (rr, tupO [.str (Str.ofString "refused") t1, .ref fo]) ∈ n' ∧ FormalAt n' fo ci fi b ∧ r = .ref rr
theorem ref_mk {R n' n1 : List (Addr × Obj)} {ci fi : Int} {b rr fo : Nat} {t1 : Tok} (h1 : (rr, tupO [.str (Str.ofString "refused") t1, .ref fo]) ∈ n') (hs : ∀ p ∈ n1, p ∈ n') (hR : ∀ p ∈ R, p ∈ n1) (hf : FormalAt n1 fo ci fi b) : RefusedOut R ci fi b n' (.ref rr) :=
  ⟨fun p hp => hs p (hR p hp), rr, fo, t1, h1, hf.mono hs, rfl⟩
theorem start_E5_1 : (0 : Nat) ≤ 1 := by
  w_top off
  k_with "m:call ref" => (k_here; refine stop_ ?_)
  k_with "m:k_mem" => first | assumption | exact List.Mem.head _ | (refine' List.Mem.tail _ ?_; k_mem)
  k_with "m:getAttr ref" => (k_here; k_dflt (refine' ball_get (by ((simp only [depth_mark, depth_deeper]); (try dsimp only [ktrTop]); omega)) (by ktr_units) (by k_asm) (by k_asm) (by k_asm) (by exact List.Mem.head _) (by k_mem) (by assumption) (by assumption) (by assumption) ?_; k_whole))
  exact Nat.zero_le 1
theorem lsplit_x {w : World} {a : SymAd} {S : SymSt} {T : List Str} {Fs : List (Int × Int)} {K R led : List (Addr × Obj)} {h c p b : Nat} {t1 t2 : Tok} {t : Tr} (ok : SymOk w a S T Fs K) (hsub : ∀ p ∈ K, p ∈ R) (off : Off a R) (hT : T.length ≤ 1000000) (hF : Fs.length ≤ 1000000)
    (c1 : sCall ∈ T) (c2 : sTE ∈ T) (c3 : (((T.idxOf sTE : Nat) : Int), (2 : Int)) ∈ Fs) (hsl : ∀ p ∈ SymL w a S R, p ∈ led)
    (hc : (c, tupO [.str (Str.ofString "s") t1, .int 5 t2, .ref p]) ∈ R) (hp : (p, tupO [.ref h, .ref b]) ∈ R) (hh : HeadIs R h) (ht : At R b t) (hd10 : t.dep ≤ 10) (hs : soundT t = false) :
    CtrT w 298 [.ref a.x, .ref c] 560 led (RefusedOut R (T.idxOf sCall : Nat) (Fs.idxOf (((T.idxOf sTE : Nat) : Int), (2 : Int)) : Nat) b) := by
  unfold CtrT
  k_fill
  intro mean mg mb dp un gd cn cs a' ccd A₀ base h₀ L m s Q E B XB TB F X N T0 hk hdd hu hret
  refine wpAny_call ?_
  k_dflt (refine' code_defS0 ?k1 ?k2 ?k3 ?k4 ?k5 ?kA ?k6 ?k7 ?k8 ?k9 ?kB ?_ ?cK ?c2 ?c3 ?c4 ?c5; (case kA => exact rfl); (case k2 => k_asm); (case k1 => k_asm); (case k3 => k_asm); (case k4 => k_asm); (case k5 => k_asm); (case k6 => k_is); (case k7 => k_is); (case k8 => ktr_room); (case k9 => exact BindsTo.of_eq rfl); (case kB => exact locs rfl); (case cK => assumption); (case c2 => exact rfl); (case c3 => exact rfl); (case c4 => exact rfl); (case c5 => decide); k_whole; intro g' L' h' FG' F' N' B' X' T' D'; (try dsimp only); (try k_fold))
  k_steps
  have r9 : recursionLimit = 1000 := rfl
  have u9 := cLine_is
  refine split_x ok hsub off hT hF c1 c2 c3 hsl hc hp hh ht hd10 hs mean mg mb _ _ _ _ _ _ _ _ _ _ base g' L' _ _ _ _ B' F' X' N' T' rfl (by ktr_room) (by ktr_units) ?_
  intro e a0 d news' G h7 tk7 FG RX US BI
  obtain ⟨hsub9, fo, b1, b2, sa, hh9, tok, u1, u2, hf, m1, m2, m3⟩ := BI
  refine caught_X (w' := w) RX FG B' US XB TB (by rfl) ?_
  rintro h8 g8 oe tk8 KT F8 N8 hc8 hd8 ⟨ws, hw8⟩ X8 T8
  clear N' F' X' RX FG US N F X
  k_steps
  (rename News g8 L' _ (_ :: _) => kN8)
  (rename Fr g8 L' _ _ => kF8)
  refine leaveS0_ kF8 kN8 KT fun kF kN => ?_
  refine hret _ _ _ _ kF kN ?_
  exact ref_mk (n1 := news') (.head _) (fun p hp => .tail _ (.tail _ hp)) hsub9 hf
end

section

theorem start_E6_0 : (0 : Nat) ≤ 1 := by
  w_top off
  k_with_none
  k_with "m:ktr_room" => (first | exact Nat.le_of_ble_eq_true rfl | exact rm0 (by assumption) | exact rm1 (by assumption) (by first | exact Nat.le_of_ble_eq_true rfl | exact Nat.le_add_right_of_le (Nat.le_of_ble_eq_true rfl) | exact dpl1 (by assumption) | exact dpl2 (by assumption) | omega) | exact rm2 (by assumption) (by first | exact Nat.le_of_ble_eq_true rfl | exact Nat.le_add_right_of_le (Nat.le_of_ble_eq_true rfl) | exact dpl1 (by assumption) | exact dpl2 (by assumption) | omega) | exact rm3 (by assumption) (by first | exact Nat.le_of_ble_eq_true rfl | exact Nat.le_add_right_of_le (Nat.le_of_ble_eq_true rfl) | exact dpl1 (by assumption) | exact dpl2 (by assumption) | omega) | exact lwr (by assumption) | omega | ((try simp only [depth_under_make, depth_under_kw, depth_in1, depth_deeper, depth_caller] at *); (try dsimp only [ktrTop] at *); omega))
  k_with "m:ktr_units" => (first | exact Nat.le_of_ble_eq_true rfl | exact un1 (by assumption) (by first | exact Nat.le_of_ble_eq_true rfl | exact Nat.le_add_right_of_le (Nat.le_of_ble_eq_true rfl) | exact dpl1 (by assumption) | exact dpl2 (by assumption) | omega) | exact un2 (by assumption) (by first | exact Nat.le_of_ble_eq_true rfl | exact Nat.le_add_right_of_le (Nat.le_of_ble_eq_true rfl) | exact dpl1 (by assumption) | exact dpl2 (by assumption) | omega) | exact un3 (by assumption) (by first | exact Nat.le_of_ble_eq_true rfl | exact Nat.le_add_right_of_le (Nat.le_of_ble_eq_true rfl) | exact dpl1 (by assumption) | exact dpl2 (by assumption) | omega) | exact lwu (by assumption) | omega | ((try simp only [units_under_make, units_in1, units_deeper, Around.mark_units, units_caller] at *); (try dsimp only [ktrTop] at *); omega))
  k_with "m:k_mem" => first | assumption | exact List.Mem.head _ | (refine' List.Mem.tail _ ?_; k_mem)
  k_with "m:k_all" => assumption
  k_with "m:eval Call" => ((with_reducible show wpAny _ _ (eval (Expr.Call (Expr.Name _ _) _ [] _) _) _ _ _); k_dflt (refine Call_ ?_))
  k_with "my call" => ((case B => k_asm); (case F => k_asm); (case X => k_asm); (case T => k_asm); (case hk => first | exact rfl | assumption); (case hd => ktr_room); (case hu => ktr_units); k_whole)
  k_with "my tree" => (refine At.mono (by assumption) ?_; intro p9 h9; simp only [List.mem_cons, List.mem_append, h9, or_true, true_or])
  exact Nat.zero_le 1
def SphOut (R : List (Addr × Obj)) (h : Nat) (n' : List (Addr × Obj)) (r : Value) : Prop := (∀ p ∈ R, p ∈ n') ∧ ∃ (q b : Nat) (t1 t2 : Tok), (q, tupO [.ref h, .ref b]) ∈ n' ∧ (b, tupO [.str (Str.ofString "a") t1, .int 16 t2]) ∈ n' ∧ r = .ref q
def SpsOut (R : List (Addr × Obj)) (h b : Nat) (n' : List (Addr × Obj)) (r : Value) : Prop := (∀ p ∈ R, p ∈ n') ∧ ∃ (q : Nat), (q, tupO [.ref h, .ref b]) ∈ n' ∧ r = .ref q
theorem start_E6_1 : (0 : Nat) ≤ 1 := by
  w_top off
  k_with "m:call ref" => (k_here; (fail_if_success (fail_if_success (with_reducible show wpAny _ _ (PySem.call (PySem.Value.ref 228) _ _) _ _ _))); k_dflt (refine' ctr_N (by k_asm) (by k_asm) (by k_asm) (by k_asm) (by k_asm) (by first | exact rfl | assumption) (split_h (by assumption)) (by ktr_room) (by ktr_units) ?_); intro r' n' h' tk' F' N' o'; (try k_sweep); (try k_fold))
  exact Nat.zero_le 1
theorem lsplit_h {w : World} {R : List (Addr × Obj)} {h x : Nat} (hh : HeadIs R h) : Ctr w 298 [.ref x, .ref h] 40 R (SphOut R h) := by
  unfold Ctr
  k_fill
  intro mean mg mb dp un gd cn cs a' ccd cl outer A₀ base h₀ L m s Q E B F X N T' hk hdd hu hret
  refine wpAny_call ?_; k_dflt ktr_enter; k_steps
  exact hret _ _ _ _ (by assumption) (by assumption) (by assumption)
theorem start_E6_2 : (0 : Nat) ≤ 1 := by
  w_top off
  k_with "m:call ref" => (k_here; (fail_if_success (fail_if_success (with_reducible show wpAny _ _ (PySem.call (PySem.Value.ref 228) _ _) _ _ _))); k_dflt (refine' ctr_N (by k_asm) (by k_asm) (by k_asm) (by k_asm) (by k_asm) (by first | exact rfl | assumption) (split_s (by assumption) (by assumption) (by assumption) (by assumption) (by assumption) (by assumption)) (by ktr_room) (by ktr_units) ?_); intro r' n' h' tk' F' N' o'; (try k_sweep); (try k_fold))
  exact Nat.zero_le 1
theorem lsplit_s {w : World} {R : List (Addr × Obj)} {h x c p b : Nat} {t1 t2 : Tok} {t : Tr} (hc : (c, tupO [.str (Str.ofString "s") t1, .int 5 t2, .ref p]) ∈ R) (hp : (p, tupO [.ref h, .ref b]) ∈ R) (hh : HeadIs R h) (ht : At R b t) (hd10 : t.dep ≤ 10) (hs : soundT t = true) :
    Ctr w 298 [.ref x, .ref c] 40 R (SpsOut R h b) := by
  unfold Ctr
  k_fill
  intro mean mg mb dp un gd cn cs a' ccd cl outer A₀ base h₀ L m s Q E B F X N T' hk hdd hu hret
  refine wpAny_call ?_; k_dflt ktr_enter; k_steps
  exact hret _ _ _ _ (by assumption) (by assumption) (by assumption)
end

section
theorem start_L8_0 : (0 : Nat) ≤ 1 := by
  w_top off
  k_with_none
  exact Nat.zero_le 1
section
variable {prog : Program} {w : World} {A : Around} {E : Value → Shared → Prop} {s : Shared} {h₀ : Heap} {L : Addr} {news : List (Addr × Obj)} {Q : Value → Shared → Prop}
theorem lst_at {a : Addr} {xs : List Nat} {e : Nat} (N : News h₀ L s.heap news) (hm : (a, refsO xs e) ∈ news) : s.heap.IsList a (xs.map Value.ref).toArray := N.isList hm
theorem ne_refs {l b : Addr} {xs : List Nat} {e1 e2 : Nat} (N : News h₀ L s.heap news) (hl : (l, refsO xs e1) ∈ news) (hb : (b, refsO xs e2) ∈ news) (hu : A.units < cLine) (h : Q (.bool false) s) : wpAny (model prog w) A (compareOp .NotEq (.ref l) (.ref b)) Q E s := by
  have := PySem.SeqAt.RcNeAt.lists (A := A) (s := s) (e := fun _ => true) (lst_at N hl) (lst_at N hb) rfl hu (fun j h1 h2 => PySem.SeqAt.EqAt.same _)
  refine this prog w E Q ?_
  have e : (List.range ((xs.map Value.ref).toArray.size)).all (fun _ => true) = true := by simp
  rw [e]; exact h
theorem eqAt_tup {x y : Addr} {vs us : List Value} (N : News h₀ L s.heap news) (hx : (x, tupO vs) ∈ news) (hy : (y, tupO us) ∈ news) (hlen : vs.length = us.length) (hu : A.units < cLine)
    (he : ∀ j (h1 : j < vs.length) (h2 : j < us.length), PySem.SeqAt.EqAt A.in1 s vs[j] us[j] true) : PySem.SeqAt.EqAt A s (.ref x) (.ref y) true := by
  by_cases c : x = y
  · rw [c]; exact PySem.SeqAt.EqAt.same _
  · have r := PySem.SeqAt.RcAt.tuples (A := A) (s := s) (e := fun _ => true) (tup_at N hx) (tup_at N hy) hu (fun j h1 h2 => by simpa using he j (by simpa using h1) (by simpa using h2))
    have e : ((List.range (min vs.toArray.size us.toArray.size)).all (fun _ => true) && vs.toArray.size == us.toArray.size) = true := by simp [hlen]
    rw [e] at r
    exact PySem.SeqAt.EqAt.of_refs c r
theorem ne_tup {x y : Addr} {vs us : List Value} (N : News h₀ L s.heap news) (hx : (x, tupO vs) ∈ news) (hy : (y, tupO us) ∈ news) (hlen : vs.length = us.length) (hu : A.units < cLine)
    (he : ∀ j (h1 : j < vs.length) (h2 : j < us.length), PySem.SeqAt.EqAt A.in1 s vs[j] us[j] true) (h : Q (.bool false) s) : wpAny (model prog w) A (compareOp .NotEq (.ref x) (.ref y)) Q E s := by
  have r := PySem.SeqAt.RcNeAt.tuples (A := A) (s := s) (e := fun _ => true) (tup_at N hx) (tup_at N hy) hu (fun j h1 h2 => by simpa using he j (by simpa using h1) (by simpa using h2))
  refine r prog w E Q ?_
  have e : ((List.range (min vs.toArray.size us.toArray.size)).all (fun _ => true) && vs.toArray.size == us.toArray.size) = true := by simp [hlen]
  rw [e]; exact h
theorem eq_tup {x y : Addr} {vs us : List Value} (N : News h₀ L s.heap news) (hx : (x, tupO vs) ∈ news) (hy : (y, tupO us) ∈ news) (hlen : vs.length = us.length) (hu : A.units < cLine)
    (he : ∀ j (h1 : j < vs.length) (h2 : j < us.length), PySem.SeqAt.EqAt A.in1 s vs[j] us[j] true) (h : Q (.bool true) s) : wpAny (model prog w) A (compareOp .Eq (.ref x) (.ref y)) Q E s := by
  refine PySem.SeqAt.eq_tupleAt (e := fun _ => true) (tup_at N hx) (tup_at N hy) hu (fun j h1 h2 => by simpa using he j (by simpa using h1) (by simpa using h2)) ?_
  have e : ((List.range (min vs.toArray.size us.toArray.size)).all (fun _ => true) && vs.toArray.size == us.toArray.size) = true := by simp [hlen]
  rw [e]; exact h
theorem eqAt_str {k : Str} {t1 t2 : Tok} : PySem.SeqAt.EqAt A s (.str k t1) (.str k t2) true := by
  have := (eqGives_str k k t1 t2).at A s; simpa using this
theorem eqAt_int {k : Int} {t1 t2 : Tok} : PySem.SeqAt.EqAt A s (.int k t1) (.int k t2) true := by
  have := (PySem.MeetsSeq.EqGives.int k k t1 t2).at A s; simpa using this
theorem in1_units {B : Around} {n : Nat} (hu : B.units + (n + 1) < cLine) : B.in1.units + n < cLine := by rw [units_in1]; omega
/-- two pairs of the same two things -/
theorem ne_pair {x y h b : Nat} (N : News h₀ L s.heap news) (hx : (x, tupO [.ref h, .ref b]) ∈ news) (hy : (y, tupO [.ref h, .ref b]) ∈ news) (hu : A.units < cLine) (q : Q (.bool false) s) : wpAny (model prog w) A (compareOp .NotEq (.ref x) (.ref y)) Q E s :=
  ne_tup N hx hy rfl hu (fun j h1 h2 => PySem.SeqAt.EqAt.same _) q
theorem eq_headpair {x y h b1 b2 : Nat} {k : Str} {n : Int} {t1 t2 t3 t4 : Tok} (N : News h₀ L s.heap news) (hx : (x, tupO [.ref h, .ref b1]) ∈ news) (h1 : (b1, tupO [.str k t1, .int n t2]) ∈ news) (hy : (y, tupO [.ref h, .ref b2]) ∈ news) (h2 : (b2, tupO [.str k t3, .int n t4]) ∈ news) (hu : A.units + 2 < cLine)
    (q : Q (.bool true) s) : wpAny (model prog w) A (compareOp .Eq (.ref x) (.ref y)) Q E s := by
  refine eq_tup N hx hy rfl (by omega) (fun j j1 j2 => ?_) q
  match j, j1 with
  | 0, _ => exact PySem.SeqAt.EqAt.same _
  | 1, _ =>
    refine eqAt_tup N h1 h2 rfl (in1_units (n := 0) (by omega)) (fun i i1 i2 => ?_)
    match i, i1 with
    | 0, _ => exact eqAt_str
    | 1, _ => exact eqAt_int
theorem formal_eq {fo fo2 b : Nat} {ci fi : Int} (N : News h₀ L s.heap news) (f1 : FormalAt news fo ci fi b) (f2 : FormalAt news fo2 ci fi b) (hu : A.units + 3 < cLine) : PySem.SeqAt.EqAt A s (.ref fo) (.ref fo2) true := by
  obtain ⟨fa, q, t1, t2, t3, t4, a1, a2, a3⟩ := f1
  obtain ⟨fb, q2, u1, u2, u3, u4, b1, b2, b3⟩ := f2
  refine eqAt_tup N a1 b1 rfl (by omega) (fun j j1 j2 => ?_)
  match j, j1 with
  | 0, _ => exact eqAt_str
  | 1, _ => exact eqAt_int
  | 2, _ =>
    refine eqAt_tup N a2 b2 rfl (in1_units (n := 0) (by omega)) (fun i i1 i2 => ?_)
    match i, i1 with
    | 0, _ =>
      refine eqAt_tup N a3 b3 rfl (by rw [units_in1, units_in1]; omega) (fun z z1 z2 => ?_)
      match z, z1 with
      | 0, _ => exact eqAt_str
      | 1, _ => exact eqAt_int
    | 1, _ => exact PySem.SeqAt.EqAt.same _
theorem ne_refused {x y fo fo2 b : Nat} {k : Str} {t1 t2 : Tok} {ci fi : Int} (N : News h₀ L s.heap news) (hx : (x, tupO [.str k t1, .ref fo]) ∈ news) (hy : (y, tupO [.str k t2, .ref fo2]) ∈ news) (f1 : FormalAt news fo ci fi b) (f2 : FormalAt news fo2 ci fi b) (hu : A.units + 4 < cLine)
    (q : Q (.bool false) s) : wpAny (model prog w) A (compareOp .NotEq (.ref x) (.ref y)) Q E s := by
  refine ne_tup N hx hy rfl (by omega) (fun j j1 j2 => ?_) q
  match j, j1 with
  | 0, _ => exact eqAt_str
  | 1, _ => exact formal_eq N f1 f2 (in1_units (n := 3) (by omega))
theorem ne_bool {b : Bool} (h : Q (.bool false) s) : wpAny (model prog w) A (compareOp .NotEq (.bool b) (.bool b)) Q E s := by
  refine PySem.SeqAt.RcNeAt.bool_bool b b prog w E Q ?_
  simpa using h
end
theorem mem_to {T : List Str} {t : Str} : t ∈ atomTo T t := by
  unfold atomTo; split
  · assumption
  · simp
theorem mem_to2 {T : List Str} {t u : Str} (h : t ∈ T) : t ∈ atomTo T u := by
  unfold atomTo; split
  · exact h
  · exact List.mem_append_left _ h
theorem idx_self {T : List Str} {t : Str} : (atomTo T t).idxOf t = T.idxOf t := by
  unfold atomTo; split
  · rfl
  · rename_i h; rw [List.idxOf_append, if_neg h, List.idxOf_eq_length h]; simp
theorem idx_other {T : List Str} {t u : Str} (h : t ∈ T) : (atomTo T u).idxOf t = T.idxOf t := by
  unfold atomTo; split
  · rfl
  · rw [List.idxOf_append, if_pos h]
theorem fmem_to {F : List (Int × Int)} {t : Int × Int} : t ∈ funcTo F t := by
  unfold funcTo; split
  · assumption
  · simp
theorem fidx_self {F : List (Int × Int)} {t : Int × Int} : (funcTo F t).idxOf t = F.idxOf t := by
  unfold funcTo; split
  · rfl
  · rename_i h; rw [List.idxOf_append, if_neg h, List.idxOf_eq_length h]; simp
end

section
theorem start_L8b_0 : (0 : Nat) ≤ 1 := by
  w_top off
  k_with_none
  exact Nat.zero_le 1
section
variable {prog : Program} {w : World} {A : Around} {E : Value → Shared → Prop} {Q : Flow → Shared → Prop} {s : Shared} {env : Env} {h₀ : Heap}
theorem iter_lst {x : Str} {body : List Stmt} {m : Str → Option Value} {news : List (Addr × Obj)} {D : Nat} {vs : List Value} {eL : Nat} (J : Nat → (Str → Option Value) → List (Addr × Obj) → Prop)
    (F : Fr h₀ env.locals s.heap m) (N : News h₀ env.locals s.heap news) (hD : (D, listOf vs.toArray eL) ∈ news) (hh : A.handled = none) (J0 : J 0 m news) (JD : ∀ i m₁ n₁, J i m₁ n₁ → (D, listOf vs.toArray eL) ∈ n₁)
    (step : ∀ i v m₁ news₁ h tk I oI, vs[i]? = some v → J i m₁ news₁ → (∀ p ∈ news₁, p.1 ≠ I) → Fr h₀ env.locals h (fun y => if y = x then some v else m₁ y) → News h₀ env.locals h ((I, oI) :: news₁) →
      wpAny (model prog w) A (execs body env) (fun f s₃ => match f with
        | .next | .cont => IterEnd s h₀ env.locals J I oI i s₃
        | .brk => Q .next s₃
        | .ret v => Q (.ret v) s₃) E { s with heap := h, toks := tk })
    (fin : ∀ h' tk m' news', Fr h₀ env.locals h' m' → News h₀ env.locals h' news' → J vs.length m' news' → Q .next { s with heap := h', toks := tk }) :
    wpAny (model prog w) A (pyIter (.ref D)) (fun it s₂ => LoopAtV prog w A h₀ env x body Q E it s₂) E s := by
  have hT := N.isList hD
  have hlt : D < s.heap.objs.size := Heap.lt_size (N _ hD).1
  have hL : env.locals < s.heap.objs.size := F.ns.lt
  have hne : D ≠ s.heap.objs.size := Nat.ne_of_lt hlt
  have hnI : ∀ o, h₀.get? s.heap.objs.size = some o → False := fun o e => by
    exact Nat.lt_irrefl _ (Heap.lt_size (F.keep _ _ e))
  have hI0 : h₀.get? s.heap.objs.size = none := by
    cases e : h₀.get? s.heap.objs.size with
    | none => rfl
    | some o => exact (hnI o e).elim
  refine wpAny_pyIter_list hT ?_
  have push : ∀ b o, s.heap.get? b = some o → (s.heap.push { cls := .type "list_iterator", data := .fields #[.ref D, .int 0 0] }).get? b = some o := fun b o e => by
    rw [Heap.get?_push_ne _ _ _ (Nat.ne_of_lt (Heap.lt_size e))]; exact e
  refine ⟨s.heap.objs.size, [s.heap.objs.size, D], [s.heap.objs.size], vs.length, _, _, m, news, J, rfl, by simpa using Walks.list (prog := prog) (w := w) (A := A) hh s.heap.objs.size D hne vs.toArray, ?_, ?_, ?_, ?_, ?_, ?_, J0, ?_, ?_⟩
  · intro h
    simp only [List.mem_cons, List.not_mem_nil, or_false] at h
    rcases h with h | h
    · exact Nat.ne_of_lt hL h
    · exact (N _ hD).2.1 h.symm
  · intro b hb
    simp only [List.mem_cons, List.not_mem_nil, or_false] at hb
    rw [hb]; exact hI0
  · intro p hp hb
    simp only [List.mem_cons, List.not_mem_nil, or_false] at hb
    exact Nat.ne_of_lt (Heap.lt_size (N p hp).1) hb
  · exact ⟨⟨_, Heap.get?_push_size _ rfl, rfl, rfl⟩, hT.push _⟩
  · exact ⟨F.ns.at' fun o e => push _ o e, fun b o e => push b o (F.keep b o e), F.above⟩
  · exact fun p hp => ⟨push _ _ (N p hp).1, (N p hp).2⟩
  · rintro i v m₁ news₁ s₁ own ⟨h, tk, rfl⟩ hi hv hJ hn ho ho2 hown hst F₁ N₁
    obtain ⟨⟨oI, hoI, _, _⟩, _⟩ := hst
    have mI : (s.heap.objs.size, oI) ∈ own := hown _ (.head _) hI0 _ hoI
    have hD₁ := JD _ _ _ hJ
    refine wpAny_mono (step i v m₁ news₁ h tk s.heap.objs.size oI (by simpa using hv) hJ (fun p hp e => hn p hp (by rw [e]; exact .head _)) F₁ (news_sub N₁ fun p hp => ?_)) (fun f s₃ h₃ => ?_) (fun _ _ h => h)
    · rcases List.mem_cons.mp hp with rfl | hp
      · exact List.mem_append_left _ mI
      · exact List.mem_append_right _ hp
    · have key : IterEnd s h₀ env.locals J s.heap.objs.size oI i s₃ → LoopStepU h₀ env.locals [s.heap.objs.size] own (J (i + 1)) { s with heap := h, toks := tk } .next s₃ := by
        rintro ⟨h', tk', m₂, news₂, rfl, F₂, N₂, hne₂, hJ₂⟩
        refine ⟨rfl, h', tk', m₂, news₂, rfl, F₂, ?_, fun p hp hb => ?_, hJ₂⟩
        · refine News.append (fun p hp => ?_) (fun q hq => N₂ q (.tail _ hq))
          have h1 := ho p hp
          have h2 := ho2 p hp
          simp only [List.mem_cons, List.not_mem_nil, or_false] at h1
          obtain ⟨pa, po⟩ := p
          dsimp only at h1 h2
          rcases h1 with rfl | rfl
          · rw [hoI] at h2; cases h2; exact N₂ _ (.head _)
          · have h3 : h.get? pa = some (listOf vs.toArray eL) := (N₁ _ (List.mem_append_right _ hD₁)).1
            rw [h3] at h2; cases h2; exact N₂ _ (.tail _ (JD _ _ _ hJ₂))
        · simp only [List.mem_cons, List.not_mem_nil, or_false] at hb
          exact hne₂ p hp hb
      cases f with
      | next => exact .next (key h₃)
      | cont => exact .cont (key h₃)
      | brk => exact h₃
      | ret v => exact h₃
  · intro h' tk m' news' F' N' _ hJ
    exact fin h' tk m' news' F' N' hJ
end
def JL (led0 : List (Addr × Obj)) (m : Str → Option Value) (_i : Nat) (m₁ : Str → Option Value) (n₁ : List (Addr × Obj)) : Prop := (∃ tv, m₁ = bindM m (Str.ofString "functors") tv) ∧ ∀ p ∈ led0, p ∈ n₁
theorem five_at {led : List (Addr × Obj)} {f1 f2 f3 f4 f5 : Nat} {i : Nat} {v : Value} (h : [Value.ref f1, .ref f2, .ref f3, .ref f4, .ref f5][i]? = some v) (s1 : SeqInts led f1 [1]) (s2 : SeqInts led f2 [2]) (s3 : SeqInts led f3 [3]) (s4 : SeqInts led f4 [1, 2]) (s5 : SeqInts led f5 []) :
    ∃ (fa : Nat) (fs : List Int), v = .ref fa ∧ SeqInts led fa fs ∧ ∀ y ∈ fs, y < 4 := by
  match i, h with
  | 0, h => exact ⟨f1, [1], by simpa using h.symm, s1, by simp⟩
  | 1, h => exact ⟨f2, [2], by simpa using h.symm, s2, by simp⟩
  | 2, h => exact ⟨f3, [3], by simpa using h.symm, s3, by simp⟩
  | 3, h => exact ⟨f4, [1, 2], by simpa using h.symm, s4, by simp⟩
  | 4, h => exact ⟨f5, [], by simpa using h.symm, s5, by simp⟩
  | j + 5, h => simp at h
theorem seq_t1 {news : List (Addr × Obj)} {fa : Nat} {k1 : Int} {t1 : Tok} (h2 : (fa, tupO [.int k1 t1]) ∈ news) : SeqInts news fa [k1] := ⟨[.int k1 t1], .cons _ _ .nil, .inr h2⟩
theorem seq_t2 {news : List (Addr × Obj)} {fa : Nat} {k1 k2 : Int} {t1 t2 : Tok} (h2 : (fa, tupO [.int k1 t1, .int k2 t2]) ∈ news) : SeqInts news fa [k1, k2] := ⟨[.int k1 t1, .int k2 t2], .cons _ _ (.cons _ _ .nil), .inr h2⟩
theorem seq_t0 {news : List (Addr × Obj)} {fa : Nat} (h2 : (fa, tupO []) ∈ news) : SeqInts news fa [] := ⟨[], .nil, .inr h2⟩
theorem gen_led {h₀ h : Heap} {L : Addr} {w : World} {D : Die} {a : SymAd} {S : SymSt} {i : Int} {ti : Tok} {e : Nat} {R : List (Addr × Obj)} (N : News h₀ L h (StL w D a S i ti e R)) : ∃ led, News h₀ L h led ∧ (∀ p ∈ StL w D a S i ti e R, p ∈ led) ∧ ∀ p ∈ R, p ∈ led :=
  ⟨_, N, fun p hp => hp, fun p hp => .tail _ (.tail _ (.tail _ (.tail _ (.tail _ (.tail _ (.tail _ (.tail _ hp)))))))⟩
theorem func_u {w : World} {D : Die} {a : SymAd} {S : SymSt} {T : List Str} {F : List (Int × Int)} {K R led : List (Addr × Obj)} {i : Int} {n : Nat} {ti tk tq : Tok} {e : Nat} {t : Str} {q : Int} (ok : StOk w D a S T F K R i n) (hn : n ≤ 1000000) (hl : ∀ p ∈ StL w D a S i ti e R, p ∈ led) :
    Ctr w 109 [.ref a.x, .str t tk, .int q tq] 10 led (fun n' r => ∃ S' K' p k, n' = StL w D a S' i ti e (p :: R) ∧ (∀ z ∈ R, z.1 < p.1) ∧ StOk w D a S' (atomTo T t) (funcTo F ((T.idxOf t : Nat), q)) K' (p :: R) i (n + 1) ∧ r = .int (F.idxOf (((T.idxOf t : Nat) : Int), q) : Nat) k) :=
  (func_d ok hn).perm hl (fun n r o => ⟨n, fun p hp => hp, o⟩)
end

section
theorem start_L8c_0 : (0 : Nat) ≤ 1 := by
  w_top off
  k_with_none
  exact Nat.zero_le 1
theorem lsx {w : World} {D : Die} {a : SymAd} {S : SymSt} {T : List Str} {F : List (Int × Int)} {K R : List (Addr × Obj)} {i : Int} {n : Nat} {ti t1 t2 t3 t4 t5 t6 t7 : Tok} {e c p du fo2 fa2 q2 h b : Nat} {t : Tr}
    (ok : StOk w D a S (atomTo (atomTo T sTE) sCall) (funcTo F (((T.idxOf sTE : Nat) : Int), 2)) K R i n) (hn : n ≤ 1000000) (l1 : a.gx < c) (l2 : a.gx < p) (l3 : a.gx < du) (l4 : a.gx < fo2) (l5 : a.gx < fa2) (l6 : a.gx < q2) (hh : HeadIs R h) (ht : At R b t) (hd10 : t.dep ≤ 10) (hs : soundT t = false) :
    CtrT w 298 [.ref a.x, .ref c] 560 ((c, tupO [.str (Str.ofString "s") t1, .int 5 t2, .ref p]) :: (p, tupO [.ref h, .ref b]) :: (du, tupO [.str (Str.ofString "refused") t3, .ref fo2]) :: (fo2, tupO [.str (Str.ofString "s") t4, .int (F.idxOf (((T.idxOf sTE : Nat) : Int), 2) : Nat) t5, .ref fa2]) :: (fa2, tupO [.ref q2, .ref b]) :: (q2, tupO [.str (Str.ofString "a") t6, .int ((atomTo T sTE).idxOf sCall : Nat) t7]) :: StL w D a S i ti e R)
      (fun n' r => HeadIs n' h ∧ ∃ (rr fo : Nat) (u : Tok) (ci fi : Int), (rr, tupO [.str (Str.ofString "refused") u, .ref fo]) ∈ n' ∧ FormalAt n' fo ci fi b ∧ r = .ref rr ∧ (du, tupO [.str (Str.ofString "refused") t3, .ref fo2]) ∈ n' ∧ FormalAt n' fo2 ci fi b) := by
  have ok2 := (((((ok.cons (p := (q2, tupO [.str (Str.ofString "a") t6, .int ((atomTo T sTE).idxOf sCall : Nat) t7])) l6).cons (p := (fa2, tupO [.ref q2, .ref b])) l5).cons (p := (fo2, tupO [.str (Str.ofString "s") t4, .int (F.idxOf (((T.idxOf sTE : Nat) : Int), 2) : Nat) t5, .ref fa2])) l4).cons (p := (du, tupO [.str (Str.ofString "refused") t3, .ref fo2])) l3).cons (p := (p, tupO [.ref h, .ref b])) l2).cons (p := (c, tupO [.str (Str.ofString "s") t1, .int 5 t2, .ref p])) l1
  have hsub : ∀ q ∈ R, q ∈ (c, tupO [.str (Str.ofString "s") t1, .int 5 t2, .ref p]) :: (p, tupO [.ref h, .ref b]) :: (du, tupO [.str (Str.ofString "refused") t3, .ref fo2]) :: (fo2, tupO [.str (Str.ofString "s") t4, .int (F.idxOf (((T.idxOf sTE : Nat) : Int), 2) : Nat) t5, .ref fa2]) :: (fa2, tupO [.ref q2, .ref b]) :: (q2, tupO [.str (Str.ofString "a") t6, .int ((atomTo T sTE).idxOf sCall : Nat) t7]) :: R := fun q hq => .tail _ (.tail _ (.tail _ (.tail _ (.tail _ (.tail _ hq)))))
  have e1 : (atomTo (atomTo T sTE) sCall).idxOf sTE = T.idxOf sTE := (idx_other mem_to).trans idx_self
  have e2 : (atomTo (atomTo T sTE) sCall).idxOf sCall = (atomTo T sTE).idxOf sCall := idx_self
  have c3 : ((((atomTo (atomTo T sTE) sCall).idxOf sTE : Nat) : Int), (2 : Int)) ∈ funcTo F (((T.idxOf sTE : Nat) : Int), 2) := by rw [e1]; exact fmem_to
  have C := lsplit_x (led := (c, tupO [.str (Str.ofString "s") t1, .int 5 t2, .ref p]) :: (p, tupO [.ref h, .ref b]) :: (du, tupO [.str (Str.ofString "refused") t3, .ref fo2]) :: (fo2, tupO [.str (Str.ofString "s") t4, .int (F.idxOf (((T.idxOf sTE : Nat) : Int), 2) : Nat) t5, .ref fa2]) :: (fa2, tupO [.ref q2, .ref b]) :: (q2, tupO [.str (Str.ofString "a") t6, .int ((atomTo T sTE).idxOf sCall : Nat) t7]) :: StL w D a S i ti e R)
    ok2.sym ok2.sub (ok2.sym.off ok2.hi) (Nat.le_trans ok2.tN hn) (Nat.le_trans ok2.fN hn) (mem_to (t := sCall)) (mem_to2 mem_to) c3 (fun z hz => by simp only [List.mem_cons] at hz ⊢; grind) (.head _) (.tail _ (.head _)) (hh.mono hsub) (ht.mono hsub) hd10 hs
  intro mean mg mb dp un gd cn cs a' ccd A₀ base h₀ L m s Q E B XB TB F X N T0 hk hdd hu hret
  refine C mean mg mb dp un gd cn cs a' ccd A₀ base h₀ L m s Q E B XB TB F X N T0 hk hdd hu fun r n' h' tk' F' N' o => hret r n' h' tk' F' N' ?_
  obtain ⟨hs1, rr, fo, u, m1, f1, rfl⟩ := o
  refine ⟨(hh.mono hsub).mono hs1, rr, fo, u, _, _, m1, f1, rfl, hs1 _ (.tail _ (.tail _ (.head _))), ?_⟩
  refine formal_mk (fa := fa2) (q := q2) (t1 := t4) (t2 := t5) (t3 := t6) (t4 := t7) (hs1 _ ?_) (hs1 _ (.tail _ (.tail _ (.tail _ (.tail _ (.head _)))))) (hs1 _ ?_)
  · rw [e1, fidx_self]; exact .tail _ (.tail _ (.tail _ (.head _)))
  · rw [e2]; exact .tail _ (.tail _ (.tail _ (.tail _ (.tail _ (.head _)))))
end

section

theorem start_L9_0 : (0 : Nat) ≤ 1 := by
  w_top off
  k_with_none
  k_with "m:ktr_room" => (first | exact Nat.le_of_ble_eq_true rfl | exact rm0 (by assumption) | exact rm1 (by assumption) (by first | exact Nat.le_of_ble_eq_true rfl | exact Nat.le_add_right_of_le (Nat.le_of_ble_eq_true rfl) | exact dpl1 (by assumption) | exact dpl2 (by assumption) | omega) | exact rm2 (by assumption) (by first | exact Nat.le_of_ble_eq_true rfl | exact Nat.le_add_right_of_le (Nat.le_of_ble_eq_true rfl) | exact dpl1 (by assumption) | exact dpl2 (by assumption) | omega) | exact rm3 (by assumption) (by first | exact Nat.le_of_ble_eq_true rfl | exact Nat.le_add_right_of_le (Nat.le_of_ble_eq_true rfl) | exact dpl1 (by assumption) | exact dpl2 (by assumption) | omega) | exact lwr (by assumption) | omega | ((try simp only [depth_under_make, depth_under_kw, depth_in1, depth_deeper, depth_caller] at *); (try dsimp only [ktrTop] at *); omega))
  k_with "m:ktr_units" => (first | exact Nat.le_of_ble_eq_true rfl | exact un1 (by assumption) (by first | exact Nat.le_of_ble_eq_true rfl | exact Nat.le_add_right_of_le (Nat.le_of_ble_eq_true rfl) | exact dpl1 (by assumption) | exact dpl2 (by assumption) | omega) | exact un2 (by assumption) (by first | exact Nat.le_of_ble_eq_true rfl | exact Nat.le_add_right_of_le (Nat.le_of_ble_eq_true rfl) | exact dpl1 (by assumption) | exact dpl2 (by assumption) | omega) | exact un3 (by assumption) (by first | exact Nat.le_of_ble_eq_true rfl | exact Nat.le_add_right_of_le (Nat.le_of_ble_eq_true rfl) | exact dpl1 (by assumption) | exact dpl2 (by assumption) | omega) | exact lwu (by assumption) | omega | ((try simp only [units_under_make, units_in1, units_deeper, Around.mark_units, units_caller] at *); (try dsimp only [ktrTop] at *); omega))
  k_with "m:k_mem" => first | assumption | exact List.Mem.head _ | (refine' List.Mem.tail _ ?_; k_mem)
  k_with "m:k_all" => assumption
  k_with "m:eval Call" => ((with_reducible show wpAny _ _ (eval (Expr.Call (Expr.Name _ _) _ [] _) _) _ _ _); k_dflt (refine Call_ ?_))
  k_with "my call" => ((case B => k_asm); (case F => k_asm); (case X => k_asm); (case T => k_asm); (case hk => first | exact rfl | assumption); (case hd => ktr_room); (case hu => ktr_units); k_whole)
  k_with "my tree" => (refine At.mono (by assumption) ?_; intro p9 h9; simp only [List.mem_cons, List.mem_append, h9, or_true, true_or])
  exact Nat.zero_le 1
theorem syms_d {w : World} {d sl : Nat} {vals : List Value} {ns : List Int} {e e0 : Nat} {ti : Tok} (hI : IntsAre vals ns) (hl : ns.length ≤ 63) (hlt : sl < d) :
    Ctr w 154 [] 30 [(d, listOf #[.ref sl, .int 0 ti] e), (sl, listOf vals.toArray e0)] (fun n' r => ∃ D a S T F K R, n' = StL w D a S 0 ti e R ∧ StOk w D a S T F K R 0 200 ∧ r = .ref a.x ∧ D.d = d) := by
  refine (syms_c w _).perm (fun p hp => hp) ?_
  rintro n r ⟨a, S, T, F, K, R, rfl, ok, g6, hT, hF, rfl⟩
  obtain ⟨sym, sub, hi, lo⟩ := ok
  refine ⟨StL w ⟨d, sl, vals, ns, e0⟩ a S 0 ti e R, fun z hz => ?_, ⟨d, sl, vals, ns, e0⟩, a, S, T, F, K, R, rfl, ⟨sym, sub, hi, hI, hl, hlt, lo _ (.head _), Int.le_refl _, by decide, by omega, by omega, g6⟩, rfl, rfl⟩
  simp only [List.mem_cons, List.mem_append, List.not_mem_nil, or_false] at hz ⊢; grind
def MarkFn : Prop := True
theorem in1 {w : World} {D : Die} {a : SymAd} {S : SymSt} {i : Int} {ti : Tok} {e : Nat} {R : List (Addr × Obj)} {c : Addr × Obj} {f : Addr} {vs : List Value} {sz : Nat} {Out : List (Addr × Obj) → Value → Prop} (C : Ctr w f vs sz (StL w D a S i ti e (c :: R)) Out) : Ctr w f vs sz (c :: StL w D a S i ti e R) Out :=
  C.perm (fun p hp => by simp only [List.mem_cons] at hp ⊢; grind) (fun n r o => ⟨n, fun p hp => hp, o⟩)
def MidH (w : World) (D : Die) (a : SymAd) (h₀ : Heap) (L : Addr) (m0 : Str → Option Value) (s : Shared) (fl : Flow) (s' : Shared) : Prop :=
  fl = .next ∧ ∃ h' tk S T F K R i ti e h, s' = { s with heap := h', toks := tk } ∧ Fr h₀ L h' (bindM m0 (Str.ofString "head") (some (.ref h))) ∧ News h₀ L h' (StL w D a S i ti e R) ∧ StOk w D a S T F K R i 300 ∧ HeadIs R h
theorem start_L9_1 : (0 : Nat) ≤ 1 := by
  w_top off
  k_with "m:call ref" => (k_here; refine stop_ ?_)
  k_with "m:call ref" => (k_here; (fail_if_success (fail_if_success (with_reducible show wpAny _ _ (PySem.call (PySem.Value.ref 154) _ _) _ _ _))); k_dflt (refine' ctr_N (by k_asm) (by k_asm) (by k_asm) (by k_asm) (by k_asm) (by first | exact rfl | assumption) (syms_d (by assumption) (by omega) (by assumption)) (by ktr_room) (by ktr_units) ?_); intro r' n' h' tk' F' N' o'; obtain ⟨D', a', S', T', F', K', R', e1', ok', e2', ed'⟩ := o'; subst e1' e2' ed'; (try k_sweep); (try k_fold))
  k_with "m:call ref" => (k_here; (fail_if_success (fail_if_success (with_reducible show wpAny _ _ (PySem.call (PySem.Value.ref 88) _ _) _ _ _))); k_dflt (refine' ctr_use (atom_d (by assumption) (by omega)) (by k_asm) (by k_asm) (by k_asm) (by k_asm) (by k_asm) (by first | exact rfl | assumption) (by ktr_room) (by ktr_units) ?_); intro r' n' h' tk' F' N' o'; obtain ⟨S', k', e1', ok', e2'⟩ := o'; subst e1' e2'; (try k_sweep); (try k_fold))
  k_with "m:call ref" => (k_here; (fail_if_success (fail_if_success (with_reducible show wpAny _ _ (PySem.call (PySem.Value.ref 109) _ _) _ _ _))); (fail_if_success (rename MarkFn => hx9)); k_dflt (refine' ctr_use (func_d (by assumption) (by omega)) (by k_asm) (by k_asm) (by k_asm) (by k_asm) (by k_asm) (by first | exact rfl | assumption) (by ktr_room) (by ktr_units) ?_); intro r' n' h' tk' F' N' o'; obtain ⟨S', K', p', k', e1', lt', ok', e2'⟩ := o'; subst e1' e2'; (try k_sweep); (try k_fold))
  k_with "m:call ref" => (k_here; (fail_if_success (fail_if_success (with_reducible show wpAny _ _ (PySem.call (PySem.Value.ref 242) _ _) _ _ _))); k_dflt (refine' ctr_N (by k_asm) (by k_asm) (by k_asm) (by k_asm) (by k_asm) (by first | exact rfl | assumption) (in1 (roll_d (StOk.cons (by assumption) (by (dsimp only; omega))) (by omega) (by decide) (by decide))) (by ktr_room) (by ktr_units) ?_); intro r' n' h' tk' F' N' o'; obtain ⟨ti', e', k', tr', e1', ok', e2', lo', hi'⟩ := o'; subst e1' e2'; (try k_sweep); (try k_fold))
  exact Nat.zero_le 1
theorem stop_1 {P : Prop} (h : P) : Stop P := h
def Pack (R : List (Addr × Obj)) (t : Tr) (h : Nat) : Prop := TreeIn R t ∧ HeadIs R h
def MarkIf : Prop := True
theorem mid_if {prog : Program} {w w' : World} {D : Die} {a : SymAd} {S : SymSt} {T : List Str} {F : List (Int × Int)} {K R : List (Addr × Obj)} {i : Int} {n : Nat} {h₀ : Heap} {L : Addr} {m0 : Str → Option Value} {A : Around} {t : Sem Flow} {s : Shared} {Q : Flow → Shared → Prop} {E : Value → Shared → Prop} (_ok : StOk w' D a S T F K R i n) (_F : Fr h₀ L s.heap m0)
    (h1 : wpAny (model prog w) A t (MidH w' D a h₀ L m0 s) E s)
    (h2 : ∀ h' tk S T F K R i ti e h, Fr h₀ L h' (bindM m0 (Str.ofString "head") (some (.ref h))) → News h₀ L h' (StL w' D a S i ti e R) → StOk w' D a S T F K R i 300 → HeadIs R h → Q .next { s with heap := h', toks := tk }) : wpAny (model prog w) A t Q E s :=
  wpAny_mono h1 (fun fl s' hm => by
    obtain ⟨rfl, h', tk, S, T, F, K, R, i, ti, e, h, rfl, a1, a2, a3, a4⟩ := hm
    exact h2 h' tk S T F K R i ti e h a1 a2 a3 a4) (fun _ _ h => h)
theorem mid_0 {w : World} {D : Die} {a : SymAd} {S : SymSt} {T : List Str} {F : List (Int × Int)} {K R : List (Addr × Obj)} {i : Int} {n h : Nat} {ti : Tok} {e : Nat} {h₀ : Heap} {L : Addr} {m0 : Str → Option Value} {s : Shared} {h' : Heap} {tk : Nat} (F0 : Fr h₀ L h' m0) (N : News h₀ L h' (StL w D a S i ti e R)) (ok : StOk w D a S T F K R i n) (hn : n ≤ 300) (hh : HeadIs R h) (hm : m0 (Str.ofString "head") = some (.ref h)) :
    MidH w D a h₀ L m0 s .next { s with heap := h', toks := tk } :=
  ⟨rfl, h', tk, S, T, F, K, R, i, ti, e, h, rfl, by rw [← hm, ← bindM_start]; exact F0, N, ok.more hn, hh⟩
theorem mid_1 {w : World} {D : Die} {a : SymAd} {S : SymSt} {T : List Str} {F : List (Int × Int)} {K R : List (Addr × Obj)} {i f : Int} {n h g v : Nat} {ti t1 t2 : Tok} {e : Nat} {vo go : Obj} {h₀ : Heap} {L : Addr} {m0 : Str → Option Value} {s : Shared} {h' : Heap} {tk : Nat} (F0 : Fr h₀ L h' (fun y => if y = Str.ofString "head" then some (.ref h) else m0 y)) (N : News h₀ L h' ((h, tupO [.str (Str.ofString "s") t1, .int f t2, .ref g]) :: (g, go) :: (v, vo) :: StL w D a S i ti e R)) (ok : StOk w D a S T F K R i n) (hn : n ≤ 300) (l1 : a.gx < h) (l2 : a.gx < g) (l3 : a.gx < v) (hf : f ≠ 5) :
    MidH w D a h₀ L m0 s .next { s with heap := h', toks := tk } :=
  ⟨rfl, h', tk, S, T, F, K, _, i, ti, e, h, rfl, F0, news_sub N fun z hz => by simp only [List.mem_cons] at hz ⊢; grind, (((ok.cons (p := (v, vo)) l3).cons (p := (g, go)) l2).cons (p := (h, tupO [.str (Str.ofString "s") t1, .int f t2, .ref g])) l1).more hn, .s (.head _) hf⟩
theorem idx5 {w : World} {D : Die} {a : SymAd} {S : SymSt} {T : List Str} {F : List (Int × Int)} {K R : List (Addr × Obj)} {i : Int} {n : Nat} {p : Int} (ok : StOk w D a S T F K R i n) : ((F.idxOf (p, 1) : Nat) : Int) ≠ 5 := by
  have := (ok.g6.idx p).2
  omega
theorem start_L9_2 : (0 : Nat) ≤ 1 := by
  w_top off
  k_with "m:call ref" => (k_here; (fail_if_success (fail_if_success (with_reducible show wpAny _ _ (PySem.call (PySem.Value.ref 256) _ _) _ _ _))); k_dflt (refine' ctr_use (body_c _ _ _ 5 _ _ _ _ _ _ _ _ _ _ _ (by assumption) (by decide) rfl) (by k_asm) (by k_asm) (by k_asm) (by k_asm) (by k_asm) (by first | exact rfl | assumption) (by ktr_room) (by ktr_units) ?_); intro r' n' h' tk' F' N' o'; unfold BodyOut at o'; obtain ⟨S', T', F', K', R', i', ti', e', t', e1', ok', hs', ht', hd', e2'⟩ := o'; subst e1' e2'; (try k_sweep); (try k_fold))
  k_with "m:call ref" => (k_here; (fail_if_success (fail_if_success (with_reducible show wpAny _ _ (PySem.call (PySem.Value.ref 165) _ _) _ _ _))); k_dflt (refine' ctr_N (by k_asm) (by k_asm) (by k_asm) (by k_asm) (by k_asm) (by first | exact rfl | assumption) (flat_c _ _ _ _ (by walk_at "my tree") (by assumption)) (by ktr_room) (by ktr_units) ?_); intro r' n' h' tk' F' N' o'; (k_dflt (obtain ⟨⟨tl', e1'⟩, l', e', e2', m'⟩ := o')); subst e1' e2'; (try k_sweep); (try k_fold))
  k_with "m:call ref" => (k_here; (fail_if_success (fail_if_success (with_reducible show wpAny _ _ (PySem.call (PySem.Value.ref 270) _ _) _ _ _))); k_dflt (refine' ctr_N (by k_asm) (by k_asm) (by k_asm) (by k_asm) (by k_asm) (by first | exact rfl | assumption) (list_use (goals_c _ _) (by walk_at "my tree") (by assumption)) (by ktr_room) (by ktr_units) ?_); intro r' n' h' tk' F' N' o'; (k_dflt (obtain ⟨⟨tl', e1'⟩, l', e', e2', m'⟩ := o')); subst e1' e2'; (try k_sweep); (try k_fold))
  k_with "m:call ref" => (k_here; (fail_if_success (fail_if_success (with_reducible show wpAny _ _ (PySem.call (PySem.Value.ref 172) _ _) _ _ _))); k_dflt (refine' ctr_N (by k_asm) (by k_asm) (by k_asm) (by k_asm) (by k_asm) (by first | exact rfl | assumption) (cut_c _ _ _ _ (by walk_at "my tree") (by assumption)) (by ktr_room) (by ktr_units) ?_); intro r' n' h' tk' F' N' o'; (k_dflt (obtain ⟨⟨tl', e1'⟩, e2'⟩ := o')); subst e1' e2'; (try k_sweep); (try k_fold))
  k_with "m:call ref" => (k_here; (fail_if_success (fail_if_success (with_reducible show wpAny _ _ (PySem.call (PySem.Value.ref 277) _ _) _ _ _))); k_dflt (refine' ctr_N (by k_asm) (by k_asm) (by k_asm) (by k_asm) (by k_asm) (by first | exact rfl | assumption) (bool_use (cuts_c _ _) (by walk_at "my tree")) (by ktr_room) (by ktr_units) ?_); intro r' n' h' tk' F' N' o'; (k_dflt (obtain ⟨⟨tl', e1'⟩, e2'⟩ := o')); subst e1' e2'; (try k_sweep); (try k_fold))
  k_with "m:call ref" => (k_here; (fail_if_success (fail_if_success (with_reducible show wpAny _ _ (PySem.call (PySem.Value.ref 221) _ _) _ _ _))); k_dflt (refine' ctr_N (by k_asm) (by k_asm) (by k_asm) (by k_asm) (by k_asm) (by first | exact rfl | assumption) (isb_c _ _ _ _ (by walk_at "my tree") (by assumption)) (by ktr_room) (by ktr_units) ?_); intro r' n' h' tk' F' N' o'; (k_dflt (obtain ⟨⟨tl', e1'⟩, e2'⟩ := o')); subst e1' e2'; (try k_sweep); (try k_fold))
  k_with "m:call ref" => (k_here; (fail_if_success (fail_if_success (with_reducible show wpAny _ _ (PySem.call (PySem.Value.ref 284) _ _) _ _ _))); k_dflt (refine' ctr_N (by k_asm) (by k_asm) (by k_asm) (by k_asm) (by k_asm) (by first | exact rfl | assumption) (bool_use (sound_c _ _) (by walk_at "my tree")) (by ktr_room) (by ktr_units) ?_); intro r' n' h' tk' F' N' o'; (k_dflt (obtain ⟨⟨tl', e1'⟩, e2'⟩ := o')); subst e1' e2'; (try k_sweep); (try k_fold))
  exact Nat.zero_le 1
theorem mapp_r {x : Addr × Obj} {l1 l2 : List (Addr × Obj)} (h : List.Mem x l2) : List.Mem x (l1 ++ l2) := List.mem_append_right _ h
theorem start_L9_3 : (0 : Nat) ≤ 1 := by
  w_top off
  k_with "m:k_mem" => first | assumption | exact List.Mem.head _ | (refine' List.Mem.tail _ ?_; k_mem) | ((with_reducible refine' mapp_r ?_); k_mem) | ((with_reducible refine' List.mem_append.mpr (Or.inr ?_)); k_mem) | ((with_reducible refine' List.mem_append.mpr (Or.inl ?_)); k_mem)
  k_with "m:compareOp NotEq ref ref" => (k_here; refine stop_ ?_)
  k_with "m:compareOp Eq ref ref" => (k_here; refine stop_ ?_)
  k_with "m:compareOp NotEq ref ref" => (k_here; k_dflt (refine' ne_refs (by k_asm) (by k_mem) (by k_mem) (by ktr_units) ?_; k_whole))
  k_with "m:compareOp NotEq bool bool" => (k_here; k_dflt (refine ne_bool ?_))
  k_with "m:call ref" => (k_here; (fail_if_success (fail_if_success (with_reducible show wpAny _ _ (PySem.call (PySem.Value.ref 235) _ _) _ _ _))); k_dflt (refine' ctr_N (by k_asm) (by k_asm) (by k_asm) (by k_asm) (by k_asm) (by first | exact rfl | assumption) (rsp_c _ _ _ _ _ _ (by assumption) (by walk_at "my tree") (by walk_at "my seq") (by assumption)) (by ktr_room) (by ktr_units) ?_); intro r' n' h' tk' F' N' o'; (k_dflt (obtain ⟨⟨tl', e1'⟩, l', e', e2', m'⟩ := o')); subst e1' e2'; (try k_sweep); (try k_fold))
  k_with "m:call ref" => (k_here; (fail_if_success (fail_if_success (with_reducible show wpAny _ _ (PySem.call (PySem.Value.ref 291) _ _) _ _ _))); k_dflt (refine' ctr_N (by k_asm) (by k_asm) (by k_asm) (by k_asm) (by k_asm) (by first | exact rfl | assumption) (spine_use (spine_c _ _ (by assumption) _) (by walk_at "my tree") (by walk_at "my seq") (by assumption)) (by ktr_room) (by ktr_units) ?_); intro r' n' h' tk' F' N' o'; (k_dflt (obtain ⟨⟨tl', e1'⟩, l', e', e2', m'⟩ := o')); subst e1' e2'; (try k_sweep); (try k_fold))
  k_with "my seq" => (refine SeqInts.mono (by assumption) ?_; intro p9 h9; simp only [List.mem_cons, List.mem_append, h9, or_true, true_or])
  exact Nat.zero_le 1
theorem sub_tr {X Y Z : List (Addr × Obj)} (h1 : ∀ p ∈ X, p ∈ Y) (h2 : ∀ p ∈ Y, p ∈ Z) : ∀ p ∈ X, p ∈ Z := fun p hp => h2 p (h1 p hp)
theorem sound_b {w : World} {t : Tr} {news : List (Addr × Obj)} {a : Nat} {v : Bool} (ht : At news a t) (hb : soundT t = v) : Ctr w 284 [.ref a] (10 + 5 * t.dep) news (fun n' r => news <:+ n' ∧ r = .bool v) := by rw [← hb]; exact bool_use (sound_c w t) ht

theorem start_L9_4 : (0 : Nat) ≤ 1 := by
  w_top off
  k_with "m:call ref" => (k_here; (fail_if_success (fail_if_success (with_reducible show wpAny _ _ (PySem.call (PySem.Value.ref 284) _ _) _ _ _))); k_dflt (refine' ctr_N (by k_asm) (by k_asm) (by k_asm) (by k_asm) (by k_asm) (by first | exact rfl | assumption) (sound_b (v := true) (by walk_at "my tree") (by assumption)) (by ktr_room) (by ktr_units) ?_); intro r' n' h' tk' F' N' o'; (k_dflt (obtain ⟨⟨tl', e1'⟩, e2'⟩ := o')); subst e1' e2'; (try k_sweep); (try k_fold))
  k_with "m:call ref" => (k_here; (fail_if_success (fail_if_success (with_reducible show wpAny _ _ (PySem.call (PySem.Value.ref 284) _ _) _ _ _))); k_dflt (refine' ctr_N (by k_asm) (by k_asm) (by k_asm) (by k_asm) (by k_asm) (by first | exact rfl | assumption) (sound_b (v := false) (by walk_at "my tree") (by assumption)) (by ktr_room) (by ktr_units) ?_); intro r' n' h' tk' F' N' o'; (k_dflt (obtain ⟨⟨tl', e1'⟩, e2'⟩ := o')); subst e1' e2'; (try k_sweep); (try k_fold))
  k_with "m:pyIter ref" => (k_here; refine stop_ ?_)
  k_with "m:exec For" => (k_here; refine stop_ ?_)
  k_with "m:exec If" => (k_here; (fail_if_success (rename MarkIf => hx9)); refine stop_ ?_)
  exact Nat.zero_le 1
theorem ctrT_use {w : World} {f : Addr} {vs : List Value} {sz : Nat} {news : List (Addr × Obj)} {Out : List (Addr × Obj) → Value → Prop} (C : CtrT w f vs sz news Out) {mean : ExcName → Option Value} {mg mb : Str → Option Value} {dp un : Nat} {gd : Option (List Code)} {cn : Str} {cs : Scope} {a : Addr} {ccd : Value} {A₀ : Around} {base h₀ : Heap} {L : Addr} {m : Str → Option Value} {s : Shared} {Q E : Value → Shared → Prop}
    (B : Below A₀ base [] h₀) (XB : (hd.heap_39 w.params).In base) (TB : Top hd.view_39 (looseW hd.view_39 []) mean mg mb base) (F : Fr h₀ L s.heap m) (X : (hd.heap_39 w.params).In h₀) (N : News h₀ L s.heap news) (T : Top hd.view_39 (looseW hd.view_39 []) mean mg mb h₀) (hk : cs.kind = .function) (hd : dp + sz < recursionLimit) (hu : un + 8 * sz < cLine)
    (ret : ∀ r news' h' tk', Fr h₀ L h' m → News h₀ L h' news' → Out news' r → Q r { s with heap := h', toks := tk' }) :
    wpAny (model PySem.Challenge.rw_rr0018_01.row.prog w) (ktrTop dp un gd cn cs L a ccd [] []) (call (.ref f) vs) Q E s :=
  C mean mg mb dp un gd cn cs a ccd A₀ base h₀ L m s Q E B XB TB F X N T hk hd hu ret
theorem fill_L9 {w : World} {s : Shared} {P : Prop} (k : P) : PySem.Challenge.rw_rr0018_01 = PySem.Challenge.rw_rr0018_01 → (hd.heap_39 w.params).In s.heap → P := by
  k_fill
  intro _ _; exact k
theorem law_row : PySem.Challenge.rw_rr0018_01.Holds := by
  refine hd.top (by rfl) (by rfl) (by rfl) ?_
  k_go0
  k_steps
  (rename StOk _ _ _ _ _ _ _ _ _ _ => ok0)
  (rename Fr _ _ _ _ => F0)
  have mk9 : MarkIf := trivial
  refine mid_if ok0 F0 ?_ ?_
  · k_steps
    · (rename Fr _ _ _ _ => F5)
      (rename News _ _ _ (_ :: _) => N5)
      exact mid_1 F5 N5 (by assumption) (by omega) (by omega) (by omega) (by omega) (idx5 (by assumption))
    · (rename Fr _ _ _ _ => F5)
      (rename News _ _ _ (_ :: _) => N5)
      exact mid_0 F5 N5 (by assumption) (by omega) (.a (.head _)) rfl
  · clear mk9 F0 ok0
    intro h' tk S T F K R i ti e h F1 N1 ok1 hh1
    k_steps
    (rename TreeIn _ _ => ht2)
    (rename StOk _ _ _ _ _ _ _ _ _ _ => ok2)
    (rename News _ _ _ _ => N2)
    (rename (∀ p ∈ R, p ∈ _) => hs2)
    (rename Tr.dep _ ≤ _ => hd2)
    rename Tr => t
    obtain ⟨led, N3, hStL, hR⟩ := gen_led N2
    have at3 : At led t.adr t := ⟨ht2.mono hR, rfl⟩
    have hh3 : HeadIs led h := hh1.mono fun p hp => hR p (hs2 p hp)
    have hd10 : t.dep ≤ 10 := by omega
    have pk : Pack _ t h := ⟨ht2, hh1.mono hs2⟩
    clear N2 ht2 ok1 hh1
    have mk9 : MarkIf := trivial
    refine stop_1 ?_
    k_steps
    (rename News _ _ _ (_ :: _) => N4)
    (rename Fr _ _ _ _ => F4)
    refine iter_lst (JL _ _) F4 N4 (.head _) rfl ⟨⟨_, bindM_start _ _⟩, fun p hp => hp⟩ (fun i m₁ n₁ hJ => hJ.2 _ (.head _)) ?_ ?_
    · rintro i v m₁ n₁ h9 tk9 I oI hv ⟨⟨tv, rfl⟩, hsub⟩ hne F5 N5
      obtain ⟨fa, fs, rfl, hsq, hfs⟩ := five_at hv (seq_t1 (hsub _ (by k_mem))) (seq_t1 (hsub _ (by k_mem))) (seq_t1 (hsub _ (by k_mem))) (seq_t2 (hsub _ (by k_mem))) (seq_t0 (hsub _ (by k_mem)))
      have at5 : At n₁ t.adr t := at3.mono fun p hp => hsub p (by simp only [List.mem_cons, List.mem_append, hp, or_true])
      clear N4 F4
      k_steps
      (rename News _ _ _ (_ ++ _) => N6)
      (rename Fr _ _ _ _ => F6)
      exact ⟨_, _, _, _, rfl, bind_fix F6, news_sub N6 (fun p hp => by simp only [List.mem_append, hp, or_true]), hne, ⟨_, rfl⟩, hsub⟩
    · rintro h9 tk9 m9 n9 F9 N9 ⟨⟨tv, rfl⟩, hsub⟩
      have hln : ∀ p ∈ led, p ∈ n9 := fun p hp => hsub p (by simp only [List.mem_cons, List.mem_append, hp, or_true])
      have at9 := at3.mono hln
      have hh9 := hh3.mono hln
      have hSt9 := sub_tr hStL hln
      have hx1 := hSt9 _ (.tail _ (.tail _ (.head _)))
      have hx2 := hSt9 _ (.tail _ (.tail _ (.tail _ (.head _))))
      clear at3 hh3 N4 F4 hsub hStL hln
      cases hsd : soundT t with
      | true =>
        k_steps
        refine stop_1 ?_
        k_here
        refine' ctr_use (lsplit_s ?hc ?hp ?hh ?ht ?hd10 ?hs) ?B ?F ?X ?N ?T ?hk ?hd ?hu ?_
        (case N => k_asm)
        (case hc => k_mem)
        (case hp => k_mem)
        (case hh => (refine HeadIs.mono (by assumption) ?_; intro p9 h9; simp only [List.mem_cons, List.mem_append, h9, or_true, true_or]))
        (case ht => walk_at "my tree")
        (case hd10 => assumption)
        (case hs => assumption)
        (walk_at "my call")
        rintro r1 n1 h1 tk1 F1 N1 ⟨hs1, q1, hq1, rfl⟩
        k_steps
        refine stop_1 ?_
        refine ne_pair N1 hq1 (hs1 _ (by k_mem)) (by ktr_units) ?_
        have hhn : HeadIs n1 h := hh9.mono fun p hp => hs1 p (by simp only [List.mem_cons, List.mem_append, hp, or_true])
        k_steps
        refine stop_1 ?_
        k_here
        refine' ctr_use (lsplit_h ?hh) ?B ?F ?X ?N ?T ?hk ?hd ?hu ?_
        (case N => k_asm)
        (case hh => assumption)
        (walk_at "my call")
        rintro r2 n2 h2 tk2 F2 N2 ⟨hs2, q2, b2, u1, u2, hq2, hb2, rfl⟩
        k_steps
        refine stop_1 ?_
        (rename News _ _ _ (_ :: _) => N7)
        refine eq_headpair (k := Str.ofString "a") (n := 16) N7 (by k_mem) (by k_mem) (by k_mem) (by k_mem) (by ktr_units) ?_
        k_steps
      | false =>
        have mk8 : MarkFn := trivial
        have N9' := news_sub N9 hSt9
        obtain ⟨htR, hhR⟩ := pk
        have atR : At _ t.adr t := ⟨htR, rfl⟩
        clear N9 at9 hh9 hx1 hx2 hSt9 htR hR
        k_steps
        refine stop_1 ?_
        k_here
        refine' ctr_use (func_u ok2 ?hn ?hl) ?B ?F ?X ?N ?T ?hk ?hd ?hu ?_
        (case N => k_asm)
        (case hn => decide)
        (case hl => (intro p9 h9; exact List.mem_append_right _ (List.mem_cons_of_mem _ h9)))
        (walk_at "my call")
        rintro r1 n1 h1 tk1 F1 N1 ⟨S1, K1, p1, k1, rfl, lt1, ok3, rfl⟩
        (try clear ok2)
        k_steps
        refine stop_1 ?_
        k_here
        refine' ctr_use (atom_d ok3 ?hn) ?B ?F ?X ?N ?T ?hk ?hd ?hu ?_
        (case N => k_asm)
        (case hn => decide)
        (walk_at "my call")
        rintro r2 n2 h2 tk2 F2 N2 ⟨S2, k2, rfl, ok4, rfl⟩
        (try clear ok3)
        k_steps
        refine stop_1 ?_
        k_here
        refine' ctrT_use (lsx ok4 ?hn ?l1 ?l2 ?l3 ?l4 ?l5 ?l6 ?hh ?ht hd10 hsd) ?B ?XB ?TB ?F ?X ?N ?T ?hk ?hd ?hu ?_
        (case N => k_asm)
        (case hn => decide)
        (case hh => exact hhR.mono fun p hp => .tail _ hp)
        (case ht => exact atR.mono fun p hp => .tail _ hp)
        (case XB => k_asm)
        (case TB => k_asm)
        (case l1 => omega)
        (case l2 => omega)
        (case l3 => omega)
        (case l4 => omega)
        (case l5 => omega)
        (case l6 => omega)
        (walk_at "my call")
        rintro r3 n3 h3 tk3 F3 N3 ⟨hhn, rr, fo, u, ci, fi, m1, f1, rfl, m2, f2⟩
        k_steps
        refine stop_1 ?_
        refine ne_refused N3 m1 m2 f1 f2 (by ktr_units) ?_
        k_steps
        refine stop_1 ?_
        k_here
        refine' ctr_use (lsplit_h ?hh) ?B ?F ?X ?N ?T ?hk ?hd ?hu ?_
        (case N => k_asm)
        (case hh => assumption)
        (walk_at "my call")
        rintro r4 n4 h4 tk4 F4 N4 ⟨hs4, q4, b4, u1, u2, hq4, hb4, rfl⟩
        k_steps
        refine stop_1 ?_
        (rename News _ _ _ (_ :: _) => N7)
        refine eq_headpair (k := Str.ofString "a") (n := 16) N7 (by k_mem) (by k_mem) (by k_mem) (by k_mem) (by ktr_units) ?_
        k_steps
end

end Mine
theorem PySem.Challenge.cw_rr0018_01_holds : PySem.Challenge.rw_rr0018_01.Holds :=
  Mine.law_row
