import PyProof.Rows.All
import Wide.All
import OpenK.AllK
import Wide.FinOn
import Lean
import PySem.Challenge.RW_nu0058_01
open PySem PySem.W PyProof.Rows
set_option Elab.async false
set_option maxRecDepth 100000
namespace Mine
/-- the i-th statement of the text, and its parts -/
def stOf (i : Nat) : Stmt := PySem.Challenge.rw_nu0058_01.row.prog.main.body.getD i (.Pass default)
def meOf (i j : Nat) : Stmt := match stOf i with
  | .ClassDef _ _ _ b _ _ _ _ _ _ _ => b.getD j (.Pass default)
  | s => s
def fnOf3 : Stmt → Arguments × List Stmt × Scope
  | .FunctionDef _ a b _ _ _ s _ _ _ => (a, b, s)
  | _ => (default, [], default)

noncomputable def hd.view_39 : Program := (fun (c0 : Stmt) (c1 : Stmt) (c2 : Stmt) (c3 : Stmt) (c4 : Stmt) (c5 : Stmt) (c6 : Stmt) (c7 : Stmt) (c8 : Stmt) (c9 : Stmt) (c10 : Stmt) (c11 : Stmt) (c12 : Stmt) (c13 : Stmt) (c14 : Stmt) (c15 : Stmt) (c16 : Stmt) (c17 : Stmt) (c18 : Stmt) (c19 : Stmt) (c20 : Stmt) (c21 : Stmt) (c22 : Stmt) (c23 : Stmt) (c24 : Stmt) (c25 : Stmt) (c26 : Stmt) (c27 : Stmt) (c28 : Stmt) (c29 : Stmt) (c30 : Stmt) (c31 : Stmt) (_ : PySem.Challenge.rw_nu0058_01.row.prog.main.body = [c0, c1, c2, c3, c4, c5, c6, c7, c8, c9, c10, c11, c12, c13, c14, c15, c16, c17, c18, c19, c20, c21, c22, c23, c24, c25, c26, c27, c28, c29, c30, c31] ) =>
  ({ PySem.Challenge.rw_nu0058_01.row.prog with main := { (PySem.Challenge.rw_nu0058_01.row.prog).main with body := [c1, c2, c4, c5, c6, c7, c8, c9, c10, c11, c12, c13, c14, c16, c17, c18, c19, c20, c22, c23, c24, c25, c26, c27, c28, c29, c30, c31] } } : Program)) _ _ _ _ _ _ _ _ _ _ _ _ _ _ _ _ _ _ _ _ _ _ _ _ _ _ _ _ _ _ _ _ rfl

noncomputable def hd.heap_39 : Params → Frag := (fun
  (p28 : Arguments) (b28 : List Stmt) (s28 : Scope) (_ : (p28, b28, s28) = fnOf3 (meOf 1 0))
  (p70 : Arguments) (b70 : List Stmt) (s70 : Scope) (_ : (p70, b70, s70) = fnOf3 (stOf 7))
  (p77 : Arguments) (b77 : List Stmt) (s77 : Scope) (_ : (p77, b77, s77) = fnOf3 (stOf 8))
  (p84 : Arguments) (b84 : List Stmt) (s84 : Scope) (_ : (p84, b84, s84) = fnOf3 (stOf 9))
  (p91 : Arguments) (b91 : List Stmt) (s91 : Scope) (_ : (p91, b91, s91) = fnOf3 (stOf 10))
  (p98 : Arguments) (b98 : List Stmt) (s98 : Scope) (_ : (p98, b98, s98) = fnOf3 (stOf 11))
  (p105 : Arguments) (b105 : List Stmt) (s105 : Scope) (_ : (p105, b105, s105) = fnOf3 (stOf 12))
  (p112 : Arguments) (b112 : List Stmt) (s112 : Scope) (_ : (p112, b112, s112) = fnOf3 (stOf 13))
  (p119 : Arguments) (b119 : List Stmt) (s119 : Scope) (_ : (p119, b119, s119) = fnOf3 (stOf 14))
  (p126 : Arguments) (b126 : List Stmt) (s126 : Scope) (_ : (p126, b126, s126) = fnOf3 (stOf 18))
  (p133 : Arguments) (b133 : List Stmt) (s133 : Scope) (_ : (p133, b133, s133) = fnOf3 (stOf 19))
  (p147 : Arguments) (b147 : List Stmt) (s147 : Scope) (_ : (p147, b147, s147) = fnOf3 (meOf 20 0))
  (p154 : Arguments) (b154 : List Stmt) (s154 : Scope) (_ : (p154, b154, s154) = fnOf3 (meOf 20 1))
  (p161 : Arguments) (b161 : List Stmt) (s161 : Scope) (_ : (p161, b161, s161) = fnOf3 (meOf 20 2))
  (p168 : Arguments) (b168 : List Stmt) (s168 : Scope) (_ : (p168, b168, s168) = fnOf3 (meOf 20 3))
  (p175 : Arguments) (b175 : List Stmt) (s175 : Scope) (_ : (p175, b175, s175) = fnOf3 (meOf 20 4))
  (p182 : Arguments) (b182 : List Stmt) (s182 : Scope) (_ : (p182, b182, s182) = fnOf3 (meOf 20 5))
  (p190 : Arguments) (b190 : List Stmt) (s190 : Scope) (_ : (p190, b190, s190) = fnOf3 (meOf 20 6))
  (p197 : Arguments) (b197 : List Stmt) (s197 : Scope) (_ : (p197, b197, s197) = fnOf3 (meOf 20 7))
  (p204 : Arguments) (b204 : List Stmt) (s204 : Scope) (_ : (p204, b204, s204) = fnOf3 (meOf 20 8))
  (p218 : Arguments) (b218 : List Stmt) (s218 : Scope) (_ : (p218, b218, s218) = fnOf3 (stOf 22))
  (p225 : Arguments) (b225 : List Stmt) (s225 : Scope) (_ : (p225, b225, s225) = fnOf3 (stOf 23))
  (p232 : Arguments) (b232 : List Stmt) (s232 : Scope) (_ : (p232, b232, s232) = fnOf3 (stOf 24))
  (p239 : Arguments) (b239 : List Stmt) (s239 : Scope) (_ : (p239, b239, s239) = fnOf3 (stOf 25))
  (p246 : Arguments) (b246 : List Stmt) (s246 : Scope) (_ : (p246, b246, s246) = fnOf3 (stOf 26))
  (p251 : Arguments) (b251 : List Stmt) (s251 : Scope) (_ : (p251, b251, s251) = fnOf3 (stOf 27))
  (p258 : Arguments) (b258 : List Stmt) (s258 : Scope) (_ : (p258, b258, s258) = fnOf3 (stOf 28))
  (p263 : Arguments) (b263 : List Stmt) (s263 : Scope) (_ : (p263, b263, s263) = fnOf3 (stOf 29))
  (p268 : Arguments) (b268 : List Stmt) (s268 : Scope) (_ : (p268, b268, s268) = fnOf3 (stOf 30))
  (p275 : Arguments) (b275 : List Stmt) (s275 : Scope) (_ : (p275, b275, s275) = fnOf3 (stOf 31))
  (P : Params) => ((
  ((nat_lit 2 : Nat), ({ cls := PySem.Value.none, data := PySem.Data.dict #[{ hash := PySem.PyData.keyHash P (PySem.Str.ofString "type.__subclasses__.Exception.0"), key := PySem.Value.str (PySem.Str.ofString "type.__subclasses__.Exception.0") 214, val := PySem.Value.int 31 0 }, { hash := PySem.PyData.keyHash P (PySem.Str.ofString "type.__subclasses__.Exception.n"), key := PySem.Value.str (PySem.Str.ofString "type.__subclasses__.Exception.n") 215, val := PySem.Value.int 1 0 }] 2 } : Obj)) ::
  ((nat_lit 3 : Nat), ({ cls := PySem.Value.type "dict", data := PySem.Data.dict #[{ hash := PySem.PyData.keyHash P (PySem.Str.ofString "__name__"), key := PySem.Value.str (PySem.Str.ofString "__name__") 165, val := PySem.Value.str (PySem.Str.ofString "law_nu0058_01") 460 }, { hash := PySem.PyData.keyHash P (PySem.Str.ofString "__doc__"), key := PySem.Value.str (PySem.Str.ofString "__doc__") 166, val := PySem.Value.none }, { hash := PySem.PyData.keyHash P (PySem.Str.ofString "__package__"), key := PySem.Value.str (PySem.Str.ofString "__package__") 167, val := PySem.Value.none }, { hash := PySem.PyData.keyHash P (PySem.Str.ofString "__loader__"), key := PySem.Value.str (PySem.Str.ofString "__loader__") 168, val := PySem.Value.builtin "__main__.__loader__#opaque" }, { hash := PySem.PyData.keyHash P (PySem.Str.ofString "__spec__"), key := PySem.Value.str (PySem.Str.ofString "__spec__") 169, val := PySem.Value.none }, { hash := PySem.PyData.keyHash P (PySem.Str.ofString "__annotations__"), key := PySem.Value.str (PySem.Str.ofString "__annotations__") 170, val := PySem.Value.ref 6 }, { hash := PySem.PyData.keyHash P (PySem.Str.ofString "__builtins__"), key := PySem.Value.str (PySem.Str.ofString "__builtins__") 171, val := PySem.Value.ref 4 }, { hash := PySem.PyData.keyHash P (PySem.Str.ofString "__file__"), key := PySem.Value.str (PySem.Str.ofString "__file__") 173, val := PySem.Value.str (PySem.Str.ofString "/claim/cut.py") 172 }, { hash := PySem.PyData.keyHash P (PySem.Str.ofString "__cached__"), key := PySem.Value.str (PySem.Str.ofString "__cached__") 174, val := PySem.Value.none }, { hash := PySem.PyData.keyHash P (PySem.Str.ofString "MarkupError"), key := PySem.Value.str (PySem.Str.ofString "MarkupError") 217, val := PySem.Value.ref 31 }, { hash := PySem.PyData.keyHash P (PySem.Str.ofString "NamespaceFault"), key := PySem.Value.str (PySem.Str.ofString "NamespaceFault") 233, val := PySem.Value.ref 44 }, { hash := PySem.PyData.keyHash P (PySem.Str.ofString "START_RANGES"), key := PySem.Value.str (PySem.Str.ofString "START_RANGES") 260, val := PySem.Value.ref 59 }, { hash := PySem.PyData.keyHash P (PySem.Str.ofString "MORE_RANGES"), key := PySem.Value.str (PySem.Str.ofString "MORE_RANGES") 267, val := PySem.Value.ref 63 }, { hash := PySem.PyData.keyHash P (PySem.Str.ofString "FIRST_BEYOND"), key := PySem.Value.str (PySem.Str.ofString "FIRST_BEYOND") 269, val := PySem.Value.int 128 268 }, { hash := PySem.PyData.keyHash P (PySem.Str.ofString "is_in_ranges"), key := PySem.Value.str (PySem.Str.ofString "is_in_ranges") 279, val := PySem.Value.ref 70 }, { hash := PySem.PyData.keyHash P (PySem.Str.ofString "is_small_letter"), key := PySem.Value.str (PySem.Str.ofString "is_small_letter") 286, val := PySem.Value.ref 77 }, { hash := PySem.PyData.keyHash P (PySem.Str.ofString "is_name_start"), key := PySem.Value.str (PySem.Str.ofString "is_name_start") 293, val := PySem.Value.ref 84 }, { hash := PySem.PyData.keyHash P (PySem.Str.ofString "is_name_char"), key := PySem.Value.str (PySem.Str.ofString "is_name_char") 300, val := PySem.Value.ref 91 }, { hash := PySem.PyData.keyHash P (PySem.Str.ofString "is_nmtoken"), key := PySem.Value.str (PySem.Str.ofString "is_nmtoken") 308, val := PySem.Value.ref 98 }, { hash := PySem.PyData.keyHash P (PySem.Str.ofString "is_name"), key := PySem.Value.str (PySem.Str.ofString "is_name") 315, val := PySem.Value.ref 105 }, { hash := PySem.PyData.keyHash P (PySem.Str.ofString "is_ncname"), key := PySem.Value.str (PySem.Str.ofString "is_ncname") 322, val := PySem.Value.ref 112 }, { hash := PySem.PyData.keyHash P (PySem.Str.ofString "split_name"), key := PySem.Value.str (PySem.Str.ofString "split_name") 331, val := PySem.Value.ref 119 }, { hash := PySem.PyData.keyHash P (PySem.Str.ofString "XML_URI"), key := PySem.Value.str (PySem.Str.ofString "XML_URI") 335, val := PySem.Value.str (PySem.Str.ofString "http://www.w3.org/XML/1998/namespace") 334 }, { hash := PySem.PyData.keyHash P (PySem.Str.ofString "XMLNS_URI"), key := PySem.Value.str (PySem.Str.ofString "XMLNS_URI") 337, val := PySem.Value.str (PySem.Str.ofString "http://www.w3.org/2000/xmlns/") 336 }, { hash := PySem.PyData.keyHash P (PySem.Str.ofString "declared_prefix"), key := PySem.Value.str (PySem.Str.ofString "declared_prefix") 344, val := PySem.Value.ref 126 }, { hash := PySem.PyData.keyHash P (PySem.Str.ofString "check_binding"), key := PySem.Value.str (PySem.Str.ofString "check_binding") 352, val := PySem.Value.ref 133 }, { hash := PySem.PyData.keyHash P (PySem.Str.ofString "Bindings"), key := PySem.Value.str (PySem.Str.ofString "Bindings") 459, val := PySem.Value.ref 207 }, { hash := PySem.PyData.keyHash P (PySem.Str.ofString "_law_pool"), key := PySem.Value.str (PySem.Str.ofString "_law_pool") 472, val := PySem.Value.ref 218 }, { hash := PySem.PyData.keyHash P (PySem.Str.ofString "_law_take"), key := PySem.Value.str (PySem.Str.ofString "_law_take") 481, val := PySem.Value.ref 225 }, { hash := PySem.PyData.keyHash P (PySem.Str.ofString "_law_one"), key := PySem.Value.str (PySem.Str.ofString "_law_one") 489, val := PySem.Value.ref 232 }, { hash := PySem.PyData.keyHash P (PySem.Str.ofString "_law_told"), key := PySem.Value.str (PySem.Str.ofString "_law_told") 496, val := PySem.Value.ref 239 }, { hash := PySem.PyData.keyHash P (PySem.Str.ofString "_law_is_wrong"), key := PySem.Value.str (PySem.Str.ofString "_law_is_wrong") 506, val := PySem.Value.ref 246 }, { hash := PySem.PyData.keyHash P (PySem.Str.ofString "_law_drawn"), key := PySem.Value.str (PySem.Str.ofString "_law_drawn") 512, val := PySem.Value.ref 251 }, { hash := PySem.PyData.keyHash P (PySem.Str.ofString "_law_expanded"), key := PySem.Value.str (PySem.Str.ofString "_law_expanded") 524, val := PySem.Value.ref 258 }, { hash := PySem.PyData.keyHash P (PySem.Str.ofString "_law_asked_right"), key := PySem.Value.str (PySem.Str.ofString "_law_asked_right") 530, val := PySem.Value.ref 263 }, { hash := PySem.PyData.keyHash P (PySem.Str.ofString "_law_opened_right"), key := PySem.Value.str (PySem.Str.ofString "_law_opened_right") 536, val := PySem.Value.ref 268 }, { hash := PySem.PyData.keyHash P (PySem.Str.ofString "law"), key := PySem.Value.str (PySem.Str.ofString "law") 549, val := PySem.Value.ref 275 }] 37 } : Obj)) ::
  ((nat_lit 15 : Nat), ({ cls := PySem.Value.type "tuple", data := PySem.Data.seq #[PySem.Value.type "Exception"] } : Obj)) ::
  ((nat_lit 22 : Nat), ({ cls := PySem.Value.type "tuple", data := PySem.Data.seq #[] } : Obj)) ::
  ((nat_lit 24 : Nat), ({ cls := PySem.Value.type "tuple", data := PySem.Data.seq #[PySem.Value.str (PySem.Str.ofString "self") 204, PySem.Value.str (PySem.Str.ofString "message") 205] } : Obj)) ::
  ((nat_lit 25 : Nat), ({ cls := PySem.Value.type "tuple", data := PySem.Data.seq #[] } : Obj)) ::
  ((nat_lit 27 : Nat), ({ cls := PySem.Value.type "code", data := PySem.Data.fields #[PySem.Value.str (PySem.Str.ofString "__init__") 201, PySem.Value.str (PySem.Str.ofString "MarkupError.__init__") 202, PySem.Value.str (PySem.Str.ofString "/claim/cut.py") 203, PySem.Value.int 4 0, PySem.Value.int 2 0, PySem.Value.int 0 0, PySem.Value.int 0 0, PySem.Value.int 3 0, PySem.Value.ref 22, PySem.Value.bool Bool.true, PySem.Value.int 181 0, PySem.Value.ref 23, PySem.Value.none, PySem.Value.ref 24, PySem.Value.ref 25, PySem.Value.ref 26, PySem.Value.int 206 0, PySem.Value.int 4 0, PySem.Value.str (PySem.Str.ofString "/claim/cut.py") 207] } : Obj)) ::
  ((nat_lit 28 : Nat), ({ cls := PySem.Value.type "function", data := PySem.Data.func { name := PySem.Str.ofString "__init__", qualname := PySem.Str.ofString "MarkupError.__init__", params := p28, body := PySem.FuncBody.stmts b28, scope := s28, globals := 3, closure := [], defaults := PySem.Value.none, kwdefaults := PySem.Value.none, pyModule := PySem.Value.str (PySem.Str.ofString "markupmill.errors") 187, code := PySem.Value.ref 27 } } : Obj)) ::
  ((nat_lit 29 : Nat), ({ cls := PySem.Value.type "tuple", data := PySem.Data.seq #[PySem.Value.str (PySem.Str.ofString "message") 209] } : Obj)) ::
  ((nat_lit 30 : Nat), ({ cls := PySem.Value.type "dict", data := PySem.Data.dict #[{ hash := PySem.PyData.keyHash P (PySem.Str.ofString "__module__"), key := PySem.Value.str (PySem.Str.ofString "__module__") 196, val := PySem.Value.str (PySem.Str.ofString "markupmill.errors") 187 }, { hash := PySem.PyData.keyHash P (PySem.Str.ofString "__firstlineno__"), key := PySem.Value.str (PySem.Str.ofString "__firstlineno__") 200, val := PySem.Value.int 2 199 }, { hash := PySem.PyData.keyHash P (PySem.Str.ofString "__init__"), key := PySem.Value.str (PySem.Str.ofString "__init__") 208, val := PySem.Value.ref 28 }, { hash := PySem.PyData.keyHash P (PySem.Str.ofString "__static_attributes__"), key := PySem.Value.str (PySem.Str.ofString "__static_attributes__") 210, val := PySem.Value.ref 29 }, { hash := PySem.PyData.keyHash P (PySem.Str.ofString "__weakref__"), key := PySem.Value.str (PySem.Str.ofString "__weakref__") 212, val := PySem.Value.ref 32 }, { hash := PySem.PyData.keyHash P (PySem.Str.ofString "__doc__"), key := PySem.Value.str (PySem.Str.ofString "__doc__") 213, val := PySem.Value.none }] 3 } : Obj)) ::
  ((nat_lit 31 : Nat), ({ cls := PySem.Value.type "type", data := PySem.Data.cls { name := PySem.Str.ofString "MarkupError", bases := [PySem.Value.type "Exception"], mro := [PySem.Value.ref 31, PySem.Value.type "Exception", PySem.Value.type "BaseException", PySem.Value.type "object"], ns := 30, qualname := PySem.Str.ofString "MarkupError", subclasses := [PySem.Value.ref 44] }, slots := #[Option.some (PySem.Value.ref 15), Option.none, Option.some (PySem.Value.str (PySem.Str.ofString "MarkupError") 189), Option.some (PySem.Value.str (PySem.Str.ofString "MarkupError") 197), Option.some (PySem.Value.builtin "Exception.__new__"), Option.some (PySem.Value.bool Bool.true)] } : Obj)) ::
  ((nat_lit 32 : Nat), ({ cls := PySem.Value.type "getset_descriptor", data := PySem.Data.fields #[PySem.Value.str (PySem.Str.ofString "__weakref__") 211, PySem.Value.ref 31, PySem.Value.builtin "ExceptionGroup.__weakref__", PySem.Value.none] } : Obj)) ::
  ((nat_lit 35 : Nat), ({ cls := PySem.Value.type "tuple", data := PySem.Data.seq #[PySem.Value.ref 31] } : Obj)) ::
  ((nat_lit 42 : Nat), ({ cls := PySem.Value.type "tuple", data := PySem.Data.seq #[] } : Obj)) ::
  ((nat_lit 43 : Nat), ({ cls := PySem.Value.type "dict", data := PySem.Data.dict #[{ hash := PySem.PyData.keyHash P (PySem.Str.ofString "__module__"), key := PySem.Value.str (PySem.Str.ofString "__module__") 225, val := PySem.Value.str (PySem.Str.ofString "markupmill.errors") 187 }, { hash := PySem.PyData.keyHash P (PySem.Str.ofString "__firstlineno__"), key := PySem.Value.str (PySem.Str.ofString "__firstlineno__") 229, val := PySem.Value.int 7 228 }, { hash := PySem.PyData.keyHash P (PySem.Str.ofString "__static_attributes__"), key := PySem.Value.str (PySem.Str.ofString "__static_attributes__") 230, val := PySem.Value.ref 42 }, { hash := PySem.PyData.keyHash P (PySem.Str.ofString "__doc__"), key := PySem.Value.str (PySem.Str.ofString "__doc__") 231, val := PySem.Value.none }] 2 } : Obj)) ::
  ((nat_lit 44 : Nat), ({ cls := PySem.Value.type "type", data := PySem.Data.cls { name := PySem.Str.ofString "NamespaceFault", bases := [PySem.Value.ref 31], mro := [PySem.Value.ref 44, PySem.Value.ref 31, PySem.Value.type "Exception", PySem.Value.type "BaseException", PySem.Value.type "object"], ns := 43, qualname := PySem.Str.ofString "NamespaceFault" }, slots := #[Option.some (PySem.Value.ref 35), Option.none, Option.some (PySem.Value.str (PySem.Str.ofString "NamespaceFault") 218), Option.some (PySem.Value.str (PySem.Str.ofString "NamespaceFault") 226), Option.some (PySem.Value.builtin "Exception.__new__"), Option.some (PySem.Value.bool Bool.true)] } : Obj)) ::
  ((nat_lit 47 : Nat), ({ cls := PySem.Value.type "tuple", data := PySem.Data.seq #[PySem.Value.int 192 236, PySem.Value.int 214 237] } : Obj)) ::
  ((nat_lit 48 : Nat), ({ cls := PySem.Value.type "tuple", data := PySem.Data.seq #[PySem.Value.int 216 238, PySem.Value.int 246 239] } : Obj)) ::
  ((nat_lit 49 : Nat), ({ cls := PySem.Value.type "tuple", data := PySem.Data.seq #[PySem.Value.int 248 240, PySem.Value.int 767 241] } : Obj)) ::
  ((nat_lit 50 : Nat), ({ cls := PySem.Value.type "tuple", data := PySem.Data.seq #[PySem.Value.int 880 242, PySem.Value.int 893 243] } : Obj)) ::
  ((nat_lit 51 : Nat), ({ cls := PySem.Value.type "tuple", data := PySem.Data.seq #[PySem.Value.int 895 244, PySem.Value.int 8191 245] } : Obj)) ::
  ((nat_lit 52 : Nat), ({ cls := PySem.Value.type "tuple", data := PySem.Data.seq #[PySem.Value.int 8204 246, PySem.Value.int 8205 247] } : Obj)) ::
  ((nat_lit 53 : Nat), ({ cls := PySem.Value.type "tuple", data := PySem.Data.seq #[PySem.Value.int 8304 248, PySem.Value.int 8591 249] } : Obj)) ::
  ((nat_lit 54 : Nat), ({ cls := PySem.Value.type "tuple", data := PySem.Data.seq #[PySem.Value.int 11264 250, PySem.Value.int 12271 251] } : Obj)) ::
  ((nat_lit 55 : Nat), ({ cls := PySem.Value.type "tuple", data := PySem.Data.seq #[PySem.Value.int 12289 252, PySem.Value.int 55295 253] } : Obj)) ::
  ((nat_lit 56 : Nat), ({ cls := PySem.Value.type "tuple", data := PySem.Data.seq #[PySem.Value.int 63744 254, PySem.Value.int 64975 255] } : Obj)) ::
  ((nat_lit 57 : Nat), ({ cls := PySem.Value.type "tuple", data := PySem.Data.seq #[PySem.Value.int 65008 256, PySem.Value.int 65533 257] } : Obj)) ::
  ((nat_lit 58 : Nat), ({ cls := PySem.Value.type "tuple", data := PySem.Data.seq #[PySem.Value.int 65536 258, PySem.Value.int 983039 259] } : Obj)) ::
  ((nat_lit 59 : Nat), ({ cls := PySem.Value.type "tuple", data := PySem.Data.seq #[PySem.Value.ref 47, PySem.Value.ref 48, PySem.Value.ref 49, PySem.Value.ref 50, PySem.Value.ref 51, PySem.Value.ref 52, PySem.Value.ref 53, PySem.Value.ref 54, PySem.Value.ref 55, PySem.Value.ref 56, PySem.Value.ref 57, PySem.Value.ref 58] } : Obj)) ::
  ((nat_lit 60 : Nat), ({ cls := PySem.Value.type "tuple", data := PySem.Data.seq #[PySem.Value.int 183 261, PySem.Value.int 183 262] } : Obj)) ::
  ((nat_lit 61 : Nat), ({ cls := PySem.Value.type "tuple", data := PySem.Data.seq #[PySem.Value.int 768 263, PySem.Value.int 879 264] } : Obj)) ::
  ((nat_lit 62 : Nat), ({ cls := PySem.Value.type "tuple", data := PySem.Data.seq #[PySem.Value.int 8255 265, PySem.Value.int 8256 266] } : Obj)) ::
  ((nat_lit 63 : Nat), ({ cls := PySem.Value.type "tuple", data := PySem.Data.seq #[PySem.Value.ref 60, PySem.Value.ref 61, PySem.Value.ref 62] } : Obj)) ::
  ((nat_lit 64 : Nat), ({ cls := PySem.Value.type "tuple", data := PySem.Data.seq #[] } : Obj)) ::
  ((nat_lit 66 : Nat), ({ cls := PySem.Value.type "tuple", data := PySem.Data.seq #[PySem.Value.str (PySem.Str.ofString "code") 273, PySem.Value.str (PySem.Str.ofString "ranges") 274, PySem.Value.str (PySem.Str.ofString "low") 275, PySem.Value.str (PySem.Str.ofString "high") 276] } : Obj)) ::
  ((nat_lit 67 : Nat), ({ cls := PySem.Value.type "tuple", data := PySem.Data.seq #[] } : Obj)) ::
  ((nat_lit 69 : Nat), ({ cls := PySem.Value.type "code", data := PySem.Data.fields #[PySem.Value.str (PySem.Str.ofString "is_in_ranges") 270, PySem.Value.str (PySem.Str.ofString "is_in_ranges") 271, PySem.Value.str (PySem.Str.ofString "/claim/cut.py") 272, PySem.Value.int 13 0, PySem.Value.int 2 0, PySem.Value.int 0 0, PySem.Value.int 0 0, PySem.Value.int 3 0, PySem.Value.ref 64, PySem.Value.bool Bool.true, PySem.Value.int 181 0, PySem.Value.ref 65, PySem.Value.none, PySem.Value.ref 66, PySem.Value.ref 67, PySem.Value.ref 68, PySem.Value.int 277 0, PySem.Value.int 13 0, PySem.Value.str (PySem.Str.ofString "/claim/cut.py") 278] } : Obj)) ::
  ((nat_lit 70 : Nat), ({ cls := PySem.Value.type "function", data := PySem.Data.func { name := PySem.Str.ofString "is_in_ranges", qualname := PySem.Str.ofString "is_in_ranges", params := p70, body := PySem.FuncBody.stmts b70, scope := s70, globals := 3, closure := [], defaults := PySem.Value.none, kwdefaults := PySem.Value.none, pyModule := PySem.Value.str (PySem.Str.ofString "markupmill.chars") 234, code := PySem.Value.ref 69 } } : Obj)) ::
  ((nat_lit 71 : Nat), ({ cls := PySem.Value.type "tuple", data := PySem.Data.seq #[] } : Obj)) ::
  ((nat_lit 73 : Nat), ({ cls := PySem.Value.type "tuple", data := PySem.Data.seq #[PySem.Value.str (PySem.Str.ofString "sign") 283] } : Obj)) ::
  ((nat_lit 74 : Nat), ({ cls := PySem.Value.type "tuple", data := PySem.Data.seq #[] } : Obj)) ::
  ((nat_lit 76 : Nat), ({ cls := PySem.Value.type "code", data := PySem.Data.fields #[PySem.Value.str (PySem.Str.ofString "is_small_letter") 280, PySem.Value.str (PySem.Str.ofString "is_small_letter") 281, PySem.Value.str (PySem.Str.ofString "/claim/cut.py") 282, PySem.Value.int 20 0, PySem.Value.int 1 0, PySem.Value.int 0 0, PySem.Value.int 0 0, PySem.Value.int 3 0, PySem.Value.ref 71, PySem.Value.bool Bool.true, PySem.Value.int 181 0, PySem.Value.ref 72, PySem.Value.none, PySem.Value.ref 73, PySem.Value.ref 74, PySem.Value.ref 75, PySem.Value.int 284 0, PySem.Value.int 20 0, PySem.Value.str (PySem.Str.ofString "/claim/cut.py") 285] } : Obj)) ::
  ((nat_lit 77 : Nat), ({ cls := PySem.Value.type "function", data := PySem.Data.func { name := PySem.Str.ofString "is_small_letter", qualname := PySem.Str.ofString "is_small_letter", params := p77, body := PySem.FuncBody.stmts b77, scope := s77, globals := 3, closure := [], defaults := PySem.Value.none, kwdefaults := PySem.Value.none, pyModule := PySem.Value.str (PySem.Str.ofString "markupmill.chars") 234, code := PySem.Value.ref 76 } } : Obj)) ::
  ((nat_lit 78 : Nat), ({ cls := PySem.Value.type "tuple", data := PySem.Data.seq #[] } : Obj)) ::
  ((nat_lit 80 : Nat), ({ cls := PySem.Value.type "tuple", data := PySem.Data.seq #[PySem.Value.str (PySem.Str.ofString "sign") 290] } : Obj)) ::
  ((nat_lit 81 : Nat), ({ cls := PySem.Value.type "tuple", data := PySem.Data.seq #[] } : Obj)) ::
  ((nat_lit 83 : Nat), ({ cls := PySem.Value.type "code", data := PySem.Data.fields #[PySem.Value.str (PySem.Str.ofString "is_name_start") 287, PySem.Value.str (PySem.Str.ofString "is_name_start") 288, PySem.Value.str (PySem.Str.ofString "/claim/cut.py") 289, PySem.Value.int 22 0, PySem.Value.int 1 0, PySem.Value.int 0 0, PySem.Value.int 0 0, PySem.Value.int 3 0, PySem.Value.ref 78, PySem.Value.bool Bool.true, PySem.Value.int 181 0, PySem.Value.ref 79, PySem.Value.none, PySem.Value.ref 80, PySem.Value.ref 81, PySem.Value.ref 82, PySem.Value.int 291 0, PySem.Value.int 22 0, PySem.Value.str (PySem.Str.ofString "/claim/cut.py") 292] } : Obj)) ::
  ((nat_lit 84 : Nat), ({ cls := PySem.Value.type "function", data := PySem.Data.func { name := PySem.Str.ofString "is_name_start", qualname := PySem.Str.ofString "is_name_start", params := p84, body := PySem.FuncBody.stmts b84, scope := s84, globals := 3, closure := [], defaults := PySem.Value.none, kwdefaults := PySem.Value.none, pyModule := PySem.Value.str (PySem.Str.ofString "markupmill.chars") 234, code := PySem.Value.ref 83 } } : Obj)) ::
  ((nat_lit 85 : Nat), ({ cls := PySem.Value.type "tuple", data := PySem.Data.seq #[] } : Obj)) ::
  ((nat_lit 87 : Nat), ({ cls := PySem.Value.type "tuple", data := PySem.Data.seq #[PySem.Value.str (PySem.Str.ofString "sign") 297] } : Obj)) ::
  ((nat_lit 88 : Nat), ({ cls := PySem.Value.type "tuple", data := PySem.Data.seq #[] } : Obj)) ::
  ((nat_lit 90 : Nat), ({ cls := PySem.Value.type "code", data := PySem.Data.fields #[PySem.Value.str (PySem.Str.ofString "is_name_char") 294, PySem.Value.str (PySem.Str.ofString "is_name_char") 295, PySem.Value.str (PySem.Str.ofString "/claim/cut.py") 296, PySem.Value.int 26 0, PySem.Value.int 1 0, PySem.Value.int 0 0, PySem.Value.int 0 0, PySem.Value.int 3 0, PySem.Value.ref 85, PySem.Value.bool Bool.true, PySem.Value.int 181 0, PySem.Value.ref 86, PySem.Value.none, PySem.Value.ref 87, PySem.Value.ref 88, PySem.Value.ref 89, PySem.Value.int 298 0, PySem.Value.int 26 0, PySem.Value.str (PySem.Str.ofString "/claim/cut.py") 299] } : Obj)) ::
  ((nat_lit 91 : Nat), ({ cls := PySem.Value.type "function", data := PySem.Data.func { name := PySem.Str.ofString "is_name_char", qualname := PySem.Str.ofString "is_name_char", params := p91, body := PySem.FuncBody.stmts b91, scope := s91, globals := 3, closure := [], defaults := PySem.Value.none, kwdefaults := PySem.Value.none, pyModule := PySem.Value.str (PySem.Str.ofString "markupmill.chars") 234, code := PySem.Value.ref 90 } } : Obj)) ::
  ((nat_lit 92 : Nat), ({ cls := PySem.Value.type "tuple", data := PySem.Data.seq #[] } : Obj)) ::
  ((nat_lit 94 : Nat), ({ cls := PySem.Value.type "tuple", data := PySem.Data.seq #[PySem.Value.str (PySem.Str.ofString "text") 304, PySem.Value.str (PySem.Str.ofString "sign") 305] } : Obj)) ::
  ((nat_lit 95 : Nat), ({ cls := PySem.Value.type "tuple", data := PySem.Data.seq #[] } : Obj)) ::
  ((nat_lit 97 : Nat), ({ cls := PySem.Value.type "code", data := PySem.Data.fields #[PySem.Value.str (PySem.Str.ofString "is_nmtoken") 301, PySem.Value.str (PySem.Str.ofString "is_nmtoken") 302, PySem.Value.str (PySem.Str.ofString "/claim/cut.py") 303, PySem.Value.int 32 0, PySem.Value.int 1 0, PySem.Value.int 0 0, PySem.Value.int 0 0, PySem.Value.int 3 0, PySem.Value.ref 92, PySem.Value.bool Bool.true, PySem.Value.int 181 0, PySem.Value.ref 93, PySem.Value.none, PySem.Value.ref 94, PySem.Value.ref 95, PySem.Value.ref 96, PySem.Value.int 306 0, PySem.Value.int 32 0, PySem.Value.str (PySem.Str.ofString "/claim/cut.py") 307] } : Obj)) ::
  ((nat_lit 98 : Nat), ({ cls := PySem.Value.type "function", data := PySem.Data.func { name := PySem.Str.ofString "is_nmtoken", qualname := PySem.Str.ofString "is_nmtoken", params := p98, body := PySem.FuncBody.stmts b98, scope := s98, globals := 3, closure := [], defaults := PySem.Value.none, kwdefaults := PySem.Value.none, pyModule := PySem.Value.str (PySem.Str.ofString "markupmill.chars") 234, code := PySem.Value.ref 97 } } : Obj)) ::
  ((nat_lit 99 : Nat), ({ cls := PySem.Value.type "tuple", data := PySem.Data.seq #[] } : Obj)) ::
  ((nat_lit 101 : Nat), ({ cls := PySem.Value.type "tuple", data := PySem.Data.seq #[PySem.Value.str (PySem.Str.ofString "text") 312] } : Obj)) ::
  ((nat_lit 102 : Nat), ({ cls := PySem.Value.type "tuple", data := PySem.Data.seq #[] } : Obj)) ::
  ((nat_lit 104 : Nat), ({ cls := PySem.Value.type "code", data := PySem.Data.fields #[PySem.Value.str (PySem.Str.ofString "is_name") 309, PySem.Value.str (PySem.Str.ofString "is_name") 310, PySem.Value.str (PySem.Str.ofString "/claim/cut.py") 311, PySem.Value.int 37 0, PySem.Value.int 1 0, PySem.Value.int 0 0, PySem.Value.int 0 0, PySem.Value.int 3 0, PySem.Value.ref 99, PySem.Value.bool Bool.true, PySem.Value.int 181 0, PySem.Value.ref 100, PySem.Value.none, PySem.Value.ref 101, PySem.Value.ref 102, PySem.Value.ref 103, PySem.Value.int 313 0, PySem.Value.int 37 0, PySem.Value.str (PySem.Str.ofString "/claim/cut.py") 314] } : Obj)) ::
  ((nat_lit 105 : Nat), ({ cls := PySem.Value.type "function", data := PySem.Data.func { name := PySem.Str.ofString "is_name", qualname := PySem.Str.ofString "is_name", params := p105, body := PySem.FuncBody.stmts b105, scope := s105, globals := 3, closure := [], defaults := PySem.Value.none, kwdefaults := PySem.Value.none, pyModule := PySem.Value.str (PySem.Str.ofString "markupmill.chars") 234, code := PySem.Value.ref 104 } } : Obj)) ::
  ((nat_lit 106 : Nat), ({ cls := PySem.Value.type "tuple", data := PySem.Data.seq #[] } : Obj)) ::
  ((nat_lit 108 : Nat), ({ cls := PySem.Value.type "tuple", data := PySem.Data.seq #[PySem.Value.str (PySem.Str.ofString "text") 319] } : Obj)) ::
  ((nat_lit 109 : Nat), ({ cls := PySem.Value.type "tuple", data := PySem.Data.seq #[] } : Obj)) ::
  ((nat_lit 111 : Nat), ({ cls := PySem.Value.type "code", data := PySem.Data.fields #[PySem.Value.str (PySem.Str.ofString "is_ncname") 316, PySem.Value.str (PySem.Str.ofString "is_ncname") 317, PySem.Value.str (PySem.Str.ofString "/claim/cut.py") 318, PySem.Value.int 39 0, PySem.Value.int 1 0, PySem.Value.int 0 0, PySem.Value.int 0 0, PySem.Value.int 3 0, PySem.Value.ref 106, PySem.Value.bool Bool.true, PySem.Value.int 181 0, PySem.Value.ref 107, PySem.Value.none, PySem.Value.ref 108, PySem.Value.ref 109, PySem.Value.ref 110, PySem.Value.int 320 0, PySem.Value.int 39 0, PySem.Value.str (PySem.Str.ofString "/claim/cut.py") 321] } : Obj)) ::
  ((nat_lit 112 : Nat), ({ cls := PySem.Value.type "function", data := PySem.Data.func { name := PySem.Str.ofString "is_ncname", qualname := PySem.Str.ofString "is_ncname", params := p112, body := PySem.FuncBody.stmts b112, scope := s112, globals := 3, closure := [], defaults := PySem.Value.none, kwdefaults := PySem.Value.none, pyModule := PySem.Value.str (PySem.Str.ofString "markupmill.chars") 234, code := PySem.Value.ref 111 } } : Obj)) ::
  ((nat_lit 113 : Nat), ({ cls := PySem.Value.type "tuple", data := PySem.Data.seq #[] } : Obj)) ::
  ((nat_lit 115 : Nat), ({ cls := PySem.Value.type "tuple", data := PySem.Data.seq #[PySem.Value.str (PySem.Str.ofString "name") 326, PySem.Value.str (PySem.Str.ofString "parts") 327, PySem.Value.str (PySem.Str.ofString "part") 328] } : Obj)) ::
  ((nat_lit 116 : Nat), ({ cls := PySem.Value.type "tuple", data := PySem.Data.seq #[] } : Obj)) ::
  ((nat_lit 118 : Nat), ({ cls := PySem.Value.type "code", data := PySem.Data.fields #[PySem.Value.str (PySem.Str.ofString "split_name") 323, PySem.Value.str (PySem.Str.ofString "split_name") 324, PySem.Value.str (PySem.Str.ofString "/claim/cut.py") 325, PySem.Value.int 41 0, PySem.Value.int 1 0, PySem.Value.int 0 0, PySem.Value.int 0 0, PySem.Value.int 3 0, PySem.Value.ref 113, PySem.Value.bool Bool.true, PySem.Value.int 181 0, PySem.Value.ref 114, PySem.Value.none, PySem.Value.ref 115, PySem.Value.ref 116, PySem.Value.ref 117, PySem.Value.int 329 0, PySem.Value.int 41 0, PySem.Value.str (PySem.Str.ofString "/claim/cut.py") 330] } : Obj)) ::
  ((nat_lit 119 : Nat), ({ cls := PySem.Value.type "function", data := PySem.Data.func { name := PySem.Str.ofString "split_name", qualname := PySem.Str.ofString "split_name", params := p119, body := PySem.FuncBody.stmts b119, scope := s119, globals := 3, closure := [], defaults := PySem.Value.none, kwdefaults := PySem.Value.none, pyModule := PySem.Value.str (PySem.Str.ofString "markupmill.chars") 234, code := PySem.Value.ref 118 } } : Obj)) ::
  ((nat_lit 120 : Nat), ({ cls := PySem.Value.type "tuple", data := PySem.Data.seq #[] } : Obj)) ::
  ((nat_lit 122 : Nat), ({ cls := PySem.Value.type "tuple", data := PySem.Data.seq #[PySem.Value.str (PySem.Str.ofString "name") 341] } : Obj)) ::
  ((nat_lit 123 : Nat), ({ cls := PySem.Value.type "tuple", data := PySem.Data.seq #[] } : Obj)) ::
  ((nat_lit 125 : Nat), ({ cls := PySem.Value.type "code", data := PySem.Data.fields #[PySem.Value.str (PySem.Str.ofString "declared_prefix") 338, PySem.Value.str (PySem.Str.ofString "declared_prefix") 339, PySem.Value.str (PySem.Str.ofString "/claim/cut.py") 340, PySem.Value.int 54 0, PySem.Value.int 1 0, PySem.Value.int 0 0, PySem.Value.int 0 0, PySem.Value.int 3 0, PySem.Value.ref 120, PySem.Value.bool Bool.true, PySem.Value.int 181 0, PySem.Value.ref 121, PySem.Value.none, PySem.Value.ref 122, PySem.Value.ref 123, PySem.Value.ref 124, PySem.Value.int 342 0, PySem.Value.int 54 0, PySem.Value.str (PySem.Str.ofString "/claim/cut.py") 343] } : Obj)) ::
  ((nat_lit 126 : Nat), ({ cls := PySem.Value.type "function", data := PySem.Data.func { name := PySem.Str.ofString "declared_prefix", qualname := PySem.Str.ofString "declared_prefix", params := p126, body := PySem.FuncBody.stmts b126, scope := s126, globals := 3, closure := [], defaults := PySem.Value.none, kwdefaults := PySem.Value.none, pyModule := PySem.Value.str (PySem.Str.ofString "markupmill.bindings") 332, code := PySem.Value.ref 125 } } : Obj)) ::
  ((nat_lit 127 : Nat), ({ cls := PySem.Value.type "tuple", data := PySem.Data.seq #[] } : Obj)) ::
  ((nat_lit 129 : Nat), ({ cls := PySem.Value.type "tuple", data := PySem.Data.seq #[PySem.Value.str (PySem.Str.ofString "prefix") 348, PySem.Value.str (PySem.Str.ofString "uri") 349] } : Obj)) ::
  ((nat_lit 130 : Nat), ({ cls := PySem.Value.type "tuple", data := PySem.Data.seq #[] } : Obj)) ::
  ((nat_lit 132 : Nat), ({ cls := PySem.Value.type "code", data := PySem.Data.fields #[PySem.Value.str (PySem.Str.ofString "check_binding") 345, PySem.Value.str (PySem.Str.ofString "check_binding") 346, PySem.Value.str (PySem.Str.ofString "/claim/cut.py") 347, PySem.Value.int 62 0, PySem.Value.int 2 0, PySem.Value.int 0 0, PySem.Value.int 0 0, PySem.Value.int 3 0, PySem.Value.ref 127, PySem.Value.bool Bool.true, PySem.Value.int 181 0, PySem.Value.ref 128, PySem.Value.none, PySem.Value.ref 129, PySem.Value.ref 130, PySem.Value.ref 131, PySem.Value.int 350 0, PySem.Value.int 62 0, PySem.Value.str (PySem.Str.ofString "/claim/cut.py") 351] } : Obj)) ::
  ((nat_lit 133 : Nat), ({ cls := PySem.Value.type "function", data := PySem.Data.func { name := PySem.Str.ofString "check_binding", qualname := PySem.Str.ofString "check_binding", params := p133, body := PySem.FuncBody.stmts b133, scope := s133, globals := 3, closure := [], defaults := PySem.Value.none, kwdefaults := PySem.Value.none, pyModule := PySem.Value.str (PySem.Str.ofString "markupmill.bindings") 332, code := PySem.Value.ref 132 } } : Obj)) ::
  ((nat_lit 141 : Nat), ({ cls := PySem.Value.type "tuple", data := PySem.Data.seq #[] } : Obj)) ::
  ((nat_lit 143 : Nat), ({ cls := PySem.Value.type "tuple", data := PySem.Data.seq #[PySem.Value.str (PySem.Str.ofString "self") 368] } : Obj)) ::
  ((nat_lit 144 : Nat), ({ cls := PySem.Value.type "tuple", data := PySem.Data.seq #[] } : Obj)) ::
  ((nat_lit 146 : Nat), ({ cls := PySem.Value.type "code", data := PySem.Data.fields #[PySem.Value.str (PySem.Str.ofString "__init__") 365, PySem.Value.str (PySem.Str.ofString "Bindings.__init__") 366, PySem.Value.str (PySem.Str.ofString "/claim/cut.py") 367, PySem.Value.int 78 0, PySem.Value.int 1 0, PySem.Value.int 0 0, PySem.Value.int 0 0, PySem.Value.int 3 0, PySem.Value.ref 141, PySem.Value.bool Bool.true, PySem.Value.int 181 0, PySem.Value.ref 142, PySem.Value.none, PySem.Value.ref 143, PySem.Value.ref 144, PySem.Value.ref 145, PySem.Value.int 369 0, PySem.Value.int 78 0, PySem.Value.str (PySem.Str.ofString "/claim/cut.py") 370] } : Obj)) ::
  ((nat_lit 147 : Nat), ({ cls := PySem.Value.type "function", data := PySem.Data.func { name := PySem.Str.ofString "__init__", qualname := PySem.Str.ofString "Bindings.__init__", params := p147, body := PySem.FuncBody.stmts b147, scope := s147, globals := 3, closure := [], defaults := PySem.Value.none, kwdefaults := PySem.Value.none, pyModule := PySem.Value.str (PySem.Str.ofString "markupmill.bindings") 332, code := PySem.Value.ref 146 } } : Obj)) ::
  ((nat_lit 148 : Nat), ({ cls := PySem.Value.type "tuple", data := PySem.Data.seq #[] } : Obj)) ::
  ((nat_lit 150 : Nat), ({ cls := PySem.Value.type "tuple", data := PySem.Data.seq #[PySem.Value.str (PySem.Str.ofString "self") 375, PySem.Value.str (PySem.Str.ofString "attributes") 376, PySem.Value.str (PySem.Str.ofString "others") 377, PySem.Value.str (PySem.Str.ofString "found") 378, PySem.Value.str (PySem.Str.ofString "name") 379, PySem.Value.str (PySem.Str.ofString "value") 380, PySem.Value.str (PySem.Str.ofString "prefix") 381, PySem.Value.str (PySem.Str.ofString "scope") 382, PySem.Value.str (PySem.Str.ofString "uri") 383] } : Obj)) ::
  ((nat_lit 151 : Nat), ({ cls := PySem.Value.type "tuple", data := PySem.Data.seq #[] } : Obj)) ::
  ((nat_lit 153 : Nat), ({ cls := PySem.Value.type "code", data := PySem.Data.fields #[PySem.Value.str (PySem.Str.ofString "enter") 372, PySem.Value.str (PySem.Str.ofString "Bindings.enter") 373, PySem.Value.str (PySem.Str.ofString "/claim/cut.py") 374, PySem.Value.int 82 0, PySem.Value.int 2 0, PySem.Value.int 0 0, PySem.Value.int 0 0, PySem.Value.int 3 0, PySem.Value.ref 148, PySem.Value.bool Bool.true, PySem.Value.int 181 0, PySem.Value.ref 149, PySem.Value.none, PySem.Value.ref 150, PySem.Value.ref 151, PySem.Value.ref 152, PySem.Value.int 384 0, PySem.Value.int 82 0, PySem.Value.str (PySem.Str.ofString "/claim/cut.py") 385] } : Obj)) ::
  ((nat_lit 154 : Nat), ({ cls := PySem.Value.type "function", data := PySem.Data.func { name := PySem.Str.ofString "enter", qualname := PySem.Str.ofString "Bindings.enter", params := p154, body := PySem.FuncBody.stmts b154, scope := s154, globals := 3, closure := [], defaults := PySem.Value.none, kwdefaults := PySem.Value.none, pyModule := PySem.Value.str (PySem.Str.ofString "markupmill.bindings") 332, code := PySem.Value.ref 153 } } : Obj)) ::
  ((nat_lit 155 : Nat), ({ cls := PySem.Value.type "tuple", data := PySem.Data.seq #[] } : Obj)) ::
  ((nat_lit 157 : Nat), ({ cls := PySem.Value.type "tuple", data := PySem.Data.seq #[PySem.Value.str (PySem.Str.ofString "self") 390] } : Obj)) ::
  ((nat_lit 158 : Nat), ({ cls := PySem.Value.type "tuple", data := PySem.Data.seq #[] } : Obj)) ::
  ((nat_lit 160 : Nat), ({ cls := PySem.Value.type "code", data := PySem.Data.fields #[PySem.Value.str (PySem.Str.ofString "leave") 387, PySem.Value.str (PySem.Str.ofString "Bindings.leave") 388, PySem.Value.str (PySem.Str.ofString "/claim/cut.py") 389, PySem.Value.int 101 0, PySem.Value.int 1 0, PySem.Value.int 0 0, PySem.Value.int 0 0, PySem.Value.int 3 0, PySem.Value.ref 155, PySem.Value.bool Bool.true, PySem.Value.int 181 0, PySem.Value.ref 156, PySem.Value.none, PySem.Value.ref 157, PySem.Value.ref 158, PySem.Value.ref 159, PySem.Value.int 391 0, PySem.Value.int 101 0, PySem.Value.str (PySem.Str.ofString "/claim/cut.py") 392] } : Obj)) ::
  ((nat_lit 161 : Nat), ({ cls := PySem.Value.type "function", data := PySem.Data.func { name := PySem.Str.ofString "leave", qualname := PySem.Str.ofString "Bindings.leave", params := p161, body := PySem.FuncBody.stmts b161, scope := s161, globals := 3, closure := [], defaults := PySem.Value.none, kwdefaults := PySem.Value.none, pyModule := PySem.Value.str (PySem.Str.ofString "markupmill.bindings") 332, code := PySem.Value.ref 160 } } : Obj)) ::
  ((nat_lit 162 : Nat), ({ cls := PySem.Value.type "tuple", data := PySem.Data.seq #[] } : Obj)) ::
  ((nat_lit 164 : Nat), ({ cls := PySem.Value.type "tuple", data := PySem.Data.seq #[PySem.Value.str (PySem.Str.ofString "self") 397] } : Obj)) ::
  ((nat_lit 165 : Nat), ({ cls := PySem.Value.type "tuple", data := PySem.Data.seq #[] } : Obj)) ::
  ((nat_lit 167 : Nat), ({ cls := PySem.Value.type "code", data := PySem.Data.fields #[PySem.Value.str (PySem.Str.ofString "depth") 394, PySem.Value.str (PySem.Str.ofString "Bindings.depth") 395, PySem.Value.str (PySem.Str.ofString "/claim/cut.py") 396, PySem.Value.int 107 0, PySem.Value.int 1 0, PySem.Value.int 0 0, PySem.Value.int 0 0, PySem.Value.int 3 0, PySem.Value.ref 162, PySem.Value.bool Bool.true, PySem.Value.int 181 0, PySem.Value.ref 163, PySem.Value.none, PySem.Value.ref 164, PySem.Value.ref 165, PySem.Value.ref 166, PySem.Value.int 398 0, PySem.Value.int 107 0, PySem.Value.str (PySem.Str.ofString "/claim/cut.py") 399] } : Obj)) ::
  ((nat_lit 168 : Nat), ({ cls := PySem.Value.type "function", data := PySem.Data.func { name := PySem.Str.ofString "depth", qualname := PySem.Str.ofString "Bindings.depth", params := p168, body := PySem.FuncBody.stmts b168, scope := s168, globals := 3, closure := [], defaults := PySem.Value.none, kwdefaults := PySem.Value.none, pyModule := PySem.Value.str (PySem.Str.ofString "markupmill.bindings") 332, code := PySem.Value.ref 167 } } : Obj)) ::
  ((nat_lit 169 : Nat), ({ cls := PySem.Value.type "tuple", data := PySem.Data.seq #[] } : Obj)) ::
  ((nat_lit 171 : Nat), ({ cls := PySem.Value.type "tuple", data := PySem.Data.seq #[PySem.Value.str (PySem.Str.ofString "self") 404] } : Obj)) ::
  ((nat_lit 172 : Nat), ({ cls := PySem.Value.type "tuple", data := PySem.Data.seq #[] } : Obj)) ::
  ((nat_lit 174 : Nat), ({ cls := PySem.Value.type "code", data := PySem.Data.fields #[PySem.Value.str (PySem.Str.ofString "declared") 401, PySem.Value.str (PySem.Str.ofString "Bindings.declared") 402, PySem.Value.str (PySem.Str.ofString "/claim/cut.py") 403, PySem.Value.int 110 0, PySem.Value.int 1 0, PySem.Value.int 0 0, PySem.Value.int 0 0, PySem.Value.int 3 0, PySem.Value.ref 169, PySem.Value.bool Bool.true, PySem.Value.int 181 0, PySem.Value.ref 170, PySem.Value.none, PySem.Value.ref 171, PySem.Value.ref 172, PySem.Value.ref 173, PySem.Value.int 405 0, PySem.Value.int 110 0, PySem.Value.str (PySem.Str.ofString "/claim/cut.py") 406] } : Obj)) ::
  ((nat_lit 175 : Nat), ({ cls := PySem.Value.type "function", data := PySem.Data.func { name := PySem.Str.ofString "declared", qualname := PySem.Str.ofString "Bindings.declared", params := p175, body := PySem.FuncBody.stmts b175, scope := s175, globals := 3, closure := [], defaults := PySem.Value.none, kwdefaults := PySem.Value.none, pyModule := PySem.Value.str (PySem.Str.ofString "markupmill.bindings") 332, code := PySem.Value.ref 174 } } : Obj)) ::
  ((nat_lit 176 : Nat), ({ cls := PySem.Value.type "tuple", data := PySem.Data.seq #[] } : Obj)) ::
  ((nat_lit 178 : Nat), ({ cls := PySem.Value.type "tuple", data := PySem.Data.seq #[PySem.Value.str (PySem.Str.ofString "self") 411, PySem.Value.str (PySem.Str.ofString "prefix") 412, PySem.Value.str (PySem.Str.ofString "uri") 413] } : Obj)) ::
  ((nat_lit 179 : Nat), ({ cls := PySem.Value.type "tuple", data := PySem.Data.seq #[] } : Obj)) ::
  ((nat_lit 181 : Nat), ({ cls := PySem.Value.type "code", data := PySem.Data.fields #[PySem.Value.str (PySem.Str.ofString "uri_of") 408, PySem.Value.str (PySem.Str.ofString "Bindings.uri_of") 409, PySem.Value.str (PySem.Str.ofString "/claim/cut.py") 410, PySem.Value.int 113 0, PySem.Value.int 2 0, PySem.Value.int 0 0, PySem.Value.int 0 0, PySem.Value.int 3 0, PySem.Value.ref 176, PySem.Value.bool Bool.true, PySem.Value.int 181 0, PySem.Value.ref 177, PySem.Value.none, PySem.Value.ref 178, PySem.Value.ref 179, PySem.Value.ref 180, PySem.Value.int 414 0, PySem.Value.int 113 0, PySem.Value.str (PySem.Str.ofString "/claim/cut.py") 415] } : Obj)) ::
  ((nat_lit 182 : Nat), ({ cls := PySem.Value.type "function", data := PySem.Data.func { name := PySem.Str.ofString "uri_of", qualname := PySem.Str.ofString "Bindings.uri_of", params := p182, body := PySem.FuncBody.stmts b182, scope := s182, globals := 3, closure := [], defaults := PySem.Value.none, kwdefaults := PySem.Value.none, pyModule := PySem.Value.str (PySem.Str.ofString "markupmill.bindings") 332, code := PySem.Value.ref 181 } } : Obj)) ::
  ((nat_lit 183 : Nat), ({ cls := PySem.Value.type "tuple", data := PySem.Data.seq #[PySem.Value.bool Bool.false] } : Obj)) ::
  ((nat_lit 184 : Nat), ({ cls := PySem.Value.type "tuple", data := PySem.Data.seq #[] } : Obj)) ::
  ((nat_lit 186 : Nat), ({ cls := PySem.Value.type "tuple", data := PySem.Data.seq #[PySem.Value.str (PySem.Str.ofString "self") 420, PySem.Value.str (PySem.Str.ofString "name") 421, PySem.Value.str (PySem.Str.ofString "is_attribute") 422, PySem.Value.str (PySem.Str.ofString "prefix") 423, PySem.Value.str (PySem.Str.ofString "local") 424] } : Obj)) ::
  ((nat_lit 187 : Nat), ({ cls := PySem.Value.type "tuple", data := PySem.Data.seq #[] } : Obj)) ::
  ((nat_lit 189 : Nat), ({ cls := PySem.Value.type "code", data := PySem.Data.fields #[PySem.Value.str (PySem.Str.ofString "resolved") 417, PySem.Value.str (PySem.Str.ofString "Bindings.resolved") 418, PySem.Value.str (PySem.Str.ofString "/claim/cut.py") 419, PySem.Value.int 123 0, PySem.Value.int 3 0, PySem.Value.int 0 0, PySem.Value.int 0 0, PySem.Value.int 3 0, PySem.Value.ref 184, PySem.Value.bool Bool.true, PySem.Value.int 181 0, PySem.Value.ref 185, PySem.Value.none, PySem.Value.ref 186, PySem.Value.ref 187, PySem.Value.ref 188, PySem.Value.int 425 0, PySem.Value.int 123 0, PySem.Value.str (PySem.Str.ofString "/claim/cut.py") 426] } : Obj)) ::
  ((nat_lit 190 : Nat), ({ cls := PySem.Value.type "function", data := PySem.Data.func { name := PySem.Str.ofString "resolved", qualname := PySem.Str.ofString "Bindings.resolved", params := p190, body := PySem.FuncBody.stmts b190, scope := s190, globals := 3, closure := [], defaults := PySem.Value.ref 183, kwdefaults := PySem.Value.none, pyModule := PySem.Value.str (PySem.Str.ofString "markupmill.bindings") 332, code := PySem.Value.ref 189 } } : Obj)) ::
  ((nat_lit 191 : Nat), ({ cls := PySem.Value.type "tuple", data := PySem.Data.seq #[] } : Obj)) ::
  ((nat_lit 193 : Nat), ({ cls := PySem.Value.type "tuple", data := PySem.Data.seq #[PySem.Value.str (PySem.Str.ofString "self") 431, PySem.Value.str (PySem.Str.ofString "attributes") 432, PySem.Value.str (PySem.Str.ofString "seen") 433, PySem.Value.str (PySem.Str.ofString "name") 434, PySem.Value.str (PySem.Str.ofString "value") 435, PySem.Value.str (PySem.Str.ofString "expanded") 436] } : Obj)) ::
  ((nat_lit 194 : Nat), ({ cls := PySem.Value.type "tuple", data := PySem.Data.seq #[] } : Obj)) ::
  ((nat_lit 196 : Nat), ({ cls := PySem.Value.type "code", data := PySem.Data.fields #[PySem.Value.str (PySem.Str.ofString "check_attributes") 428, PySem.Value.str (PySem.Str.ofString "Bindings.check_attributes") 429, PySem.Value.str (PySem.Str.ofString "/claim/cut.py") 430, PySem.Value.int 129 0, PySem.Value.int 2 0, PySem.Value.int 0 0, PySem.Value.int 0 0, PySem.Value.int 3 0, PySem.Value.ref 191, PySem.Value.bool Bool.true, PySem.Value.int 181 0, PySem.Value.ref 192, PySem.Value.none, PySem.Value.ref 193, PySem.Value.ref 194, PySem.Value.ref 195, PySem.Value.int 437 0, PySem.Value.int 129 0, PySem.Value.str (PySem.Str.ofString "/claim/cut.py") 438] } : Obj)) ::
  ((nat_lit 197 : Nat), ({ cls := PySem.Value.type "function", data := PySem.Data.func { name := PySem.Str.ofString "check_attributes", qualname := PySem.Str.ofString "Bindings.check_attributes", params := p197, body := PySem.FuncBody.stmts b197, scope := s197, globals := 3, closure := [], defaults := PySem.Value.none, kwdefaults := PySem.Value.none, pyModule := PySem.Value.str (PySem.Str.ofString "markupmill.bindings") 332, code := PySem.Value.ref 196 } } : Obj)) ::
  ((nat_lit 198 : Nat), ({ cls := PySem.Value.type "tuple", data := PySem.Data.seq #[] } : Obj)) ::
  ((nat_lit 200 : Nat), ({ cls := PySem.Value.type "tuple", data := PySem.Data.seq #[PySem.Value.str (PySem.Str.ofString "self") 443, PySem.Value.str (PySem.Str.ofString "found") 444, PySem.Value.str (PySem.Str.ofString "prefix") 445, PySem.Value.str (PySem.Str.ofString "uri") 446] } : Obj)) ::
  ((nat_lit 201 : Nat), ({ cls := PySem.Value.type "tuple", data := PySem.Data.seq #[] } : Obj)) ::
  ((nat_lit 203 : Nat), ({ cls := PySem.Value.type "code", data := PySem.Data.fields #[PySem.Value.str (PySem.Str.ofString "in_scope") 440, PySem.Value.str (PySem.Str.ofString "Bindings.in_scope") 441, PySem.Value.str (PySem.Str.ofString "/claim/cut.py") 442, PySem.Value.int 137 0, PySem.Value.int 1 0, PySem.Value.int 0 0, PySem.Value.int 0 0, PySem.Value.int 3 0, PySem.Value.ref 198, PySem.Value.bool Bool.true, PySem.Value.int 181 0, PySem.Value.ref 199, PySem.Value.none, PySem.Value.ref 200, PySem.Value.ref 201, PySem.Value.ref 202, PySem.Value.int 447 0, PySem.Value.int 137 0, PySem.Value.str (PySem.Str.ofString "/claim/cut.py") 448] } : Obj)) ::
  ((nat_lit 204 : Nat), ({ cls := PySem.Value.type "function", data := PySem.Data.func { name := PySem.Str.ofString "in_scope", qualname := PySem.Str.ofString "Bindings.in_scope", params := p204, body := PySem.FuncBody.stmts b204, scope := s204, globals := 3, closure := [], defaults := PySem.Value.none, kwdefaults := PySem.Value.none, pyModule := PySem.Value.str (PySem.Str.ofString "markupmill.bindings") 332, code := PySem.Value.ref 203 } } : Obj)) ::
  ((nat_lit 205 : Nat), ({ cls := PySem.Value.type "tuple", data := PySem.Data.seq #[PySem.Value.str (PySem.Str.ofString "scopes") 450, PySem.Value.str (PySem.Str.ofString "told") 451] } : Obj)) ::
  ((nat_lit 206 : Nat), ({ cls := PySem.Value.type "dict", data := PySem.Data.dict #[{ hash := PySem.PyData.keyHash P (PySem.Str.ofString "__module__"), key := PySem.Value.str (PySem.Str.ofString "__module__") 360, val := PySem.Value.str (PySem.Str.ofString "markupmill.bindings") 332 }, { hash := PySem.PyData.keyHash P (PySem.Str.ofString "__firstlineno__"), key := PySem.Value.str (PySem.Str.ofString "__firstlineno__") 364, val := PySem.Value.int 76 363 }, { hash := PySem.PyData.keyHash P (PySem.Str.ofString "__init__"), key := PySem.Value.str (PySem.Str.ofString "__init__") 371, val := PySem.Value.ref 147 }, { hash := PySem.PyData.keyHash P (PySem.Str.ofString "enter"), key := PySem.Value.str (PySem.Str.ofString "enter") 386, val := PySem.Value.ref 154 }, { hash := PySem.PyData.keyHash P (PySem.Str.ofString "leave"), key := PySem.Value.str (PySem.Str.ofString "leave") 393, val := PySem.Value.ref 161 }, { hash := PySem.PyData.keyHash P (PySem.Str.ofString "depth"), key := PySem.Value.str (PySem.Str.ofString "depth") 400, val := PySem.Value.ref 168 }, { hash := PySem.PyData.keyHash P (PySem.Str.ofString "declared"), key := PySem.Value.str (PySem.Str.ofString "declared") 407, val := PySem.Value.ref 175 }, { hash := PySem.PyData.keyHash P (PySem.Str.ofString "uri_of"), key := PySem.Value.str (PySem.Str.ofString "uri_of") 416, val := PySem.Value.ref 182 }, { hash := PySem.PyData.keyHash P (PySem.Str.ofString "resolved"), key := PySem.Value.str (PySem.Str.ofString "resolved") 427, val := PySem.Value.ref 190 }, { hash := PySem.PyData.keyHash P (PySem.Str.ofString "check_attributes"), key := PySem.Value.str (PySem.Str.ofString "check_attributes") 439, val := PySem.Value.ref 197 }, { hash := PySem.PyData.keyHash P (PySem.Str.ofString "in_scope"), key := PySem.Value.str (PySem.Str.ofString "in_scope") 449, val := PySem.Value.ref 204 }, { hash := PySem.PyData.keyHash P (PySem.Str.ofString "__static_attributes__"), key := PySem.Value.str (PySem.Str.ofString "__static_attributes__") 452, val := PySem.Value.ref 205 }, { hash := PySem.PyData.keyHash P (PySem.Str.ofString "__dict__"), key := PySem.Value.str (PySem.Str.ofString "__dict__") 454, val := PySem.Value.ref 208 }, { hash := PySem.PyData.keyHash P (PySem.Str.ofString "__weakref__"), key := PySem.Value.str (PySem.Str.ofString "__weakref__") 456, val := PySem.Value.ref 209 }, { hash := PySem.PyData.keyHash P (PySem.Str.ofString "__doc__"), key := PySem.Value.str (PySem.Str.ofString "__doc__") 457, val := PySem.Value.none }] 4 } : Obj)) ::
  ((nat_lit 207 : Nat), ({ cls := PySem.Value.type "type", data := PySem.Data.cls { name := PySem.Str.ofString "Bindings", bases := [PySem.Value.type "object"], mro := [PySem.Value.ref 207, PySem.Value.type "object"], ns := 206, qualname := PySem.Str.ofString "Bindings" }, slots := #[Option.none, Option.none, Option.some (PySem.Value.str (PySem.Str.ofString "Bindings") 353), Option.some (PySem.Value.str (PySem.Str.ofString "Bindings") 361), Option.some (PySem.Value.builtin "object.__new__"), Option.some (PySem.Value.bool Bool.true)] } : Obj)) ::
  ((nat_lit 208 : Nat), ({ cls := PySem.Value.type "getset_descriptor", data := PySem.Data.fields #[PySem.Value.str (PySem.Str.ofString "__dict__") 453, PySem.Value.ref 207, PySem.Value.builtin "function.__dict__", PySem.Value.builtin "function.__dict__#set"] } : Obj)) ::
  ((nat_lit 209 : Nat), ({ cls := PySem.Value.type "getset_descriptor", data := PySem.Data.fields #[PySem.Value.str (PySem.Str.ofString "__weakref__") 455, PySem.Value.ref 207, PySem.Value.builtin "ExceptionGroup.__weakref__", PySem.Value.none] } : Obj)) ::
  ((nat_lit 212 : Nat), ({ cls := PySem.Value.type "tuple", data := PySem.Data.seq #[] } : Obj)) ::
  ((nat_lit 214 : Nat), ({ cls := PySem.Value.type "tuple", data := PySem.Data.seq #[PySem.Value.str (PySem.Str.ofString "script") 465, PySem.Value.str (PySem.Str.ofString "k") 466, PySem.Value.str (PySem.Str.ofString "cell") 467, PySem.Value.str (PySem.Str.ofString "big") 468, PySem.Value.str (PySem.Str.ofString "mixed") 469] } : Obj)) ::
  ((nat_lit 215 : Nat), ({ cls := PySem.Value.type "tuple", data := PySem.Data.seq #[] } : Obj)) ::
  ((nat_lit 217 : Nat), ({ cls := PySem.Value.type "code", data := PySem.Data.fields #[PySem.Value.str (PySem.Str.ofString "_law_pool") 462, PySem.Value.str (PySem.Str.ofString "_law_pool") 463, PySem.Value.str (PySem.Str.ofString "/claim/cut.py") 464, PySem.Value.int 144 0, PySem.Value.int 2 0, PySem.Value.int 0 0, PySem.Value.int 0 0, PySem.Value.int 3 0, PySem.Value.ref 212, PySem.Value.bool Bool.true, PySem.Value.int 181 0, PySem.Value.ref 213, PySem.Value.none, PySem.Value.ref 214, PySem.Value.ref 215, PySem.Value.ref 216, PySem.Value.int 470 0, PySem.Value.int 144 0, PySem.Value.str (PySem.Str.ofString "/claim/cut.py") 471] } : Obj)) ::
  ((nat_lit 218 : Nat), ({ cls := PySem.Value.type "function", data := PySem.Data.func { name := PySem.Str.ofString "_law_pool", qualname := PySem.Str.ofString "_law_pool", params := p218, body := PySem.FuncBody.stmts b218, scope := s218, globals := 3, closure := [], defaults := PySem.Value.none, kwdefaults := PySem.Value.none, pyModule := PySem.Value.str (PySem.Str.ofString "law_nu0058_01") 460, code := PySem.Value.ref 217 } } : Obj)) ::
  ((nat_lit 219 : Nat), ({ cls := PySem.Value.type "tuple", data := PySem.Data.seq #[] } : Obj)) ::
  ((nat_lit 221 : Nat), ({ cls := PySem.Value.type "tuple", data := PySem.Data.seq #[PySem.Value.str (PySem.Str.ofString "source") 476, PySem.Value.str (PySem.Str.ofString "top") 477, PySem.Value.str (PySem.Str.ofString "drawn") 478] } : Obj)) ::
  ((nat_lit 222 : Nat), ({ cls := PySem.Value.type "tuple", data := PySem.Data.seq #[] } : Obj)) ::
  ((nat_lit 224 : Nat), ({ cls := PySem.Value.type "code", data := PySem.Data.fields #[PySem.Value.str (PySem.Str.ofString "_law_take") 473, PySem.Value.str (PySem.Str.ofString "_law_take") 474, PySem.Value.str (PySem.Str.ofString "/claim/cut.py") 475, PySem.Value.int 149 0, PySem.Value.int 2 0, PySem.Value.int 0 0, PySem.Value.int 0 0, PySem.Value.int 3 0, PySem.Value.ref 219, PySem.Value.bool Bool.true, PySem.Value.int 181 0, PySem.Value.ref 220, PySem.Value.none, PySem.Value.ref 221, PySem.Value.ref 222, PySem.Value.ref 223, PySem.Value.int 479 0, PySem.Value.int 149 0, PySem.Value.str (PySem.Str.ofString "/claim/cut.py") 480] } : Obj)) ::
  ((nat_lit 225 : Nat), ({ cls := PySem.Value.type "function", data := PySem.Data.func { name := PySem.Str.ofString "_law_take", qualname := PySem.Str.ofString "_law_take", params := p225, body := PySem.FuncBody.stmts b225, scope := s225, globals := 3, closure := [], defaults := PySem.Value.none, kwdefaults := PySem.Value.none, pyModule := PySem.Value.str (PySem.Str.ofString "law_nu0058_01") 460, code := PySem.Value.ref 224 } } : Obj)) ::
  ((nat_lit 226 : Nat), ({ cls := PySem.Value.type "tuple", data := PySem.Data.seq #[] } : Obj)) ::
  ((nat_lit 228 : Nat), ({ cls := PySem.Value.type "tuple", data := PySem.Data.seq #[PySem.Value.str (PySem.Str.ofString "source") 485, PySem.Value.str (PySem.Str.ofString "things") 486] } : Obj)) ::
  ((nat_lit 229 : Nat), ({ cls := PySem.Value.type "tuple", data := PySem.Data.seq #[] } : Obj)) ::
  ((nat_lit 231 : Nat), ({ cls := PySem.Value.type "code", data := PySem.Data.fields #[PySem.Value.str (PySem.Str.ofString "_law_one") 482, PySem.Value.str (PySem.Str.ofString "_law_one") 483, PySem.Value.str (PySem.Str.ofString "/claim/cut.py") 484, PySem.Value.int 156 0, PySem.Value.int 2 0, PySem.Value.int 0 0, PySem.Value.int 0 0, PySem.Value.int 3 0, PySem.Value.ref 226, PySem.Value.bool Bool.true, PySem.Value.int 181 0, PySem.Value.ref 227, PySem.Value.none, PySem.Value.ref 228, PySem.Value.ref 229, PySem.Value.ref 230, PySem.Value.int 487 0, PySem.Value.int 156 0, PySem.Value.str (PySem.Str.ofString "/claim/cut.py") 488] } : Obj)) ::
  ((nat_lit 232 : Nat), ({ cls := PySem.Value.type "function", data := PySem.Data.func { name := PySem.Str.ofString "_law_one", qualname := PySem.Str.ofString "_law_one", params := p232, body := PySem.FuncBody.stmts b232, scope := s232, globals := 3, closure := [], defaults := PySem.Value.none, kwdefaults := PySem.Value.none, pyModule := PySem.Value.str (PySem.Str.ofString "law_nu0058_01") 460, code := PySem.Value.ref 231 } } : Obj)) ::
  ((nat_lit 233 : Nat), ({ cls := PySem.Value.type "tuple", data := PySem.Data.seq #[] } : Obj)) ::
  ((nat_lit 235 : Nat), ({ cls := PySem.Value.type "tuple", data := PySem.Data.seq #[PySem.Value.str (PySem.Str.ofString "call") 493] } : Obj)) ::
  ((nat_lit 236 : Nat), ({ cls := PySem.Value.type "tuple", data := PySem.Data.seq #[] } : Obj)) ::
  ((nat_lit 238 : Nat), ({ cls := PySem.Value.type "code", data := PySem.Data.fields #[PySem.Value.str (PySem.Str.ofString "_law_told") 490, PySem.Value.str (PySem.Str.ofString "_law_told") 491, PySem.Value.str (PySem.Str.ofString "/claim/cut.py") 492, PySem.Value.int 158 0, PySem.Value.int 1 0, PySem.Value.int 0 0, PySem.Value.int 0 0, PySem.Value.int 3 0, PySem.Value.ref 233, PySem.Value.bool Bool.true, PySem.Value.int 181 0, PySem.Value.ref 234, PySem.Value.none, PySem.Value.ref 235, PySem.Value.ref 236, PySem.Value.ref 237, PySem.Value.int 494 0, PySem.Value.int 158 0, PySem.Value.str (PySem.Str.ofString "/claim/cut.py") 495] } : Obj)) ::
  ((nat_lit 239 : Nat), ({ cls := PySem.Value.type "function", data := PySem.Data.func { name := PySem.Str.ofString "_law_told", qualname := PySem.Str.ofString "_law_told", params := p239, body := PySem.FuncBody.stmts b239, scope := s239, globals := 3, closure := [], defaults := PySem.Value.none, kwdefaults := PySem.Value.none, pyModule := PySem.Value.str (PySem.Str.ofString "law_nu0058_01") 460, code := PySem.Value.ref 238 } } : Obj)) ::
  ((nat_lit 240 : Nat), ({ cls := PySem.Value.type "tuple", data := PySem.Data.seq #[] } : Obj)) ::
  ((nat_lit 242 : Nat), ({ cls := PySem.Value.type "tuple", data := PySem.Data.seq #[PySem.Value.str (PySem.Str.ofString "name") 500, PySem.Value.str (PySem.Str.ofString "value") 501, PySem.Value.str (PySem.Str.ofString "xml") 502, PySem.Value.str (PySem.Str.ofString "xmlns") 503] } : Obj)) ::
  ((nat_lit 243 : Nat), ({ cls := PySem.Value.type "tuple", data := PySem.Data.seq #[] } : Obj)) ::
  ((nat_lit 245 : Nat), ({ cls := PySem.Value.type "code", data := PySem.Data.fields #[PySem.Value.str (PySem.Str.ofString "_law_is_wrong") 497, PySem.Value.str (PySem.Str.ofString "_law_is_wrong") 498, PySem.Value.str (PySem.Str.ofString "/claim/cut.py") 499, PySem.Value.int 163 0, PySem.Value.int 2 0, PySem.Value.int 0 0, PySem.Value.int 0 0, PySem.Value.int 3 0, PySem.Value.ref 240, PySem.Value.bool Bool.true, PySem.Value.int 181 0, PySem.Value.ref 241, PySem.Value.none, PySem.Value.ref 242, PySem.Value.ref 243, PySem.Value.ref 244, PySem.Value.int 504 0, PySem.Value.int 163 0, PySem.Value.str (PySem.Str.ofString "/claim/cut.py") 505] } : Obj)) ::
  ((nat_lit 246 : Nat), ({ cls := PySem.Value.type "function", data := PySem.Data.func { name := PySem.Str.ofString "_law_is_wrong", qualname := PySem.Str.ofString "_law_is_wrong", params := p246, body := PySem.FuncBody.stmts b246, scope := s246, globals := 3, closure := [], defaults := PySem.Value.none, kwdefaults := PySem.Value.none, pyModule := PySem.Value.str (PySem.Str.ofString "law_nu0058_01") 460, code := PySem.Value.ref 245 } } : Obj)) ::
  ((nat_lit 247 : Nat), ({ cls := PySem.Value.type "tuple", data := PySem.Data.seq #[] } : Obj)) ::
  ((nat_lit 250 : Nat), ({ cls := PySem.Value.type "code", data := PySem.Data.fields #[PySem.Value.str (PySem.Str.ofString "_law_drawn") 507, PySem.Value.str (PySem.Str.ofString "_law_drawn") 508, PySem.Value.str (PySem.Str.ofString "/claim/cut.py") 509, PySem.Value.int 168 0, PySem.Value.int 1 0, PySem.Value.int 0 0, PySem.Value.int 0 0, PySem.Value.int 3 0, PySem.Value.ref 247, PySem.Value.bool Bool.true, PySem.Value.int 181 0, PySem.Value.ref 248, PySem.Value.none, PySem.Value.none, PySem.Value.none, PySem.Value.ref 249, PySem.Value.int 510 0, PySem.Value.int 168 0, PySem.Value.str (PySem.Str.ofString "/claim/cut.py") 511] } : Obj)) ::
  ((nat_lit 251 : Nat), ({ cls := PySem.Value.type "function", data := PySem.Data.func { name := PySem.Str.ofString "_law_drawn", qualname := PySem.Str.ofString "_law_drawn", params := p251, body := PySem.FuncBody.stmts b251, scope := s251, globals := 3, closure := [], defaults := PySem.Value.none, kwdefaults := PySem.Value.none, pyModule := PySem.Value.str (PySem.Str.ofString "law_nu0058_01") 460, code := PySem.Value.ref 250 } } : Obj)) ::
  ((nat_lit 252 : Nat), ({ cls := PySem.Value.type "tuple", data := PySem.Data.seq #[] } : Obj)) ::
  ((nat_lit 254 : Nat), ({ cls := PySem.Value.type "tuple", data := PySem.Data.seq #[PySem.Value.str (PySem.Str.ofString "table") 516, PySem.Value.str (PySem.Str.ofString "name") 517, PySem.Value.str (PySem.Str.ofString "is_attribute") 518, PySem.Value.str (PySem.Str.ofString "prefix") 519, PySem.Value.str (PySem.Str.ofString "colon") 520, PySem.Value.str (PySem.Str.ofString "local") 521] } : Obj)) ::
  ((nat_lit 255 : Nat), ({ cls := PySem.Value.type "tuple", data := PySem.Data.seq #[] } : Obj)) ::
  ((nat_lit 257 : Nat), ({ cls := PySem.Value.type "code", data := PySem.Data.fields #[PySem.Value.str (PySem.Str.ofString "_law_expanded") 513, PySem.Value.str (PySem.Str.ofString "_law_expanded") 514, PySem.Value.str (PySem.Str.ofString "/claim/cut.py") 515, PySem.Value.int 182 0, PySem.Value.int 3 0, PySem.Value.int 0 0, PySem.Value.int 0 0, PySem.Value.int 3 0, PySem.Value.ref 252, PySem.Value.bool Bool.true, PySem.Value.int 181 0, PySem.Value.ref 253, PySem.Value.none, PySem.Value.ref 254, PySem.Value.ref 255, PySem.Value.ref 256, PySem.Value.int 522 0, PySem.Value.int 182 0, PySem.Value.str (PySem.Str.ofString "/claim/cut.py") 523] } : Obj)) ::
  ((nat_lit 258 : Nat), ({ cls := PySem.Value.type "function", data := PySem.Data.func { name := PySem.Str.ofString "_law_expanded", qualname := PySem.Str.ofString "_law_expanded", params := p258, body := PySem.FuncBody.stmts b258, scope := s258, globals := 3, closure := [], defaults := PySem.Value.none, kwdefaults := PySem.Value.none, pyModule := PySem.Value.str (PySem.Str.ofString "law_nu0058_01") 460, code := PySem.Value.ref 257 } } : Obj)) ::
  ((nat_lit 259 : Nat), ({ cls := PySem.Value.type "tuple", data := PySem.Data.seq #[] } : Obj)) ::
  ((nat_lit 262 : Nat), ({ cls := PySem.Value.type "code", data := PySem.Data.fields #[PySem.Value.str (PySem.Str.ofString "_law_asked_right") 525, PySem.Value.str (PySem.Str.ofString "_law_asked_right") 526, PySem.Value.str (PySem.Str.ofString "/claim/cut.py") 527, PySem.Value.int 187 0, PySem.Value.int 2 0, PySem.Value.int 0 0, PySem.Value.int 0 0, PySem.Value.int 3 0, PySem.Value.ref 259, PySem.Value.bool Bool.true, PySem.Value.int 181 0, PySem.Value.ref 260, PySem.Value.none, PySem.Value.none, PySem.Value.none, PySem.Value.ref 261, PySem.Value.int 528 0, PySem.Value.int 187 0, PySem.Value.str (PySem.Str.ofString "/claim/cut.py") 529] } : Obj)) ::
  ((nat_lit 263 : Nat), ({ cls := PySem.Value.type "function", data := PySem.Data.func { name := PySem.Str.ofString "_law_asked_right", qualname := PySem.Str.ofString "_law_asked_right", params := p263, body := PySem.FuncBody.stmts b263, scope := s263, globals := 3, closure := [], defaults := PySem.Value.none, kwdefaults := PySem.Value.none, pyModule := PySem.Value.str (PySem.Str.ofString "law_nu0058_01") 460, code := PySem.Value.ref 262 } } : Obj)) ::
  ((nat_lit 264 : Nat), ({ cls := PySem.Value.type "tuple", data := PySem.Data.seq #[] } : Obj)) ::
  ((nat_lit 267 : Nat), ({ cls := PySem.Value.type "code", data := PySem.Data.fields #[PySem.Value.str (PySem.Str.ofString "_law_opened_right") 531, PySem.Value.str (PySem.Str.ofString "_law_opened_right") 532, PySem.Value.str (PySem.Str.ofString "/claim/cut.py") 533, PySem.Value.int 201 0, PySem.Value.int 4 0, PySem.Value.int 0 0, PySem.Value.int 0 0, PySem.Value.int 3 0, PySem.Value.ref 264, PySem.Value.bool Bool.true, PySem.Value.int 181 0, PySem.Value.ref 265, PySem.Value.none, PySem.Value.none, PySem.Value.none, PySem.Value.ref 266, PySem.Value.int 534 0, PySem.Value.int 201 0, PySem.Value.str (PySem.Str.ofString "/claim/cut.py") 535] } : Obj)) ::
  ((nat_lit 268 : Nat), ({ cls := PySem.Value.type "function", data := PySem.Data.func { name := PySem.Str.ofString "_law_opened_right", qualname := PySem.Str.ofString "_law_opened_right", params := p268, body := PySem.FuncBody.stmts b268, scope := s268, globals := 3, closure := [], defaults := PySem.Value.none, kwdefaults := PySem.Value.none, pyModule := PySem.Value.str (PySem.Str.ofString "law_nu0058_01") 460, code := PySem.Value.ref 267 } } : Obj)) ::
  ((nat_lit 269 : Nat), ({ cls := PySem.Value.type "tuple", data := PySem.Data.seq #[] } : Obj)) ::
  ((nat_lit 271 : Nat), ({ cls := PySem.Value.type "tuple", data := PySem.Data.seq #[PySem.Value.str (PySem.Str.ofString "script") 540, PySem.Value.str (PySem.Str.ofString "k") 541, PySem.Value.str (PySem.Str.ofString "source") 542, PySem.Value.str (PySem.Str.ofString "names") 543, PySem.Value.str (PySem.Str.ofString "tables") 544, PySem.Value.str (PySem.Str.ofString "rows") 545, PySem.Value.str (PySem.Str.ofString "turn") 546] } : Obj)) ::
  ((nat_lit 272 : Nat), ({ cls := PySem.Value.type "tuple", data := PySem.Data.seq #[] } : Obj)) ::
  ((nat_lit 274 : Nat), ({ cls := PySem.Value.type "code", data := PySem.Data.fields #[PySem.Value.str (PySem.Str.ofString "law") 537, PySem.Value.str (PySem.Str.ofString "law") 538, PySem.Value.str (PySem.Str.ofString "/claim/cut.py") 539, PySem.Value.int 217 0, PySem.Value.int 1 0, PySem.Value.int 0 0, PySem.Value.int 0 0, PySem.Value.int 3 0, PySem.Value.ref 269, PySem.Value.bool Bool.true, PySem.Value.int 181 0, PySem.Value.ref 270, PySem.Value.none, PySem.Value.ref 271, PySem.Value.ref 272, PySem.Value.ref 273, PySem.Value.int 547 0, PySem.Value.int 217 0, PySem.Value.str (PySem.Str.ofString "/claim/cut.py") 548] } : Obj)) ::
  ((nat_lit 275 : Nat), ({ cls := PySem.Value.type "function", data := PySem.Data.func { name := PySem.Str.ofString "law", qualname := PySem.Str.ofString "law", params := p275, body := PySem.FuncBody.stmts b275, scope := s275, globals := 3, closure := [], defaults := PySem.Value.none, kwdefaults := PySem.Value.none, pyModule := PySem.Value.str (PySem.Str.ofString "law_nu0058_01") 460, code := PySem.Value.ref 274 } } : Obj)) :: []) : Frag))
  ⟨_, _, _, _, _, _, _⟩ (_ :: _) ⟨_, _, _, _, _⟩ rfl
  ⟨_, _, _, _, _, _, _⟩ (_ :: _) ⟨_, _, _, _, _⟩ rfl
  ⟨_, _, _, _, _, _, _⟩ (_ :: _) ⟨_, _, _, _, _⟩ rfl
  ⟨_, _, _, _, _, _, _⟩ (_ :: _) ⟨_, _, _, _, _⟩ rfl
  ⟨_, _, _, _, _, _, _⟩ (_ :: _) ⟨_, _, _, _, _⟩ rfl
  ⟨_, _, _, _, _, _, _⟩ (_ :: _) ⟨_, _, _, _, _⟩ rfl
  ⟨_, _, _, _, _, _, _⟩ (_ :: _) ⟨_, _, _, _, _⟩ rfl
  ⟨_, _, _, _, _, _, _⟩ (_ :: _) ⟨_, _, _, _, _⟩ rfl
  ⟨_, _, _, _, _, _, _⟩ (_ :: _) ⟨_, _, _, _, _⟩ rfl
  ⟨_, _, _, _, _, _, _⟩ (_ :: _) ⟨_, _, _, _, _⟩ rfl
  ⟨_, _, _, _, _, _, _⟩ (_ :: _) ⟨_, _, _, _, _⟩ rfl
  ⟨_, _, _, _, _, _, _⟩ (_ :: _) ⟨_, _, _, _, _⟩ rfl
  ⟨_, _, _, _, _, _, _⟩ (_ :: _) ⟨_, _, _, _, _⟩ rfl
  ⟨_, _, _, _, _, _, _⟩ (_ :: _) ⟨_, _, _, _, _⟩ rfl
  ⟨_, _, _, _, _, _, _⟩ (_ :: _) ⟨_, _, _, _, _⟩ rfl
  ⟨_, _, _, _, _, _, _⟩ (_ :: _) ⟨_, _, _, _, _⟩ rfl
  ⟨_, _, _, _, _, _, _⟩ (_ :: _) ⟨_, _, _, _, _⟩ rfl
  ⟨_, _, _, _, _, _, _⟩ (_ :: _) ⟨_, _, _, _, _⟩ rfl
  ⟨_, _, _, _, _, _, _⟩ (_ :: _) ⟨_, _, _, _, _⟩ rfl
  ⟨_, _, _, _, _, _, _⟩ (_ :: _) ⟨_, _, _, _, _⟩ rfl
  ⟨_, _, _, _, _, _, _⟩ (_ :: _) ⟨_, _, _, _, _⟩ rfl
  ⟨_, _, _, _, _, _, _⟩ (_ :: _) ⟨_, _, _, _, _⟩ rfl
  ⟨_, _, _, _, _, _, _⟩ (_ :: _) ⟨_, _, _, _, _⟩ rfl
  ⟨_, _, _, _, _, _, _⟩ (_ :: _) ⟨_, _, _, _, _⟩ rfl
  ⟨_, _, _, _, _, _, _⟩ (_ :: _) ⟨_, _, _, _, _⟩ rfl
  ⟨_, _, _, _, _, _, _⟩ (_ :: _) ⟨_, _, _, _, _⟩ rfl
  ⟨_, _, _, _, _, _, _⟩ (_ :: _) ⟨_, _, _, _, _⟩ rfl
  ⟨_, _, _, _, _, _, _⟩ (_ :: _) ⟨_, _, _, _, _⟩ rfl
  ⟨_, _, _, _, _, _, _⟩ (_ :: _) ⟨_, _, _, _, _⟩ rfl
  ⟨_, _, _, _, _, _, _⟩ (_ :: _) ⟨_, _, _, _, _⟩ rfl
abbrev asK : List Nat := ((nat_lit 2) :: (nat_lit 3) :: (nat_lit 15) :: (nat_lit 22) :: (nat_lit 24) :: (nat_lit 25) :: (nat_lit 27) :: (nat_lit 28) :: (nat_lit 29) :: (nat_lit 30) :: (nat_lit 31) :: (nat_lit 32) :: (nat_lit 35) :: (nat_lit 42) :: (nat_lit 43) :: (nat_lit 44) :: (nat_lit 47) :: (nat_lit 48) :: (nat_lit 49) :: (nat_lit 50) :: (nat_lit 51) :: (nat_lit 52) :: (nat_lit 53) :: (nat_lit 54) :: (nat_lit 55) :: (nat_lit 56) :: (nat_lit 57) :: (nat_lit 58) :: (nat_lit 59) :: (nat_lit 60) :: (nat_lit 61) :: (nat_lit 62) :: (nat_lit 63) :: (nat_lit 64) :: (nat_lit 66) :: (nat_lit 67) :: (nat_lit 69) :: (nat_lit 70) :: (nat_lit 71) :: (nat_lit 73) :: (nat_lit 74) :: (nat_lit 76) :: (nat_lit 77) :: (nat_lit 78) :: (nat_lit 80) :: (nat_lit 81) :: (nat_lit 83) :: (nat_lit 84) :: (nat_lit 85) :: (nat_lit 87) :: (nat_lit 88) :: (nat_lit 90) :: (nat_lit 91) :: (nat_lit 92) :: (nat_lit 94) :: (nat_lit 95) :: (nat_lit 97) :: (nat_lit 98) :: (nat_lit 99) :: (nat_lit 101) :: (nat_lit 102) :: (nat_lit 104) :: (nat_lit 105) :: (nat_lit 106) :: (nat_lit 108) :: (nat_lit 109) :: (nat_lit 111) :: (nat_lit 112) :: (nat_lit 113) :: (nat_lit 115) :: (nat_lit 116) :: (nat_lit 118) :: (nat_lit 119) :: (nat_lit 120) :: (nat_lit 122) :: (nat_lit 123) :: (nat_lit 125) :: (nat_lit 126) :: (nat_lit 127) :: (nat_lit 129) :: (nat_lit 130) :: (nat_lit 132) :: (nat_lit 133) :: (nat_lit 141) :: (nat_lit 143) :: (nat_lit 144) :: (nat_lit 146) :: (nat_lit 147) :: (nat_lit 148) :: (nat_lit 150) :: (nat_lit 151) :: (nat_lit 153) :: (nat_lit 154) :: (nat_lit 155) :: (nat_lit 157) :: (nat_lit 158) :: (nat_lit 160) :: (nat_lit 161) :: (nat_lit 162) :: (nat_lit 164) :: (nat_lit 165) :: (nat_lit 167) :: (nat_lit 168) :: (nat_lit 169) :: (nat_lit 171) :: (nat_lit 172) :: (nat_lit 174) :: (nat_lit 175) :: (nat_lit 176) :: (nat_lit 178) :: (nat_lit 179) :: (nat_lit 181) :: (nat_lit 182) :: (nat_lit 183) :: (nat_lit 184) :: (nat_lit 186) :: (nat_lit 187) :: (nat_lit 189) :: (nat_lit 190) :: (nat_lit 191) :: (nat_lit 193) :: (nat_lit 194) :: (nat_lit 196) :: (nat_lit 197) :: (nat_lit 198) :: (nat_lit 200) :: (nat_lit 201) :: (nat_lit 203) :: (nat_lit 204) :: (nat_lit 205) :: (nat_lit 206) :: (nat_lit 207) :: (nat_lit 208) :: (nat_lit 209) :: (nat_lit 212) :: (nat_lit 214) :: (nat_lit 215) :: (nat_lit 217) :: (nat_lit 218) :: (nat_lit 219) :: (nat_lit 221) :: (nat_lit 222) :: (nat_lit 224) :: (nat_lit 225) :: (nat_lit 226) :: (nat_lit 228) :: (nat_lit 229) :: (nat_lit 231) :: (nat_lit 232) :: (nat_lit 233) :: (nat_lit 235) :: (nat_lit 236) :: (nat_lit 238) :: (nat_lit 239) :: (nat_lit 240) :: (nat_lit 242) :: (nat_lit 243) :: (nat_lit 245) :: (nat_lit 246) :: (nat_lit 247) :: (nat_lit 250) :: (nat_lit 251) :: (nat_lit 252) :: (nat_lit 254) :: (nat_lit 255) :: (nat_lit 257) :: (nat_lit 258) :: (nat_lit 259) :: (nat_lit 262) :: (nat_lit 263) :: (nat_lit 264) :: (nat_lit 267) :: (nat_lit 268) :: (nat_lit 269) :: (nat_lit 271) :: (nat_lit 272) :: (nat_lit 274) :: (nat_lit 275) :: [] : List Nat)
theorem hkE : ∀ P, asK = (hd.heap_39 P).map (·.1) := fun _ => by kernel_rfl
/-- objects at the top's end that nothing reaches -/
noncomputable def hd.rest : Params → List (Nat × Obj) := (fun
  (p26 : Arguments) (b26 : List Stmt) (s26 : Scope) (_ : (p26, b26, s26) = fnOf3 (meOf 1 0))
  (p68 : Arguments) (b68 : List Stmt) (s68 : Scope) (_ : (p68, b68, s68) = fnOf3 (stOf 7))
  (p75 : Arguments) (b75 : List Stmt) (s75 : Scope) (_ : (p75, b75, s75) = fnOf3 (stOf 8))
  (p82 : Arguments) (b82 : List Stmt) (s82 : Scope) (_ : (p82, b82, s82) = fnOf3 (stOf 9))
  (p89 : Arguments) (b89 : List Stmt) (s89 : Scope) (_ : (p89, b89, s89) = fnOf3 (stOf 10))
  (p96 : Arguments) (b96 : List Stmt) (s96 : Scope) (_ : (p96, b96, s96) = fnOf3 (stOf 11))
  (p103 : Arguments) (b103 : List Stmt) (s103 : Scope) (_ : (p103, b103, s103) = fnOf3 (stOf 12))
  (p110 : Arguments) (b110 : List Stmt) (s110 : Scope) (_ : (p110, b110, s110) = fnOf3 (stOf 13))
  (p117 : Arguments) (b117 : List Stmt) (s117 : Scope) (_ : (p117, b117, s117) = fnOf3 (stOf 14))
  (p124 : Arguments) (b124 : List Stmt) (s124 : Scope) (_ : (p124, b124, s124) = fnOf3 (stOf 18))
  (p131 : Arguments) (b131 : List Stmt) (s131 : Scope) (_ : (p131, b131, s131) = fnOf3 (stOf 19))
  (p145 : Arguments) (b145 : List Stmt) (s145 : Scope) (_ : (p145, b145, s145) = fnOf3 (meOf 20 0))
  (p152 : Arguments) (b152 : List Stmt) (s152 : Scope) (_ : (p152, b152, s152) = fnOf3 (meOf 20 1))
  (p159 : Arguments) (b159 : List Stmt) (s159 : Scope) (_ : (p159, b159, s159) = fnOf3 (meOf 20 2))
  (p166 : Arguments) (b166 : List Stmt) (s166 : Scope) (_ : (p166, b166, s166) = fnOf3 (meOf 20 3))
  (p173 : Arguments) (b173 : List Stmt) (s173 : Scope) (_ : (p173, b173, s173) = fnOf3 (meOf 20 4))
  (p180 : Arguments) (b180 : List Stmt) (s180 : Scope) (_ : (p180, b180, s180) = fnOf3 (meOf 20 5))
  (p188 : Arguments) (b188 : List Stmt) (s188 : Scope) (_ : (p188, b188, s188) = fnOf3 (meOf 20 6))
  (p195 : Arguments) (b195 : List Stmt) (s195 : Scope) (_ : (p195, b195, s195) = fnOf3 (meOf 20 7))
  (p202 : Arguments) (b202 : List Stmt) (s202 : Scope) (_ : (p202, b202, s202) = fnOf3 (meOf 20 8))
  (p216 : Arguments) (b216 : List Stmt) (s216 : Scope) (_ : (p216, b216, s216) = fnOf3 (stOf 22))
  (p223 : Arguments) (b223 : List Stmt) (s223 : Scope) (_ : (p223, b223, s223) = fnOf3 (stOf 23))
  (p230 : Arguments) (b230 : List Stmt) (s230 : Scope) (_ : (p230, b230, s230) = fnOf3 (stOf 24))
  (p237 : Arguments) (b237 : List Stmt) (s237 : Scope) (_ : (p237, b237, s237) = fnOf3 (stOf 25))
  (p244 : Arguments) (b244 : List Stmt) (s244 : Scope) (_ : (p244, b244, s244) = fnOf3 (stOf 26))
  (p249 : Arguments) (b249 : List Stmt) (s249 : Scope) (_ : (p249, b249, s249) = fnOf3 (stOf 27))
  (p256 : Arguments) (b256 : List Stmt) (s256 : Scope) (_ : (p256, b256, s256) = fnOf3 (stOf 28))
  (p261 : Arguments) (b261 : List Stmt) (s261 : Scope) (_ : (p261, b261, s261) = fnOf3 (stOf 29))
  (p266 : Arguments) (b266 : List Stmt) (s266 : Scope) (_ : (p266, b266, s266) = fnOf3 (stOf 30))
  (p273 : Arguments) (b273 : List Stmt) (s273 : Scope) (_ : (p273, b273, s273) = fnOf3 (stOf 31))
  (P : Params) => ((
  ((nat_lit 11 : Nat), ({ cls := PySem.Value.type "tuple", data := PySem.Data.seq #[] } : Obj)) ::
  ((nat_lit 13 : Nat), ({ cls := PySem.Value.type "code", data := PySem.Data.fields #[PySem.Value.str (PySem.Str.ofString "<module>") 182, PySem.Value.str (PySem.Str.ofString "<module>") 183, PySem.Value.str (PySem.Str.ofString "/claim/cut.py") 184, PySem.Value.int 1 0, PySem.Value.int 0 0, PySem.Value.int 0 0, PySem.Value.int 0 0, PySem.Value.int 0 0, PySem.Value.ref 11, PySem.Value.bool Bool.false, PySem.Value.int 181 0, PySem.Value.ref 12, PySem.Value.none, PySem.Value.none, PySem.Value.none, PySem.Value.none, PySem.Value.int 185 0, PySem.Value.int 1 0, PySem.Value.str (PySem.Str.ofString "/claim/cut.py") 186] } : Obj)) ::
  ((nat_lit 14 : Nat), ({ cls := PySem.Value.type "frame", slots := #[Option.some (PySem.Value.ref 13), Option.some (PySem.Value.ref 3), Option.some (PySem.Value.ref 3), Option.none, Option.some (PySem.Value.str (PySem.Str.ofString "__main__") 164), Option.none, Option.some (PySem.Value.ref 0)] } : Obj)) ::
  ((nat_lit 16 : Nat), ({ cls := PySem.Value.type "builtin_function_or_method", data := PySem.Data.fields #[PySem.Value.builtin "type.__prepare__", PySem.Value.type "type"] } : Obj)) ::
  ((nat_lit 17 : Nat), ({ cls := PySem.Value.type "dict", data := PySem.Data.dict #[{ hash := PySem.PyData.keyHash P (PySem.Str.ofString "__module__"), key := PySem.Value.str (PySem.Str.ofString "__module__") 196, val := PySem.Value.str (PySem.Str.ofString "markupmill.errors") 187 }, { hash := PySem.PyData.keyHash P (PySem.Str.ofString "__qualname__"), key := PySem.Value.str (PySem.Str.ofString "__qualname__") 198, val := PySem.Value.str (PySem.Str.ofString "MarkupError") 197 }, { hash := PySem.PyData.keyHash P (PySem.Str.ofString "__firstlineno__"), key := PySem.Value.str (PySem.Str.ofString "__firstlineno__") 200, val := PySem.Value.int 2 199 }, { hash := PySem.PyData.keyHash P (PySem.Str.ofString "__init__"), key := PySem.Value.str (PySem.Str.ofString "__init__") 208, val := PySem.Value.ref 28 }, { hash := PySem.PyData.keyHash P (PySem.Str.ofString "__static_attributes__"), key := PySem.Value.str (PySem.Str.ofString "__static_attributes__") 210, val := PySem.Value.ref 29 }] 5 } : Obj)) ::
  ((nat_lit 18 : Nat), ({ cls := PySem.Value.type "tuple", data := PySem.Data.seq #[] } : Obj)) ::
  ((nat_lit 19 : Nat), ({ cls := PySem.Value.none, data := PySem.Data.fields #[PySem.Value.int 4 0, PySem.Value.int 4 0, PySem.Value.ref 27] } : Obj)) ::
  ((nat_lit 20 : Nat), ({ cls := PySem.Value.type "code", data := PySem.Data.fields #[PySem.Value.str (PySem.Str.ofString "MarkupError") 191, PySem.Value.str (PySem.Str.ofString "MarkupError") 192, PySem.Value.str (PySem.Str.ofString "/claim/cut.py") 193, PySem.Value.int 2 0, PySem.Value.int 0 0, PySem.Value.int 0 0, PySem.Value.int 0 0, PySem.Value.int 0 0, PySem.Value.ref 18, PySem.Value.bool Bool.false, PySem.Value.int 181 0, PySem.Value.ref 19, PySem.Value.none, PySem.Value.none, PySem.Value.none, PySem.Value.none, PySem.Value.int 194 0, PySem.Value.int 2 0, PySem.Value.str (PySem.Str.ofString "/claim/cut.py") 195] } : Obj)) ::
  ((nat_lit 21 : Nat), ({ cls := PySem.Value.type "frame", slots := #[Option.some (PySem.Value.ref 20), Option.some (PySem.Value.ref 3), Option.some (PySem.Value.ref 17), Option.none, Option.some (PySem.Value.str (PySem.Str.ofString "markupmill.errors") 187), Option.none, Option.some (PySem.Value.ref 0)] } : Obj)) ::
  ((nat_lit 23 : Nat), ({ cls := PySem.Value.none, data := PySem.Data.fields #[] } : Obj)) ::
  ((nat_lit 26 : Nat), ({ cls := PySem.Value.none, data := PySem.Data.func { name := PySem.Str.ofString "__init__", qualname := PySem.Str.ofString "MarkupError.__init__", params := p26, body := PySem.FuncBody.stmts b26, scope := s26, globals := 0, closure := [], defaults := PySem.Value.none, kwdefaults := PySem.Value.none } } : Obj)) ::
  ((nat_lit 33 : Nat), ({ cls := PySem.Value.type "super", data := PySem.Data.fields #[PySem.Value.ref 31, PySem.Value.ref 31, PySem.Value.ref 31] } : Obj)) ::
  ((nat_lit 34 : Nat), ({ cls := PySem.Value.type "builtin_function_or_method", data := PySem.Data.fields #[PySem.Value.builtin "object.__init_subclass__", PySem.Value.ref 31] } : Obj)) ::
  ((nat_lit 36 : Nat), ({ cls := PySem.Value.type "builtin_function_or_method", data := PySem.Data.fields #[PySem.Value.builtin "type.__prepare__", PySem.Value.type "type"] } : Obj)) ::
  ((nat_lit 37 : Nat), ({ cls := PySem.Value.type "dict", data := PySem.Data.dict #[{ hash := PySem.PyData.keyHash P (PySem.Str.ofString "__module__"), key := PySem.Value.str (PySem.Str.ofString "__module__") 225, val := PySem.Value.str (PySem.Str.ofString "markupmill.errors") 187 }, { hash := PySem.PyData.keyHash P (PySem.Str.ofString "__qualname__"), key := PySem.Value.str (PySem.Str.ofString "__qualname__") 227, val := PySem.Value.str (PySem.Str.ofString "NamespaceFault") 226 }, { hash := PySem.PyData.keyHash P (PySem.Str.ofString "__firstlineno__"), key := PySem.Value.str (PySem.Str.ofString "__firstlineno__") 229, val := PySem.Value.int 7 228 }, { hash := PySem.PyData.keyHash P (PySem.Str.ofString "__static_attributes__"), key := PySem.Value.str (PySem.Str.ofString "__static_attributes__") 230, val := PySem.Value.ref 42 }] 4 } : Obj)) ::
  ((nat_lit 38 : Nat), ({ cls := PySem.Value.type "tuple", data := PySem.Data.seq #[] } : Obj)) ::
  ((nat_lit 39 : Nat), ({ cls := PySem.Value.none, data := PySem.Data.fields #[] } : Obj)) ::
  ((nat_lit 40 : Nat), ({ cls := PySem.Value.type "code", data := PySem.Data.fields #[PySem.Value.str (PySem.Str.ofString "NamespaceFault") 220, PySem.Value.str (PySem.Str.ofString "NamespaceFault") 221, PySem.Value.str (PySem.Str.ofString "/claim/cut.py") 222, PySem.Value.int 7 0, PySem.Value.int 0 0, PySem.Value.int 0 0, PySem.Value.int 0 0, PySem.Value.int 0 0, PySem.Value.ref 38, PySem.Value.bool Bool.false, PySem.Value.int 181 0, PySem.Value.ref 39, PySem.Value.none, PySem.Value.none, PySem.Value.none, PySem.Value.none, PySem.Value.int 223 0, PySem.Value.int 7 0, PySem.Value.str (PySem.Str.ofString "/claim/cut.py") 224] } : Obj)) ::
  ((nat_lit 41 : Nat), ({ cls := PySem.Value.type "frame", slots := #[Option.some (PySem.Value.ref 40), Option.some (PySem.Value.ref 3), Option.some (PySem.Value.ref 37), Option.none, Option.some (PySem.Value.str (PySem.Str.ofString "markupmill.errors") 187), Option.none, Option.some (PySem.Value.ref 0)] } : Obj)) ::
  ((nat_lit 45 : Nat), ({ cls := PySem.Value.type "super", data := PySem.Data.fields #[PySem.Value.ref 44, PySem.Value.ref 44, PySem.Value.ref 44] } : Obj)) ::
  ((nat_lit 46 : Nat), ({ cls := PySem.Value.type "builtin_function_or_method", data := PySem.Data.fields #[PySem.Value.builtin "object.__init_subclass__", PySem.Value.ref 44] } : Obj)) ::
  ((nat_lit 65 : Nat), ({ cls := PySem.Value.none, data := PySem.Data.fields #[] } : Obj)) ::
  ((nat_lit 68 : Nat), ({ cls := PySem.Value.none, data := PySem.Data.func { name := PySem.Str.ofString "is_in_ranges", qualname := PySem.Str.ofString "is_in_ranges", params := p68, body := PySem.FuncBody.stmts b68, scope := s68, globals := 0, closure := [], defaults := PySem.Value.none, kwdefaults := PySem.Value.none } } : Obj)) ::
  ((nat_lit 72 : Nat), ({ cls := PySem.Value.none, data := PySem.Data.fields #[] } : Obj)) ::
  ((nat_lit 75 : Nat), ({ cls := PySem.Value.none, data := PySem.Data.func { name := PySem.Str.ofString "is_small_letter", qualname := PySem.Str.ofString "is_small_letter", params := p75, body := PySem.FuncBody.stmts b75, scope := s75, globals := 0, closure := [], defaults := PySem.Value.none, kwdefaults := PySem.Value.none } } : Obj)) ::
  ((nat_lit 79 : Nat), ({ cls := PySem.Value.none, data := PySem.Data.fields #[] } : Obj)) ::
  ((nat_lit 82 : Nat), ({ cls := PySem.Value.none, data := PySem.Data.func { name := PySem.Str.ofString "is_name_start", qualname := PySem.Str.ofString "is_name_start", params := p82, body := PySem.FuncBody.stmts b82, scope := s82, globals := 0, closure := [], defaults := PySem.Value.none, kwdefaults := PySem.Value.none } } : Obj)) ::
  ((nat_lit 86 : Nat), ({ cls := PySem.Value.none, data := PySem.Data.fields #[] } : Obj)) ::
  ((nat_lit 89 : Nat), ({ cls := PySem.Value.none, data := PySem.Data.func { name := PySem.Str.ofString "is_name_char", qualname := PySem.Str.ofString "is_name_char", params := p89, body := PySem.FuncBody.stmts b89, scope := s89, globals := 0, closure := [], defaults := PySem.Value.none, kwdefaults := PySem.Value.none } } : Obj)) ::
  ((nat_lit 93 : Nat), ({ cls := PySem.Value.none, data := PySem.Data.fields #[] } : Obj)) ::
  ((nat_lit 96 : Nat), ({ cls := PySem.Value.none, data := PySem.Data.func { name := PySem.Str.ofString "is_nmtoken", qualname := PySem.Str.ofString "is_nmtoken", params := p96, body := PySem.FuncBody.stmts b96, scope := s96, globals := 0, closure := [], defaults := PySem.Value.none, kwdefaults := PySem.Value.none } } : Obj)) ::
  ((nat_lit 100 : Nat), ({ cls := PySem.Value.none, data := PySem.Data.fields #[] } : Obj)) ::
  ((nat_lit 103 : Nat), ({ cls := PySem.Value.none, data := PySem.Data.func { name := PySem.Str.ofString "is_name", qualname := PySem.Str.ofString "is_name", params := p103, body := PySem.FuncBody.stmts b103, scope := s103, globals := 0, closure := [], defaults := PySem.Value.none, kwdefaults := PySem.Value.none } } : Obj)) ::
  ((nat_lit 107 : Nat), ({ cls := PySem.Value.none, data := PySem.Data.fields #[] } : Obj)) ::
  ((nat_lit 110 : Nat), ({ cls := PySem.Value.none, data := PySem.Data.func { name := PySem.Str.ofString "is_ncname", qualname := PySem.Str.ofString "is_ncname", params := p110, body := PySem.FuncBody.stmts b110, scope := s110, globals := 0, closure := [], defaults := PySem.Value.none, kwdefaults := PySem.Value.none } } : Obj)) ::
  ((nat_lit 114 : Nat), ({ cls := PySem.Value.none, data := PySem.Data.fields #[] } : Obj)) ::
  ((nat_lit 117 : Nat), ({ cls := PySem.Value.none, data := PySem.Data.func { name := PySem.Str.ofString "split_name", qualname := PySem.Str.ofString "split_name", params := p117, body := PySem.FuncBody.stmts b117, scope := s117, globals := 0, closure := [], defaults := PySem.Value.none, kwdefaults := PySem.Value.none } } : Obj)) ::
  ((nat_lit 121 : Nat), ({ cls := PySem.Value.none, data := PySem.Data.fields #[] } : Obj)) ::
  ((nat_lit 124 : Nat), ({ cls := PySem.Value.none, data := PySem.Data.func { name := PySem.Str.ofString "declared_prefix", qualname := PySem.Str.ofString "declared_prefix", params := p124, body := PySem.FuncBody.stmts b124, scope := s124, globals := 0, closure := [], defaults := PySem.Value.none, kwdefaults := PySem.Value.none } } : Obj)) ::
  ((nat_lit 128 : Nat), ({ cls := PySem.Value.none, data := PySem.Data.fields #[] } : Obj)) ::
  ((nat_lit 131 : Nat), ({ cls := PySem.Value.none, data := PySem.Data.func { name := PySem.Str.ofString "check_binding", qualname := PySem.Str.ofString "check_binding", params := p131, body := PySem.FuncBody.stmts b131, scope := s131, globals := 0, closure := [], defaults := PySem.Value.none, kwdefaults := PySem.Value.none } } : Obj)) ::
  ((nat_lit 134 : Nat), ({ cls := PySem.Value.type "tuple", data := PySem.Data.seq #[] } : Obj)) ::
  ((nat_lit 135 : Nat), ({ cls := PySem.Value.type "builtin_function_or_method", data := PySem.Data.fields #[PySem.Value.builtin "type.__prepare__", PySem.Value.type "type"] } : Obj)) ::
  ((nat_lit 136 : Nat), ({ cls := PySem.Value.type "dict", data := PySem.Data.dict #[{ hash := PySem.PyData.keyHash P (PySem.Str.ofString "__module__"), key := PySem.Value.str (PySem.Str.ofString "__module__") 360, val := PySem.Value.str (PySem.Str.ofString "markupmill.bindings") 332 }, { hash := PySem.PyData.keyHash P (PySem.Str.ofString "__qualname__"), key := PySem.Value.str (PySem.Str.ofString "__qualname__") 362, val := PySem.Value.str (PySem.Str.ofString "Bindings") 361 }, { hash := PySem.PyData.keyHash P (PySem.Str.ofString "__firstlineno__"), key := PySem.Value.str (PySem.Str.ofString "__firstlineno__") 364, val := PySem.Value.int 76 363 }, { hash := PySem.PyData.keyHash P (PySem.Str.ofString "__init__"), key := PySem.Value.str (PySem.Str.ofString "__init__") 371, val := PySem.Value.ref 147 }, { hash := PySem.PyData.keyHash P (PySem.Str.ofString "enter"), key := PySem.Value.str (PySem.Str.ofString "enter") 386, val := PySem.Value.ref 154 }, { hash := PySem.PyData.keyHash P (PySem.Str.ofString "leave"), key := PySem.Value.str (PySem.Str.ofString "leave") 393, val := PySem.Value.ref 161 }, { hash := PySem.PyData.keyHash P (PySem.Str.ofString "depth"), key := PySem.Value.str (PySem.Str.ofString "depth") 400, val := PySem.Value.ref 168 }, { hash := PySem.PyData.keyHash P (PySem.Str.ofString "declared"), key := PySem.Value.str (PySem.Str.ofString "declared") 407, val := PySem.Value.ref 175 }, { hash := PySem.PyData.keyHash P (PySem.Str.ofString "uri_of"), key := PySem.Value.str (PySem.Str.ofString "uri_of") 416, val := PySem.Value.ref 182 }, { hash := PySem.PyData.keyHash P (PySem.Str.ofString "resolved"), key := PySem.Value.str (PySem.Str.ofString "resolved") 427, val := PySem.Value.ref 190 }, { hash := PySem.PyData.keyHash P (PySem.Str.ofString "check_attributes"), key := PySem.Value.str (PySem.Str.ofString "check_attributes") 439, val := PySem.Value.ref 197 }, { hash := PySem.PyData.keyHash P (PySem.Str.ofString "in_scope"), key := PySem.Value.str (PySem.Str.ofString "in_scope") 449, val := PySem.Value.ref 204 }, { hash := PySem.PyData.keyHash P (PySem.Str.ofString "__static_attributes__"), key := PySem.Value.str (PySem.Str.ofString "__static_attributes__") 452, val := PySem.Value.ref 205 }] 13 } : Obj)) ::
  ((nat_lit 137 : Nat), ({ cls := PySem.Value.type "tuple", data := PySem.Data.seq #[] } : Obj)) ::
  ((nat_lit 138 : Nat), ({ cls := PySem.Value.none, data := PySem.Data.fields #[PySem.Value.int 78 0, PySem.Value.int 4 0, PySem.Value.ref 146, PySem.Value.int 82 0, PySem.Value.int 4 0, PySem.Value.ref 153, PySem.Value.int 101 0, PySem.Value.int 4 0, PySem.Value.ref 160, PySem.Value.int 107 0, PySem.Value.int 4 0, PySem.Value.ref 167, PySem.Value.int 110 0, PySem.Value.int 4 0, PySem.Value.ref 174, PySem.Value.int 113 0, PySem.Value.int 4 0, PySem.Value.ref 181, PySem.Value.int 123 0, PySem.Value.int 4 0, PySem.Value.ref 189, PySem.Value.int 129 0, PySem.Value.int 4 0, PySem.Value.ref 196, PySem.Value.int 137 0, PySem.Value.int 4 0, PySem.Value.ref 203] } : Obj)) ::
  ((nat_lit 139 : Nat), ({ cls := PySem.Value.type "code", data := PySem.Data.fields #[PySem.Value.str (PySem.Str.ofString "Bindings") 355, PySem.Value.str (PySem.Str.ofString "Bindings") 356, PySem.Value.str (PySem.Str.ofString "/claim/cut.py") 357, PySem.Value.int 76 0, PySem.Value.int 0 0, PySem.Value.int 0 0, PySem.Value.int 0 0, PySem.Value.int 0 0, PySem.Value.ref 137, PySem.Value.bool Bool.false, PySem.Value.int 181 0, PySem.Value.ref 138, PySem.Value.none, PySem.Value.none, PySem.Value.none, PySem.Value.none, PySem.Value.int 358 0, PySem.Value.int 76 0, PySem.Value.str (PySem.Str.ofString "/claim/cut.py") 359] } : Obj)) ::
  ((nat_lit 140 : Nat), ({ cls := PySem.Value.type "frame", slots := #[Option.some (PySem.Value.ref 139), Option.some (PySem.Value.ref 3), Option.some (PySem.Value.ref 136), Option.none, Option.some (PySem.Value.str (PySem.Str.ofString "markupmill.bindings") 332), Option.none, Option.some (PySem.Value.ref 0)] } : Obj)) ::
  ((nat_lit 142 : Nat), ({ cls := PySem.Value.none, data := PySem.Data.fields #[] } : Obj)) ::
  ((nat_lit 145 : Nat), ({ cls := PySem.Value.none, data := PySem.Data.func { name := PySem.Str.ofString "__init__", qualname := PySem.Str.ofString "Bindings.__init__", params := p145, body := PySem.FuncBody.stmts b145, scope := s145, globals := 0, closure := [], defaults := PySem.Value.none, kwdefaults := PySem.Value.none } } : Obj)) ::
  ((nat_lit 149 : Nat), ({ cls := PySem.Value.none, data := PySem.Data.fields #[] } : Obj)) ::
  ((nat_lit 152 : Nat), ({ cls := PySem.Value.none, data := PySem.Data.func { name := PySem.Str.ofString "enter", qualname := PySem.Str.ofString "Bindings.enter", params := p152, body := PySem.FuncBody.stmts b152, scope := s152, globals := 0, closure := [], defaults := PySem.Value.none, kwdefaults := PySem.Value.none } } : Obj)) ::
  ((nat_lit 156 : Nat), ({ cls := PySem.Value.none, data := PySem.Data.fields #[] } : Obj)) ::
  ((nat_lit 159 : Nat), ({ cls := PySem.Value.none, data := PySem.Data.func { name := PySem.Str.ofString "leave", qualname := PySem.Str.ofString "Bindings.leave", params := p159, body := PySem.FuncBody.stmts b159, scope := s159, globals := 0, closure := [], defaults := PySem.Value.none, kwdefaults := PySem.Value.none } } : Obj)) ::
  ((nat_lit 163 : Nat), ({ cls := PySem.Value.none, data := PySem.Data.fields #[] } : Obj)) ::
  ((nat_lit 166 : Nat), ({ cls := PySem.Value.none, data := PySem.Data.func { name := PySem.Str.ofString "depth", qualname := PySem.Str.ofString "Bindings.depth", params := p166, body := PySem.FuncBody.stmts b166, scope := s166, globals := 0, closure := [], defaults := PySem.Value.none, kwdefaults := PySem.Value.none } } : Obj)) ::
  ((nat_lit 170 : Nat), ({ cls := PySem.Value.none, data := PySem.Data.fields #[] } : Obj)) ::
  ((nat_lit 173 : Nat), ({ cls := PySem.Value.none, data := PySem.Data.func { name := PySem.Str.ofString "declared", qualname := PySem.Str.ofString "Bindings.declared", params := p173, body := PySem.FuncBody.stmts b173, scope := s173, globals := 0, closure := [], defaults := PySem.Value.none, kwdefaults := PySem.Value.none } } : Obj)) ::
  ((nat_lit 177 : Nat), ({ cls := PySem.Value.none, data := PySem.Data.fields #[] } : Obj)) ::
  ((nat_lit 180 : Nat), ({ cls := PySem.Value.none, data := PySem.Data.func { name := PySem.Str.ofString "uri_of", qualname := PySem.Str.ofString "Bindings.uri_of", params := p180, body := PySem.FuncBody.stmts b180, scope := s180, globals := 0, closure := [], defaults := PySem.Value.none, kwdefaults := PySem.Value.none } } : Obj)) ::
  ((nat_lit 185 : Nat), ({ cls := PySem.Value.none, data := PySem.Data.fields #[] } : Obj)) ::
  ((nat_lit 188 : Nat), ({ cls := PySem.Value.none, data := PySem.Data.func { name := PySem.Str.ofString "resolved", qualname := PySem.Str.ofString "Bindings.resolved", params := p188, body := PySem.FuncBody.stmts b188, scope := s188, globals := 0, closure := [], defaults := PySem.Value.none, kwdefaults := PySem.Value.none } } : Obj)) ::
  ((nat_lit 192 : Nat), ({ cls := PySem.Value.none, data := PySem.Data.fields #[] } : Obj)) ::
  ((nat_lit 195 : Nat), ({ cls := PySem.Value.none, data := PySem.Data.func { name := PySem.Str.ofString "check_attributes", qualname := PySem.Str.ofString "Bindings.check_attributes", params := p195, body := PySem.FuncBody.stmts b195, scope := s195, globals := 0, closure := [], defaults := PySem.Value.none, kwdefaults := PySem.Value.none } } : Obj)) ::
  ((nat_lit 199 : Nat), ({ cls := PySem.Value.none, data := PySem.Data.fields #[] } : Obj)) ::
  ((nat_lit 202 : Nat), ({ cls := PySem.Value.none, data := PySem.Data.func { name := PySem.Str.ofString "in_scope", qualname := PySem.Str.ofString "Bindings.in_scope", params := p202, body := PySem.FuncBody.stmts b202, scope := s202, globals := 0, closure := [], defaults := PySem.Value.none, kwdefaults := PySem.Value.none } } : Obj)) ::
  ((nat_lit 210 : Nat), ({ cls := PySem.Value.type "super", data := PySem.Data.fields #[PySem.Value.ref 207, PySem.Value.ref 207, PySem.Value.ref 207] } : Obj)) ::
  ((nat_lit 211 : Nat), ({ cls := PySem.Value.type "builtin_function_or_method", data := PySem.Data.fields #[PySem.Value.builtin "object.__init_subclass__", PySem.Value.ref 207] } : Obj)) ::
  ((nat_lit 213 : Nat), ({ cls := PySem.Value.none, data := PySem.Data.fields #[] } : Obj)) ::
  ((nat_lit 216 : Nat), ({ cls := PySem.Value.none, data := PySem.Data.func { name := PySem.Str.ofString "_law_pool", qualname := PySem.Str.ofString "_law_pool", params := p216, body := PySem.FuncBody.stmts b216, scope := s216, globals := 0, closure := [], defaults := PySem.Value.none, kwdefaults := PySem.Value.none } } : Obj)) ::
  ((nat_lit 220 : Nat), ({ cls := PySem.Value.none, data := PySem.Data.fields #[] } : Obj)) ::
  ((nat_lit 223 : Nat), ({ cls := PySem.Value.none, data := PySem.Data.func { name := PySem.Str.ofString "_law_take", qualname := PySem.Str.ofString "_law_take", params := p223, body := PySem.FuncBody.stmts b223, scope := s223, globals := 0, closure := [], defaults := PySem.Value.none, kwdefaults := PySem.Value.none } } : Obj)) ::
  ((nat_lit 227 : Nat), ({ cls := PySem.Value.none, data := PySem.Data.fields #[] } : Obj)) ::
  ((nat_lit 230 : Nat), ({ cls := PySem.Value.none, data := PySem.Data.func { name := PySem.Str.ofString "_law_one", qualname := PySem.Str.ofString "_law_one", params := p230, body := PySem.FuncBody.stmts b230, scope := s230, globals := 0, closure := [], defaults := PySem.Value.none, kwdefaults := PySem.Value.none } } : Obj)) ::
  ((nat_lit 234 : Nat), ({ cls := PySem.Value.none, data := PySem.Data.fields #[] } : Obj)) ::
  ((nat_lit 237 : Nat), ({ cls := PySem.Value.none, data := PySem.Data.func { name := PySem.Str.ofString "_law_told", qualname := PySem.Str.ofString "_law_told", params := p237, body := PySem.FuncBody.stmts b237, scope := s237, globals := 0, closure := [], defaults := PySem.Value.none, kwdefaults := PySem.Value.none } } : Obj)) ::
  ((nat_lit 241 : Nat), ({ cls := PySem.Value.none, data := PySem.Data.fields #[] } : Obj)) ::
  ((nat_lit 244 : Nat), ({ cls := PySem.Value.none, data := PySem.Data.func { name := PySem.Str.ofString "_law_is_wrong", qualname := PySem.Str.ofString "_law_is_wrong", params := p244, body := PySem.FuncBody.stmts b244, scope := s244, globals := 0, closure := [], defaults := PySem.Value.none, kwdefaults := PySem.Value.none } } : Obj)) ::
  ((nat_lit 248 : Nat), ({ cls := PySem.Value.none, data := PySem.Data.fields #[] } : Obj)) ::
  ((nat_lit 249 : Nat), ({ cls := PySem.Value.none, data := PySem.Data.func { name := PySem.Str.ofString "_law_drawn", qualname := PySem.Str.ofString "_law_drawn", params := p249, body := PySem.FuncBody.stmts b249, scope := s249, globals := 0, closure := [], defaults := PySem.Value.none, kwdefaults := PySem.Value.none } } : Obj)) ::
  ((nat_lit 253 : Nat), ({ cls := PySem.Value.none, data := PySem.Data.fields #[] } : Obj)) ::
  ((nat_lit 256 : Nat), ({ cls := PySem.Value.none, data := PySem.Data.func { name := PySem.Str.ofString "_law_expanded", qualname := PySem.Str.ofString "_law_expanded", params := p256, body := PySem.FuncBody.stmts b256, scope := s256, globals := 0, closure := [], defaults := PySem.Value.none, kwdefaults := PySem.Value.none } } : Obj)) ::
  ((nat_lit 260 : Nat), ({ cls := PySem.Value.none, data := PySem.Data.fields #[] } : Obj)) ::
  ((nat_lit 261 : Nat), ({ cls := PySem.Value.none, data := PySem.Data.func { name := PySem.Str.ofString "_law_asked_right", qualname := PySem.Str.ofString "_law_asked_right", params := p261, body := PySem.FuncBody.stmts b261, scope := s261, globals := 0, closure := [], defaults := PySem.Value.none, kwdefaults := PySem.Value.none } } : Obj)) ::
  ((nat_lit 265 : Nat), ({ cls := PySem.Value.none, data := PySem.Data.fields #[] } : Obj)) ::
  ((nat_lit 266 : Nat), ({ cls := PySem.Value.none, data := PySem.Data.func { name := PySem.Str.ofString "_law_opened_right", qualname := PySem.Str.ofString "_law_opened_right", params := p266, body := PySem.FuncBody.stmts b266, scope := s266, globals := 0, closure := [], defaults := PySem.Value.none, kwdefaults := PySem.Value.none } } : Obj)) ::
  ((nat_lit 270 : Nat), ({ cls := PySem.Value.none, data := PySem.Data.fields #[] } : Obj)) ::
  ((nat_lit 273 : Nat), ({ cls := PySem.Value.none, data := PySem.Data.func { name := PySem.Str.ofString "law", qualname := PySem.Str.ofString "law", params := p273, body := PySem.FuncBody.stmts b273, scope := s273, globals := 0, closure := [], defaults := PySem.Value.none, kwdefaults := PySem.Value.none } } : Obj)) :: [] : List (Nat × Obj))))
  ⟨_, _, _, _, _, _, _⟩ (_ :: _) ⟨_, _, _, _, _⟩ rfl
  ⟨_, _, _, _, _, _, _⟩ (_ :: _) ⟨_, _, _, _, _⟩ rfl
  ⟨_, _, _, _, _, _, _⟩ (_ :: _) ⟨_, _, _, _, _⟩ rfl
  ⟨_, _, _, _, _, _, _⟩ (_ :: _) ⟨_, _, _, _, _⟩ rfl
  ⟨_, _, _, _, _, _, _⟩ (_ :: _) ⟨_, _, _, _, _⟩ rfl
  ⟨_, _, _, _, _, _, _⟩ (_ :: _) ⟨_, _, _, _, _⟩ rfl
  ⟨_, _, _, _, _, _, _⟩ (_ :: _) ⟨_, _, _, _, _⟩ rfl
  ⟨_, _, _, _, _, _, _⟩ (_ :: _) ⟨_, _, _, _, _⟩ rfl
  ⟨_, _, _, _, _, _, _⟩ (_ :: _) ⟨_, _, _, _, _⟩ rfl
  ⟨_, _, _, _, _, _, _⟩ (_ :: _) ⟨_, _, _, _, _⟩ rfl
  ⟨_, _, _, _, _, _, _⟩ (_ :: _) ⟨_, _, _, _, _⟩ rfl
  ⟨_, _, _, _, _, _, _⟩ (_ :: _) ⟨_, _, _, _, _⟩ rfl
  ⟨_, _, _, _, _, _, _⟩ (_ :: _) ⟨_, _, _, _, _⟩ rfl
  ⟨_, _, _, _, _, _, _⟩ (_ :: _) ⟨_, _, _, _, _⟩ rfl
  ⟨_, _, _, _, _, _, _⟩ (_ :: _) ⟨_, _, _, _, _⟩ rfl
  ⟨_, _, _, _, _, _, _⟩ (_ :: _) ⟨_, _, _, _, _⟩ rfl
  ⟨_, _, _, _, _, _, _⟩ (_ :: _) ⟨_, _, _, _, _⟩ rfl
  ⟨_, _, _, _, _, _, _⟩ (_ :: _) ⟨_, _, _, _, _⟩ rfl
  ⟨_, _, _, _, _, _, _⟩ (_ :: _) ⟨_, _, _, _, _⟩ rfl
  ⟨_, _, _, _, _, _, _⟩ (_ :: _) ⟨_, _, _, _, _⟩ rfl
  ⟨_, _, _, _, _, _, _⟩ (_ :: _) ⟨_, _, _, _, _⟩ rfl
  ⟨_, _, _, _, _, _, _⟩ (_ :: _) ⟨_, _, _, _, _⟩ rfl
  ⟨_, _, _, _, _, _, _⟩ (_ :: _) ⟨_, _, _, _, _⟩ rfl
  ⟨_, _, _, _, _, _, _⟩ (_ :: _) ⟨_, _, _, _, _⟩ rfl
  ⟨_, _, _, _, _, _, _⟩ (_ :: _) ⟨_, _, _, _, _⟩ rfl
  ⟨_, _, _, _, _, _, _⟩ (_ :: _) ⟨_, _, _, _, _⟩ rfl
  ⟨_, _, _, _, _, _, _⟩ (_ :: _) ⟨_, _, _, _, _⟩ rfl
  ⟨_, _, _, _, _, _, _⟩ (_ :: _) ⟨_, _, _, _, _⟩ rfl
  ⟨_, _, _, _, _, _, _⟩ (_ :: _) ⟨_, _, _, _, _⟩ rfl
  ⟨_, _, _, _, _, _, _⟩ (_ :: _) ⟨_, _, _, _, _⟩ rfl
noncomputable def hd.o31_1 (_ : Params) : Obj := { cls := PySem.Value.type "type", data := PySem.Data.cls { name := PySem.Str.ofString "MarkupError", bases := [PySem.Value.type "Exception"], mro := [PySem.Value.ref 31, PySem.Value.type "Exception", PySem.Value.type "BaseException", PySem.Value.type "object"], ns := 30, qualname := PySem.Str.ofString "MarkupError" }, slots := #[Option.some (PySem.Value.ref 15), Option.none, Option.some (PySem.Value.str (PySem.Str.ofString "MarkupError") 189), Option.some (PySem.Value.str (PySem.Str.ofString "MarkupError") 197), Option.some (PySem.Value.builtin "Exception.__new__"), Option.some (PySem.Value.bool Bool.true)] }
noncomputable def hd.o3_1 (P : Params) : Obj := { cls := PySem.Value.type "dict", data := PySem.Data.dict #[{ hash := PySem.PyData.keyHash P (PySem.Str.ofString "__name__"), key := PySem.Value.str (PySem.Str.ofString "__name__") 165, val := PySem.Value.str (PySem.Str.ofString "markupmill.errors") 187 }, { hash := PySem.PyData.keyHash P (PySem.Str.ofString "__doc__"), key := PySem.Value.str (PySem.Str.ofString "__doc__") 166, val := PySem.Value.none }, { hash := PySem.PyData.keyHash P (PySem.Str.ofString "__package__"), key := PySem.Value.str (PySem.Str.ofString "__package__") 167, val := PySem.Value.none }, { hash := PySem.PyData.keyHash P (PySem.Str.ofString "__loader__"), key := PySem.Value.str (PySem.Str.ofString "__loader__") 168, val := PySem.Value.builtin "__main__.__loader__#opaque" }, { hash := PySem.PyData.keyHash P (PySem.Str.ofString "__spec__"), key := PySem.Value.str (PySem.Str.ofString "__spec__") 169, val := PySem.Value.none }, { hash := PySem.PyData.keyHash P (PySem.Str.ofString "__annotations__"), key := PySem.Value.str (PySem.Str.ofString "__annotations__") 170, val := PySem.Value.ref 6 }, { hash := PySem.PyData.keyHash P (PySem.Str.ofString "__builtins__"), key := PySem.Value.str (PySem.Str.ofString "__builtins__") 171, val := PySem.Value.ref 4 }, { hash := PySem.PyData.keyHash P (PySem.Str.ofString "__file__"), key := PySem.Value.str (PySem.Str.ofString "__file__") 173, val := PySem.Value.str (PySem.Str.ofString "/claim/cut.py") 172 }, { hash := PySem.PyData.keyHash P (PySem.Str.ofString "__cached__"), key := PySem.Value.str (PySem.Str.ofString "__cached__") 174, val := PySem.Value.none }, { hash := PySem.PyData.keyHash P (PySem.Str.ofString "MarkupError"), key := PySem.Value.str (PySem.Str.ofString "MarkupError") 217, val := PySem.Value.ref 31 }] 10 }
noncomputable def hd.o12_1 (_ : Params) : Obj := { cls := PySem.Value.none, data := PySem.Data.fields #[PySem.Value.int 2 0, PySem.Value.int 0 0, PySem.Value.ref 20] }
noncomputable def hd.o3_2 (P : Params) : Obj := { cls := PySem.Value.type "dict", data := PySem.Data.dict #[{ hash := PySem.PyData.keyHash P (PySem.Str.ofString "__name__"), key := PySem.Value.str (PySem.Str.ofString "__name__") 165, val := PySem.Value.str (PySem.Str.ofString "markupmill.errors") 187 }, { hash := PySem.PyData.keyHash P (PySem.Str.ofString "__doc__"), key := PySem.Value.str (PySem.Str.ofString "__doc__") 166, val := PySem.Value.none }, { hash := PySem.PyData.keyHash P (PySem.Str.ofString "__package__"), key := PySem.Value.str (PySem.Str.ofString "__package__") 167, val := PySem.Value.none }, { hash := PySem.PyData.keyHash P (PySem.Str.ofString "__loader__"), key := PySem.Value.str (PySem.Str.ofString "__loader__") 168, val := PySem.Value.builtin "__main__.__loader__#opaque" }, { hash := PySem.PyData.keyHash P (PySem.Str.ofString "__spec__"), key := PySem.Value.str (PySem.Str.ofString "__spec__") 169, val := PySem.Value.none }, { hash := PySem.PyData.keyHash P (PySem.Str.ofString "__annotations__"), key := PySem.Value.str (PySem.Str.ofString "__annotations__") 170, val := PySem.Value.ref 6 }, { hash := PySem.PyData.keyHash P (PySem.Str.ofString "__builtins__"), key := PySem.Value.str (PySem.Str.ofString "__builtins__") 171, val := PySem.Value.ref 4 }, { hash := PySem.PyData.keyHash P (PySem.Str.ofString "__file__"), key := PySem.Value.str (PySem.Str.ofString "__file__") 173, val := PySem.Value.str (PySem.Str.ofString "/claim/cut.py") 172 }, { hash := PySem.PyData.keyHash P (PySem.Str.ofString "__cached__"), key := PySem.Value.str (PySem.Str.ofString "__cached__") 174, val := PySem.Value.none }, { hash := PySem.PyData.keyHash P (PySem.Str.ofString "MarkupError"), key := PySem.Value.str (PySem.Str.ofString "MarkupError") 217, val := PySem.Value.ref 31 }, { hash := PySem.PyData.keyHash P (PySem.Str.ofString "NamespaceFault"), key := PySem.Value.str (PySem.Str.ofString "NamespaceFault") 233, val := PySem.Value.ref 44 }] 11 }
noncomputable def hd.o12_2 (_ : Params) : Obj := { cls := PySem.Value.none, data := PySem.Data.fields #[PySem.Value.int 2 0, PySem.Value.int 0 0, PySem.Value.ref 20, PySem.Value.int 7 0, PySem.Value.int 0 0, PySem.Value.ref 40] }
noncomputable def hd.o3_19 (P : Params) : Obj := { cls := PySem.Value.type "dict", data := PySem.Data.dict #[{ hash := PySem.PyData.keyHash P (PySem.Str.ofString "__name__"), key := PySem.Value.str (PySem.Str.ofString "__name__") 165, val := PySem.Value.str (PySem.Str.ofString "markupmill.bindings") 332 }, { hash := PySem.PyData.keyHash P (PySem.Str.ofString "__doc__"), key := PySem.Value.str (PySem.Str.ofString "__doc__") 166, val := PySem.Value.none }, { hash := PySem.PyData.keyHash P (PySem.Str.ofString "__package__"), key := PySem.Value.str (PySem.Str.ofString "__package__") 167, val := PySem.Value.none }, { hash := PySem.PyData.keyHash P (PySem.Str.ofString "__loader__"), key := PySem.Value.str (PySem.Str.ofString "__loader__") 168, val := PySem.Value.builtin "__main__.__loader__#opaque" }, { hash := PySem.PyData.keyHash P (PySem.Str.ofString "__spec__"), key := PySem.Value.str (PySem.Str.ofString "__spec__") 169, val := PySem.Value.none }, { hash := PySem.PyData.keyHash P (PySem.Str.ofString "__annotations__"), key := PySem.Value.str (PySem.Str.ofString "__annotations__") 170, val := PySem.Value.ref 6 }, { hash := PySem.PyData.keyHash P (PySem.Str.ofString "__builtins__"), key := PySem.Value.str (PySem.Str.ofString "__builtins__") 171, val := PySem.Value.ref 4 }, { hash := PySem.PyData.keyHash P (PySem.Str.ofString "__file__"), key := PySem.Value.str (PySem.Str.ofString "__file__") 173, val := PySem.Value.str (PySem.Str.ofString "/claim/cut.py") 172 }, { hash := PySem.PyData.keyHash P (PySem.Str.ofString "__cached__"), key := PySem.Value.str (PySem.Str.ofString "__cached__") 174, val := PySem.Value.none }, { hash := PySem.PyData.keyHash P (PySem.Str.ofString "MarkupError"), key := PySem.Value.str (PySem.Str.ofString "MarkupError") 217, val := PySem.Value.ref 31 }, { hash := PySem.PyData.keyHash P (PySem.Str.ofString "NamespaceFault"), key := PySem.Value.str (PySem.Str.ofString "NamespaceFault") 233, val := PySem.Value.ref 44 }, { hash := PySem.PyData.keyHash P (PySem.Str.ofString "START_RANGES"), key := PySem.Value.str (PySem.Str.ofString "START_RANGES") 260, val := PySem.Value.ref 59 }, { hash := PySem.PyData.keyHash P (PySem.Str.ofString "MORE_RANGES"), key := PySem.Value.str (PySem.Str.ofString "MORE_RANGES") 267, val := PySem.Value.ref 63 }, { hash := PySem.PyData.keyHash P (PySem.Str.ofString "FIRST_BEYOND"), key := PySem.Value.str (PySem.Str.ofString "FIRST_BEYOND") 269, val := PySem.Value.int 128 268 }, { hash := PySem.PyData.keyHash P (PySem.Str.ofString "is_in_ranges"), key := PySem.Value.str (PySem.Str.ofString "is_in_ranges") 279, val := PySem.Value.ref 70 }, { hash := PySem.PyData.keyHash P (PySem.Str.ofString "is_small_letter"), key := PySem.Value.str (PySem.Str.ofString "is_small_letter") 286, val := PySem.Value.ref 77 }, { hash := PySem.PyData.keyHash P (PySem.Str.ofString "is_name_start"), key := PySem.Value.str (PySem.Str.ofString "is_name_start") 293, val := PySem.Value.ref 84 }, { hash := PySem.PyData.keyHash P (PySem.Str.ofString "is_name_char"), key := PySem.Value.str (PySem.Str.ofString "is_name_char") 300, val := PySem.Value.ref 91 }, { hash := PySem.PyData.keyHash P (PySem.Str.ofString "is_nmtoken"), key := PySem.Value.str (PySem.Str.ofString "is_nmtoken") 308, val := PySem.Value.ref 98 }, { hash := PySem.PyData.keyHash P (PySem.Str.ofString "is_name"), key := PySem.Value.str (PySem.Str.ofString "is_name") 315, val := PySem.Value.ref 105 }, { hash := PySem.PyData.keyHash P (PySem.Str.ofString "is_ncname"), key := PySem.Value.str (PySem.Str.ofString "is_ncname") 322, val := PySem.Value.ref 112 }, { hash := PySem.PyData.keyHash P (PySem.Str.ofString "split_name"), key := PySem.Value.str (PySem.Str.ofString "split_name") 331, val := PySem.Value.ref 119 }, { hash := PySem.PyData.keyHash P (PySem.Str.ofString "XML_URI"), key := PySem.Value.str (PySem.Str.ofString "XML_URI") 335, val := PySem.Value.str (PySem.Str.ofString "http://www.w3.org/XML/1998/namespace") 334 }, { hash := PySem.PyData.keyHash P (PySem.Str.ofString "XMLNS_URI"), key := PySem.Value.str (PySem.Str.ofString "XMLNS_URI") 337, val := PySem.Value.str (PySem.Str.ofString "http://www.w3.org/2000/xmlns/") 336 }, { hash := PySem.PyData.keyHash P (PySem.Str.ofString "declared_prefix"), key := PySem.Value.str (PySem.Str.ofString "declared_prefix") 344, val := PySem.Value.ref 126 }, { hash := PySem.PyData.keyHash P (PySem.Str.ofString "check_binding"), key := PySem.Value.str (PySem.Str.ofString "check_binding") 352, val := PySem.Value.ref 133 }] 26 }
noncomputable def hd.o12_19 (_ : Params) : Obj := { cls := PySem.Value.none, data := PySem.Data.fields #[PySem.Value.int 2 0, PySem.Value.int 0 0, PySem.Value.ref 20, PySem.Value.int 7 0, PySem.Value.int 0 0, PySem.Value.ref 40, PySem.Value.int 13 0, PySem.Value.int 0 0, PySem.Value.ref 69, PySem.Value.int 20 0, PySem.Value.int 0 0, PySem.Value.ref 76, PySem.Value.int 22 0, PySem.Value.int 0 0, PySem.Value.ref 83, PySem.Value.int 26 0, PySem.Value.int 0 0, PySem.Value.ref 90, PySem.Value.int 32 0, PySem.Value.int 0 0, PySem.Value.ref 97, PySem.Value.int 37 0, PySem.Value.int 0 0, PySem.Value.ref 104, PySem.Value.int 39 0, PySem.Value.int 0 0, PySem.Value.ref 111, PySem.Value.int 41 0, PySem.Value.int 0 0, PySem.Value.ref 118, PySem.Value.int 54 0, PySem.Value.int 0 0, PySem.Value.ref 125, PySem.Value.int 62 0, PySem.Value.int 0 0, PySem.Value.ref 132] }
noncomputable def hd.o3_20 (P : Params) : Obj := { cls := PySem.Value.type "dict", data := PySem.Data.dict #[{ hash := PySem.PyData.keyHash P (PySem.Str.ofString "__name__"), key := PySem.Value.str (PySem.Str.ofString "__name__") 165, val := PySem.Value.str (PySem.Str.ofString "markupmill.bindings") 332 }, { hash := PySem.PyData.keyHash P (PySem.Str.ofString "__doc__"), key := PySem.Value.str (PySem.Str.ofString "__doc__") 166, val := PySem.Value.none }, { hash := PySem.PyData.keyHash P (PySem.Str.ofString "__package__"), key := PySem.Value.str (PySem.Str.ofString "__package__") 167, val := PySem.Value.none }, { hash := PySem.PyData.keyHash P (PySem.Str.ofString "__loader__"), key := PySem.Value.str (PySem.Str.ofString "__loader__") 168, val := PySem.Value.builtin "__main__.__loader__#opaque" }, { hash := PySem.PyData.keyHash P (PySem.Str.ofString "__spec__"), key := PySem.Value.str (PySem.Str.ofString "__spec__") 169, val := PySem.Value.none }, { hash := PySem.PyData.keyHash P (PySem.Str.ofString "__annotations__"), key := PySem.Value.str (PySem.Str.ofString "__annotations__") 170, val := PySem.Value.ref 6 }, { hash := PySem.PyData.keyHash P (PySem.Str.ofString "__builtins__"), key := PySem.Value.str (PySem.Str.ofString "__builtins__") 171, val := PySem.Value.ref 4 }, { hash := PySem.PyData.keyHash P (PySem.Str.ofString "__file__"), key := PySem.Value.str (PySem.Str.ofString "__file__") 173, val := PySem.Value.str (PySem.Str.ofString "/claim/cut.py") 172 }, { hash := PySem.PyData.keyHash P (PySem.Str.ofString "__cached__"), key := PySem.Value.str (PySem.Str.ofString "__cached__") 174, val := PySem.Value.none }, { hash := PySem.PyData.keyHash P (PySem.Str.ofString "MarkupError"), key := PySem.Value.str (PySem.Str.ofString "MarkupError") 217, val := PySem.Value.ref 31 }, { hash := PySem.PyData.keyHash P (PySem.Str.ofString "NamespaceFault"), key := PySem.Value.str (PySem.Str.ofString "NamespaceFault") 233, val := PySem.Value.ref 44 }, { hash := PySem.PyData.keyHash P (PySem.Str.ofString "START_RANGES"), key := PySem.Value.str (PySem.Str.ofString "START_RANGES") 260, val := PySem.Value.ref 59 }, { hash := PySem.PyData.keyHash P (PySem.Str.ofString "MORE_RANGES"), key := PySem.Value.str (PySem.Str.ofString "MORE_RANGES") 267, val := PySem.Value.ref 63 }, { hash := PySem.PyData.keyHash P (PySem.Str.ofString "FIRST_BEYOND"), key := PySem.Value.str (PySem.Str.ofString "FIRST_BEYOND") 269, val := PySem.Value.int 128 268 }, { hash := PySem.PyData.keyHash P (PySem.Str.ofString "is_in_ranges"), key := PySem.Value.str (PySem.Str.ofString "is_in_ranges") 279, val := PySem.Value.ref 70 }, { hash := PySem.PyData.keyHash P (PySem.Str.ofString "is_small_letter"), key := PySem.Value.str (PySem.Str.ofString "is_small_letter") 286, val := PySem.Value.ref 77 }, { hash := PySem.PyData.keyHash P (PySem.Str.ofString "is_name_start"), key := PySem.Value.str (PySem.Str.ofString "is_name_start") 293, val := PySem.Value.ref 84 }, { hash := PySem.PyData.keyHash P (PySem.Str.ofString "is_name_char"), key := PySem.Value.str (PySem.Str.ofString "is_name_char") 300, val := PySem.Value.ref 91 }, { hash := PySem.PyData.keyHash P (PySem.Str.ofString "is_nmtoken"), key := PySem.Value.str (PySem.Str.ofString "is_nmtoken") 308, val := PySem.Value.ref 98 }, { hash := PySem.PyData.keyHash P (PySem.Str.ofString "is_name"), key := PySem.Value.str (PySem.Str.ofString "is_name") 315, val := PySem.Value.ref 105 }, { hash := PySem.PyData.keyHash P (PySem.Str.ofString "is_ncname"), key := PySem.Value.str (PySem.Str.ofString "is_ncname") 322, val := PySem.Value.ref 112 }, { hash := PySem.PyData.keyHash P (PySem.Str.ofString "split_name"), key := PySem.Value.str (PySem.Str.ofString "split_name") 331, val := PySem.Value.ref 119 }, { hash := PySem.PyData.keyHash P (PySem.Str.ofString "XML_URI"), key := PySem.Value.str (PySem.Str.ofString "XML_URI") 335, val := PySem.Value.str (PySem.Str.ofString "http://www.w3.org/XML/1998/namespace") 334 }, { hash := PySem.PyData.keyHash P (PySem.Str.ofString "XMLNS_URI"), key := PySem.Value.str (PySem.Str.ofString "XMLNS_URI") 337, val := PySem.Value.str (PySem.Str.ofString "http://www.w3.org/2000/xmlns/") 336 }, { hash := PySem.PyData.keyHash P (PySem.Str.ofString "declared_prefix"), key := PySem.Value.str (PySem.Str.ofString "declared_prefix") 344, val := PySem.Value.ref 126 }, { hash := PySem.PyData.keyHash P (PySem.Str.ofString "check_binding"), key := PySem.Value.str (PySem.Str.ofString "check_binding") 352, val := PySem.Value.ref 133 }, { hash := PySem.PyData.keyHash P (PySem.Str.ofString "Bindings"), key := PySem.Value.str (PySem.Str.ofString "Bindings") 459, val := PySem.Value.ref 207 }] 27 }
noncomputable def hd.o12_20 (_ : Params) : Obj := { cls := PySem.Value.none, data := PySem.Data.fields #[PySem.Value.int 2 0, PySem.Value.int 0 0, PySem.Value.ref 20, PySem.Value.int 7 0, PySem.Value.int 0 0, PySem.Value.ref 40, PySem.Value.int 13 0, PySem.Value.int 0 0, PySem.Value.ref 69, PySem.Value.int 20 0, PySem.Value.int 0 0, PySem.Value.ref 76, PySem.Value.int 22 0, PySem.Value.int 0 0, PySem.Value.ref 83, PySem.Value.int 26 0, PySem.Value.int 0 0, PySem.Value.ref 90, PySem.Value.int 32 0, PySem.Value.int 0 0, PySem.Value.ref 97, PySem.Value.int 37 0, PySem.Value.int 0 0, PySem.Value.ref 104, PySem.Value.int 39 0, PySem.Value.int 0 0, PySem.Value.ref 111, PySem.Value.int 41 0, PySem.Value.int 0 0, PySem.Value.ref 118, PySem.Value.int 54 0, PySem.Value.int 0 0, PySem.Value.ref 125, PySem.Value.int 62 0, PySem.Value.int 0 0, PySem.Value.ref 132, PySem.Value.int 76 0, PySem.Value.int 0 0, PySem.Value.ref 139] }
noncomputable def hd.o12_0 (_ : Params) : Obj := { cls := PySem.Value.none, data := PySem.Data.fields #[] }
noncomputable def hd.o12_31 (_ : Params) : Obj := { cls := PySem.Value.none, data := PySem.Data.fields #[PySem.Value.int 2 0, PySem.Value.int 0 0, PySem.Value.ref 20, PySem.Value.int 7 0, PySem.Value.int 0 0, PySem.Value.ref 40, PySem.Value.int 13 0, PySem.Value.int 0 0, PySem.Value.ref 69, PySem.Value.int 20 0, PySem.Value.int 0 0, PySem.Value.ref 76, PySem.Value.int 22 0, PySem.Value.int 0 0, PySem.Value.ref 83, PySem.Value.int 26 0, PySem.Value.int 0 0, PySem.Value.ref 90, PySem.Value.int 32 0, PySem.Value.int 0 0, PySem.Value.ref 97, PySem.Value.int 37 0, PySem.Value.int 0 0, PySem.Value.ref 104, PySem.Value.int 39 0, PySem.Value.int 0 0, PySem.Value.ref 111, PySem.Value.int 41 0, PySem.Value.int 0 0, PySem.Value.ref 118, PySem.Value.int 54 0, PySem.Value.int 0 0, PySem.Value.ref 125, PySem.Value.int 62 0, PySem.Value.int 0 0, PySem.Value.ref 132, PySem.Value.int 76 0, PySem.Value.int 0 0, PySem.Value.ref 139, PySem.Value.int 144 0, PySem.Value.int 0 0, PySem.Value.ref 217, PySem.Value.int 149 0, PySem.Value.int 0 0, PySem.Value.ref 224, PySem.Value.int 156 0, PySem.Value.int 0 0, PySem.Value.ref 231, PySem.Value.int 158 0, PySem.Value.int 0 0, PySem.Value.ref 238, PySem.Value.int 163 0, PySem.Value.int 0 0, PySem.Value.ref 245, PySem.Value.int 168 0, PySem.Value.int 0 0, PySem.Value.ref 250, PySem.Value.int 182 0, PySem.Value.int 0 0, PySem.Value.ref 257, PySem.Value.int 187 0, PySem.Value.int 0 0, PySem.Value.ref 262, PySem.Value.int 201 0, PySem.Value.int 0 0, PySem.Value.ref 267, PySem.Value.int 217 0, PySem.Value.int 0 0, PySem.Value.ref 274] }
def pickO (i : Nat) (l : List (Nat × Obj)) : Obj := l.foldr (fun q r => bif Nat.beq q.1 i then q.2 else r) default
noncomputable def obK (P : Params) (i : Nat) : Obj := pickO i (hd.heap_39 P)
noncomputable def obR (P : Params) (i : Nat) : Obj := pickO i (hd.rest P)
noncomputable def hd.h_0 (P : Params) : Heap := Heap.mk (Array.mk (boot_o_0 P :: boot_o_1 P :: boot_o_2 P :: boot_o_3 P :: boot_o_4 P :: boot_o_5 P :: boot_o_6 P :: boot_o_7 P :: boot_o_8 P :: boot_o_9 P :: boot_o_10 P :: obR P (nat_lit 11) :: hd.o12_0 P :: obR P (nat_lit 13) :: obR P (nat_lit 14) :: [])) (boot_heap P).life
noncomputable def hd.t_0 (P : Params) : BT := (.node (boot_o_0 P) (.node (boot_o_1 P) (.node (boot_o_3 P) (.node (boot_o_7 P) .nil .nil) (.node (obR P (nat_lit 11)) .nil .nil)) (.node (boot_o_5 P) (.node (boot_o_9 P) .nil .nil) (.node (obR P (nat_lit 13)) .nil .nil))) (.node (boot_o_2 P) (.node (boot_o_4 P) (.node (boot_o_8 P) .nil .nil) (.node (hd.o12_0 P) .nil .nil)) (.node (boot_o_6 P) (.node (boot_o_10 P) .nil .nil) (.node (obR P (nat_lit 14)) .nil .nil))))
noncomputable def hd.t_1 (P : Params) : BT := (.node (boot_o_0 P) (.node (boot_o_1 P) (.node (hd.o3_1 P) (.node (boot_o_7 P) (.node (obK P (nat_lit 15)) (.node (hd.o31_1 P) .nil .nil) .nil) (.node (obR P (nat_lit 23)) .nil .nil)) (.node (obR P (nat_lit 11)) (.node (obR P (nat_lit 19)) .nil .nil) (.node (obK P (nat_lit 27)) .nil .nil))) (.node (boot_o_5 P) (.node (boot_o_9 P) (.node (obR P (nat_lit 17)) (.node (obR P (nat_lit 33)) .nil .nil) .nil) (.node (obK P (nat_lit 25)) .nil .nil)) (.node (obR P (nat_lit 13)) (.node (obR P (nat_lit 21)) .nil .nil) (.node (obK P (nat_lit 29)) .nil .nil)))) (.node (obK P (nat_lit 2)) (.node (boot_o_4 P) (.node (boot_o_8 P) (.node (obR P (nat_lit 16)) (.node (obK P (nat_lit 32)) .nil .nil) .nil) (.node (obK P (nat_lit 24)) .nil .nil)) (.node (hd.o12_1 P) (.node (obR P (nat_lit 20)) .nil .nil) (.node (obK P (nat_lit 28)) .nil .nil))) (.node (boot_o_6 P) (.node (boot_o_10 P) (.node (obR P (nat_lit 18)) (.node (obR P (nat_lit 34)) .nil .nil) .nil) (.node (obR P (nat_lit 26)) .nil .nil)) (.node (obR P (nat_lit 14)) (.node (obK P (nat_lit 22)) .nil .nil) (.node (obK P (nat_lit 30)) .nil .nil)))))
noncomputable def hd.t_2 (P : Params) : BT := (.node (boot_o_0 P) (.node (boot_o_1 P) (.node (hd.o3_2 P) (.node (boot_o_7 P) (.node (obK P (nat_lit 15)) (.node (obK P (nat_lit 31)) .nil .nil) .nil) (.node (obR P (nat_lit 23)) (.node (obR P (nat_lit 39)) .nil .nil) .nil)) (.node (obR P (nat_lit 11)) (.node (obR P (nat_lit 19)) (.node (obK P (nat_lit 35)) .nil .nil) .nil) (.node (obK P (nat_lit 27)) (.node (obK P (nat_lit 43)) .nil .nil) .nil))) (.node (boot_o_5 P) (.node (boot_o_9 P) (.node (obR P (nat_lit 17)) (.node (obR P (nat_lit 33)) .nil .nil) .nil) (.node (obK P (nat_lit 25)) (.node (obR P (nat_lit 41)) .nil .nil) .nil)) (.node (obR P (nat_lit 13)) (.node (obR P (nat_lit 21)) (.node (obR P (nat_lit 37)) .nil .nil) .nil) (.node (obK P (nat_lit 29)) (.node (obR P (nat_lit 45)) .nil .nil) .nil)))) (.node (obK P (nat_lit 2)) (.node (boot_o_4 P) (.node (boot_o_8 P) (.node (obR P (nat_lit 16)) (.node (obK P (nat_lit 32)) .nil .nil) .nil) (.node (obK P (nat_lit 24)) (.node (obR P (nat_lit 40)) .nil .nil) .nil)) (.node (hd.o12_2 P) (.node (obR P (nat_lit 20)) (.node (obR P (nat_lit 36)) .nil .nil) .nil) (.node (obK P (nat_lit 28)) (.node (obK P (nat_lit 44)) .nil .nil) .nil))) (.node (boot_o_6 P) (.node (boot_o_10 P) (.node (obR P (nat_lit 18)) (.node (obR P (nat_lit 34)) .nil .nil) .nil) (.node (obR P (nat_lit 26)) (.node (obK P (nat_lit 42)) .nil .nil) .nil)) (.node (obR P (nat_lit 14)) (.node (obK P (nat_lit 22)) (.node (obR P (nat_lit 38)) .nil .nil) .nil) (.node (obK P (nat_lit 30)) (.node (obR P (nat_lit 46)) .nil .nil) .nil)))))
noncomputable def hd.t_19 (P : Params) : BT := (.node (boot_o_0 P) (.node (boot_o_1 P) (.node (hd.o3_19 P) (.node (boot_o_7 P) (.node (obK P (nat_lit 15)) (.node (obK P (nat_lit 31)) (.node (obK P (nat_lit 63)) (.node (obK P (nat_lit 127)) .nil .nil) .nil) (.node (obK P (nat_lit 95)) .nil .nil)) (.node (obK P (nat_lit 47)) (.node (obR P (nat_lit 79)) .nil .nil) (.node (obK P (nat_lit 111)) .nil .nil))) (.node (obR P (nat_lit 23)) (.node (obR P (nat_lit 39)) (.node (obK P (nat_lit 71)) .nil .nil) (.node (obR P (nat_lit 103)) .nil .nil)) (.node (obK P (nat_lit 55)) (.node (obK P (nat_lit 87)) .nil .nil) (.node (obK P (nat_lit 119)) .nil .nil)))) (.node (obR P (nat_lit 11)) (.node (obR P (nat_lit 19)) (.node (obK P (nat_lit 35)) (.node (obK P (nat_lit 67)) (.node (obR P (nat_lit 131)) .nil .nil) .nil) (.node (obK P (nat_lit 99)) .nil .nil)) (.node (obK P (nat_lit 51)) (.node (obK P (nat_lit 83)) .nil .nil) (.node (obK P (nat_lit 115)) .nil .nil))) (.node (obK P (nat_lit 27)) (.node (obK P (nat_lit 43)) (.node (obR P (nat_lit 75)) .nil .nil) (.node (obR P (nat_lit 107)) .nil .nil)) (.node (obK P (nat_lit 59)) (.node (obK P (nat_lit 91)) .nil .nil) (.node (obK P (nat_lit 123)) .nil .nil))))) (.node (boot_o_5 P) (.node (boot_o_9 P) (.node (obR P (nat_lit 17)) (.node (obR P (nat_lit 33)) (.node (obR P (nat_lit 65)) (.node (obK P (nat_lit 129)) .nil .nil) .nil) (.node (obK P (nat_lit 97)) .nil .nil)) (.node (obK P (nat_lit 49)) (.node (obK P (nat_lit 81)) .nil .nil) (.node (obK P (nat_lit 113)) .nil .nil))) (.node (obK P (nat_lit 25)) (.node (obR P (nat_lit 41)) (.node (obK P (nat_lit 73)) .nil .nil) (.node (obK P (nat_lit 105)) .nil .nil)) (.node (obK P (nat_lit 57)) (.node (obR P (nat_lit 89)) .nil .nil) (.node (obR P (nat_lit 121)) .nil .nil)))) (.node (obR P (nat_lit 13)) (.node (obR P (nat_lit 21)) (.node (obR P (nat_lit 37)) (.node (obK P (nat_lit 69)) (.node (obK P (nat_lit 133)) .nil .nil) .nil) (.node (obK P (nat_lit 101)) .nil .nil)) (.node (obK P (nat_lit 53)) (.node (obK P (nat_lit 85)) .nil .nil) (.node (obR P (nat_lit 117)) .nil .nil))) (.node (obK P (nat_lit 29)) (.node (obR P (nat_lit 45)) (.node (obK P (nat_lit 77)) .nil .nil) (.node (obK P (nat_lit 109)) .nil .nil)) (.node (obK P (nat_lit 61)) (.node (obR P (nat_lit 93)) .nil .nil) (.node (obK P (nat_lit 125)) .nil .nil)))))) (.node (obK P (nat_lit 2)) (.node (boot_o_4 P) (.node (boot_o_8 P) (.node (obR P (nat_lit 16)) (.node (obK P (nat_lit 32)) (.node (obK P (nat_lit 64)) (.node (obR P (nat_lit 128)) .nil .nil) .nil) (.node (obR P (nat_lit 96)) .nil .nil)) (.node (obK P (nat_lit 48)) (.node (obK P (nat_lit 80)) .nil .nil) (.node (obK P (nat_lit 112)) .nil .nil))) (.node (obK P (nat_lit 24)) (.node (obR P (nat_lit 40)) (.node (obR P (nat_lit 72)) .nil .nil) (.node (obK P (nat_lit 104)) .nil .nil)) (.node (obK P (nat_lit 56)) (.node (obK P (nat_lit 88)) .nil .nil) (.node (obK P (nat_lit 120)) .nil .nil)))) (.node (hd.o12_19 P) (.node (obR P (nat_lit 20)) (.node (obR P (nat_lit 36)) (.node (obR P (nat_lit 68)) (.node (obK P (nat_lit 132)) .nil .nil) .nil) (.node (obR P (nat_lit 100)) .nil .nil)) (.node (obK P (nat_lit 52)) (.node (obK P (nat_lit 84)) .nil .nil) (.node (obK P (nat_lit 116)) .nil .nil))) (.node (obK P (nat_lit 28)) (.node (obK P (nat_lit 44)) (.node (obK P (nat_lit 76)) .nil .nil) (.node (obK P (nat_lit 108)) .nil .nil)) (.node (obK P (nat_lit 60)) (.node (obK P (nat_lit 92)) .nil .nil) (.node (obR P (nat_lit 124)) .nil .nil))))) (.node (boot_o_6 P) (.node (boot_o_10 P) (.node (obR P (nat_lit 18)) (.node (obR P (nat_lit 34)) (.node (obK P (nat_lit 66)) (.node (obK P (nat_lit 130)) .nil .nil) .nil) (.node (obK P (nat_lit 98)) .nil .nil)) (.node (obK P (nat_lit 50)) (.node (obR P (nat_lit 82)) .nil .nil) (.node (obR P (nat_lit 114)) .nil .nil))) (.node (obR P (nat_lit 26)) (.node (obK P (nat_lit 42)) (.node (obK P (nat_lit 74)) .nil .nil) (.node (obK P (nat_lit 106)) .nil .nil)) (.node (obK P (nat_lit 58)) (.node (obK P (nat_lit 90)) .nil .nil) (.node (obK P (nat_lit 122)) .nil .nil)))) (.node (obR P (nat_lit 14)) (.node (obK P (nat_lit 22)) (.node (obR P (nat_lit 38)) (.node (obK P (nat_lit 70)) .nil .nil) (.node (obK P (nat_lit 102)) .nil .nil)) (.node (obK P (nat_lit 54)) (.node (obR P (nat_lit 86)) .nil .nil) (.node (obK P (nat_lit 118)) .nil .nil))) (.node (obK P (nat_lit 30)) (.node (obR P (nat_lit 46)) (.node (obK P (nat_lit 78)) .nil .nil) (.node (obR P (nat_lit 110)) .nil .nil)) (.node (obK P (nat_lit 62)) (.node (obK P (nat_lit 94)) .nil .nil) (.node (obK P (nat_lit 126)) .nil .nil)))))))
noncomputable def hd.t_20 (P : Params) : BT := (.node (boot_o_0 P) (.node (boot_o_1 P) (.node (hd.o3_20 P) (.node (boot_o_7 P) (.node (obK P (nat_lit 15)) (.node (obK P (nat_lit 31)) (.node (obK P (nat_lit 63)) (.node (obK P (nat_lit 127)) .nil .nil) (.node (obK P (nat_lit 191)) .nil .nil)) (.node (obK P (nat_lit 95)) (.node (obR P (nat_lit 159)) .nil .nil) .nil)) (.node (obK P (nat_lit 47)) (.node (obR P (nat_lit 79)) (.node (obK P (nat_lit 143)) .nil .nil) (.node (obK P (nat_lit 207)) .nil .nil)) (.node (obK P (nat_lit 111)) (.node (obK P (nat_lit 175)) .nil .nil) .nil))) (.node (obR P (nat_lit 23)) (.node (obR P (nat_lit 39)) (.node (obK P (nat_lit 71)) (.node (obR P (nat_lit 135)) .nil .nil) (.node (obR P (nat_lit 199)) .nil .nil)) (.node (obR P (nat_lit 103)) (.node (obK P (nat_lit 167)) .nil .nil) .nil)) (.node (obK P (nat_lit 55)) (.node (obK P (nat_lit 87)) (.node (obK P (nat_lit 151)) .nil .nil) .nil) (.node (obK P (nat_lit 119)) (.node (obK P (nat_lit 183)) .nil .nil) .nil)))) (.node (obR P (nat_lit 11)) (.node (obR P (nat_lit 19)) (.node (obK P (nat_lit 35)) (.node (obK P (nat_lit 67)) (.node (obR P (nat_lit 131)) .nil .nil) (.node (obR P (nat_lit 195)) .nil .nil)) (.node (obK P (nat_lit 99)) (.node (obR P (nat_lit 163)) .nil .nil) .nil)) (.node (obK P (nat_lit 51)) (.node (obK P (nat_lit 83)) (.node (obK P (nat_lit 147)) .nil .nil) (.node (obR P (nat_lit 211)) .nil .nil)) (.node (obK P (nat_lit 115)) (.node (obK P (nat_lit 179)) .nil .nil) .nil))) (.node (obK P (nat_lit 27)) (.node (obK P (nat_lit 43)) (.node (obR P (nat_lit 75)) (.node (obR P (nat_lit 139)) .nil .nil) (.node (obK P (nat_lit 203)) .nil .nil)) (.node (obR P (nat_lit 107)) (.node (obK P (nat_lit 171)) .nil .nil) .nil)) (.node (obK P (nat_lit 59)) (.node (obK P (nat_lit 91)) (.node (obK P (nat_lit 155)) .nil .nil) .nil) (.node (obK P (nat_lit 123)) (.node (obK P (nat_lit 187)) .nil .nil) .nil))))) (.node (boot_o_5 P) (.node (boot_o_9 P) (.node (obR P (nat_lit 17)) (.node (obR P (nat_lit 33)) (.node (obR P (nat_lit 65)) (.node (obK P (nat_lit 129)) .nil .nil) (.node (obK P (nat_lit 193)) .nil .nil)) (.node (obK P (nat_lit 97)) (.node (obK P (nat_lit 161)) .nil .nil) .nil)) (.node (obK P (nat_lit 49)) (.node (obK P (nat_lit 81)) (.node (obR P (nat_lit 145)) .nil .nil) (.node (obK P (nat_lit 209)) .nil .nil)) (.node (obK P (nat_lit 113)) (.node (obR P (nat_lit 177)) .nil .nil) .nil))) (.node (obK P (nat_lit 25)) (.node (obR P (nat_lit 41)) (.node (obK P (nat_lit 73)) (.node (obR P (nat_lit 137)) .nil .nil) (.node (obK P (nat_lit 201)) .nil .nil)) (.node (obK P (nat_lit 105)) (.node (obK P (nat_lit 169)) .nil .nil) .nil)) (.node (obK P (nat_lit 57)) (.node (obR P (nat_lit 89)) (.node (obK P (nat_lit 153)) .nil .nil) .nil) (.node (obR P (nat_lit 121)) (.node (obR P (nat_lit 185)) .nil .nil) .nil)))) (.node (obR P (nat_lit 13)) (.node (obR P (nat_lit 21)) (.node (obR P (nat_lit 37)) (.node (obK P (nat_lit 69)) (.node (obK P (nat_lit 133)) .nil .nil) (.node (obK P (nat_lit 197)) .nil .nil)) (.node (obK P (nat_lit 101)) (.node (obK P (nat_lit 165)) .nil .nil) .nil)) (.node (obK P (nat_lit 53)) (.node (obK P (nat_lit 85)) (.node (obR P (nat_lit 149)) .nil .nil) .nil) (.node (obR P (nat_lit 117)) (.node (obK P (nat_lit 181)) .nil .nil) .nil))) (.node (obK P (nat_lit 29)) (.node (obR P (nat_lit 45)) (.node (obK P (nat_lit 77)) (.node (obK P (nat_lit 141)) .nil .nil) (.node (obK P (nat_lit 205)) .nil .nil)) (.node (obK P (nat_lit 109)) (.node (obR P (nat_lit 173)) .nil .nil) .nil)) (.node (obK P (nat_lit 61)) (.node (obR P (nat_lit 93)) (.node (obK P (nat_lit 157)) .nil .nil) .nil) (.node (obK P (nat_lit 125)) (.node (obK P (nat_lit 189)) .nil .nil) .nil)))))) (.node (obK P (nat_lit 2)) (.node (boot_o_4 P) (.node (boot_o_8 P) (.node (obR P (nat_lit 16)) (.node (obK P (nat_lit 32)) (.node (obK P (nat_lit 64)) (.node (obR P (nat_lit 128)) .nil .nil) (.node (obR P (nat_lit 192)) .nil .nil)) (.node (obR P (nat_lit 96)) (.node (obK P (nat_lit 160)) .nil .nil) .nil)) (.node (obK P (nat_lit 48)) (.node (obK P (nat_lit 80)) (.node (obK P (nat_lit 144)) .nil .nil) (.node (obK P (nat_lit 208)) .nil .nil)) (.node (obK P (nat_lit 112)) (.node (obK P (nat_lit 176)) .nil .nil) .nil))) (.node (obK P (nat_lit 24)) (.node (obR P (nat_lit 40)) (.node (obR P (nat_lit 72)) (.node (obR P (nat_lit 136)) .nil .nil) (.node (obK P (nat_lit 200)) .nil .nil)) (.node (obK P (nat_lit 104)) (.node (obK P (nat_lit 168)) .nil .nil) .nil)) (.node (obK P (nat_lit 56)) (.node (obK P (nat_lit 88)) (.node (obR P (nat_lit 152)) .nil .nil) .nil) (.node (obK P (nat_lit 120)) (.node (obK P (nat_lit 184)) .nil .nil) .nil)))) (.node (hd.o12_20 P) (.node (obR P (nat_lit 20)) (.node (obR P (nat_lit 36)) (.node (obR P (nat_lit 68)) (.node (obK P (nat_lit 132)) .nil .nil) (.node (obK P (nat_lit 196)) .nil .nil)) (.node (obR P (nat_lit 100)) (.node (obK P (nat_lit 164)) .nil .nil) .nil)) (.node (obK P (nat_lit 52)) (.node (obK P (nat_lit 84)) (.node (obK P (nat_lit 148)) .nil .nil) .nil) (.node (obK P (nat_lit 116)) (.node (obR P (nat_lit 180)) .nil .nil) .nil))) (.node (obK P (nat_lit 28)) (.node (obK P (nat_lit 44)) (.node (obK P (nat_lit 76)) (.node (obR P (nat_lit 140)) .nil .nil) (.node (obK P (nat_lit 204)) .nil .nil)) (.node (obK P (nat_lit 108)) (.node (obK P (nat_lit 172)) .nil .nil) .nil)) (.node (obK P (nat_lit 60)) (.node (obK P (nat_lit 92)) (.node (obR P (nat_lit 156)) .nil .nil) .nil) (.node (obR P (nat_lit 124)) (.node (obR P (nat_lit 188)) .nil .nil) .nil))))) (.node (boot_o_6 P) (.node (boot_o_10 P) (.node (obR P (nat_lit 18)) (.node (obR P (nat_lit 34)) (.node (obK P (nat_lit 66)) (.node (obK P (nat_lit 130)) .nil .nil) (.node (obK P (nat_lit 194)) .nil .nil)) (.node (obK P (nat_lit 98)) (.node (obK P (nat_lit 162)) .nil .nil) .nil)) (.node (obK P (nat_lit 50)) (.node (obR P (nat_lit 82)) (.node (obK P (nat_lit 146)) .nil .nil) (.node (obR P (nat_lit 210)) .nil .nil)) (.node (obR P (nat_lit 114)) (.node (obK P (nat_lit 178)) .nil .nil) .nil))) (.node (obR P (nat_lit 26)) (.node (obK P (nat_lit 42)) (.node (obK P (nat_lit 74)) (.node (obR P (nat_lit 138)) .nil .nil) (.node (obR P (nat_lit 202)) .nil .nil)) (.node (obK P (nat_lit 106)) (.node (obR P (nat_lit 170)) .nil .nil) .nil)) (.node (obK P (nat_lit 58)) (.node (obK P (nat_lit 90)) (.node (obK P (nat_lit 154)) .nil .nil) .nil) (.node (obK P (nat_lit 122)) (.node (obK P (nat_lit 186)) .nil .nil) .nil)))) (.node (obR P (nat_lit 14)) (.node (obK P (nat_lit 22)) (.node (obR P (nat_lit 38)) (.node (obK P (nat_lit 70)) (.node (obR P (nat_lit 134)) .nil .nil) (.node (obK P (nat_lit 198)) .nil .nil)) (.node (obK P (nat_lit 102)) (.node (obR P (nat_lit 166)) .nil .nil) .nil)) (.node (obK P (nat_lit 54)) (.node (obR P (nat_lit 86)) (.node (obK P (nat_lit 150)) .nil .nil) .nil) (.node (obK P (nat_lit 118)) (.node (obK P (nat_lit 182)) .nil .nil) .nil))) (.node (obK P (nat_lit 30)) (.node (obR P (nat_lit 46)) (.node (obK P (nat_lit 78)) (.node (obR P (nat_lit 142)) .nil .nil) (.node (obK P (nat_lit 206)) .nil .nil)) (.node (obR P (nat_lit 110)) (.node (obK P (nat_lit 174)) .nil .nil) .nil)) (.node (obK P (nat_lit 62)) (.node (obK P (nat_lit 94)) (.node (obK P (nat_lit 158)) .nil .nil) .nil) (.node (obK P (nat_lit 126)) (.node (obK P (nat_lit 190)) .nil .nil) .nil)))))))
noncomputable def hd.t_31 (P : Params) : BT := (.node (boot_o_0 P) (.node (boot_o_1 P) (.node (obK P (nat_lit 3)) (.node (boot_o_7 P) (.node (obK P (nat_lit 15)) (.node (obK P (nat_lit 31)) (.node (obK P (nat_lit 63)) (.node (obK P (nat_lit 127)) (.node (obK P (nat_lit 255)) .nil .nil) .nil) (.node (obK P (nat_lit 191)) .nil .nil)) (.node (obK P (nat_lit 95)) (.node (obR P (nat_lit 159)) .nil .nil) (.node (obR P (nat_lit 223)) .nil .nil))) (.node (obK P (nat_lit 47)) (.node (obR P (nat_lit 79)) (.node (obK P (nat_lit 143)) (.node (obK P (nat_lit 271)) .nil .nil) .nil) (.node (obK P (nat_lit 207)) .nil .nil)) (.node (obK P (nat_lit 111)) (.node (obK P (nat_lit 175)) .nil .nil) (.node (obK P (nat_lit 239)) .nil .nil)))) (.node (obR P (nat_lit 23)) (.node (obR P (nat_lit 39)) (.node (obK P (nat_lit 71)) (.node (obR P (nat_lit 135)) (.node (obK P (nat_lit 263)) .nil .nil) .nil) (.node (obR P (nat_lit 199)) .nil .nil)) (.node (obR P (nat_lit 103)) (.node (obK P (nat_lit 167)) .nil .nil) (.node (obK P (nat_lit 231)) .nil .nil))) (.node (obK P (nat_lit 55)) (.node (obK P (nat_lit 87)) (.node (obK P (nat_lit 151)) .nil .nil) (.node (obK P (nat_lit 215)) .nil .nil)) (.node (obK P (nat_lit 119)) (.node (obK P (nat_lit 183)) .nil .nil) (.node (obK P (nat_lit 247)) .nil .nil))))) (.node (obR P (nat_lit 11)) (.node (obR P (nat_lit 19)) (.node (obK P (nat_lit 35)) (.node (obK P (nat_lit 67)) (.node (obR P (nat_lit 131)) (.node (obK P (nat_lit 259)) .nil .nil) .nil) (.node (obR P (nat_lit 195)) .nil .nil)) (.node (obK P (nat_lit 99)) (.node (obR P (nat_lit 163)) .nil .nil) (.node (obR P (nat_lit 227)) .nil .nil))) (.node (obK P (nat_lit 51)) (.node (obK P (nat_lit 83)) (.node (obK P (nat_lit 147)) (.node (obK P (nat_lit 275)) .nil .nil) .nil) (.node (obR P (nat_lit 211)) .nil .nil)) (.node (obK P (nat_lit 115)) (.node (obK P (nat_lit 179)) .nil .nil) (.node (obK P (nat_lit 243)) .nil .nil)))) (.node (obK P (nat_lit 27)) (.node (obK P (nat_lit 43)) (.node (obR P (nat_lit 75)) (.node (obR P (nat_lit 139)) (.node (obK P (nat_lit 267)) .nil .nil) .nil) (.node (obK P (nat_lit 203)) .nil .nil)) (.node (obR P (nat_lit 107)) (.node (obK P (nat_lit 171)) .nil .nil) (.node (obK P (nat_lit 235)) .nil .nil))) (.node (obK P (nat_lit 59)) (.node (obK P (nat_lit 91)) (.node (obK P (nat_lit 155)) .nil .nil) (.node (obK P (nat_lit 219)) .nil .nil)) (.node (obK P (nat_lit 123)) (.node (obK P (nat_lit 187)) .nil .nil) (.node (obK P (nat_lit 251)) .nil .nil)))))) (.node (boot_o_5 P) (.node (boot_o_9 P) (.node (obR P (nat_lit 17)) (.node (obR P (nat_lit 33)) (.node (obR P (nat_lit 65)) (.node (obK P (nat_lit 129)) (.node (obK P (nat_lit 257)) .nil .nil) .nil) (.node (obK P (nat_lit 193)) .nil .nil)) (.node (obK P (nat_lit 97)) (.node (obK P (nat_lit 161)) .nil .nil) (.node (obK P (nat_lit 225)) .nil .nil))) (.node (obK P (nat_lit 49)) (.node (obK P (nat_lit 81)) (.node (obR P (nat_lit 145)) (.node (obR P (nat_lit 273)) .nil .nil) .nil) (.node (obK P (nat_lit 209)) .nil .nil)) (.node (obK P (nat_lit 113)) (.node (obR P (nat_lit 177)) .nil .nil) (.node (obR P (nat_lit 241)) .nil .nil)))) (.node (obK P (nat_lit 25)) (.node (obR P (nat_lit 41)) (.node (obK P (nat_lit 73)) (.node (obR P (nat_lit 137)) (.node (obR P (nat_lit 265)) .nil .nil) .nil) (.node (obK P (nat_lit 201)) .nil .nil)) (.node (obK P (nat_lit 105)) (.node (obK P (nat_lit 169)) .nil .nil) (.node (obK P (nat_lit 233)) .nil .nil))) (.node (obK P (nat_lit 57)) (.node (obR P (nat_lit 89)) (.node (obK P (nat_lit 153)) .nil .nil) (.node (obK P (nat_lit 217)) .nil .nil)) (.node (obR P (nat_lit 121)) (.node (obR P (nat_lit 185)) .nil .nil) (.node (obR P (nat_lit 249)) .nil .nil))))) (.node (obR P (nat_lit 13)) (.node (obR P (nat_lit 21)) (.node (obR P (nat_lit 37)) (.node (obK P (nat_lit 69)) (.node (obK P (nat_lit 133)) (.node (obR P (nat_lit 261)) .nil .nil) .nil) (.node (obK P (nat_lit 197)) .nil .nil)) (.node (obK P (nat_lit 101)) (.node (obK P (nat_lit 165)) .nil .nil) (.node (obK P (nat_lit 229)) .nil .nil))) (.node (obK P (nat_lit 53)) (.node (obK P (nat_lit 85)) (.node (obR P (nat_lit 149)) .nil .nil) (.node (obR P (nat_lit 213)) .nil .nil)) (.node (obR P (nat_lit 117)) (.node (obK P (nat_lit 181)) .nil .nil) (.node (obK P (nat_lit 245)) .nil .nil)))) (.node (obK P (nat_lit 29)) (.node (obR P (nat_lit 45)) (.node (obK P (nat_lit 77)) (.node (obK P (nat_lit 141)) (.node (obK P (nat_lit 269)) .nil .nil) .nil) (.node (obK P (nat_lit 205)) .nil .nil)) (.node (obK P (nat_lit 109)) (.node (obR P (nat_lit 173)) .nil .nil) (.node (obR P (nat_lit 237)) .nil .nil))) (.node (obK P (nat_lit 61)) (.node (obR P (nat_lit 93)) (.node (obK P (nat_lit 157)) .nil .nil) (.node (obK P (nat_lit 221)) .nil .nil)) (.node (obK P (nat_lit 125)) (.node (obK P (nat_lit 189)) .nil .nil) (.node (obR P (nat_lit 253)) .nil .nil))))))) (.node (obK P (nat_lit 2)) (.node (boot_o_4 P) (.node (boot_o_8 P) (.node (obR P (nat_lit 16)) (.node (obK P (nat_lit 32)) (.node (obK P (nat_lit 64)) (.node (obR P (nat_lit 128)) (.node (obR P (nat_lit 256)) .nil .nil) .nil) (.node (obR P (nat_lit 192)) .nil .nil)) (.node (obR P (nat_lit 96)) (.node (obK P (nat_lit 160)) .nil .nil) (.node (obK P (nat_lit 224)) .nil .nil))) (.node (obK P (nat_lit 48)) (.node (obK P (nat_lit 80)) (.node (obK P (nat_lit 144)) (.node (obK P (nat_lit 272)) .nil .nil) .nil) (.node (obK P (nat_lit 208)) .nil .nil)) (.node (obK P (nat_lit 112)) (.node (obK P (nat_lit 176)) .nil .nil) (.node (obK P (nat_lit 240)) .nil .nil)))) (.node (obK P (nat_lit 24)) (.node (obR P (nat_lit 40)) (.node (obR P (nat_lit 72)) (.node (obR P (nat_lit 136)) (.node (obK P (nat_lit 264)) .nil .nil) .nil) (.node (obK P (nat_lit 200)) .nil .nil)) (.node (obK P (nat_lit 104)) (.node (obK P (nat_lit 168)) .nil .nil) (.node (obK P (nat_lit 232)) .nil .nil))) (.node (obK P (nat_lit 56)) (.node (obK P (nat_lit 88)) (.node (obR P (nat_lit 152)) .nil .nil) (.node (obR P (nat_lit 216)) .nil .nil)) (.node (obK P (nat_lit 120)) (.node (obK P (nat_lit 184)) .nil .nil) (.node (obR P (nat_lit 248)) .nil .nil))))) (.node (hd.o12_31 P) (.node (obR P (nat_lit 20)) (.node (obR P (nat_lit 36)) (.node (obR P (nat_lit 68)) (.node (obK P (nat_lit 132)) (.node (obR P (nat_lit 260)) .nil .nil) .nil) (.node (obK P (nat_lit 196)) .nil .nil)) (.node (obR P (nat_lit 100)) (.node (obK P (nat_lit 164)) .nil .nil) (.node (obK P (nat_lit 228)) .nil .nil))) (.node (obK P (nat_lit 52)) (.node (obK P (nat_lit 84)) (.node (obK P (nat_lit 148)) .nil .nil) (.node (obK P (nat_lit 212)) .nil .nil)) (.node (obK P (nat_lit 116)) (.node (obR P (nat_lit 180)) .nil .nil) (.node (obR P (nat_lit 244)) .nil .nil)))) (.node (obK P (nat_lit 28)) (.node (obK P (nat_lit 44)) (.node (obK P (nat_lit 76)) (.node (obR P (nat_lit 140)) (.node (obK P (nat_lit 268)) .nil .nil) .nil) (.node (obK P (nat_lit 204)) .nil .nil)) (.node (obK P (nat_lit 108)) (.node (obK P (nat_lit 172)) .nil .nil) (.node (obK P (nat_lit 236)) .nil .nil))) (.node (obK P (nat_lit 60)) (.node (obK P (nat_lit 92)) (.node (obR P (nat_lit 156)) .nil .nil) (.node (obR P (nat_lit 220)) .nil .nil)) (.node (obR P (nat_lit 124)) (.node (obR P (nat_lit 188)) .nil .nil) (.node (obK P (nat_lit 252)) .nil .nil)))))) (.node (boot_o_6 P) (.node (boot_o_10 P) (.node (obR P (nat_lit 18)) (.node (obR P (nat_lit 34)) (.node (obK P (nat_lit 66)) (.node (obK P (nat_lit 130)) (.node (obK P (nat_lit 258)) .nil .nil) .nil) (.node (obK P (nat_lit 194)) .nil .nil)) (.node (obK P (nat_lit 98)) (.node (obK P (nat_lit 162)) .nil .nil) (.node (obK P (nat_lit 226)) .nil .nil))) (.node (obK P (nat_lit 50)) (.node (obR P (nat_lit 82)) (.node (obK P (nat_lit 146)) (.node (obK P (nat_lit 274)) .nil .nil) .nil) (.node (obR P (nat_lit 210)) .nil .nil)) (.node (obR P (nat_lit 114)) (.node (obK P (nat_lit 178)) .nil .nil) (.node (obK P (nat_lit 242)) .nil .nil)))) (.node (obR P (nat_lit 26)) (.node (obK P (nat_lit 42)) (.node (obK P (nat_lit 74)) (.node (obR P (nat_lit 138)) (.node (obR P (nat_lit 266)) .nil .nil) .nil) (.node (obR P (nat_lit 202)) .nil .nil)) (.node (obK P (nat_lit 106)) (.node (obR P (nat_lit 170)) .nil .nil) (.node (obR P (nat_lit 234)) .nil .nil))) (.node (obK P (nat_lit 58)) (.node (obK P (nat_lit 90)) (.node (obK P (nat_lit 154)) .nil .nil) (.node (obK P (nat_lit 218)) .nil .nil)) (.node (obK P (nat_lit 122)) (.node (obK P (nat_lit 186)) .nil .nil) (.node (obK P (nat_lit 250)) .nil .nil))))) (.node (obR P (nat_lit 14)) (.node (obK P (nat_lit 22)) (.node (obR P (nat_lit 38)) (.node (obK P (nat_lit 70)) (.node (obR P (nat_lit 134)) (.node (obK P (nat_lit 262)) .nil .nil) .nil) (.node (obK P (nat_lit 198)) .nil .nil)) (.node (obK P (nat_lit 102)) (.node (obR P (nat_lit 166)) .nil .nil) (.node (obR P (nat_lit 230)) .nil .nil))) (.node (obK P (nat_lit 54)) (.node (obR P (nat_lit 86)) (.node (obK P (nat_lit 150)) .nil .nil) (.node (obK P (nat_lit 214)) .nil .nil)) (.node (obK P (nat_lit 118)) (.node (obK P (nat_lit 182)) .nil .nil) (.node (obK P (nat_lit 246)) .nil .nil)))) (.node (obK P (nat_lit 30)) (.node (obR P (nat_lit 46)) (.node (obK P (nat_lit 78)) (.node (obR P (nat_lit 142)) (.node (obR P (nat_lit 270)) .nil .nil) .nil) (.node (obK P (nat_lit 206)) .nil .nil)) (.node (obR P (nat_lit 110)) (.node (obK P (nat_lit 174)) .nil .nil) (.node (obK P (nat_lit 238)) .nil .nil))) (.node (obK P (nat_lit 62)) (.node (obK P (nat_lit 94)) (.node (obK P (nat_lit 158)) .nil .nil) (.node (obK P (nat_lit 222)) .nil .nil)) (.node (obK P (nat_lit 126)) (.node (obK P (nat_lit 190)) .nil .nil) (.node (obK P (nat_lit 254)) .nil .nil))))))))
noncomputable def hd.h_31 (P : Params) : Heap := absHeap (hd.t_31 P) 276 (boot_heap P).life
abbrev bodyT : List Stmt := behindTheImports PySem.Challenge.rw_nu0058_01.row.prog
noncomputable def envT : Env := { scope := (PySem.Challenge.rw_nu0058_01.row.prog).main.scope, locals := mainNs, globals := mainNs, cells := [], code := .ref 13, frame := some 14 }
abbrev frT : List Frame := [topFrame ⟨0, 0, 0, 0⟩]
noncomputable abbrev cT : Code := .body bodyT envT
noncomputable abbrev st_0 (w : World) (os : OsState) : Shared := ⟨hd.h_0 w.params, Array.mk [], boot_drawn, 187, os⟩
noncomputable abbrev stT_0 (w : World) (os : OsState) : SharedT := ⟨hd.t_0 w.params, 15, (boot_heap w.params).life, Array.mk [], boot_drawn, 187, os⟩
noncomputable abbrev stT_1 (w : World) (os : OsState) : SharedT := ⟨hd.t_1 w.params, 35, (boot_heap w.params).life, Array.mk [], boot_drawn, 218, os⟩
noncomputable abbrev stT_2 (w : World) (os : OsState) : SharedT := ⟨hd.t_2 w.params, 47, (boot_heap w.params).life, Array.mk [], boot_drawn, 234, os⟩
noncomputable abbrev stT_19 (w : World) (os : OsState) : SharedT := ⟨hd.t_19 w.params, 134, (boot_heap w.params).life, Array.mk [], boot_drawn, 353, os⟩
noncomputable abbrev stT_20 (w : World) (os : OsState) : SharedT := ⟨hd.t_20 w.params, 212, (boot_heap w.params).life, Array.mk [], boot_drawn, 460, os⟩
noncomputable abbrev stT_31 (w : World) (os : OsState) : SharedT := ⟨hd.t_31 w.params, 276, (boot_heap w.params).life, Array.mk [], boot_drawn, 550, os⟩
noncomputable abbrev st_b (w : World) (os : OsState) : Shared := ⟨boot_heap w.params, Array.mk [], boot_drawn, boot_toks, os⟩
noncomputable abbrev st_31 (w : World) (os : OsState) : Shared := ⟨hd.h_31 w.params, Array.mk [], boot_drawn, 550, os⟩
abbrev annT : Option Value := some (.ref 6)
theorem run_0 (w : World) (os : OsState) : topGo treeTable PySem.Challenge.rw_nu0058_01.row.prog w 11 annT 12 (st_b w os) (topStub PySem.Challenge.rw_nu0058_01.row.prog) = some (st_0 w os, ⟨denote treeTable cT, cT, ⟨0, 0, 0, 0⟩, frT⟩) := by kernel_rfl
theorem run_b (w : World) (os : OsState) : segRun treeTable PySem.Challenge.rw_nu0058_01.row.prog w 11 annT 1 1 (st_0 w os) (blockOf bodyT envT cT ⟨0, 0, 0, 0⟩ frT) = some (.next, (stT_0 w os).abs, cT, ⟨0, 0, 0, 0⟩) := by kernel_rfl
theorem run_1 (w : World) (os : OsState) : segRunT treeTable PySem.Challenge.rw_nu0058_01.row.prog w 11 annT 1 238 (stT_0 w os) (piecesOf (bodyT.take 2) envT cT ⟨0, 0, 0, 0⟩ frT) = some (.next, stT_1 w os, cT, ⟨2, 0, 6, 30⟩) := by kernel_rfl
theorem run_2 (w : World) (os : OsState) : segRunT treeTable PySem.Challenge.rw_nu0058_01.row.prog w 11 annT 1 214 (stT_1 w os) (piecesOf ((bodyT.drop 2).take 1) envT cT ⟨2, 0, 6, 30⟩ frT) = some (.next, stT_2 w os, cT, ⟨7, 0, 8, 8⟩) := by kernel_rfl
theorem run_19 (w : World) (os : OsState) : segRunT treeTable PySem.Challenge.rw_nu0058_01.row.prog w 11 annT 1 423 (stT_2 w os) (piecesOf ((bodyT.drop 3).take 17) envT cT ⟨7, 0, 8, 8⟩ frT) = some (.next, stT_19 w os, cT, ⟨62, 0, 75, 80⟩) := by kernel_rfl
theorem run_20 (w : World) (os : OsState) : segRunT treeTable PySem.Challenge.rw_nu0058_01.row.prog w 11 annT 1 494 (stT_19 w os) (piecesOf ((bodyT.drop 20).take 1) envT cT ⟨62, 0, 75, 80⟩ frT) = some (.next, stT_20 w os, cT, ⟨76, 0, 142, 20⟩) := by kernel_rfl
theorem run_31 (w : World) (os : OsState) : segRunT treeTable PySem.Challenge.rw_nu0058_01.row.prog w 11 annT 1 312 (stT_20 w os) (piecesOf (bodyT.drop 21) envT cT ⟨76, 0, 142, 20⟩ frT) = some (.next, stT_31 w os, cT, ⟨217, 0, 232, 15⟩) := by kernel_rfl
theorem run_f (w : World) (os : OsState) : topRun treeTable PySem.Challenge.rw_nu0058_01.row.prog w 11 annT 2 (stT_31 w os).abs ⟨doneF .next, cT, ⟨217, 0, 232, 15⟩, frT⟩ = some (st_31 w os) := by kernel_rfl
theorem body_cut {α : Type} (l : List α) : l.take 2 ++ ((l.drop 2).take 1 ++ ((l.drop 3).take 17 ++ ((l.drop 20).take 1 ++ (l.drop 21 ++ [])))) = l := by
  have e1 : (l.drop 20).take 1 ++ l.drop 21 = l.drop 20 := by rw [← List.drop_drop (i := 1) (j := 20)]; exact List.take_append_drop 1 _
  have e2 : (l.drop 3).take 17 ++ l.drop 20 = l.drop 3 := by rw [← List.drop_drop (i := 17) (j := 3)]; exact List.take_append_drop 17 _
  have e3 : (l.drop 2).take 1 ++ l.drop 3 = l.drop 2 := by rw [← List.drop_drop (i := 1) (j := 2)]; exact List.take_append_drop 1 _
  rw [List.append_nil, e1, e2, e3, List.take_append_drop]
theorem run_all (w : World) (os : OsState) : topRun treeTable PySem.Challenge.rw_nu0058_01.row.prog w 11 annT (12 + (1 + (238 + (214 + (423 + (494 + (312 + 2))))))) (st_b w os) (topStub PySem.Challenge.rw_nu0058_01.row.prog) = some (st_31 w os) := by
  have k := piece_app (env := envT) (q := ⟨0, 0, 0, 0⟩) (rest := []) (segRun_of (run_31 w os)) (piece_nil (run_f w os))
  have k := piece_app (segRun_of (run_20 w os)) k
  have k := piece_app (segRun_of (run_19 w os)) k
  have k := piece_app (segRun_of (run_2 w os)) k
  have k := piece_app (segRun_of (run_1 w os)) k
  rw [body_cut] at k
  exact go_top (run_0 w os) (piece_block (run_b w os) k)
theorem run_size (w : World) : ((boot_heap w.params).isNs mainGlobals && (Array.mk [] : Array GenState).size == 0, (boot_heap w.params).objs.size, (boot_heap w.params).nsMap mainGlobals "__annotations__") = (true, 11, annT) := by kernel_rfl
theorem look_1 (w : World) (os : OsState) : (staticsOk (importedModules (PySem.Challenge.rw_nu0058_01.row.prog).main.body) (boot_heap w.params) (hd.h_31 w.params) && namesBound PySem.Challenge.rw_nu0058_01.row.prog (hd.h_31 w.params) && gensDone (st_31 w os) && laidKept (boot_heap w.params) (hd.h_31 w.params)) = true := by kernel_rfl
theorem look_2 (w : World) (os : OsState) : openSeen hd.view_39 [] (importedModules (PySem.Challenge.rw_nu0058_01.row.prog).main.body) (fun s => xlAt hd.view_39 [] s && recOk (RowW.records PySem.Challenge.rw_nu0058_01.row.toRowW) s) true (st_31 w os) = openGood hd.view_39 [] := by kernel_rfl
theorem look_3 (w : World) (os : OsState) : Hook.obs (kmHook hd.heap_39 asK hkE [265, 260]) (st_31 w os) = Hook.val (kmHook hd.heap_39 asK hkE [265, 260]) w := by kernel_rfl
theorem leftN : LeftO PySem.Challenge.rw_nu0058_01.row.prog hd.view_39 [] (fun s => xlAt hd.view_39 [] s && recOk (RowW.records PySem.Challenge.rw_nu0058_01.row.toRowW) s) (Hook.obs (kmHook hd.heap_39 asK hkE [265, 260])) (Hook.val (kmHook hd.heap_39 asK hkE [265, 260])) 3478 :=
  LeftO.of_pieces (H₀ := boot_heap) (H₁ := hd.h_31) (gs₀ := Array.mk []) (gs₁ := Array.mk []) (d₀ := boot_drawn) (d₁ := boot_drawn) (k₀ := boot_toks) (k₁ := 550) (m₀ := 11) (ann := annT) (M := 12 + (1 + (238 + (214 + (423 + (494 + (312 + 2)))))))
    (boot_open (by kernel_rfl) (by decide) (fun s => by rfl)) run_size run_all (by decide) (fun w => funext fun os => looks_pair (look_1 w os) (looks_pair (look_2 w os) (look_3 w os)))
theorem saidN : PySem.Challenge.rw_nu0058_01.wellSaid = true := by
  unfold OpenLaw.wellSaid OpenRow.wellSaid OpenRow.partSaid looksOpen
  repeat' (with_reducible refine look_both ?_ ?_)
  all_goals decide +kernel
theorem hd {d : DefRec} {kwd : List (Str × PySem.Expr)} (hdef : defOf hd.view_39 PySem.Challenge.rw_nu0058_01.row.name = some (d, kwd)) (hp : PySem.Challenge.rw_nu0058_01.row.prog.theDef PySem.Challenge.rw_nu0058_01.row.name = some (d.params, d.body, d.scope))
    (hk : kwWritten? d.params.kwonlyargs d.params.kw_defaults = some kwd) (hw : PySem.Challenge.rw_nu0058_01.row.toRowW.promised)
    (call : WalkO hd.view_39 [] (XL hd.view_39 []) (Hook.says (kmHook hd.heap_39 asK hkE [265, 260])) PySem.Challenge.rw_nu0058_01.row.toRowW d kwd fun f vs => PySem.call f vs) : PySem.Challenge.rw_nu0058_01.Holds :=
  holds_law saidN fun said =>
    holds_open (q := hd.view_39) (loose := []) (Xt := fun s => xlAt hd.view_39 [] s && recOk (RowW.records PySem.Challenge.rw_nu0058_01.row.toRowW) s) (XP := XL hd.view_39 []) (Yf := Hook.obs (kmHook hd.heap_39 asK hkE [265, 260])) (Ya := Hook.val (kmHook hd.heap_39 asK hkE [265, 260])) (YP := Hook.says (kmHook hd.heap_39 asK hkE [265, 260])) (N := 3478)
      leftN (Hook.of (kmHook hd.heap_39 asK hkE [265, 260])) (Hook.keeps (kmHook hd.heap_39 asK hkE [265, 260])) (fun s e => xl_of s (Bool.and_eq_true_iff.mp e).1) XL.keeps hdef hp hk (fun s e => recFacts_of (Bool.and_eq_true_iff.mp e).2) (by rfl) said (by decide +kernel) ⟨rfl, rfl, rfl, rfl, rfl, by decide +kernel⟩ hw call
end Mine
open PySem.Calls PySem.Spec
set_option rowWalk.seconds 0
set_option compiler.extract_closed false
namespace Mine

theorem off_part00_base : True := by w_top off; trivial
/-- a goal laid aside: no line opens it -/
def Hold (p : Prop) : Prop := p
theorem hold {p : Prop} (h : Hold p) : p := h
def Sep (g h : Heap) (news : List (Addr × Obj)) : Prop := ∀ p ∈ news, h.get? p.1 = some p.2 ∧ g.get? p.1 = none
theorem Sep.nil {g h : Heap} : Sep g h [] := fun _ hp => nomatch hp
theorem News.sep {g h : Heap} {L : Addr} {news : List (Addr × Obj)} (N : News g L h news) : Sep g h news := fun p hp => ⟨(N p hp).1, (N p hp).2.2⟩
abbrev Ar (dp un : Nat) (gd : Option (List Code)) (outer : List Env) : Around := { handled := none, depth := dp, frames := some outer, guards := gd, units := un }
abbrev tupO (vs : List Value) (n : Nat) : Obj := { cls := .type "tuple", data := .seq vs.toArray n }

section
variable {prog : Program} {w : World} {A : Around} {s : Shared} {base g : Heap} {outer : List Env} {news : List (Addr × Obj)} {K : Frag} {p : Program} {loose : List Str} {mean : ExcName → Option Value} {mg mb : Str → Option Value}
  {R : Result → Shared → Prop} {name qual : Str} {params : Arguments} {body : List Stmt} {scope : Scope} {cl : List (Str × Addr)} {dV kV doc pm cdv ct oc : Value} {an od : Option Addr} {osl : Array (Option Value)} {f : Addr} {args : Args} {binds : List (Str × Value)}

theorem enterS (B : Below A base outer g) (X : K.In g) (T : Top p loose mean mg mb g) (st : g.StaysIn s.heap) (sz : g.objs.size ≤ s.heap.objs.size) (N : Sep g s.heap news)
    (ho : K.lookup f = some ⟨oc, od, .func (fnX name qual params body scope [] dV kV doc pm an cdv ct), osl⟩) (hcd : codeIn K cdv qual = true) (hroom : A.depth < recursionLimit)
    (hbind : BindsTo s (fnX name qual params body scope [] dV kV doc pm an cdv ct) args binds) (hloc : ∀ y ∈ binds, scope.names.lookup y.1 = some .local)
    (h : ∀ L' h₁, Fr g L' h₁ (fun y => binds.reverse.lookup y) → News g L' h₁ news → (∀ p ∈ news, p.1 < L') →
      wpAny (model prog w) (A.deeper (envOf qual scope L' f cdv)) (execs body (envOf qual scope L' f cdv))
        (fun fl s' => R (.ok (.ret (match fl with | .ret v => v | _ => .none))) s')
        (fun e s' => wpAny (model prog w) (A.deeper (envOf qual scope L' f cdv)) (leaving (envOf qual scope L' f cdv) e) (fun _ s'' => R (.error e) s'') (fun e' s'' => R (.error e') s'') s')
        { s with heap := h₁, toks := s.toks + binds.length })
    (hcell : ∀ x ∈ scope.names, x.2 ≠ .cell) (hco : scope.isCoroutine = false := by rfl) (hgen : scope.isGenerator = false := by rfl) (hk : scope.kind = .function := by rfl) : codeAny (model prog w) A (.call (.ref f) args) R s := by
  have _ := B.stack
  have X' : K.In s.heap := X.keeps st
  refine codeAny_call_def (fd := fnX name qual params body scope [] dV kV doc pm an cdv ct) (body := body) (binds := binds) hroom (X' _ _ ho) rfl (T.nolimit.keeps st) (codeRec_of X' hcd) rfl hbind hcell hloc (fun h₁ hns hk₁ => ?_) hco hgen hk
  exact h s.heap.objs.size h₁ ⟨hns, fun b o e => hk₁ b o (st b o e), sz⟩ (fun p hp => ⟨hk₁ _ _ (N p hp).1, Nat.ne_of_lt (Heap.lt_size (N p hp).1), (N p hp).2⟩) (fun p hp => Heap.lt_size (N p hp).1)
end

/-- the addresses of the frames of a stack -/
abbrev frs (outer : List Env) : List Addr := outer.filterMap (·.frame)
/-- the ground of a call: a virtual base g below the heap, and base: g without the frames -/
structure Gd (w : World) (p : Program) (loose : List Str) (mean : ExcName → Option Value) (mg mb : Str → Option Value) (lvl dp un : Nat) (gd : Option (List Code)) (outer : List Env) (base g : Heap) (s : Shared) : Prop where
  B : Below (Ar dp un gd outer) base outer g
  XB : (hd.heap_39 w.params).In base
  TB : Top p loose mean mg mb base
  full : ∀ b o, g.get? b = some o → b ∉ frs outer → base.get? b = some o
  st : g.StaysIn s.heap
  sz : g.objs.size ≤ s.heap.objs.size
  dp : dp + lvl < recursionLimit
  un : un + 16 * lvl + 100 < cLine

def PureC (lvl : Nat) (f : Addr) (args : List Value) (v : Value) : Prop :=
  ∀ (w : World) (p : Program) (loose : List Str) (mean : ExcName → Option Value) (mg mb : Str → Option Value) (dp un : Nat) (gd : Option (List Code)) (outer : List Env) (base g : Heap) (s : Shared) (R : Result → Shared → Prop),
    Gd w p loose mean mg mb lvl dp un gd outer base g s → (∀ tk h', g.StaysIn h' → R (.ok (.ret v)) { s with heap := h', toks := tk }) →
    codeAny (model PySem.Challenge.rw_nu0058_01.row.prog w) (Ar dp un gd outer) (.call (.ref f) ⟨args, []⟩) R s

section
variable {w : World} {p : Program} {loose : List Str} {mean : ExcName → Option Value} {mg mb : Str → Option Value} {lvl dp un : Nat} {gd : Option (List Code)} {outer : List Env} {A₀ : Around} {base h₀ : Heap} {s : Shared}
  {L : Addr} {m : Str → Option Value} {env : Env} {news : List (Addr × Obj)} {f : Addr} {args : List Value} {v : Value} {Q E : Value → Shared → Prop}

theorem get_hideAll_of {g : Heap} {as : List Addr} {b : Addr} {o : Obj} (e : (hideAll g as).get? b = some o) : g.get? b = some o ∧ b ∉ as :=
  ⟨of_hideAll _ e, fun q => by rw [hideAll_none _ q] at e; cases e⟩
/-- the base that a call from this frame stands on: all but S and the frames -/
abbrev subG (s : Shared) (S : List (Addr × Obj)) : Heap := hideAll s.heap (S.map (·.1))
abbrev subB (s : Shared) (S : List (Addr × Obj)) (env : Env) (outer : List Env) : Heap := hideAll (subG s S) (frs (env :: outer))
theorem Gd.sub {S : List (Addr × Obj)} (B : Below A₀ base outer h₀) (F : Fr h₀ L s.heap m) (N : News h₀ L s.heap news) (XB : (hd.heap_39 w.params).In base) (TB : Top p loose mean mg mb base) (hf : env.frame = some L) (hke : env.scope.kind = .function)
    (hS : ∀ q ∈ S, q ∈ news) (hdp : dp + lvl < recursionLimit) (hun : un + 16 * lvl + 100 < cLine) :
    Gd w p loose mean mg mb lvl dp un gd (env :: outer) (subB s S env outer) (subG s S) s ∧ Sep (subG s S) s.heap S ∧ base.StaysIn (subB s S env outer) := by
  have NS : News h₀ L s.heap S := fun q hq => N q (hS q hq)
  obtain ⟨FG, BG, st, _⟩ := groundX (R := fun _ _ => True) (A := Ar dp un gd (env :: outer)) B F NS rfl hf hke
  have hin : ∀ e ∈ (env :: outer), ∀ a, e.frame = some a → a ∈ frs (env :: outer) := fun e he a ha => List.mem_filterMap.mpr ⟨e, he, ha⟩
  have bs : base.StaysIn (subB s S env outer) := fun b o hb => hideAll_get _ (BG.stays b o hb) fun hm => by
    rw [(BG.frames.mem hm).1] at hb; cases hb
  refine ⟨⟨⟨rfl, fun b o e => of_hideAll _ e, funFrames_hide BG.frames hin⟩, XB.keeps bs, TB.keeps bs, fun b o e n => hideAll_get _ e n, fun b o e => of_hideAll _ e, Nat.le_of_eq (hideAll_size _ _), hdp, hun⟩, fun q hq => ⟨(N q (hS q hq)).1, hideAll_none _ (List.mem_map_of_mem hq)⟩, bs⟩
theorem Gd.X {g : Heap} (G : Gd w p loose mean mg mb lvl dp un gd outer base g s) : (hd.heap_39 w.params).In g := G.XB.keeps G.B.stays
theorem Gd.T {g : Heap} (G : Gd w p loose mean mg mb lvl dp un gd outer base g s) : Top p loose mean mg mb g := G.TB.keeps G.B.stays

theorem pure_call {A : Around} (hA : A = Ar dp un gd (env :: outer)) (C : PureC lvl f args v) (B : Below A₀ base outer h₀) (F : Fr h₀ L s.heap m) (N : News h₀ L s.heap news) (XB : (hd.heap_39 w.params).In base) (TB : Top p loose mean mg mb base) (hf : env.frame = some L) (hke : env.scope.kind = .function)
    (hdp : dp + lvl < recursionLimit) (hun : un + 16 * lvl + 100 < cLine) (h : ∀ tk h', Fr h₀ L h' m → News h₀ L h' news → Q v { s with heap := h', toks := tk }) :
    wpAny (model PySem.Challenge.rw_nu0058_01.row.prog w) A (call (.ref f) args) Q E s := by
  subst hA
  refine wpAny_call (C w p loose mean mg mb dp un gd (env :: outer) _ s.heap s _ (Gd.sub (S := []) B F N XB TB hf hke (fun _ h => nomatch h) hdp hun).1 fun tk h' hk => ?_)
  exact h tk h' (F.keeps hk) fun q hq => ⟨hk _ _ (N q hq).1, (N q hq).2⟩
end

theorem pure_end {g : Heap} {s : Shared} {R : Result → Shared → Prop} {v v' : Value} {tk : Nat} {h' : Heap} (hret : ∀ tk h', g.StaysIn h' → R (.ok (.ret v)) { s with heap := h', toks := tk }) (e : v' = v) (k : g.StaysIn h') :
    R (.ok (.ret v')) { s with heap := h', toks := tk } := e ▸ hret tk h' k

/-- a loop over a text whose body stores nothing else -/
theorem text_loop {prog : Program} {w : World} {A : Around} {E : Value → Shared → Prop} {s : Shared} {env : Env} {h₀ : Heap} {x : Str} {body : List Stmt} {Q : Flow → Shared → Prop} {xt : Str} {tx : Tok} {m₀ : Str → Option Value} {news : List (Addr × Obj)}
    (hh : A.handled = none) (F : Fr h₀ env.locals s.heap m₀) (N : News h₀ env.locals s.heap news)
    (turn : ∀ c t h tk own, c ∈ xt.cps.toList → Fr h₀ env.locals h (fun y => if y = x then some (.str ⟨#[c]⟩ t) else m₀ y) → News h₀ env.locals h (own ++ news) →
      wpAny (model prog w) A (execs body env) (TurnPost h₀ env.locals x [] m₀ (own ++ news) { s with heap := h, toks := tk } Q) E { s with heap := h, toks := tk })
    (done : ∀ (u : Str → Option Value) h tk, Fr h₀ env.locals h (fun y => if y = x then u y else m₀ y) → News h₀ env.locals h news → Q .next { s with heap := h, toks := tk }) :
    wpAny (model prog w) A (pyIter (.str xt tx)) (fun it s₂ => LoopAtV prog w A h₀ env x body Q E it s₂) E s := by
  refine wpAny_pyIter_str fun o St hW hst => ?_
  have W := hW A hh
  have e : ∀ (v : Value) (u : Str → Option Value), (fun y => if y = x then some v else if ([] : List Str).contains y then u y else m₀ y) = fun y => if y = x then some v else m₀ y := fun v u => by
    funext y; simp
  refine loop_at_law [] W ?_ ?_ ?_ hst (F.push _) (fun p hp => ⟨Heap.get?_push_of_some _ (N p hp).1, (N p hp).2⟩) ?_ ?_
  · intro hm
    exact absurd F.ns.lt ((List.mem_singleton.mp hm) ▸ Nat.lt_irrefl _)
  · intro b' hb
    rw [List.mem_singleton.mp hb]
    exact next_is_new F
  · intro p hp hI
    exact absurd (Heap.lt_size (N p hp).1) ((List.mem_singleton.mp hI) ▸ Nat.lt_irrefl _)
  · rintro i v u h tk own hi ⟨c, t, hc, rfl⟩ F₁ N₁
    rw [e] at F₁
    exact turn c t h tk own (by simpa using Array.mem_of_getElem? hc) F₁ N₁
  · intro u h tk F₁ N₁
    have e2 : (fun y => if y = x then u y else if ([] : List Str).contains y then u y else m₀ y) = fun y => if y = x then u y else m₀ y := by funext y; simp
    rw [e2] at F₁
    exact done u h tk F₁ N₁

/-- as PureC, the value up to its token -/
def PureT (lvl : Nat) (f : Addr) (args : List Value) (v : Tok → Value) : Prop :=
  ∀ (w : World) (p : Program) (loose : List Str) (mean : ExcName → Option Value) (mg mb : Str → Option Value) (dp un : Nat) (gd : Option (List Code)) (outer : List Env) (base g : Heap) (s : Shared) (R : Result → Shared → Prop),
    Gd w p loose mean mg mb lvl dp un gd outer base g s → (∀ t tk h', g.StaysIn h' → R (.ok (.ret (v t))) { s with heap := h', toks := tk }) →
    codeAny (model PySem.Challenge.rw_nu0058_01.row.prog w) (Ar dp un gd outer) (.call (.ref f) ⟨args, []⟩) R s
theorem pure_endT {g : Heap} {s : Shared} {R : Result → Shared → Prop} {v : Tok → Value} {v' : Value} {tk : Nat} {h' : Heap} (hret : ∀ t tk h', g.StaysIn h' → R (.ok (.ret (v t))) { s with heap := h', toks := tk }) (e : ∃ t, v' = v t) (k : g.StaysIn h') :
    R (.ok (.ret v')) { s with heap := h', toks := tk } := by obtain ⟨t, e⟩ := e; exact e ▸ hret t tk h' k

/-- a fresh tuple of two texts is handed back -/
def PairC (lvl : Nat) (f : Addr) (args : List Value) (x y : Str) : Prop :=
  ∀ (w : World) (p : Program) (loose : List Str) (mean : ExcName → Option Value) (mg mb : Str → Option Value) (dp un : Nat) (gd : Option (List Code)) (outer : List Env) (base g : Heap) (s : Shared) (R : Result → Shared → Prop),
    Gd w p loose mean mg mb lvl dp un gd outer base g s → (∀ r t u n tk h', g.StaysIn h' → Sep g h' [(r, tupO [.str x t, .str y u] n)] → R (.ok (.ret (.ref r))) { s with heap := h', toks := tk }) →
    codeAny (model PySem.Challenge.rw_nu0058_01.row.prog w) (Ar dp un gd outer) (.call (.ref f) ⟨args, []⟩) R s

section
variable {w : World} {p : Program} {loose : List Str} {mean : ExcName → Option Value} {mg mb : Str → Option Value} {lvl dp un : Nat} {gd : Option (List Code)} {outer : List Env} {A₀ : Around} {base h₀ : Heap} {s : Shared}
  {L : Addr} {m : Str → Option Value} {env : Env} {news : List (Addr × Obj)} {f : Addr} {args : List Value} {v : Tok → Value} {x y : Str} {Q E : Value → Shared → Prop}
theorem pure_callT {A : Around} (hA : A = Ar dp un gd (env :: outer)) (C : PureT lvl f args v) (B : Below A₀ base outer h₀) (F : Fr h₀ L s.heap m) (N : News h₀ L s.heap news) (XB : (hd.heap_39 w.params).In base) (TB : Top p loose mean mg mb base) (hf : env.frame = some L) (hke : env.scope.kind = .function)
    (hdp : dp + lvl < recursionLimit) (hun : un + 16 * lvl + 100 < cLine) (h : ∀ t tk h', Fr h₀ L h' m → News h₀ L h' news → Q (v t) { s with heap := h', toks := tk }) :
    wpAny (model PySem.Challenge.rw_nu0058_01.row.prog w) A (call (.ref f) args) Q E s := by
  subst hA
  refine wpAny_call (C w p loose mean mg mb dp un gd (env :: outer) _ s.heap s _ (Gd.sub (S := []) B F N XB TB hf hke (fun _ h => nomatch h) hdp hun).1 fun t tk h' hk => ?_)
  exact h t tk h' (F.keeps hk) fun q hq => ⟨hk _ _ (N q hq).1, (N q hq).2⟩

/-- what is new over the whole heap joins the ledger -/
theorem news_sep {h' : Heap} {S : List (Addr × Obj)} (F : Fr h₀ L s.heap m) (N : News h₀ L s.heap news) (hk : s.heap.StaysIn h') (hs : Sep s.heap h' S) :
    Fr h₀ L h' m ∧ News h₀ L h' (S ++ news) ∧ ∀ q ∈ S, ∀ r ∈ news, r.1 ≠ q.1 := by
  obtain ⟨oL, es, ep, hL, r⟩ := F.ns
  refine ⟨F.keeps hk, fun q hq => ?_, fun q hq r hr e => ?_⟩
  · rcases List.mem_append.mp hq with hq | hq
    · refine ⟨(hs q hq).1, fun e => ?_, ?_⟩
      · have := (hs q hq).2; rw [e, hL] at this; cases this
      · cases hz : h₀.get? q.1 with
        | none => rfl
        | some o => have := F.keep _ _ hz; rw [(hs q hq).2] at this; cases this
    · exact ⟨hk _ _ (N q hq).1, (N q hq).2⟩
  · have := (hs q hq).2
    rw [← e, (N r hr).1] at this; cases this
theorem pair_call {A : Around} (hA : A = Ar dp un gd (env :: outer)) (C : PairC lvl f args x y) (B : Below A₀ base outer h₀) (F : Fr h₀ L s.heap m) (N : News h₀ L s.heap news) (XB : (hd.heap_39 w.params).In base) (TB : Top p loose mean mg mb base) (hf : env.frame = some L) (hke : env.scope.kind = .function)
    (hdp : dp + lvl < recursionLimit) (hun : un + 16 * lvl + 100 < cLine) (h : ∀ r t u n tk h', Fr h₀ L h' m → News h₀ L h' ((r, tupO [.str x t, .str y u] n) :: news) → (∀ q ∈ news, q.1 ≠ r) → Q (.ref r) { s with heap := h', toks := tk }) :
    wpAny (model PySem.Challenge.rw_nu0058_01.row.prog w) A (call (.ref f) args) Q E s := by
  subst hA
  refine wpAny_call (C w p loose mean mg mb dp un gd (env :: outer) _ s.heap s _ (Gd.sub (S := []) B F N XB TB hf hke (fun _ h => nomatch h) hdp hun).1 fun r t u n tk h' hk hs => ?_)
  obtain ⟨F', N', ne⟩ := news_sep F N hk hs
  exact h r t u n tk h' F' N' fun q hq => ne _ (.head _) q hq
end

theorem sep_one {g h : Heap} {L : Addr} {news : List (Addr × Obj)} {r : Addr} {o : Obj} (N : News g L h news) (hm : (r, o) ∈ news) : Sep g h [(r, o)] := fun p hp => by
  rw [List.mem_singleton.mp hp]
  exact ⟨(N _ hm).1, (N _ hm).2.2⟩

theorem picks {α : Type} (l : List α) (n : Nat) : ∀ is : List Nat, ∀ q ∈ is.foldr (fun i r => (l.drop i).take 1 ++ r) (l.drop n), q ∈ l
  | [] => fun _ hq => List.mem_of_mem_drop hq
  | _ :: is => fun q hq => (List.mem_append.mp hq).elim (fun h => List.mem_of_mem_drop (List.mem_of_mem_take h)) (picks l n is q)
theorem sub_dec {i n : Nat} (h : i < n) : n + 1 - (i + 1) < n + 1 - i := by omega
theorem ne_lt {a d : Nat} {o : Obj} {c : Addr × Obj} {l : List (Addr × Obj)} (h : ∀ p ∈ c :: l, p.1 < d) (m : (a, o) ∈ c :: l) : @Ne Nat a d := Nat.ne_of_lt (h _ m)
theorem ne_ne {a d : Nat} {o : Obj} {c : Addr × Obj} {l : List (Addr × Obj)} (h : ∀ p ∈ c :: l, p.1 ≠ d) (m : (a, o) ∈ c :: l) : @Ne Nat a d := h _ m
theorem all_lt {d : Nat} {l : List (Addr × Obj)} (h : ∀ p ∈ l, p.1 < d) : ∀ p ∈ l, p.1 ≠ d := fun p m => Nat.ne_of_lt (h p m)
theorem lt_up {d : Nat} {l : List (Addr × Obj)} (h : ∀ p ∈ l, p.1 < d) : ∀ p ∈ l, p.1 < d + 1 := fun p m => Nat.lt_succ_of_lt (h p m)
theorem lt_cell {d : Nat} {o : Obj} {l : List (Addr × Obj)} (h : ∀ p ∈ l, p.1 < d) : ∀ p ∈ (d, o) :: l, p.1 < d + 1 := List.forall_mem_cons.mpr ⟨Nat.lt_succ_self _, lt_up h⟩
theorem apz {d : Nat} {Z : List (Addr × Obj)} {Bs : List Nat} (h : ∀ b ∈ Bs, ∀ p ∈ Z, p.1 ≠ b) (m : d ∈ Bs) : ∀ p ∈ Z, p.1 ≠ d := h d m
theorem tl_lt {d : Nat} {c : Addr × Obj} {l Z : List (Addr × Obj)} (h : ∀ p ∈ c :: l, p.1 < d) (s : ∀ q ∈ Z, q ∈ c :: l) : ∀ p ∈ Z, p.1 ≠ d := fun p m => Nat.ne_of_lt (h p (s p m))
theorem tl_ne {d : Nat} {c : Addr × Obj} {l Z : List (Addr × Obj)} (h : ∀ p ∈ c :: l, p.1 ≠ d) (s : ∀ q ∈ Z, q ∈ c :: l) : ∀ p ∈ Z, p.1 ≠ d := fun p m => h p (s p m)
theorem all_nil {d : Nat} : ∀ p ∈ ([] : List (Addr × Obj)), p.1 ≠ d := fun _ h => nomatch h
theorem all_cons {a d : Nat} {o : Obj} {l : List (Addr × Obj)} (h : @Ne Nat a d) (t : ∀ p ∈ l, p.1 ≠ d) : ∀ p ∈ (a, o) :: l, p.1 ≠ d := List.forall_mem_cons.mpr ⟨h, t⟩
theorem all_cons2 {a b d : Nat} {o o' : Obj} {l : List (Addr × Obj)} (h : @Ne Nat a d) (h' : @Ne Nat b d) (t : ∀ p ∈ l, p.1 ≠ d) : ∀ p ∈ (a, o) :: (b, o') :: l, p.1 ≠ d := all_cons h (all_cons h' t)
section
variable {d : Nat} {a b c e : Addr × Obj} {l : List (Addr × Obj)}
theorem tl1 (h : ∀ p ∈ a :: l, p.1 ≠ d) : ∀ p ∈ l, p.1 ≠ d := fun p m => h p (.tail _ m)
theorem tl2 (h : ∀ p ∈ a :: b :: l, p.1 ≠ d) : ∀ p ∈ l, p.1 ≠ d := tl1 (tl1 h)
theorem tl3 (h : ∀ p ∈ a :: b :: c :: l, p.1 ≠ d) : ∀ p ∈ l, p.1 ≠ d := tl1 (tl2 h)
theorem tl4 (h : ∀ p ∈ a :: b :: c :: e :: l, p.1 ≠ d) : ∀ p ∈ l, p.1 ≠ d := tl2 (tl2 h)
end
section
variable {α : Type} {a b c e f : α} {l : List α}
theorem mh0 : a ∈ a :: l := .head _
theorem mh1 : a ∈ b :: a :: l := .tail _ (.head _)
theorem mh2 : a ∈ b :: c :: a :: l := .tail _ mh1
theorem mh3 : a ∈ b :: c :: e :: a :: l := .tail _ mh2
theorem mh4 : a ∈ b :: c :: e :: f :: a :: l := .tail _ mh3
theorem mh5 {i : α} : a ∈ i :: b :: c :: e :: f :: a :: l := .tail _ mh4
theorem mh6 {i j : α} : a ∈ j :: i :: b :: c :: e :: f :: a :: l := .tail _ mh5
theorem mh7 {i j k : α} : a ∈ k :: j :: i :: b :: c :: e :: f :: a :: l := .tail _ mh6
theorem mt8 {i j k m : α} (h : a ∈ l) : a ∈ m :: k :: j :: i :: b :: c :: e :: f :: l := .tail _ (.tail _ (.tail _ (.tail _ (.tail _ (.tail _ (.tail _ (.tail _ h)))))))
theorem mt4 (h : a ∈ l) : a ∈ b :: c :: e :: f :: l := .tail _ (.tail _ (.tail _ (.tail _ h)))
theorem mt1 (h : a ∈ l) : a ∈ b :: l := .tail _ h
theorem mt2 (h : a ∈ l) : a ∈ b :: c :: l := .tail _ (.tail _ h)
theorem mt3 (h : a ∈ l) : a ∈ b :: c :: e :: l := .tail _ (.tail _ (.tail _ h))
end
theorem dp1 {d b c R : Nat} (h : d + b < R) (e : Nat.ble (1 + c) b = true) : d + 1 + c < R := by
  have := Nat.le_of_ble_eq_true e
  omega
theorem dp2 {d b c R : Nat} (h : d + b < R) (e : Nat.ble c b = true) : d + c < R := by
  have := Nat.le_of_ble_eq_true e
  omega
theorem dp0 {d b R : Nat} (h : d + b < R) : d < R := Nat.lt_of_le_of_lt (Nat.le_add_right _ _) h
theorem un1 {u b c R : Nat} (h : u + 16 * b + 100 < R) (e : Nat.ble (c + 1) b = true) : u + 3 + 16 * c + 100 < R := by
  have := Nat.le_of_ble_eq_true e
  omega
theorem un0 {u b c R : Nat} (h : u + 16 * b + 100 < R) (e : Nat.ble c b = true) : u + 16 * c + 100 < R := by
  have := Nat.le_of_ble_eq_true e
  omega
theorem un2 {u b c d R : Nat} (h : u + 16 * b + 100 < R) (e : Nat.ble (c + d) (16 * b + 100) = true) : u + c + d < R := by
  have := Nat.le_of_ble_eq_true e
  omega
theorem un3 {u b c R : Nat} (h : u + 16 * b + 100 < R) (e : Nat.ble c (16 * b + 100) = true) : u + c < R := by
  have := Nat.le_of_ble_eq_true e
  omega
/-- a call laid aside, known by its address -/
theorem hideT {α β : Type} {M : Model} {A : Around} {E : Value → Shared → Prop} {s : Shared} {c : Sem α} {d : Sem β} {Q : β → Shared → Prop} (h : ∀ (Q' : β → Shared → Prop), (∀ f s, Q f s → Q' f s) → wpAny M A c (fun _ s₃ => wpAny M A d Q' E s₃) E s) : wpAny M A c (fun _ s₃ => wpAny M A d Q E s₃) E s := h Q (fun _ _ x => x)
theorem cutE {M : Model} {A : Around} {E : Value → Shared → Prop} {s : Shared} {env : Env} {st : Stmt} {Q : Flow → Shared → Prop} (P : Shared → Prop) (h : wpAny M A (exec st env) (fun f s' => f = .next ∧ P s') E s) (k : ∀ s', P s' → Q .next s') : wpAny M A (exec st env) Q E s :=
  wpAny_mono h (fun _ s' ⟨e, x⟩ => e ▸ k s' x) fun _ _ e => e
theorem cutA {α : Type} {M : Model} {A : Around} {E : Value → Shared → Prop} {s : Shared} {c : Sem α} {Q : α → Shared → Prop} (P : α → Shared → Prop) (h : wpAny M A c P (fun _ _ => False) s) (k : ∀ v s', P v s' → Q v s') : wpAny M A c Q E s :=
  wpAny_mono h (fun v s' x => k v s' x) fun _ _ e => e.elim
theorem hold_at {M : Model} {A : Around} (n : Nat) {pos : List Value} {kw : List (Str × Value)} {Q E : Value → Shared → Prop} {s : Shared} (h : Hold (wpAny M A (call (.ref n) pos kw) Q E s)) : wpAny M A (call (.ref n) pos kw) Q E s := h
def AllNe (d : Nat) : List (Addr × Obj) → Prop
  | [] => True
  | p :: r => @Ne Nat p.1 d ∧ AllNe d r
theorem allNe_of {d : Addr} : ∀ {l : List (Addr × Obj)}, (∀ p ∈ l, p.1 ≠ d) → AllNe d l
  | [], _ => trivial
  | p :: _, h => ⟨h p (.head _), allNe_of fun q hq => h q (.tail _ hq)⟩
local macro_rules | `(tactic| k_room) => `(tactic| ((try dsimp only [Around.deeper, Around.in1, Around.mark, depth_deeper]); first | exact dp1 (by assumption) rfl | exact dp0 (by assumption) | exact dp2 (by assumption) rfl | decide | omega))
local macro_rules | `(tactic| k_units) => `(tactic| ((try dsimp only [Around.deeper, Around.in1, Around.mark]); first | exact un1 (by assumption) rfl | exact un2 (by assumption) rfl | exact un3 (by assumption) rfl | decide | omega))
local macro_rules | `(tactic| k_lt $h:ident) => `(tactic| skip)
local macro_rules | `(tactic| kfm_turns) => `(tactic| first | exact mh0 | exact mh1 | exact mh2 | exact mh3 | (refine' mt4 ?_; kfm_turns) | with_reducible assumption | exact mt1 (by with_reducible assumption) | exact mt2 (by with_reducible assumption) | exact mt3 (by with_reducible assumption))
local macro_rules | `(tactic| k_mem) => `(tactic| first | exact mh0 | exact mh1 | exact mh2 | exact mh3 | exact mh4 | exact mh5 | exact mh6 | exact mh7 | exact mt8 mh0 | exact mt8 mh1 | exact mt8 mh2 | exact mt8 mh3 | exact mt8 mh4 | exact mt8 mh5 | exact mt8 mh6 | exact mt8 mh7 | exact mt8 (mt8 mh0) | exact mt8 (mt8 mh1) | exact mt8 (mt8 mh2) | exact mt8 (mt8 mh3) | exact mt8 (mt8 mh4) | exact mt8 (mt8 mh5) | exact mt8 (mt8 mh6) | exact mt8 (mt8 mh7))
local macro_rules | `(tactic| kpc_turns) => `(tactic| first | with_reducible assumption | (refine' ne_lt (by with_reducible assumption) ?m; (case m => kfm_turns)) | (refine' ne_ne (by with_reducible assumption) ?m; (case m => kfm_turns)))
local macro_rules | `(tactic| kpt_turns) => `(tactic| first | kpc_turns | (refine Ne.symm ?_; kpc_turns) | assumption | (refine Ne.symm ?_; assumption))
local macro_rules | `(tactic| k_ne) => `(tactic| kpt_turns)
local macro_rules | `(tactic| keq_rows) => `(tactic| first | with_reducible assumption | exact all_lt (by with_reducible assumption))
local macro_rules | `(tactic| nest_cls) => `(tactic| first | exact all_nil | keq_rows | (refine' all_cons ?a ?b; (case a => kpt_turns); (case b => nest_cls)) | exact apz (by with_reducible assumption) (by kfm_turns) | (refine' tl_lt (by with_reducible assumption) ?s; (case s => (intro q hq; kfm_turns))) | (refine' tl_ne (by with_reducible assumption) ?s; (case s => (intro q hq; kfm_turns))) | assumption)
local macro_rules | `(tactic| k_all) => `(tactic| nest_cls)
local macro_rules | `(tactic| walk_at "FN") => `(tactic| (case F | N => k_asm))
local macro_rules | `(tactic| walk_at "yx") => `(tactic| ((case y => with_unfolding_all rfl); (case x => (intro _; with_unfolding_all rfl))))
local macro_rules | `(tactic| walk_at "c6") => `(tactic| ((case hA => exact rfl); (case k4 | k5 => k_asm); (case k6 | k7 => exact rfl); (case k8 => k_room); (case k9 => k_units)))
local macro_rules | `(tactic| walk_at "c9") => `(tactic| ((case k1 | k2 | k3 => k_asm); walk_at "c6"))
local macro_rules | `(tactic| walk_at "ce") => `(tactic| (k_whole; intros; (try dsimp only)))
local macro_rules | `(tactic| walk_at "cs") => `(tactic| (k_whole; intros; (try k_sweep); (try dsimp only)))
local macro_rules | `(tactic| walk_at "call ref") => `(tactic| ((with_reducible refine' pure_call ?hA ?kC ?k1 ?k2 ?k3 ?k4 ?k5 ?k6 ?k7 ?k8 ?k9 ?_); k_dflt ((case kC => walk_at "mine_pure"); walk_at "c9"; walk_at "cs")))
local macro_rules | `(tactic| walk_at "call ref") => `(tactic| ((with_reducible refine' pure_callT ?hA ?kC ?k1 ?k2 ?k3 ?k4 ?k5 ?k6 ?k7 ?k8 ?k9 ?_); k_dflt ((case kC => walk_at "mine_pureT"); walk_at "c9"; walk_at "cs")))
local macro_rules | `(tactic| walk_at "call ref") => `(tactic| ((with_reducible refine' pair_call ?hA ?kC ?k1 ?k2 ?k3 ?k4 ?k5 ?k6 ?k7 ?k8 ?k9 ?_); k_dflt ((case kC => walk_at "mine_pair"); walk_at "c9"; walk_at "cs")))
theorem off_part01_chars : True := by w_top off; trivial
theorem lt1 {a b : Nat} : decide ([a] < [b]) = decide (a < b) := by
  by_cases h : a < b
  · rw [decide_eq_true h]; exact decide_eq_true (List.Lex.rel h)
  · rw [decide_eq_false h]
    refine decide_eq_false fun q => ?_
    cases q with
    | rel h' => exact h h'
    | cons h' => cases h'
theorem cps_a : (Str.ofString "a").cps.toList = [97] := by decide
theorem cps_z : (Str.ofString "z").cps.toList = [122] := by decide
theorem ge_a {c : Nat} (h : 97 ≤ c) : (!decide ([c] < (Str.ofString "a").cps.toList)) = true := by rw [cps_a, lt1]; simp; omega
theorem le_z {c : Nat} (h : c ≤ 122) : (!decide ((Str.ofString "z").cps.toList < [c])) = true := by rw [cps_z, lt1]; simp; omega
set_option maxHeartbeats 1000000 in
theorem isSmall {c : Nat} {t : Tok} (h1 : 97 ≤ c) (h2 : c ≤ 122) : PureC 1 77 [.str ⟨#[c]⟩ t] (.bool true) := by
  intro w p loose mean mg mb dp un gd outer base g s R G hret
  have X := G.X
  have T := G.T
  obtain ⟨B, XB, TB, full, st, sz, hdp, hun⟩ := G
  have N : Sep g s.heap [] := Sep.nil
  have hfill : (PySem.Challenge.rw_nu0058_01.row.prog = PySem.Challenge.rw_nu0058_01.row.prog) ∧ (hd.heap_39 = hd.heap_39) → True := fun _ => trivial
  revert hfill; k_fill; intro hfill; clear hfill
  refine' enterS ?k1 ?k2 ?k3 ?k4 ?k5 ?kN ?k6 ?k7 ?k8 ?k9 ?kB ?_ ?c5 ?c2 ?c3 ?c4
  (case k1 => assumption)
  (case k2 => assumption)
  (case k3 => assumption)
  (case k4 => assumption)
  (case k5 => assumption)
  (case kN => assumption)
  (case k6 => k_is)
  (case k7 => k_is)
  (case k8 => k_room)
  (case k9 => first | exact BindsTo.of_eq rfl | exact binds_K (X.keeps st) rfl (by k_is) rfl rfl rfl)
  (case c5 => decide)
  (case kB => exact locs rfl)
  (case c2 => exact rfl)
  (case c3 => exact rfl)
  (case c4 => exact rfl)
  k_whole
  intro L' h' F' N' l1; (try k_lt l1); (try dsimp only); (try k_fold)
  refine wpAny_noRaise ?_
  w_strict k_steps
  all_goals (try dsimp only)
  all_goals refine pure_end hret ?_ (Fr.keep (by assumption))
  all_goals first | exact congrArg Value.bool (ge_a h1) | exact congrArg Value.bool (le_z h2)
section part01_chars
local macro_rules | `(tactic| walk_at "mine_pure") => `(tactic| exact isSmall (by omega) (by omega))
set_option maxHeartbeats 1000000 in
theorem isStart {c : Nat} {t : Tok} (h1 : 97 ≤ c) (h2 : c ≤ 122) : PureC 2 84 [.str ⟨#[c]⟩ t] (.bool true) := by
  intro w p loose mean mg mb dp un gd outer base g s R G hret
  have X := G.X
  have T := G.T
  obtain ⟨B, XB, TB, full, st, sz, hdp, hun⟩ := G
  have N : Sep g s.heap [] := Sep.nil
  have hfill : (PySem.Challenge.rw_nu0058_01.row.prog = PySem.Challenge.rw_nu0058_01.row.prog) ∧ (hd.heap_39 = hd.heap_39) → True := fun _ => trivial
  revert hfill; k_fill; intro hfill; clear hfill
  refine' enterS ?k1 ?k2 ?k3 ?k4 ?k5 ?kN ?k6 ?k7 ?k8 ?k9 ?kB ?_ ?c5 ?c2 ?c3 ?c4
  (case k1 => assumption)
  (case k2 => assumption)
  (case k3 => assumption)
  (case k4 => assumption)
  (case k5 => assumption)
  (case kN => assumption)
  (case k6 => k_is)
  (case k7 => k_is)
  (case k8 => k_room)
  (case k9 => first | exact BindsTo.of_eq rfl | exact binds_K (X.keeps st) rfl (by k_is) rfl rfl rfl)
  (case c5 => decide)
  (case kB => exact locs rfl)
  (case c2 => exact rfl)
  (case c3 => exact rfl)
  (case c4 => exact rfl)
  k_whole
  intro L' h' F' N' l1; (try k_lt l1); (try dsimp only); (try k_fold)
  refine wpAny_noRaise ?_
  w_strict k_steps
  all_goals (try dsimp only)
  all_goals refine pure_end hret ?_ (Fr.keep (by assumption))
  all_goals rfl
local macro_rules | `(tactic| walk_at "mine_pure") => `(tactic| exact isStart (by omega) (by omega))
set_option maxHeartbeats 1000000 in
theorem isChar {c : Nat} {t : Tok} (h1 : 97 ≤ c) (h2 : c ≤ 122) : PureC 3 91 [.str ⟨#[c]⟩ t] (.bool true) := by
  intro w p loose mean mg mb dp un gd outer base g s R G hret
  have X := G.X
  have T := G.T
  obtain ⟨B, XB, TB, full, st, sz, hdp, hun⟩ := G
  have N : Sep g s.heap [] := Sep.nil
  have hfill : (PySem.Challenge.rw_nu0058_01.row.prog = PySem.Challenge.rw_nu0058_01.row.prog) ∧ (hd.heap_39 = hd.heap_39) → True := fun _ => trivial
  revert hfill; k_fill; intro hfill; clear hfill
  refine' enterS ?k1 ?k2 ?k3 ?k4 ?k5 ?kN ?k6 ?k7 ?k8 ?k9 ?kB ?_ ?c5 ?c2 ?c3 ?c4
  (case k1 => assumption)
  (case k2 => assumption)
  (case k3 => assumption)
  (case k4 => assumption)
  (case k5 => assumption)
  (case kN => assumption)
  (case k6 => k_is)
  (case k7 => k_is)
  (case k8 => k_room)
  (case k9 => first | exact BindsTo.of_eq rfl | exact binds_K (X.keeps st) rfl (by k_is) rfl rfl rfl)
  (case c5 => decide)
  (case kB => exact locs rfl)
  (case c2 => exact rfl)
  (case c3 => exact rfl)
  (case c4 => exact rfl)
  k_whole
  intro L' h' F' N' l1; (try k_lt l1); (try dsimp only); (try k_fold)
  refine wpAny_noRaise ?_
  w_strict k_steps
  all_goals (try dsimp only)
  all_goals refine pure_end hret ?_ (Fr.keep (by assumption))
  all_goals rfl
local macro_rules | `(tactic| walk_at "mine_pure") => `(tactic| exact isChar (by omega) (by omega))
theorem isCharIn {x : Str} {c : Nat} {t : Tok} (hx : ∀ c ∈ x.cps.toList, 97 ≤ c ∧ c ≤ 122) (hc : c ∈ x.cps.toList) : PureC 3 91 [.str ⟨#[c]⟩ t] (.bool true) := isChar (hx c hc).1 (hx c hc).2
local macro_rules | `(tactic| walk_at "mine_pure") => `(tactic| exact isCharIn (by assumption) (by assumption))
local macro_rules | `(tactic| walk_at "exec For Name Name cons nil") => `(tactic| ((with_reducible rename Fr _ _ _ _ => kF); with_unfolding_all (refine' For_invVF kF ?hx ?hp ?_; (case hx | hp => exact rfl))))
local macro_rules | `(tactic| walk_at "pyIter str") => `(tactic| ((with_reducible rename Fr _ _ _ _ => kF); (with_reducible rename News _ _ _ _ => kN); k_dflt (refine' text_loop ?k1 kF kN ?_ ?_; (case k1 => exact rfl); intros; rotate_left; intros)))
set_option maxHeartbeats 1000000 in
theorem isNmt {x : Str} {t : Tok} (hx : ∀ c ∈ x.cps.toList, 97 ≤ c ∧ c ≤ 122) (hne : x ≠ Str.ofString "") : PureC 4 98 [.str x t] (.bool true) := by
  intro w p loose mean mg mb dp un gd outer base g s R G hret
  have X := G.X
  have T := G.T
  obtain ⟨B, XB, TB, full, st, sz, hdp, hun⟩ := G
  have N : Sep g s.heap [] := Sep.nil
  have hfill : (PySem.Challenge.rw_nu0058_01.row.prog = PySem.Challenge.rw_nu0058_01.row.prog) ∧ (hd.heap_39 = hd.heap_39) → True := fun _ => trivial
  revert hfill; k_fill; intro hfill; clear hfill
  refine' enterS ?k1 ?k2 ?k3 ?k4 ?k5 ?kN ?k6 ?k7 ?k8 ?k9 ?kB ?_ ?c5 ?c2 ?c3 ?c4
  (case k1 => assumption)
  (case k2 => assumption)
  (case k3 => assumption)
  (case k4 => assumption)
  (case k5 => assumption)
  (case kN => assumption)
  (case k6 => k_is)
  (case k7 => k_is)
  (case k8 => k_room)
  (case k9 => first | exact BindsTo.of_eq rfl | exact binds_K (X.keeps st) rfl (by k_is) rfl rfl rfl)
  (case c5 => decide)
  (case kB => exact locs rfl)
  (case c2 => exact rfl)
  (case c3 => exact rfl)
  (case c4 => exact rfl)
  k_whole
  intro L' h' F' N' l1; (try k_lt l1); (try dsimp only); (try k_fold)
  refine wpAny_noRaise ?_
  w_strict k_steps
  all_goals (try dsimp only)
  all_goals refine pure_end hret ?_ (Fr.keep (by assumption))
  all_goals (rw [show (x != Str.ofString "") = true from by simpa using hne])
def words : List Str := [⟨#[97]⟩, ⟨#[98]⟩, ⟨#[112]⟩, ⟨#[113]⟩, ⟨#[114]⟩, ⟨#[120, 109, 108, 110, 115]⟩]
theorem words_letters : ∀ x ∈ words, ∀ c ∈ x.cps.toList, 97 ≤ c ∧ c ≤ 122 := by decide
theorem words_ne : ∀ x ∈ words, x ≠ Str.ofString "" := by decide
theorem isNmtW {x : Str} {t : Tok} (h : x ∈ words) : PureC 4 98 [.str x t] (.bool true) := isNmt (words_letters x h) (words_ne x h)
local macro_rules | `(tactic| walk_at "mine_pure") => `(tactic| exact isNmtW (by first | assumption | decide))
theorem word_first {x : Str} (h : x ∈ words) : (∃ c, PySem.Txt.item x 0 = ⟨#[c]⟩ ∧ 97 ≤ c ∧ c ≤ 122) ∧ (x != Str.ofString "") = true ∧ 0 < x.length ∧ x.length ≤ 1000 := by
  simp only [words, List.mem_cons, List.not_mem_nil, or_false] at h
  rcases h with rfl | rfl | rfl | rfl | rfl | rfl <;> refine ⟨⟨_, rfl, ?_, ?_⟩, ?_, ?_, ?_⟩ <;> decide +kernel
theorem item0 {prog : Program} {w : World} {A : Around} {E : Value → Shared → Prop} {s : Shared} {x : Str} {c : Nat} {t u : Tok} {value slice : PySem.Expr} {Q : Value → Shared → Prop} (e : PySem.Txt.item x 0 = ⟨#[c]⟩) (h0 : 0 < x.length) (h1 : x.length ≤ 1000)
    (h : Q (.str ⟨#[c]⟩ s.toks) { s with toks := s.toks + 1 })
    (hs : subscripted slice false (.str x t) (.int 0 u) = operate [.str x t, .int 0 u] (getItem (.str x t) (.int 0 u)) := by with_unfolding_all rfl)
    (hg : ∀ r, letTemporaryGo value (.str x t) r = pure () := by intro _; with_unfolding_all rfl) :
    wpAny (model prog w) A (subscriptTail value slice (.str x t) (.int 0 u)) Q E s := by
  refine KXi.item (n := x.length) rfl (by omega) (by omega) (by omega) (fun _ => ?_) hs hg
  rw [e]; exact h
local macro_rules | `(tactic| walk_at "subscriptTail Name Constant str int") => `(tactic| ((with_reducible refine' item0 ?e ?a ?b ?_ ?y ?x); k_dflt ((case e | a | b => assumption); walk_at "yx"; k_whole)))
set_option maxHeartbeats 4000000 in
theorem isName {x : Str} {t : Tok} (h : x ∈ words) : PureC 5 105 [.str x t] (.bool true) := by
  obtain ⟨⟨c, hc, hc1, hc2⟩, hne, hl0, hl1⟩ := word_first h
  intro w p loose mean mg mb dp un gd outer base g s R G hret
  have X := G.X
  have T := G.T
  obtain ⟨B, XB, TB, full, st, sz, hdp, hun⟩ := G
  have N : Sep g s.heap [] := Sep.nil
  have hfill : (PySem.Challenge.rw_nu0058_01.row.prog = PySem.Challenge.rw_nu0058_01.row.prog) ∧ (hd.heap_39 = hd.heap_39) → True := fun _ => trivial
  revert hfill; k_fill; intro hfill; clear hfill
  refine' enterS ?k1 ?k2 ?k3 ?k4 ?k5 ?kN ?k6 ?k7 ?k8 ?k9 ?kB ?_ ?c5 ?c2 ?c3 ?c4
  (case k1 => assumption)
  (case k2 => assumption)
  (case k3 => assumption)
  (case k4 => assumption)
  (case k5 => assumption)
  (case kN => assumption)
  (case k6 => k_is)
  (case k7 => k_is)
  (case k8 => k_room)
  (case k9 => first | exact BindsTo.of_eq rfl | exact binds_K (X.keeps st) rfl (by k_is) rfl rfl rfl)
  (case c5 => decide)
  (case kB => exact locs rfl)
  (case c2 => exact rfl)
  (case c3 => exact rfl)
  (case c4 => exact rfl)
  k_whole
  intro L' h' F' N' l1; (try k_lt l1); (try dsimp only); (try k_fold)
  w_strict k_steps
  all_goals (try dsimp only)
  all_goals exact pure_end hret rfl (Fr.keep (by assumption))
local macro_rules | `(tactic| walk_at "mine_pure") => `(tactic| exact isName (by first | assumption | decide))
set_option maxHeartbeats 4000000 in
theorem isNc {x : Str} {t : Tok} (h : x ∈ words) : PureC 6 112 [.str x t] (.bool true) := by
  simp only [words, List.mem_cons, List.not_mem_nil, or_false] at h
  rcases h with rfl | rfl | rfl | rfl | rfl | rfl
  all_goals (
  intro w p loose mean mg mb dp un gd outer base g s R G hret
  have X := G.X
  have T := G.T
  obtain ⟨B, XB, TB, full, st, sz, hdp, hun⟩ := G
  have N : Sep g s.heap [] := Sep.nil
  have hfill : (PySem.Challenge.rw_nu0058_01.row.prog = PySem.Challenge.rw_nu0058_01.row.prog) ∧ (hd.heap_39 = hd.heap_39) → True := fun _ => trivial
  revert hfill; k_fill; intro hfill; clear hfill
  refine' enterS ?k1 ?k2 ?k3 ?k4 ?k5 ?kN ?k6 ?k7 ?k8 ?k9 ?kB ?_ ?c5 ?c2 ?c3 ?c4
  (case k1 => assumption)
  (case k2 => assumption)
  (case k3 => assumption)
  (case k4 => assumption)
  (case k5 => assumption)
  (case kN => assumption)
  (case k6 => k_is)
  (case k7 => k_is)
  (case k8 => k_room)
  (case k9 => first | exact BindsTo.of_eq rfl | exact binds_K (X.keeps st) rfl (by k_is) rfl rfl rfl)
  (case c5 => decide)
  (case kB => exact locs rfl)
  (case c2 => exact rfl)
  (case c3 => exact rfl)
  (case c4 => exact rfl)
  k_whole
  intro L' h' F' N' l1; (try k_lt l1); (try dsimp only); (try k_fold)
  refine wpAny_noRaise ?_
  w_strict k_steps
  all_goals (try dsimp only)
  all_goals refine pure_end hret ?_ (Fr.keep (by assumption))
  )
  all_goals first | rfl | exact congrArg Value.bool (by decide +kernel)
end part01_chars
local macro_rules | `(tactic| walk_at "mine_pure") => `(tactic| exact isNc (by first | assumption | decide))
theorem off_part02_names : True := by w_top off; trivial
def declPairs : List (Str × Str) := [(Str.ofString "xmlns", Str.ofString ""), (Str.ofString "xmlns:p", Str.ofString "p"), (Str.ofString "xmlns:q", Str.ofString "q"), (Str.ofString "xmlns:r", Str.ofString "r"), (Str.ofString "xmlns:xml", Str.ofString "xml"), (Str.ofString "xmlns:xmlns", Str.ofString "xmlns")]
def plainNames : List Str := [Str.ofString "a", Str.ofString "p:a", Str.ofString "q:a", Str.ofString "p:b"]
section
local macro_rules | `(tactic| walk_at "subscriptTail Name Slice str ref") => `(tactic| ((with_reducible rename Fr _ _ _ _ => F'); (with_reducible rename News _ _ _ _ => N'); (with_reducible refine slice_strN_ns (hsz := ?hsz) (s := ⟨_, _, _, _, _⟩) F' N' ?_); k_dflt (case hsz => (rw [sizeLine_eq]; exact Nat.le_trans (by assumption) (by decide))); intros))
local macro_rules | `(tactic| walk_at "subscriptTail Name Slice str ref") => `(tactic| ((with_reducible rename Fr _ _ _ _ => F'); (with_reducible rename News _ _ _ _ => N'); (with_reducible refine slice_strN_sn (hsz := ?hsz) (s := ⟨_, _, _, _, _⟩) F' N' ?_); k_dflt (case hsz => (rw [sizeLine_eq]; exact Nat.le_trans (by assumption) (by decide))); intros))
theorem plain_facts {x : Str} (h : x ∈ plainNames) : (x == Str.ofString "xmlns") = false ∧ (x == Str.ofString "xmlns:") = false ∧ (PySem.Txt.slice x none (some 6) == Str.ofString "xmlns:") = false ∧ x.length ≤ 1000 :=
  (show ∀ x ∈ plainNames, (x == Str.ofString "xmlns") = false ∧ (x == Str.ofString "xmlns:") = false ∧ (PySem.Txt.slice x none (some 6) == Str.ofString "xmlns:") = false ∧ x.length ≤ 1000 from by decide +kernel) x h
theorem decl_facts {x y : Str} (h : (x, y) ∈ declPairs) : x.length ≤ 1000 ∧ (((x == Str.ofString "xmlns") = true ∧ y = Str.ofString "") ∨ ((x == Str.ofString "xmlns") = false ∧ (x == Str.ofString "xmlns:") = false ∧ (PySem.Txt.slice x none (some 6) == Str.ofString "xmlns:") = true ∧ PySem.Txt.slice x (some 6) none = y)) :=
  (show ∀ q ∈ declPairs, q.1.length ≤ 1000 ∧ (((q.1 == Str.ofString "xmlns") = true ∧ q.2 = Str.ofString "") ∨ ((q.1 == Str.ofString "xmlns") = false ∧ (q.1 == Str.ofString "xmlns:") = false ∧ (PySem.Txt.slice q.1 none (some 6) == Str.ofString "xmlns:") = true ∧ PySem.Txt.slice q.1 (some 6) none = q.2)) from by decide +kernel) (x, y) h
set_option maxHeartbeats 4000000 in
theorem declNone {x : Str} {t : Tok} (h : x ∈ plainNames) : PureC 1 126 [.str x t] .none := by
  obtain ⟨f1, f2, f3, f4⟩ := plain_facts h
  intro w p loose mean mg mb dp un gd outer base g s R G hret
  have X := G.X
  have T := G.T
  obtain ⟨B, XB, TB, full, st, sz, hdp, hun⟩ := G
  have N : Sep g s.heap [] := Sep.nil
  have hfill : (PySem.Challenge.rw_nu0058_01.row.prog = PySem.Challenge.rw_nu0058_01.row.prog) ∧ (hd.heap_39 = hd.heap_39) → True := fun _ => trivial
  revert hfill; k_fill; intro hfill; clear hfill
  refine' enterS ?k1 ?k2 ?k3 ?k4 ?k5 ?kN ?k6 ?k7 ?k8 ?k9 ?kB ?_ ?c5 ?c2 ?c3 ?c4
  (case k1 => assumption)
  (case k2 => assumption)
  (case k3 => assumption)
  (case k4 => assumption)
  (case k5 => assumption)
  (case kN => assumption)
  (case k6 => k_is)
  (case k7 => k_is)
  (case k8 => k_room)
  (case k9 => first | exact BindsTo.of_eq rfl | exact binds_K (X.keeps st) rfl (by k_is) rfl rfl rfl)
  (case c5 => decide)
  (case kB => exact locs rfl)
  (case c2 => exact rfl)
  (case c3 => exact rfl)
  (case c4 => exact rfl)
  k_whole
  intro L' h' F' N' l1; (try k_lt l1); (try dsimp only); (try k_fold)
  w_strict k_steps
  all_goals (try dsimp only)
  all_goals exact pure_end hret rfl (Fr.keep (by assumption))
set_option maxHeartbeats 4000000 in
theorem declSome {x y : Str} {t : Tok} (h : (x, y) ∈ declPairs) : PureT 1 126 [.str x t] (fun t => .str y t) := by
  obtain ⟨f4, ⟨f1, rfl⟩ | ⟨f1, f2, f3, f5⟩⟩ := decl_facts h
  all_goals (
  intro w p loose mean mg mb dp un gd outer base g s R G hret
  have X := G.X
  have T := G.T
  obtain ⟨B, XB, TB, full, st, sz, hdp, hun⟩ := G
  have N : Sep g s.heap [] := Sep.nil
  have hfill : (PySem.Challenge.rw_nu0058_01.row.prog = PySem.Challenge.rw_nu0058_01.row.prog) ∧ (hd.heap_39 = hd.heap_39) → True := fun _ => trivial
  revert hfill; k_fill; intro hfill; clear hfill
  refine' enterS ?k1 ?k2 ?k3 ?k4 ?k5 ?kN ?k6 ?k7 ?k8 ?k9 ?kB ?_ ?c5 ?c2 ?c3 ?c4
  (case k1 => assumption)
  (case k2 => assumption)
  (case k3 => assumption)
  (case k4 => assumption)
  (case k5 => assumption)
  (case kN => assumption)
  (case k6 => k_is)
  (case k7 => k_is)
  (case k8 => k_room)
  (case k9 => first | exact BindsTo.of_eq rfl | exact binds_K (X.keeps st) rfl (by k_is) rfl rfl rfl)
  (case c5 => decide)
  (case kB => exact locs rfl)
  (case c2 => exact rfl)
  (case c3 => exact rfl)
  (case c4 => exact rfl)
  k_whole
  intro L' h' F' N' l1; (try k_lt l1); (try dsimp only); (try k_fold)
  w_strict k_steps
  all_goals (try dsimp only)
  )
  · exact pure_endT hret ⟨_, rfl⟩ (Fr.keep (by assumption))
  · rw [f5]; exact pure_endT hret ⟨_, rfl⟩ (Fr.keep (by assumption))
end
theorem itemLit {prog : Program} {w : World} {A : Around} {E : Value → Shared → Prop} {s : Shared} {h₀ : Heap} {L l : Addr} {news : List (Addr × Obj)} {vs : List Value} {n : Nat} {k : Int} {u : Tok} {v : Value} {value slice : PySem.Expr} {Q : Value → Shared → Prop}
    (N : News h₀ L s.heap news) (hm : (l, listOf vs.toArray n) ∈ news) (h0 : 0 ≤ k) (hf : k < 2 ^ 63) (hx : vs[k.toNat]? = some v) (h : Q v s)
    (hs : subscripted slice false (.ref l) (.int k u) = operate [.ref l, .int k u] (getItem (.ref l) (.int k u)) := by with_unfolding_all rfl)
    (hg : ∀ r, letTemporaryGo value (.ref l) r = pure () := by intro _; with_unfolding_all rfl) :
    wpAny (model prog w) A (subscriptTail value slice (.ref l) (.int k u)) Q E s :=
  item_list (items := vs.toArray) (News.isList N hm) h0 hf (by simpa using hx) h hs hg
local macro_rules | `(tactic| walk_at "subscriptTail Name Constant ref int") => `(tactic| ((with_reducible refine' itemLit ?N ?m ?a ?b ?c ?_ ?y ?x); k_dflt ((case N => k_asm); (case m => kfm_turns); (case a | b => decide); (case c => exact rfl); walk_at "yx"; k_whole)))
def splitTriples : List (Str × Str × Str) := [(Str.ofString "a", Str.ofString "", Str.ofString "a"), (Str.ofString "p:a", Str.ofString "p", Str.ofString "a"), (Str.ofString "q:a", Str.ofString "q", Str.ofString "a"), (Str.ofString "p:b", Str.ofString "p", Str.ofString "b"), (Str.ofString "r:b", Str.ofString "r", Str.ofString "b"), (Str.ofString "xmlns:a", Str.ofString "xmlns", Str.ofString "a")]
theorem split2 {prog : Program} {w : World} {A : Around} {E : Value → Shared → Prop} {s : Shared} {h₀ : Heap} {L : Addr} {m : Str → Option Value} {news : List (Addr × Obj)} {x y z : Str} {t u : Tok} {Q : Value → Shared → Prop} (F : Fr h₀ L s.heap m) (N : News h₀ L s.heap news)
    (e : PySem.Txt.split x (Str.ofString ":") = [y, z]) (hz : x.length + 2 ≤ sizeLine)
    (h : ∀ D ta tb h' k, Fr h₀ L h' m → News h₀ L h' ((D, listOf [Value.str y ta, Value.str z tb].toArray 0) :: news) → (∀ p ∈ news, p.1 < D) → Q (.ref D) { s with heap := h', toks := k }) :
    wpAny (model prog w) A (call (.builtin "str.split") [.str x t, .str (Str.ofString ":") u]) Q E s := KSpl.split1 F N (by decide) (fun D l h' k el _ F' N' l1 => by
    rw [e] at el
    obtain ⟨ta, l', rfl, e2⟩ := KSpl.cons_of el
    obtain ⟨tb, l'', rfl, e3⟩ := KSpl.cons_of e2
    have := KSpl.nil_of e3
    subst this
    exact h D ta tb h' k F' N' l1) hz
theorem split_two {x y z : Str} (h : (x, y, z) ∈ splitTriples) (hy : x ≠ Str.ofString "a") : PySem.Txt.split x (Str.ofString ":") = [y, z] ∧ y ∈ words ∧ z ∈ words ∧ x.length + 2 ≤ 1000 :=
  (show ∀ q ∈ splitTriples, q.1 ≠ Str.ofString "a" → PySem.Txt.split q.1 (Str.ofString ":") = [q.2.1, q.2.2] ∧ q.2.1 ∈ words ∧ q.2.2 ∈ words ∧ q.1.length + 2 ≤ 1000 from by decide +kernel) (x, y, z) h hy
theorem split_one {x y z : Str} (h : (x, y, z) ∈ splitTriples) (hy : x = Str.ofString "a") : y = Str.ofString "" ∧ z = Str.ofString "a" :=
  (show ∀ q ∈ splitTriples, q.1 = Str.ofString "a" → q.2.1 = Str.ofString "" ∧ q.2.2 = Str.ofString "a" from by decide +kernel) (x, y, z) h hy
section part02_names
local macro_rules | `(tactic| walk_at "idle") => `(tactic| fail)
local macro_rules | `(tactic| walk_at "call builtin:str.split") => `(tactic| ((with_reducible refine' split2 ?F ?N ?e ?z ?_); k_dflt ((case e => assumption); walk_at "FN"; (case z => (rw [sizeLine_eq]; exact Nat.le_trans (by assumption) (by decide))); k_whole; intros)))
set_option maxHeartbeats 8000000 in
theorem splitC {x y z : Str} {t : Tok} (h : (x, y, z) ∈ splitTriples) : PairC 8 119 [.str x t] y z := by
  by_cases hx : x = Str.ofString "a"
  · obtain ⟨rfl, rfl⟩ := split_one h hx
    subst hx
    intro w p loose mean mg mb dp un gd outer base g s R G hret
    have X := G.X
    have T := G.T
    obtain ⟨B, XB, TB, full, st, sz, hdp, hun⟩ := G
    have N : Sep g s.heap [] := Sep.nil
    have hfill : (PySem.Challenge.rw_nu0058_01.row.prog = PySem.Challenge.rw_nu0058_01.row.prog) ∧ (hd.heap_39 = hd.heap_39) → True := fun _ => trivial
    revert hfill; k_fill; intro hfill; clear hfill
    refine' enterS ?k1 ?k2 ?k3 ?k4 ?k5 ?kN ?k6 ?k7 ?k8 ?k9 ?kB ?_ ?c5 ?c2 ?c3 ?c4
    (case k1 => assumption)
    (case k2 => assumption)
    (case k3 => assumption)
    (case k4 => assumption)
    (case k5 => assumption)
    (case kN => assumption)
    (case k6 => k_is)
    (case k7 => k_is)
    (case k8 => k_room)
    (case k9 => first | exact BindsTo.of_eq rfl | exact binds_K (X.keeps st) rfl (by k_is) rfl rfl rfl)
    (case c5 => decide)
    (case kB => exact locs rfl)
    (case c2 => exact rfl)
    (case c3 => exact rfl)
    (case c4 => exact rfl)
    k_whole
    intro L' h' F' N' l1; (try k_lt l1); (try dsimp only); (try k_fold)
    w_strict k_steps
    all_goals (try dsimp only)
    all_goals exact hret _ _ _ _ _ _ (Fr.keep (by assumption)) (sep_one (by assumption) (by with_unfolding_all exact .head _))
  · obtain ⟨e1, e2, e3, e4⟩ := split_two h hx
    intro w p loose mean mg mb dp un gd outer base g s R G hret
    have X := G.X
    have T := G.T
    obtain ⟨B, XB, TB, full, st, sz, hdp, hun⟩ := G
    have N : Sep g s.heap [] := Sep.nil
    have hfill : (PySem.Challenge.rw_nu0058_01.row.prog = PySem.Challenge.rw_nu0058_01.row.prog) ∧ (hd.heap_39 = hd.heap_39) → True := fun _ => trivial
    revert hfill; k_fill; intro hfill; clear hfill
    refine' enterS ?k1 ?k2 ?k3 ?k4 ?k5 ?kN ?k6 ?k7 ?k8 ?k9 ?kB ?_ ?c5 ?c2 ?c3 ?c4
    (case k1 => assumption)
    (case k2 => assumption)
    (case k3 => assumption)
    (case k4 => assumption)
    (case k5 => assumption)
    (case kN => assumption)
    (case k6 => k_is)
    (case k7 => k_is)
    (case k8 => k_room)
    (case k9 => first | exact BindsTo.of_eq rfl | exact binds_K (X.keeps st) rfl (by k_is) rfl rfl rfl)
    (case c5 => decide)
    (case kB => exact locs rfl)
    (case c2 => exact rfl)
    (case c3 => exact rfl)
    (case c4 => exact rfl)
    k_whole
    intro L' h' F' N' l1; (try k_lt l1); (try dsimp only); (try k_fold)
    w_strict k_steps
    all_goals (try dsimp only)
    all_goals exact hret _ _ _ _ _ _ (Fr.keep (by assumption)) (sep_one (by assumption) (by with_unfolding_all exact .head _))
end part02_names
theorem off_part03_raise : True := by w_top off; trivial
abbrev bmNF : List Value := [.ref 31, .type "Exception", .type "BaseException", .type "object"]
section
variable {prog : Program} {w : World} {A : Around} {R : Result → Shared → Prop} {E : Value → Shared → Prop} {h : Heap} {g : Array GenState} {d : Drawn} {t : Nat} {os : OsState}
variable {nm q : Str} {N : Addr} {bs : List Value} {hdct : Bool} {sn : List Str} {sub : List Value} {ab : Bool} {col : Option Bool} {dd : Option Addr} {k0 k1 k2 k3 k5 : Option Value}

theorem nf_new {rest : List Value} (hC : h.get? 44 = some (excClassObj nm q 44 N bs bmNF hdct sn sub ab col dd k0 k1 k2 k3 k5 "Exception.__new__"))
    (hq : R (.ok (.ret (.ref (h.objs.size + 1)))) ⟨(h.push { cls := .type "tuple", data := .seq rest.toArray }).push
      { cls := .ref 44, data := .fields #[.ref h.objs.size, .none, .none, .none, .bool false, .none] }, g, d, t, os⟩) (hrest : rest.length ≤ sizeLine) :
    codeAny (model prog w) A (.builtin "Exception.__new__" ⟨.ref 44 :: rest, []⟩) R ⟨h, g, d, t, os⟩ := by
  have F := PySem.F.excBase_Exception
  have hends := F.ends
  have hcB : (Value.ref 44 :: bmNF).contains (.type "Exception") = true := by decide
  have hcA : (Value.ref 44 :: bmNF).contains (.type "AttributeError") = false := by decide
  have hcN : (Value.ref 44 :: bmNF).contains (.type "NameError") = false := by decide
  refine codeAny_builtinAt F.entry ?_
  unfold Builtin.«BaseException.__new__»
  refine PySem.wpAt_bind ?_
  show PySem.wpAt _ _ _ (stack >>= _) _ _ _
  refine PySem.wpAt_bind (PySem.wpAt_stack fun p below => PySem.wpAt_of_wpAny ?_)
  wp_walk
  refine PySem.wpAt_of_wpAny ?_
  rw [F.owner]
  repeat (first | with_reducible refine wpAny_madeHere_exc F.canon hC ?_ | with_reducible refine wpAny_loadPart_at hC ?_ | (with_reducible refine wpAny_isSubtype_exc hC ?_; first | rw [hcB] | rw [hcA] | rw [hcN]) | wp_step)
  show R _ _
  rw [Heap.size_push]
  exact hq

theorem nf_typeCall {K : Frag} {rest : List Value} {Q : Fin → Shared → Prop} {oI : Obj} (X : K.In h) (hC : h.get? 44 = some (excClassObj nm q 44 N bs bmNF hdct sn sub ab col dd k0 k1 k2 k3 k5 "Exception.__new__"))
    (hi : findIn K (.ref 44) "__init__" = some (some (.ref 28))) (hfI : h.get? 28 = some oI) (hfc : oI.cls = .type "function")
    (hq : ∀ h' e, Heap.MadeExcOf h h' e (.ref 44) rest → wpAny (model prog w) A (call (.ref 28) (.ref e :: rest)) (fun r s' => r = .none ∧ Q (.done (.ret (.ref e))) s') E ⟨h', g, d, t, os⟩) (hrest : rest.length ≤ sizeLine) :
    wpAny (model prog w) A (Builtin.«type.__call__» ⟨.ref 44 :: rest, []⟩) Q E ⟨h, g, d, t, os⟩ := by
  have F := PySem.F.excBase_Exception
  repeat (first | with_reducible refine wpAny_loadPart_at hC ?_ | with_reducible refine wpAny_madeBy_exc hC ?_ | wp_step)
  refine codeAny_call_builtin_code (Code.quiet_builtin _ F.quiet) (wpAny_check_new_subU F (bmB := bmNF) (by decide) OwnTail.base hC ?_)
  refine nf_new hC ?_ hrest
  show wpAny _ _ _ _ _ _
  have keep : ∀ b o, h.get? b = some o → ((h.push { cls := .type "tuple", data := .seq rest.toArray }).push { cls := .ref 44, data := .fields #[.ref h.objs.size, .none, .none, .none, .bool false, .none] }).get? b = some o :=
    fun b o e => Heap.get?_push_of_some _ (Heap.get?_push_of_some _ e)
  have hget : ((h.push { cls := .type "tuple", data := .seq rest.toArray }).push
      { cls := .ref 44, data := .fields #[.ref h.objs.size, .none, .none, .none, .bool false, .none] }).get? (h.objs.size + 1) = some
      { cls := .ref 44, data := .fields #[.ref h.objs.size, .none, .none, .none, .bool false, .none] } := by heap_get
  have hC₁ := keep _ _ hC
  have hcC : (Value.ref 44 :: bmNF).contains (.ref 44) = true := by decide
  unfold isInstance
  repeat (first | with_reducible refine wpAny_loadPart_at hget ?_ | (with_reducible refine wpAny_isSubtype_exc hC₁ ?_; rw [hcC]) | wp_step)
  show wpAny _ _ (typeLookup (.ref 44) _) _ _ _
  refine (looks_findIn (X.keeps keep) hi).here ?_
  refine wpAny_holding (wpAny_bind ?_)
  unfold bindSpecial
  refine wpAny_bind (wpAny_typeOf (T := "function") ⟨_, keep _ _ hfI, hfc⟩ ?_)
  rw [if_pos (by decide)]
  refine wpAny_pure (wpAny_bind (wpAny_mono (hq _ (h.objs.size + 1) ⟨keep, Heap.get?_none_of_le (Nat.le_succ _), h.objs.size, hget, Heap.get?_none_of_le (Nat.le_refl _), Heap.get?_push_of_some _ (Heap.get?_push_at rfl rfl)⟩) (fun r s' hr => ?_) fun _ _ x => x))
  obtain ⟨rfl, hQ⟩ := hr
  wp_walk
  exact hQ

theorem nf_call {K : Frag} {rest : List Value} {Q : Value → Shared → Prop} {oI : Obj} (X : K.In h) (hC : h.get? 44 = some (excClassObj nm q 44 N bs bmNF hdct sn sub ab col dd k0 k1 k2 k3 k5 "Exception.__new__"))
    (hi : findIn K (.ref 44) "__init__" = some (some (.ref 28))) (hfI : h.get? 28 = some oI) (hfc : oI.cls = .type "function")
    (hq : ∀ h' e, Heap.MadeExcOf h h' e (.ref 44) rest → wpAny (model prog w) (A.under (.builtin "type.__call__" ⟨.ref 44 :: rest, []⟩)) (call (.ref 28) (.ref e :: rest)) (fun r s' => r = .none ∧ Q (.ref e) s') E ⟨h', g, d, t, os⟩) (hrest : rest.length ≤ sizeLine) :
    wpAny (model prog w) A (call (.ref 44) rest) Q E ⟨h, g, d, t, os⟩ := by
  have f1 := tc_lookup
  have f2 := tc_bind (.ref 44)
  have hT : (⟨h, g, d, t, os⟩ : Shared).TypeIs (.ref 44) "type" := ⟨_, hC, rfl⟩
  refine wpAny_call (codeAny_of_tree ?_)
  show wpAny _ _ (callAny (.ref 44) _) _ _ _
  repeat (any_goals (first | assumption | with_reducible refine wpAny_loadPart_at hC ?_ | wp_step))
  refine ⟨rfl, ?_⟩
  refine codeAny_call_builtin_at (Code.quiet_builtin _ (by decide +kernel)) entry_typeCall (wpAny_check_type_call_sub hC (nf_typeCall X hC hi hfI hfc (fun h' e hm => ?_) hrest))
  exact hq h' e hm
end
abbrev excO (t : Addr) : Obj := { cls := .ref 44, data := .fields #[.ref t, .none, .none, .none, .bool false, .none] }
abbrev excD (t dx : Addr) : Obj := { cls := .ref 44, dict := some dx, data := .fields #[.ref t, .none, .none, .none, .bool false, .none] }
section
variable {prog : Program} {w : World} {A : Around} {R : Result → Shared → Prop} {E : Value → Shared → Prop} {K : Frag} {h : Heap} {g : Array GenState} {d : Drawn} {t : Nat} {os : OsState} {cd : ClassData}

theorem nf_baseInit {nm q : Str} {N : Addr} {bs : List Value} {hdct : Bool} {sn : List Str} {sub : List Value} {ab : Bool} {col : Option Bool} {dd : Option Addr} {k0 k1 k2 k3 k5 : Option Value} {e t0 : Addr} {msg : Value} {Q : Value → Shared → Prop}
    (hC : h.get? 44 = some (excClassObj nm q 44 N bs bmNF hdct sn sub ab col dd k0 k1 k2 k3 k5 "Exception.__new__"))
    (he : h.get? e = some (excO t0))
    (hq : Q .none ⟨(h.push { cls := .type "tuple", data := .seq #[msg] }).update e (Obj.mapFields (·.setIfInBounds 0 (.ref h.objs.size))), g, d, t, os⟩) :
    wpAny (model prog w) A (call (.builtin "Exception.__init__") [.ref e, msg]) Q E ⟨h, g, d, t, os⟩ := by
  have F := PySem.F.excBase_Exception
  have hcB : (Value.ref 44 :: bmNF).contains (.type "Exception") = true := by decide
  refine wpAny_call (codeAny_call_builtin F.init.plain F.initEntry ?_)
  have hshort := F.noStar
  simp only [checkBuiltinCall, F.initKind, F.initSplit, F.initRow]
  repeat (first | with_reducible refine wpAny_loadPart_at he ?_ | with_reducible refine wpAny_loadPart_at hC ?_ | (with_reducible refine wpAny_isSubtype_exc hC ?_; rw [hcB]) | wp_step)
  exact hq

theorem nf_setMsg {e t0 : Addr} {name : Str} {v : Value} {Q : Unit → Shared → Prop} (X : K.In h) (hc : clsIn K 44 = some cd) (hmro : cd.mro = .ref 44 :: bmNF) (hd : cd.hasDict = true)
    (hs : findIn K (.ref 44) "__setattr__" = some (some (.builtin "object.__setattr__"))) (ha : findIn K (.ref 44) name = some none) (hmo : mroIn K 44 (.type "object") = some true)
    (he : h.get? e = some (excO t0))
    (hq : ∀ h' tk, (∀ b o, b ≠ e → h.get? b = some o → h'.get? b = some o) → h'.get? e = some (excD t0 h.objs.size) → Q () ⟨h', g, d, tk, os⟩) :
    wpAny (model prog w) A (setAttr (.ref e) name v) Q E ⟨h, g, d, t, os⟩ := by
  have I : InstAt h e (excO t0) 44 none := ⟨he, rfl, rfl, trivial⟩
  refine set_plain X I hs ?_
  have SF := PySem.F.store_object
  have SE := PySem.F.store_Exception
  have sub : Looks (model prog w) h (isInstance (.ref e) (.type "object")) true := I.type.andThen (looks_mroIn X hmo)
  refine codeAny_call_builtin SF.slot.plain SF.entry (@check_slot (model prog w) _ _ _ "object.__setattr__" "object" "__setattr__" (.ref e) [.str name t, v] [] _ SF.kind SF.split sub (SF.args (.ref e) (.str name t) v) ?_)
  have hm : Looks (model prog w) h (mroOf (.ref 44)) (.ref 44 :: bmNF) := (looks_clsIn X hc).andThen (by rw [← hmro]; exact .now)
  rw [osa_eq, refuse_eq]
  refine wpAny_bind (wpAny_bind (I.type.here (wpAny_bind (hm.here ?_))))
  rw [refuseLoop_ref, refuseLoop_ref, SE.passes]
  refine wpAny_pure (wpAny_bind (I.type.here (wpAny_bind ((looks_findIn X ha).here (wpAny_bind (wpAny_pure ?_))))))
  show wpAny _ _ (Builtin.ObjectAttr.storeInOwnDict (.ref e) (.ref 44) (.str name t) name v false) _ _ _
  refine wpAny_bind (wpAny_pure (wpAny_bind ?_))
  show wpAny _ _ (instanceDict e true) _ _ _
  unfold instanceDict
  refine wpAny_bind (wpAny_loadPart he (wpAny_bind ((looks_clsIn X hc).here ?_)))
  rw [hd]
  refine wpAny_bind (wpAny_alloc ?_)
  dsimp only
  have he₁ := Heap.get?_push_of_some { cls := .type "dict", data := .dict #[] } he
  refine wpAny_bind (wpAny_update he₁ ?_)
  refine wpAny_pure (wpAny_bind (wpAny_pure (wpAny_bind ?_)))
  have hne : e ≠ h.objs.size := Nat.ne_of_lt (Heap.lt_size he)
  have hd₂ : ((h.push { cls := .type "dict", data := .dict #[] }).update e fun o => { o with dict := some h.objs.size }).get? h.objs.size = some { cls := .type "dict", data := .dict #[] } :=
    (Heap.get?_update_other _ _ hne).trans (Heap.get?_push_size _ rfl)
  unfold nsSet
  refine wpAny_bind (wpAny_bind (wpAny_askSetting (wpAny_pure (wpAny_bind (wpAny_mkText (wpAny_bind (wpAny_loadPart hd₂ ?_)))))))
  dsimp only
  rw [aRefKeyMayBeTheName_at, if_neg (by simp)]
  refine wpAny_updatePart hd₂ ?_
  have he₂ : ((h.push { cls := .type "dict", data := .dict #[] }).update e fun o => { o with dict := some h.objs.size }).get? e = some (excD t0 h.objs.size) :=
    Heap.get?_update_self _ he₁ rfl
  refine wpAny_bind (wpAny_lookBehind (Heap.get?_update_self _ hd₂ rfl) ?_ (wpAny_pure (hq _ _ (fun b o hb ho => ?_) ?_)))
  · exact pastItsLine_dict (by simp [sizeLine])
  · rw [Heap.get?_update_other _ _ (Nat.ne_of_gt (Heap.lt_size ho)), Heap.get?_update_other _ _ (Ne.symm hb)]
    exact Heap.get?_push_of_some _ ho
  · rw [Heap.get?_update_other _ _ (Ne.symm hne)]
    exact he₂
end
section
variable {prog : Program} {w : World} {A : Around} {E : Value → Shared → Prop} {s : Shared} {K : Frag} {h₀ : Heap} {L : Addr} {m : Str → Option Value} {cd : ClassData}
theorem nf_baseInitK {nm q : Str} {N : Addr} {bs : List Value} {hdct : Bool} {sn : List Str} {sub : List Value} {ab : Bool} {col : Option Bool} {dd : Option Addr} {k0 k1 k2 k3 k5 : Option Value} {e t0 : Addr} {msg : Value} {Q : Value → Shared → Prop}
    (F : Fr h₀ L s.heap m) (N' : News h₀ L s.heap [(e, excO t0)]) (X : K.In h₀) (hC : K.lookup 44 = some (excClassObj nm q 44 N bs bmNF hdct sn sub ab col dd k0 k1 k2 k3 k5 "Exception.__new__"))
    (h : ∀ h' t1, Fr h₀ L h' m → News h₀ L h' [(e, excO t1)] → Q .none { s with heap := h' }) : wpAny (model prog w) A (call (.builtin "Exception.__init__") [.ref e, msg]) Q E s := by
  obtain ⟨hh, g, d, t, os⟩ := s
  refine nf_baseInit (F.keep _ _ (X _ _ hC)) (N'.get (.head _)) ?_
  have N₂ : News h₀ L (hh.push { cls := .type "tuple", data := .seq #[msg] }) [(e, excO t0)] := fun p hp => ⟨Heap.get?_push_of_some _ (N' p hp).1, (N' p hp).2⟩
  obtain ⟨F₃, N₃⟩ := news_upd (pre := []) (post := []) (o' := excO hh.objs.size) (f := Obj.mapFields (·.setIfInBounds 0 (.ref hh.objs.size))) (F.push _) N₂ (by simp) (by simp) rfl rfl
  exact h _ _ F₃ N₃
theorem nf_setMsgK {e t0 : Addr} {name : Str} {v : Value} {Q : Unit → Shared → Prop} (F : Fr h₀ L s.heap m) (N' : News h₀ L s.heap [(e, excO t0)]) (X : K.In h₀) (hc : clsIn K 44 = some cd) (hmro : cd.mro = .ref 44 :: bmNF) (hd : cd.hasDict = true)
    (hs : findIn K (.ref 44) "__setattr__" = some (some (.builtin "object.__setattr__"))) (ha : findIn K (.ref 44) name = some none) (hmo : mroIn K 44 (.type "object") = some true)
    (h : ∀ h' tk dx, Fr h₀ L h' m → News h₀ L h' [(e, excD t0 dx)] → Q () { s with heap := h', toks := tk }) : wpAny (model prog w) A (setAttr (.ref e) name v) Q E s := by
  obtain ⟨hh, g, d, t, os⟩ := s
  refine nf_setMsg (X.keeps F.keep) hc hmro hd hs ha hmo (N'.get (.head _)) fun h' tk k he => ?_
  obtain ⟨oL, es, ep, hL, r⟩ := F.ns
  have hLe : L ≠ e := fun q => (N' _ (.head _)).2.1 q.symm
  refine h _ _ hh.objs.size ⟨⟨oL, es, ep, k _ _ hLe hL, r⟩, fun b o hb => k _ _ (fun q => ?_) (F.keep _ _ hb), F.above⟩ fun p hp => ?_
  · have := (N' _ (.head _)).2.2
    rw [← q, hb] at this; cases this
  · rw [List.mem_singleton.mp hp]
    exact ⟨he, (N' _ (.head _)).2⟩
end
section part03_raise
local macro_rules | `(tactic| walk_at "getMethod type:Exception") => `(tactic| (k_here; k_dflt (refine' method_type ?F ?N ?k3 ?k4 ?k5 ?k6 ?_; walk_at "FN"; (case k3 => first | rfl | kernel_rfl); (case k4 => decide +kernel); (case k5 => k_is); (case k6 => first | rfl | decide +kernel); k_whole)))
local macro_rules | `(tactic| walk_at "call builtin:Exception.__init__") => `(tactic| (k_here; k_dflt (refine' nf_baseInitK ?k1 ?k2 ?k3 ?k4 ?_; (case k1 | k2 | k3 => k_asm); (case k4 => k_is); k_whole; intros; (try k_sweep))))
local macro_rules | `(tactic| walk_at "setAttr ref") => `(tactic| (k_here; k_dflt (refine' nf_setMsgK ?k1 ?k2 ?k3 ?k4 ?k5 ?k6 ?k7 ?k8 ?k9 ?_; (case k1 | k2 | k3 => k_asm); (case k4 | k7 | k8 | k9 => k_is); (case k5 | k6 => rfl); k_whole; intros; (try k_sweep))))
set_option maxHeartbeats 1000000 in
theorem initS {w : World} {p : Program} {loose : List Str} {mean : ExcName → Option Value} {mg mb : Str → Option Value} {dp un : Nat} {gd : Option (List Code)} {outer : List Env} {base g : Heap} {s : Shared} {R : Result → Shared → Prop}
    {e t : Addr} {msg : Str} {tm : Tok} (G : Gd w p loose mean mg mb 2 dp un gd outer base g s) (N : Sep g s.heap [(e, excO t)])
    (hret : ∀ h' tk t1 dx, g.StaysIn h' → Sep g h' [(e, excD t1 dx)] → R (.ok (.ret .none)) { s with heap := h', toks := tk }) :
    codeAny (model PySem.Challenge.rw_nu0058_01.row.prog w) (Ar dp un gd outer) (.call (.ref 28) ⟨[.ref e, .str msg tm], []⟩) R s := by
  have X := G.X
  have T := G.T
  obtain ⟨B, XB, TB, full, st, sz, hdp, hun⟩ := G
  have hfill : (PySem.Challenge.rw_nu0058_01.row.prog = PySem.Challenge.rw_nu0058_01.row.prog) ∧ (hd.heap_39 = hd.heap_39) → True := fun _ => trivial
  revert hfill; k_fill; intro hfill; clear hfill
  refine' enterS ?k1 ?k2 ?k3 ?k4 ?k5 ?kN ?k6 ?k7 ?k8 ?k9 ?kB ?_ ?c5 ?c2 ?c3 ?c4
  (case k1 => assumption)
  (case k2 => assumption)
  (case k3 => assumption)
  (case k4 => assumption)
  (case k5 => assumption)
  (case kN => assumption)
  (case k6 => k_is)
  (case k7 => k_is)
  (case k8 => k_room)
  (case k9 => first | exact BindsTo.of_eq rfl | exact binds_K (X.keeps st) rfl (by k_is) rfl rfl rfl)
  (case c5 => decide)
  (case kB => exact locs rfl)
  (case c2 => exact rfl)
  (case c3 => exact rfl)
  (case c4 => exact rfl)
  k_whole
  intro L' h' F' N' l1; (try k_lt l1); (try dsimp only); (try k_fold)
  w_strict k_steps
  all_goals (try dsimp only)
  all_goals exact hret _ _ _ _ (Fr.keep (by assumption)) (News.sep (by assumption))
end part03_raise
theorem off_part04_flight : True := by w_top off; trivial
/-- an exception of class 44 in flight through `outer`, over the base g; S as it was -/
def XR (g : Heap) (outer : List Env) (e : Addr) (S : List (Addr × Obj)) (h' : Heap) : Prop :=
  g.UpToSlots h' ∧ ∃ B a0, (hideAll g (outer.filterMap (·.frame))).StaysIn B ∧ (∀ q ∈ S, B.get? q.1 = some q.2 ∧ g.get? q.1 = none) ∧ Heap.FlyingW B outer e (.ref 44) a0 h'
/-- just made -/
def XM (h h' : Heap) (e : Addr) : Prop := h.StaysIn h' ∧ h.get? e = none ∧ ∃ t dx, h'.get? e = some (excD t dx)

section
variable {M : Model} {A : Around} {E : Value → Shared → Prop} {s' : Shared} {base g h : Heap} {outer : List Env} {L e : Addr} {m : Str → Option Value} {env : Env} {Q : Unit → Shared → Prop} {news S : List (Addr × Obj)}
theorem leave_madeX (K : Below A base outer g) (hx : XM h s'.heap e) (F : Fr g L h m) (N : News g L h news)
    (hQ : ∀ h', XR g outer e news h' → Q () { s' with heap := h' }) (hf : env.frame = some L := by rfl) (hke : env.scope.kind = .function := by rfl) :
    wpAny M (A.deeper env) (leaving env (.ref e)) Q E s' := by
  obtain ⟨keeps, hnew, t, dx, he⟩ := hx
  have K' := pushX K F hf hke
  have hin : ∀ e₀ ∈ (env :: outer), ∀ b, e₀.frame = some b → b ∈ (env :: outer).filterMap (·.frame) := fun env he b hb => List.mem_filterMap.mpr ⟨env, he, hb⟩
  have hfm : (env :: outer).filterMap (·.frame) = L :: outer.filterMap (·.frame) := by rw [List.filterMap_cons, hf]
  refine wpAny_leaving_firstW (base := hideAll h ((env :: outer).filterMap (·.frame))) (outer := outer) (L := L) (oe := excD t dx) (a0 := .ref t) K'.stack
    ((funFrames_hide K'.frames hin).of_keeps fun b o hb _ => ⟨o, keeps b o hb, rfl⟩) hf he (fun b o q => keeps b o (of_hideAll _ q)) ?_ rfl rfl rfl fun h' hL => ?_
  · cases q : (hideAll h ((env :: outer).filterMap (·.frame))).get? e with
    | none => rfl
    | some o => have := of_hideAll _ q; rw [hnew] at this; cases this
  · obtain ⟨k1, ⟨_, _, k2⟩, k3, k4⟩ := hL
    refine hQ h' ⟨((Heap.UpToSlots.of_keeps F.keep).trans (Heap.UpToSlots.of_keeps keeps)).trans k4, hideAll h ((env :: outer).filterMap (·.frame)), .ref t, fun b o q => ?_, fun q hq => ⟨hideAll_get _ (N q hq).1 fun hm => ?_, (N q hq).2.2⟩, k1, ?_, k2, k3⟩
    · obtain ⟨q1, q2⟩ := get_hideAll_of q
      refine hideAll_get _ (F.keep _ _ q1) fun hm => ?_
      rw [hfm] at hm
      rcases List.mem_cons.mp hm with e1 | hm
      · exact absurd (Nat.lt_of_lt_of_le (Heap.lt_size q1) F.above) (by rw [e1]; exact Nat.lt_irrefl _)
      · exact q2 hm
    · rw [hfm] at hm
      rcases List.mem_cons.mp hm with e1 | hm
      · exact (N q hq).2.1 e1
      · obtain ⟨_, o, ho, _⟩ := K.frames.mem hm
        rw [(N q hq).2.2] at ho; cases ho
    · cases q : (hideAll h ((env :: outer).filterMap (·.frame))).get? e with
      | none => rfl
      | some o => have := of_hideAll _ q; rw [hnew] at this; cases this

/-- what the frame's own ledger is behind a call that raised: those of S as they were, the others too -/
theorem xr_up {g₁ : Heap} (K : Below A base outer g) (F : Fr g L h m) (N : News g L h news) (hg : g₁.StaysIn h) (hgk : ∀ b o, h.get? b = some o → (∀ q ∈ S, q.1 ≠ b) → g₁.get? b = some o) (hS : ∀ q ∈ S, q ∈ news)
    (X : XR g₁ (env :: outer) e S s'.heap) (hf : env.frame = some L := by rfl) :
    g.UpToSlots s'.heap ∧ ∃ B a0, (hideAll g (outer.filterMap (·.frame))).StaysIn B ∧ (∀ q ∈ news, B.get? q.1 = some q.2 ∧ g.get? q.1 = none) ∧ Heap.FlyingW B (env :: outer) e (.ref 44) a0 s'.heap := by
  obtain ⟨up, B, a0, st, hB, fl⟩ := X
  have hfm : (env :: outer).filterMap (·.frame) = L :: outer.filterMap (·.frame) := by rw [List.filterMap_cons, hf]
  have inS : ∀ b o, g.get? b = some o → ∀ q ∈ S, q.1 ≠ b := fun b o hb q hq e1 => by
    have := (N q (hS q hq)).2.2; rw [e1, hb] at this; cases this
  refine ⟨Heap.UpToSlots.trans (Heap.UpToSlots.of_keeps fun b o hb => hgk b o (F.keep _ _ hb) (inS b o hb)) up, B, a0, fun b o q => ?_, fun q hq => ⟨?_, (N q hq).2.2⟩, fl⟩
  · obtain ⟨q1, q2⟩ := get_hideAll_of q
    refine st _ _ (hideAll_get _ (hgk b o (F.keep _ _ q1) (inS b o q1)) fun hm => ?_)
    rw [hfm] at hm
    rcases List.mem_cons.mp hm with e1 | hm
    · exact absurd (Nat.lt_of_lt_of_le (Heap.lt_size q1) F.above) (by rw [e1]; exact Nat.lt_irrefl _)
    · exact q2 hm
  · by_cases hqs : ∃ p ∈ S, p.1 = q.1
    · obtain ⟨p, hp, e1⟩ := hqs
      have h1 := (hB p hp).1
      have h2 := (N p (hS p hp)).1
      rw [e1, (N q hq).1] at h2
      rw [e1, ← Option.some.inj h2] at h1
      exact h1
    · refine st _ _ (hideAll_get _ (hgk _ _ (N q hq).1 fun p hp e1 => hqs ⟨p, hp, e1⟩) fun hm => ?_)
      rw [hfm] at hm
      rcases List.mem_cons.mp hm with e1 | hm
      · exact (N q hq).2.1 e1
      · obtain ⟨_, o, ho, _⟩ := K.frames.mem hm
        rw [(N q hq).2.2] at ho; cases ho

/-- it passes through a frame -/
theorem leave_onX {g₁ : Heap} (K : Below A base outer g) (F : Fr g L h m) (N : News g L h news) (hg : g₁.StaysIn h) (hgk : ∀ b o, h.get? b = some o → (∀ q ∈ S, q.1 ≠ b) → g₁.get? b = some o) (hS : ∀ q ∈ S, q ∈ news)
    (X : XR g₁ (env :: outer) e S s'.heap)
    (hQ : ∀ h', XR g outer e news h' → Q () { s' with heap := h' }) (hf : env.frame = some L := by rfl) :
    wpAny M (A.deeper env) (leaving env (.ref e)) Q E s' := by
  obtain ⟨up, B, a0, st, hB, fl⟩ := xr_up K F N hg hgk hS X hf
  exact wpAny_leaves_onW (Around.frames_deeper K.stack) hf fl fun h' x1 x2 => hQ h' ⟨up.trans x2, B, a0, st, hB, x1⟩
end
theorem off_part05_told : True := by w_top off; trivial
/-- all but the frames stands, the frames up to slots -/
def Kept (base g : Heap) (outer : List Env) (h' : Heap) : Prop := base.StaysIn h' ∧ ∀ b ∈ frs outer, ∀ o, g.get? b = some o → ∃ sl, h'.get? b = some { o with slots := sl }
theorem Kept.of_stays {A : Around} {base g h' : Heap} {outer : List Env} (B : Below A base outer g) (k : g.StaysIn h') : Kept base g outer h' :=
  ⟨fun b o e => k _ _ (B.stays b o e), fun b _ o e => ⟨o.slots, k _ _ e⟩⟩

theorem turned {A : Around} {base g h' : Heap} {outer : List Env} (B : Below A base outer g) (full : ∀ b o, g.get? b = some o → b ∉ frs outer → base.get? b = some o) (hk : Kept base g outer h') :
    ∃ g', g'.objs.size = g.objs.size ∧ (∀ b, g.get? b = none → g'.get? b = none) ∧ g'.StaysIn h' ∧ Below A base outer g' ∧ (∀ b o, g'.get? b = some o → b ∉ frs outer → base.get? b = some o) ∧
      ∀ h'', Kept base g' outer h'' → Kept base g outer h'' := by
  obtain ⟨T, k⟩ := kts_turn_at (fs := frs outer) (g := g) (h := h') (fun b hb => by obtain ⟨o, ho, _⟩ := (B.frames.mem hb).2; exact ⟨o, ho⟩)
    (fun b o hb hn => hk.1 _ _ (full b o hb hn)) (fun b o hb hm => hk.2 b hm o hb)
  refine ⟨_, T.size, T.none_, fun b o e => k b o e, ⟨B.stack, fun b o e => T.other b o (B.stays b o e) fun hm => ?_, B.frames.of_keeps fun b o hb _ => ?_⟩, fun b o e n => ?_, fun h'' hk' => ⟨hk'.1, fun b hb o ho => ?_⟩⟩
  · rw [(B.frames.mem hm).1] at e; cases e
  · obtain ⟨sl, hs⟩ := T.up hb
    exact ⟨_, hs, rfl⟩
  · rw [ktsHeap_ne _ n] at e
    exact full b o e n
  · obtain ⟨sl, hs⟩ := T.frame b o ho hb
    obtain ⟨sl', hs'⟩ := hk'.2 b hb _ hs
    exact ⟨sl', hs'⟩

section
variable {prog : Program} {w : World} {A : Around} {E : Value → Shared → Prop} {s' : Shared} {base g g₁ h : Heap} {outer : List Env} {L a e : Addr} {m : Str → Option Value} {name : Str} {scope : Scope} {cd : Value}
  {b₀ : Stmt} {suite : List Stmt} {pos np : Pos} {rest : List ExceptHandler} {Q : Flow → Shared → Prop} {news S : List (Addr × Obj)} {KF : Frag}
  {p : Program} {loose : List Str} {mean : ExcName → Option Value} {mg mb : Str → Option Value} {x : Str}
  {nm q : Str} {N : Addr} {bs : List Value} {hdct : Bool} {sn : List Str} {sub : List Value} {ab : Bool} {col : Option Bool} {dd : Option Addr} {k0 k1 k2 k3 k5 : Option Value}

theorem caughtX (K : Below A base outer g) (full : ∀ b o, g.get? b = some o → b ∉ frs outer → base.get? b = some o) (F : Fr g L h m) (NW : News g L h news) (hg : g₁.StaysIn h) (hgk : ∀ b o, h.get? b = some o → (∀ q ∈ S, q.1 ≠ b) → g₁.get? b = some o) (hS : ∀ q ∈ S, q ∈ news)
    (X : XR g₁ (envOf name scope L a cd :: outer) e S s'.heap) (XB : KF.In base) (TB : Top p loose mean mg mb base) (ex : nsIn KF mainGlobals x = some (some (.ref 44)))
    (hC : KF.lookup 44 = some (excClassObj nm q 44 N bs bmNF hdct sn sub ab col dd k0 k1 k2 k3 k5 "Exception.__new__"))
    (k : ∀ h' g', g'.objs.size = g.objs.size → g'.StaysIn h' → Below A base outer g' → (∀ b o, g'.get? b = some o → b ∉ frs outer → base.get? b = some o) → (∀ h'', Kept base g' outer h'' → Kept base g outer h'') → Fr g' L h' m → News g' L h' news →
      wpAny (model prog w) ((A.deeper (envOf name scope L a cd)).mark (some (.ref e))) (execs (b₀ :: suite) (envOf name scope L a cd)) Q E { s' with heap := h' })
    (hk : scope.kind = .function := by rfl) (hx : (envOf name scope L a cd).kindOf x = some .globalImplicit := by rfl) (hd : (x == ("__debug__" : Str)) = false := by decide)
    (hE : PassesOwnAt (model prog w) ((A.deeper (envOf name scope L a cd)).mark (some (.ref e))) (A.deeper (envOf name scope L a cd)) (envOf name scope L a cd) E := by passes_own) :
    wpAny (model prog w) (A.deeper (envOf name scope L a cd)) (noteFrame (.ref e) (envOf name scope L a cd))
      (fun _ s₂ => wpAny (model prog w) (A.deeper (envOf name scope L a cd)) (setFlight (.ref e) none) (fun _ s₃ =>
        wpAny (model prog w) (A.deeper (envOf name scope L a cd)) (handleBy (.ref e) (envOf name scope L a cd) (.ExceptHandler (some (.Name x np)) none (b₀ :: suite) pos :: rest)) Q E s₃) E s₂) E s' := by
  obtain ⟨up, B, a0, stB, hB, fl⟩ := xr_up K F NW hg hgk hS X
  -- the own frame's names are on h up to slots
  have upL : g₁.UpToSlots s'.heap := X.1
  have nsL : s'.heap.Ns L m := by
    obtain ⟨oL, es, ep, hL, hd', r⟩ := F.ns
    have hL1 : g₁.get? L = some oL := hgk _ _ hL fun q hq e1 => (NW q (hS q hq)).2.1 e1
    exact upL.ns ⟨oL, es, ep, hL1, hd', r⟩
  have turn : ∀ {h₅ : Heap}, s'.heap.UpToSlots h₅ → B.StaysIn h₅ → ∃ g', g'.objs.size = g.objs.size ∧ g'.StaysIn h₅ ∧ Below A base outer g' ∧ (∀ b o, g'.get? b = some o → b ∉ frs outer → base.get? b = some o) ∧ (∀ h'', Kept base g' outer h'' → Kept base g outer h'') ∧ Fr g' L h₅ m ∧ News g' L h₅ news := by
    intro h₅ u5 b5
    have kept : Kept base g outer h₅ := by
      refine ⟨fun b o hb => b5 _ _ (stB _ _ (hideAll_get _ (K.stays b o hb) fun hm => ?_)), fun b hb o ho => ?_⟩
      · rw [(K.frames.mem hm).1] at hb; cases hb
      · obtain ⟨o', ho', hnf⟩ := (K.frames.mem hb).2
        rw [ho] at ho'; cases ho'
        exact (up.trans u5) b o ho hnf
    obtain ⟨g', z1, z2, z3, z4, z5, z6⟩ := turned K full kept
    refine ⟨g', z1, z3, z4, z5, z6, ⟨u5.ns nsL, z3, by rw [z1]; exact F.above⟩, fun q hq => ⟨b5 _ _ (hB q hq).1, (NW q hq).2.1, z2 _ (hB q hq).2⟩⟩
  refine wpAny_looks_onW (Around.frames_deeper K.stack) rfl fl fun h₄ hheld₄ hsm₄ => ?_
  refine wpAny_landsW hheld₄ fun h₅ hheld hsm₅' => ?_
  have hsm₅ := hsm₄.trans hsm₅'
  obtain ⟨g5, _, y3, y4, _, _, F₅, _⟩ := turn hsm₅ hheld.1
  obtain ⟨ob, hob, hobc⟩ := hheld.there
  have T5 : Top p loose mean mg mb g5 := TB.keeps y4.stays
  refine wpAny_handleBy_cons (codeAny_handlers_test (name_K F₅ (XB.keeps y4.stays) (topRead_of T5) ex ?_ hk hx hd)) (by intro q; cases q)
  refine wpAny_excMatches_sub_self (F₅.keep _ _ (y4.stays _ _ (XB _ _ hC))) hob hobc (by decide) (codeAny_handlers_suite ?_)
  refine lands_againW hheld fun h₆ hfl₆ hsm₆ => ?_
  obtain ⟨g6, x1, x3, x4, x5, x6, F₆, N₆⟩ := turn (hsm₅.trans hsm₆) hfl₆.1
  exact wpAny_passesOwnAt hE (k h₆ g6 x1 x3 x4 x5 x6 F₆ N₆)
end
theorem off_part06_told : True := by w_top off; trivial
theorem evalArgs_nothing {M : Model} {A : Around} {E : Value → Shared → Prop} {s : Shared} {f : Value} {pos : Pos} {env : Env} {Q : Args → Shared → Prop} (h : Q ⟨[], []⟩ s) : wpAny M A (evalArgs f true (backTo pos (starEach [] env)) []) Q E s := evalArgs_nil3 h
/-- what a call asks and gives: S the objects that may turn -/
def CallC (w : World) (p : Program) (loose : List Str) (mean : ExcName → Option Value) (mg mb : Str → Option Value) (lvl dp un : Nat) (gd : Option (List Code)) (outer : List Env) (base : Heap) (f : Addr) (args : List Value) (S : List (Addr × Obj)) (POk : Heap → Value → Heap → Prop) (PErr : Prop) : Prop :=
  ∀ (env : Env) (g' base' : Heap) (s' : Shared) (R' : Result → Shared → Prop), base.StaysIn base' → Gd w p loose mean mg mb lvl (dp + 1) (un + 3) gd (env :: outer) base' g' s' → Sep g' s'.heap S →
    (∀ v h' tk, g'.StaysIn h' → POk g' v h' → R' (.ok (.ret v)) { s' with heap := h', toks := tk }) →
    (∀ e h' tk, PErr → XR g' (env :: outer) e S h' → R' (.error (.ref e)) { s' with heap := h', toks := tk }) →
    codeAny (model PySem.Challenge.rw_nu0058_01.row.prog w) (Ar (dp + 1) (un + 3) gd (env :: outer)) (.call (.ref f) ⟨args, []⟩) R' s'

theorem use_call {w : World} {p : Program} {loose : List Str} {mean : ExcName → Option Value} {mg mb : Str → Option Value} {lvl dp un : Nat} {gd : Option (List Code)} {outer : List Env} {A₀ : Around} {base h₀ : Heap} {s : Shared}
    {L : Addr} {m : Str → Option Value} {env : Env} {news S : List (Addr × Obj)} {f : Addr} {args : List Value} {POk : Heap → Value → Heap → Prop} {PErr : Prop} {Q E : Value → Shared → Prop}
    (hc : CallC w p loose mean mg mb lvl dp un gd outer base f args S POk PErr) (B : Below A₀ base outer h₀) (F : Fr h₀ L s.heap m) (N : News h₀ L s.heap news) (XB : (hd.heap_39 w.params).In base) (TB : Top p loose mean mg mb base) (hf : env.frame = some L) (hke : env.scope.kind = .function)
    (hS : ∀ q ∈ S, q ∈ news) (hdp : dp + 1 + lvl < recursionLimit) (hun : un + 3 + 16 * lvl + 100 < cLine)
    (h : ∀ v h' tk, (subG s S).StaysIn h' → POk (subG s S) v h' → Q v { s with heap := h', toks := tk })
    (he : ∀ e h' tk, PErr → XR (subG s S) (env :: outer) e S h' → E (.ref e) { s with heap := h', toks := tk }) :
    wpAny (model PySem.Challenge.rw_nu0058_01.row.prog w) (Ar (dp + 1) (un + 3) gd (env :: outer)) (call (.ref f) args) Q E s := by
  obtain ⟨G', S', bs⟩ := Gd.sub (lvl := lvl) (dp := dp + 1) (un := un + 3) (gd := gd) B F N XB TB hf hke hS hdp hun
  exact wpAny_call (hc _ _ _ _ _ bs G' S' h he)
theorem stays_sub {g h : Heap} {L : Addr} {m : Str → Option Value} {S : List (Addr × Obj)} (F : Fr g L h m) (N : News g L h S) : g.StaysIn (hideAll h (S.map (·.1))) := fun b o e => hideAll_get _ (F.keep _ _ e) fun hm => by
  obtain ⟨q, hq, rfl⟩ := List.mem_map.mp hm
  rw [(N q hq).2.2] at e; cases e
theorem sub_get {h : Heap} {S : List (Addr × Obj)} {b : Addr} {o : Obj} (e : h.get? b = some o) (n : ∀ q ∈ S, q.1 ≠ b) : (hideAll h (S.map (·.1))).get? b = some o := hideAll_get _ e fun hm => by
  obtain ⟨q, hq, e1⟩ := List.mem_map.mp hm
  exact n q hq e1
set_option maxHeartbeats 1000000 in
theorem toldS {w : World} {p : Program} {loose : List Str} {mean : ExcName → Option Value} {mg mb : Str → Option Value} {dp un : Nat} {gd : Option (List Code)} {outer : List Env} {base g : Heap} {s : Shared} {R : Result → Shared → Prop}
    {fl : Addr} {fo : Obj} {fd : FuncData} {S : List (Addr × Obj)} {POk : Heap → Value → Heap → Prop} {PErr : Prop} (G : Gd w p loose mean mg mb 20 dp un gd outer base g s) (N : Sep g s.heap S)
    (hfo : base.get? fl = some fo) (hfd : fo.data = .func fd) (hc : CallC w p loose mean mg mb 19 dp un gd outer base fl [] S POk PErr)
    (mono : ∀ g' v h', g.StaysIn g' → POk g' v h' → POk g v h')
    (hret : ∀ v h' tk, g.StaysIn h' → POk g v h' → R (.ok (.ret v)) { s with heap := h', toks := tk })
    (hrefuse : ∀ t h' tk, PErr → Kept base g outer h' → Sep g h' S → R (.ok (.ret (.str (Str.ofString "refused") t))) { s with heap := h', toks := tk }) :
    codeAny (model PySem.Challenge.rw_nu0058_01.row.prog w) (Ar dp un gd outer) (.call (.ref 239) ⟨[.ref fl], []⟩) R s := by
  have X := G.X
  have T := G.T
  obtain ⟨B, XB, TB, full, st, sz, hdp, hun⟩ := G
  have hfill : (PySem.Challenge.rw_nu0058_01.row.prog = PySem.Challenge.rw_nu0058_01.row.prog) ∧ (hd.heap_39 = hd.heap_39) → True := fun _ => trivial
  revert hfill; k_fill; intro hfill; clear hfill
  refine' enterS ?k1 ?k2 ?k3 ?k4 ?k5 ?kN ?k6 ?k7 ?k8 ?k9 ?kB ?_ ?c5 ?c2 ?c3 ?c4
  (case k1 => assumption)
  (case k2 => assumption)
  (case k3 => assumption)
  (case k4 => assumption)
  (case k5 => assumption)
  (case kN => assumption)
  (case k6 => k_is)
  (case k7 => k_is)
  (case k8 => k_room)
  (case k9 => first | exact BindsTo.of_eq rfl | exact binds_K (X.keeps st) rfl (by k_is) rfl rfl rfl)
  (case c5 => decide)
  (case kB => exact locs rfl)
  (case c2 => exact rfl)
  (case c3 => exact rfl)
  (case c4 => exact rfl)
  k_whole
  intro L' h' F' N' l1; (try k_lt l1); (try dsimp only); (try k_fold)
  w_strict k_steps
  (rename Fr _ _ _ _ => F1); (rename News _ _ _ _ => N1)
  refine callWith_of (P := fun h => h.get? fl = some fo) rfl (fun h ho => ⟨.frame, .inl rfl, ?_⟩) (evalArgs_nothing ⟨?_, ?_⟩)
  · intro A Q E s k q
    unfold keeperOf
    refine wpAny_bind (wpAny_load (k _ _ ho) ?_)
    rw [hfd]
    exact wpAny_pure q
  · exact F1.keep _ _ (B.stays _ _ hfo)
  · refine' use_call hc B F1 N1 XB TB ?k6 ?k7 (fun _ h => h) (by (try dsimp only [Around.deeper]); omega) (by (try dsimp only [Around.deeper]); omega) (fun v h' tk k1 hp => ?_) (fun e h' tk hpe xr => ?_)
    case k6 => exact rfl
    case k7 => exact rfl
    · dsimp only
      k_unfold
      dsimp only
      exact hret v h' tk (fun b o e => k1 _ _ (stays_sub F1 N1 _ _ e)) (mono _ _ _ (stays_sub F1 N1) hp)
    · dsimp only
      refine' caughtX B full F1 N1 (fun b o e => of_hideAll _ e) (fun b o e n => sub_get e n) (fun _ h => h) xr XB TB ?ex ?hC ?k
      case ex => k_is
      case hC => k_is
      case k =>
        intro h6 g6 z1 z2 B6 full6 kk F6 N6
        clear F1 N1
        have X6 := XB.keeps B6.stays
        have T6 := TB.keeps B6.stays
        w_strict k_steps
        all_goals (try dsimp only)
        all_goals exact hrefuse _ _ _ hpe (kk _ (Kept.of_stays B6 (Fr.keep (by assumption)))) (fun q hq => ⟨(N6 q hq).1, (N q hq).2⟩)
theorem off_part07_bind : True := by w_top off; trivial
section
variable {M : Model} {A : Around} {E : Value → Shared → Prop} {env : Env}
variable {nm q : Str} {N : Addr} {bs : List Value} {hdct : Bool} {sn : List Str} {sub : List Value} {ab : Bool} {col : Option Bool} {dd : Option Addr} {k0 k1 k2 k3 k5 : Option Value}
theorem nf_raiseStmt {s : Shared} {x : Sem Value} {Q : Flow → Shared → Prop} (hh : A.handled = none)
    (h : wpAny M A x (fun v s₁ => ∃ e t dx, v = .ref e ∧ s₁.heap.get? 44 = some (excClassObj nm q 44 N bs bmNF hdct sn sub ab col dd k0 k1 k2 k3 k5 "Exception.__new__") ∧
      s₁.heap.get? e = some (excD t dx) ∧ E (.ref e) s₁) E s) :
    wpAny M A (raiseStmt env (some x) none) Q E s := by
  have hcB : (Value.ref 44 :: bmNF).contains (.type "BaseException") = true := by decide
  unfold raiseStmt
  refine wpAny_bind (wpAny_mono h (fun v s₁ h₁ => ?_) fun _ _ x => x)
  obtain ⟨e, t, dx, rfl, hC, he, hE⟩ := h₁
  obtain ⟨hp, g, d, tk, os⟩ := s₁
  repeat (first | with_reducible refine wpAny_loadPart_at he ?_ | with_reducible refine wpAny_loadPart_at hC ?_ | (with_reducible refine wpAny_isSubtype_exc hC ?_; rw [hcB]) | wp_step)
  exact wpAny_raiseNew_none hh hE
end
section
variable {w : World} {p : Program} {loose : List Str} {mean : ExcName → Option Value} {mg mb : Str → Option Value} {dp un : Nat} {gd : Option (List Code)} {outer : List Env} {base g : Heap} {s : Shared} {L a : Addr} {m : Str → Option Value}
  {name : Str} {scope : Scope} {cd : Value} {news : List (Addr × Obj)} {E : Value → Shared → Prop} {Q : Flow → Shared → Prop} {A₀ : Around}
  {nm q : Str} {N : Addr} {bs : List Value} {hdct : Bool} {sn : List Str} {sub : List Value} {ab : Bool} {col : Option Bool} {dd : Option Addr} {k0 k1 k2 k3 k5 : Option Value} {x : Str} {np cpos pos : Pos}
theorem nf_make {msg : Str} {tm : Tok} {Q : Value → Shared → Prop} (B : Below A₀ base outer g) (F : Fr g L s.heap m) (NW : News g L s.heap news) (XB : (hd.heap_39 w.params).In base) (TB : Top p loose mean mg mb base)
    (hk : scope.kind = .function) (hC : (hd.heap_39 w.params).lookup 44 = some (excClassObj nm q 44 N bs bmNF hdct sn sub ab col dd k0 k1 k2 k3 k5 "Exception.__new__"))
    (hi : findIn (hd.heap_39 w.params) (.ref 44) "__init__" = some (some (.ref 28))) {oI : Obj} (hfI : (hd.heap_39 w.params).lookup 28 = some oI) (hfc : oI.cls = .type "function")
    (hdp : dp + 3 < recursionLimit) (hun : un + 200 < cLine)
    (h : ∀ h' e t dx tk, XM s.heap h' e → h'.get? e = some (excD t dx) → Q (.ref e) { s with heap := h', toks := tk }) :
    wpAny (model PySem.Challenge.rw_nu0058_01.row.prog w) (Ar dp un gd (envOf name scope L a cd :: outer)) (call (.ref 44) [.str msg tm]) Q E s := by
  have X : (hd.heap_39 w.params).In s.heap := (XB.keeps B.stays).keeps F.keep
  obtain ⟨hh, g1, d, t, os⟩ := s
  refine nf_call X (X _ _ hC) hi (X _ _ hfI) hfc (fun h' e hm => ?_) (by size_fits)
  obtain ⟨t0, he, _, _⟩ := hm.there
  obtain ⟨F', N', _⟩ := news_sep (S := [(e, excO t0)]) (s := ⟨hh, g1, d, t, os⟩) F NW hm.keeps (fun q hq => by rw [List.mem_singleton.mp hq]; exact ⟨he, hm.new⟩)
  show wpAny _ (Ar (dp + 1) (un + 1) gd (envOf name scope L a cd :: outer)) _ _ _ _
  obtain ⟨G', S', bs⟩ := Gd.sub (S := [(e, excO t0)]) (s := ⟨h', g1, d, t, os⟩) (lvl := 2) (dp := dp + 1) (un := un + 1) (gd := gd) (env := envOf name scope L a cd) B F' N' XB TB rfl hk (fun q hq => by rw [List.mem_singleton.mp hq]; exact .head _) (by omega) (by omega)
  refine wpAny_call (initS G' S' fun h'' tk t1 dx k1 hs => ⟨rfl, ?_⟩)
  refine h h'' e t1 dx tk ⟨fun b o hb => k1 _ _ (sub_get (hm.keeps _ _ hb) fun q hq e1 => ?_), hm.new, t1, dx, (hs _ (.head _)).1⟩ (hs _ (.head _)).1
  rw [List.mem_singleton.mp hq] at e1
  have h2 := hm.new
  dsimp only at h2 e1 hb
  rw [e1, hb] at h2; cases h2

theorem raiseNF {e₀ : PySem.Expr} {A : Around} (hA : A = Ar dp un gd (envOf name scope L a cd :: outer)) (B : Below A₀ base outer g) (F : Fr g L s.heap m) (X : (hd.heap_39 w.params).In g) (T : Top p loose mean mg mb g) (XB : (hd.heap_39 w.params).In base) (TB : Top p loose mean mg mb base)
    (ex : nsIn (hd.heap_39 w.params) mainGlobals x = some (some (.ref 44)))
    (hC : (hd.heap_39 w.params).lookup 44 = some (excClassObj nm q 44 N bs bmNF hdct sn sub ab col dd k0 k1 k2 k3 k5 "Exception.__new__"))
    (hi : findIn (hd.heap_39 w.params) (.ref 44) "__init__" = some (some (.ref 28))) {oI : Obj} (hfI : (hd.heap_39 w.params).lookup 28 = some oI) (hfc : oI.cls = .type "function")
    (hdp : dp + 3 < recursionLimit) (hun : un + 200 < cLine)
    (h : wpAny (model PySem.Challenge.rw_nu0058_01.row.prog w) (Ar dp un gd (envOf name scope L a cd :: outer)) (spliced (backTo cpos (starEach [e₀] (envOf name scope L a cd)))) (fun vs s₂ => ∃ msg tm m' news', vs = [.str msg tm] ∧ Fr g L s₂.heap m' ∧ News g L s₂.heap news' ∧
      ∀ h' e tk, XM s₂.heap h' e → E (.ref e) { s₂ with heap := h', toks := tk }) E s)
    (he : starEach [e₀] (envOf name scope L a cd) = (false, eval e₀ (envOf name scope L a cd)) :: starEach [] (envOf name scope L a cd) := by rfl)
    (hk : scope.kind = .function := by rfl) (hx : (envOf name scope L a cd).kindOf x = some .globalImplicit := by rfl) (hd : (x == ("__debug__" : Str)) = false := by decide) :
    wpAny (model PySem.Challenge.rw_nu0058_01.row.prog w) A (exec (.Raise (some (.Call (.Name x np) [e₀] [] cpos)) none pos) (envOf name scope L a cd)) Q E s := by
  subst hA
  rw [arm_exec_Raise]
  have Xs : ∀ {h' m'}, Fr g L h' m' → h'.get? 44 = some (excClassObj nm q 44 N bs bmNF hdct sn sub ab col dd k0 k1 k2 k3 k5 "Exception.__new__") := fun F' => F'.keep _ _ (X _ _ hC)
  refine wpAny_bind (wpAny_standAt (nf_raiseStmt (nm := nm) (q := q) (N := N) (bs := bs) (hdct := hdct) (sn := sn) (sub := sub) (ab := ab) (col := col) (dd := dd) (k0 := k0) (k1 := k1) (k2 := k2) (k3 := k3) (k5 := k5) rfl
    (wpAny_bind (wpAny_mono (wpAny_Call_ofName (name_K F X (topRead_of T) ex ?_ hk hx hd)) (fun v s₃ h₃ => wpAny_bind (wpAny_standAt (wpAny_pure h₃))) fun _ _ x => x))))
  rw [he] at h ⊢
  refine callWith_of (P := fun h' => h'.get? 44 = some (excClassObj nm q 44 N bs bmNF hdct sn sub ab col dd k0 k1 k2 k3 k5 "Exception.__new__")) rfl (fun h' hc => ⟨.machine, .inr (.inl rfl), fun A Q E s k z => ?_⟩) (evalArgs_plain (wpAny_mono h (fun vs s₂ h₂ => ?_) fun _ _ y => y))
  · obtain ⟨hh, g1, d, t, os⟩ := s
    exact wpAny_keeperOf_exc (k _ _ hc) z
  · obtain ⟨msg, tm, m', news', rfl, F', N', hE⟩ := h₂
    refine ⟨Xs F', nf_make B F' N' XB TB hk hC hi hfI hfc hdp hun fun h' e t dx tk hm he' => ⟨e, t, dx, rfl, ?_, he', hE h' e tk hm⟩⟩
    exact hm.1 _ _ (Xs F')
end
local macro_rules | `(tactic| walk_at "exec Raise some none") => `(tactic| ((with_reducible refine' raiseNF ?hA ?k1 ?k2 ?k3 ?k4 ?k5 ?kg6 ?s1 ?s2 ?s3 ?s4 ?r1 ?k8 ?k9 ?_ ?r2 ?r3 ?r4 ?d); k_dflt ((case hA => exact rfl); (case k1 | k2 | k3 | k4 | k5 | kg6 => k_asm); (case s1 | s2 | s3 | s4 => k_is); (case r1 | r2 | r3 | r4 => rfl); (case k8 => k_room); (case k9 => k_units); (case d => decide); k_whole)))
local macro_rules | `(tactic| walk_at "Exists") => `(tactic| (k_here; k_dflt (refine' ⟨_, _, _, _, rfl, ?F, ?N, ?_⟩; walk_at "FN"; k_whole; intros)))
local macro_rules | `(tactic| walk_at "leaving ref") => `(tactic| (k_dflt (refine' leave_madeX ?k1 ?k2 ?k3 ?k4 ?_ ?k5; (case k1 | k3 | k4 => k_asm); (case k2 => assumption); (case k5 => rfl); k_whole; intros)))
theorem XR.sub {g h' : Heap} {outer : List Env} {e : Addr} {S S' : List (Addr × Obj)} (x : XR g outer e S h') (hs : ∀ q ∈ S', q ∈ S) : XR g outer e S' h' :=
  by obtain ⟨u, B, a0, st, hB, fl⟩ := x; exact ⟨u, B, a0, st, fun q hq => hB q (hs q hq), fl⟩
theorem XR.nil {g h' : Heap} {outer : List Env} {e : Addr} {S : List (Addr × Obj)} (x : XR g outer e S h') : XR g outer e [] h' := x.sub fun _ h => nomatch h
/-- a call that raises a NamespaceFault -/
def BadC (lvl : Nat) (f : Addr) (args : List Value) : Prop :=
  ∀ (w : World) (p : Program) (loose : List Str) (mean : ExcName → Option Value) (mg mb : Str → Option Value) (dp un : Nat) (gd : Option (List Code)) (outer : List Env) (base g : Heap) (s : Shared) (R : Result → Shared → Prop),
    Gd w p loose mean mg mb lvl dp un gd outer base g s → (∀ e tk h', XR g outer e [] h' → R (.error (.ref e)) { s with heap := h', toks := tk }) →
    codeAny (model PySem.Challenge.rw_nu0058_01.row.prog w) (Ar dp un gd outer) (.call (.ref f) ⟨args, []⟩) R s
def XMLU : Str := Str.ofString "http://www.w3.org/XML/1998/namespace"
def XMLNSU : Str := Str.ofString "http://www.w3.org/2000/xmlns/"
def okBinds : List (Str × Str) := [(Str.ofString "", Str.ofString "u"), (Str.ofString "", Str.ofString "v"), (Str.ofString "", Str.ofString "w"), (Str.ofString "", Str.ofString ""),
  (Str.ofString "p", Str.ofString "u"), (Str.ofString "p", Str.ofString "v"), (Str.ofString "p", Str.ofString "w"), (Str.ofString "q", Str.ofString "u"), (Str.ofString "q", Str.ofString "v"), (Str.ofString "q", Str.ofString "w"), (Str.ofString "xml", XMLU)]
def badBinds : List (Str × Str) := [(Str.ofString "p", Str.ofString ""), (Str.ofString "xmlns", Str.ofString "u"), (Str.ofString "xml", Str.ofString "u"), (Str.ofString "r", XMLU), (Str.ofString "r", XMLNSU), (Str.ofString "", XMLNSU), (Str.ofString "", XMLU), (Str.ofString "xml", XMLNSU)]
theorem okB_facts {x v : Str} (h : (x, v) ∈ okBinds) : (x == Str.ofString "xmlns") = false ∧ (((x == Str.ofString "xml") = true ∧ (v != Str.ofString "http://www.w3.org/XML/1998/namespace") = false) ∨
    ((x == Str.ofString "xml") = false ∧ ([Str.ofString "http://www.w3.org/XML/1998/namespace", Str.ofString "http://www.w3.org/2000/xmlns/"].any fun z => z == v) = false ∧ ((x != Str.ofString "") = false ∨ ((x != Str.ofString "") = true ∧ x ∈ words ∧ (v == Str.ofString "") = false)))) :=
  (show ∀ q ∈ okBinds, (q.1 == Str.ofString "xmlns") = false ∧ (((q.1 == Str.ofString "xml") = true ∧ (q.2 != Str.ofString "http://www.w3.org/XML/1998/namespace") = false) ∨
    ((q.1 == Str.ofString "xml") = false ∧ ([Str.ofString "http://www.w3.org/XML/1998/namespace", Str.ofString "http://www.w3.org/2000/xmlns/"].any fun z => z == q.2) = false ∧ ((q.1 != Str.ofString "") = false ∨ ((q.1 != Str.ofString "") = true ∧ q.1 ∈ words ∧ (q.2 == Str.ofString "") = false)))) from by decide +kernel) (x, v) h
theorem badB_len {x v : Str} (h : (x, v) ∈ badBinds) : x.length ≤ 1000 ∧ v.length ≤ 1000 := (show ∀ q ∈ badBinds, q.1.length ≤ 1000 ∧ q.2.length ≤ 1000 from by decide +kernel) (x, v) h
theorem badB_facts {x v : Str} (h : (x, v) ∈ badBinds) : (x == Str.ofString "xmlns") = true ∨ ((x == Str.ofString "xmlns") = false ∧ (((x == Str.ofString "xml") = true ∧ (v != Str.ofString "http://www.w3.org/XML/1998/namespace") = true) ∨
    ((x == Str.ofString "xml") = false ∧ (([Str.ofString "http://www.w3.org/XML/1998/namespace", Str.ofString "http://www.w3.org/2000/xmlns/"].any fun z => z == v) = true ∨ (([Str.ofString "http://www.w3.org/XML/1998/namespace", Str.ofString "http://www.w3.org/2000/xmlns/"].any fun z => z == v) = false ∧ (x != Str.ofString "") = true ∧ x ∈ words ∧ (v == Str.ofString "") = true))))) :=
  (show ∀ q ∈ badBinds, (q.1 == Str.ofString "xmlns") = true ∨ ((q.1 == Str.ofString "xmlns") = false ∧ (((q.1 == Str.ofString "xml") = true ∧ (q.2 != Str.ofString "http://www.w3.org/XML/1998/namespace") = true) ∨
    ((q.1 == Str.ofString "xml") = false ∧ (([Str.ofString "http://www.w3.org/XML/1998/namespace", Str.ofString "http://www.w3.org/2000/xmlns/"].any fun z => z == q.2) = true ∨ (([Str.ofString "http://www.w3.org/XML/1998/namespace", Str.ofString "http://www.w3.org/2000/xmlns/"].any fun z => z == q.2) = false ∧ (q.1 != Str.ofString "") = true ∧ q.1 ∈ words ∧ (q.2 == Str.ofString "") = true))))) from by decide +kernel) (x, v) h
set_option maxHeartbeats 8000000 in
theorem bindOk {x y : Str} {t u : Tok} (h : (x, y) ∈ okBinds) : PureC 12 133 [.str x t, .str y u] .none := by
  intro w p loose mean mg mb dp un gd outer base g s R G hret
  have X := G.X
  have T := G.T
  obtain ⟨B, XB, TB, full, st, sz, hdp, hun⟩ := G
  have N : Sep g s.heap [] := Sep.nil
  have hfill : (PySem.Challenge.rw_nu0058_01.row.prog = PySem.Challenge.rw_nu0058_01.row.prog) ∧ (hd.heap_39 = hd.heap_39) → True := fun _ => trivial
  revert hfill; k_fill; intro hfill; clear hfill
  refine' enterS ?k1 ?k2 ?k3 ?k4 ?k5 ?kN ?k6 ?k7 ?k8 ?k9 ?kB ?_ ?c5 ?c2 ?c3 ?c4
  (case k1 => assumption)
  (case k2 => assumption)
  (case k3 => assumption)
  (case k4 => assumption)
  (case k5 => assumption)
  (case kN => assumption)
  (case k6 => k_is)
  (case k7 => k_is)
  (case k8 => k_room)
  (case k9 => first | exact BindsTo.of_eq rfl | exact binds_K (X.keeps st) rfl (by k_is) rfl rfl rfl)
  (case c5 => decide)
  (case kB => exact locs rfl)
  (case c2 => exact rfl)
  (case c3 => exact rfl)
  (case c4 => exact rfl)
  k_whole
  intro L' h' F' N' l1; (try k_lt l1); (try dsimp only); (try k_fold)

  obtain ⟨f1, ⟨f2, f3⟩ | ⟨f2, f3, f4 | ⟨f4, f5, f6⟩⟩⟩ := okB_facts h
  all_goals (
    w_strict k_steps
    all_goals (try dsimp only)
    all_goals exact pure_end hret rfl (Fr.keep (by assumption)))
set_option maxHeartbeats 8000000 in
theorem bindBad {x y : Str} {t u : Tok} (h : (x, y) ∈ badBinds) : BadC 12 133 [.str x t, .str y u] := by
  intro w p loose mean mg mb dp un gd outer base g s R G hret
  have X := G.X
  have T := G.T
  obtain ⟨B, XB, TB, full, st, sz, hdp, hun⟩ := G
  have N : Sep g s.heap [] := Sep.nil
  have hfill : (PySem.Challenge.rw_nu0058_01.row.prog = PySem.Challenge.rw_nu0058_01.row.prog) ∧ (hd.heap_39 = hd.heap_39) → True := fun _ => trivial
  revert hfill; k_fill; intro hfill; clear hfill
  refine' enterS ?k1 ?k2 ?k3 ?k4 ?k5 ?kN ?k6 ?k7 ?k8 ?k9 ?kB ?_ ?c5 ?c2 ?c3 ?c4
  (case k1 => assumption)
  (case k2 => assumption)
  (case k3 => assumption)
  (case k4 => assumption)
  (case k5 => assumption)
  (case kN => assumption)
  (case k6 => k_is)
  (case k7 => k_is)
  (case k8 => k_room)
  (case k9 => first | exact BindsTo.of_eq rfl | exact binds_K (X.keeps st) rfl (by k_is) rfl rfl rfl)
  (case c5 => decide)
  (case kB => exact locs rfl)
  (case c2 => exact rfl)
  (case c3 => exact rfl)
  (case c4 => exact rfl)
  k_whole
  intro L' h' F' N' l1; (try k_lt l1); (try dsimp only); (try k_fold)
  obtain ⟨hxl, hyl⟩ := badB_len h
  rcases badB_facts h with f1 | ⟨f1, ⟨f2, f3⟩ | ⟨f2, f3 | ⟨f3, f4, f5, f6⟩⟩⟩
  all_goals (
    w_strict k_steps
    all_goals (try dsimp only)
    all_goals exact hret _ _ _ (XR.nil (by assumption)))
theorem off_part08_pairs : True := by w_top off; trivial
/-- tuples of two texts -/
inductive PairsAt (h : Heap) : List Value → List (Str × Str) → Prop
  | nil : PairsAt h [] []
  | cons {a : Addr} {x y : Str} {t u : Tok} {n : Nat} {vs : List Value} {l : List (Str × Str)} : h.get? a = some (tupO [.str x t, .str y u] n) → PairsAt h vs l → PairsAt h (.ref a :: vs) ((x, y) :: l)
theorem PairsAt.keep {h h' : Heap} {vs : List Value} {l : List (Str × Str)} (x : PairsAt h vs l) (k : h.StaysIn h') : PairsAt h' vs l := by
  induction x with
  | nil => exact .nil
  | cons e _ ih => exact .cons (k _ _ e) ih
theorem PairsAt.length {h : Heap} {vs : List Value} {l : List (Str × Str)} (x : PairsAt h vs l) : vs.length = l.length := by
  induction x with
  | nil => rfl
  | cons _ _ ih => simp [ih]
theorem PairsAt.get {h : Heap} {vs : List Value} {l : List (Str × Str)} (x : PairsAt h vs l) : ∀ {i : Nat} {v : Value}, vs[i]? = some v → ∃ a x y t u n, v = .ref a ∧ h.get? a = some (tupO [.str x t, .str y u] n) ∧ l[i]? = some (x, y) := by
  induction x with
  | nil => intro i v e; simp at e
  | @cons a x y t u n vs l ha _ ih =>
    intro i v e
    cases i with
    | zero => simp at e; exact ⟨a, x, y, t, u, n, e.symm, ha, by simp⟩
    | succ i => simp at e; obtain ⟨b, x', y', t', u', n', h1, h2, h3⟩ := ih e; exact ⟨b, x', y', t', u', n', h1, h2, by simpa using h3⟩
theorem PairsAt.append {h : Heap} {vs us : List Value} {l k : List (Str × Str)} (x : PairsAt h vs l) (y : PairsAt h us k) : PairsAt h (vs ++ us) (l ++ k) := by
  induction x with
  | nil => exact y
  | cons e _ ih => exact .cons e ih
/-- a tuple of pairs -/
def RowAt (h : Heap) (r : Addr) (l : List (Str × Str)) : Prop := ∃ vs n, h.get? r = some (tupO vs n) ∧ PairsAt h vs l
theorem RowAt.keep {h h' : Heap} {r : Addr} {l : List (Str × Str)} (x : RowAt h r l) (k : h.StaysIn h') : RowAt h' r l := by obtain ⟨vs, n, a, b⟩ := x; exact ⟨vs, n, k _ _ a, b.keep k⟩

inductive PairTurn (h₀ : Heap) (L I : Addr) (itO : Obj) (J : (Str → Option Value) → List (Addr × Obj) → Prop) (s₁ : Shared) (f : Flow) (s₂ : Shared) : Prop
  | mk (_ : f = .next) (h' tk m' news' : _) (_ : s₂ = { s₁ with heap := h', toks := tk }) (_ : Fr h₀ L h' m') (_ : News h₀ L h' ((I, itO) :: news')) (_ : (∀ p ∈ news', p.1 ≠ I)) (_ : J m' news') : PairTurn h₀ L I itO J s₁ f s₂

/-- a walk by a for statement: the turn sees that no more than heap and tokens has turned -/
inductive LoopS (prog : Program) (w : World) (A : Around) (h₀ : Heap) (env : Env) (target : PySem.Expr) (body : List Stmt) (Q : Flow → Shared → Prop) (E : Value → Shared → Prop) (it : Value) (s : Shared) : Prop
  | mk (I : Addr) (fp wr : List Addr) (n : Nat) (P : Nat → Value → Prop) (St : Nat → Heap → Prop) (m : Str → Option Value) (news : List (Addr × Obj)) (J : Nat → (Str → Option Value) → List (Addr × Obj) → Prop) (_ : it = .ref I) (_ : Walks prog w A I fp wr n P St) (_ : env.locals ∉ fp) (_ : (∀ b ∈ wr, h₀.get? b = none)) (_ : (∀ p ∈ news, p.1 ∉ wr)) (_ : St 0 s.heap) (_ : Fr h₀ env.locals s.heap m) (_ : News h₀ env.locals s.heap news) (_ : (∀ i (s' : Shared) v (Q' : Unit → Shared → Prop), St i s'.heap → Q' () s' → wpAny (model prog w) A (letOwnedTupleGo target (.ref I) v) Q' E s')) (_ : J 0 m news) (_ : (∀ i v m₁ news₁ h₁ tk₁ own, i < n → P i v → J i m₁ news₁ → (∀ p ∈ news₁, p.1 ∉ wr) → (∀ p ∈ own, p.1 ∈ fp) → (∀ p ∈ own, h₁.get? p.1 = some p.2) → (∀ b ∈ fp, h₀.get? b = none → ∀ o, h₁.get? b = some o → (b, o) ∈ own) → St (i + 1) h₁ → Fr h₀ env.locals h₁ m₁ → News h₀ env.locals h₁ (own ++ news₁) → wpAny (model prog w) A (assign target env v) (fun _ s₃ => wpAny (model prog w) A (execs body env) (LoopStepU h₀ env.locals wr own (J (i + 1)) { s with heap := h₁, toks := tk₁ }) E s₃) E { s with heap := h₁, toks := tk₁ })) (_ : ∀ h' tk m' news', Fr h₀ env.locals h' m' → News h₀ env.locals h' news' → (∀ p ∈ news', p.1 ∉ wr) → J n m' news' → Q .next { s with heap := h', toks := tk }) : LoopS prog w A h₀ env target body Q E it s
inductive InvS (h₀ : Heap) (L : Addr) (wr : List Addr) (n : Nat) (St : Nat → Heap → Prop) (J : Nat → (Str → Option Value) → List (Addr × Obj) → Prop) (s : Shared) (k : Nat) (s' : Shared) : Prop
  | mk (i : Nat) (h : Heap) (tk : Nat) (m' : Str → Option Value) (news' : List (Addr × Obj)) (_ : k = n + 1 - i) (_ : i ≤ n) (_ : s' = { s with heap := h, toks := tk }) (_ : St i h) (_ : Fr h₀ L h m') (_ : News h₀ L h news') (_ : ∀ p ∈ news', p.1 ∉ wr) (_ : J i m' news') : InvS h₀ L wr n St J s k s'
theorem LoopS.loop {prog : Program} {w : World} {A : Around} {E : Value → Shared → Prop} {s : Shared} {env : Env} {h₀ : Heap} {target : PySem.Expr} {body : List Stmt} {Q : Flow → Shared → Prop} {it : Value} (x : LoopS prog w A h₀ env target body Q E it s) (hE : PassesOwn (model prog w) A env E) :
    codeAny (model prog w) A (.forLoop target it body [] env) (fun r s' => match r with | .ok f => Q f s' | .error e => cameBackBy (model prog w) A env E e s') s := by
  obtain ⟨I, fp, wr, n, P, St, m, news, J, rfl, W, hLf, hwr, hnw, hst, F, N, hgo, h0, step, hR⟩ := x
  refine codeAny_forLoop_any (InvS h₀ env.locals wr n St J s) ?_ (n + 1)
    ⟨0, s.heap, s.toks, m, news, rfl, Nat.zero_le _, rfl, hst, F, N, hnw, h0⟩
  rintro k s' ⟨i, h, tk, m', news', rfl, hi, rfl, hst, F, N, hnw, hJ⟩
  have nxt : ∀ h₁ : Heap, (∀ b o, b ∉ wr → h.get? b = some o → h₁.get? b = some o) → Fr h₀ env.locals h₁ m' ∧ News h₀ env.locals h₁ news' := fun h₁ k =>
    ⟨⟨F.ns.at' fun o e => k _ o (fun z => hLf (W.sub _ z)) e, fun b o e => k b o (fun z => by rw [hwr b z] at e; cases e) (F.keep b o e), F.above⟩, fun p hp => ⟨k _ _ (hnw p hp) (N p hp).1, (N p hp).2⟩⟩
  rcases Nat.lt_or_ge i n with hlt | hge
  · refine W.item i _ _ _ hlt hst fun v h₁ tk₁ hP hst₁ k₁ => ?_
    obtain ⟨F₁, N₁⟩ := nxt h₁ k₁
    have No : News h₀ env.locals h₁ (ownOf h₀ fp h₁) := news_ownOf hLf
    refine wpAny_passesOwn hE (hgo (i + 1) _ v _ hst₁ (wpAny_passesOwn hE (wpAny_mono (step i v m' news' h₁ tk₁ _ hlt hP hJ hnw ownOf_sub (fun p hp => (No p hp).1) (fun b hb hn o e => mem_ownOf hb hn e) hst₁ F₁ (No.append N₁)) (fun _ s₂ z => ?_) fun _ _ e => e)))
    refine wpAny_mono z (fun f s₃ z => ?_) hE
    obtain ⟨rfl, h₃, tk₃, m₂, news₂, rfl, F₃, N₃, off₃, hJ₃⟩ := z
    refine ⟨n + 1 - (i + 1), sub_dec hlt, i + 1, h₃, tk₃, m₂, news₂, rfl, hlt, rfl, W.frame _ _ _ hst₁ fun b hb o e => ?_, F₃, N₃.right, off₃, hJ₃⟩
    cases hn : h₀.get? b with
    | none => exact (N₃ _ (List.mem_append_left _ (mem_ownOf hb hn e))).1
    | some o₀ =>
      have z := F₁.keep b o₀ hn
      rw [e] at z
      rw [Option.some.inj z]
      exact F₃.keep b o₀ hn
  · obtain rfl : i = n := Nat.le_antisymm hi hge
    refine W.done _ _ _ hst fun h₁ tk₁ k₁ => wpAny_execs_nil ?_
    obtain ⟨F₁, N₁⟩ := nxt h₁ k₁
    exact hR h₁ tk₁ m' news' F₁ N₁ hnw hJ
theorem For_S {prog : Program} {w : World} {A : Around} {E : Value → Shared → Prop} {s : Shared} {env : Env} {h₀ : Heap} {target iter : PySem.Expr} {pos : Pos} {body : List Stmt} {Q : Flow → Shared → Prop} {m : Str → Option Value} (_F : Fr h₀ env.locals s.heap m)
    (h : wpAny (model prog w) A (eval iter env) (fun xv s₁ => wpAny (model prog w) A (pyIter xv) (fun it s₂ => LoopS prog w A h₀ env target body Q E it s₂) E s₁) E s)
    (hs : ∀ x, foldedSetIterable iter env x = pure x) (hE : PassesOwn (model prog w) A env E := by passes_own) :
    wpAny (model prog w) A (exec (.For target iter body [] pos) env) Q E s :=
  wpAny_For (wpAny_mono h (fun _ _ h₁ => wpAny_mono h₁ (fun _ _ h₂ => h₂.loop hE) fun _ _ e => e) fun _ _ e => e) hs

section
variable {prog : Program} {w : World} {A : Around} {E : Value → Shared → Prop} {s : Shared} {env : Env} {h₀ : Heap} {xi xc : Str} {pk pv pt : Pos} {x1 : Nat} {body : List Stmt} {Q : Flow → Shared → Prop} {r : Addr} {vs : List Value} {n : Nat} {l : List (Str × Str)}
  {m : Str → Option Value} {news : List (Addr × Obj)}
theorem pairs_iter (hh : A.handled = none) (hxi : env.kindOf xi = some .local) (hxc : env.kindOf xc = some .local) (hp : (env.scope.kind == .class || (env.scope.kind == .module && env.locals != env.globals)) = false)
    (hr : h₀.get? r = some (tupO vs n)) (hps : PairsAt h₀ vs l) (F : Fr h₀ env.locals s.heap m) (N : News h₀ env.locals s.heap news)
    (J : List (Str × Str) → (Str → Option Value) → List (Addr × Obj) → Prop) (h0 : J [] m news)
    (turn : ∀ pre x y post t u m₁ news₁ I itO h₁ tk₁, l = pre ++ (x, y) :: post → J pre m₁ news₁ → (∀ p ∈ news₁, p.1 ≠ I) → itO.cls = .type "tuple_iterator" → Fr h₀ env.locals h₁ (fun z => if z = xc then some (.str y u) else if z = xi then some (.str x t) else m₁ z) → News h₀ env.locals h₁ ((I, itO) :: news₁) →
      wpAny (model prog w) A (execs body env) (PairTurn h₀ env.locals I itO (J (pre ++ [(x, y)])) s) E { s with heap := h₁, toks := tk₁ })
    (done : ∀ h' tk m' news', Fr h₀ env.locals h' m' → News h₀ env.locals h' news' → J l m' news' → Q .next { s with heap := h', toks := tk }) :
    wpAny (model prog w) A (pyIter (.ref r)) (fun it s₂ => LoopS prog w A h₀ env (.Tuple [.Name xi pk, .Name xc pv] x1 pt) body Q E it s₂) E s := by
  have ht : s.heap.IsTuple r vs.toArray := ⟨_, F.keep _ _ hr, rfl, n, rfl⟩
  have hlt : r < h₀.objs.size := Heap.lt_size hr
  have hne : r ≠ s.heap.objs.size := Nat.ne_of_lt (Nat.lt_trans (Nat.lt_of_lt_of_le hlt F.above) F.ns.lt)
  refine wpAny_pyIter_tuple ht ?_
  have W := Walks.tuple (prog := prog) (w := w) hh s.heap.objs.size r hne vs.toArray
  have hlen : vs.toArray.size = l.length := by simp [hps.length]
  rw [hlen] at W
  refine ⟨_, _, _, l.length, _, _, m, news, fun i m₁ news₁ => J (l.take i) m₁ news₁, rfl, W, ?_, ?_, ?_, ⟨⟨_, Heap.get?_push_size _ rfl, rfl, rfl⟩, ?_⟩, F.push _, (fun p hp => ⟨Heap.get?_push_of_some _ (N p hp).1, (N p hp).2⟩), ?_, by simpa using h0, ?_, ?_⟩
  · intro hm
    rcases List.mem_cons.mp hm with e | hm
    · exact absurd F.ns.lt (e ▸ Nat.lt_irrefl _)
    · exact absurd (Nat.lt_of_lt_of_le hlt F.above) ((List.mem_singleton.mp hm) ▸ Nat.lt_irrefl _)
  · intro b hb
    rw [List.mem_singleton.mp hb]
    exact next_is_new F
  · intro p hp hI
    exact absurd (Heap.lt_size (N p hp).1) ((List.mem_singleton.mp hI) ▸ Nat.lt_irrefl _)
  · exact ⟨_, Heap.get?_push_of_some _ (F.keep _ _ hr), rfl, n, rfl⟩
  · rintro i s' v Q' ⟨⟨o, ho, hc, hd⟩, _⟩ hq
    cases v with
    | ref a =>
      unfold letOwnedTupleGo
      refine wpAny_bind (wpAny_load ho ?_)
      rw [hc, hd]
      show wpAny _ A (if (["enumerate", "zip", "dict_itemiterator", "dict_reverseitemiterator", "odict_iterator", "itertools.zip_longest", "itertools.pairwise"].contains "tuple_iterator" &&
        (#[.ref r, .int i 0] : Array Value)[0]? == some (rawInt a)) = true then _ else _) Q' E s'
      rw [if_neg (by
        intro h
        rw [show (["enumerate", "zip", "dict_itemiterator", "dict_reverseitemiterator", "odict_iterator", "itertools.zip_longest", "itertools.pairwise"].contains "tuple_iterator") = false from by decide, Bool.false_and] at h
        cases h)]
      exact wpAny_pure hq
    | _ => exact wpAny_pure hq
  · rintro i v m₁ news₁ h₁ tk₁ own hi hP hJ hoff hown hget hall hst F₁ N₁
    obtain ⟨a, x, y, t, u, k, rfl, ha, hl⟩ := hps.get (by simpa using hP)
    obtain ⟨⟨o, ho, hoc, _⟩, _⟩ := hst
    have hI := hall s.heap.objs.size (by simp) (next_is_new F) o ho
    have hoI : ∀ p ∈ own, p = (s.heap.objs.size, o) := fun p hp => by
      have h1 := hown p hp
      have h2 := (N₁ p (List.mem_append_left _ hp)).2.2
      rcases List.mem_cons.mp h1 with e | e
      · have h3 := hget p hp
        rw [e, ho] at h3
        exact Prod.ext e (Option.some.inj h3).symm
      · rw [List.mem_singleton.mp e, hr] at h2; cases h2
    refine wpAny_assign_Tuple hh (items := #[.str x t, .str y u]) ⟨_, F₁.keep _ _ ha, rfl, k, rfl⟩ rfl rfl fun h₃ hx₃ => ?_
    have up₃ : ∀ b o, h₁.get? b = some o → h₃.get? b = some o := fun b o x => hx₃ b o (Nat.ne_of_lt (Heap.lt_size x)) x
    have F₃ := F₁.keeps up₃
    have N₃ : News h₀ env.locals h₃ (own ++ news₁) := fun p hp => ⟨up₃ _ _ (N₁ p hp).1, (N₁ p hp).2⟩
    show wpAny _ A (do holding [Value.str y u] (assign (.Name xi pk) env (.str x t)); do holding [] (assign (.Name xc pv) env (.str y u)); pure ()) _ _ _
    refine wpAny_bind (wpAny_holding (wpAny_assign_Name (wpAny_storeName_local hxi F₃.ns (fun h₄ hn₄ hs₄ => ?_) hp)))
    replace hs₄ : Heap.SameBut env.locals h₃ h₄ := hs₄
    have F₄ := F₃.set hn₄ hs₄
    refine wpAny_bind (wpAny_holding (wpAny_assign_Name (wpAny_storeName_local hxc F₄.ns (fun h₅ hn₅ hs₅ => wpAny_pure ?_) hp)))
    replace hs₅ : Heap.SameBut env.locals h₄ h₅ := hs₅
    have F₅ := F₄.set hn₅ hs₅
    have N₅ : News h₀ env.locals h₅ (own ++ news₁) := (N₃.set hs₄).set hs₅
    have hs : l.take (i + 1) = l.take i ++ [(x, y)] := by rw [List.take_add_one, hl]; rfl
    have e : l = l.take i ++ (x, y) :: l.drop (i + 1) := by
      have ht := List.take_append_drop (i + 1) l
      rw [hs, List.append_assoc] at ht
      exact ht.symm
    dsimp only
    rw [hs]
    refine wpAny_mono (turn _ x y _ t u m₁ news₁ s.heap.objs.size o _ _ e hJ (fun p hp q => hoff p hp (by simp [q])) hoc F₅ (fun p hp => ?_)) (fun f s₂ p => ?_) fun _ _ e => e
    · rcases List.mem_cons.mp hp with rfl | hp
      · exact N₅ _ (List.mem_append_left _ hI)
      · exact N₅ _ (List.mem_append_right _ hp)
    · obtain ⟨rfl, h', tk, m', news', rfl, F', N', hn, hj⟩ := p
      refine ⟨rfl, h', tk, m', news', rfl, F', fun p hp => ?_, fun p hp hm => hn p hp (by simpa using hm), hj⟩
      rcases List.mem_append.mp hp with hp | hp
      · rw [hoI p hp]; exact N' _ (.head _)
      · exact N' _ (.tail _ hp)
  · rintro h' tk m' news' F' N' _ hJ
    rw [List.take_length] at hJ
    exact done h' tk m' news' F' N' hJ
end
theorem off_part08b_bad : True := by w_top off; trivial
section
variable {w : World} {p : Program} {loose : List Str} {mean : ExcName → Option Value} {mg mb : Str → Option Value} {lvl dp un : Nat} {gd : Option (List Code)} {outer : List Env} {A₀ : Around} {base h₀ : Heap} {s : Shared}
  {L : Addr} {m : Str → Option Value} {env : Env} {news : List (Addr × Obj)} {f : Addr} {args : List Value} {Q E : Value → Shared → Prop}
theorem bad_call {A : Around} (hA : A = Ar dp un gd (env :: outer)) (C : BadC lvl f args) (B : Below A₀ base outer h₀) (F : Fr h₀ L s.heap m) (N : News h₀ L s.heap news) (XB : (hd.heap_39 w.params).In base) (TB : Top p loose mean mg mb base) (hf : env.frame = some L) (hke : env.scope.kind = .function)
    (hdp : dp + lvl < recursionLimit) (hun : un + 16 * lvl + 100 < cLine) (h : ∀ e tk h', XR (subG s []) (env :: outer) e [] h' → E (.ref e) { s with heap := h', toks := tk }) :
    wpAny (model PySem.Challenge.rw_nu0058_01.row.prog w) A (call (.ref f) args) Q E s := by
  subst hA
  exact wpAny_call (C w p loose mean mg mb dp un gd (env :: outer) _ _ s _ (Gd.sub (S := []) B F N XB TB hf hke (fun _ h => nomatch h) hdp hun).1 fun e tk h' x => h e tk h' x)
end
section
variable {M : Model} {A : Around} {E : Value → Shared → Prop} {s s' : Shared} {base g : Heap} {outer : List Env} {L e : Addr} {m : Str → Option Value} {env : Env} {Q : Unit → Shared → Prop} {news S : List (Addr × Obj)}
theorem leave_on0 (K : Below A base outer g) (F : Fr g L s.heap m) (N : News g L s.heap news) (hS : ∀ q ∈ S, q ∈ news) (X : XR (subG s S) (env :: outer) e S s'.heap)
    (hQ : ∀ h', XR g outer e news h' → Q () { s' with heap := h' }) (hf : env.frame = some L := by rfl) :
    wpAny M (A.deeper env) (leaving env (.ref e)) Q E s' :=
  leave_onX K F N (fun b o x => of_hideAll _ x) (fun b o x n => sub_get x n) hS X hQ hf
end
local macro_rules | `(tactic| walk_at "call ref") => `(tactic| ((with_reducible refine' bad_call ?hA ?kC ?k1 ?k2 ?k3 ?k4 ?k5 ?k6 ?k7 ?k8 ?k9 ?_); k_dflt ((case kC => walk_at "mine_bad"); walk_at "c9"; walk_at "ce")))
local macro_rules | `(tactic| walk_at "leaving ref") => `(tactic| (k_dflt (refine' leave_on0 ?k1 ?k2 ?k3 ?kS ?k4 ?_ ?k5; (case k4 => assumption); (case k1 | k2 | k3 => k_asm); (case kS => (intro q h; first | exact h | (rw [List.mem_singleton.mp h]; kfm_turns) | cases h)); (case k5 => rfl); k_whole; intros)))
local macro_rules | `(tactic| walk_at "mine_pure") => `(tactic| exact declNone (by assumption))
local macro_rules | `(tactic| walk_at "mine_pureT") => `(tactic| exact declSome (by assumption))
local macro_rules | `(tactic| walk_at "mine_pure") => `(tactic| exact bindOk (by assumption))
local macro_rules | `(tactic| walk_at "mine_bad") => `(tactic| exact bindBad (by assumption))
theorem off_part08c_dict : True := by w_top off; trivial
abbrev ApartT (T : List (Addr × Obj)) (b : Addr) : Prop := ∀ q ∈ T, q.1 ≠ b
/-- a dict of texts to texts, in its order -/
inductive SV : List (Str × Value) → List (Str × Str) → Prop
  | nil : SV [] []
  | cons {k v : Str} {t : Tok} {kvs : List (Str × Value)} {D : List (Str × Str)} : SV kvs D → SV ((k, .str v t) :: kvs) ((k, v) :: D)
def look (D : List (Str × Str)) (k : Str) : Option Str := (D.find? fun q => q.1 = k).map (·.2)
def put (D : List (Str × Str)) (k v : Str) : List (Str × Str) := if D.any (fun q => q.1 = k) then D.map (fun q => if q.1 = k then (q.1, v) else q) else D ++ [(k, v)]
theorem SV.length {kvs : List (Str × Value)} {D : List (Str × Str)} (h : SV kvs D) : kvs.length = D.length := by
  induction h with
  | nil => rfl
  | cons _ ih => simp [ih]
theorem SV.keys {kvs : List (Str × Value)} {D : List (Str × Str)} (h : SV kvs D) : kvs.map (·.1) = D.map (·.1) := by
  induction h with
  | nil => rfl
  | cons _ ih => simp [ih]
theorem SV.any {kvs : List (Str × Value)} {D : List (Str × Str)} (h : SV kvs D) (k : Str) : kvs.any (fun q => decide (q.1 = k)) = D.any (fun q => decide (q.1 = k)) := by
  induction h with
  | nil => rfl
  | cons _ ih => simp only [List.any_cons, ih]
theorem SV.snoc {kvs : List (Str × Value)} {D : List (Str × Str)} (h : SV kvs D) (k v : Str) (t : Tok) : SV (kvs ++ [(k, .str v t)]) (D ++ [(k, v)]) := by
  induction h with
  | nil => exact .cons .nil
  | cons _ ih => exact .cons ih
theorem SV.upd {kvs : List (Str × Value)} {D : List (Str × Str)} (h : SV kvs D) (k v : Str) (t : Tok) : SV (kvs.map fun q => if q.1 = k then (q.1, .str v t) else q) (D.map fun q => if q.1 = k then (q.1, v) else q) := by
  induction h with
  | nil => exact .nil
  | @cons k' v' t' _ _ _ ih =>
    simp only [List.map_cons]
    by_cases e : k' = k
    · simp only [e, if_true]; exact .cons ih
    · simp only [e, if_false]; exact .cons ih
theorem SV.stored {kvs : List (Str × Value)} {D : List (Str × Str)} (h : SV kvs D) (k v : Str) (t : Tok) : SV (stored kvs k (.str v t)) (put D k v) := by
  unfold PySem.stored put
  rw [h.any k]
  split
  · exact h.upd k v t
  · exact h.snoc k v t
theorem SV.at {kvs : List (Str × Value)} {D : List (Str × Str)} (h : SV kvs D) (k : Str) : (∀ v, look D k = some v → ∃ t, valueAt kvs k = some (.str v t)) ∧ (look D k = none → valueAt kvs k = none) := by
  induction h with
  | nil => exact ⟨fun v e => by simp [look] at e, fun _ => rfl⟩
  | @cons k' v' t' _ _ _ ih =>
    unfold look valueAt at ih ⊢
    by_cases e : k' = k
    · simp only [List.find?_cons, e, decide_true]
      exact ⟨fun v x => ⟨t', by simp at x; simp [x]⟩, fun x => by simp at x⟩
    · simp only [List.find?_cons, e, decide_false]
      exact ih
theorem SV.flat {prog : Program} {w : World} {kvs : List (Str × Value)} {D : List (Str × Str)} (h : SV kvs D) : PyProof.V.FlatPairs PyData.str kvs (D.map fun p => (.str p.1, .str p.2)) := by
  induction h with
  | nil => exact .nil
  | cons _ ih => exact .cons (PyProof.V.Flat.str _ _) ih
def DictS (w : World) (o : Obj) (D : List (Str × Str)) : Prop := ∃ kvs, o.IsDictOf (strKind PySem.Challenge.rw_nu0058_01.row.prog w) kvs ∧ SV kvs D
def DictAt (w : World) (h : Heap) (d : Addr) (D : List (Str × Str)) : Prop := (d == sysModules) = false ∧ ∃ o, h.get? d = some o ∧ DictS w o D
theorem DictAt.keep {w : World} {h h' : Heap} {d : Addr} {D : List (Str × Str)} (x : DictAt w h d D) (k : h.StaysIn h') : DictAt w h' d D := by obtain ⟨a, o, b, c⟩ := x; exact ⟨a, o, k _ _ b, c⟩
theorem DictAt.at {w : World} {h : Heap} {d : Addr} {D : List (Str × Str)} (x : DictAt w h d D) : ∃ kvs, h.DictOf (strKind PySem.Challenge.rw_nu0058_01.row.prog w) d kvs ∧ SV kvs D := by obtain ⟨_, o, b, kvs, c, e⟩ := x; exact ⟨kvs, Heap.dictOf_iff.mpr ⟨o, b, c⟩, e⟩
theorem put_len (D : List (Str × Str)) (k v : Str) : (put D k v).length ≤ D.length + 1 := by
  unfold put; split <;> simp
def puts (D : List (Str × Str)) (l : List (Str × Str)) : List (Str × Str) := l.foldl (fun D q => put D q.1 q.2) D
theorem puts_snoc (D l : List (Str × Str)) (q : Str × Str) : puts D (l ++ [q]) = put (puts D l) q.1 q.2 := by simp [puts]
theorem puts_len : ∀ (l D : List (Str × Str)), (puts D l).length ≤ D.length + l.length
  | [], D => by simp [puts]
  | q :: l, D => by
    have := puts_len l (put D q.1 q.2)
    have := put_len D q.1 q.2
    simp only [puts, List.foldl_cons, List.length_cons] at *
    omega

section
variable {w : World} {A : Around} {E : Value → Shared → Prop} {s : Shared} {h₀ : Heap} {L d : Addr} {m : Str → Option Value} {news : List (Addr × Obj)} {g : Obj → List (Addr × Obj)} {o : Obj} {D : List (Str × Str)} {k v : Str} {t u : Tok}
theorem copyS {Q : Value → Shared → Prop} (F : Fr h₀ L s.heap m) (N : News h₀ L s.heap news) (hbig : sysModules < h₀.objs.size) (T : DictAt w s.heap d D) (hsz : D.length ≤ sizeLine)
    (h : ∀ n h' o, Fr h₀ L h' m → News h₀ L h' ((n, o) :: news) → (∀ p ∈ news, p.1 ≠ n) → (n == sysModules) = false → DictS w o D → Q (.ref n) { s with heap := h' }) :
    wpAny (model PySem.Challenge.rw_nu0058_01.row.prog w) A (call (.type "dict") [.ref d]) Q E s := by
  obtain ⟨kvs, hd, hs⟩ := T.at
  refine kt_call_dict T.1 hd (by rw [hs.length]; exact hsz) fun h' hm hsb => ?_
  obtain ⟨o', ho', hd'⟩ := Heap.dictOf_iff.mp hm
  have N1 := News.push F N { cls := .type "dict", data := .dict #[] }
  exact h _ h' o' ((F.push _).change hsb (N1 _ (.head _)).2.1 (N1.fresh (.head _))) (N1.setHead N.apart hsb ho') N.apart (F.notModules hbig) ⟨kvs, hd', hs⟩
theorem setS {Q : Unit → Shared → Prop} (F : Fr h₀ L s.heap m) (N : News h₀ L s.heap news) (U : UpdF d o news g) (hd : DictS w o D) (hsz : D.length ≤ sizeLine)
    (h : ∀ h' o', Fr h₀ L h' m → News h₀ L h' (g o') → DictS w o' (put D k v) → Q () { s with heap := h', toks := s.toks + 1 }) : wpAny (model PySem.Challenge.rw_nu0058_01.row.prog w) A (setItem (.ref d) (.str k t) (.str v u)) Q E s := by
  obtain ⟨kvs, hk, hs⟩ := hd
  exact kda_set F N U hk (strKind_is _ _ _ _) (by rw [hs.length]; exact hsz) fun h' o' F' N' hd' => h h' o' F' N' ⟨_, hd', hs.stored k v u⟩
theorem last_item {value slice : PySem.Expr} {l : Addr} {vs : List Value} {x : Value} {n : Nat} {Q : Value → Shared → Prop} (N : News h₀ L s.heap news) (hm : (l, listOf (vs ++ [x]).toArray n) ∈ news) (h : Q x s)
    (hs : subscripted slice false (.ref l) (.int (-1) u) = operate [.ref l, .int (-1) u] (getItem (.ref l) (.int (-1) u)) := by with_unfolding_all rfl) :
    wpAny (model PySem.Challenge.rw_nu0058_01.row.prog w) A (subscriptTail value slice (.ref l) (.int (-1) u)) Q E s :=
  kde_neg (vs := vs ++ [x]) (j := vs.length) (News.isList N hm) (by decide) (by decide) (by
    unfold seqIndex?
    simp
    omega) (by simp) h hs
end
abbrev pairD (q : Str × Str) : PyData := .tuple [.str q.1, .str q.2]
theorem PairsAt.reads {h : Heap} {vs : List Value} {l : List (Str × Str)} (x : PairsAt h vs l) : ReadsAll h vs (l.map pairD) [] := by
  induction x with
  | nil => exact .nil
  | cons e _ ih => exact .cons (as := []) (bs := []) (.tuple e rfl rfl (.cons (as := []) (bs := []) (.str _ _) (.cons (as := []) (bs := []) (.str _ _) .nil))) ih
def SOk (l : List (Str × Str)) : Prop := ∀ q ∈ l, PyData.strOk q.1 = true ∧ PyData.strOk q.2 = true
theorem canLay_pairs {l : List (Str × Str)} (h : SOk l) : PyData.canLayAll0 (l.map pairD) = true := by
  induction l with
  | nil => rfl
  | cons q l ih =>
    have := h q (.head _)
    simp only [List.map_cons, PyData.canLayAll0, PyData.canLay0, this.1, this.2, Bool.and_self, Bool.true_and]
    exact ih fun q hq => h q (.tail _ hq)
theorem depth_pairs (l : List (Str × Str)) : PyData.depthAll (l.map pairD) ≤ 3 := by
  induction l with
  | nil => exact Nat.zero_le _
  | cons q l ih => simp [PyData.depthAll, PyData.depth, ih]; try omega
theorem shaped_list {l : List (Str × Str)} (h : SOk l) : SeqAt.shaped (.list (l.map pairD)) = true := by
  have := depth_pairs l
  unfold SeqAt.shaped
  refine Bool.and_eq_true_iff.mpr ⟨by simpa only [PyData.canLay0] using canLay_pairs h, decide_eq_true ?_⟩
  simp only [PyData.depth]
  omega
theorem shaped_tuple {l : List (Str × Str)} (h : SOk l) : SeqAt.shaped (.tuple (l.map pairD)) = true := by
  have := depth_pairs l
  unfold SeqAt.shaped
  refine Bool.and_eq_true_iff.mpr ⟨by simpa only [PyData.canLay0] using canLay_pairs h, decide_eq_true ?_⟩
  simp only [PyData.depth]
  omega
theorem eqv_pairs : ∀ l k : List (Str × Str), PyData.eqvAll (l.map pairD) (k.map pairD) = decide (l = k)
  | [], [] => by simp [PyData.eqvAll]
  | [], _ :: _ => by simp [PyData.eqvAll]
  | _ :: _, [] => by simp [PyData.eqvAll]
  | (a, b) :: l, (c, d) :: k => by
    simp only [List.map_cons, PyData.eqvAll, PyData.eqv, eqv_pairs l k, Bool.and_true]
    by_cases h1 : a = c <;> by_cases h2 : b = d <;> by_cases h3 : l = k <;> simp [h1, h2, h3]
/-- tuples of two texts, by membership -/
inductive PairsIn (T : List (Addr × Obj)) : List Value → List (Str × Str) → Prop
  | nil : PairsIn T [] []
  | cons {a : Addr} {x y : Str} {t u : Tok} {n : Nat} {vs : List Value} {l : List (Str × Str)} : (a, tupO [.str x t, .str y u] n) ∈ T → PairsIn T vs l → PairsIn T (.ref a :: vs) ((x, y) :: l)
theorem PairsIn.mono {T T' : List (Addr × Obj)} {vs : List Value} {l : List (Str × Str)} (x : PairsIn T vs l) (k : ∀ q ∈ T, q ∈ T') : PairsIn T' vs l := by
  induction x with
  | nil => exact .nil
  | cons e _ ih => exact .cons (k _ e) ih
theorem PairsIn.length {T : List (Addr × Obj)} {vs : List Value} {l : List (Str × Str)} (x : PairsIn T vs l) : vs.length = l.length := by
  induction x with
  | nil => rfl
  | cons _ _ ih => simp [ih]
theorem PairsIn.append {T : List (Addr × Obj)} {vs us : List Value} {l k : List (Str × Str)} (x : PairsIn T vs l) (y : PairsIn T us k) : PairsIn T (vs ++ us) (l ++ k) := by
  induction x with
  | nil => exact y
  | cons e _ ih => exact .cons e ih
theorem PairsIn.snoc {T : List (Addr × Obj)} {a : Addr} {x y : Str} {t u : Tok} {n : Nat} {vs : List Value} {l : List (Str × Str)} (p : PairsIn T vs l) : PairsIn ((a, tupO [.str x t, .str y u] n) :: T) (vs ++ [.ref a]) (l ++ [(x, y)]) :=
  (p.mono fun _ h => .tail _ h).append (.cons (.head _) .nil)
theorem PairsIn.at {T : List (Addr × Obj)} {h : Heap} {vs : List Value} {l : List (Str × Str)} (x : PairsIn T vs l) (k : ∀ q ∈ T, h.get? q.1 = some q.2) : PairsAt h vs l := by
  induction x with
  | nil => exact .nil
  | cons e _ ih => exact .cons (k _ e) ih
theorem PairsIn.get {T : List (Addr × Obj)} {vs : List Value} {l : List (Str × Str)} (x : PairsIn T vs l) : ∀ {i : Nat} {v : Value}, vs[i]? = some v → ∃ a x y t u n, v = .ref a ∧ (a, tupO [.str x t, .str y u] n) ∈ T ∧ l[i]? = some (x, y) := by
  induction x with
  | nil => intro i v e; simp at e
  | @cons a x y t u n vs l ha _ ih =>
    intro i v e
    cases i with
    | zero => simp at e; exact ⟨a, x, y, t, u, n, e.symm, ha, by simp⟩
    | succ i => simp at e; obtain ⟨b, x', y', t', u', n', h1, h2, h3⟩ := ih e; exact ⟨b, x', y', t', u', n', h1, h2, by simpa using h3⟩
section
variable {prog : Program} {w : World} {A : Around} {E : Value → Shared → Prop} {s : Shared} {env : Env} {h₀ : Heap} {xi xc : Str} {pk pv pt : Pos} {x1 : Nat} {body : List Stmt} {Q : Flow → Shared → Prop} {r : Addr} {vs : List Value} {n : Nat} {l : List (Str × Str)}
  {m : Str → Option Value} {news : List (Addr × Obj)}
theorem pairs_iterL (hh : A.handled = none) (hxi : env.kindOf xi = some .local) (hxc : env.kindOf xc = some .local) (hp : (env.scope.kind == .class || (env.scope.kind == .module && env.locals != env.globals)) = false)
    (hr : (r, listOf vs.toArray n) ∈ news) (T : List (Addr × Obj)) (hps : PairsIn T vs l) (F : Fr h₀ env.locals s.heap m) (N : News h₀ env.locals s.heap news)
    (J : List (Str × Str) → (Str → Option Value) → List (Addr × Obj) → Prop) (h0 : J [] m news) (hJ0 : ∀ pre m' news', J pre m' news' → (r, listOf vs.toArray n) ∈ news' ∧ ∀ q ∈ T, q ∈ news')
    (turn : ∀ pre x y post t u m₁ news₁ I itO h₁ tk₁, l = pre ++ (x, y) :: post → J pre m₁ news₁ → (∀ p ∈ news₁, p.1 ≠ I) → Fr h₀ env.locals h₁ (fun z => if z = xc then some (.str y u) else if z = xi then some (.str x t) else m₁ z) → News h₀ env.locals h₁ ((I, itO) :: news₁) →
      wpAny (model prog w) A (execs body env) (PairTurn h₀ env.locals I itO (J (pre ++ [(x, y)])) s) E { s with heap := h₁, toks := tk₁ })
    (done : ∀ h' tk m' news', Fr h₀ env.locals h' m' → News h₀ env.locals h' news' → J l m' news' → Q .next { s with heap := h', toks := tk }) :
    wpAny (model prog w) A (pyIter (.ref r)) (fun it s₂ => LoopS prog w A h₀ env (.Tuple [.Name xi pk, .Name xc pv] x1 pt) body Q E it s₂) E s := by
  have ht : s.heap.IsList r vs.toArray := News.isList N hr
  have hlt : r < s.heap.objs.size := Heap.lt_size (N _ hr).1
  have hne : r ≠ s.heap.objs.size := Nat.ne_of_lt hlt
  refine wpAny_pyIter_list ht ?_
  have W := Walks.list (prog := prog) (w := w) hh s.heap.objs.size r hne vs.toArray
  have hlen : vs.toArray.size = l.length := by simp [hps.length]
  rw [hlen] at W
  refine ⟨_, _, _, l.length, _, _, m, news, fun i m₁ news₁ => J (l.take i) m₁ news₁, rfl, W, ?_, ?_, ?_, ⟨⟨_, Heap.get?_push_size _ rfl, rfl, rfl⟩, ?_⟩, F.push _, (fun p hp => ⟨Heap.get?_push_of_some _ (N p hp).1, (N p hp).2⟩), ?_, by simpa using h0, ?_, ?_⟩
  · intro hm
    rcases List.mem_cons.mp hm with e | hm
    · exact absurd F.ns.lt (e ▸ Nat.lt_irrefl _)
    · exact (N _ hr).2.1 (List.mem_singleton.mp hm).symm
  · intro b hb
    rw [List.mem_singleton.mp hb]
    exact next_is_new F
  · intro p hp hI
    exact absurd (Heap.lt_size (N p hp).1) ((List.mem_singleton.mp hI) ▸ Nat.lt_irrefl _)
  · exact ⟨_, Heap.get?_push_of_some _ (N _ hr).1, rfl, n, rfl⟩
  · rintro i s' v Q' ⟨⟨o, ho, hc, hd⟩, _⟩ hq
    cases v with
    | ref a =>
      unfold letOwnedTupleGo
      refine wpAny_bind (wpAny_load ho ?_)
      rw [hc, hd]
      show wpAny _ A (if (["enumerate", "zip", "dict_itemiterator", "dict_reverseitemiterator", "odict_iterator", "itertools.zip_longest", "itertools.pairwise"].contains "list_iterator" &&
        (#[.ref r, .int i 0] : Array Value)[0]? == some (rawInt a)) = true then _ else _) Q' E s'
      rw [if_neg (by
        intro h
        rw [show (["enumerate", "zip", "dict_itemiterator", "dict_reverseitemiterator", "odict_iterator", "itertools.zip_longest", "itertools.pairwise"].contains "list_iterator") = false from by decide, Bool.false_and] at h
        cases h)]
      exact wpAny_pure hq
    | _ => exact wpAny_pure hq
  · rintro i v m₁ news₁ h₁ tk₁ own hi hP hJ hoff hown hget hall hst F₁ N₁
    obtain ⟨a, x, y, t, u, k, rfl, ha, hl⟩ := hps.get (by simpa using hP)
    replace ha := (N₁ _ (List.mem_append_right own ((hJ0 _ _ _ hJ).2 _ ha))).1
    have hr1 := (N₁ _ (List.mem_append_right own (hJ0 _ _ _ hJ).1)).1
    obtain ⟨⟨o, ho, _⟩, _⟩ := hst
    have hI := hall s.heap.objs.size (by simp) (next_is_new F) o ho
    have hoI : ∀ p ∈ own, p = (s.heap.objs.size, o) ∨ p = (r, listOf vs.toArray n) := fun p hp => by
      have h1 := hown p hp
      rcases List.mem_cons.mp h1 with e | e
      · have h3 := hget p hp
        rw [e, ho] at h3
        exact .inl (Prod.ext e (Option.some.inj h3).symm)
      · have h3 := hget p hp
        rw [List.mem_singleton.mp e, hr1] at h3
        exact .inr (Prod.ext (List.mem_singleton.mp e) (Option.some.inj h3).symm)
    refine wpAny_assign_Tuple hh (items := #[.str x t, .str y u]) ⟨_, ha, rfl, k, rfl⟩ rfl rfl fun h₃ hx₃ => ?_
    have up₃ : ∀ b o, h₁.get? b = some o → h₃.get? b = some o := fun b o x => hx₃ b o (Nat.ne_of_lt (Heap.lt_size x)) x
    have F₃ := F₁.keeps up₃
    have N₃ : News h₀ env.locals h₃ (own ++ news₁) := fun p hp => ⟨up₃ _ _ (N₁ p hp).1, (N₁ p hp).2⟩
    show wpAny _ A (do holding [Value.str y u] (assign (.Name xi pk) env (.str x t)); do holding [] (assign (.Name xc pv) env (.str y u)); pure ()) _ _ _
    refine wpAny_bind (wpAny_holding (wpAny_assign_Name (wpAny_storeName_local hxi F₃.ns (fun h₄ hn₄ hs₄ => ?_) hp)))
    replace hs₄ : Heap.SameBut env.locals h₃ h₄ := hs₄
    have F₄ := F₃.set hn₄ hs₄
    refine wpAny_bind (wpAny_holding (wpAny_assign_Name (wpAny_storeName_local hxc F₄.ns (fun h₅ hn₅ hs₅ => wpAny_pure ?_) hp)))
    replace hs₅ : Heap.SameBut env.locals h₄ h₅ := hs₅
    have F₅ := F₄.set hn₅ hs₅
    have N₅ : News h₀ env.locals h₅ (own ++ news₁) := (N₃.set hs₄).set hs₅
    have hs : l.take (i + 1) = l.take i ++ [(x, y)] := by rw [List.take_add_one, hl]; rfl
    have e : l = l.take i ++ (x, y) :: l.drop (i + 1) := by
      have ht := List.take_append_drop (i + 1) l
      rw [hs, List.append_assoc] at ht
      exact ht.symm
    dsimp only
    rw [hs]
    refine wpAny_mono (turn _ x y _ t u m₁ news₁ s.heap.objs.size o _ _ e hJ (fun p hp q => hoff p hp (by simp [q])) F₅ (fun p hp => ?_)) (fun f s₂ p => ?_) fun _ _ e => e
    · rcases List.mem_cons.mp hp with rfl | hp
      · exact N₅ _ (List.mem_append_left _ hI)
      · exact N₅ _ (List.mem_append_right _ hp)
    · obtain ⟨rfl, h', tk, m', news', rfl, F', N', hn, hj⟩ := p
      refine ⟨rfl, h', tk, m', news', rfl, F', fun p hp => ?_, fun p hp hm => hn p hp (by simpa using hm), hj⟩
      rcases List.mem_append.mp hp with hp | hp
      · rcases hoI p hp with e | e
        · rw [e]; exact N' _ (.head _)
        · rw [e]; exact N' _ (.tail _ (hJ0 _ _ _ hj).1)
      · exact N' _ (.tail _ hp)
  · rintro h' tk m' news' F' N' _ hJ
    rw [List.take_length] at hJ
    exact done h' tk m' news' F' N' hJ
end
theorem ne_nil {w : World} {A : Around} {E : Value → Shared → Prop} {s : Shared} {h₀ : Heap} {L a b : Addr} {news : List (Addr × Obj)} {T : List (Addr × Obj)} {vs : List Value} {l : List (Str × Str)} {n k : Nat} {Q : Value → Shared → Prop}
    (N : News h₀ L s.heap news) (ha : (a, listOf vs.toArray n) ∈ news) (hb : (b, listOf #[] k) ∈ news) (hp : PairsIn T vs l) (hT : ∀ q ∈ T, q ∈ news) (hs : SOk l) (hu : A.units + 64 < cLine) (hl : l ≠ [])
    (h : Q (.bool true) s) : wpAny (model PySem.Challenge.rw_nu0058_01.row.prog w) A (compareOp .NotEq (.ref a) (.ref b)) Q E s := by
  refine ne_dataH (da := .list (l.map pairD)) (db := .list (([] : List (Str × Str)).map pairD)) (reads_list_at (as := []) (N _ ha).1 rfl rfl ?_) (reads_list_at (N _ hb).1 rfl rfl .nil) (shaped_list hs) (shaped_list fun _ h => nomatch h) hu ?_
  · exact (hp.at fun q hq => (N _ (hT q hq)).1).reads
  · rw [PyData.eqv, eqv_pairs, decide_eq_false hl]
    exact h
local macro_rules | `(tactic| walk_at "T") => `(tactic| (case T => (refine DictAt.keep (by assumption) (Fr.keep (by k_asm)))))
local macro_rules | `(tactic| walk_at "subscriptTail") => `(tactic| ((with_reducible refine' last_item ?N ?m ?_ ?z); k_dflt ((case N => k_asm); (case m => kfm_turns); (case z => with_unfolding_all rfl); k_whole)))
local macro_rules | `(tactic| walk_at "subscriptTail Name UnaryOp ref int") => `(tactic| ((with_reducible refine' last_item ?N ?m ?_ ?z); k_dflt ((case N => k_asm); (case m => kfm_turns); (case z => with_unfolding_all rfl); k_whole)))
local macro_rules | `(tactic| walk_at "compareOp NotEq ref ref") => `(tactic| ((with_reducible refine' ne_nil ?N ?a ?b ?p ?T ?s ?u ?l ?_); k_dflt ((case p => assumption); (case N => k_asm); (case a | b => kfm_turns); (case T => (intro q hq; kfm_turns)); (case s | l => assumption); (case u => k_units); k_whole)))
local macro_rules | `(tactic| walk_at "call type:dict") => `(tactic| ((with_reducible refine' copyS ?F ?N ?b ?T ?z ?_); k_dflt (walk_at "FN"; (case b => exact modules_low (Top.nolimit (by k_asm))); walk_at "T"; (case z => size_fits); k_whole; intros)))
local macro_rules | `(tactic| walk_at "setItem ref str") => `(tactic| ((with_reducible refine' setS ?F ?N ?U ?d ?z ?_); k_dflt (walk_at "FN"; (case U => k_updF); (case d => assumption); (case z => size_fits)); intro hD' oD FD ND dD; (try dsimp only at ND)))
local macro_rules | `(tactic| walk_at "call type:tuple") => `(tactic| ((with_reducible refine' kde_tupleOf ?F ?N ?l ?z ?e ?_); k_dflt (walk_at "FN"; (case l => is_list); (case e => first | exact List.toList_toArray | exact rfl); (case z => ((try simp only [List.size_toArray, List.size_toArray, List.length_nil]); first | omega | decide)); k_whole; intros)))
theorem off_part09_enter : True := by w_top off; trivial
/-- the Bindings object: its two lists -/
structure NamesAt (h : Heap) (nm sl tl : Addr) : Prop where
  obj : ∃ dx k1 k2 h1 h2 n, h.get? nm = some (instObj 207 dx) ∧ h.get? dx = some (dictOf [⟨h1, .str (Str.ofString "scopes") k1, .ref sl⟩, ⟨h2, .str (Str.ofString "told") k2, .ref tl⟩] n)
theorem NamesAt.keep {h h' : Heap} {nm sl tl : Addr} (x : NamesAt h nm sl tl) (k : h.StaysIn h') : NamesAt h' nm sl tl :=
  by obtain ⟨dx, k1, k2, h1, h2, n, a, b⟩ := x.obj; exact ⟨dx, k1, k2, h1, h2, n, k _ _ a, k _ _ b⟩
theorem inst_base {h₀ h : Heap} {L x dx : Addr} {m : Str → Option Value} {od : Obj} (F : Fr h₀ L h m) (h1 : h₀.get? x = some (instObj 207 dx)) (h2 : h₀.get? dx = some od) : W.InstAt h x (instObj 207 dx) 207 (some od) :=
  ⟨F.keep _ _ h1, rfl, rfl, F.keep _ _ h2⟩
def prefOf (x : Str) : Option Str := declPairs.lookup x
def mineOf (l : List (Str × Str)) : List (Str × Str) := l.filterMap fun q => (prefOf q.1).map fun p => (p, q.2)
def othersOf (l : List (Str × Str)) : List (Str × Str) := l.filter fun q => (prefOf q.1).isNone
theorem pref_plain {x : Str} (h : x ∈ plainNames) : prefOf x = none := by
  simp only [plainNames, List.mem_cons, List.not_mem_nil, or_false] at h
  rcases h with rfl | rfl | rfl | rfl <;> decide
theorem pref_decl {x p : Str} (h : (x, p) ∈ declPairs) : prefOf x = some p := by
  simp only [declPairs, List.mem_cons, List.not_mem_nil, or_false, Prod.mk.injEq] at h
  rcases h with ⟨rfl, rfl⟩ | ⟨rfl, rfl⟩ | ⟨rfl, rfl⟩ | ⟨rfl, rfl⟩ | ⟨rfl, rfl⟩ | ⟨rfl, rfl⟩ <;> decide
theorem mine_plain {l : List (Str × Str)} {x y : Str} (h : x ∈ plainNames) : mineOf (l ++ [(x, y)]) = mineOf l := by simp [mineOf, pref_plain h]
theorem others_plain {l : List (Str × Str)} {x y : Str} (h : x ∈ plainNames) : othersOf (l ++ [(x, y)]) = othersOf l ++ [(x, y)] := by simp [othersOf, pref_plain h]
theorem mine_decl {l : List (Str × Str)} {x y p : Str} (h : (x, p) ∈ declPairs) : mineOf (l ++ [(x, y)]) = mineOf l ++ [(p, y)] := by simp [mineOf, pref_decl h]
theorem others_decl {l : List (Str × Str)} {x y p : Str} (h : (x, p) ∈ declPairs) : othersOf (l ++ [(x, y)]) = othersOf l := by simp [othersOf, pref_decl h]
/-- what stands in a row -/
def PairOk (q : Str × Str) : Prop := (q.1 ∈ plainNames ∧ PyData.strOk q.2 = true) ∨ ∃ p, (q.1, p) ∈ declPairs ∧ ((p, q.2) ∈ okBinds ∨ (p, q.2) ∈ badBinds)
theorem PairOk.cases {q : Str × Str} (h : PairOk q) : q.1 ∈ plainNames ∨ ∃ p, (q.1, p) ∈ declPairs ∧ ((p, q.2) ∈ okBinds ∨ (p, q.2) ∈ badBinds) := h.imp And.left id
def BadIn (l : List (Str × Str)) : Prop := ∃ q ∈ l, ∃ p, (q.1, p) ∈ declPairs ∧ (p, q.2) ∈ badBinds

def keepN (st : List Str) (u m₀ : Str → Option Value) : Str → Option Value := fun y => if st.contains y then u y else m₀ y
theorem keepN_of {st : List Str} {m₁ m₀ : Str → Option Value} (h : ∀ y, st.contains y = false → m₁ y = m₀ y) : m₁ = keepN st m₁ m₀ := by
  funext y
  unfold keepN
  cases e : st.contains y with
  | true => simp
  | false => simp [h y e]
theorem keepN_base {st : List Str} {u m₀ : Str → Option Value} : ∀ y, st.contains y = false → (if st.contains y = true then u y else m₀ y) = m₀ y := by intro y h; rw [if_neg (by rw [h]; exact Bool.false_ne_true)]
theorem keepN_if {st : List Str} {a : Str} {v : Option Value} {m₁ m₀ : Str → Option Value} (ha : st.contains a = true) (k : ∀ y, st.contains y = false → m₁ y = m₀ y) : ∀ y, st.contains y = false → (if y = a then v else m₁ y) = m₀ y := by
  intro y h
  rw [if_neg (by rintro rfl; rw [ha] at h; cases h)]
  exact k y h
theorem newsPerm {g h : Heap} {L : Addr} {A B : List (Addr × Obj)} (N : News g L h A) (k : ∀ q ∈ B, q ∈ A) : News g L h B := fun q hq => N q (k q hq)
theorem mine_len (l : List (Str × Str)) : (mineOf l).length ≤ l.length := List.length_filterMap_le ..
theorem others_len (l : List (Str × Str)) : (othersOf l).length ≤ l.length := List.length_filter_le ..
theorem mine_mem {l : List (Str × Str)} (hok : ∀ q ∈ l, PairOk q) : ∀ a ∈ mineOf l, a ∈ okBinds ∨ a ∈ badBinds := by
  intro a ha
  obtain ⟨q, hq, e⟩ := List.mem_filterMap.mp ha
  rcases (hok q hq).cases with h | ⟨p, h1, h2⟩
  · rw [pref_plain h] at e; cases e
  · rw [pref_decl h1] at e; cases e; exact h2
theorem sok_mine {l : List (Str × Str)} (hok : ∀ q ∈ l, PairOk q) : SOk (mineOf l) := fun a ha => by
  rcases mine_mem hok a ha with h | h
  · exact (show ∀ a ∈ okBinds, PyData.strOk a.1 = true ∧ PyData.strOk a.2 = true from by decide +kernel) a h
  · exact (show ∀ a ∈ badBinds, PyData.strOk a.1 = true ∧ PyData.strOk a.2 = true from by decide +kernel) a h
theorem ok_not_bad {q : Str × Str} (h : q ∈ okBinds) (k : q ∈ badBinds) : False := by
  have z : ∀ a ∈ okBinds, a ∉ badBinds := by decide +kernel
  exact z q h k
/-- the state of enter's first loop -/
inductive EnJ (m₀ : Str → Option Value) (o1 o2 sl tl : Addr) (so to : Obj) (pre : List (Str × Str)) (m : Str → Option Value) (news : List (Addr × Obj)) : Prop
  | mk (os fs na nb T : _) (_ : news = (o2, listOf fs.toArray nb) :: (o1, listOf os.toArray na) :: (sl, so) :: (tl, to) :: T) (_ : PairsIn T os (othersOf pre)) (_ : PairsIn T fs (mineOf pre)) (_ : ApartT T o1) (_ : ApartT T o2) (_ : ApartT T sl) (_ : ApartT T tl) (_ : (∀ y, ([Str.ofString "name", Str.ofString "value", Str.ofString "prefix"] : List Str).contains y = false → m y = m₀ y)) (_ : ¬ BadIn pre) : EnJ m₀ o1 o2 sl tl so to pre m news

theorem turn_fin {h₀ h : Heap} {L D I o1 o2 sl tl : Addr} {m m₀ : Str → Option Value} {itO so to : Obj} {a b : Str} {t u : Tok} {n na nb tk : Nat} {fs os : List Value} {T : List (Addr × Obj)} {pre : List (Str × Str)} {s₁ : Shared}
    (N : News h₀ L h ((D, tupO [.str a t, .str b u] n) :: (I, itO) :: (o2, listOf fs.toArray nb) :: (o1, listOf os.toArray na) :: (sl, so) :: (tl, to) :: T)) (F : Fr h₀ L h m)
    (hI : ∀ q ∈ (D, tupO [.str a t, .str b u] n) :: (o2, listOf fs.toArray nb) :: (o1, listOf os.toArray na) :: (sl, so) :: (tl, to) :: T, q.1 ≠ I)
    (h1 : PairsIn ((D, tupO [.str a t, .str b u] n) :: T) os (othersOf pre)) (h2 : PairsIn ((D, tupO [.str a t, .str b u] n) :: T) fs (mineOf pre))
    (a1 : ApartT ((D, tupO [.str a t, .str b u] n) :: T) o1) (a2 : ApartT ((D, tupO [.str a t, .str b u] n) :: T) o2) (a3 : ApartT ((D, tupO [.str a t, .str b u] n) :: T) sl) (a4 : ApartT ((D, tupO [.str a t, .str b u] n) :: T) tl)
    (hm : ∀ y, ([Str.ofString "name", Str.ofString "value", Str.ofString "prefix"] : List Str).contains y = false → m y = m₀ y) (hb : ¬ BadIn pre) :
    PairTurn h₀ L I itO (EnJ m₀ o1 o2 sl tl so to pre) s₁ .next { s₁ with heap := h, toks := tk } := by
  refine ⟨rfl, _, _, _, (o2, _) :: (o1, _) :: (sl, so) :: (tl, to) :: (D, _) :: T, rfl, F, newsPerm N (fun q hq => picks _ 6 [1, 2, 3, 4, 5, 0] q hq), fun q hq => hI q (picks _ 5 [1, 2, 3, 4, 0] q hq), os, fs, na, nb, _, rfl, h1, h2, a1, a2, a3, a4, hm, hb⟩
theorem bad_snoc {l : List (Str × Str)} {x y : Str} (h : ¬ BadIn l) (k : ∀ p, (x, p) ∈ declPairs → (p, y) ∉ badBinds) : ¬ BadIn (l ++ [(x, y)]) := fun ⟨q, hq, p1, z1, z2⟩ => by
  rcases List.mem_append.mp hq with hq | hq
  · exact h ⟨q, hq, p1, z1, z2⟩
  · rw [List.mem_singleton.mp hq] at z1 z2
    exact k _ z1 z2
theorem bad_plain {x y p : Str} (hx : x ∈ plainNames) (h : (x, p) ∈ declPairs) : (p, y) ∉ badBinds := absurd ((pref_decl h).symm.trans (pref_plain hx)) (by simp)
theorem bad_decl {x y p p' : Str} (hx : (x, p) ∈ declPairs) (hy : (p, y) ∈ okBinds) (h : (x, p') ∈ declPairs) : (p', y) ∉ badBinds := by
  have e := (pref_decl h).symm.trans (pref_decl hx)
  rw [Option.some.inj e]
  exact ok_not_bad hy
theorem ne_cls {g h : Heap} {L a b : Addr} {o p : Obj} {news : List (Addr × Obj)} (N : News g L h news) (ha : (a, o) ∈ news) (hb : (b, p) ∈ news) (hc : o.cls ≠ p.cls) : a ≠ b := by
  rintro rfl
  have z := (N _ ha).1
  rw [(N _ hb).1] at z
  exact hc (congrArg Obj.cls (Option.some.inj z).symm)
theorem DictS.cls {w : World} {o : Obj} {D : List (Str × Str)} (h : DictS w o D) : o.cls = .type "dict" := by obtain ⟨_, ⟨_, _, x, _⟩, _⟩ := h; exact x.1
def DictIn (w : World) (T : List (Addr × Obj)) (d : Addr) (D : List (Str × Str)) : Prop := (d == sysModules) = false ∧ ∃ o, (d, o) ∈ T ∧ DictS w o D
theorem DictIn.mono {w : World} {T T' : List (Addr × Obj)} {d : Addr} {D : List (Str × Str)} (x : DictIn w T d D) (k : ∀ q ∈ T, q ∈ T') : DictIn w T' d D := by obtain ⟨a, o, b, c⟩ := x; exact ⟨a, o, k _ b, c⟩
/-- what enter leaves behind -/
inductive EnterPost (w : World) (sl tl d : Addr) (D l : List (Str × Str)) (ds ts : List Value) (n1 n2 : Nat) (g : Heap) (v : Value) (h' : Heap) : Prop
  | mk (ro tr d' os fs ko kt T : _) (_ : v = .ref ro) (_ : Sep g h' ((sl, listOf (ds ++ [Value.ref d, Value.ref d']).toArray (n1 + 1)) :: (tl, listOf (ts ++ [Value.ref tr]).toArray (n2 + 1)) :: T)) (_ : (ro, tupO os ko) ∈ T) (_ : PairsIn T os (othersOf l)) (_ : (tr, tupO fs kt) ∈ T) (_ : PairsIn T fs (mineOf l)) (_ : ((d' = d ∧ mineOf l = []) ∨ DictIn w T d' (puts D (mineOf l)))) (_ : ApartT T sl) (_ : ApartT T tl) : EnterPost w sl tl d D l ds ts n1 n2 g v h'
theorem enter_end {w : World} {g h : Heap} {L sl tl d d' ro tr : Addr} {D l : List (Str × Str)} {ds ts os fs : List Value} {n1 n2 ko kt : Nat} {news T X : List (Addr × Obj)} (N : News g L h news)
    (h1 : (ro, tupO os ko) ∈ news) (h2 : (tr, tupO fs kt) ∈ news) (h3 : (sl, listOf (ds ++ [Value.ref d, Value.ref d']).toArray (n1 + 1)) ∈ news) (h4 : (tl, listOf (ts ++ [Value.ref tr]).toArray (n2 + 1)) ∈ news) (hT : ∀ q ∈ T, q ∈ news)
    (hos : PairsIn T os (othersOf l)) (hfs : PairsIn T fs (mineOf l)) (hX : (X = [] ∧ d' = d ∧ mineOf l = []) ∨ ((d' == sysModules) = false ∧ ∃ o, X = [(d', o)] ∧ (d', o) ∈ news ∧ DictS w o (puts D (mineOf l)))) (a3 : ApartT T sl) (a4 : ApartT T tl) :
    EnterPost w sl tl d D l ds ts n1 n2 g (.ref ro) h := by
  have hXn : ∀ q ∈ X, q ∈ news := by
    rcases hX with ⟨rfl, _⟩ | ⟨_, o, rfl, h, _⟩
    · exact fun _ h => nomatch h
    · intro q hq; rw [List.mem_singleton.mp hq]; exact h
  have hXc : ∀ q ∈ X, q.2.cls = .type "dict" := by
    rcases hX with ⟨rfl, _⟩ | ⟨_, o, rfl, h, k⟩
    · exact fun _ h => nomatch h
    · intro q hq; rw [List.mem_singleton.mp hq]; exact k.cls
  have up : ∀ q ∈ T, q ∈ (ro, tupO os ko) :: (tr, tupO fs kt) :: (X ++ T) := fun q hq => .tail _ (.tail _ (List.mem_append_right _ hq))
  have ap : ∀ b vs n, (b, listOf vs n) ∈ news → ApartT T b → ApartT ((ro, tupO os ko) :: (tr, tupO fs kt) :: (X ++ T)) b := by
    intro b vs n hb ha q hq
    rcases List.mem_cons.mp hq with rfl | hq
    · exact ne_cls N h1 hb (show Value.type "tuple" ≠ Value.type "list" from by intro e; injection e with e; revert e; decide)
    · rcases List.mem_cons.mp hq with rfl | hq
      · exact ne_cls N h2 hb (show Value.type "tuple" ≠ Value.type "list" from by intro e; injection e with e; revert e; decide)
      · rcases List.mem_append.mp hq with hq | hq
        · exact ne_cls N (hXn _ hq) hb (by rw [hXc _ hq]; show Value.type "dict" ≠ Value.type "list"; intro e; injection e with e; revert e; decide)
        · exact ha _ hq
  refine ⟨ro, tr, d', os, fs, ko, kt, (ro, tupO os ko) :: (tr, tupO fs kt) :: (X ++ T), rfl, fun q hq => ?_, .head _, hos.mono up, .tail _ (.head _), hfs.mono up, ?_, ap _ _ _ h3 a3, ap _ _ _ h4 a4⟩
  · have : q ∈ news := by
      simp only [List.mem_cons, List.mem_append] at hq
      rcases hq with rfl | rfl | rfl | rfl | hq | hq
      · exact h3
      · exact h4
      · exact h1
      · exact h2
      · exact hXn _ hq
      · exact hT _ hq
    exact ⟨(N _ this).1, (N _ this).2.2⟩
  · rcases hX with ⟨_, a, b⟩ | ⟨a, o, rfl, _, c⟩
    · exact .inl ⟨a, b⟩
    · exact .inr ⟨a, o, .tail _ (.tail _ (.head _)), c⟩
/-- the state of enter's second loop -/
inductive EnK (w : World) (D : List (Str × Str)) (m₀ : Str → Option Value) (n : Addr) (R : List (Addr × Obj)) (pre : List (Str × Str)) (m : Str → Option Value) (news : List (Addr × Obj)) : Prop
  | mk (o : _) (_ : news = (n, o) :: R) (_ : DictS w o (puts D pre)) (_ : ∀ y, ([Str.ofString "prefix", Str.ofString "uri"] : List Str).contains y = false → m y = m₀ y) : EnK w D m₀ n R pre m news
abbrev EnKof (w : World) (D : List (Str × Str)) {h₀ h : Heap} {L n : Addr} {x : Obj} {R : List (Addr × Obj)} {m : Str → Option Value} (_ : Fr h₀ L h m) (_ : News h₀ L h ((n, x) :: R)) := EnK w D m n R
abbrev EnJof {h₀ h : Heap} {L o1 o2 sl tl : Addr} {x1 x2 so to : Obj} {m : Str → Option Value} (_ : Fr h₀ L h m) (_ : News h₀ L h [(o2, x2), (o1, x1), (sl, so), (tl, to)]) := EnJ m o1 o2 sl tl so to
local macro_rules | `(tactic| k_inst) => `(tactic| exact inst_base (by k_asm) (by assumption) (by assumption))
local macro_rules | `(tactic| walk_at "exec For Tuple Name cons nil") => `(tactic| ((with_reducible rename Fr _ _ _ _ => kF); k_dflt (refine' For_S kF ?h ?hs; (case hs => intro _; rfl))))
set_option maxHeartbeats 1000000 in
theorem enterSpec {w : World} {p : Program} {loose : List Str} {mean : ExcName → Option Value} {mg mb : Str → Option Value} {dp un : Nat} {gd : Option (List Code)} {outer : List Env} {base g : Heap} {s : Shared} {R : Result → Shared → Prop}
    {nm sl tl r d : Addr} {ds ts : List Value} {n1 n2 : Nat} {l D : List (Str × Str)} (G : Gd w p loose mean mg mb 16 dp un gd outer base g s)
    (hne : @Ne Nat sl tl) (N : Sep g s.heap [(sl, listOf (ds ++ [Value.ref d]).toArray n1), (tl, listOf ts.toArray n2)]) (hn : NamesAt base nm sl tl) (hr : RowAt base r l) (hD : DictAt w base d D) (hD64 : D.length ≤ 1000) (hds : ds.length ≤ 1000) (hts : ts.length ≤ 1000) (hl64 : l.length ≤ 64) (hok : ∀ q ∈ l, PairOk q)
    (hret : ¬ BadIn l → ∀ v h' tk, g.StaysIn h' → EnterPost w sl tl d D l ds ts n1 n2 g v h' → R (.ok (.ret v)) { s with heap := h', toks := tk })
    (herr : BadIn l → ∀ e h' tk, XR g outer e [(sl, listOf (ds ++ [Value.ref d]).toArray n1), (tl, listOf ts.toArray n2)] h' → R (.error (.ref e)) { s with heap := h', toks := tk }) :
    codeAny (model PySem.Challenge.rw_nu0058_01.row.prog w) (Ar dp un gd outer) (.call (.ref 154) ⟨[.ref nm, .ref r], []⟩) R s := by
  have X := G.X
  have T := G.T
  obtain ⟨B, XB, TB, full, st, sz, hdp, hun⟩ := G
  have hDg := hD.keep B.stays
  obtain ⟨dx, k1, k2, h1, h2, nn, hn1, hn2⟩ := (hn.keep B.stays).obj
  obtain ⟨vs, nr, hr1, hr2⟩ := hr.keep B.stays
  have hfill : (PySem.Challenge.rw_nu0058_01.row.prog = PySem.Challenge.rw_nu0058_01.row.prog) ∧ (hd.heap_39 = hd.heap_39) → True := fun _ => trivial
  revert hfill; k_fill; intro hfill; clear hfill
  refine' enterS ?k1 ?k2 ?k3 ?k4 ?k5 ?kN ?k6 ?k7 ?k8 ?k9 ?kB ?_ ?c5 ?c2 ?c3 ?c4
  (case k1 => assumption)
  (case k2 => assumption)
  (case k3 => assumption)
  (case k4 => assumption)
  (case k5 => assumption)
  (case kN => assumption)
  (case k6 => k_is)
  (case k7 => k_is)
  (case k8 => k_room)
  (case k9 => first | exact BindsTo.of_eq rfl | exact binds_K (X.keeps st) rfl (by k_is) rfl rfl rfl)
  (case c5 => decide)
  (case kB => exact locs rfl)
  (case c2 => exact rfl)
  (case c3 => exact rfl)
  (case c4 => exact rfl)
  k_whole
  intro L' h' F' N' l1; (try k_lt l1); (try dsimp only); (try k_fold)
  w_strict k_steps
  all_goals (try dsimp only)
  (rename Fr _ _ _ _ => F1); (rename News _ _ _ _ => N1)
  refine' pairs_iter rfl rfl rfl rfl hr1 hr2 F1 N1 (EnJof F1 N1) ?h0 ?turn ?done
  case h0 => exact ⟨[], [], _, _, [], rfl, .nil, .nil, (fun _ h => nomatch h), (fun _ h => nomatch h), (fun _ h => nomatch h), (fun _ h => nomatch h), fun _ _ => rfl, fun ⟨_, h, _⟩ => nomatch h⟩
  case turn =>
    intro pre x y post t u m₁ news₁ I itO h₁ tk₁ hl hJ hI _ F2 N2
    obtain ⟨os, fs, na, nb, T, rfl, hos, hfs, a1, a2, a3, a4, hm, hbad⟩ := hJ
    dsimp only [EnJof]
    clear F1 N1
    have hk := keepN_of hm
    rw [hk] at F2
    dsimp only [keepN] at F2
    have aI : ApartT T I := fun q hq => hI q (by simp [hq])
    have hxy : PairOk (x, y) := hok _ (by rw [hl]; simp)
    have hz1 : os.length ≤ 64 := by rw [hos.length]; have := others_len pre; rw [hl] at hl64; simp at hl64; omega
    have hz2 : fs.length ≤ 64 := by rw [hfs.length]; have := mine_len pre; rw [hl] at hl64; simp at hl64; omega
    rcases hxy.cases with hx | ⟨p', hx, hy | hy⟩
    · w_strict k_steps
      all_goals (try dsimp only)
      (rename Fr _ _ _ _ => F5); (rename News _ _ _ _ => N5)
      simp only [List.push_toArray] at N5
      refine' turn_fin N5 F5 ?c1 ?c2 ?c3 ?c4 ?c5 ?c6 ?c7 ?c8 ?c9
      case c1 => k_all
      case c2 => rw [others_plain hx]; exact hos.snoc
      case c3 => rw [mine_plain hx]; exact hfs.mono fun _ h => .tail _ h
      case c4 => k_all
      case c5 => k_all
      case c6 => k_all
      case c7 => k_all
      case c8 => repeat (first | exact keepN_base | refine keepN_if (by decide) ?_)
      case c9 => exact bad_snoc hbad fun _ => bad_plain hx
    · w_strict k_steps
      all_goals (try dsimp only)
      (rename Fr _ _ _ _ => F5); (rename News _ _ _ _ => N5)
      simp only [List.push_toArray] at N5
      refine' turn_fin N5 F5 ?c1 ?c2 ?c3 ?c4 ?c5 ?c6 ?c7 ?c8 ?c9
      case c1 => k_all
      case c2 => rw [others_decl hx]; exact hos.mono fun _ h => .tail _ h
      case c3 => rw [mine_decl hx]; exact hfs.snoc
      case c4 => k_all
      case c5 => k_all
      case c6 => k_all
      case c7 => k_all
      case c8 => repeat (first | exact keepN_base | refine keepN_if (by decide) ?_)
      case c9 => exact bad_snoc hbad fun _ => bad_decl hx hy
    · w_strict k_steps
      all_goals (try dsimp only)
      refine herr ⟨(x, y), by rw [hl]; simp, p', hx, hy⟩ _ _ _ (XR.sub (by assumption) fun q hq => ?_)
      simp only [List.mem_cons, List.not_mem_nil, or_false] at hq ⊢
      rcases hq with h | h <;> simp only [h, true_or, or_true]
  case done =>
    intro h3 tk2 m2 news2 F2 N2 hJ
    obtain ⟨os, fs, na, nb, T, rfl, hos, hfs, a1, a2, a3, a4, hm, hbad⟩ := hJ
    have hk := keepN_of hm
    rw [hk] at F2
    dsimp only [keepN] at F2
    clear F1 N1
    have hz1 : os.length ≤ 64 := by rw [hos.length]; have := others_len l; omega
    have hz2 : fs.length ≤ 64 := by rw [hfs.length]; have := mine_len l; omega
    dsimp only
    have hSM : SOk (mineOf l) := sok_mine hok
    by_cases hfe : mineOf l = []
    · rw [hfe] at hfs
      cases hfs
      w_strict k_steps
      all_goals (try dsimp only)
      (rename News _ _ _ _ => N5); (rename Fr _ _ _ _ => F5)
      simp only [List.push_toArray, List.append_assoc, List.cons_append, List.nil_append] at N5
      refine hret hbad _ _ _ F5.keep (enter_end (X := []) N5 (.head _) (.tail _ (.head _)) (by kfm_turns) (by kfm_turns) (fun q hq => by kfm_turns) hos (by rw [hfe]; exact .nil) (.inl ⟨rfl, rfl, hfe⟩) a3 a4)
    · w_strict k_steps
      all_goals (try dsimp only)
      (rename Fr _ _ _ _ => F3); (rename News _ _ _ _ => N3); (rename DictS _ _ _ => d3); (rename (_ == sysModules) = false => lo3)
      refine' For_S F3 ?h ?hs
      case hs => intro _; rfl
      w_strict k_steps
      all_goals (try dsimp only)
      refine' pairs_iterL rfl rfl rfl rfl (by kfm_turns) T hfs F3 N3 (EnKof w D F3 N3) ?h0 ?hJ0 ?turn ?done
      case h0 => exact ⟨_, rfl, d3, fun _ _ => rfl⟩
      case hJ0 =>
        rintro pre m' news' ⟨o, rfl, _⟩
        exact ⟨by kfm_turns, fun q hq => by kfm_turns⟩
      case turn =>
        rintro pre x y post t u m₁ news₁ I itO h₁ tk₁ hl ⟨o, rfl, dd, hm⟩ hI F4 N4
        have hz : (puts D pre).length ≤ 1064 := by
          have := puts_len pre D
          have := mine_len l
          have e := congrArg List.length hl
          simp at e
          omega
        have hk := keepN_of hm
        rw [hk] at F4
        dsimp only [keepN] at F4
        have hI' := hI
        w_strict k_steps
        all_goals (try dsimp only)
        (rename Fr _ _ _ _ => F5); (rename News _ _ _ _ => N5); (rename DictS _ _ _ => d5)
        refine ⟨rfl, _, _, _, _, rfl, F5, N5, ?_, _, rfl, by rw [puts_snoc]; exact d5, ?_⟩
        · exact all_cons (hI _ (.head _)) fun q hq => hI' q (.tail _ hq)
        · repeat (first | exact keepN_base | refine keepN_if (by decide) ?_)
      case done =>
        rintro h4 tk4 m4 news4 F4 N4 ⟨o, rfl, dd, hm⟩
        have hk := keepN_of hm
        rw [hk] at F4
        dsimp only [keepN] at F4
        dsimp only
        w_strict k_steps
        all_goals (try dsimp only)
        (rename News _ _ _ _ => N5); (rename Fr _ _ _ _ => F5)
        simp only [List.push_toArray, List.append_assoc, List.cons_append, List.nil_append] at N5
        refine hret hbad _ _ _ F5.keep (enter_end (X := [_]) N5 (.head _) (.tail _ (.head _)) (by kfm_turns) (by kfm_turns) (fun q hq => by kfm_turns) hos hfs (.inr ⟨lo3, o, rfl, by kfm_turns, dd⟩) a3 a4)
theorem off_part10_meth : True := by w_top off; trivial
section
variable {w : World} {A : Around} {E : Value → Shared → Prop} {s : Shared} {d : Addr} {D : List (Str × Str)} {x : Str} {t : Tok}
theorem getMethodS {name : Str} {id : String} {pl : Sem Bool} {Q : Value × List Value → Shared → Prop} (slot : Slot "dict" name id) (hty : typeOf (.builtin id) = pure (.type "method_descriptor"))
    (T : DictAt w s.heap d D) (h : Q (.builtin id, [.ref d]) s) : wpAny (model PySem.Challenge.rw_nu0058_01.row.prog w) A (getMethod (.ref d) name pl) Q E s := by
  obtain ⟨kvs, hd, _⟩ := T.at
  exact getMethod_builtin hd.typeIs PySem.F.plainAttrs_dict slot hty hd.mapOf.noDict h
theorem getS1 {v : Str} {Q : Value → Shared → Prop} (T : DictAt w s.heap d D) (e : look D x = some v) (h : ∀ u, Q (.str v u) { s with toks := s.toks + 1 }) :
    wpAny (model PySem.Challenge.rw_nu0058_01.row.prog w) A (call (.builtin "dict.get") [.ref d, .str x t]) Q E s := by
  obtain ⟨kvs, hd, hs⟩ := T.at
  refine call_meetsIn PySem.F.slot_dict_get hd.typeIs PySem.F.entry_dict_get (PySem.F.args_dict_get_2 _ _) (meets_dict_get (strKind _ _) d (strKind_is _ _ _ _) T.1) ⟨_, hd.mapOf, ?_⟩
  obtain ⟨u, z⟩ := (hs.at x).1 v e; rw [z]; exact h u
theorem getS0 {Q : Value → Shared → Prop} (T : DictAt w s.heap d D) (e : look D x = none) (h : Q .none { s with toks := s.toks + 1 }) :
    wpAny (model PySem.Challenge.rw_nu0058_01.row.prog w) A (call (.builtin "dict.get") [.ref d, .str x t]) Q E s := by
  obtain ⟨kvs, hd, hs⟩ := T.at
  refine call_meetsIn PySem.F.slot_dict_get hd.typeIs PySem.F.entry_dict_get (PySem.F.args_dict_get_2 _ _) (meets_dict_get (strKind _ _) d (strKind_is _ _ _ _) T.1) ⟨_, hd.mapOf, ?_⟩
  rw [(hs.at x).2 e]; exact h
theorem get2S1 {v : Str} {dflt : Value} {Q : Value → Shared → Prop} (T : DictAt w s.heap d D) (e : look D x = some v) (h : ∀ u, Q (.str v u) { s with toks := s.toks + 1 }) :
    wpAny (model PySem.Challenge.rw_nu0058_01.row.prog w) A (call (.builtin "dict.get") [.ref d, .str x t, dflt]) Q E s := by
  obtain ⟨kvs, hd, hs⟩ := T.at
  refine call_meetsIn PySem.F.slot_dict_get hd.typeIs PySem.F.entry_dict_get (PySem.F.args_dict_get_3 _ _ _) (meets_dict_get_default (strKind _ _) d (strKind_is _ _ _ _) T.1 dflt) ⟨_, hd.mapOf, ?_⟩
  obtain ⟨u, z⟩ := (hs.at x).1 v e; rw [z]; exact h u
theorem get2S0 {dflt : Value} {Q : Value → Shared → Prop} (T : DictAt w s.heap d D) (e : look D x = none) (h : Q dflt { s with toks := s.toks + 1 }) :
    wpAny (model PySem.Challenge.rw_nu0058_01.row.prog w) A (call (.builtin "dict.get") [.ref d, .str x t, dflt]) Q E s := by
  obtain ⟨kvs, hd, hs⟩ := T.at
  refine call_meetsIn PySem.F.slot_dict_get hd.typeIs PySem.F.entry_dict_get (PySem.F.args_dict_get_3 _ _ _) (meets_dict_get_default (strKind _ _) d (strKind_is _ _ _ _) T.1 dflt) ⟨_, hd.mapOf, ?_⟩
  rw [(hs.at x).2 e]; exact h
theorem lenL {h₀ : Heap} {L l : Addr} {news : List (Addr × Obj)} {vs : List Value} {n k : Nat} {Q : Value → Shared → Prop} (N : News h₀ L s.heap news) (hm : (l, listOf vs.toArray n) ∈ news) (hz : vs.length ≤ 100000) (e : vs.length = k)
    (h : Q (.int k (s.toks + 1)) { s with toks := s.toks + 1 + 1 }) : wpAny (model PySem.Challenge.rw_nu0058_01.row.prog w) A (call (.builtin "len") [.ref l]) Q E s := by
  subst e
  exact len_list (News.isList N hm) (by simp only [List.size_toArray]; omega) (by simpa using h)
theorem popL {h₀ : Heap} {L l : Addr} {m : Str → Option Value} {news news' : List (Addr × Obj)} {p : List Value} {y : Value} {n : Nat} {Q : Value → Shared → Prop} (F : Fr h₀ L s.heap m) (N : News h₀ L s.heap news)
    (U : Upd l (listOf (p ++ [y]).toArray n) (listOf p.toArray (n + 1)) news news') (hz : p.length ≤ 100000) (h : ∀ h', Fr h₀ L h' m → News h₀ L h' news' → Q y { s with heap := h' }) :
    wpAny (model PySem.Challenge.rw_nu0058_01.row.prog w) A (call (.builtin "list.pop") [.ref l]) Q E s :=
  kl_pop F N (p := p) (y := y) (by simpa using kpa_last y p) U (by rw [sizeLine_eq]; simp; omega) h
end
local macro_rules | `(tactic| walk_at "getMethod ref") => `(tactic| ((with_reducible refine' getMethodS PySem.F.slot_dict_get PySem.F.type_dict_get ?T ?_); k_dflt (walk_at "T"; k_whole)))
local macro_rules | `(tactic| walk_at "call builtin:dict.get") => `(tactic| ((with_reducible refine' getS1 ?T ?e ?_); k_dflt ((case e => assumption); walk_at "T"; k_whole; intros)))
local macro_rules | `(tactic| walk_at "call builtin:dict.get") => `(tactic| ((with_reducible refine' getS0 ?T ?e ?_); k_dflt ((case e => assumption); walk_at "T"; k_whole)))
local macro_rules | `(tactic| walk_at "call builtin:dict.get") => `(tactic| ((with_reducible refine' get2S1 ?T ?e ?_); k_dflt ((case e => assumption); walk_at "T"; k_whole; intros)))
local macro_rules | `(tactic| walk_at "call builtin:dict.get") => `(tactic| ((with_reducible refine' get2S0 ?T ?e ?_); k_dflt ((case e => assumption); walk_at "T"; k_whole)))
local macro_rules | `(tactic| walk_at "call builtin:len") => `(tactic| ((with_reducible refine' lenL ?N ?m ?z ?e ?_); k_dflt ((case N => k_asm); (case m => kfm_turns); (case z => ((try simp only [List.length_append, List.length_cons, List.length_nil]); omega)); (case e => ((try simp only [List.length_append, List.length_cons, List.length_nil, Nat.zero_add]); exact rfl)); k_whole)))
local macro_rules | `(tactic| walk_at "call builtin:list.pop") => `(tactic| ((with_reducible refine' popL ?F ?N ?U ?z ?_); k_dflt (walk_at "FN"; (case U => k_upd); (case z => ((try simp only [List.length_append, List.length_cons, List.length_nil]); omega)); intros)))
set_option maxHeartbeats 1000000 in
theorem leaveSpec {w : World} {p : Program} {loose : List Str} {mean : ExcName → Option Value} {mg mb : Str → Option Value} {dp un : Nat} {gd : Option (List Code)} {outer : List Env} {base g : Heap} {s : Shared} {R : Result → Shared → Prop}
    {nm sl tl : Addr} {ds ts : List Value} {d₀ d₁ t₁ : Value} {n1 n2 : Nat} (G : Gd w p loose mean mg mb 8 dp un gd outer base g s) (hne : @Ne Nat sl tl)
    (N : Sep g s.heap [(sl, listOf ((ds ++ [d₀]) ++ [d₁]).toArray n1), (tl, listOf (ts ++ [t₁]).toArray n2)]) (hn : NamesAt base nm sl tl) (hds : ds.length ≤ 1000) (hts : ts.length ≤ 1000)
    (hret : ∀ h' tk, g.StaysIn h' → Sep g h' [(sl, listOf (ds ++ [d₀]).toArray (n1 + 1)), (tl, listOf ts.toArray (n2 + 1))] → R (.ok (.ret .none)) { s with heap := h', toks := tk }) :
    codeAny (model PySem.Challenge.rw_nu0058_01.row.prog w) (Ar dp un gd outer) (.call (.ref 161) ⟨[.ref nm], []⟩) R s := by
  have X := G.X
  have T := G.T
  obtain ⟨B, XB, TB, full, st, sz, hdp, hun⟩ := G
  obtain ⟨dx, k1, k2, h1, h2, nn, hn1, hn2⟩ := (hn.keep B.stays).obj
  have hfill : (PySem.Challenge.rw_nu0058_01.row.prog = PySem.Challenge.rw_nu0058_01.row.prog) ∧ (hd.heap_39 = hd.heap_39) → True := fun _ => trivial
  revert hfill; k_fill; intro hfill; clear hfill
  refine' enterS ?k1 ?k2 ?k3 ?k4 ?k5 ?kN ?k6 ?k7 ?k8 ?k9 ?kB ?_ ?c5 ?c2 ?c3 ?c4
  (case k1 => assumption)
  (case k2 => assumption)
  (case k3 => assumption)
  (case k4 => assumption)
  (case k5 => assumption)
  (case kN => assumption)
  (case k6 => k_is)
  (case k7 => k_is)
  (case k8 => k_room)
  (case k9 => first | exact BindsTo.of_eq rfl | exact binds_K (X.keeps st) rfl (by k_is) rfl rfl rfl)
  (case c5 => decide)
  (case kB => exact locs rfl)
  (case c2 => exact rfl)
  (case c3 => exact rfl)
  (case c4 => exact rfl)
  k_whole
  intro L' h' F' N' l1; (try k_lt l1); (try dsimp only); (try k_fold)
  refine wpAny_noRaise ?_
  w_strict k_steps
  all_goals (try dsimp only)
  all_goals first
    | exact hret _ _ (Fr.keep (by assumption)) (News.sep (by assumption))
    | omega
set_option maxHeartbeats 1000000 in
theorem depthSpec {w : World} {p : Program} {loose : List Str} {mean : ExcName → Option Value} {mg mb : Str → Option Value} {dp un : Nat} {gd : Option (List Code)} {outer : List Env} {base g : Heap} {s : Shared} {R : Result → Shared → Prop}
    {nm sl tl : Addr} {ds : List Value} {n1 : Nat} (G : Gd w p loose mean mg mb 8 dp un gd outer base g s)
    (N : Sep g s.heap [(sl, listOf ds.toArray n1)]) (hn : NamesAt base nm sl tl) (hds : ds.length ≤ 1000)
    (hret : ∀ t h' tk, g.StaysIn h' → Sep g h' [(sl, listOf ds.toArray n1)] → R (.ok (.ret (.int (ds.length - 1) t))) { s with heap := h', toks := tk }) :
    codeAny (model PySem.Challenge.rw_nu0058_01.row.prog w) (Ar dp un gd outer) (.call (.ref 168) ⟨[.ref nm], []⟩) R s := by
  have X := G.X
  have T := G.T
  obtain ⟨B, XB, TB, full, st, sz, hdp, hun⟩ := G
  obtain ⟨dx, k1, k2, h1, h2, nn, hn1, hn2⟩ := (hn.keep B.stays).obj
  have hfill : (PySem.Challenge.rw_nu0058_01.row.prog = PySem.Challenge.rw_nu0058_01.row.prog) ∧ (hd.heap_39 = hd.heap_39) → True := fun _ => trivial
  revert hfill; k_fill; intro hfill; clear hfill
  refine' enterS ?k1 ?k2 ?k3 ?k4 ?k5 ?kN ?k6 ?k7 ?k8 ?k9 ?kB ?_ ?c5 ?c2 ?c3 ?c4
  (case k1 => assumption)
  (case k2 => assumption)
  (case k3 => assumption)
  (case k4 => assumption)
  (case k5 => assumption)
  (case kN => assumption)
  (case k6 => k_is)
  (case k7 => k_is)
  (case k8 => k_room)
  (case k9 => first | exact BindsTo.of_eq rfl | exact binds_K (X.keeps st) rfl (by k_is) rfl rfl rfl)
  (case c5 => decide)
  (case kB => exact locs rfl)
  (case c2 => exact rfl)
  (case c3 => exact rfl)
  (case c4 => exact rfl)
  k_whole
  intro L' h' F' N' l1; (try k_lt l1); (try dsimp only); (try k_fold)
  refine wpAny_noRaise ?_
  w_strict k_steps
  all_goals (try dsimp only)
  exact hret _ _ _ (Fr.keep (by assumption)) (News.sep (by assumption))
set_option maxHeartbeats 1000000 in
theorem declaredSpec {w : World} {p : Program} {loose : List Str} {mean : ExcName → Option Value} {mg mb : Str → Option Value} {dp un : Nat} {gd : Option (List Code)} {outer : List Env} {base g : Heap} {s : Shared} {R : Result → Shared → Prop}
    {nm sl tl : Addr} {ts : List Value} {x : Value} {n2 : Nat} (G : Gd w p loose mean mg mb 8 dp un gd outer base g s)
    (N : Sep g s.heap [(tl, listOf (ts ++ [x]).toArray n2)]) (hn : NamesAt base nm sl tl)
    (hret : ∀ h' tk, g.StaysIn h' → Sep g h' [(tl, listOf (ts ++ [x]).toArray n2)] → R (.ok (.ret x)) { s with heap := h', toks := tk }) :
    codeAny (model PySem.Challenge.rw_nu0058_01.row.prog w) (Ar dp un gd outer) (.call (.ref 175) ⟨[.ref nm], []⟩) R s := by
  have X := G.X
  have T := G.T
  obtain ⟨B, XB, TB, full, st, sz, hdp, hun⟩ := G
  obtain ⟨dx, k1, k2, h1, h2, nn, hn1, hn2⟩ := (hn.keep B.stays).obj
  have hfill : (PySem.Challenge.rw_nu0058_01.row.prog = PySem.Challenge.rw_nu0058_01.row.prog) ∧ (hd.heap_39 = hd.heap_39) → True := fun _ => trivial
  revert hfill; k_fill; intro hfill; clear hfill
  refine' enterS ?k1 ?k2 ?k3 ?k4 ?k5 ?kN ?k6 ?k7 ?k8 ?k9 ?kB ?_ ?c5 ?c2 ?c3 ?c4
  (case k1 => assumption)
  (case k2 => assumption)
  (case k3 => assumption)
  (case k4 => assumption)
  (case k5 => assumption)
  (case kN => assumption)
  (case k6 => k_is)
  (case k7 => k_is)
  (case k8 => k_room)
  (case k9 => first | exact BindsTo.of_eq rfl | exact binds_K (X.keeps st) rfl (by k_is) rfl rfl rfl)
  (case c5 => decide)
  (case kB => exact locs rfl)
  (case c2 => exact rfl)
  (case c3 => exact rfl)
  (case c4 => exact rfl)
  k_whole
  intro L' h' F' N' l1; (try k_lt l1); (try dsimp only); (try k_fold)
  refine wpAny_noRaise ?_
  w_strict k_steps
  all_goals (try dsimp only)
  exact hret _ _ (Fr.keep (by assumption)) (News.sep (by assumption))
/-- what uri_of answers -/
def uriOf (D : List (Str × Str)) (x : Str) : Option Str := if x = Str.ofString "xmlns" then none else match look D x with
  | some v => some v
  | none => if x = Str.ofString "" then some (Str.ofString "") else none
set_option maxHeartbeats 1000000 in
theorem uriSpec {w : World} {p : Program} {loose : List Str} {mean : ExcName → Option Value} {mg mb : Str → Option Value} {dp un : Nat} {gd : Option (List Code)} {outer : List Env} {base g : Heap} {s : Shared} {R : Result → Shared → Prop}
    {nm sl tl d : Addr} {ds : List Value} {x : Str} {t : Tok} {n1 : Nat} {D : List (Str × Str)} (G : Gd w p loose mean mg mb 8 dp un gd outer base g s)
    (N : Sep g s.heap [(sl, listOf (ds ++ [Value.ref d]).toArray n1)]) (hn : NamesAt base nm sl tl) (hD : DictAt w base d D) (hx : x.length ≤ 1000)
    (hret : ∀ v, uriOf D x = some v → ∀ t h' tk, g.StaysIn h' → Sep g h' [(sl, listOf (ds ++ [Value.ref d]).toArray n1)] → R (.ok (.ret (.str v t))) { s with heap := h', toks := tk })
    (herr : uriOf D x = none → ∀ e h' tk, XR g outer e [(sl, listOf (ds ++ [Value.ref d]).toArray n1)] h' → R (.error (.ref e)) { s with heap := h', toks := tk }) :
    codeAny (model PySem.Challenge.rw_nu0058_01.row.prog w) (Ar dp un gd outer) (.call (.ref 182) ⟨[.ref nm, .str x t], []⟩) R s := by
  have X := G.X
  have T := G.T
  obtain ⟨B, XB, TB, full, st, sz, hdp, hun⟩ := G
  have hDg := hD.keep B.stays
  obtain ⟨dx, k1, k2, h1, h2, nn, hn1, hn2⟩ := (hn.keep B.stays).obj
  have hfill : (PySem.Challenge.rw_nu0058_01.row.prog = PySem.Challenge.rw_nu0058_01.row.prog) ∧ (hd.heap_39 = hd.heap_39) → True := fun _ => trivial
  revert hfill; k_fill; intro hfill; clear hfill
  refine' enterS ?k1 ?k2 ?k3 ?k4 ?k5 ?kN ?k6 ?k7 ?k8 ?k9 ?kB ?_ ?c5 ?c2 ?c3 ?c4
  (case k1 => assumption)
  (case k2 => assumption)
  (case k3 => assumption)
  (case k4 => assumption)
  (case k5 => assumption)
  (case kN => assumption)
  (case k6 => k_is)
  (case k7 => k_is)
  (case k8 => k_room)
  (case k9 => first | exact BindsTo.of_eq rfl | exact binds_K (X.keeps st) rfl (by k_is) rfl rfl rfl)
  (case c5 => decide)
  (case kB => exact locs rfl)
  (case c2 => exact rfl)
  (case c3 => exact rfl)
  (case c4 => exact rfl)
  k_whole
  intro L' h' F' N' l1; (try k_lt l1); (try dsimp only); (try k_fold)
  cases e : look D x with
  | none =>
    w_strict k_steps
    all_goals (try dsimp only)
    all_goals first
      | exact herr (by simp_all [uriOf]) _ _ _ (by assumption)
      | exact hret _ (by simp_all [uriOf]) _ _ _ (Fr.keep (by assumption)) (News.sep (by assumption))
  | some v =>
    w_strict k_steps
    all_goals (try dsimp only)
    all_goals first
      | exact herr (by simp_all [uriOf]) _ _ _ (by assumption)
      | exact hret _ (by simp_all [uriOf]) _ _ _ (Fr.keep (by assumption)) (News.sep (by assumption))
theorem off_part11_res : True := by w_top off; trivial
section
variable {w : World} {h₀ h' : Heap} {s : Shared} {L : Addr} {m : Str → Option Value} {news S S' : List (Addr × Obj)}
theorem backF (F : Fr h₀ L s.heap m) (N : News h₀ L s.heap news) (hS : ∀ q ∈ S, q ∈ news) (hk : (subG s S).StaysIn h') : Fr h₀ L h' m :=
  ⟨F.ns.at' fun o e => hk _ _ (sub_get e fun q hq => (N q (hS q hq)).2.1), fun b o e => hk _ _ (stays_sub F (fun q hq => N q (hS q hq)) b o e), F.above⟩
theorem backO (N : News h₀ L s.heap news) (hk : (subG s S).StaysIn h') {rest : List (Addr × Obj)} (hr : ∀ q ∈ rest, q ∈ news ∧ ∀ p ∈ S, p.1 ≠ q.1) : News h₀ L h' rest := fun q hq =>
  ⟨hk _ _ (sub_get (N q (hr q hq).1).1 (hr q hq).2), (N q (hr q hq).1).2⟩
theorem backS (F : Fr h₀ L s.heap m) (N : News h₀ L s.heap news) (hS : ∀ q ∈ S, q ∈ news) (hs : Sep (subG s S) h' S') : News h₀ L h' S' := fun q hq => by
  refine ⟨(hs q hq).1, fun e => ?_, ?_⟩
  · obtain ⟨oL, es, ep, hL, r⟩ := F.ns
    have := (hs q hq).2
    rw [e, show (subG s S).get? L = some oL from sub_get hL fun p hp => (N p (hS p hp)).2.1] at this
    cases this
  · cases hz : h₀.get? q.1 with
    | none => rfl
    | some o =>
      have := (hs q hq).2
      rw [stays_sub F (fun q hq => N q (hS q hq)) _ _ hz] at this
      cases this
/-- S as it was: the whole ledger stands -/
theorem backN (F : Fr h₀ L s.heap m) (N : News h₀ L s.heap news) (hS : ∀ q ∈ S, q ∈ news) (hk : (subG s S).StaysIn h') (hs : Sep (subG s S) h' S) : News h₀ L h' news := fun q hq => by
  by_cases e : ∃ p ∈ S, p.1 = q.1
  · obtain ⟨p, hp, e⟩ := e
    have h1 := (N p (hS p hp)).1
    rw [e, (N q hq).1] at h1
    have : p = q := Prod.ext e (Option.some.inj h1).symm
    exact this ▸ backS F N hS hs p hp
  · exact backO N hk (rest := [q]) (fun x hx => by rw [List.mem_singleton.mp hx]; exact ⟨hq, fun p hp z => e ⟨p, hp, z⟩⟩) q (.head _)
/-- what is new in h' is apart from what stood -/
theorem backNe {X : List (Addr × Obj)} (N : News h₀ L s.heap news) (hs : Sep (subG s S) h' X) {q p : Addr × Obj} (hq : q ∈ news) (hqS : ∀ r ∈ S, r.1 ≠ q.1) (hp : p ∈ X) : q.1 ≠ p.1 := fun e => by
  have := (hs p hp).2
  rw [← e, show (subG s S).get? q.1 = some q.2 from sub_get (N q hq).1 hqS] at this
  cases this
end
section
variable {w : World} {p : Program} {loose : List Str} {mean : ExcName → Option Value} {mg mb : Str → Option Value} {dp un : Nat} {gd : Option (List Code)} {outer : List Env} {A₀ : Around} {base h₀ : Heap} {s : Shared}
  {L : Addr} {m : Str → Option Value} {env : Env} {news : List (Addr × Obj)} {Q E : Value → Shared → Prop} {nm sl tl d : Addr} {ds : List Value} {n1 : Nat} {D : List (Str × Str)} {x v : Str} {t : Tok}
theorem uri_call {A : Around} (hA : A = Ar dp un gd (env :: outer)) (B : Below A₀ base outer h₀) (F : Fr h₀ L s.heap m) (N : News h₀ L s.heap news) (XB : (hd.heap_39 w.params).In base) (TB : Top p loose mean mg mb base) (hf : env.frame = some L) (hke : env.scope.kind = .function)
    (hm : (sl, listOf (ds ++ [Value.ref d]).toArray n1) ∈ news) (hn : NamesAt base nm sl tl) (hD : DictAt w base d D) (hx : x.length ≤ 1000) (e : uriOf D x = some v)
    (hdp : dp + 8 < recursionLimit) (hun : un + 16 * 8 + 100 < cLine) (h : ∀ t h' tk, Fr h₀ L h' m → News h₀ L h' news → Q (.str v t) { s with heap := h', toks := tk }) :
    wpAny (model PySem.Challenge.rw_nu0058_01.row.prog w) A (call (.ref 182) [.ref nm, .str x t]) Q E s := by
  subst hA
  have hS : ∀ q ∈ [(sl, listOf (ds ++ [Value.ref d]).toArray n1)], q ∈ news := fun q hq => by rw [List.mem_singleton.mp hq]; exact hm
  obtain ⟨G', S', bs⟩ := Gd.sub (lvl := 8) (gd := gd) (un := un) (dp := dp) B F N XB TB hf hke hS hdp hun
  refine wpAny_call (uriSpec G' S' (hn.keep bs) (hD.keep bs) hx (fun v' e' t h' tk k1 k2 => ?_) (fun e' => by rw [e] at e'; cases e'))
  rw [e] at e'
  cases e'
  exact h t h' tk (backF F N hS k1) (backN F N hS k1 k2)
theorem uri_callX {A : Around} (hA : A = Ar dp un gd (env :: outer)) (B : Below A₀ base outer h₀) (F : Fr h₀ L s.heap m) (N : News h₀ L s.heap news) (XB : (hd.heap_39 w.params).In base) (TB : Top p loose mean mg mb base) (hf : env.frame = some L) (hke : env.scope.kind = .function)
    (hm : (sl, listOf (ds ++ [Value.ref d]).toArray n1) ∈ news) (hn : NamesAt base nm sl tl) (hD : DictAt w base d D) (hx : x.length ≤ 1000) (e : uriOf D x = none)
    (hdp : dp + 8 < recursionLimit) (hun : un + 16 * 8 + 100 < cLine) (h : ∀ e' tk h', XR (subG s [(sl, listOf (ds ++ [Value.ref d]).toArray n1)]) (env :: outer) e' [(sl, listOf (ds ++ [Value.ref d]).toArray n1)] h' → E (.ref e') { s with heap := h', toks := tk }) :
    wpAny (model PySem.Challenge.rw_nu0058_01.row.prog w) A (call (.ref 182) [.ref nm, .str x t]) Q E s := by
  subst hA
  have hS : ∀ q ∈ [(sl, listOf (ds ++ [Value.ref d]).toArray n1)], q ∈ news := fun q hq => by rw [List.mem_singleton.mp hq]; exact hm
  obtain ⟨G', S', bs⟩ := Gd.sub (lvl := 8) (gd := gd) (un := un) (dp := dp) B F N XB TB hf hke hS hdp hun
  exact wpAny_call (uriSpec G' S' (hn.keep bs) (hD.keep bs) hx (fun v' e' => by rw [e] at e'; cases e') (fun _ e1 h' tk xr => h e1 tk h' xr))
end
local macro_rules | `(tactic| walk_at "mine_pair") => `(tactic| exact splitC (by assumption))
local macro_rules | `(tactic| walk_at "call ref") => `(tactic| ((with_reducible refine' uri_call ?hA ?k1 ?k2 ?k3 ?k4 ?k5 ?k6 ?k7 ?m ?n ?D ?x ?e ?k8 ?k9 ?_); k_dflt ((case e => assumption); walk_at "c9"; (case n => assumption); (case m => kfm_turns); (case D => assumption); (case x => first | assumption | decide); walk_at "ce")))
local macro_rules | `(tactic| walk_at "call ref") => `(tactic| ((with_reducible refine' uri_callX ?hA ?k1 ?k2 ?k3 ?k4 ?k5 ?k6 ?k7 ?m ?n ?D ?x ?e ?k8 ?k9 ?_); k_dflt ((case e => assumption); walk_at "c9"; (case n => assumption); (case m => kfm_turns); (case D => assumption); (case x => first | assumption | decide); walk_at "ce")))
def resOf (D : List (Str × Str)) (y z : Str) (b : Bool) : Option (Str × Str) := if y = Str.ofString "" ∧ b = true then some (Str.ofString "", z) else (uriOf D y).map fun u => (u, z)
theorem split_len {x y z : Str} (h : (x, y, z) ∈ splitTriples) : x.length ≤ 1000 ∧ y.length ≤ 1000 := by
  have : ∀ q ∈ splitTriples, q.1.length ≤ 1000 ∧ q.2.1.length ≤ 1000 := by decide +kernel
  exact this _ h
theorem sep_pair {g h : Heap} {L r : Addr} {u l : Str} {t t' : Tok} {a q : Addr × Obj} (N : News g L h [(r, ({ cls := .type "tuple", data := .seq #[.str u t, .str l t'] } : Obj)), a, q]) : Sep g h [(r, tupO [.str u t, .str l t'] 0), q] := fun p hp => by
  rcases List.mem_cons.mp hp with rfl | hp
  · exact ⟨(N _ (.head _)).1, (N _ (.head _)).2.2⟩
  · rw [List.mem_singleton.mp hp]
    exact ⟨(N _ (.tail _ (.tail _ (.head _)))).1, (N _ (.tail _ (.tail _ (.head _)))).2.2⟩
set_option maxHeartbeats 1000000 in
theorem resSpec {w : World} {p : Program} {loose : List Str} {mean : ExcName → Option Value} {mg mb : Str → Option Value} {dp un : Nat} {gd : Option (List Code)} {outer : List Env} {base g : Heap} {s : Shared} {R : Result → Shared → Prop}
    {nm sl tl d : Addr} {ds : List Value} {x y z : Str} {t : Tok} {b : Bool} {n1 : Nat} {D : List (Str × Str)} (G : Gd w p loose mean mg mb 12 dp un gd outer base g s)
    (N : Sep g s.heap [(sl, listOf (ds ++ [Value.ref d]).toArray n1)]) (hn : NamesAt base nm sl tl) (hD : DictAt w base d D) (hx : (x, y, z) ∈ splitTriples)
    (hret : ∀ u l, resOf D y z b = some (u, l) → ∀ r t t' n h' tk, g.StaysIn h' → Sep g h' [(r, tupO [.str u t, .str l t'] n), (sl, listOf (ds ++ [Value.ref d]).toArray n1)] → R (.ok (.ret (.ref r))) { s with heap := h', toks := tk })
    (herr : resOf D y z b = none → ∀ e h' tk, XR g outer e [(sl, listOf (ds ++ [Value.ref d]).toArray n1)] h' → R (.error (.ref e)) { s with heap := h', toks := tk }) :
    codeAny (model PySem.Challenge.rw_nu0058_01.row.prog w) (Ar dp un gd outer) (.call (.ref 190) ⟨[.ref nm, .str x t, .bool b], []⟩) R s := by
  have X := G.X
  have T := G.T
  obtain ⟨B, XB, TB, full, st, sz, hdp, hun⟩ := G
  have hDg := hD.keep B.stays
  obtain ⟨dx, k1, k2, h1, h2, nn, hn1, hn2⟩ := (hn.keep B.stays).obj
  have hyl := (split_len hx).2
  have hfill : (PySem.Challenge.rw_nu0058_01.row.prog = PySem.Challenge.rw_nu0058_01.row.prog) ∧ (hd.heap_39 = hd.heap_39) → True := fun _ => trivial
  revert hfill; k_fill; intro hfill; clear hfill
  refine' enterS ?k1 ?k2 ?k3 ?k4 ?k5 ?kN ?k6 ?k7 ?k8 ?k9 ?kB ?_ ?c5 ?c2 ?c3 ?c4
  (case k1 => assumption)
  (case k2 => assumption)
  (case k3 => assumption)
  (case k4 => assumption)
  (case k5 => assumption)
  (case kN => assumption)
  (case k6 => k_is)
  (case k7 => k_is)
  (case k8 => k_room)
  (case k9 => first | exact BindsTo.of_eq rfl | exact binds_K (X.keeps st) rfl (by k_is) rfl rfl rfl)
  (case c5 => decide)
  (case kB => exact locs rfl)
  (case c2 => exact rfl)
  (case c3 => exact rfl)
  (case c4 => exact rfl)
  k_whole
  intro L' h' F' N' l1; (try k_lt l1); (try dsimp only); (try k_fold)
  cases e : uriOf D y with
  | none =>
    cases b
    · w_strict k_steps
      all_goals (try dsimp only)
      all_goals first
        | exact herr (by simp_all [resOf]) _ _ _ (XR.sub (by assumption) (fun q hq => by rw [List.mem_singleton.mp hq]; kfm_turns))
        | ((rename News _ _ _ _ => N5); exact hret _ _ (by simp_all [resOf]) _ _ _ _ _ _ (Fr.keep (by assumption)) (sep_pair N5))
    · w_strict k_steps
      all_goals (try dsimp only)
      all_goals first
        | exact herr (by simp_all [resOf]) _ _ _ (XR.sub (by assumption) (fun q hq => by rw [List.mem_singleton.mp hq]; kfm_turns))
        | ((rename News _ _ _ _ => N5); exact hret _ _ (by simp_all [resOf]) _ _ _ _ _ _ (Fr.keep (by assumption)) (sep_pair N5))
  | some v =>
    cases b
    · w_strict k_steps
      all_goals (try dsimp only)
      all_goals first
        | exact herr (by simp_all [resOf]) _ _ _ (XR.sub (by assumption) (fun q hq => by rw [List.mem_singleton.mp hq]; kfm_turns))
        | ((rename News _ _ _ _ => N5); exact hret _ _ (by simp_all [resOf]) _ _ _ _ _ _ (Fr.keep (by assumption)) (sep_pair N5))
    · w_strict k_steps
      all_goals (try dsimp only)
      all_goals first
        | exact herr (by simp_all [resOf]) _ _ _ (XR.sub (by assumption) (fun q hq => by rw [List.mem_singleton.mp hq]; kfm_turns))
        | ((rename News _ _ _ _ => N5); exact hret _ _ (by simp_all [resOf]) _ _ _ _ _ _ (Fr.keep (by assumption)) (sep_pair N5))
theorem off_part12_check : True := by w_top off; trivial
section
variable {w : World} {p : Program} {loose : List Str} {mean : ExcName → Option Value} {mg mb : Str → Option Value} {dp un : Nat} {gd : Option (List Code)} {outer : List Env} {A₀ : Around} {base h₀ : Heap} {s : Shared}
  {L : Addr} {m : Str → Option Value} {env : Env} {news : List (Addr × Obj)} {Q E : Value → Shared → Prop} {nm sl tl d : Addr} {ds : List Value} {n1 : Nat} {D : List (Str × Str)} {x y z u l : Str} {t : Tok} {b : Bool}
theorem res_call (hx : (x, y, z) ∈ splitTriples) (e : resOf D y z b = some (u, l)) {A : Around} (hA : A = Ar dp un gd (env :: outer)) (B : Below A₀ base outer h₀) (F : Fr h₀ L s.heap m) (N : News h₀ L s.heap news) (XB : (hd.heap_39 w.params).In base) (TB : Top p loose mean mg mb base) (hf : env.frame = some L) (hke : env.scope.kind = .function)
    (hm : (sl, listOf (ds ++ [Value.ref d]).toArray n1) ∈ news) (hn : NamesAt base nm sl tl) (hD : DictAt w base d D)
    (hdp : dp + 12 < recursionLimit) (hun : un + 16 * 12 + 100 < cLine) (h : ∀ r t t' n h' tk, Fr h₀ L h' m → News h₀ L h' ((r, tupO [.str u t, .str l t'] n) :: news) → Q (.ref r) { s with heap := h', toks := tk }) :
    wpAny (model PySem.Challenge.rw_nu0058_01.row.prog w) A (call (.ref 190) [.ref nm, .str x t, .bool b]) Q E s := by
  subst hA
  have hS : ∀ q ∈ [(sl, listOf (ds ++ [Value.ref d]).toArray n1)], q ∈ news := fun q hq => by rw [List.mem_singleton.mp hq]; exact hm
  obtain ⟨G', S', bs⟩ := Gd.sub (lvl := 12) (gd := gd) (un := un) (dp := dp) B F N XB TB hf hke hS hdp hun
  refine wpAny_call (resSpec G' S' (hn.keep bs) (hD.keep bs) hx (fun u' l' e' r t t' n h' tk k1 k2 => ?_) (fun e' => by rw [e] at e'; cases e'))
  rw [e] at e'
  cases e'
  refine h r t t' n h' tk (backF F N hS k1) fun q hq => ?_
  rcases List.mem_cons.mp hq with rfl | hq
  · exact backS F N hS k2 _ (.head _)
  · exact backN F N hS k1 (fun q hq => k2 q (.tail _ hq)) q hq
theorem res_callX (hx : (x, y, z) ∈ splitTriples) (e : resOf D y z b = none) {A : Around} (hA : A = Ar dp un gd (env :: outer)) (B : Below A₀ base outer h₀) (F : Fr h₀ L s.heap m) (N : News h₀ L s.heap news) (XB : (hd.heap_39 w.params).In base) (TB : Top p loose mean mg mb base) (hf : env.frame = some L) (hke : env.scope.kind = .function)
    (hm : (sl, listOf (ds ++ [Value.ref d]).toArray n1) ∈ news) (hn : NamesAt base nm sl tl) (hD : DictAt w base d D)
    (hdp : dp + 12 < recursionLimit) (hun : un + 16 * 12 + 100 < cLine) (h : ∀ e' tk h', XR (subG s [(sl, listOf (ds ++ [Value.ref d]).toArray n1)]) (env :: outer) e' [(sl, listOf (ds ++ [Value.ref d]).toArray n1)] h' → E (.ref e') { s with heap := h', toks := tk }) :
    wpAny (model PySem.Challenge.rw_nu0058_01.row.prog w) A (call (.ref 190) [.ref nm, .str x t, .bool b]) Q E s := by
  subst hA
  have hS : ∀ q ∈ [(sl, listOf (ds ++ [Value.ref d]).toArray n1)], q ∈ news := fun q hq => by rw [List.mem_singleton.mp hq]; exact hm
  obtain ⟨G', S', bs⟩ := Gd.sub (lvl := 12) (gd := gd) (un := un) (dp := dp) B F N XB TB hf hke hS hdp hun
  exact wpAny_call (resSpec G' S' (hn.keep bs) (hD.keep bs) hx (fun u' l' e' => by rw [e] at e'; cases e') (fun _ e1 h' tk xr => h e1 tk h' xr))
end
theorem tab_mono {prog : Program} {w : World} {T T' : List (Addr × Obj)} {d : Addr} {D : List (PyData × PyData)} (x : TupTab (strKind prog w) PyData.str T d D) (k : ∀ q ∈ T, q ∈ T') : TupTab (strKind prog w) PyData.str T' d D :=
  by obtain ⟨lo, o, es, ep, xs, hm, hc, hd, he, hn, hk, hf⟩ := x; exact ⟨lo, o, es, ep, xs, k _ hm, hc, hd, he, hn, fun x hx => by obtain ⟨ok, a, b⟩ := hk x hx; exact ⟨ok, k _ a, b⟩, hf⟩
theorem keyObj {prog : Program} {w : World} {u l : Str} {t t' : Tok} {n : Nat} : TupKeyObj (strKind prog w) [u, l] (tupO [.str u t, .str l t'] n) :=
  ⟨rfl, _, n, rfl, .cons (strKind_is _ _ _ _) (.cons (strKind_is _ _ _ _) .nil)⟩
abbrev expD (q : Str × Str) : PyData := encTuple PyData.str [q.1, q.2]
theorem same_exp (a b : Str × Str) : PySem.Spec.same (expD a) (expD b) = decide (a = b) := by
  obtain ⟨a1, a2⟩ := a
  obtain ⟨b1, b2⟩ := b
  rw [same_encTuple PyProof.V.same_str]
  by_cases h1 : a1 = b1 <;> by_cases h2 : a2 = b2 <;> simp [h1, h2]
/-- the expanded name of an attribute -/
def splitOf (x : Str) : Option (Str × Str) := splitTriples.lookup x
def expA (D : List (Str × Str)) (x : Str) : Option (Str × Str) := (splitOf x).bind fun q => resOf D q.1 q.2 true
theorem plain_split {x : Str} (h : x ∈ plainNames) : ∃ y z, (x, y, z) ∈ splitTriples ∧ splitOf x = some (y, z) := by
  simp only [plainNames, List.mem_cons, List.not_mem_nil, or_false] at h
  rcases h with rfl | rfl | rfl | rfl
  · exact ⟨Str.ofString "", Str.ofString "a", by simp [splitTriples], by decide +kernel⟩
  · exact ⟨Str.ofString "p", Str.ofString "a", by simp [splitTriples], by decide +kernel⟩
  · exact ⟨Str.ofString "q", Str.ofString "a", by simp [splitTriples], by decide +kernel⟩
  · exact ⟨Str.ofString "p", Str.ofString "b", by simp [splitTriples], by decide +kernel⟩
/-- what has been seen -/
def seenL (D : List (Str × Str)) (l : List (Str × Str)) : List ((Str × Str) × Str) := l.filterMap fun q => (expA D q.1).map fun e => (e, q.1)
def seenD (D : List (Str × Str)) (l : List (Str × Str)) : List (PyData × PyData) := (seenL D l).map fun q => (expD q.1, .str q.2)
def CheckOk (D : List (Str × Str)) (l : List (Str × Str)) : Prop := (∀ q ∈ l, (expA D q.1).isSome = true) ∧ (l.map fun q => expA D q.1).Nodup
theorem lookup_exp (S : List ((Str × Str) × Str)) (e : Str × Str) : PySem.Spec.lookup (expD e) (S.map fun q => (expD q.1, PyData.str q.2)) = (S.find? fun q => decide (q.1 = e)).map fun q => PyData.str q.2 := by
  induction S with
  | nil => rfl
  | cons q S ih =>
    simp only [List.map_cons, PySem.Spec.lookup, same_exp, List.find?_cons]
    by_cases h : q.1 = e
    · simp [h]
    · simp only [h, decide_false, Bool.false_eq_true, if_false, ih]
theorem seenL_mem {D l : List (Str × Str)} {q : (Str × Str) × Str} : q ∈ seenL D l ↔ ∃ a ∈ l, expA D a.1 = some q.1 ∧ a.1 = q.2 := by
  unfold seenL
  rw [List.mem_filterMap]
  constructor
  · rintro ⟨a, ha, e⟩
    cases h : expA D a.1 with
    | none => rw [h] at e; cases e
    | some x => rw [h] at e; cases e; exact ⟨a, ha, h, rfl⟩
  · rintro ⟨a, ha, e1, e2⟩
    exact ⟨a, ha, by rw [e1]; simp [e2]⟩
theorem seen_none {D l : List (Str × Str)} {e : Str × Str} (h : ∀ a ∈ l, expA D a.1 ≠ some e) : (PySem.Spec.lookup (expD e) (seenD D l)).isSome = false := by
  unfold seenD
  rw [lookup_exp, List.find?_eq_none.mpr]
  · rfl
  · intro q hq
    obtain ⟨a, ha, e1, _⟩ := seenL_mem.mp hq
    intro z
    exact h a ha (e1.trans (congrArg some (of_decide_eq_true z)))
theorem seen_some {D l : List (Str × Str)} {e : Str × Str} (h : ∃ a ∈ l, expA D a.1 = some e) : ∃ n, PySem.Spec.lookup (expD e) (seenD D l) = some (.str n) ∧ ∃ a ∈ l, a.1 = n := by
  obtain ⟨a, ha, e1⟩ := h
  unfold seenD
  rw [lookup_exp]
  cases hf : (seenL D l).find? fun q => decide (q.1 = e) with
  | none => exact absurd (decide_eq_true (show ((e, a.1) : (Str × Str) × Str).1 = e from rfl)) (List.find?_eq_none.mp hf (e, a.1) (seenL_mem.mpr ⟨a, ha, e1, rfl⟩))
  | some q =>
    obtain ⟨b, hb, _, e3⟩ := seenL_mem.mp (List.mem_of_find?_eq_some hf)
    exact ⟨q.2, rfl, b, hb, e3⟩
theorem seen_put {D l : List (Str × Str)} {e : Str × Str} {x v : Str} (h : ∀ a ∈ l, expA D a.1 ≠ some e) (hx : expA D x = some e) : PyProof.V.putD (expD e) (.str x) (seenD D l) = seenD D (l ++ [(x, v)]) := by
  have hs : seenD D (l ++ [(x, v)]) = seenD D l ++ [(expD e, .str x)] := by
    unfold seenD seenL
    simp [hx]
  unfold PyProof.V.putD
  rw [hs, if_neg]
  intro z
  obtain ⟨p, hp, z⟩ := List.any_eq_true.mp z
  obtain ⟨q, hq, rfl⟩ := List.mem_map.mp hp
  obtain ⟨a, ha, e1, _⟩ := seenL_mem.mp hq
  rw [same_exp] at z
  exact h a ha (e1.trans (congrArg some (of_decide_eq_true z)))
theorem seenD_len (D l : List (Str × Str)) : (seenD D l).length ≤ l.length := by
  unfold seenD seenL
  rw [List.length_map]
  exact List.length_filterMap_le ..
theorem itemT {w : World} {A : Around} {E : Value → Shared → Prop} {s : Shared} {h₀ : Heap} {L d a : Addr} {news T : List (Addr × Obj)} {D : List (PyData × PyData)} {u l n : Str} {t t' : Tok} {k : Nat} {value slice : PySem.Expr} {Q : Value → Shared → Prop}
    (hl : PySem.Spec.lookup (expD (u, l)) D = some (.str n)) (hu : A.units + 1 < cLine) (N : News h₀ L s.heap news) (T1 : TupTab (strKind PySem.Challenge.rw_nu0058_01.row.prog w) PyData.str T d D) (hT : ∀ q ∈ T, q ∈ news) (hka : (a, tupO [.str u t, .str l t'] k) ∈ news)
    (h : ∀ t, Q (.str n t) { s with toks := s.toks + 3 }) (hs : subscripted slice false (.ref d) (.ref a) = operate [.ref d, .ref a] (getItem (.ref d) (.ref a)) := by with_unfolding_all rfl)
    (hg : ∀ r, letTemporaryGo value (.ref d) r = pure () := by intro _; with_unfolding_all rfl) :
    wpAny (model PySem.Challenge.rw_nu0058_01.row.prog w) A (subscriptTail value slice (.ref d) (.ref a)) Q E s :=
  item_tupTab (ks := [u, l]) PyProof.V.same_str hu N (tab_mono T1 hT) hka keyObj hl (fun v hv => by have z := hv s.heap; cases z; exact h _) hs hg
theorem inT {w : World} {A : Around} {E : Value → Shared → Prop} {s : Shared} {h₀ : Heap} {L d a : Addr} {news T : List (Addr × Obj)} {D : List (PyData × PyData)} {u l : Str} {t t' : Tok} {k : Nat} {b : Bool} {Q : Value → Shared → Prop}
    (hl : (PySem.Spec.lookup (expD (u, l)) D).isSome = b) (hu : A.units + 1 < cLine) (N : News h₀ L s.heap news) (T1 : TupTab (strKind PySem.Challenge.rw_nu0058_01.row.prog w) PyData.str T d D) (hT : ∀ q ∈ T, q ∈ news) (hka : (a, tupO [.str u t, .str l t'] k) ∈ news)
    (h : Q (.bool b) { s with toks := s.toks + 3 }) : wpAny (model PySem.Challenge.rw_nu0058_01.row.prog w) A (compareOp .In (.ref a) (.ref d)) Q E s :=
  in_tupTab_eq (ks := [u, l]) PyProof.V.same_str hu N (tab_mono T1 hT) hka keyObj hl h
theorem setT {w : World} {A : Around} {E : Value → Shared → Prop} {s : Shared} {h₀ : Heap} {L d a : Addr} {m : Str → Option Value} {news T : List (Addr × Obj)} {D : List (PyData × PyData)} {u l x : Str} {t t' tx : Tok} {k : Nat} {Q : Unit → Shared → Prop}
    (hu : A.units + 1 < cLine) (F : Fr h₀ L s.heap m) (N : News h₀ L s.heap news) (T1 : TupTab (strKind PySem.Challenge.rw_nu0058_01.row.prog w) PyData.str T d D) (hT : ∀ q ∈ T, q ∈ news) (hka : (a, tupO [.str u t, .str l t'] k) ∈ news) (hsz : D.length ≤ 1000)
    (h : ∀ h' news', Fr h₀ L h' m → News h₀ L h' news' → TupTab (strKind PySem.Challenge.rw_nu0058_01.row.prog w) PyData.str news' d (PyProof.V.putD (expD (u, l)) (.str x) D) → (∀ p ∈ news, p.1 ≠ d → p ∈ news') → Q () { s with heap := h', toks := s.toks + 3 }) :
    wpAny (model PySem.Challenge.rw_nu0058_01.row.prog w) A (setItem (.ref d) (.ref a) (.str x tx)) Q E s :=
  setItem_tupTab (ks := [u, l]) PyProof.V.same_str hu (PyProof.V.Flat.str x tx) F N (tab_mono T1 hT) hka keyObj (fun h' n F' N' T' _ k' => h h' n F' N' T' k') (by rw [sizeLine_eq]; omega)
theorem off_part13_check : True := by w_top off; trivial
theorem tab_off {w : World} {g h : Heap} {L d I : Addr} {itO : Obj} {T : List (Addr × Obj)} {D : List (PyData × PyData)} (x : TupTab (strKind PySem.Challenge.rw_nu0058_01.row.prog w) PyData.str T d D) (hI : (I, itO) ∈ T) (N : News g L h T) (hc : itO.cls = .type "tuple_iterator") (hd : d ≠ I) :
    TupTab (strKind PySem.Challenge.rw_nu0058_01.row.prog w) PyData.str (T.filter fun q => decide (q.1 ≠ I)) d D :=
  by obtain ⟨lo, o, es, ep, xs, hm, hk, hdt, he, hn, hks, hf⟩ := x; exact ⟨lo, o, es, ep, xs, List.mem_filter.mpr ⟨hm, decide_eq_true hd⟩, hk, hdt, he, hn, fun x hx => by obtain ⟨ok, a, b⟩ := hks x hx; exact ⟨ok, List.mem_filter.mpr ⟨a, decide_eq_true (ne_cls N a hI (by rw [b.1, hc]; intro e; injection e with e; revert e; decide))⟩, b⟩, hf⟩
/-- the state of check_attributes' loop -/
inductive CkJ (w : World) (D : List (Str × Str)) (m₀ : Str → Option Value) (sd sl : Addr) (so : Obj) (pre : List (Str × Str)) (m : Str → Option Value) (news : List (Addr × Obj)) : Prop
  | mk (_ : TupTab (strKind PySem.Challenge.rw_nu0058_01.row.prog w) PyData.str news sd (seenD D pre)) (_ : (sl, so) ∈ news) (_ : CheckOk D pre) (_ : ∀ y, ([Str.ofString "name", Str.ofString "value", Str.ofString "expanded"] : List Str).contains y = false → m y = m₀ y) : CkJ w D m₀ sd sl so pre m news
abbrev CkJof (w : World) (D : List (Str × Str)) {h₀ h : Heap} {L sd sl : Addr} {so o : Obj} {m : Str → Option Value} (_ : Fr h₀ L h m) (_ : News h₀ L h [(sd, o), (sl, so)]) := CkJ w D m sd sl so
theorem plain_len {x : Str} (h : x ∈ plainNames) : x.length ≤ 1000 := (show ∀ x ∈ plainNames, x.length ≤ 1000 from by decide +kernel) x h
theorem check_snoc {D l : List (Str × Str)} {x v : Str} {e : Str × Str} (h : CheckOk D l) (hx : expA D x = some e) (hn : ∀ a ∈ l, expA D a.1 ≠ some e) : CheckOk D (l ++ [(x, v)]) := by
  refine ⟨fun q hq => ?_, ?_⟩
  · rcases List.mem_append.mp hq with hq | hq
    · exact h.1 q hq
    · rw [List.mem_singleton.mp hq, hx]; rfl
  · rw [List.map_append, List.nodup_append]
    refine ⟨h.2, by simp, fun a ha b hb => ?_⟩
    obtain ⟨q, hq, rfl⟩ := List.mem_map.mp ha
    simp only [List.map_cons, List.map_nil, List.mem_singleton] at hb
    rw [hb, hx]
    exact hn q hq
theorem check_not {D l pre post : List (Str × Str)} {x v : Str} (hl : l = pre ++ (x, v) :: post) (h : expA D x = none ∨ ∃ e, expA D x = some e ∧ ∃ a ∈ pre, expA D a.1 = some e) : ¬ CheckOk D l := by
  rintro ⟨h1, h2⟩
  subst hl
  rcases h with h | ⟨e, h, a, ha, h3⟩
  · have := h1 (x, v) (by simp)
    rw [h] at this; cases this
  · rw [List.map_append, List.nodup_append] at h2
    exact h2.2.2 _ (List.mem_map.mpr ⟨a, ha, rfl⟩) (expA D x) (by simp) (h3.trans h.symm)
local macro_rules | `(tactic| walk_at "call ref") => `(tactic| ((with_reducible refine' res_call ?x ?e ?hA ?k1 ?k2 ?k3 ?k4 ?k5 ?k6 ?k7 ?m ?n ?D ?k8 ?k9 ?_); k_dflt ((case x | e => assumption); walk_at "c9"; (case n => assumption); (case m => kfm_turns); (case D => assumption); walk_at "ce")))
local macro_rules | `(tactic| walk_at "call ref") => `(tactic| ((with_reducible refine' res_callX ?x ?e ?hA ?k1 ?k2 ?k3 ?k4 ?k5 ?k6 ?k7 ?m ?n ?D ?k8 ?k9 ?_); k_dflt ((case x | e => assumption); walk_at "c9"; (case n => assumption); (case m => kfm_turns); (case D => assumption); walk_at "ce")))
local macro_rules | `(tactic| walk_at "eval Dict nil nil") => `(tactic| (k_here; k_dflt (refine' newDict_K ?F ?N ?k3 ?_; walk_at "FN"; (case k3 => exact Top.nolimit (by k_asm)); k_whole); intros; (try k_sweep)))
section part13_check
local macro_rules | `(tactic| walk_at "compareOp In ref ref") => `(tactic| ((with_reducible refine' inT ?l ?u ?N ?T ?s ?a ?_); k_dflt ((case T | l => assumption); (case u => k_units); (case N => k_asm); (case a => kfm_turns); (case s => (intro q hq; kfm_turns)); k_whole)))
local macro_rules | `(tactic| walk_at "subscriptTail") => `(tactic| ((with_reducible refine' itemT ?l ?u ?N ?T ?s ?a ?_ ?y ?x); k_dflt ((case T | l => assumption); (case u => k_units); (case N => k_asm); (case a => kfm_turns); (case s => (intro q hq; kfm_turns)); walk_at "yx"; k_whole; intros)))
local macro_rules | `(tactic| walk_at "setItem ref ref") => `(tactic| ((with_reducible refine' setT ?u ?F ?N ?T ?s ?a ?z ?_); k_dflt ((case T => assumption); (case u => k_units); walk_at "FN"; (case a => kfm_turns); (case s => (intro q hq; kfm_turns)); (case z => assumption)); intros))
set_option maxHeartbeats 1000000 in
theorem checkSpec {w : World} {p : Program} {loose : List Str} {mean : ExcName → Option Value} {mg mb : Str → Option Value} {dp un : Nat} {gd : Option (List Code)} {outer : List Env} {base g : Heap} {s : Shared} {R : Result → Shared → Prop}
    {nm sl tl r d : Addr} {ds : List Value} {n1 : Nat} {l D : List (Str × Str)} (G : Gd w p loose mean mg mb 16 dp un gd outer base g s)
    (N : Sep g s.heap [(sl, listOf (ds ++ [Value.ref d]).toArray n1)]) (hn : NamesAt base nm sl tl) (hr : RowAt base r l) (hD : DictAt w base d D) (hl64 : l.length ≤ 64) (hok : ∀ q ∈ l, q.1 ∈ plainNames)
    (hret : CheckOk D l → ∀ h' tk, g.StaysIn h' → Sep g h' [(sl, listOf (ds ++ [Value.ref d]).toArray n1)] → R (.ok (.ret .none)) { s with heap := h', toks := tk })
    (herr : ¬ CheckOk D l → ∀ e h' tk, XR g outer e [(sl, listOf (ds ++ [Value.ref d]).toArray n1)] h' → R (.error (.ref e)) { s with heap := h', toks := tk }) :
    codeAny (model PySem.Challenge.rw_nu0058_01.row.prog w) (Ar dp un gd outer) (.call (.ref 197) ⟨[.ref nm, .ref r], []⟩) R s := by
  have X := G.X
  have T := G.T
  obtain ⟨B, XB, TB, full, st, sz, hdp, hun⟩ := G
  have hDg := hD.keep B.stays
  obtain ⟨dx, k1, k2, h1, h2, nn, hn1, hn2⟩ := (hn.keep B.stays).obj
  obtain ⟨vs, nr, hr1, hr2⟩ := hr.keep B.stays
  have hfill : (PySem.Challenge.rw_nu0058_01.row.prog = PySem.Challenge.rw_nu0058_01.row.prog) ∧ (hd.heap_39 = hd.heap_39) → True := fun _ => trivial
  revert hfill; k_fill; intro hfill; clear hfill
  refine' enterS ?k1 ?k2 ?k3 ?k4 ?k5 ?kN ?k6 ?k7 ?k8 ?k9 ?kB ?_ ?c5 ?c2 ?c3 ?c4
  (case k1 => assumption)
  (case k2 => assumption)
  (case k3 => assumption)
  (case k4 => assumption)
  (case k5 => assumption)
  (case kN => assumption)
  (case k6 => k_is)
  (case k7 => k_is)
  (case k8 => k_room)
  (case k9 => first | exact BindsTo.of_eq rfl | exact binds_K (X.keeps st) rfl (by k_is) rfl rfl rfl)
  (case c5 => decide)
  (case kB => exact locs rfl)
  (case c2 => exact rfl)
  (case c3 => exact rfl)
  (case c4 => exact rfl)
  k_whole
  intro L' h' F' N' l1; (try k_lt l1); (try dsimp only); (try k_fold)
  w_strict k_steps
  all_goals (try dsimp only)
  (rename Fr _ _ _ _ => F1); (rename News _ _ _ _ => N1); (rename Obj.IsDictOf (strKind _ _) _ _ => e1); (rename (_ == sysModules) = false => lo1)
  have hsd := ne_cls N1 (.head _) (.tail _ (.head _)) (by rw [show Obj.cls _ = Value.type "dict" from (by obtain ⟨_, _, x, _⟩ := e1; exact x.1)]; show Value.type "dict" ≠ Value.type "list"; intro e; injection e with e; revert e; decide)
  refine' pairs_iter rfl rfl rfl rfl hr1 hr2 F1 N1 (CkJof w D F1 N1) ?h0 ?turn ?done
  case h0 => exact ⟨TupTab.ofEmpty (.head _) lo1 e1, .tail _ (.head _), ⟨fun _ h => (nomatch h), .nil⟩, fun _ _ => rfl⟩
  case turn =>
    rintro pre x y post t u m₁ news₁ I itO h₁ tk₁ hl ⟨tt, hsl, hc, hm⟩ hI hit F2 N2
    have hk := keepN_of hm
    rw [hk] at F2
    dsimp only [keepN] at F2
    have hx : x ∈ plainNames := hok (x, y) (by rw [hl]; simp)
    have hxl := plain_len hx
    obtain ⟨y', z', hsp, hso⟩ := plain_split hx
    have hexp : expA D x = resOf D y' z' true := by unfold expA; rw [hso]; rfl
    have hzl : (seenD D pre).length ≤ 1000 := by
      have := seenD_len D pre
      have e := congrArg List.length hl
      simp at e
      omega
    have hI' := hI
    have hIsl := hI _ hsl
    dsimp only at hIsl
    have N3 : News g _ h₁ ((I, itO) :: (sl, listOf (ds ++ [Value.ref d]).toArray n1) :: news₁) := newsPerm N2 fun q hq => by
      simp only [List.mem_cons] at hq ⊢
      rcases hq with h | h | h
      · exact .inl h
      · rw [h]; exact .inr hsl
      · exact .inr h
    clear N2 hI
    cases e : resOf D y' z' true with
    | none =>
      w_strict k_steps
      all_goals (try dsimp only)
      exact herr (check_not hl (.inl (hexp.trans e))) _ _ _ (XR.sub (by assumption) fun q hq => by rw [List.mem_singleton.mp hq]; kfm_turns)
    | some v =>
      obtain ⟨v1, v2⟩ := v
      by_cases hd : ∃ a ∈ pre, expA D a.1 = some (v1, v2)
      · obtain ⟨n, hlk, a', ha', hn⟩ := seen_some hd
        have hlk1 : (PySem.Spec.lookup (expD (v1, v2)) (seenD D pre)).isSome = true := by rw [hlk]; rfl
        have hnl : n.length ≤ 1000 := hn ▸ plain_len (hok a' (by rw [hl]; simp [ha']))
        w_strict k_steps
        all_goals (try dsimp only)
        exact herr (check_not hl (.inr ⟨_, hexp.trans e, hd⟩)) _ _ _ (XR.sub (by assumption) fun q hq => by rw [List.mem_singleton.mp hq]; kfm_turns)
      · have hnd : ∀ a ∈ pre, expA D a.1 ≠ some (v1, v2) := fun a ha e => hd ⟨a, ha, e⟩
        have hlk := seen_none hnd
        w_strict k_steps
        all_goals (try dsimp only)
        (rename Fr _ _ _ _ => F5); (rename News _ _ _ _ => N5); (rename TupTab _ _ _ _ _ => T5); (rename (∀ p : Addr × Obj, _ → p.1 ≠ _ → _) => k5)
        rw [seen_put (v := y) hnd (hexp.trans e)] at T5
        obtain ⟨_, o0, _, _, _, hso0, _⟩ := tt
        have hsI := hI' _ hso0
        dsimp only at hsI
        have hIm := k5 (I, itO) (by kfm_turns) (Ne.symm hsI)
        refine ⟨rfl, _, _, _, _, rfl, F5, newsPerm N5 (B := (I, itO) :: _) (fun q hq => ?_), fun q hq => ?_, tab_off T5 hIm N5 hit hsI, List.mem_filter.mpr ⟨k5 _ (by kfm_turns) ?_, decide_eq_true hIsl⟩, check_snoc hc (hexp.trans e) hnd, ?_⟩
        · rcases List.mem_cons.mp hq with rfl | hq
          · exact hIm
          · exact (List.mem_filter.mp hq).1
        · exact of_decide_eq_true (List.mem_filter.mp hq).2
        · exact fun z => hsd z.symm
        · repeat (first | exact keepN_base | refine keepN_if (by decide) ?_)
  case done =>
    rintro h3 tk3 m3 news3 F3 N3 ⟨tt, hsl, hc, hm⟩
    dsimp only
    w_strict k_steps
    all_goals (try dsimp only)
    exact hret hc _ _ F3.keep fun q hq => by rw [List.mem_singleton.mp hq]; exact ⟨(N3 _ hsl).1, (N3 _ hsl).2.2⟩
end part13_check
theorem off_part14_items : True := by w_top off; trivial
theorem SV.get {kvs : List (Str × Value)} {D : List (Str × Str)} (h : SV kvs D) : ∀ {i : Nat} {k : Str} {v : Value}, kvs[i]? = some (k, v) → ∃ x t, v = .str x t ∧ D[i]? = some (k, x) := by
  induction h with
  | nil => intro i k v e; simp at e
  | @cons k' v' t' kvs D _ ih =>
    intro i k v e
    cases i with
    | zero => simp at e; obtain ⟨rfl, rfl⟩ := e; exact ⟨v', t', rfl, by simp⟩
    | succ i => simp at e; obtain ⟨x, t, h1, h2⟩ := ih e; exact ⟨x, t, h1, by simpa using h2⟩
theorem dictAt_up {w : World} {h h' : Heap} {d ep : Nat} {kvs : List (Str × Value)} (x : h.DictAt (strKind PySem.Challenge.rw_nu0058_01.row.prog w) d kvs ep) (k : h.StaysIn h') : h'.DictAt (strKind PySem.Challenge.rw_nu0058_01.row.prog w) d kvs ep := x.at fun o e => k _ _ e
section
variable {w : World} {A : Around} {E : Value → Shared → Prop} {s : Shared} {env : Env} {h₀ : Heap} {xk xv : Str} {pk pv pt : Pos} {x1 : Nat} {body : List Stmt} {Q : Flow → Shared → Prop} {d vw : Addr} {D : List (Str × Str)}
  {m : Str → Option Value} {news : List (Addr × Obj)}
inductive InvI (h₀ : Heap) (L d I : Addr) (n ep : Nat) (D : List (Str × Str)) (J : List (Str × Str) → (Str → Option Value) → List (Addr × Obj) → Prop) (s : Shared) (k : Nat) (s' : Shared) : Prop
  | mk (h' : Heap) (tk : Nat) (m' : Str → Option Value) (news' : List (Addr × Obj)) (i : Nat) (ok ov : Value) (_ : s' = { s with heap := h', toks := tk }) (_ : IsItemIter h' I d i n ep ok ov) (_ : Fr h₀ L h' m') (_ : News h₀ L h' news') (_ : ∀ p ∈ news', p.1 ≠ I) (_ : J (D.take i) m' news') (_ : i ≤ n) (_ : k = n + 1 - i) : InvI h₀ L d I n ep D J s k s'
theorem items_iter (hh : A.handled = none) (hxk : env.kindOf xk = some .local) (hxv : env.kindOf xv = some .local) (hp : (env.scope.kind == .class || (env.scope.kind == .module && env.locals != env.globals)) = false)
    (hvw : ∃ ov, s.heap.get? vw = some ov ∧ ov.cls = .type "dict_items" ∧ ov.data = .fields #[.ref d]) (T : DictAt w h₀ d D) (F : Fr h₀ env.locals s.heap m) (N : News h₀ env.locals s.heap news)
    (J : List (Str × Str) → (Str → Option Value) → List (Addr × Obj) → Prop) (h0 : J [] m news)
    (turn : ∀ pre x y post t u m₁ news₁ I itO h₁ tk₁, D = pre ++ (x, y) :: post → J pre m₁ news₁ → (∀ p ∈ news₁, p.1 ≠ I) → Fr h₀ env.locals h₁ (fun z => if z = xv then some (.str y u) else if z = xk then some (.str x t) else m₁ z) → News h₀ env.locals h₁ ((I, itO) :: news₁) →
      wpAny (model PySem.Challenge.rw_nu0058_01.row.prog w) A (execs body env) (PairTurn h₀ env.locals I itO (J (pre ++ [(x, y)])) s) E { s with heap := h₁, toks := tk₁ })
    (done : ∀ h' tk m' news', Fr h₀ env.locals h' m' → News h₀ env.locals h' news' → J D m' news' → Q .next { s with heap := h', toks := tk })
    (hE : PassesOwn (model PySem.Challenge.rw_nu0058_01.row.prog w) A env E) :
    wpAny (model PySem.Challenge.rw_nu0058_01.row.prog w) A (pyIter (.ref vw)) (fun it s₂ => codeAny (model PySem.Challenge.rw_nu0058_01.row.prog w) A (.forLoop (.Tuple [.Name xk pk, .Name xv pv] x1 pt) it body [] env) (fun r s' => match r with | .ok f => Q f s' | .error e => cameBackBy (model PySem.Challenge.rw_nu0058_01.row.prog w) A env E e s') s₂) E s := by
  obtain ⟨kvs, hd0, hsv⟩ := T.at
  obtain ⟨ep, hat0⟩ := hd0.dictAt
  have hlen := hsv.length
  refine wpAny_pyIter_items (knd := strKind PySem.Challenge.rw_nu0058_01.row.prog w) (d := d) (kvs := kvs) (ep := ep) hvw (dictAt_up hat0 F.keep) ?_
  have hdlt : d < h₀.objs.size := hat0.lt_size
  have hdL : d ≠ env.locals := Nat.ne_of_lt (Nat.lt_of_lt_of_le hdlt F.above)
  have hLs : env.locals < s.heap.objs.size := F.ns.lt
  have hdI : d ≠ s.heap.objs.size := Nat.ne_of_lt (Nat.lt_trans (Nat.lt_of_lt_of_le hdlt F.above) hLs)
  have hiL : s.heap.objs.size ≠ env.locals := Nat.ne_of_gt hLs
  have hin : h₀.get? s.heap.objs.size = none := next_is_new F
  generalize hIe : s.heap.objs.size = I at *
  have oldNe : ∀ b o, h₀.get? b = some o → b ≠ I := fun b o e q => by rw [q, hin] at e; cases e
  refine codeAny_forLoop_any
    (InvI h₀ env.locals d I kvs.length ep D J s) ?_ (kvs.length + 1)
    ⟨_, _, m, news, 0, .none, .none, rfl, by rw [← hIe]; exact Heap.get?_push_size _ rfl, F.push _, fun p hp => ⟨Heap.get?_push_of_some _ (N p hp).1, (N p hp).2⟩, fun p hp => hIe ▸ Nat.ne_of_lt (Heap.lt_size (N p hp).1), by simpa using h0, Nat.zero_le _, rfl⟩
  rintro n s' ⟨H, tk, m', news', i, ok, ov, rfl, hit', F', N', hoff, hJ, hi, rfl⟩
  have hn' := F'.ns
  have hm' := dictAt_up hat0 F'.keep
  cases hv : kvs[i]? with
  | none =>
    have hsz : i = kvs.length := Nat.le_antisymm hi (by simpa using hv)
    refine wpAny_pyNext_items_end hh hit' hm' hv fun h₁ he₁ => wpAny_execs_nil ?_
    refine done h₁ tk m' news' ⟨hn'.extBut he₁ (Ne.symm hiL), fun b o e => he₁ b o (oldNe b o e) (F'.keep b o e), F'.above⟩ (fun p hp => ⟨he₁ _ _ (hoff p hp) (N' p hp).1, (N' p hp).2⟩) ?_
    rw [hsz, hlen, List.take_length] at hJ
    exact hJ
  | some kv =>
    obtain ⟨k, v⟩ := kv
    obtain ⟨y, u, rfl, hD⟩ := hsv.get hv
    have hlt : i < kvs.length := (List.getElem?_eq_some_iff.mp hv).1
    have hiH : I < H.objs.size := Heap.lt_size hit'
    have hLH : env.locals < H.objs.size := hn'.lt
    refine wpAny_pyNext_items_item hit' hm' hv fun key h₁ hkey heo ht₁ hz₁ hk₁ => ?_
    obtain ⟨t, rfl⟩ := Value.isStrOf_shape hkey
    refine wpAny_letOwnedTupleGo_items heo fun h₂ he₂ hs₂ => ?_
    replace hs₂ : Heap.SameBut I h₁ h₂ := hs₂
    have ht₂ : h₂.IsTuple H.objs.size #[.str k t, .str y u] := ⟨_, (hs₂.2 _ (Nat.ne_of_gt hiH)).trans ht₁, rfl, _, rfl⟩
    have hz₂ : h₂.objs.size = H.objs.size + 1 := hs₂.1.trans hz₁
    refine wpAny_assign_Tuple hh ht₂ rfl rfl fun h₃ hx₃ => ?_
    replace hx₃ : Heap.ExtBut h₂.objs.size h₂ h₃ := hx₃
    have old₃ : ∀ b o, b < H.objs.size → h₂.get? b = some o → h₃.get? b = some o := fun b o hb x => hx₃ b o (by rw [hz₂]; exact Nat.ne_of_lt (Nat.lt_succ_of_lt hb)) x
    have up₃ : ∀ b o, b ≠ I → H.get? b = some o → h₃.get? b = some o := fun b o hb x => old₃ b o (Heap.lt_size x) (hs₂.extBut b o hb (hk₁ b o hb x))
    have F₃ : Fr h₀ env.locals h₃ m' := ⟨hn'.at fun o x => up₃ _ o (Ne.symm hiL) x, fun b o e => up₃ b o (oldNe b o e) (F'.keep b o e), F'.above⟩
    have N₃ : News h₀ env.locals h₃ news' := fun p hp => ⟨up₃ _ _ (hoff p hp) (N' p hp).1, (N' p hp).2⟩
    show wpAny _ _ (do holding [Value.str y u] (assign (.Name xk pk) env (.str k t)); do holding [] (assign (.Name xv pv) env (.str y u)); pure ()) _ _ _
    refine wpAny_passesOwn hE (wpAny_bind (wpAny_holding (wpAny_assign_Name (wpAny_storeName_local hxk F₃.ns (fun h₄ hn₄ hs₄ => ?_) hp))))
    replace hs₄ : Heap.SameBut env.locals h₃ h₄ := hs₄
    have F₄ := F₃.set hn₄ hs₄
    refine wpAny_bind (wpAny_holding (wpAny_assign_Name (wpAny_storeName_local hxv F₄.ns (fun h₅ hn₅ hs₅ => wpAny_pure ?_) hp)))
    replace hs₅ : Heap.SameBut env.locals h₄ h₅ := hs₅
    have F₅ := F₄.set hn₅ hs₅
    have N₅ : News h₀ env.locals h₅ news' := (N₃.set hs₄).set hs₅
    obtain ⟨itO, hitO, hback⟩ : ∃ o, h₅.get? I = some o ∧ ∀ h', h'.get? I = some o → IsItemIter h' I d (i + 1) kvs.length ep (.str k t) (.str y u) := ⟨_, hs₅.extBut I _ hiL (hs₄.extBut I _ hiL (old₃ I _ hiH he₂)), fun _ z => z⟩
    have hs : D.take (i + 1) = D.take i ++ [(k, y)] := by rw [List.take_add_one, hD]; rfl
    have e : D = D.take i ++ (k, y) :: D.drop (i + 1) := by
      have ht := List.take_append_drop (i + 1) D
      rw [hs, List.append_assoc] at ht
      exact ht.symm
    refine wpAny_mono (turn _ k y _ t u m' news' I itO h₅ _ e hJ hoff F₅ (fun p hp => ?_)) (fun f s₃ h₆ => ?_) hE
    · rcases List.mem_cons.mp hp with rfl | hp
      · exact ⟨hitO, hiL, hin⟩
      · exact N₅ p hp
    · obtain ⟨rfl, h₆, tk₆, m₂, news₂, rfl, F₆, N₆, off₆, hJ₆⟩ := h₆
      rw [← hs] at hJ₆
      exact ⟨kvs.length + 1 - (i + 1), by omega, h₆, tk₆, m₂, news₂, i + 1, _, _, rfl, hback _ (N₆ _ (.head _)).1, F₆, fun q hq => N₆ q (.tail _ hq), off₆, hJ₆, hlt, rfl⟩
end
theorem off_part15_scope : True := by w_top off; trivial
theorem itemsS {w : World} {A : Around} {E : Value → Shared → Prop} {s : Shared} {h₀ : Heap} {L d : Addr} {m : Str → Option Value} {news : List (Addr × Obj)} {D : List (Str × Str)} {Q : Value → Shared → Prop}
    (T : DictAt w s.heap d D) (F : Fr h₀ L s.heap m) (N : News h₀ L s.heap news)
    (h : ∀ vw h' o, o.cls = .type "dict_items" ∧ o.data = .fields #[.ref d] → Fr h₀ L h' m → News h₀ L h' ((vw, o) :: news) → (∀ p ∈ news, p.1 < vw) → Q (.ref vw) { s with heap := h' }) :
    wpAny (model PySem.Challenge.rw_nu0058_01.row.prog w) A (call (.builtin "dict.items") [.ref d]) Q E s := by
  obtain ⟨kvs, hd, _⟩ := T.at
  exact call_meetsIn PySem.F.slot_dict_items hd.typeIs PySem.F.entry_dict_items (PySem.F.args_dict_items_1 _) (meets_dict_items (strKind PySem.Challenge.rw_nu0058_01.row.prog w) d T.1)
    ⟨⟨kvs, hd⟩, h _ _ _ ⟨rfl, rfl⟩ (F.push _) (News.push F N _) fun p hp => Heap.lt_size (N p hp).1⟩
/-- the bindings that are not empty -/
def nonE (D : List (Str × Str)) : List (Str × Str) := D.filter fun q => decide (q.2 ≠ Str.ofString "")
theorem nonE_len (D : List (Str × Str)) : (nonE D).length ≤ D.length := List.length_filter_le ..
def ScJ (w : World) (m₀ : Str → Option Value) (fd : Addr) (R : List (Addr × Obj)) (pre : List (Str × Str)) (m : Str → Option Value) (news : List (Addr × Obj)) : Prop :=
  ∃ o, news = (fd, o) :: R ∧ DictS w o (puts [] (nonE pre)) ∧ ∀ y, ([Str.ofString "prefix", Str.ofString "uri"] : List Str).contains y = false → m y = m₀ y
abbrev ScJof (w : World) {h₀ h : Heap} {L fd : Addr} {x : Obj} {q : Addr × Obj} {R : List (Addr × Obj)} {m : Str → Option Value} (_ : Fr h₀ L h m) (_ : News h₀ L h (q :: (fd, x) :: R)) := ScJ w m fd R
section part15_scope
local macro_rules | `(tactic| walk_at "getMethod ref") => `(tactic| ((with_reducible refine' getMethodS PySem.F.slot_dict_items PySem.F.type_dict_items ?T ?_); k_dflt (walk_at "T"; k_whole)))
local macro_rules | `(tactic| walk_at "call builtin:dict.items") => `(tactic| ((with_reducible refine' itemsS ?T ?F ?N ?_); k_dflt (walk_at "T"; walk_at "FN"; k_whole; intros)))
set_option maxHeartbeats 1000000 in
theorem scopeSpec {w : World} {p : Program} {loose : List Str} {mean : ExcName → Option Value} {mg mb : Str → Option Value} {dp un : Nat} {gd : Option (List Code)} {outer : List Env} {base g : Heap} {s : Shared} {R : Result → Shared → Prop}
    {nm sl tl d : Addr} {ds : List Value} {n1 : Nat} {D : List (Str × Str)} (G : Gd w p loose mean mg mb 8 dp un gd outer base g s)
    (N : Sep g s.heap [(sl, listOf (ds ++ [Value.ref d]).toArray n1)]) (hn : NamesAt base nm sl tl) (hD : DictAt w base d D) (hD64 : D.length ≤ 1000)
    (hret : ∀ r o h' tk, g.StaysIn h' → Sep g h' [(r, o), (sl, listOf (ds ++ [Value.ref d]).toArray n1)] → (r == sysModules) = false → DictS w o (puts [] (nonE D)) → R (.ok (.ret (.ref r))) { s with heap := h', toks := tk }) :
    codeAny (model PySem.Challenge.rw_nu0058_01.row.prog w) (Ar dp un gd outer) (.call (.ref 204) ⟨[.ref nm], []⟩) R s := by
  have X := G.X
  have T := G.T
  obtain ⟨B, XB, TB, full, st, sz, hdp, hun⟩ := G
  have hDg := hD.keep B.stays
  obtain ⟨dx, k1, k2, h1, h2, nn, hn1, hn2⟩ := (hn.keep B.stays).obj
  have hfill : (PySem.Challenge.rw_nu0058_01.row.prog = PySem.Challenge.rw_nu0058_01.row.prog) ∧ (hd.heap_39 = hd.heap_39) → True := fun _ => trivial
  revert hfill; k_fill; intro hfill; clear hfill
  refine' enterS ?k1 ?k2 ?k3 ?k4 ?k5 ?kN ?k6 ?k7 ?k8 ?k9 ?kB ?_ ?c5 ?c2 ?c3 ?c4
  (case k1 => assumption)
  (case k2 => assumption)
  (case k3 => assumption)
  (case k4 => assumption)
  (case k5 => assumption)
  (case kN => assumption)
  (case k6 => k_is)
  (case k7 => k_is)
  (case k8 => k_room)
  (case k9 => first | exact BindsTo.of_eq rfl | exact binds_K (X.keeps st) rfl (by k_is) rfl rfl rfl)
  (case c5 => decide)
  (case kB => exact locs rfl)
  (case c2 => exact rfl)
  (case c3 => exact rfl)
  (case c4 => exact rfl)
  k_whole
  intro L' h' F' N' l1; (try k_lt l1); (try dsimp only); (try k_fold)
  refine wpAny_noRaise ?_
  w_strict k_steps
  all_goals (try dsimp only)
  refine wpAny_For ?_ (by intro _; rfl)
  w_strict k_steps
  all_goals (try dsimp only)
  (rename Fr _ _ _ _ => F1); (rename News _ _ _ _ => N1); (rename Obj.IsDictOf (strKind _ _) _ _ => e1); (rename (_ == sysModules) = false => lo1); (rename Obj.cls _ = _ ∧ _ => ov1)
  refine' items_iter rfl rfl rfl rfl ⟨_, (N1 _ (.head _)).1, ov1⟩ hDg F1 (newsPerm N1 (fun q hq => .tail _ hq)) (ScJof w F1 N1) ?h0 ?turn ?done ?own
  case own => passes_own
  case h0 => exact ⟨_, rfl, ⟨[], e1, .nil⟩, fun _ _ => rfl⟩
  case turn =>
    rintro pre x y post t u m₁ news₁ I itO h₁ tk₁ hl ⟨o, rfl, dd, hm⟩ hI F2 N2
    have hk := keepN_of hm
    rw [hk] at F2
    dsimp only [keepN] at F2
    have hz : (puts [] (nonE pre)).length ≤ 1000 := by
      have a := puts_len (nonE pre) []
      have b := nonE_len pre
      have e := congrArg List.length hl
      simp at e a
      omega
    have hI' := hI
    by_cases hy : y = Str.ofString ""
    · have hnE : nonE (pre ++ [(x, y)]) = nonE pre := by simp [nonE, hy]
      subst hy
      w_strict k_steps
      all_goals (try dsimp only)
      (rename Fr _ _ _ _ => F5)
      refine ⟨rfl, _, _, _, _, rfl, F5, N2, hI', _, rfl, by rw [hnE]; exact dd, ?_⟩
      repeat (first | exact keepN_base | refine keepN_if (by decide) ?_)
    · have hnE : nonE (pre ++ [(x, y)]) = nonE pre ++ [(x, y)] := by simp [nonE, hy]
      w_strict k_steps
      all_goals (try dsimp only)
      all_goals first
        | ((rename DictS _ _ _ => d5); (rename Fr _ _ _ _ => F5); (rename News _ _ _ _ => N5)
           refine ⟨rfl, _, _, _, _, rfl, F5, N5, all_cons (hI _ (.head _)) fun q hq => hI' q (.tail _ hq), _, rfl, by rw [hnE, puts_snoc]; exact d5, ?_⟩
           repeat (first | exact keepN_base | refine keepN_if (by decide) ?_))
        | ((rename (y != _) = false => hc); simp [hy] at hc)
  case done =>
    rintro h4 tk4 m4 news4 F4 N4 ⟨o, rfl, dd, hm⟩
    have hk := keepN_of hm
    rw [hk] at F4
    dsimp only [keepN] at F4
    dsimp only
    w_strict k_steps
    all_goals (try dsimp only)
    exact hret _ _ _ _ F4.keep (News.sep N4) lo1 dd
end part15_scope
theorem off_part16_take : True := by w_top off; trivial
theorem fm_lo (x m : Int) (h : 0 < m) : 0 ≤ x.fmod m := Int.fmod_nonneg_of_pos x h
theorem fm_hi (x m : Int) (h : 0 < m) : x.fmod m < m := Int.fmod_lt_of_pos x h
theorem mulOk_sq {x : Int} (h0 : 0 ≤ x) (h1 : x < 2147483647) : IntMulOk x x := .of_left (intBits_le_64 (by omega) (by omega))
theorem fd_le {a m : Int} (h : 0 ≤ a) (k : 0 < m) : 0 ≤ a.fdiv m ∧ a.fdiv m ≤ a := by
  rw [Int.fdiv_eq_ediv_of_nonneg _ (Int.le_of_lt k)]
  exact ⟨Int.ediv_nonneg h (Int.le_of_lt k), Int.ediv_le_self _ h⟩
local macro_rules | `(tactic| mul_fits) => `(tactic| k_dflt (refine mulOk_sq (fm_lo _ 2147483647 (by decide)) (fm_hi _ 2147483647 (by decide))))
/-- the list that draws come from -/
def SrcO (o : Obj) : Prop := ∃ a b ta tb n, o = listOf #[.int a ta, .int b tb] n ∧ 0 ≤ a ∧ 0 ≤ b ∧ b < 2147483647
set_option maxHeartbeats 8000000 in
theorem takeSpec {w : World} {p : Program} {loose : List Str} {mean : ExcName → Option Value} {mg mb : Str → Option Value} {dp un : Nat} {gd : Option (List Code)} {outer : List Env} {base g : Heap} {s : Shared} {R : Result → Shared → Prop}
    {src : Addr} {so : Obj} {top : Int} {tt : Tok} (G : Gd w p loose mean mg mb 2 dp un gd outer base g s) (N : Sep g s.heap [(src, so)]) (hso : SrcO so) (ht : 0 < top) (ht' : top ≤ 9)
    (hret : ∀ r tr o' h' tk, 0 ≤ r → r < top → SrcO o' → g.StaysIn h' → Sep g h' [(src, o')] → R (.ok (.ret (.int r tr))) { s with heap := h', toks := tk }) :
    codeAny (model PySem.Challenge.rw_nu0058_01.row.prog w) (Ar dp un gd outer) (.call (.ref 225) ⟨[.ref src, .int top tt], []⟩) R s := by
  obtain ⟨a, b, ta, tb, n, rfl, ha, hb, hb'⟩ := hso
  have X := G.X
  have T := G.T
  obtain ⟨B, XB, TB, full, st, sz, hdp, hun⟩ := G
  have hfill : (PySem.Challenge.rw_nu0058_01.row.prog = PySem.Challenge.rw_nu0058_01.row.prog) ∧ (hd.heap_39 = hd.heap_39) → True := fun _ => trivial
  revert hfill; k_fill; intro hfill; clear hfill
  refine' enterS ?k1 ?k2 ?k3 ?k4 ?k5 ?kN ?k6 ?k7 ?k8 ?k9 ?kB ?_ ?c5 ?c2 ?c3 ?c4
  (case k1 => assumption)
  (case k2 => assumption)
  (case k3 => assumption)
  (case k4 => assumption)
  (case k5 => assumption)
  (case kN => assumption)
  (case k6 => k_is)
  (case k7 => k_is)
  (case k8 => k_room)
  (case k9 => first | exact BindsTo.of_eq rfl | exact binds_K (X.keeps st) rfl (by k_is) rfl rfl rfl)
  (case c5 => decide)
  (case kB => exact locs rfl)
  (case c2 => exact rfl)
  (case c3 => exact rfl)
  (case c4 => exact rfl)
  k_whole
  intro L' h' F' N' l1; (try k_lt l1); (try dsimp only); (try k_fold)
  refine wpAny_noRaise ?_
  w_strict k_steps
  all_goals (try dsimp only)
  all_goals refine hret _ _ _ _ _ ?_ ?_ ⟨_, _, _, _, _, rfl, ?_, ?_, ?_⟩ (Fr.keep (by assumption)) (News.sep (by assumption))
  all_goals (try simp only [List.getD_cons_zero, List.getD_cons_succ, Int.toNat_zero, Int.toNat_one])
  all_goals first | assumption | exact fm_lo _ _ (by omega) | exact fm_hi _ _ (by omega) | exact (fd_le ha ht).1 | (have z := fd_le ha ht; have z1 := z.1; have z2 := z.2; omega) | skip
section
variable {w : World} {p : Program} {loose : List Str} {mean : ExcName → Option Value} {mg mb : Str → Option Value} {dp un : Nat} {gd : Option (List Code)} {outer : List Env} {A₀ : Around} {base h₀ : Heap} {s : Shared}
  {L : Addr} {m : Str → Option Value} {env : Env} {news rest : List (Addr × Obj)} {Q E : Value → Shared → Prop} {src : Addr} {so : Obj} {top : Int} {tt : Tok}
/-- the ledger with another object at src -/
theorem src_back (F : Fr h₀ L s.heap m) {h' : Heap} {o' : Obj} {pre : List (Addr × Obj)} (N : News h₀ L s.heap (pre ++ (src, so) :: rest)) (h1 : ∀ q ∈ pre, q.1 ≠ src) (h2 : ∀ q ∈ rest, q.1 ≠ src) (hk : (subG s [(src, so)]).StaysIn h') (hs : Sep (subG s [(src, so)]) h' [(src, o')]) :
    Fr h₀ L h' m ∧ News h₀ L h' (pre ++ (src, o') :: rest) := by
  have hS : ∀ q ∈ [(src, so)], q ∈ pre ++ (src, so) :: rest := fun q hq => by rw [List.mem_singleton.mp hq]; exact List.mem_append_right _ (.head _)
  refine ⟨backF F N hS hk, fun q hq => ?_⟩
  rcases List.mem_append.mp hq with hq | hq
  · exact backO N hk (rest := pre) (fun x hx => ⟨List.mem_append_left _ hx, fun p hp => by rw [List.mem_singleton.mp hp]; exact (h1 x hx).symm⟩) q hq
  · rcases List.mem_cons.mp hq with rfl | hq
    · exact backS F N hS hs _ (.head _)
    · exact backO N hk (rest := rest) (fun x hx => ⟨List.mem_append_right _ (.tail _ hx), fun p hp => by rw [List.mem_singleton.mp hp]; exact (h2 x hx).symm⟩) q hq
theorem take_call {g' : Obj → List (Addr × Obj)} {A : Around} (hA : A = Ar dp un gd (env :: outer)) (B : Below A₀ base outer h₀) (F : Fr h₀ L s.heap m) (N : News h₀ L s.heap news) (U : UpdF src so news g') (hso : SrcO so) (XB : (hd.heap_39 w.params).In base) (TB : Top p loose mean mg mb base) (hf : env.frame = some L) (hke : env.scope.kind = .function)
    (ht : 0 < top) (ht' : top ≤ 9) (hdp : dp + 2 < recursionLimit) (hun : un + 16 * 2 + 100 < cLine)
    (h : ∀ r tr o' h' tk, 0 ≤ r → r < top → SrcO o' → Fr h₀ L h' m → News h₀ L h' (g' o') → Q (.int r tr) { s with heap := h', toks := tk }) :
    wpAny (model PySem.Challenge.rw_nu0058_01.row.prog w) A (call (.ref 225) [.ref src, .int top tt]) Q E s := by
  subst hA
  obtain ⟨pre, post, rfl, hg, h1, h2⟩ := U.split
  have hS : ∀ q ∈ [(src, so)], q ∈ pre ++ (src, so) :: post := fun q hq => by rw [List.mem_singleton.mp hq]; exact List.mem_append_right _ (.head _)
  obtain ⟨G', S', bs⟩ := Gd.sub (lvl := 2) (gd := gd) (un := un) (dp := dp) B F N XB TB hf hke hS hdp hun
  refine wpAny_call (takeSpec G' S' hso ht ht' fun r tr o' h' tk r0 r1 ho k1 k2 => ?_)
  obtain ⟨F', N'⟩ := src_back F N h1 h2 k1 k2
  exact h r tr o' h' tk r0 r1 ho F' (by rw [hg]; exact N')
end
theorem itemB {w : World} {A : Around} {E : Value → Shared → Prop} {s : Shared} {h₀ : Heap} {L t : Addr} {m : Str → Option Value} {vs : List Value} {n : Nat} {r : Int} {u : Tok} {value slice : PySem.Expr} {Q : Value → Shared → Prop}
    (F : Fr h₀ L s.heap m) (ht : h₀.get? t = some (listOf vs.toArray n)) (h0 : 0 ≤ r) (h1 : r < vs.length) (hz : vs.length ≤ 1000) (h : ∀ v, vs[r.toNat]? = some v → Q v s)
    (hs : subscripted slice false (.ref t) (.int r u) = operate [.ref t, .int r u] (getItem (.ref t) (.int r u)) := by with_unfolding_all rfl)
    (hg : ∀ k, letTemporaryGo value (.ref t) k = pure () := by intro _; with_unfolding_all rfl) :
    wpAny (model PySem.Challenge.rw_nu0058_01.row.prog w) A (subscriptTail value slice (.ref t) (.int r u)) Q E s := by
  have hl : r.toNat < vs.length := by omega
  exact item_list (items := vs.toArray) (x := vs[r.toNat]) ⟨_, F.keep _ _ ht, rfl, n, rfl⟩ h0 (by omega) (by simp [hl]) (h _ (by simp [hl])) hs hg
theorem lenB {w : World} {A : Around} {E : Value → Shared → Prop} {s : Shared} {h₀ : Heap} {L t : Addr} {m : Str → Option Value} {vs : List Value} {n : Nat} {Q : Value → Shared → Prop}
    (F : Fr h₀ L s.heap m) (ht : h₀.get? t = some (listOf vs.toArray n)) (hz : vs.length ≤ 1000) (h : Q (.int vs.length (s.toks + 1)) { s with toks := s.toks + 1 + 1 }) :
    wpAny (model PySem.Challenge.rw_nu0058_01.row.prog w) A (call (.builtin "len") [.ref t]) Q E s :=
  len_list (items := vs.toArray) ⟨_, F.keep _ _ ht, rfl, n, rfl⟩ (by simp only [List.size_toArray]; omega) (by simpa using h)
local macro_rules | `(tactic| walk_at "call ref") => `(tactic| ((with_reducible refine' take_call ?hA ?k1 ?k2 ?k3 ?U ?so ?k4 ?k5 ?k6 ?k7 ?t ?u ?k8 ?k9 ?_); k_dflt ((case k1 | k2 | k3 => k_asm); (case U => k_updF); (case so => assumption); walk_at "c6"; (case t | u => first | decide | omega); walk_at "ce")))
section part16_take
local macro_rules | `(tactic| walk_at "subscriptTail") => `(tactic| ((with_reducible refine' itemB ?F ?l ?a ?b ?z ?_ ?y ?x); k_dflt ((case F => k_asm); (case l | a | b => assumption); (case z => omega); walk_at "yx"; k_whole; intros)))
local macro_rules | `(tactic| walk_at "call builtin:len") => `(tactic| ((with_reducible refine' lenB ?N ?m ?z ?_); k_dflt ((case N => k_asm); (case m => assumption); (case z => omega); k_whole)))
set_option maxHeartbeats 1000000 in
theorem oneSpec {w : World} {p : Program} {loose : List Str} {mean : ExcName → Option Value} {mg mb : Str → Option Value} {dp un : Nat} {gd : Option (List Code)} {outer : List Env} {base g : Heap} {s : Shared} {R : Result → Shared → Prop}
    {src t : Addr} {so : Obj} {vs : List Value} {n : Nat} (G : Gd w p loose mean mg mb 4 dp un gd outer base g s) (N : Sep g s.heap [(src, so)]) (hso : SrcO so) (hl : base.get? t = some (listOf vs.toArray n)) (h0 : 0 < vs.length) (h9 : vs.length ≤ 9)
    (hret : ∀ (v : Value) (i : Nat) o' h' tk, vs[i]? = some v → SrcO o' → g.StaysIn h' → Sep g h' [(src, o')] → R (.ok (.ret v)) { s with heap := h', toks := tk }) :
    codeAny (model PySem.Challenge.rw_nu0058_01.row.prog w) (Ar dp un gd outer) (.call (.ref 232) ⟨[.ref src, .ref t], []⟩) R s := by
  have X := G.X
  have T := G.T
  obtain ⟨B, XB, TB, full, st, sz, hdp, hun⟩ := G
  have hlg := B.stays _ _ hl
  have hfill : (PySem.Challenge.rw_nu0058_01.row.prog = PySem.Challenge.rw_nu0058_01.row.prog) ∧ (hd.heap_39 = hd.heap_39) → True := fun _ => trivial
  revert hfill; k_fill; intro hfill; clear hfill
  refine' enterS ?k1 ?k2 ?k3 ?k4 ?k5 ?kN ?k6 ?k7 ?k8 ?k9 ?kB ?_ ?c5 ?c2 ?c3 ?c4
  (case k1 => assumption)
  (case k2 => assumption)
  (case k3 => assumption)
  (case k4 => assumption)
  (case k5 => assumption)
  (case kN => assumption)
  (case k6 => k_is)
  (case k7 => k_is)
  (case k8 => k_room)
  (case k9 => first | exact BindsTo.of_eq rfl | exact binds_K (X.keeps st) rfl (by k_is) rfl rfl rfl)
  (case c5 => decide)
  (case kB => exact locs rfl)
  (case c2 => exact rfl)
  (case c3 => exact rfl)
  (case c4 => exact rfl)
  k_whole
  intro L' h' F' N' l1; (try k_lt l1); (try dsimp only); (try k_fold)
  refine wpAny_noRaise ?_
  w_strict k_steps
  all_goals (try dsimp only)
  exact hret _ _ _ _ _ (by assumption) (by assumption) (Fr.keep (by assumption)) (News.sep (by assumption))
end part16_take
theorem off_part17_seq : True := by w_top off; trivial
section
variable {prog : Program} {w : World} {A : Around} {E : Value → Shared → Prop} {s : Shared} {env : Env} {h₀ : Heap} {x : Str} {px : Pos} {body : List Stmt} {Q : Flow → Shared → Prop} {r : Addr} {vs : List Value} {n : Nat}
  {m : Str → Option Value} {news : List (Addr × Obj)}
theorem seq_iter (hh : A.handled = none)
    (hr : (r, listOf vs.toArray n) ∈ news) (F : Fr h₀ env.locals s.heap m) (N : News h₀ env.locals s.heap news)
    (J : Nat → (Str → Option Value) → List (Addr × Obj) → Prop) (h0 : J 0 m news) (hJ0 : ∀ i m' news', J i m' news' → (r, listOf vs.toArray n) ∈ news')
    (turn : ∀ i v m₁ news₁ I itO h₁ tk₁, vs[i]? = some v → J i m₁ news₁ → (∀ p ∈ news₁, p.1 ≠ I) → Fr h₀ env.locals h₁ m₁ → News h₀ env.locals h₁ ((I, itO) :: news₁) →
      wpAny (model prog w) A (assign (.Name x px) env v) (fun _ s₃ => wpAny (model prog w) A (execs body env) (PairTurn h₀ env.locals I itO (J (i + 1)) s) E s₃) E { s with heap := h₁, toks := tk₁ })
    (done : ∀ h' tk m' news', Fr h₀ env.locals h' m' → News h₀ env.locals h' news' → J vs.length m' news' → Q .next { s with heap := h', toks := tk }) :
    wpAny (model prog w) A (pyIter (.ref r)) (fun it s₂ => LoopS prog w A h₀ env (.Name x px) body Q E it s₂) E s := by
  have ht : s.heap.IsList r vs.toArray := News.isList N hr
  have hlt : r < s.heap.objs.size := Heap.lt_size (N _ hr).1
  have hne : r ≠ s.heap.objs.size := Nat.ne_of_lt hlt
  refine wpAny_pyIter_list ht ?_
  have W := Walks.list (prog := prog) (w := w) hh s.heap.objs.size r hne vs.toArray
  have hlen : vs.toArray.size = vs.length := by simp
  rw [hlen] at W
  refine ⟨_, _, _, vs.length, _, _, m, news, J, rfl, W, ?_, ?_, ?_, ⟨⟨_, Heap.get?_push_size _ rfl, rfl, rfl⟩, ?_⟩, F.push _, (fun p hp => ⟨Heap.get?_push_of_some _ (N p hp).1, (N p hp).2⟩), ?_, h0, ?_, ?_⟩
  · intro hm
    rcases List.mem_cons.mp hm with e | hm
    · exact absurd F.ns.lt (e ▸ Nat.lt_irrefl _)
    · exact (N _ hr).2.1 (List.mem_singleton.mp hm).symm
  · intro b hb
    rw [List.mem_singleton.mp hb]
    exact next_is_new F
  · intro p hp hI
    exact absurd (Heap.lt_size (N p hp).1) ((List.mem_singleton.mp hI) ▸ Nat.lt_irrefl _)
  · exact ⟨_, Heap.get?_push_of_some _ (N _ hr).1, rfl, n, rfl⟩
  · rintro i s' v Q' ⟨⟨o, ho, hc, hd⟩, _⟩ hq
    cases v <;> exact wpAny_pure hq
  · rintro i v m₁ news₁ h₁ tk₁ own hi hP hJ hoff hown hget hall hst F₁ N₁
    have hr1 := (N₁ _ (List.mem_append_right own (hJ0 _ _ _ hJ))).1
    obtain ⟨⟨o, ho, hoc, _⟩, _⟩ := hst
    have hI := hall s.heap.objs.size (by simp) (next_is_new F) o ho
    have hoI : ∀ p ∈ own, p = (s.heap.objs.size, o) ∨ p = (r, listOf vs.toArray n) := fun p hp => by
      have h1 := hown p hp
      rcases List.mem_cons.mp h1 with e | e
      · have h3 := hget p hp
        rw [e, ho] at h3
        exact .inl (Prod.ext e (Option.some.inj h3).symm)
      · have h3 := hget p hp
        rw [List.mem_singleton.mp e, hr1] at h3
        exact .inr (Prod.ext (List.mem_singleton.mp e) (Option.some.inj h3).symm)
    refine wpAny_mono (turn i v m₁ news₁ s.heap.objs.size o _ _ (by simpa using hP) hJ (fun p hp q => hoff p hp (by simp [q])) F₁ (fun p hp => ?_)) (fun _ s₃ z => wpAny_mono z (fun f s₂ p => ?_) fun _ _ e => e) fun _ _ e => e
    · rcases List.mem_cons.mp hp with rfl | hp
      · exact N₁ _ (List.mem_append_left _ hI)
      · exact N₁ _ (List.mem_append_right _ hp)
    · obtain ⟨rfl, h', tk, m', news', rfl, F', N', hn, hj⟩ := p
      refine ⟨rfl, h', tk, m', news', rfl, F', fun p hp => ?_, fun p hp hm => hn p hp (by simpa using hm), hj⟩
      rcases List.mem_append.mp hp with hp | hp
      · rcases hoI p hp with e | e
        · rw [e]; exact N' _ (.head _)
        · rw [e]; exact N' _ (.tail _ (hJ0 _ _ _ hj))
      · exact N' _ (.tail _ hp)
  · rintro h' tk m' news' F' N' _ hJ
    exact done h' tk m' news' F' N' hJ
end
section
variable {prog : Program} {w : World} {A : Around} {s : Shared} {base g : Heap} {outer : List Env} {news : List (Addr × Obj)} {K : Frag} {p : Program} {loose : List Str} {mean : ExcName → Option Value} {mg mb : Str → Option Value}
  {R : Result → Shared → Prop} {name qual : Str} {params : Arguments} {body : List Stmt} {scope : Scope} {dV kV doc pm cdv ct oc : Value} {an od : Option Addr} {osl : Array (Option Value)} {f : Addr} {args : Args} {binds : List (Str × Value)}
/-- into a def that has cells -/
theorem enterSC (B : Below A base outer g) (X : K.In g) (T : Top p loose mean mg mb g) (st : g.StaysIn s.heap) (sz : g.objs.size ≤ s.heap.objs.size) (N : Sep g s.heap news)
    (ho : K.lookup f = some ⟨oc, od, .func (fnX name qual params body scope [] dV kV doc pm an cdv ct), osl⟩) (hcd : codeIn K cdv qual = true) (hroom : A.depth < recursionLimit)
    (hbind : BindsTo s (fnX name qual params body scope [] dV kV doc pm an cdv ct) args binds) (hkind : (binds.all fun y => scope.names.lookup y.1 == some .local || scope.names.lookup y.1 == some .cell) = true)
    (hnd : ((cellsFrom 0 scope.names []).map (·.1)).Nodup)
    (h : ∀ L' h₁ tk cells, Fr g L' h₁ (bindL (envOfC qual scope L' f cdv).kindOf binds fun _ => none) → News g L' h₁ (cells ++ news) →
      CellsAre (bindC (envOfC qual scope L' f cdv).kindOf binds fun _ => none) (cellsFrom (L' + 1) scope.names []) cells → (∀ p ∈ news, p.1 < L') →
      wpAny (model prog w) (A.deeper (envOfC qual scope L' f cdv)) (execs body (envOfC qual scope L' f cdv))
        (fun fl s' => R (.ok (.ret (match fl with | .ret v => v | _ => .none))) s')
        (fun e s' => wpAny (model prog w) (A.deeper (envOfC qual scope L' f cdv)) (leaving (envOfC qual scope L' f cdv) e) (fun _ s'' => R (.error e) s'') (fun e' s'' => R (.error e') s'') s')
        { s with heap := h₁, toks := tk })
    (hco : scope.isCoroutine = false := by rfl) (hgen : scope.isGenerator = false := by rfl) (hk : scope.kind = .function := by rfl) : codeAny (model prog w) A (.call (.ref f) args) R s := by
  have _ := B.stack
  have X' : K.In s.heap := X.keeps st
  refine codeAny_call_function hroom (X' _ _ ho) rfl hco hgen rfl (codeRec_of X' hcd) (hbind _ _ _ _ ?_)
  refine wpAny_newFunctionEnv_cells hk (kindsX hkind _) fun env' he s' x => ?_
  subst he
  refine ⟨(T.nolimit.keeps st).keeps x.toInCall.keep, codeAny_func ?_⟩
  obtain ⟨h₁, tk, rfl, _⟩ := x.done
  have hk₁ := x.toInCall.keep
  obtain ⟨cells, NC, Y⟩ := Cl.news (h₀ := s.heap) (Nat.le_refl _) fun n c hm => ⟨x.cell n c (lookup_of_mem_nodup (cellsFrom_names scope.names 0 (s.heap.objs.size + 1) [] [] rfl ▸ hnd) hm), x.above n c hm⟩
  refine h s.heap.objs.size h₁ tk cells ⟨x.toInCall.ns, fun b o e => hk₁ b o (st b o e), sz⟩ (fun p hp => ?_) Y (fun p hp => Heap.lt_size (N p hp).1)
  rcases List.mem_append.mp hp with hp | hp
  · refine ⟨(NC p hp).1, (NC p hp).2.1, ?_⟩
    cases q : g.get? p.1 with
    | none => rfl
    | some o => have := st _ _ q; rw [(NC p hp).2.2] at this; cases this
  · exact ⟨hk₁ _ _ (N p hp).1, Nat.ne_of_lt (Heap.lt_size (N p hp).1), (N p hp).2⟩
end
theorem off_part17b_comp : True := by w_top off; trivial
/-- the test of a comprehension has answered b, nothing else has turned -/
inductive TestIs (h₀ : Heap) (L : Addr) (m : Str → Option Value) (s : Shared) (news : List (Addr × Obj)) (b : Bool) (ok : Bool) (s' : Shared) : Prop
  | mk (_ : ok = b) (h' tk' : _) (_ : s' = { s with heap := h', toks := tk' }) (_ : Fr h₀ L h' m) (_ : News h₀ L h' news) : TestIs h₀ L m s news b ok s'
inductive EltIs (h₀ : Heap) (L : Addr) (m : Str → Option Value) (s : Shared) (news : List (Addr × Obj)) (v : Value) (r : Value) (s' : Shared) : Prop
  | mk (_ : r = v) (h' tk' : _) (_ : s' = { s with heap := h', toks := tk' }) (_ : Fr h₀ L h' m) (_ : News h₀ L h' news) : EltIs h₀ L m s news v r s'
section
variable {prog : Program} {w : World} {A : Around} {h₀ : Heap} {L : Addr} {m : Str → Option Value} {env : Env} {ct elt : PySem.Expr} {xn : Str} {scope : Scope} {cl : List (Str × Addr)} {s : Shared} {S : List (Addr × Obj) → Prop} {Fin : List Value → List (Addr × Obj) → Prop}
  {fs : List Value} {l : List (Str × Str)} {T news : List (Addr × Obj)}
/-- `[pair for pair in fs if ct]` -/
theorem comp_filter (hfs : PairsIn T fs l) (pz : Str × Str → Bool) (hS : S news)
    (turn : ∀ (i : Nat) a x y t u n I oI C oC D m₂ ys h tk (E' : Value → Shared → Prop), (a, tupO [.str x t, .str y u] n) ∈ T → (x, y) ∈ l → LCg.NsObj oC m₂ → m₂ xn = some (.ref a) → Fr h₀ L h m → News h₀ L h ((I, oI) :: (C, oC) :: (D, LCg.lst ys) :: news) → LCg.Off3 I C D news →
      ((@Ne Nat I C) ∧ (@Ne Nat I D) ∧ (@Ne Nat C D)) → wpAny (model prog w) A (isTrue ct (compEnvC scope cl C env) (eval ct (compEnvC scope cl C env))) (TestIs h₀ L m s ((I, oI) :: (C, oC) :: (D, LCg.lst ys) :: news) (pz (x, y))) E' { s with heap := h, toks := tk })
    (telt : ∀ (i : Nat) a x y t u n I oI C oC D m₂ ys h tk (E' : Value → Shared → Prop), (a, tupO [.str x t, .str y u] n) ∈ T → (x, y) ∈ l → LCg.NsObj oC m₂ → m₂ xn = some (.ref a) → Fr h₀ L h m → News h₀ L h ((I, oI) :: (C, oC) :: (D, LCg.lst ys) :: news) → LCg.Off3 I C D news →
      ((@Ne Nat I C) ∧ (@Ne Nat I D) ∧ (@Ne Nat C D)) → wpAny (model prog w) A (eval elt (compEnvC scope cl C env)) (EltIs h₀ L m s ((I, oI) :: (C, oC) :: (D, LCg.lst ys) :: news) (.ref a)) E' { s with heap := h, toks := tk })
    (fin : ∀ ys, PairsIn T ys (l.filter pz) → Fin ys news) :
    LCt.CompRestT prog w A h₀ L m env ct elt xn scope cl s S (fun i v => fs.toArray[i]? = some v) Fin fs.toArray.size 0 [] news := by
  have hlen : fs.toArray.size = l.length := by simp [hfs.length]
  have key : ∀ (j i : Nat) (ys : List Value), i + j = l.length → PairsIn T ys ((l.take i).filter pz) → LCt.CompRestT prog w A h₀ L m env ct elt xn scope cl s S (fun i v => fs.toArray[i]? = some v) Fin j i ys news := by
    intro j
    induction j with
    | zero =>
      intro i ys hi hys
      rw [Nat.add_zero] at hi
      rw [hi, List.take_length] at hys
      exact LCt.CompRestT.zero (fin ys hys)
    | succ j ih =>
      intro i ys hi hys
      refine LCt.CompRestT.succ ?_
      intro v I oI C oC D m₂ h tk E' hP hoC hx F N off ne
      obtain ⟨a, x, y, t, u, n, rfl, ha, hl⟩ := hfs.get (by simpa using hP)
      have hm : (x, y) ∈ l := List.mem_of_getElem? hl
      have hs : l.take (i + 1) = l.take i ++ [(x, y)] := by rw [List.take_add_one, hl]; rfl
      refine wpAny_mono (turn i a x y t u n I oI C oC D m₂ ys h tk E' ha hm hoC hx F N off ne) (fun ok s' z => ?_) fun _ _ e => e
      obtain ⟨rfl, h', tk', rfl, F', N'⟩ := z
      cases hb : pz (x, y) with
      | true =>
        simp only [if_true]
        refine wpAny_mono (telt i a x y t u n I oI C oC D m₂ ys h' tk' E' ha hm hoC hx F' N' off ne) (fun r s'' z => ?_) fun _ _ e => e
        obtain ⟨rfl, h'', tk'', rfl, F'', N''⟩ := z
        exact ⟨h'', tk'', news, rfl, F'', N'', off, hS, ih (i + 1) _ (by omega) (by rw [hs, List.filter_append]; simpa [hb] using hys.append (.cons ha .nil))⟩
      | false =>
        simp only [Bool.false_eq_true, if_false]
        exact ⟨h', tk', news, rfl, F', N', off, hS, ih (i + 1) _ (by omega) (by rw [hs, List.filter_append]; simpa [hb] using hys)⟩
  rw [hlen]
  exact key l.length 0 [] (by omega) .nil
end
theorem off_part18_drawn : True := by w_top off; trivial
section
variable {w : World} {p : Program} {loose : List Str} {mean : ExcName → Option Value} {mg mb : Str → Option Value} {dp un : Nat} {gd : Option (List Code)} {outer : List Env} {A₀ : Around} {base h₀ : Heap} {s : Shared}
  {L : Addr} {m : Str → Option Value} {env : Env} {news : List (Addr × Obj)} {Q E : Value → Shared → Prop} {src t : Addr} {so : Obj}
theorem sub_at {S : List (Addr × Obj)} {q : Addr × Obj} (B : Below A₀ base outer h₀) (N : News h₀ L s.heap news) (hf : env.frame = some L) (hq : q ∈ news) (hS : ∀ p ∈ S, p.1 ≠ q.1) : (subB s S env outer).get? q.1 = some q.2 :=
  hideAll_get _ (sub_get (N q hq).1 hS) fun hm => by
    obtain ⟨e, he, hfr⟩ := List.mem_filterMap.mp hm
    rcases List.mem_cons.mp he with rfl | he
    · rw [hf] at hfr
      exact (N q hq).2.1 (Option.some.inj hfr).symm
    · obtain ⟨_, o, ho, _⟩ := B.frames.mem (List.mem_filterMap.mpr ⟨e, he, hfr⟩)
      rw [(N q hq).2.2] at ho; cases ho
theorem one_call {g' : Obj → List (Addr × Obj)} {vs : List Value} {n : Nat} {A : Around} (hA : A = Ar dp un gd (env :: outer)) (B : Below A₀ base outer h₀) (F : Fr h₀ L s.heap m) (N : News h₀ L s.heap news) (U : UpdF src so news g') (hso : SrcO so) (XB : (hd.heap_39 w.params).In base) (TB : Top p loose mean mg mb base) (hf : env.frame = some L) (hke : env.scope.kind = .function)
    (hl : (t, listOf vs.toArray n) ∈ news) (hne : @Ne Nat src t) (h0 : 0 < vs.length) (h9 : vs.length ≤ 9) (hdp : dp + 4 < recursionLimit) (hun : un + 16 * 4 + 100 < cLine)
    (h : ∀ (v : Value) (i : Nat) o' h' tk, vs[i]? = some v → SrcO o' → Fr h₀ L h' m → News h₀ L h' (g' o') → Q v { s with heap := h', toks := tk }) :
    wpAny (model PySem.Challenge.rw_nu0058_01.row.prog w) A (call (.ref 232) [.ref src, .ref t]) Q E s := by
  subst hA
  obtain ⟨pre, post, rfl, hg, h1, h2⟩ := U.split
  have hS : ∀ q ∈ [(src, so)], q ∈ pre ++ (src, so) :: post := fun q hq => by rw [List.mem_singleton.mp hq]; exact List.mem_append_right _ (.head _)
  obtain ⟨G', S', bs⟩ := Gd.sub (lvl := 4) (gd := gd) (un := un) (dp := dp) B F N XB TB hf hke hS hdp hun
  have hlb := sub_at (S := [(src, so)]) B N hf hl (fun p hp => by rw [List.mem_singleton.mp hp]; exact hne)
  refine wpAny_call (oneSpec G' S' hso hlb h0 h9 fun v i o' h' tk hv ho k1 k2 => ?_)
  obtain ⟨F', N'⟩ := src_back F N h1 h2 k1 k2
  exact h v i o' h' tk hv ho F' (by rw [hg]; exact N')
end
section part18_drawn
local macro_rules | `(tactic| walk_at "call ref") => `(tactic| ((with_reducible refine' one_call ?hA ?k1 ?k2 ?k3 ?U ?so ?k4 ?k5 ?k6 ?k7 ?l ?n ?t ?u ?k8 ?k9 ?_); k_dflt ((case k1 | k2 | k3 => k_asm); (case U => k_updF); (case so => assumption); walk_at "c6"; (case l => kfm_turns); (case n => k_ne); (case t | u => ((try simp only [List.length_cons, List.length_nil]); omega)); walk_at "ce")))
local macro_rules | `(tactic| walk_at "exec Assign cons IfExp") => `(tactic| refine hold ?_)
local macro_rules | `(tactic| walk_at "exec For Name List cons nil") => `(tactic| ((with_reducible rename Fr _ _ _ _ => kF); k_dflt (refine' For_S kF ?h ?hs; (case hs => intro _; rfl))))
local macro_rules | `(tactic| walk_at "eval ListComp") => `(tactic| (k_dflt (refine LCt.ListComp_T (F₀ := by k_asm) (by with_unfolding_all rfl) (by decide) (by rfl) (by decide) (by rfl) ?_)))
local macro_rules | `(tactic| walk_at "binaryOp Add ref ref") => `(tactic| ((with_reducible refine' kmk_add_lit ?F ?N ?a ?b ?e ?_ ?z); k_dflt (walk_at "FN"; (case a | b => is_list); (case e => first | kl_lit | exact rfl); (case z => (first | exact Nat.le_of_ble_eq_true rfl | (simp only [sizeLine_eq, List.length_cons, List.length_nil, List.length_append]; omega)))); intros; (try k_sweep)))
def drawNames : List Str := [Str.ofString "xmlns", Str.ofString "xmlns:p", Str.ofString "xmlns:q", Str.ofString "a", Str.ofString "p:a", Str.ofString "q:a", Str.ofString "p:b"]
/-- the state of drawn's loop -/
inductive DrJ (m₀ : Str → Option Value) (ll fl cl src : Addr) (lo : Obj) (i : Nat) (m : Str → Option Value) (news : List (Addr × Obj)) : Prop
  | mk (so fs k co cv T l : _) (_ : news = (ll, lo) :: (fl, listOf fs.toArray k) :: (cl, co) :: (src, so) :: T) (_ : co.data = .cell cv) (_ : SrcO so) (_ : PairsIn T fs l) (_ : l.length ≤ i) (_ : (∀ q ∈ l, PairOk q)) (_ : ApartT T ll) (_ : ApartT T fl) (_ : ApartT T cl) (_ : ApartT T src) (_ : ∀ y, ([Str.ofString "value"] : List Str).contains y = false → m y = m₀ y) : DrJ m₀ ll fl cl src lo i m news
theorem ok_snoc {l : List (Str × Str)} {q : Str × Str} (h : ∀ q ∈ l, PairOk q) (k : PairOk q) : ∀ r ∈ l ++ [q], PairOk r := fun r hr => by
  rcases List.mem_append.mp hr with hr | hr
  · exact h r hr
  · rw [List.mem_singleton.mp hr]; exact k
theorem val_off {v : Option Value} {m₂ m₀ : Str → Option Value} (hm : ∀ y, ([Str.ofString "value"] : List Str).contains y = false → m₂ y = m₀ y) : ∀ y, ([Str.ofString "value"] : List Str).contains y = false → (if y = Str.ofString "value" then v else m₂ y) = m₀ y := fun y hy => by
  rw [if_neg (fun e => by subst e; revert hy; decide)]; exact hm y hy
/-- a turn that adds a pair -/
theorem dr_add {h₀ h : Heap} {L D I ll fl cl src : Addr} {itO it1 lo l0 x1 x0 co c0 so s0 : Obj} {m m₀ : Str → Option Value} {fs : List Value} {k i tk : Nat} {cv : Option Value} {l : List (Str × Str)} {T : List (Addr × Obj)} {s₁ : Shared} {x y : Str} {t u : Tok} (F : Fr h₀ L h m)
    (N : News h₀ L h ((D, tupO [.str x t, .str y u] 0) :: (I, itO) :: (ll, lo) :: (fl, listOf (fs ++ [Value.ref D]).toArray k) :: (cl, co) :: (src, so) :: T))
    (hI : ∀ p ∈ (ll, l0) :: (fl, x0) :: (cl, c0) :: (src, s0) :: T, p.1 ≠ I) (hco : co.data = .cell cv) (hso : SrcO so) (hfs : PairsIn T fs l) (hll : l.length ≤ i) (hok : ∀ q ∈ l, PairOk q) (hp : PairOk (x, y)) (a1 : ApartT T ll) (a2 : ApartT T fl) (a3 : ApartT T cl) (a4 : ApartT T src)
    (lD : ∀ p ∈ (I, it1) :: (ll, lo) :: (fl, x1) :: (cl, co) :: (src, so) :: T, p.1 < D) (hm : ∀ y, ([Str.ofString "value"] : List Str).contains y = false → m y = m₀ y) :
    PairTurn h₀ L I itO (DrJ m₀ ll fl cl src lo (i + 1)) s₁ .next { s₁ with heap := h, toks := tk } := by
  have n1 := fun p hp => Nat.ne_of_gt (lD p hp)
  refine ⟨rfl, _, _, _, (ll, lo) :: (fl, _) :: (cl, co) :: (src, so) :: (D, tupO [.str x t, .str y u] 0) :: T, rfl, F, newsPerm N (fun q hq => picks _ 6 [1, 2, 3, 4, 5, 0] q hq), ?_, so, _, k, co, cv, (D, tupO [.str x t, .str y u] 0) :: T, l ++ [(x, y)], rfl, hco, hso, hfs.snoc, by simp; omega, ok_snoc hok hp, ?_, ?_, ?_, ?_, hm⟩
  · exact List.forall_mem_cons.mpr ⟨hI (ll, l0) (.head _), List.forall_mem_cons.mpr ⟨hI (fl, x0) (.tail _ (.head _)), List.forall_mem_cons.mpr ⟨hI (cl, c0) (.tail _ (.tail _ (.head _))), List.forall_mem_cons.mpr ⟨hI (src, s0) (.tail _ (.tail _ (.tail _ (.head _)))), List.forall_mem_cons.mpr ⟨n1 (I, it1) (.head _), fun q hq => hI q (.tail _ (.tail _ (.tail _ (.tail _ hq))))⟩⟩⟩⟩⟩
  · exact List.forall_mem_cons.mpr ⟨n1 _ (.tail _ (.head _)), a1⟩
  · exact List.forall_mem_cons.mpr ⟨n1 (fl, x1) (.tail _ (.tail _ (.head _))), a2⟩
  · exact List.forall_mem_cons.mpr ⟨n1 _ (.tail _ (.tail _ (.tail _ (.head _)))), a3⟩
  · exact List.forall_mem_cons.mpr ⟨n1 _ (.tail _ (.tail _ (.tail _ (.tail _ (.head _))))), a4⟩
/-- a turn that adds none -/
theorem dr_none {h₀ h : Heap} {L I ll fl cl src : Addr} {itO lo l0 x0 co c0 so s0 : Obj} {m m₀ : Str → Option Value} {fs : List Value} {k i tk : Nat} {cv : Option Value} {l : List (Str × Str)} {T : List (Addr × Obj)} {s₁ : Shared} (F : Fr h₀ L h m)
    (N : News h₀ L h ((I, itO) :: (ll, lo) :: (fl, listOf fs.toArray k) :: (cl, co) :: (src, so) :: T))
    (hI : ∀ p ∈ (ll, l0) :: (fl, x0) :: (cl, c0) :: (src, s0) :: T, p.1 ≠ I) (hco : co.data = .cell cv) (hso : SrcO so) (hfs : PairsIn T fs l) (hll : l.length ≤ i) (hok : ∀ q ∈ l, PairOk q) (a1 : ApartT T ll) (a2 : ApartT T fl) (a3 : ApartT T cl) (a4 : ApartT T src)
    (hm : ∀ y, ([Str.ofString "value"] : List Str).contains y = false → m y = m₀ y) :
    PairTurn h₀ L I itO (DrJ m₀ ll fl cl src lo (i + 1)) s₁ .next { s₁ with heap := h, toks := tk } :=
  ⟨rfl, _, _, _, (ll, lo) :: (fl, _) :: (cl, co) :: (src, so) :: T, rfl, F, N, List.forall_mem_cons.mpr ⟨hI (ll, l0) (.head _), List.forall_mem_cons.mpr ⟨hI (fl, x0) (.tail _ (.head _)), List.forall_mem_cons.mpr ⟨hI (cl, c0) (.tail _ (.tail _ (.head _))), List.forall_mem_cons.mpr ⟨hI (src, s0) (.tail _ (.tail _ (.tail _ (.head _)))), fun q hq => hI q (.tail _ (.tail _ (.tail _ (.tail _ hq))))⟩⟩⟩⟩, so, fs, k, co, cv, T, l, rfl, hco, hso, hfs, by omega, hok, a1, a2, a3, a4, hm⟩
theorem pok_plain {x y : Str} (h : x ∈ plainNames) (k : PyData.strOk y = true) : PairOk (x, y) := .inl ⟨h, k⟩
theorem pok_decl {x y : Str} (p : Str) (h : (x, p) ∈ declPairs) (k : (p, y) ∈ okBinds) : PairOk (x, y) := .inr ⟨p, h, .inl k⟩
abbrev DrJof {h₀ h : Heap} {L ll fl cl src : Addr} {lo x co so : Obj} {m : Str → Option Value} (_ : Fr h₀ L h m) (_ : News h₀ L h [(ll, lo), (fl, x), (cl, co), (src, so)]) := DrJ m ll fl cl src lo
theorem odd_of {news : List (Addr × Obj)} {v : Value} {D0 D1 D2 D3 D4 D5 D6 D7 D8 : Addr} {t0 u0 t1 u1 t2 u2 t3 u3 t4 u4 t5 u5 t6 u6 t7 u7 t8 u8 : Tok} (hv : v ∈ [Value.ref D0, Value.ref D1, Value.ref D2, Value.ref D3, Value.ref D4, Value.ref D5, Value.ref D6, Value.ref D7, Value.ref D8])
    (m0 : (D0, tupO [.str (Str.ofString "xmlns:p") t0, .str (Str.ofString "") u0] 0) ∈ news)
    (m1 : (D1, tupO [.str (Str.ofString "xmlns:xmlns") t1, .str (Str.ofString "u") u1] 0) ∈ news)
    (m2 : (D2, tupO [.str (Str.ofString "xmlns:xml") t2, .str (Str.ofString "u") u2] 0) ∈ news)
    (m3 : (D3, tupO [.str (Str.ofString "xmlns:r") t3, .str XMLU u3] 0) ∈ news)
    (m4 : (D4, tupO [.str (Str.ofString "xmlns:xml") t4, .str XMLU u4] 0) ∈ news)
    (m5 : (D5, tupO [.str (Str.ofString "xmlns:r") t5, .str XMLNSU u5] 0) ∈ news)
    (m6 : (D6, tupO [.str (Str.ofString "xmlns") t6, .str XMLNSU u6] 0) ∈ news)
    (m7 : (D7, tupO [.str (Str.ofString "xmlns") t7, .str XMLU u7] 0) ∈ news)
    (m8 : (D8, tupO [.str (Str.ofString "xmlns:xml") t8, .str XMLNSU u8] 0) ∈ news) :
    ∃ D x y t u n, v = Value.ref D ∧ (D, tupO [.str x t, .str y u] n) ∈ news ∧ PairOk (x, y) := by
  simp only [List.mem_cons, List.not_mem_nil, or_false] at hv
  rcases hv with rfl | rfl | rfl | rfl | rfl | rfl | rfl | rfl | rfl
  · exact ⟨D0, _, _, _, _, _, rfl, m0, .inr ⟨Str.ofString "p", by decide +kernel, .inr (by decide +kernel)⟩⟩
  · exact ⟨D1, _, _, _, _, _, rfl, m1, .inr ⟨Str.ofString "xmlns", by decide +kernel, .inr (by decide +kernel)⟩⟩
  · exact ⟨D2, _, _, _, _, _, rfl, m2, .inr ⟨Str.ofString "xml", by decide +kernel, .inr (by decide +kernel)⟩⟩
  · exact ⟨D3, _, _, _, _, _, rfl, m3, .inr ⟨Str.ofString "r", by decide +kernel, .inr (by decide +kernel)⟩⟩
  · exact ⟨D4, _, _, _, _, _, rfl, m4, .inr ⟨Str.ofString "xml", by decide +kernel, .inl (by decide +kernel)⟩⟩
  · exact ⟨D5, _, _, _, _, _, rfl, m5, .inr ⟨Str.ofString "r", by decide +kernel, .inr (by decide +kernel)⟩⟩
  · exact ⟨D6, _, _, _, _, _, rfl, m6, .inr ⟨Str.ofString "", by decide +kernel, .inr (by decide +kernel)⟩⟩
  · exact ⟨D7, _, _, _, _, _, rfl, m7, .inr ⟨Str.ofString "", by decide +kernel, .inr (by decide +kernel)⟩⟩
  · exact ⟨D8, _, _, _, _, _, rfl, m8, .inr ⟨Str.ofString "xml", by decide +kernel, .inr (by decide +kernel)⟩⟩
theorem odd_pick {g h : Heap} {L fl cl src : Addr} {news T : List (Addr × Obj)} {v : Value} {fs : List Value} {k : Nat} {co so : Obj} {cv : Option Value} (N : News g L h news) (b1 : (fl, listOf fs.toArray k) ∈ news) (b2 : (cl, co) ∈ news) (hco : co.data = .cell cv) (b3 : (src, so) ∈ news) (hso : SrcO so) (hT : ∀ q ∈ T, q ∈ news)
    (hv : ∃ D x y t u n, v = Value.ref D ∧ (D, tupO [.str x t, .str y u] n) ∈ news ∧ PairOk (x, y)) :
    ∃ D x y t u n, v = Value.ref D ∧ News g L h ((D, tupO [.str x t, .str y u] n) :: (fl, listOf fs.toArray k) :: (cl, co) :: (src, so) :: T) ∧ PairOk (x, y) ∧ @Ne Nat D fl ∧ @Ne Nat D cl ∧ @Ne Nat D src := by
  obtain ⟨D, x, y, t, u, n, e, hm, hk⟩ := hv
  have tl : (Value.type "tuple") ≠ Value.type "list" := by intro e; injection e with e; revert e; decide
  refine ⟨D, x, y, t, u, n, e, newsPerm N (List.forall_mem_cons.mpr ⟨hm, List.forall_mem_cons.mpr ⟨b1, List.forall_mem_cons.mpr ⟨b2, List.forall_mem_cons.mpr ⟨b3, hT⟩⟩⟩⟩), hk, ne_cls N hm b1 tl, ?_, ?_⟩
  · intro e
    have z := (N _ hm).1
    dsimp only at z
    rw [e, (N _ b2).1] at z
    have z2 := congrArg Obj.data (Option.some.inj z)
    dsimp only at z2
    rw [hco] at z2
    cases z2
  · obtain ⟨_, _, _, _, _, rfl, _⟩ := hso
    exact ne_cls N hm b3 tl
theorem ne_src {g h : Heap} {L D src : Addr} {news : List (Addr × Obj)} {so : Obj} {vs : List Value} {n : Nat} (N : News g L h news) (hD : (D, tupO vs n) ∈ news) (hs : (src, so) ∈ news) (hso : SrcO so) : D ≠ src := by
  obtain ⟨_, _, _, _, _, rfl, _⟩ := hso
  exact ne_cls N hD hs (show Value.type "tuple" ≠ Value.type "list" from by intro e; injection e with e; revert e; decide)
theorem dr_end {g h : Heap} {L D src : Addr} {news X : List (Addr × Obj)} {so : Obj} {vs : List Value} {n : Nat} (N : News g L h news) (hD : (D, tupO vs n) ∈ news) (hs : (src, so) ∈ news) (hso : SrcO so) (hX : ∀ q ∈ X, q ∈ news) (aX : ApartT X src) :
    ApartT ((D, tupO vs n) :: X) src ∧ Sep g h ((src, so) :: (D, tupO vs n) :: X) :=
  ⟨List.forall_mem_cons.mpr ⟨ne_src N hD hs hso, aX⟩, fun q hq => by
    have : q ∈ news := by
      rcases List.mem_cons.mp hq with rfl | hq
      · exact hs
      · rcases List.mem_cons.mp hq with rfl | hq
        · exact hD
        · exact hX _ hq
    exact ⟨(N _ this).1, (N _ this).2.2⟩⟩
theorem dr_end2 {g h : Heap} {L D D' src : Addr} {news T : List (Addr × Obj)} {so : Obj} {ys : List Value} {n k : Nat} {x y : Str} {t u : Tok} {l : List (Str × Str)} (N : News g L h news) (hD : (D, tupO (ys ++ [.ref D']) n) ∈ news) (hD' : (D', tupO [.str x t, .str y u] k) ∈ news) (hs : (src, so) ∈ news) (hso : SrcO so)
    (hT : ∀ q ∈ T, q ∈ news) (aT : ApartT T src) (hys : PairsIn T ys l) : ∃ T', PairsIn T' (ys ++ [.ref D']) (l ++ [(x, y)]) ∧ (D, tupO (ys ++ [.ref D']) n) ∈ T' ∧ ApartT T' src ∧ Sep g h ((src, so) :: T') := by
  obtain ⟨a, b⟩ := dr_end (X := (D', tupO [.str x t, .str y u] k) :: T) N hD hs hso (List.forall_mem_cons.mpr ⟨hD', hT⟩) (List.forall_mem_cons.mpr ⟨ne_src N hD' hs hso, aT⟩)
  exact ⟨_, (hys.mono fun q hq => .tail _ (.tail _ hq)).append (.cons (.tail _ (.head _)) .nil), .head _, a, b⟩
theorem two_top {m : Str → Option Value} {a b : Str} {x y : Value} (ha : m a = some x) (hb : m b = some y) : m = fun z => if z = a then some x else if z = b then some y else m z := by
  funext z
  by_cases h : z = a
  · rw [if_pos h, h, ha]
  · rw [if_neg h]
    by_cases h : z = b
    · rw [if_pos h, h, hb]
    · rw [if_neg h]
/-- value is stored -/
inductive ValP (g : Heap) (L : Addr) (m : Str → Option Value) (nf : Obj → List (Addr × Obj)) (nm : Str) (s s' : Shared) : Prop
  | mk (h' : Heap) (tk' : Nat) (so : Obj) (v : Str) (u : Tok) (_ : s' = { s with heap := h', toks := tk' }) (_ : Fr g L h' (fun y => if y = Str.ofString "value" then some (.str v u) else m y)) (_ : News g L h' (nf so)) (_ : SrcO so) (_ : PairOk (nm, v)) : ValP g L m nf nm s s'
abbrev ValOf {g h : Heap} {L : Addr} {m : Str → Option Value} {q1 q2 q3 q4 : Addr × Obj} {src : Addr} {so : Obj} {T : List (Addr × Obj)} (_ : Fr g L h m) (_ : News g L h (q1 :: q2 :: q3 :: q4 :: (src, so) :: T)) := ValP g L m (fun o => q1 :: q2 :: q3 :: q4 :: (src, o) :: T)
theorem uvw_of {v : Value} {i : Nat} {a b c : Str} {t u x : Tok} (h : [Value.str a t, .str b u, .str c x][i]? = some v) : ∃ y z, v = .str y z ∧ y ∈ [a, b, c] := by
  have h := List.mem_of_getElem? h
  simp only [List.mem_cons, List.not_mem_nil, or_false] at h
  rcases h with rfl | rfl | rfl
  · exact ⟨_, _, rfl, .head _⟩
  · exact ⟨_, _, rfl, .tail _ (.head _)⟩
  · exact ⟨_, _, rfl, .tail _ (.tail _ (.head _))⟩
theorem draw_nm {i : Nat} {v : Value} {t0 t1 t2 t3 t4 t5 t6 : Tok} (h : [Value.str (Str.ofString "xmlns") t0, .str (Str.ofString "xmlns:p") t1, .str (Str.ofString "xmlns:q") t2, .str (Str.ofString "a") t3, .str (Str.ofString "p:a") t4, .str (Str.ofString "q:a") t5, .str (Str.ofString "p:b") t6][i]? = some v) :
    i < 7 ∧ ∃ nm t, v = .str nm t ∧ nm ∈ drawNames := by
  refine ⟨(List.getElem?_eq_some_iff.mp h).1, ?_⟩
  have h := List.mem_of_getElem? h
  simp only [List.mem_cons, List.not_mem_nil, or_false] at h
  rcases h with rfl | rfl | rfl | rfl | rfl | rfl | rfl
  all_goals exact ⟨_, _, rfl, by decide +kernel⟩
theorem draw_dec {nm : Str} (h : nm ∈ drawNames) : ((PySem.Txt.slice nm none (some 5) == Str.ofString "xmlns") = true ∧ ∃ p, (nm, p) ∈ declPairs ∧ ∀ y ∈ [Str.ofString "u", Str.ofString "v", Str.ofString "w"], (p, y) ∈ okBinds) ∨
    (PySem.Txt.slice nm none (some 5) == Str.ofString "xmlns") = false ∧ nm ∈ plainNames := by
  simp only [drawNames, List.mem_cons, List.not_mem_nil, or_false] at h
  rcases h with rfl | rfl | rfl | rfl | rfl | rfl | rfl
  · exact .inl ⟨by decide +kernel, Str.ofString "", by decide +kernel⟩
  · exact .inl ⟨by decide +kernel, Str.ofString "p", by decide +kernel⟩
  · exact .inl ⟨by decide +kernel, Str.ofString "q", by decide +kernel⟩
  all_goals exact .inr ⟨by decide +kernel, by decide +kernel⟩
theorem draw_len {nm : Str} (h : nm ∈ drawNames) : nm.length ≤ 1000 := (show ∀ a ∈ drawNames, a.length ≤ 1000 from by decide +kernel) nm h
/-- what a turn need not know -/
theorem dr_gen {g h : Heap} {L I ll fl cl src : Addr} {itO lo co so : Obj} {m₁ m₀ : Str → Option Value} {i : Nat} {s₁ : Shared} {Q : Flow → Shared → Prop} {T : List (Addr × Obj)} {X : Obj} {C : Prop} (N : News g L h ((I, itO) :: (ll, lo) :: (fl, X) :: (cl, co) :: (src, so) :: T)) (hQ : ∀ f s, PairTurn g L I itO (DrJ m₀ ll fl cl src lo i) s₁ f s → Q f s)
    (F : Fr g L h m₁) (hm : ∀ y, ([Str.ofString "value"] : List Str).contains y = false → m₁ y = m₀ y) (ha : m₀ (Str.ofString "found") = some (.ref fl)) (hb : m₀ (Str.ofString "source") = some (.ref src))
    (k : ∀ lo m₀, News g L h ((I, itO) :: (ll, lo) :: (fl, X) :: (cl, co) :: (src, so) :: T) → Fr g L h (fun z => if z = Str.ofString "found" then some (.ref fl) else if z = Str.ofString "source" then some (.ref src) else m₁ z) → (∀ y, ([Str.ofString "value"] : List Str).contains y = false → (if y = Str.ofString "found" then some (.ref fl) else if y = Str.ofString "source" then some (.ref src) else m₁ y) = m₀ y) → (∀ f s, PairTurn g L I itO (DrJ m₀ ll fl cl src lo i) s₁ f s → Q f s) → C) : C := by
  have e := two_top ((hm _ rfl).trans ha) ((hm _ rfl).trans hb)
  refine k lo m₀ N (by rw [← e]; exact F) (fun y hy => ?_) hQ
  exact (congrFun e y).symm.trans (hm y hy)
set_option maxHeartbeats 4000000 in
theorem drawnSpec {w : World} {p : Program} {loose : List Str} {mean : ExcName → Option Value} {mg mb : Str → Option Value} {dp un : Nat} {gd : Option (List Code)} {outer : List Env} {base g : Heap} {s : Shared} {R : Result → Shared → Prop}
    {src : Addr} {so : Obj} (G : Gd w p loose mean mg mb 8 dp un gd outer base g s) (N : Sep g s.heap [(src, so)]) (hso : SrcO so)
    (hret : ∀ ro fs n T l so' h' tk, (∀ q ∈ l, PairOk q) → l.length ≤ 64 → PairsIn T fs l → (ro, tupO fs n) ∈ T → ApartT T src → SrcO so' → g.StaysIn h' → Sep g h' ((src, so') :: T) → R (.ok (.ret (.ref ro))) { s with heap := h', toks := tk }) :
    codeAny (model PySem.Challenge.rw_nu0058_01.row.prog w) (Ar dp un gd outer) (.call (.ref 251) ⟨[.ref src], []⟩) R s := by
  have X := G.X
  have T := G.T
  obtain ⟨B, XB, TB, full, st, sz, hdp, hun⟩ := G
  have hfill : (PySem.Challenge.rw_nu0058_01.row.prog = PySem.Challenge.rw_nu0058_01.row.prog) ∧ (hd.heap_39 = hd.heap_39) → True := fun _ => trivial
  revert hfill; k_fill; intro hfill; clear hfill
  refine' enterSC ?k1 ?k2 ?k3 ?k4 ?k5 ?kN ?k6 ?k7 ?k8 ?k9 ?kB ?kD ?_ ?c2 ?c3 ?c4
  (case k1 => assumption)
  (case k2 => assumption)
  (case k3 => assumption)
  (case k4 => assumption)
  (case k5 => assumption)
  (case kN => assumption)
  (case k6 => k_is)
  (case k7 => k_is)
  (case k8 => k_room)
  (case k9 => first | exact BindsTo.of_eq rfl | exact binds_K (X.keeps st) rfl (by k_is) rfl rfl rfl)
  (case kB => exact rfl)
  (case kD => decide +kernel)
  (case c2 => exact rfl)
  (case c3 => exact rfl)
  (case c4 => exact rfl)
  k_whole
  intro L' h' tk' cells' F' N' Y' l1; (try k_lt l1); k_cells Y'; (try dsimp only [List.cons_append, List.nil_append] at N'); (try dsimp only); (try k_fold)
  refine wpAny_noRaise ?_
  have lc : ∀ p ∈ _, Prod.fst p < L' + 1 := fun p m => Nat.lt_succ_of_lt (l1 p m)
  w_strict k_steps
  all_goals (try dsimp only)
  (rename Fr _ _ _ _ => F1); (rename News _ _ _ _ => N1); (rename Obj.data _ = _ => c1)
  refine' seq_iter rfl (by kfm_turns) F1 N1 (DrJof F1 N1) ?h0 ?hJ0 ?turn ?done
  case h0 => exact ⟨_, [], _, _, _, [], [], rfl, c1, hso, .nil, Nat.le_refl _, (fun _ h => nomatch h), (fun _ h => nomatch h), (fun _ h => nomatch h), (fun _ h => nomatch h), (fun _ h => nomatch h), fun _ _ => rfl⟩
  case hJ0 =>
    rintro i m' news' ⟨_, _, _, _, _, _, _, rfl, _⟩
    exact .head _
  case turn =>
    rintro i v m₁ news₁ I itO h₁ tk₁ hv ⟨so, fs, k, co, cv, T, l, rfl, hco, hso, hfs, hll, hok, a1, a2, a3, a4, hm⟩ hI F2 N2
    obtain ⟨hi, nm, t, rfl, hnm⟩ := draw_nm hv
    clear hv
    have hz1 : fs.length ≤ 64 := by rw [hfs.length]; omega
    have hnl := draw_len hnm
    refine hideT fun Q hQ => dr_gen N2 hQ F2 hm rfl rfl ?_
    clear hQ N2 F2 hm F1 N1 c1
    intro lo m₀ N2 F2 hm hQ
    dsimp only
    w_strict k_steps
    all_goals (try dsimp only)
    · (rename Fr _ _ _ _ => F5); (rename News _ _ _ _ => N5)
      refine cutE (ValOf F5 N5 nm s) ?ca ?cb
      case ca =>
        clear hQ
        dsimp only [ValOf]
        rcases draw_dec hnm with ⟨hx, p, hp, hy⟩ | ⟨hx, hp⟩
        · refine wpAny_Assign_Name (hs := by with_unfolding_all rfl) ?_
          w_strict k_steps
          all_goals (try dsimp only)
          (rename Fr _ _ _ _ => F6); (rename News _ _ _ _ => N6); (rename GetElem?.getElem? _ _ = some _ => hvO)
          obtain ⟨y, z, rfl, hyz⟩ := uvw_of hvO
          exact ⟨_, _, _, y, z, rfl, F6, newsPerm N6 fun q hq => .tail _ hq, by assumption, pok_decl p hp (hy y hyz)⟩
        · refine wpAny_Assign_Name (hs := by with_unfolding_all rfl) ?_
          w_strict k_steps
          all_goals (try dsimp only)
          (rename Fr _ _ _ _ => F6); (rename News _ _ _ _ => N6)
          exact ⟨_, _, _, _, _, rfl, F6, N6, by assumption, pok_plain hp (by decide +kernel)⟩
      case cb =>
        dsimp only [ValOf]
        clear F5 N5
        rintro s' ⟨h6, tk6, so6, y, u, rfl, F6, N6, hso6, hpk⟩
        by_cases hx : nm = Str.ofString "xmlns"
        · subst hx
          w_strict k_steps
          all_goals (try dsimp only)
          all_goals ((rename Fr _ _ _ _ => F7); (rename News _ _ _ _ => N7); (try simp only [List.push_toArray] at N7); refine hQ _ _ ?_)
          · exact dr_add F7 N7 hI (by assumption) (by assumption) hfs hll hok (pok_decl (Str.ofString "") (by decide +kernel) (by decide +kernel)) a1 a2 a3 a4 (by assumption) (val_off hm)
          · exact dr_add F7 N7 hI (by assumption) (by assumption) hfs hll hok hpk a1 a2 a3 a4 (by assumption) (val_off hm)
        · have hx := beq_false_of_ne hx
          w_strict k_steps
          all_goals (try dsimp only)
          (rename Fr _ _ _ _ => F7); (rename News _ _ _ _ => N7); (try simp only [List.push_toArray] at N7)
          exact hQ _ _ (dr_add F7 N7 hI (by assumption) (by assumption) hfs hll hok hpk a1 a2 a3 a4 (by assumption) (val_off hm))
    · (rename Fr _ _ _ _ => F5); (rename News _ _ _ _ => N5)
      exact hQ _ _ (dr_none F5 N5 hI (by assumption) (by assumption) hfs hll hok a1 a2 a3 a4 hm)
  case done =>
    rintro h4 tk4 m4 news4 F4 N4 ⟨so, fs, k, co, cv, T, l, rfl, hco, hso, hfs, hll, hok, a1, a2, a3, a4, hm⟩
    have hll7 : l.length ≤ 7 := hll
    have hk := keepN_of hm
    rw [hk] at F4
    dsimp only [keepN, DrJof] at F4 ⊢
    clear F1 N1
    have hz1 : fs.length ≤ 64 := by rw [hfs.length]; omega
    w_strict k_steps
    all_goals (try dsimp only)
    · (rename Fr _ _ _ _ => F5); (rename News _ _ _ _ => N5); (rename GetElem?.getElem? _ _ = some _ => hvO)
      have hvP := List.mem_of_getElem? hvO
      obtain ⟨D9, x9, y9, t9, u9, n9, rfl, hN9, hok9, n91, n92, n93⟩ := odd_pick (T := T) (fs := fs) (k := k) N5 (by kfm_turns) (show (_, co) ∈ _ by kfm_turns) hco (show (src, _) ∈ _ by kfm_turns) (by assumption) (fun q hq => by kfm_turns)
        (odd_of hvP (by kfm_turns) (by kfm_turns) (by kfm_turns) (by kfm_turns) (by kfm_turns) (by kfm_turns) (by kfm_turns) (by kfm_turns) (by kfm_turns))
      clear N5
      w_strict k_steps
      all_goals (try dsimp only)
      (rename Fr _ _ _ _ => F6); (rename News _ _ _ _ => N6); (rename Obj.data _ = _ => c6)
      refine LCt.CompSrcT.ledger rfl F6 N6 (by kfm_turns) (by size_fits) fun g' => ?_
      refine comp_filter hfs (fun q => decide (q.1 ≠ x9)) ?_ ?_ ?_ ?_
      · exact .inr ⟨_, by kfm_turns, rfl, _, rfl⟩
      · intro i a x y t u n I oI C oC D m₂ ys h tk E' ha hm hoC hx F7 N7 off ne
        have N8 : News g _ _ ((a, tupO [.str x t, .str y u] n) :: _) := fun q hq => by
          rcases List.mem_cons.mp hq with rfl | hq
          · exact N7 _ (by kfm_turns)
          · exact N7 _ hq
        simp only [LCg.Off3, and_true] at off
        w_strict k_steps
        all_goals (try dsimp only)
        refine ⟨?_, _, _, rfl, F7, N7⟩
        by_cases hxx : x = x9 <;> simp [hxx]
      · intro i a x y t u n I oI C oC D m₂ ys h tk E' ha hm hoC hx F7 N7 off ne
        simp only [LCg.Off3] at off
        w_strict k_steps
        all_goals (try dsimp only)
        exact ⟨rfl, _, _, rfl, F7, N7⟩
      · intro ys hys D8 h8 tk8 F8 N8 off8
        simp only [LCg.Off1] at off8
        have hz8 : ys.length ≤ 64 := by
          rw [hys.length]
          exact Nat.le_trans (List.length_filter_le ..) (by omega)
        w_strict k_steps
        all_goals (try dsimp only)
        (rename Fr _ _ _ _ => F9); (rename News _ _ _ _ => N9)
        obtain ⟨T9, z1, z2, z3, z4⟩ := dr_end2 (T := T) (n := 0) (k := 0) N9 (.head _) (.tail _ (.tail _ (.tail _ (.head _)))) (show (src, _) ∈ _ by kfm_turns) (by assumption) (fun q hq => by kfm_turns) a4 hys
        refine hret _ _ _ _ _ _ _ _ (ok_snoc (fun q hq => hok q (List.mem_filter.mp hq).1) hok9) ?_ z1 z2 z3 (by assumption) F9.keep z4
        have := List.length_filter_le (fun q : Str × Str => decide (q.1 ≠ x9)) l
        simp only [List.length_append, List.length_singleton]
        omega
    · (rename Fr _ _ _ _ => F9); (rename News _ _ _ _ => N9)
      obtain ⟨z1, z2⟩ := dr_end (X := T) (n := 0) N9 (.head _) (show (src, _) ∈ _ by kfm_turns) (by assumption) (fun q hq => by kfm_turns) a4
      exact hret _ _ _ _ _ _ _ _ hok (by omega) (hfs.mono fun q hq => .tail _ hq) (.head _) z1 (by assumption) F9.keep z2
end part18_drawn
theorem off_part19_wrong : True := by w_top off; trivial
def okW : List (Str × Str) := [(Str.ofString "xmlns", Str.ofString "u"), (Str.ofString "xmlns", Str.ofString "v"), (Str.ofString "xmlns", Str.ofString "w"), (Str.ofString "xmlns", Str.ofString ""),
  (Str.ofString "xmlns:p", Str.ofString "u"), (Str.ofString "xmlns:p", Str.ofString "v"), (Str.ofString "xmlns:p", Str.ofString "w"), (Str.ofString "xmlns:q", Str.ofString "u"), (Str.ofString "xmlns:q", Str.ofString "v"), (Str.ofString "xmlns:q", Str.ofString "w"), (Str.ofString "xmlns:xml", XMLU)]
def badW : List (Str × Str) := [(Str.ofString "xmlns:p", Str.ofString ""), (Str.ofString "xmlns:xmlns", Str.ofString "u"), (Str.ofString "xmlns:xml", Str.ofString "u"), (Str.ofString "xmlns:r", XMLU), (Str.ofString "xmlns:r", XMLNSU), (Str.ofString "xmlns", XMLNSU), (Str.ofString "xmlns", XMLU), (Str.ofString "xmlns:xml", XMLNSU)]
theorem okW_of {x p v : Str} (hx : (x, p) ∈ declPairs) (hv : (p, v) ∈ okBinds) : (x, v) ∈ okW :=
  (show ∀ a ∈ declPairs, ∀ b ∈ okBinds, a.2 = b.1 → (a.1, b.2) ∈ okW from by decide +kernel) _ hx _ hv rfl
theorem badW_of {x p v : Str} (hx : (x, p) ∈ declPairs) (hv : (p, v) ∈ badBinds) : (x, v) ∈ badW :=
  (show ∀ a ∈ declPairs, ∀ b ∈ badBinds, a.2 = b.1 → (a.1, b.2) ∈ badW from by decide +kernel) _ hx _ hv rfl
theorem okW_facts {x v : Str} (h : (x, v) ∈ okW) : (x == Str.ofString "xmlns:xmlns") = false ∧ (((x == Str.ofString "xmlns:xml") = true ∧ (v != Str.ofString "http://www.w3.org/XML/1998/namespace") = false) ∨
    ((x == Str.ofString "xmlns:xml") = false ∧ ([Str.ofString "http://www.w3.org/XML/1998/namespace", Str.ofString "http://www.w3.org/2000/xmlns/"].any fun z => z == v) = false ∧ ((x != Str.ofString "xmlns") = false ∨ ((x != Str.ofString "xmlns") = true ∧ (v == Str.ofString "") = false)))) :=
  (show ∀ q ∈ okW, (q.1 == Str.ofString "xmlns:xmlns") = false ∧ (((q.1 == Str.ofString "xmlns:xml") = true ∧ (q.2 != Str.ofString "http://www.w3.org/XML/1998/namespace") = false) ∨
    ((q.1 == Str.ofString "xmlns:xml") = false ∧ ([Str.ofString "http://www.w3.org/XML/1998/namespace", Str.ofString "http://www.w3.org/2000/xmlns/"].any fun z => z == q.2) = false ∧ ((q.1 != Str.ofString "xmlns") = false ∨ ((q.1 != Str.ofString "xmlns") = true ∧ (q.2 == Str.ofString "") = false)))) from by decide +kernel) (x, v) h
theorem badW_facts {x v : Str} (h : (x, v) ∈ badW) : (x == Str.ofString "xmlns:xmlns") = true ∨ ((x == Str.ofString "xmlns:xmlns") = false ∧ (((x == Str.ofString "xmlns:xml") = true ∧ (v != Str.ofString "http://www.w3.org/XML/1998/namespace") = true) ∨
    ((x == Str.ofString "xmlns:xml") = false ∧ (([Str.ofString "http://www.w3.org/XML/1998/namespace", Str.ofString "http://www.w3.org/2000/xmlns/"].any fun z => z == v) = true ∨ (([Str.ofString "http://www.w3.org/XML/1998/namespace", Str.ofString "http://www.w3.org/2000/xmlns/"].any fun z => z == v) = false ∧ (x != Str.ofString "xmlns") = true ∧ (v == Str.ofString "") = true))))) :=
  (show ∀ q ∈ badW, (q.1 == Str.ofString "xmlns:xmlns") = true ∨ ((q.1 == Str.ofString "xmlns:xmlns") = false ∧ (((q.1 == Str.ofString "xmlns:xml") = true ∧ (q.2 != Str.ofString "http://www.w3.org/XML/1998/namespace") = true) ∨
    ((q.1 == Str.ofString "xmlns:xml") = false ∧ (([Str.ofString "http://www.w3.org/XML/1998/namespace", Str.ofString "http://www.w3.org/2000/xmlns/"].any fun z => z == q.2) = true ∨ (([Str.ofString "http://www.w3.org/XML/1998/namespace", Str.ofString "http://www.w3.org/2000/xmlns/"].any fun z => z == q.2) = false ∧ (q.1 != Str.ofString "xmlns") = true ∧ (q.2 == Str.ofString "") = true))))) from by decide +kernel) (x, v) h
set_option maxHeartbeats 8000000 in
theorem wrongOk {x v : Str} {t u : Tok} (h : (x, v) ∈ okW) : PureC 3 246 [.str x t, .str v u] (.bool false) := by
  intro w p loose mean mg mb dp un gd outer base g s R G hret
  have X := G.X
  have T := G.T
  obtain ⟨B, XB, TB, full, st, sz, hdp, hun⟩ := G
  have N : Sep g s.heap [] := Sep.nil
  have hfill : (PySem.Challenge.rw_nu0058_01.row.prog = PySem.Challenge.rw_nu0058_01.row.prog) ∧ (hd.heap_39 = hd.heap_39) → True := fun _ => trivial
  revert hfill; k_fill; intro hfill; clear hfill
  refine' enterS ?k1 ?k2 ?k3 ?k4 ?k5 ?kN ?k6 ?k7 ?k8 ?k9 ?kB ?_ ?c5 ?c2 ?c3 ?c4
  (case k1 => assumption)
  (case k2 => assumption)
  (case k3 => assumption)
  (case k4 => assumption)
  (case k5 => assumption)
  (case kN => assumption)
  (case k6 => k_is)
  (case k7 => k_is)
  (case k8 => k_room)
  (case k9 => first | exact BindsTo.of_eq rfl | exact binds_K (X.keeps st) rfl (by k_is) rfl rfl rfl)
  (case c5 => decide)
  (case kB => exact locs rfl)
  (case c2 => exact rfl)
  (case c3 => exact rfl)
  (case c4 => exact rfl)
  k_whole
  intro L' h' F' N' l1; (try k_lt l1); (try dsimp only); (try k_fold)

  obtain ⟨f1, hc⟩ := okW_facts h
  rcases hc with ⟨f2, f3⟩ | ⟨f2, f3, f5⟩
  · w_strict k_steps
    all_goals (try dsimp only)
    all_goals exact pure_end hret (congrArg Value.bool (by simp only [f1, f3])) (Fr.keep (by assumption))
  · rcases f5 with f5 | ⟨f5, f6⟩
    all_goals (
      w_strict k_steps
      all_goals (try dsimp only))
    all_goals exact pure_end hret (congrArg Value.bool (by first | assumption | simp only [f1, f3, f5])) (Fr.keep (by assumption))
set_option maxHeartbeats 8000000 in
theorem wrongBad {x v : Str} {t u : Tok} (h : (x, v) ∈ badW) : PureC 3 246 [.str x t, .str v u] (.bool true) := by
  intro w p loose mean mg mb dp un gd outer base g s R G hret
  have X := G.X
  have T := G.T
  obtain ⟨B, XB, TB, full, st, sz, hdp, hun⟩ := G
  have N : Sep g s.heap [] := Sep.nil
  have hfill : (PySem.Challenge.rw_nu0058_01.row.prog = PySem.Challenge.rw_nu0058_01.row.prog) ∧ (hd.heap_39 = hd.heap_39) → True := fun _ => trivial
  revert hfill; k_fill; intro hfill; clear hfill
  refine' enterS ?k1 ?k2 ?k3 ?k4 ?k5 ?kN ?k6 ?k7 ?k8 ?k9 ?kB ?_ ?c5 ?c2 ?c3 ?c4
  (case k1 => assumption)
  (case k2 => assumption)
  (case k3 => assumption)
  (case k4 => assumption)
  (case k5 => assumption)
  (case kN => assumption)
  (case k6 => k_is)
  (case k7 => k_is)
  (case k8 => k_room)
  (case k9 => first | exact BindsTo.of_eq rfl | exact binds_K (X.keeps st) rfl (by k_is) rfl rfl rfl)
  (case c5 => decide)
  (case kB => exact locs rfl)
  (case c2 => exact rfl)
  (case c3 => exact rfl)
  (case c4 => exact rfl)
  k_whole
  intro L' h' F' N' l1; (try k_lt l1); (try dsimp only); (try k_fold)

  rcases badW_facts h with f1 | ⟨f1, ⟨f2, f3⟩ | ⟨f2, f3 | ⟨f3, f4, f5⟩⟩⟩
  all_goals (
    w_strict k_steps
    all_goals (try dsimp only))
  all_goals exact pure_end hret (congrArg Value.bool (by first | assumption | simp only [f1, f3])) (Fr.keep (by assumption))
theorem off_part20_exp : True := by w_top off; trivial
section
variable {w : World} {A : Around} {E : Value → Shared → Prop} {s : Shared} {d : Addr} {D : List (Str × Str)} {x : Str} {t : Tok}
theorem notInS {b : Bool} {Q : Value → Shared → Prop} (T : DictAt w s.heap d D) (e : (look D x).isSome = b) (h : Q (.bool (!b)) { s with toks := s.toks + 1 }) : wpAny (model PySem.Challenge.rw_nu0058_01.row.prog w) A (compareOp .NotIn (.str x t) (.ref d)) Q E s := by
  obtain ⟨kvs, hd, hs⟩ := T.at
  refine wpAny_notIn_of (knd := strKind _ _) (strKind_is _ _ _ _) T.1 hd.mapOf ?_
  have : (valueAt kvs x).isSome = b := by
    rw [← e]
    cases h : look D x with
    | none => rw [(hs.at x).2 h]; rfl
    | some v => obtain ⟨u, z⟩ := (hs.at x).1 v h; rw [z]; rfl
  rw [this]; exact h
end
section part20_exp
local macro_rules | `(tactic| walk_at "compareOp NotIn str ref") => `(tactic| ((with_reducible refine' notInS ?T ?e ?_); k_dflt (walk_at "T"; (case e => assumption); k_whole)))
theorem sne0 : (Str.ofString "p" = Str.ofString "") = False := eq_false (by decide)
theorem sne1 : (Str.ofString "q" = Str.ofString "") = False := eq_false (by decide)
theorem sne2 : (Str.ofString "r" = Str.ofString "") = False := eq_false (by decide)
theorem sne3 : (Str.ofString "xmlns" = Str.ofString "") = False := eq_false (by decide)
theorem sne4 : (Str.ofString "p" = Str.ofString "xmlns") = False := eq_false (by decide)
theorem sne5 : (Str.ofString "q" = Str.ofString "xmlns") = False := eq_false (by decide)
theorem sne6 : (Str.ofString "r" = Str.ofString "xmlns") = False := eq_false (by decide)
theorem sne7 : (Str.ofString "" = Str.ofString "xmlns") = False := eq_false (by decide)
theorem split_parts {x y z : Str} (h : (x, y, z) ∈ splitTriples) : (PySem.Txt.rpartition x (Str.ofString ":")).1 = y ∧ (PySem.Txt.rpartition x (Str.ofString ":")).2.2 = z :=
  (show ∀ q ∈ splitTriples, (PySem.Txt.rpartition q.1 (Str.ofString ":")).1 = q.2.1 ∧ (PySem.Txt.rpartition q.1 (Str.ofString ":")).2.2 = q.2.2 from by decide +kernel) (x, y, z) h
local macro_rules | `(tactic| walk_at "call builtin:str.rpartition") => `(tactic| refine hold ?_)
/-- what the law's own expansion answers -/
def ExpPost (g : Heap) (o : Option (Str × Str)) (v : Value) (h' : Heap) : Prop :=
  match o with
  | none => ∃ t, v = .str (Str.ofString "refused") t
  | some (u, l) => ∃ r t t' n, v = .ref r ∧ Sep g h' [(r, tupO [.str u t, .str l t'] n)]
theorem exp_none {g h' : Heap} {o : Option (Str × Str)} {t : Tok} (e : o = none) : ExpPost g o (.str (Str.ofString "refused") t) h' := by subst e; exact ⟨t, rfl⟩
theorem exp_some {g h' : Heap} {L r : Addr} {o : Option (Str × Str)} {u l : Str} {t t' : Tok} (N : News g L h' [(r, ({ cls := .type "tuple", data := .seq #[.str u t, .str l t'] } : Obj))]) (e : o = some (u, l)) : ExpPost g o (.ref r) h' := by
  subst e
  exact ⟨r, t, t', 0, rfl, fun q hq => by rw [List.mem_singleton.mp hq]; exact ⟨(N _ (.head _)).1, (N _ (.head _)).2.2⟩⟩
set_option maxHeartbeats 8000000 in
theorem expSpec {w : World} {p : Program} {loose : List Str} {mean : ExcName → Option Value} {mg mb : Str → Option Value} {dp un : Nat} {gd : Option (List Code)} {outer : List Env} {base g : Heap} {s : Shared} {R : Result → Shared → Prop}
    {d : Addr} {x y z : Str} {t : Tok} {b : Bool} {D : List (Str × Str)} (G : Gd w p loose mean mg mb 4 dp un gd outer base g s) (hD : DictAt w base d D) (hx : (x, y, z) ∈ splitTriples)
    (hret : ∀ v h' tk, g.StaysIn h' → ExpPost g (resOf D y z b) v h' → R (.ok (.ret v)) { s with heap := h', toks := tk }) :
    codeAny (model PySem.Challenge.rw_nu0058_01.row.prog w) (Ar dp un gd outer) (.call (.ref 258) ⟨[.ref d, .str x t, .bool b], []⟩) R s := by
  obtain ⟨hp1, hp3⟩ := split_parts hx
  obtain ⟨hxl, hyl⟩ := split_len hx
  have hlk : (look D y = none ∧ (look D y).isSome = false) ∨ ∃ v, look D y = some v ∧ (look D y).isSome = true := by
    cases look D y with
    | none => exact .inl ⟨rfl, rfl⟩
    | some v => exact .inr ⟨v, rfl, rfl⟩
  have X := G.X
  have T := G.T
  obtain ⟨B, XB, TB, full, st, sz, hdp, hun⟩ := G
  have N : Sep g s.heap [] := Sep.nil
  have hDg := hD.keep B.stays
  have hfill : (PySem.Challenge.rw_nu0058_01.row.prog = PySem.Challenge.rw_nu0058_01.row.prog) ∧ (hd.heap_39 = hd.heap_39) → True := fun _ => trivial
  revert hfill; k_fill; intro hfill; clear hfill
  refine' enterS ?k1 ?k2 ?k3 ?k4 ?k5 ?kN ?k6 ?k7 ?k8 ?k9 ?kB ?_ ?c5 ?c2 ?c3 ?c4
  (case k1 => assumption)
  (case k2 => assumption)
  (case k3 => assumption)
  (case k4 => assumption)
  (case k5 => assumption)
  (case kN => assumption)
  (case k6 => k_is)
  (case k7 => k_is)
  (case k8 => k_room)
  (case k9 => first | exact BindsTo.of_eq rfl | exact binds_K (X.keeps st) rfl (by k_is) rfl rfl rfl)
  (case c5 => decide)
  (case kB => exact locs rfl)
  (case c2 => exact rfl)
  (case c3 => exact rfl)
  (case c4 => exact rfl)
  k_whole
  intro L' h' F' N' l1; (try k_lt l1); (try dsimp only); (try k_fold)
  refine wpAny_noRaise ?_
  w_strict k_steps
  all_goals (try dsimp only)
  (rename Fr _ _ _ _ => F2); (rename News _ _ _ _ => N2)
  refine KXpa.rpartition F2 N2 (by decide) hp1 rfl hp3 (by rw [sizeLine_eq]; omega) ?_
  intro D' ta tb tc h3 k3 F3 N3 l3
  clear F2 N2
  cases hyx : y == Str.ofString "xmlns" with
  | true =>
    have ey : y = Str.ofString "xmlns" := by simpa using hyx
    w_strict k_steps
    all_goals (try dsimp only)
    (rename Fr _ _ _ _ => F5)
    exact hret _ _ _ F5.keep (exp_none (by rw [ey]; simp [resOf, uriOf, sne3]))
  | false =>
    have ey : y ≠ Str.ofString "xmlns" := by simpa using hyx
    cases hy0 : y == Str.ofString "" with
    | false =>
      have hy1 : (y != Str.ofString "") = true := by simp [bne, hy0]
      have e0 : y ≠ Str.ofString "" := by simpa using hy0
      rcases hlk with ⟨e, e'⟩ | ⟨v, e, e'⟩
      · w_strict k_steps
        all_goals (try dsimp only)
        (rename Fr _ _ _ _ => F5)
        exact hret _ _ _ F5.keep (exp_none (by simp [resOf, uriOf, e, ey, e0, sne7]))
      · w_strict k_steps
        all_goals (try dsimp only)
        (rename Fr _ _ _ _ => F5); (rename News _ _ _ _ => N5)
        exact hret _ _ _ F5.keep (exp_some (fun q hq => N5 q (by rw [List.mem_singleton.mp hq]; exact .head _)) (by simp [resOf, uriOf, e, ey, e0, sne7]))
    | true =>
      have hy1 : (y != Str.ofString "") = false := by simp [bne, hy0]
      have e0 : y = Str.ofString "" := by simpa using hy0
      cases b with
      | true =>
        w_strict k_steps
        all_goals (try dsimp only)
        (rename Fr _ _ _ _ => F5); (rename News _ _ _ _ => N5)
        exact hret _ _ _ F5.keep (exp_some (fun q hq => N5 q (by rw [List.mem_singleton.mp hq]; exact .head _)) (by simp [resOf, e0]))
      | false =>
        rcases hlk with ⟨e, e'⟩ | ⟨v, e, e'⟩
        · have e1 := e
          rw [e0] at e1
          w_strict k_steps
          all_goals (try dsimp only)
          (rename Fr _ _ _ _ => F5); (rename News _ _ _ _ => N5)
          exact hret _ _ _ F5.keep (exp_some (fun q hq => N5 q (by rw [List.mem_singleton.mp hq]; exact .head _)) (by simp [resOf, uriOf, e1, e0, sne7]))
        · have e1 := e
          rw [e0] at e1
          w_strict k_steps
          all_goals (try dsimp only)
          (rename Fr _ _ _ _ => F5); (rename News _ _ _ _ => N5)
          exact hret _ _ _ F5.keep (exp_some (fun q hq => N5 q (by rw [List.mem_singleton.mp hq]; exact .head _)) (by simp [resOf, uriOf, e1, e0, sne7]))
end part20_exp
theorem off_part21_lam : True := by w_top off; trivial
section
variable {prog : Program} {w : World} {A : Around} {s : Shared} {base g : Heap} {outer : List Env} {news : List (Addr × Obj)} {p : Program} {loose : List Str} {mean : ExcName → Option Value} {mg mb : Str → Option Value}
  {R : Result → Shared → Prop} {name qual : Str} {params : Arguments} {body : List Stmt} {scope : Scope} {cl : List (Str × Addr)} {dV kV doc pm cdv ct : Value} {an : Option Addr} {f : Addr} {fo : Obj} {args : Args} {binds : List (Str × Value)}
/-- into a def or lambda that has a closure -/
theorem enterSL (B : Below A base outer g) (T : Top p loose mean mg mb g) (st : g.StaysIn s.heap) (sz : g.objs.size ≤ s.heap.objs.size) (N : Sep g s.heap news)
    (ho : g.get? f = some fo) (hd : fo.data = .func (fnX name qual params body scope cl dV kV doc pm an cdv ct)) (hcd : s.heap.CodeRec cdv qual) (hroom : A.depth < recursionLimit)
    (hbind : BindsTo s (fnX name qual params body scope cl dV kV doc pm an cdv ct) args binds) (hloc : ∀ y ∈ binds, scope.names.lookup y.1 = some .local)
    (h : ∀ L' h₁, Fr g L' h₁ (fun y => binds.reverse.lookup y) → News g L' h₁ news → (∀ p ∈ news, p.1 < L') →
      wpAny (model prog w) (A.deeper (envX qual scope L' f cdv cl)) (execs body (envX qual scope L' f cdv cl))
        (fun fl s' => R (.ok (.ret (match fl with | .ret v => v | _ => .none))) s')
        (fun e s' => wpAny (model prog w) (A.deeper (envX qual scope L' f cdv cl)) (leaving (envX qual scope L' f cdv cl) e) (fun _ s'' => R (.error e) s'') (fun e' s'' => R (.error e') s'') s')
        { s with heap := h₁, toks := s.toks + binds.length })
    (hcell : ∀ x ∈ scope.names, x.2 ≠ .cell) (hco : scope.isCoroutine = false := by rfl) (hgen : scope.isGenerator = false := by rfl) (hk : scope.kind = .function := by rfl) : codeAny (model prog w) A (.call (.ref f) args) R s := by
  have _ := B.stack
  refine codeAny_call_def (fd := fnX name qual params body scope cl dV kV doc pm an cdv ct) (body := body) (binds := binds) hroom (st _ _ ho) hd (T.nolimit.keeps st) hcd rfl hbind hcell hloc (fun h₁ hns hk₁ => ?_) hco hgen hk
  exact h s.heap.objs.size h₁ ⟨hns, fun b o e => hk₁ b o (st b o e), sz⟩ (fun p hp => ⟨hk₁ _ _ (N p hp).1, Nat.ne_of_lt (Heap.lt_size (N p hp).1), (N p hp).2⟩) (fun p hp => Heap.lt_size (N p hp).1)
/-- a free name whose cell stands in the base -/
theorem nameFree {M : Model} {E : Value → Shared → Prop} {h₀ : Heap} {L a c : Addr} {m : Str → Option Value} {cn x : Str} {cs : Scope} {ccd v : Value} {pos : Pos} {Q : Value → Shared → Prop} {o : Obj} (F : Fr h₀ L s.heap m) (hc : cl.lookup x = some c) (hv : h₀.get? c = some o) (hd : o.data = .cell (some v)) (h : Q v s)
    (hk : cs.kind = .function := by rfl) (hx : (envX cn cs L a ccd cl).kindOf x = some .free := by rfl) (hb : (x == ("__debug__" : Str)) = false := by decide) (hn : (x == ("__classdict__" : Str)) = false := by decide) :
    wpAny M A (eval (.Name x pos) (envX cn cs L a ccd cl)) Q E s := wpAny_Name (wpAny_loadName_free hk hx hc ⟨_, F.keep _ _ hv, hd⟩ h hn) hb
end
theorem off_part22_compw : True := by w_top off; trivial
section
variable {prog : Program} {w : World} {A : Around} {E : Value → Shared → Prop} {s : Shared} {h₀ : Heap} {L : Addr} {m : Str → Option Value} {env : Env}
/-- a comprehension with one test over anything that walks -/
theorem ListComp_W {ct elt iter : PySem.Expr} {x : Str} {px : Pos} {scope : Scope} {cl : List (Str × Addr)} {pos : Pos} {Q : Value → Shared → Prop} (_F₀ : Fr h₀ L s.heap m)
    (hclos : closureFor scope env = pure cl) (hcell : ∀ y ∈ scope.names, y.2 ≠ .cell) (hkind : scope.kind = .function)
    (hnames : ∀ y ∈ scope.names, y.2 = .local → scope.names.lookup y.1 = some .local) (hx : scope.names.lookup x = some .local)
    (h : wpAny (model prog w) A (eval iter env) (fun xv s₁ => wpAny (model prog w) A (pyIter xv) (fun it s₂ => ∃ (I : Addr) (fp : List Addr) (n : Nat) (P : Nat → Value → Prop) (St : Nat → Heap → Prop) (S : List (Addr × Obj) → Prop) (news : List (Addr × Obj)),
      it = .ref I ∧ Walks prog w A I fp [I] n P St ∧ n ≤ sizeLine ∧ (∀ i h, St i h → ∃ o, h.get? I = some o) ∧
      (∀ i h h' o nw, St i h → h.get? I = some o → h'.get? I = some o → (∀ b o, h₀.get? b = some o → h'.get? b = some o) → News h₀ L h' nw → S nw → St i h') ∧ St 0 s₂.heap ∧ (∀ b ∈ fp, b < s₂.heap.objs.size) ∧
      Fr h₀ L s₂.heap m ∧ News h₀ L s₂.heap news ∧ L ≠ I ∧ h₀.get? I = none ∧ (∀ p ∈ news, p.1 ≠ I) ∧ S news ∧ LCt.CompRestT prog w A h₀ L m env ct elt x scope cl s₂ S P (LCg.FinE h₀ L m s₂ Q) n 0 [] news) E s₁) E s)
    (hs : ∀ x, foldedSetIterable iter env x = pure x := by intro _; rfl) :
    wpAny (model prog w) A (eval (.ListComp elt [⟨.Name x px, iter, [ct], 0⟩] scope pos) env) Q E s := by
  rw [eval_ListComp]
  refine wpAny_comprehension_free (use := none) rfl hs hclos hkind hnames (wpAny_mono h (fun xv s₁ h₁ => wpAny_mono h₁ (fun it s₂ h₂ => ?_) fun _ _ e => e) fun _ _ e => e)
  obtain ⟨I, fp, n, P, St, S, news, rfl, W, hsz, hIo, hSt, hst, hfp, F, N, hIL, hI0, off, hS, R⟩ := h₂
  refine LCt.block_T W hsz hIo hSt hcell hkind hx hst hfp F N hIL hI0 off hS R ?_
  intro D C h' tk m' ys news' F' N' o1 hn hC0 hD0 hCL hDL hCD offC fin
  refine ⟨m', hn, fun h'' hs'' => fin D h'' tk (F'.change hs'' hCL hC0) (fun p hp => ?_) o1⟩
  refine ⟨hs''.extBut _ _ ?_ (N' p hp).1, (N' p hp).2⟩
  rcases List.mem_cons.mp hp with rfl | hp
  · exact Ne.symm hCD
  · exact offC p hp
end
theorem off_part23_keys : True := by w_top off; trivial
section
variable {w : World} {A : Around} {E : Value → Shared → Prop} {s : Shared} {h₀ : Heap} {L d : Addr} {m : Str → Option Value} {env : Env} {news : List (Addr × Obj)} {D : List (Str × Str)}
/-- the keys of a dict of the base, as a comprehension's source -/
theorem keys_src {ct elt : PySem.Expr} {x : Str} {scope : Scope} {cl : List (Str × Addr)} {Q : Value → Shared → Prop} (hh : A.handled = none) (T : DictAt w h₀ d D) (F : Fr h₀ L s.heap m) (N : News h₀ L s.heap news) (hz : D.length ≤ sizeLine)
    (rest : ∀ h, LCt.CompRestT PySem.Challenge.rw_nu0058_01.row.prog w A h₀ L m env ct elt x scope cl { s with heap := h } (fun _ => True) (fun i v => ∃ k y t, D[i]? = some (k, y) ∧ v = .str k t) (LCg.FinE h₀ L m { s with heap := h } Q) D.length 0 [] news) :
    wpAny (model PySem.Challenge.rw_nu0058_01.row.prog w) A (pyIter (.ref d)) (fun it s₂ => ∃ (I : Addr) (fp : List Addr) (n : Nat) (P : Nat → Value → Prop) (St : Nat → Heap → Prop) (S : List (Addr × Obj) → Prop) (news : List (Addr × Obj)),
      it = .ref I ∧ Walks PySem.Challenge.rw_nu0058_01.row.prog w A I fp [I] n P St ∧ n ≤ sizeLine ∧ (∀ i h, St i h → ∃ o, h.get? I = some o) ∧
      (∀ i h h' o nw, St i h → h.get? I = some o → h'.get? I = some o → (∀ b o, h₀.get? b = some o → h'.get? b = some o) → News h₀ L h' nw → S nw → St i h') ∧ St 0 s₂.heap ∧ (∀ b ∈ fp, b < s₂.heap.objs.size) ∧
      Fr h₀ L s₂.heap m ∧ News h₀ L s₂.heap news ∧ L ≠ I ∧ h₀.get? I = none ∧ (∀ p ∈ news, p.1 ≠ I) ∧ S news ∧ LCt.CompRestT PySem.Challenge.rw_nu0058_01.row.prog w A h₀ L m env ct elt x scope cl s₂ S P (LCg.FinE h₀ L m s₂ Q) n 0 [] news) E s := by
  obtain ⟨kvs, hd0, hsv⟩ := T.at
  obtain ⟨ep, hat0⟩ := hd0.dictAt
  have hat := dictAt_up hat0 F.keep
  have hlen := hsv.length
  refine wpAny_pyIter_dict (knd := strKind PySem.Challenge.rw_nu0058_01.row.prog w) T.1 hat ?_
  have hne : d ≠ s.heap.objs.size := Nat.ne_of_lt hat.lt_size
  have W := (Walks.dictKeys (prog := PySem.Challenge.rw_nu0058_01.row.prog) (w := w) (knd := strKind PySem.Challenge.rw_nu0058_01.row.prog w) hh s.heap.objs.size d hne kvs ep).weaken (P' := fun i v => ∃ k y t, D[i]? = some (k, y) ∧ v = .str k t) (by
    rintro i v ⟨k, xv, hx, hkey⟩
    obtain ⟨y, u, _, hD⟩ := hsv.get hx
    obtain ⟨t, rfl⟩ := Value.isStrOf_shape hkey
    exact ⟨k, y, t, hD, rfl⟩)
  rw [hlen] at W
  refine ⟨s.heap.objs.size, _, D.length, _, _, fun _ => True, news, rfl, W, hz, fun i h st => ?_, fun i h h' o nw st e1 e2 k _ _ => ?_, ⟨?_, ?_⟩, fun b hb => ?_, F.push _, (fun p hp => ⟨Heap.get?_push_of_some _ (N p hp).1, (N p hp).2⟩), Nat.ne_of_lt F.ns.lt, next_is_new F, fun p hp => Nat.ne_of_lt (Heap.lt_size (N p hp).1), trivial, rest _⟩
  · obtain ⟨⟨o, ho, _⟩, _⟩ := st
    exact ⟨o, ho⟩
  · exact ⟨st.1.at fun o' e => by rw [e1] at e; cases e; exact e2, dictAt_up hat0 k⟩
  · rw [← hlen]; exact ⟨_, Heap.get?_push_size _ rfl, rfl, rfl⟩
  · exact hat.push _
  · show b < (s.heap.push _).objs.size
    rw [Heap.size_push]
    rcases List.mem_cons.mp hb with rfl | hb
    · exact Nat.lt_succ_self _
    · rw [List.mem_singleton.mp hb]; exact Nat.lt_succ_of_lt hat.lt_size
end
theorem off_part24_compnew : True := by w_top off; trivial
/-- the element of a comprehension is a fresh pair -/
inductive PairNew (h₀ : Heap) (L : Addr) (m : Str → Option Value) (s : Shared) (news : List (Addr × Obj)) (x y : Str) (r : Value) (s' : Shared) : Prop
  | mk (a t u n h' tk' : _) (_ : r = .ref a) (_ : s' = { s with heap := h', toks := tk' }) (_ : Fr h₀ L h' m) (_ : News h₀ L h' ((a, tupO [.str x t, .str y u] n) :: news)) (_ : ∀ p ∈ news, p.1 ≠ a) : PairNew h₀ L m s news x y r s'
section
variable {prog : Program} {w : World} {A : Around} {h₀ : Heap} {L : Addr} {m : Str → Option Value} {env : Env} {ct elt : PySem.Expr} {xn : Str} {scope : Scope} {cl : List (Str × Addr)} {s : Shared} {S : List (Addr × Obj) → Prop} {Fin : List Value → List (Addr × Obj) → Prop}
  {l : List (Str × Str)} {news : List (Addr × Obj)} {P : Nat → Value → Prop}
/-- `[(f q) for q in l if ct]` with fresh pairs -/
theorem comp_new (Is : Str × Str → Value → Prop) (hP : ∀ i v, P i v → ∃ q, l[i]? = some q ∧ Is q v) (pz : Str × Str → Bool) (f : Str × Str → Str × Str) (hS : ∀ X, S (news ++ X))
    (turn : ∀ q v X I oI C oC D m₂ ys h tk (E' : Value → Shared → Prop), q ∈ l → Is q v → LCg.NsObj oC m₂ → m₂ xn = some v → Fr h₀ L h m → News h₀ L h ((I, oI) :: (C, oC) :: (D, LCg.lst ys) :: (news ++ X)) → LCg.Off3 I C D (news ++ X) →
      ((@Ne Nat I C) ∧ (@Ne Nat I D) ∧ (@Ne Nat C D)) → wpAny (model prog w) A (isTrue ct (compEnvC scope cl C env) (eval ct (compEnvC scope cl C env))) (TestIs h₀ L m s ((I, oI) :: (C, oC) :: (D, LCg.lst ys) :: (news ++ X)) (pz q)) E' { s with heap := h, toks := tk })
    (telt : ∀ q v X I oI C oC D m₂ ys h tk (E' : Value → Shared → Prop), q ∈ l → Is q v → LCg.NsObj oC m₂ → m₂ xn = some v → Fr h₀ L h m → News h₀ L h ((I, oI) :: (C, oC) :: (D, LCg.lst ys) :: (news ++ X)) → LCg.Off3 I C D (news ++ X) →
      ((@Ne Nat I C) ∧ (@Ne Nat I D) ∧ (@Ne Nat C D)) → pz q = true → wpAny (model prog w) A (eval elt (compEnvC scope cl C env)) (PairNew h₀ L m s ((I, oI) :: (C, oC) :: (D, LCg.lst ys) :: (news ++ X)) (f q).1 (f q).2) E' { s with heap := h, toks := tk })
    (fin : ∀ ys X, PairsIn X ys ((l.filter pz).map f) → Fin ys (news ++ X)) :
    LCt.CompRestT prog w A h₀ L m env ct elt xn scope cl s S P Fin l.length 0 [] news := by
  have key : ∀ (j i : Nat) (ys : List Value) (X : List (Addr × Obj)), i + j = l.length → PairsIn X ys (((l.take i).filter pz).map f) → LCt.CompRestT prog w A h₀ L m env ct elt xn scope cl s S P Fin j i ys (news ++ X) := by
    intro j
    induction j with
    | zero =>
      intro i ys X hi hys
      rw [Nat.add_zero] at hi
      rw [hi, List.take_length] at hys
      exact LCt.CompRestT.zero (fin ys X hys)
    | succ j ih =>
      intro i ys X hi hys
      refine LCt.CompRestT.succ ?_
      intro v I oI C oC D m₂ h tk E' hPv hoC hx F N off ne
      obtain ⟨q, hl, hq⟩ := hP i v hPv
      have hm : q ∈ l := List.mem_of_getElem? hl
      have hs : l.take (i + 1) = l.take i ++ [q] := by rw [List.take_add_one, hl]; rfl
      refine wpAny_mono (turn q v X I oI C oC D m₂ ys h tk E' hm hq hoC hx F N off ne) (fun ok s' z => ?_) fun _ _ e => e
      obtain ⟨rfl, h', tk', rfl, F', N'⟩ := z
      cases hb : pz q with
      | true =>
        simp only [if_true]
        refine wpAny_mono (telt q v X I oI C oC D m₂ ys h' tk' E' hm hq hoC hx F' N' off ne hb) (fun r s'' z => ?_) fun _ _ e => e
        obtain ⟨a, t, u, n, h'', tk'', rfl, rfl, F'', N'', ap⟩ := z
        have c1 := ap _ (.head _)
        have c2 := ap _ (.tail _ (.head _))
        have c3 := ap _ (.tail _ (.tail _ (.head _)))
        have offm := off.mem
        refine ⟨h'', tk'', news ++ (a, tupO [.str (f q).1 t, .str (f q).2 u] n) :: X, rfl, F'', newsPerm N'' fun p hp => ?_, LCg.Off3.of fun p hp => ?_, hS ((a, tupO [.str (f q).1 t, .str (f q).2 u] n) :: X), ?_⟩
        · simp only [List.mem_cons, List.mem_append] at hp ⊢
          rcases hp with h | h | h | h | h | h <;> simp only [h, true_or, or_true]
        · rcases List.mem_append.mp hp with hp | hp
          · exact offm p (List.mem_append_left _ hp)
          · rcases List.mem_cons.mp hp with rfl | hp
            · exact ⟨Ne.symm c1, Ne.symm c2, Ne.symm c3⟩
            · exact offm p (List.mem_append_right _ hp)
        · refine ih (i + 1) _ ((a, tupO [.str (f q).1 t, .str (f q).2 u] n) :: X) (by omega) ?_
          rw [hs, List.filter_append, List.map_append]
          simpa [hb] using PairsIn.snoc (a := a) (x := (f q).1) (y := (f q).2) (t := t) (u := u) (n := n) hys
      | false =>
        simp only [Bool.false_eq_true, if_false]
        exact ⟨h', tk', news ++ X, rfl, F', N', off, hS X, ih (i + 1) _ X (by omega) (by rw [hs, List.filter_append]; simpa [hb] using hys)⟩
  have := key l.length 0 [] [] (by omega) .nil
  rw [List.append_nil] at this
  exact this
end
theorem off_part24b_dictof : True := by w_top off; trivial
/-- `dict(a list of pairs of texts)` -/
theorem dp_keys_miss : typeLookup (.type "list") (Str.ofString "keys") = pure none := am_miss_of_fast (by decide +kernel)
theorem dp_plain_loop : plainId "dict.update.loop" = true := by decide +kernel
theorem dp_entry_loop : entryFor table "dict.update.loop" = some Builtin.«dict.update.loop» := entryFor_of_fast (by kernel_rfl)
section
variable {prog : Program} {w : World} {A : Around} {E : Value → Shared → Prop} {s : Shared}
theorem dp_attr_miss {a : Addr} {xs : Array Value} {k : Nat} {Q : Option Value → Shared → Prop} (hx : s.heap.get? a = some (listOf xs k)) (hA : A.handled = none)
    (h : ∀ h' tk, s.heap.StaysIn h' → Q none { s with heap := h', toks := tk }) : wpAny (model prog w) A (getAttr? (.ref a) (Str.ofString "keys")) Q E s := by
  obtain ⟨hp, g, d, tk, os⟩ := s
  have hT : ∀ tk', (⟨hp, g, d, tk', os⟩ : Shared).TypeIs (.ref a) "list" := fun _ => ⟨_, hx, rfl⟩
  have f1 := sub_AttributeError
  have f3 := PySem.F.slot_list_getattribute.lookup
  have f4 := PySem.F.slot_list_getattribute.bind (.ref a)
  have f5 := am_list_getattr_none
  unfold getAttr? getAttrBy? getAttrBy
  repeat (any_goals (first | assumption | exact hT _ | ((with_reducible show wpAny _ _ (call (Value.builtin "list.__getattribute__") _ _) _ _ _); refine call_meets PySem.F.slot_list_getattribute (hT _) am_entry_list_getattribute (PySem.F.args_list_getattribute_2 _ _) (meets_getattribute_miss_list a xs k #[] (Str.ofString "keys") _ dp_keys_miss (by decide +kernel) (by size_fits)) ⟨hx, hA, fun h' tk' e hx' => ?_⟩) | wp_step))
  obtain ⟨t', u', he⟩ := hx'.there
  show wpAny _ _ (getattributeRaised _ _ _ _ _ _ _) _ _ _
  unfold getattributeRaised
  repeat (any_goals (first | assumption | wp_step))
  exact h _ _ hx'.keeps
end
theorem PairsAt.but {h h' : Heap} {vs : List Value} {l : List (Str × Str)} (x : PairsAt h vs l) (k : ∀ a o, .ref a ∈ vs → h.get? a = some o → h'.get? a = some o) : PairsAt h' vs l := by
  induction x with
  | nil => exact .nil
  | cons e _ ih => exact .cons (k _ _ (.head _) e) (ih fun a o ha => k a o (.tail _ ha))
theorem PairsAt.mem {h : Heap} {vs : List Value} {l : List (Str × Str)} (x : PairsAt h vs l) : ∀ a, .ref a ∈ vs → ∃ o, h.get? a = some o := by
  induction x with
  | nil => exact fun _ h => nomatch h
  | cons e _ ih =>
    intro a ha
    rcases List.mem_cons.mp ha with q | ha
    · cases q; exact ⟨_, e⟩
    · exact ih a ha
section
variable {w : World} {A : Around} {E : Value → Shared → Prop} {s : Shared}
theorem dp_loop {R : Result → Shared → Prop} {I r d : Addr} {vs : List Value} {l : List (Str × Str)} (hh : A.handled = none) (hIr : r ≠ I) (hdI : d ≠ I) (hdr : d ≠ r) (hl : vs.length = l.length) (hz : l.length ≤ 1000) (hT : ∀ a, .ref a ∈ vs → a ≠ I ∧ a ≠ d) :
    ∀ (k i : Nat) (s : Shared) (kvs : List (Str × Value)), l.length - i = k → i ≤ l.length → s.heap.IsListIter I r i → s.heap.IsList r vs.toArray → PairsAt s.heap vs l → s.heap.DictOf (strKind PySem.Challenge.rw_nu0058_01.row.prog w) d kvs → SV kvs (puts [] (l.take i)) →
    (∀ h' tk kvs', (∀ b o, b ≠ I → b ≠ d → s.heap.get? b = some o → h'.get? b = some o) → h'.DictOf (strKind PySem.Challenge.rw_nu0058_01.row.prog w) d kvs' → SV kvs' (puts [] l) → R (.ok (.ret .none)) { s with heap := h', toks := tk }) →
    codeAny (model PySem.Challenge.rw_nu0058_01.row.prog w) A (.builtin "dict.update.loop" ⟨[.ref d, .ref I, .int i 0, .none], []⟩) R s := by
  have W := Walks.list (prog := PySem.Challenge.rw_nu0058_01.row.prog) (w := w) (A := A.in1) hh I r hIr vs.toArray
  have hlen : vs.toArray.size = l.length := by simp [hl]
  rw [hlen] at W
  intro k
  induction k with
  | zero =>
    intro i s kvs hk hi hit hls hps hd hsv hR
    have hin : i = l.length := by omega
    subst hin
    refine codeAny_builtin dp_entry_loop ?_
    rw [Around.under_plainId dp_plain_loop _]
    show wpAny _ A.in1 (pyNext (.ref I) >>= _) _ _ s
    refine wpAny_bind (W.done s _ _ ⟨hit, hls⟩ fun h' tk hm => ?_)
    rw [List.take_length] at hsv
    refine wpAny_bind (wpAny_pure ?_)
    exact wpAny_pure (hR h' tk kvs (fun b o hb _ e => hm b o (by simpa using hb) e) (hd.at fun o e => hm _ o (by simpa using hdI) e) hsv)
  | succ k ih =>
    intro i s kvs hk hi hit hls hps hd hsv hR
    have hlt : i < l.length := by omega
    refine codeAny_builtin dp_entry_loop ?_
    rw [Around.under_plainId dp_plain_loop _]
    show wpAny _ A.in1 (pyNext (.ref I) >>= _) _ _ s
    refine wpAny_bind (W.item i s _ _ hlt ⟨hit, hls⟩ fun v h₁ tk₁ hP st₁ hm => ?_)
    obtain ⟨a, x, y, t, u, n, rfl, ha, hg⟩ := hps.get (by simpa using hP)
    have haI : a ≠ I ∧ a ≠ d := hT a (List.mem_of_getElem? (by simpa using hP))
    replace ha := hm _ _ (by simpa using haI.1) ha
    have hd₁ : h₁.DictOf (strKind PySem.Challenge.rw_nu0058_01.row.prog w) d kvs := hd.at fun o e => hm _ o (by simpa using hdI) e
    have hT1 : (⟨h₁, s.gens, s.drawn, tk₁, s.os⟩ : Shared).TypeIs (.ref a) "tuple" := ⟨_, ha, rfl⟩
    dsimp only
    refine wpAny_bind (wpAny_holding (wpAny_bind (wpAny_tryCatch ?_)))
    unfold Builtin.Dict.pairItems
    refine wpAny_bind (wpAny_typeOf hT1 ?_)
    rw [if_pos (by decide)]
    refine wpAny_bind (wpAny_seqItems ha rfl ?_)
    refine wpAny_pure ?_
    show wpAny _ _ (holding [Value.str x t, Value.str y u] (dictSet d (.str x t) (.str y u))) _ _ _
    have hkl : kvs.length ≤ 1000 := by
      have h1 := hsv.length
      have h2 := puts_len (l.take i) []
      have h3 : (l.take i).length ≤ l.length := List.length_take_le' ..
      simp only [List.length_nil, Nat.zero_add] at h2
      omega
    refine wpAny_holding (wpAny_dictSet_pairs (knd := strKind PySem.Challenge.rw_nu0058_01.row.prog w) (k := x) (strKind_is _ _ _ _) hd₁ (fun h₂ hd₂ hs₂ => ?_) (by rw [sizeLine_eq]; omega))
    refine wpAny_pure ⟨plainId_quiet dp_plain_loop _, ?_⟩
    have up : ∀ b o, b ≠ I → b ≠ d → s.heap.get? b = some o → h₂.get? b = some o := fun b o hb hb' e => (hs₂.2 b hb').trans (hm b o (by simpa using hb) e)
    have hs : l.take (i + 1) = l.take i ++ [(x, y)] := by rw [List.take_add_one, hg]; rfl
    refine ih (i + 1) _ (stored kvs x (.str y u)) (by omega) hlt (st₁.1.at fun o e => (hs₂.2 _ (Ne.symm hdI)).trans e) (st₁.2.at fun o e => (hs₂.2 _ (Ne.symm hdr)).trans e)
      (hps.but fun b o hb e => up b o (hT b hb).1 (hT b hb).2 e) hd₂ (by rw [hs, puts_snoc]; exact hsv.stored x y u) fun h' tk kvs' k1 k2 k3 => ?_
    exact hR h' tk kvs' (fun b o hb hb' e => k1 b o hb hb' (up b o hb hb' e)) k2 k3
theorem dictPairs {h₀ : Heap} {L r : Addr} {m : Str → Option Value} {news T : List (Addr × Obj)} {vs : List Value} {l : List (Str × Str)} {n : Nat} {Q : Value → Shared → Prop} (hh : A.handled = none)
    (F : Fr h₀ L s.heap m) (N : News h₀ L s.heap news) (hbig : sysModules < h₀.objs.size) (hr : (r, listOf vs.toArray n) ∈ news) (hps : PairsIn T vs l) (hT : ∀ q ∈ T, q ∈ news) (hz : l.length ≤ 1000)
    (h : ∀ d h' tk o, Fr h₀ L h' m → News h₀ L h' ((d, o) :: news) → (∀ p ∈ news, p.1 < d) → (d == sysModules) = false → DictS w o (puts [] l) → Q (.ref d) { s with heap := h', toks := tk }) :
    wpAny (model PySem.Challenge.rw_nu0058_01.row.prog w) A (call (.type "dict") [.ref r]) Q E s := by
  refine callType_codes (Q₁ := fun obj s₁ => obj = .ref s.heap.objs.size ∧ s₁ = { s with heap := s.heap.push { cls := .type "dict", data := .dict #[] } }) PySem.F.kt_called_dict (PySem.F.kt_typeCall_dict_1 _) PySem.F.entry_dict_init (kt_code_dict_new _ ⟨rfl, rfl⟩) ?_
  rintro obj s₁ ⟨rfl, rfl⟩
  have hnew : (s.heap.push { cls := .type "dict", data := .dict #[] }).DictOf (strKind PySem.Challenge.rw_nu0058_01.row.prog w) s.heap.objs.size [] := Heap.DictOf.new s.heap
  refine ⟨hnew.typeIs, PySem.F.args_dict_init_2 _ _, ?_⟩
  have hps' : PairsAt s.heap vs l := hps.at fun q hq => (N q (hT q hq)).1
  have hr₁ : (s.heap.push { cls := .type "dict", data := .dict #[] }).get? r = some (listOf vs.toArray n) := Heap.get?_push_of_some _ (N _ hr).1
  have hrT : (⟨s.heap.push { cls := .type "dict", data := .dict #[] }, s.gens, s.drawn, s.toks, s.os⟩ : Shared).TypeIs (.ref r) "list" := ⟨_, hr₁, rfl⟩
  unfold Builtin.«dict.__init__»
  refine wpAny_bind ?_
  unfold Builtin.Dict.selfAndRest
  refine wpAny_bind (wpAny_notOrdered_dict hnew.typeIs ?_)
  show wpAny _ _ (pure (s.heap.objs.size, [Value.ref r])) _ _ _
  refine wpAny_pure ?_
  show wpAny _ _ (Builtin.Dict.updateFrom "dict.__init__" s.heap.objs.size (.ref r) [] .none) _ _ _
  unfold Builtin.Dict.updateFrom
  refine wpAny_bind (wpAny_typeOf hrT ?_)
  rw [if_pos (by decide)]
  refine wpAny_bind (dp_attr_miss hr₁ hh fun h₂ tk₂ st₂ => ?_)
  rw [if_pos (by decide)]
  refine wpAny_bind (wpAny_rule ?_)
  have old : ∀ b o, s.heap.get? b = some o → h₂.get? b = some o := fun b o e => st₂ b o (Heap.get?_push_of_some _ e)
  have hr₂ := old _ _ (N _ hr).1
  have hd₂ : h₂.DictOf (strKind PySem.Challenge.rw_nu0058_01.row.prog w) s.heap.objs.size [] := hnew.at fun o e => st₂ _ _ e
  have hdlt : s.heap.objs.size < h₂.objs.size := Heap.lt_size (st₂ _ _ (Heap.get?_push_size _ rfl))
  have hrlt := Heap.lt_size hr₂
  refine wpAny_bind (wpAny_pyIter_list (items := vs.toArray) ⟨_, hr₂, rfl, n, rfl⟩ ?_)
  refine wpAny_pure ⟨plainId_quiet dp_plain_loop _, ?_⟩
  have hIt : (h₂.push { cls := .type "list_iterator", data := .fields #[.ref r, .int 0 0] }).IsListIter h₂.objs.size r 0 := ⟨_, Heap.get?_push_size _ rfl, rfl, rfl⟩
  refine dp_loop (I := h₂.objs.size) (r := r) (vs := vs) (l := l) (A := A.in1) hh (Nat.ne_of_lt hrlt) (Nat.ne_of_lt hdlt) (Ne.symm (Nat.ne_of_lt (Heap.lt_size (N _ hr).1))) hps.length hz (fun a ha => ?_) _ 0 _ [] rfl (Nat.zero_le _) hIt
    ⟨_, Heap.get?_push_of_some _ hr₂, rfl, n, rfl⟩ (hps'.keep fun b o e => Heap.get?_push_of_some _ (old b o e)) (hd₂.push _) .nil fun h' tk kvs' k1 k2 k3 => ⟨rfl, ?_⟩
  · obtain ⟨o, e⟩ := hps'.mem a ha
    exact ⟨Nat.ne_of_lt (Heap.lt_size (old _ _ e)), Nat.ne_of_lt (Heap.lt_size e)⟩
  · obtain ⟨o', ho', hd'⟩ := Heap.dictOf_iff.mp k2
    have up : s.heap.StaysIn h' := fun b o e => k1 b o (Nat.ne_of_lt (Heap.lt_size (old _ _ e))) (Nat.ne_of_lt (Heap.lt_size e)) (Heap.get?_push_of_some _ (old _ _ e))
    refine h _ h' tk o' (F.keeps up) (fun q hq => ?_) (fun p hp => Heap.lt_size (N p hp).1) (F.notModules hbig) ⟨kvs', hd', k3⟩
    rcases List.mem_cons.mp hq with rfl | hq
    · exact ⟨ho', Nat.ne_of_gt F.ns.lt, next_is_new F⟩
    · exact ⟨up _ _ (N q hq).1, (N q hq).2⟩
end
theorem off_part24c_dicteq : True := by w_top off; trivial
theorem put_keys_nodup {D : List (Str × Str)} (h : (D.map (·.1)).Nodup) (k v : Str) : ((put D k v).map (·.1)).Nodup := by
  unfold put
  split
  · have : (D.map fun q => if q.1 = k then (q.1, v) else q).map (·.1) = D.map (·.1) := by
      rw [List.map_map]
      refine List.map_congr_left fun q _ => ?_
      simp only [Function.comp]
      split <;> rfl
    rw [this]; exact h
  · rename_i hn
    rw [List.map_append, List.nodup_append]
    refine ⟨h, by simp, fun a ha b hb => ?_⟩
    simp only [List.map_cons, List.map_nil, List.mem_singleton] at hb
    rw [hb]
    rintro rfl
    obtain ⟨q, hq, e⟩ := List.mem_map.mp ha
    exact hn (List.any_eq_true.mpr ⟨q, hq, decide_eq_true e⟩)
theorem puts_keys_nodup : ∀ (l D : List (Str × Str)), (D.map (·.1)).Nodup → ((puts D l).map (·.1)).Nodup
  | [], _, h => h
  | q :: l, D, h => puts_keys_nodup l (put D q.1 q.2) (put_keys_nodup h q.1 q.2)
theorem look_mem : ∀ {D : List (Str × Str)}, (D.map (·.1)).Nodup → ∀ {k v : Str}, (k, v) ∈ D → look D k = some v
  | [], _, _, _, hm => nomatch hm
  | q :: D, h, k, v, hm => by
    rw [List.map_cons, List.nodup_cons] at h
    unfold look
    rw [List.find?_cons]
    rcases List.mem_cons.mp hm with rfl | hm
    · simp
    · have : q.1 ≠ k := by
        rintro rfl
        exact h.1 (List.mem_map.mpr ⟨_, hm, rfl⟩)
      simp only [this, decide_false]
      exact look_mem h.2 hm
/-- two dicts that hold the same are not unequal -/
theorem sv_hits {A : Around} {s : Shared} {D : List (Str × Str)} {kb : List (Str × Value)} (hb : SV kb D) (hn : (D.map (·.1)).Nodup) : ∀ {ka : List (Str × Value)} {D' : List (Str × Str)}, SV ka D' → (∀ q ∈ D', q ∈ D) → KeqHits A s kb ka true := by
  intro ka D' ha
  induction ha with
  | nil => exact fun _ => .nil
  | @cons k v t kvs D' _ ih =>
    intro hs
    obtain ⟨u, e⟩ := (hb.at k).1 v (look_mem hn (hs _ (.head _)))
    exact .hit (e := true) (b := true) e (by have := SeqAt.EqAt.str_str (A := A) (s := s) v t v u; simpa using this) (ih fun q hq => hs q (.tail _ hq))
theorem dict_same {w : World} {A : Around} {E : Value → Shared → Prop} {s : Shared} {a b : Addr} {D : List (Str × Str)} {Q : Value → Shared → Prop} (ha : DictAt w s.heap a D) (hb : DictAt w s.heap b D) (hn : (D.map (·.1)).Nodup) (hu : A.units < cLine) (h : Q (.bool false) s) :
    wpAny (model PySem.Challenge.rw_nu0058_01.row.prog w) A (compareOp .NotEq (.ref a) (.ref b)) Q E s := by
  obtain ⟨ka, da, sa⟩ := ha.at
  obtain ⟨kb, db, sb⟩ := hb.at
  refine keq_ne ha.1 hb.1 da db hu (fun _ => sv_hits sb hn sa fun _ h => h) ?_
  rw [sa.length, sb.length, beq_self_eq_true]
  exact h
theorem off_part26_ground : True := by w_top off; trivial
/-- a ground that may stand in g's place: the frames below have been noted -/
structure GR (A : Around) (base g : Heap) (outer : List Env) (g' : Heap) : Prop where
  size : g'.objs.size = g.objs.size
  none : ∀ b, g.get? b = .none → g'.get? b = .none
  B : Below A base outer g'
  full : ∀ b o, g'.get? b = some o → b ∉ frs outer → base.get? b = some o
  kept : ∀ h, Kept base g' outer h → Kept base g outer h
theorem GR.refl {A : Around} {base g : Heap} {outer : List Env} (B : Below A base outer g) (full : ∀ b o, g.get? b = some o → b ∉ frs outer → base.get? b = some o) : GR A base g outer g := ⟨rfl, fun _ h => h, B, full, fun _ h => h⟩
theorem GR.trans {A : Around} {base g g' g'' : Heap} {outer : List Env} (x : GR A base g outer g') (y : GR A base g' outer g'') : GR A base g outer g'' :=
  ⟨y.size.trans x.size, fun b h => y.none b (x.none b h), y.B, y.full, fun h k => x.kept h (y.kept h k)⟩
section
variable {A₀ : Around} {base h₀ h' : Heap} {s : Shared} {outer : List Env} {env : Env} {L : Addr} {m : Str → Option Value} {news S S' : List (Addr × Obj)}
/-- behind a call that has kept all but the frames -/
theorem kept_back (B : Below A₀ base outer h₀) (full : ∀ b o, h₀.get? b = some o → b ∉ frs outer → base.get? b = some o) (F : Fr h₀ L s.heap m) (N : News h₀ L s.heap news) (hf : env.frame = some L) (hS : ∀ q ∈ S, q ∈ news)
    (hk : Kept (subB s S env outer) (subG s S) (env :: outer) h') :
    ∃ g', GR A₀ base h₀ outer g' ∧ Fr g' L h' m ∧ (∀ rest, (∀ q ∈ rest, q ∈ news ∧ ∀ p ∈ S, p.1 ≠ q.1) → News g' L h' rest) ∧ ∀ S', Sep (subG s S) h' S' → News g' L h' S' := by
  have inS : ∀ b o, h₀.get? b = some o → ∀ q ∈ S, q.1 ≠ b := fun b o hb q hq e => by
    have := (N q (hS q hq)).2.2; rw [e, hb] at this; cases this
  have hfm : frs (env :: outer) = L :: frs outer := by show List.filterMap _ _ = _; rw [List.filterMap_cons, hf]
  have Lnone : h₀.get? L = none := by
    cases e : h₀.get? L with
    | none => rfl
    | some o => exact absurd (Nat.lt_of_lt_of_le (Heap.lt_size e) F.above) (Nat.lt_irrefl _)
  have kept : Kept base h₀ outer h' := by
    refine ⟨fun b o hb => hk.1 _ _ (hideAll_get _ (sub_get (F.keep _ _ (B.stays _ _ hb)) (inS _ _ (B.stays _ _ hb))) fun hm => ?_), fun b hb o ho => ?_⟩
    · rw [hfm] at hm
      rcases List.mem_cons.mp hm with e | hm
      · have := B.stays _ _ hb; rw [e, Lnone] at this; cases this
      · rw [(B.frames.mem hm).1] at hb; cases hb
    · exact hk.2 b (by rw [hfm]; exact .tail _ hb) o (sub_get (F.keep _ _ ho) (inS _ _ ho))
  obtain ⟨g', z1, z2, z3, z4, z5, z6⟩ := turned B full kept
  have F' : Fr g' L h' m := by
    refine ⟨?_, z3, by rw [z1]; exact F.above⟩
    obtain ⟨oL, es, ep, hL, hd, r⟩ := F.ns
    obtain ⟨sl, e⟩ := hk.2 L (by rw [hfm]; exact .head _) oL (sub_get hL fun q hq => (N q (hS q hq)).2.1)
    exact ⟨_, es, ep, e, hd, r⟩
  refine ⟨g', ⟨z1, z2, z4, z5, z6⟩, F', fun rest hr q hq => ?_, fun S' hs q hq => ?_⟩
  · obtain ⟨hq1, hq2⟩ := hr q hq
    exact ⟨hk.1 _ _ (sub_at B N hf hq1 hq2), (N q hq1).2.1, z2 _ (N q hq1).2.2⟩
  · refine ⟨(hs q hq).1, fun e => ?_, ?_⟩
    · obtain ⟨oL, es, ep, hL, r⟩ := F.ns
      have := (hs q hq).2
      rw [e, show (subG s S).get? L = some oL from sub_get hL fun p hp => (N p (hS p hp)).2.1] at this
      cases this
    · cases hz : h₀.get? q.1 with
      | none => exact z2 _ hz
      | some o =>
        have := (hs q hq).2
        rw [stays_sub F (fun q hq => N q (hS q hq)) _ _ hz] at this
        cases this
end
inductive TurnG (A₀ : Around) (base g : Heap) (outer : List Env) (L I : Addr) (itO : Obj) (J : (Str → Option Value) → List (Addr × Obj) → Prop) (s₁ : Shared) (f : Flow) (s₂ : Shared) : Prop
  | mk (_ : f = .next) (g' h' tk m' news' : _) (_ : s₂ = { s₁ with heap := h', toks := tk }) (_ : GR A₀ base g outer g') (_ : Fr g' L h' m') (_ : News g' L h' ((I, itO) :: news')) (_ : (∀ p ∈ news', p.1 ≠ I)) (_ : J m' news') : TurnG A₀ base g outer L I itO J s₁ f s₂
theorem turnG_up {α : Type} {M : Model} {A A₀ : Around} {base g : Heap} {outer : List Env} {L I : Addr} {itO : Obj} {J : (Str → Option Value) → List (Addr × Obj) → Prop} {s s₁ : Shared} {E : Value → Shared → Prop} {h : Heap} {tk : Nat} {c : Sem α} {d : α → Sem Flow}
    (x : wpAny M A c (fun a s₃ => wpAny M A (d a) (TurnG A₀ base g outer L I itO J s) E s₃) E s₁) : wpAny M A c (fun a s₃ => wpAny M A (d a) (TurnG A₀ base g outer L I itO J { s with heap := h, toks := tk }) E s₃) E s₁ :=
  wpAny_mono x (fun _ _ y => wpAny_mono y (fun _ _ ⟨a, g', h', tk, m', n', e, b, c, d, i, j⟩ => ⟨a, g', h', tk, m', n', e, b, c, d, i, j⟩) fun _ _ e => e) fun _ _ e => e
/-- a walk by a for statement whose turns may turn the ground -/
inductive LoopG (prog : Program) (w : World) (A A₀ : Around) (base g : Heap) (outer : List Env) (env : Env) (x : Str) (px : Pos) (body : List Stmt) (Q : Flow → Shared → Prop) (E : Value → Shared → Prop) (it : Value) (s : Shared) : Prop
  | mk (I : Addr) (fp : List Addr) (n : Nat) (P : Nat → Value → Prop) (St : Nat → Heap → Prop) (m : Str → Option Value) (news : List (Addr × Obj)) (J : Nat → (Str → Option Value) → List (Addr × Obj) → Prop) (_ : it = .ref I) (_ : Walks prog w A I fp [I] n P St) (_ : env.locals ≠ I) (_ : g.get? I = none) (_ : (∀ p ∈ news, p.1 ≠ I)) (_ : St 0 s.heap) (_ : (∀ i h, St i h → ∃ o, h.get? I = some o)) (_ : (∀ i h h' o j m' news', St i h → h.get? I = some o → h'.get? I = some o → J j m' news' → (∀ p ∈ news', h'.get? p.1 = some p.2) → St i h')) (_ : GR A₀ base g outer g) (_ : Fr g env.locals s.heap m) (_ : News g env.locals s.heap news) (_ : J 0 m news) (_ : (∀ i v g₁ m₁ news₁ itO h₁ tk₁, i < n → P i v → J i m₁ news₁ → GR A₀ base g outer g₁ → (∀ p ∈ news₁, p.1 ≠ I) → Fr g₁ env.locals h₁ m₁ → News g₁ env.locals h₁ ((I, itO) :: news₁) → wpAny (model prog w) A (assign (.Name x px) env v) (fun _ s₃ => wpAny (model prog w) A (execs body env) (TurnG A₀ base g₁ outer env.locals I itO (J (i + 1)) s) E s₃) E { s with heap := h₁, toks := tk₁ })) (_ : ∀ g₁ h' tk m' news', GR A₀ base g outer g₁ → Fr g₁ env.locals h' m' → News g₁ env.locals h' news' → J n m' news' → Q .next { s with heap := h', toks := tk }) : LoopG prog w A A₀ base g outer env x px body Q E it s
inductive InvG (A₀ : Around) (base g : Heap) (outer : List Env) (L I : Addr) (n : Nat) (St : Nat → Heap → Prop) (J : Nat → (Str → Option Value) → List (Addr × Obj) → Prop) (s : Shared) (k : Nat) (s' : Shared) : Prop
  | mk (i : Nat) (h : Heap) (tk : Nat) (g' : Heap) (m' : Str → Option Value) (news' : List (Addr × Obj)) (_ : k = n + 1 - i) (_ : i ≤ n) (_ : s' = { s with heap := h, toks := tk }) (_ : St i h) (_ : GR A₀ base g outer g') (_ : Fr g' L h m') (_ : News g' L h news') (_ : ∀ p ∈ news', p.1 ≠ I) (_ : J i m' news') : InvG A₀ base g outer L I n St J s k s'
theorem LoopG.loop {prog : Program} {w : World} {A A₀ : Around} {base g : Heap} {outer : List Env} {E : Value → Shared → Prop} {s : Shared} {env : Env} {x : Str} {px : Pos} {body : List Stmt} {Q : Flow → Shared → Prop} {it : Value} (z : LoopG prog w A A₀ base g outer env x px body Q E it s) (hE : PassesOwn (model prog w) A env E) :
    codeAny (model prog w) A (.forLoop (.Name x px) it body [] env) (fun r s' => match r with | .ok f => Q f s' | .error e => cameBackBy (model prog w) A env E e s') s := by
  obtain ⟨I, fp, n, P, St, m, news, J, rfl, W, hLI, hI0, hnI, hst, hIo, hSt, gr, F, N, h0, step, hR⟩ := z
  refine codeAny_forLoop_any (InvG A₀ base g outer env.locals I n St J s) ?_ (n + 1)
    ⟨0, s.heap, s.toks, g, m, news, rfl, Nat.zero_le _, rfl, hst, gr, F, N, hnI, h0⟩
  rintro k s' ⟨i, h, tk, g', m', news', rfl, hi, rfl, hst, gr, F, N, hnI, hJ⟩
  have nxt : ∀ h₁ : Heap, (∀ b o, b ∉ [I] → h.get? b = some o → h₁.get? b = some o) → Fr g' env.locals h₁ m' ∧ News g' env.locals h₁ news' := fun h₁ k =>
    ⟨⟨F.ns.at' fun o e => k _ o (by simpa using hLI) e, fun b o e => k b o (fun z => by rw [List.mem_singleton.mp z, gr.none _ hI0] at e; cases e) (F.keep b o e), F.above⟩, fun p hp => ⟨k _ _ (by simpa using hnI p hp) (N p hp).1, (N p hp).2⟩⟩
  rcases Nat.lt_or_ge i n with hlt | hge
  · refine W.item i _ _ _ hlt hst fun v h₁ tk₁ hP hst₁ k₁ => ?_
    obtain ⟨F₁, N₁⟩ := nxt h₁ k₁
    obtain ⟨oI, hoI⟩ := hIo _ _ hst₁
    have hgo : ∀ (Q' : Unit → Shared → Prop) (E' : Value → Shared → Prop) (s' : Shared), Q' () s' → wpAny (model prog w) A (letOwnedTupleGo (.Name x px) (.ref I) v) Q' E' s' := fun Q' E' s' hq => by cases v <;> exact wpAny_pure hq
    refine wpAny_passesOwn hE (hgo _ _ _ (wpAny_passesOwn hE (wpAny_mono (step i v g' m' news' oI h₁ tk₁ hlt hP hJ gr hnI F₁ (fun p hp => ?_)) (fun _ s₂ z => ?_) fun _ _ e => e)))
    · rcases List.mem_cons.mp hp with rfl | hp
      · exact ⟨hoI, Ne.symm hLI, gr.none _ hI0⟩
      · exact N₁ p hp
    · refine wpAny_mono z (fun f s₃ z => ?_) hE
      obtain ⟨rfl, g₂, h₃, tk₃, m₂, news₂, rfl, gr₂, F₃, N₃, off₃, hJ₃⟩ := z
      exact ⟨n + 1 - (i + 1), sub_dec hlt, i + 1, h₃, tk₃, g₂, m₂, news₂, rfl, hlt, rfl, hSt _ _ _ _ _ _ _ hst₁ hoI (N₃ _ (.head _)).1 hJ₃ (fun p hp => (N₃ p (.tail _ hp)).1), gr.trans gr₂, F₃, fun p hp => N₃ p (.tail _ hp), off₃, hJ₃⟩
  · obtain rfl : i = n := Nat.le_antisymm hi hge
    refine W.done _ _ _ hst fun h₁ tk₁ k₁ => wpAny_execs_nil ?_
    obtain ⟨F₁, N₁⟩ := nxt h₁ k₁
    exact hR g' h₁ tk₁ m' news' gr F₁ N₁ hJ
theorem For_G {prog : Program} {w : World} {A A₀ : Around} {base g : Heap} {outer : List Env} {E : Value → Shared → Prop} {s : Shared} {env : Env} {x : Str} {px : Pos} {iter : PySem.Expr} {pos : Pos} {body : List Stmt} {Q : Flow → Shared → Prop} {m : Str → Option Value} (_F : Fr g env.locals s.heap m) (_B : Below A₀ base outer g)
    (h : wpAny (model prog w) A (eval iter env) (fun xv s₁ => wpAny (model prog w) A (pyIter xv) (fun it s₂ => LoopG prog w A A₀ base g outer env x px body Q E it s₂) E s₁) E s)
    (hs : ∀ x, foldedSetIterable iter env x = pure x) (hE : PassesOwn (model prog w) A env E := by passes_own) :
    wpAny (model prog w) A (exec (.For (.Name x px) iter body [] pos) env) Q E s :=
  wpAny_For (wpAny_mono h (fun _ _ h₁ => wpAny_mono h₁ (fun _ _ h₂ => h₂.loop hE) fun _ _ e => e) fun _ _ e => e) hs
section
variable {prog : Program} {w : World} {A A₀ : Around} {base g : Heap} {outer : List Env} {E : Value → Shared → Prop} {s : Shared} {env : Env} {x : Str} {px : Pos} {body : List Stmt} {Q : Flow → Shared → Prop} {r : Addr} {vs : List Value} {n : Nat}
  {m : Str → Option Value} {news : List (Addr × Obj)}
theorem seq_iterG (hh : A.handled = none) (hr : (r, listOf vs.toArray n) ∈ news) (B : Below A₀ base outer g) (full : ∀ b o, g.get? b = some o → b ∉ frs outer → base.get? b = some o) (F : Fr g env.locals s.heap m) (N : News g env.locals s.heap news)
    (J : Nat → (Str → Option Value) → List (Addr × Obj) → Prop) (h0 : J 0 m news) (hJ0 : ∀ i m' news', J i m' news' → (r, listOf vs.toArray n) ∈ news')
    (turn : ∀ i v g₁ m₁ news₁ I itO h₁ tk₁, vs[i]? = some v → J i m₁ news₁ → GR A₀ base g outer g₁ → (∀ p ∈ news₁, p.1 ≠ I) → Fr g₁ env.locals h₁ m₁ → News g₁ env.locals h₁ ((I, itO) :: news₁) →
      wpAny (model prog w) A (assign (.Name x px) env v) (fun _ s₃ => wpAny (model prog w) A (execs body env) (TurnG A₀ base g₁ outer env.locals I itO (J (i + 1)) s) E s₃) E { s with heap := h₁, toks := tk₁ })
    (done : ∀ g₁ h' tk m' news', GR A₀ base g outer g₁ → Fr g₁ env.locals h' m' → News g₁ env.locals h' news' → J vs.length m' news' → Q .next { s with heap := h', toks := tk }) :
    wpAny (model prog w) A (pyIter (.ref r)) (fun it s₂ => LoopG prog w A A₀ base g outer env x px body Q E it s₂) E s := by
  have ht : s.heap.IsList r vs.toArray := News.isList N hr
  have hne : r ≠ s.heap.objs.size := Nat.ne_of_lt (Heap.lt_size (N _ hr).1)
  refine wpAny_pyIter_list ht ?_
  have W := Walks.list (prog := prog) (w := w) hh s.heap.objs.size r hne vs.toArray
  have hlen : vs.toArray.size = vs.length := by simp
  rw [hlen] at W
  refine ⟨_, _, vs.length, _, _, m, news, J, rfl, W, Nat.ne_of_lt F.ns.lt, next_is_new F, (fun p hp => Nat.ne_of_lt (Heap.lt_size (N p hp).1)), ⟨⟨_, Heap.get?_push_size _ rfl, rfl, rfl⟩, ?_⟩, ?_, ?_, GR.refl B full, F.push _, (fun p hp => ⟨Heap.get?_push_of_some _ (N p hp).1, (N p hp).2⟩), h0, ?_, ?_⟩
  · exact ⟨_, Heap.get?_push_of_some _ (N _ hr).1, rfl, n, rfl⟩
  · rintro i h ⟨⟨o, ho, _⟩, _⟩; exact ⟨o, ho⟩
  · rintro i h h' o j m' news' ⟨st1, st2⟩ e1 e2 hJ hall
    exact ⟨st1.at fun o' e => by rw [e1] at e; cases e; exact e2, ⟨_, hall _ (hJ0 _ _ _ hJ), rfl, n, rfl⟩⟩
  · intro i v g₁ m₁ news₁ itO h₁ tk₁ hi hP hJ gr off F₁ N₁
    exact turnG_up (turn i v g₁ m₁ news₁ _ itO h₁ tk₁ (by simpa using hP) hJ gr off F₁ N₁)
  · intro g₁ h' tk m' news' gr F' N' hJ
    exact done g₁ h' tk m' news' gr F' N' hJ
end
theorem off_part27_pre : True := by w_top off; trivial
theorem itemS {w : World} {A : Around} {E : Value → Shared → Prop} {s : Shared} {d : Addr} {D : List (Str × Str)} {x v : Str} {t : Tok} {value slice : PySem.Expr} {Q : Value → Shared → Prop} (T : DictAt w s.heap d D) (e : look D x = some v) (h : ∀ u, Q (.str v u) { s with toks := s.toks + 1 })
    (hs : subscripted slice false (.ref d) (.str x t) = operate [.ref d, .str x t] (getItem (.ref d) (.str x t)) := by with_unfolding_all rfl) (hg : ∀ k, letTemporaryGo value (.ref d) k = pure () := by intro _; with_unfolding_all rfl) :
    wpAny (model PySem.Challenge.rw_nu0058_01.row.prog w) A (subscriptTail value slice (.ref d) (.str x t)) Q E s := by
  obtain ⟨kvs, hd, hs'⟩ := T.at
  obtain ⟨u, z⟩ := (hs'.at x).1 v e
  exact subscriptTail_builtin hd.typeIs PySem.slot_dict_getitem.lookup (wpAny_getItem_of (strKind_is _ _ _ _) hd.mapOf z (h u)) hs hg
theorem scope_call {w : World} {p : Program} {loose : List Str} {mean : ExcName → Option Value} {mg mb : Str → Option Value} {dp un : Nat} {gd : Option (List Code)} {outer : List Env} {A₀ : Around} {base h₀ : Heap} {s : Shared}
    {L : Addr} {m : Str → Option Value} {env : Env} {news : List (Addr × Obj)} {Q E : Value → Shared → Prop} {nm sl tl d : Addr} {ds : List Value} {n1 : Nat} {D : List (Str × Str)}
    {A : Around} (hA : A = Ar dp un gd (env :: outer)) (B : Below A₀ base outer h₀) (F : Fr h₀ L s.heap m) (N : News h₀ L s.heap news) (XB : (hd.heap_39 w.params).In base) (TB : Top p loose mean mg mb base) (hf : env.frame = some L) (hke : env.scope.kind = .function)
    (hm : (sl, listOf (ds ++ [Value.ref d]).toArray n1) ∈ news) (hn : NamesAt base nm sl tl) (hD : DictAt w base d D) (hz : D.length ≤ 1000)
    (hdp : dp + 8 < recursionLimit) (hun : un + 16 * 8 + 100 < cLine) (h : ∀ r o h' tk, Fr h₀ L h' m → News h₀ L h' ((r, o) :: news) → (∀ q ∈ news, q.1 ≠ r) → (r == sysModules) = false → DictS w o (puts [] (nonE D)) → Q (.ref r) { s with heap := h', toks := tk }) :
    wpAny (model PySem.Challenge.rw_nu0058_01.row.prog w) A (call (.ref 204) [.ref nm]) Q E s := by
  subst hA
  have hS : ∀ q ∈ [(sl, listOf (ds ++ [Value.ref d]).toArray n1)], q ∈ news := fun q hq => by rw [List.mem_singleton.mp hq]; exact hm
  obtain ⟨G', S', bs⟩ := Gd.sub (lvl := 8) (gd := gd) (un := un) (dp := dp) B F N XB TB hf hke hS hdp hun
  refine wpAny_call (scopeSpec G' S' (hn.keep bs) (hD.keep bs) hz fun r o h' tk k1 k2 lo hd => ?_)
  have Nn : News h₀ L h' ((r, o) :: news) := fun q hq => by
    rcases List.mem_cons.mp hq with rfl | hq
    · exact backS F N hS k2 _ (.head _)
    · exact backN F N hS k1 (fun q hq => k2 q (.tail _ hq)) q hq
  refine h r o h' tk (backF F N hS k1) Nn (fun q hq e => ?_) lo hd
  by_cases hqs : q.1 = sl
  · have h1 := (N q hq).1
    rw [hqs, (N _ hm).1] at h1
    have e2 := Option.some.inj h1
    refine ne_cls Nn (.tail _ hq) (.head _) ?_ e
    rw [hd.cls, ← e2]
    show Value.type "list" ≠ Value.type "dict"; intro e; injection e with e; revert e; decide
  · exact backNe N k2 hq (fun r hr => by rw [List.mem_singleton.mp hr]; exact Ne.symm hqs) (.head _) e
theorem dict_sameN {w : World} {A : Around} {E : Value → Shared → Prop} {s : Shared} {h₀ : Heap} {L a b : Addr} {oa ob : Obj} {news : List (Addr × Obj)} {D : List (Str × Str)} {Q : Value → Shared → Prop} (N : News h₀ L s.heap news) (ha : (a, oa) ∈ news) (hb : (b, ob) ∈ news)
    (da : DictS w oa D) (db : DictS w ob D) (la : (a == sysModules) = false) (lb : (b == sysModules) = false) (hn : (D.map (·.1)).Nodup) (hu : A.units < cLine) (h : Q (.bool false) s) :
    wpAny (model PySem.Challenge.rw_nu0058_01.row.prog w) A (compareOp .NotEq (.ref a) (.ref b)) Q E s :=
  dict_same ⟨la, oa, (N _ ha).1, da⟩ ⟨lb, ob, (N _ hb).1, db⟩ hn hu h
theorem callWith_K0F {prog : Program} {w : World} {A : Around} {E : Value → Shared → Prop} {s : Shared} {K : Frag} {h₀ : Heap} {L : Addr} {m : Str → Option Value} {env : Env} {pos : Pos} {f : Value} {first : List Value} {Q : Value → Shared → Prop} (F : Fr h₀ L s.heap m) (X : K.In h₀) (hk : keepIn K f = true)
    (h : wpAny (model prog w) A (call f (first ++ [])) Q E s) : wpAny (model prog w) A (callWith pos f first (backTo pos (starEach [] env)) []) Q E s := callWith_K0 (X.keeps F.keep) hk h
local macro_rules | `(tactic| walk_at "callWith ref") => `(tactic| ((with_reducible show wpAny _ _ (callWith _ (.ref _) _ (backTo _ (starEach [] _)) []) _ _ _); k_dflt (refine' callWith_K0F ?F ?N ?k ?_; walk_at "FN"; (case k => k_is); k_whole; (try dsimp only [List.cons_append, List.nil_append]))))
theorem off_part28_lam : True := by w_top off; trivial
/-- the code objects that a def's table knows -/
def TabOk (P : Addr) (qual : Str) (CT : List (Addr × Obj)) (ps : Array Value) : Prop :=
  TriplesOk ps.toList ∧ (∀ pos v, codeAmong pos ps.toList = some v → ∃ c oc vs t, v = .ref c ∧ (c, oc) ∈ CT ∧ oc.data = .fields vs ∧ vs[1]? = some (.str qual t)) ∧ (∀ q ∈ CT, ∃ vs, q.2.data = .fields vs) ∧ ApartT CT P
theorem TabOk.nil (P : Addr) (qual : Str) : TabOk P qual [] #[] := ⟨trivial, (fun _ _ h => (nomatch h)), (fun _ h => (nomatch h)), (fun _ h => (nomatch h))⟩
theorem among_snoc {pos : Pos} {a b : Int} {c v : Value} (l : List Value) (h : TriplesOk l) (e : codeAmong pos (l ++ [rawInt a, rawInt b, c]) = some v) : codeAmong pos l = some v ∨ v = c := by
  fun_induction TriplesOk l with
  | case1 =>
    simp only [List.nil_append, codeAmong, rawInt] at e
    split at e
    · cases e; exact .inr rfl
    · cases e
  | case2 a' t b' u x rest ih =>
    simp only [List.cons_append, codeAmong] at e ⊢
    split at e
    · rename_i hc; rw [if_pos hc]; exact .inl e
    · rename_i hc; rw [if_neg hc]; exact ih h e
  | case3 l h1 h2 => exact h.elim
theorem fields_ne {g h : Heap} {L a b : Addr} {o p : Obj} {news : List (Addr × Obj)} (N : News g L h news) (ha : (a, o) ∈ news) (hb : (b, p) ∈ news) (ho : ∃ vs, o.data = .fields vs) (hp : ∀ vs, p.data ≠ .fields vs) : a ≠ b := by
  rintro rfl
  have z := (N _ ha).1
  rw [(N _ hb).1] at z
  obtain ⟨vs, e⟩ := ho
  exact hp vs ((congrArg Obj.data (Option.some.inj z)).trans e)
theorem TabOk.apart {P : Addr} {qual : Str} {CT : List (Addr × Obj)} {ps : Array Value} {g h : Heap} {L b : Addr} {p : Obj} {news : List (Addr × Obj)} (x : TabOk P qual CT ps) (N : News g L h news) (hc : ∀ q ∈ CT, q ∈ news) (hb : (b, p) ∈ news) (hp : ∀ vs, p.data ≠ .fields vs) : ApartT CT b :=
  fun q hq => fields_ne N (hc q hq) hb (x.2.2.1 q hq) hp
section
variable {M : Model} {A : Around} {E : Value → Shared → Prop} {s : Shared} {h₀ : Heap} {L a c P : Addr} {m mg mb : Str → Option Value} {cn : Str} {cs : Scope} {ccd : Value} {cl : List (Str × Addr)} {X CT : List (Addr × Obj)}
  {p : Program} {loose : List Str} {mean : ExcName → Option Value} {params : Arguments} {body : PySem.Expr} {scope : Scope} {ps : Array Value} {pos : Pos} {clos : List (Str × Addr)} {qual : Str}
theorem lam_new {Q : Value → Shared → Prop} (F : Fr h₀ L s.heap m) (N : News h₀ L s.heap (X ++ (P, tabObj ps) :: CT)) (hX : ∀ q ∈ X, q.1 ≠ P) (TK : TabOk P qual CT ps) (T : Top p loose mean mg mb h₀) (C : CodeHd h₀ c P) (hcd : ccd = .ref c)
    (hq : qual = (envX cn cs L a ccd cl).qual ++ "<lambda>") (hdef : defaultsOf params (envX cn cs L a ccd cl) = ([], [])) (hcl : closureFor scope (envX cn cs L a ccd cl) = pure clos)
    (h : ∀ f c' oc ctv ps' CT' h' tk vs t, Fr h₀ L h' m → News h₀ L h' ((f, kla_obj "<lambda>" qual params body scope clos ((mg "__name__").getD .none) c' ctv) :: (X ++ (P, tabObj ps') :: CT')) → TabOk P qual CT' ps' → (c', oc) ∈ CT' → oc.data = .fields vs → vs[1]? = some (.str qual t) →
      (∀ q ∈ X ++ (P, tabObj ps') :: CT', q.1 ≠ f) → (∀ q ∈ CT, q ∈ CT') → (∀ b, (∃ r ∈ X, r.1 = b) → ApartT CT b → ApartT CT' b) → Q (.ref f) { s with heap := h', toks := tk }) :
    wpAny M A (eval (.Lambda params body scope pos) (envX cn cs L a ccd cl)) Q E s := by
  obtain ⟨t1, t2, t3, t4⟩ := TK
  refine kla_eval hdef ?_
  rw [← hq]
  cases e : codeAmong pos ps.toList with
  | some v =>
    obtain ⟨c', oc, vs, t, rfl, hm, hd, hv⟩ := t2 pos v e
    refine kla_hit F N T C hcd (List.mem_append_right _ (.head _)) t1 e hcl fun f ctv h' tk F' N' l1 => ?_
    exact h f c' oc ctv ps CT h' tk vs t F' N' ⟨t1, t2, t3, t4⟩ hm hd hv (fun q hq => Nat.ne_of_lt (l1 q hq)) (fun _ h => h) fun _ _ h => h
  | none =>
    have U : UpdF P (tabObj ps) (X ++ (P, tabObj ps) :: CT) (fun o => X ++ (P, o) :: CT) := by
      clear N t2 h
      induction X with
      | nil => exact UpdF.head fun q hq => t4 q hq
      | cons q X ih => exact UpdF.tail (hX q (.head _)) (ih fun q hq => hX q (.tail _ hq))
    refine kla_nest F N T C hcd U t1 e hcl fun f c' oc vs t ctv h' tk F' N' hd hv l1 l2 => ?_
    have lP : P < c' := l1 (P, tabObj ps) (List.mem_append_right _ (.head _))
    refine h f c' oc ctv (ps ++ #[rawInt pos.line, rawInt pos.col, .ref c']) ((c', oc) :: CT) h' tk vs t F' (newsPerm N' ?_) ⟨?_, ?_, ?_, ?_⟩ (.head _) hd hv ?_ (fun _ h => .tail _ h) fun b ⟨r, hr, e⟩ h => List.forall_mem_cons.mpr ⟨by rw [← e]; exact Nat.ne_of_gt (l1 r (List.mem_append_left _ hr)), h⟩
    · intro q hq
      simp only [List.mem_cons, List.mem_append] at hq ⊢
      rcases hq with h | h | h | h | h <;> simp only [h, true_or, or_true]
    · rw [Array.toList_append]
      exact TriplesOk_snoc _ _ _ _ t1
    · intro pos' v' e'
      rw [Array.toList_append] at e'
      rcases among_snoc _ t1 e' with e' | e'
      · obtain ⟨c2, oc2, vs2, t', z1, z2, z3⟩ := t2 _ _ e'
        exact ⟨c2, oc2, vs2, t', z1, .tail _ z2, z3⟩
      · exact ⟨c', oc, vs, t, e', .head _, hd, hv⟩
    · exact List.forall_mem_cons.mpr ⟨⟨vs, hd⟩, t3⟩
    · exact List.forall_mem_cons.mpr ⟨Nat.ne_of_gt lP, t4⟩
    · intro q hq
      simp only [List.mem_cons, List.mem_append] at hq
      rcases hq with h | h | h | h
      · exact Nat.ne_of_lt (Nat.lt_trans (l1 q (List.mem_append_left _ h)) l2)
      · rw [h]; exact Nat.ne_of_lt (Nat.lt_trans lP l2)
      · rw [h]; exact Nat.ne_of_lt l2
      · exact Nat.ne_of_lt (Nat.lt_trans (l1 q (List.mem_append_right _ (.tail _ h))) l2)
end
section
variable {prog : Program} {w : World} {A : Around} {s : Shared} {base g : Heap} {outer : List Env} {news : List (Addr × Obj)} {p : Program} {loose : List Str} {mean : ExcName → Option Value} {mg mb : Str → Option Value}
  {R : Result → Shared → Prop} {name qual : Str} {params : Arguments} {body : PySem.Expr} {scope : Scope} {cl : List (Str × Addr)} {pm ctv : Value} {f c' : Addr} {args : Args} {binds : List (Str × Value)}
/-- into a lambda -/
theorem enterLE (B : Below A base outer g) (T : Top p loose mean mg mb g) (st : g.StaysIn s.heap) (sz : g.objs.size ≤ s.heap.objs.size) (N : Sep g s.heap news)
    (ho : g.get? f = some (kla_obj name qual params body scope cl pm c' ctv)) (hcd : g.CodeRec (.ref c') qual) (hroom : A.depth < recursionLimit)
    (hbind : bindArgs (kla_fn name qual params body scope cl pm (.ref c') ctv) args = pure binds) (hloc : ∀ y ∈ binds, scope.names.lookup y.1 = some .local)
    (h : ∀ L' h₁, Fr g L' h₁ (fun y => binds.reverse.lookup y) → News g L' h₁ news → (∀ p ∈ news, p.1 < L') →
      wpAny (model prog w) (A.deeper (envX qual scope L' f (.ref c') cl)) (eval body (envX qual scope L' f (.ref c') cl))
        (fun v s' => R (.ok (.ret v)) s')
        (fun e s' => wpAny (model prog w) (A.deeper (envX qual scope L' f (.ref c') cl)) (leaving (envX qual scope L' f (.ref c') cl) e) (fun _ s'' => R (.error e) s'') (fun e' s'' => R (.error e') s'') s')
        { s with heap := h₁, toks := s.toks + binds.length })
    (hcell : ∀ x ∈ scope.names, x.2 ≠ .cell) (hco : scope.isCoroutine = false := by rfl) (hgen : scope.isGenerator = false := by rfl) (hk : scope.kind = .function := by rfl) : codeAny (model prog w) A (.call (.ref f) args) R s := by
  have _ := B.stack
  refine kla_callFunE hroom (st _ _ ho) rfl hco hgen rfl (hcd.keeps st) ?_
  rw [hbind]
  refine wpAny_pure (wpAny_newFunctionEnv hcell hloc (fun h₁ hns hsb => ⟨((T.nolimit).keeps st).fresh _ hsb, ?_⟩) hk)
  show codeAny _ _ (.expr body (envX qual scope s.heap.objs.size f (.ref c') cl)) _ _
  have hk₁ : ∀ b o, s.heap.get? b = some o → h₁.get? b = some o := fun b o e => hsb.extBut b o (Nat.ne_of_lt (Heap.lt_size e)) (Heap.get?_push_of_some _ e)
  exact kla_codeExpr (h s.heap.objs.size h₁ ⟨hns, fun b o e => hk₁ b o (st b o e), sz⟩ (fun p hp => ⟨hk₁ _ _ (N p hp).1, Nat.ne_of_lt (Heap.lt_size (N p hp).1), (N p hp).2⟩) (fun p hp => Heap.lt_size (N p hp).1))
end
theorem off_part29_toldc : True := by w_top off; trivial
section
variable {w : World} {p : Program} {loose : List Str} {mean : ExcName → Option Value} {mg mb : Str → Option Value} {dp un : Nat} {gd : Option (List Code)} {outer : List Env} {A₀ : Around} {base h₀ : Heap} {s : Shared}
  {L : Addr} {m : Str → Option Value} {env : Env} {news S : List (Addr × Obj)} {Q E : Value → Shared → Prop}
theorem told_call {fl : Addr} {fo : Obj} {fd : FuncData} (S : List (Addr × Obj)) (POk : Heap → Value → Heap → Prop) (PErr : Prop) (B : Below A₀ base outer h₀) (full : ∀ b o, h₀.get? b = some o → b ∉ frs outer → base.get? b = some o) (F : Fr h₀ L s.heap m) (N : News h₀ L s.heap news)
    (XB : (hd.heap_39 w.params).In base) (TB : Top p loose mean mg mb base) (hf : env.frame = some L) (hke : env.scope.kind = .function)
    (hS : ∀ q ∈ S, q ∈ news) (hfl : (fl, fo) ∈ news) (hflS : ∀ p ∈ S, p.1 ≠ fl) (hfd : fo.data = .func fd) (hdp : dp + 20 < recursionLimit) (hun : un + 16 * 20 + 100 < cLine)
    (hc : base.StaysIn (subB s S env outer) → (∀ q ∈ news, (∀ p ∈ S, p.1 ≠ q.1) → (subB s S env outer).get? q.1 = some q.2) → CallC w p loose mean mg mb 19 dp un gd (env :: outer) (subB s S env outer) fl [] S POk PErr) (mono : ∀ g₁ g₂ v h', g₁.StaysIn g₂ → POk g₂ v h' → POk g₁ v h')
    (h : ∀ v h' tk, (subG s S).StaysIn h' → POk (subG s S) v h' → Q v { s with heap := h', toks := tk })
    (hr : ∀ t h' tk g', PErr → GR A₀ base h₀ outer g' → Fr g' L h' m → News g' L h' news → Q (.str (Str.ofString "refused") t) { s with heap := h', toks := tk }) :
    wpAny (model PySem.Challenge.rw_nu0058_01.row.prog w) (Ar dp un gd (env :: outer)) (call (.ref 239) [.ref fl]) Q E s := by
  obtain ⟨G', S', bs⟩ := Gd.sub (lvl := 20) (gd := gd) (un := un) (dp := dp) B F N XB TB hf hke hS hdp hun
  have hfo := sub_at (S := S) B N hf hfl hflS
  refine wpAny_call (toldS G' S' hfo hfd (hc bs fun q hq hn => sub_at (S := S) B N hf hq hn) (fun g' v h' k x => mono _ _ v h' k x) h fun t h' tk pe kept sep => ?_)
  obtain ⟨g', gr, F', z1, z2⟩ := kept_back B full F N hf hS kept
  refine hr t h' tk g' pe gr F' fun q hq => ?_
  by_cases e : ∃ p ∈ S, p.1 = q.1
  · obtain ⟨p, hp, e⟩ := e
    have h1 := (N p (hS p hp)).1
    rw [e, (N q hq).1] at h1
    have : p = q := Prod.ext e (Option.some.inj h1).symm
    exact this ▸ z2 S sep p hp
  · exact z1 [q] (fun x hx => by rw [List.mem_singleton.mp hx]; exact ⟨hq, fun p hp z => e ⟨p, hp, z⟩⟩) q (.head _)
theorem exp_callS {d : Addr} {x y z u l : Str} {t : Tok} {b : Bool} {D : List (Str × Str)} (hx : (x, y, z) ∈ splitTriples) (e : resOf D y z b = some (u, l)) {A : Around} (hA : A = Ar dp un gd (env :: outer)) (B : Below A₀ base outer h₀) (F : Fr h₀ L s.heap m) (N : News h₀ L s.heap news) (XB : (hd.heap_39 w.params).In base) (TB : Top p loose mean mg mb base)
    (hf : env.frame = some L) (hke : env.scope.kind = .function) (hD : DictAt w base d D) (hdp : dp + 4 < recursionLimit) (hun : un + 16 * 4 + 100 < cLine)
    (h : ∀ r t t' n h' tk, Fr h₀ L h' m → News h₀ L h' ((r, tupO [.str u t, .str l t'] n) :: news) → (∀ q ∈ news, q.1 ≠ r) → Q (.ref r) { s with heap := h', toks := tk }) :
    wpAny (model PySem.Challenge.rw_nu0058_01.row.prog w) A (call (.ref 258) [.ref d, .str x t, .bool b]) Q E s := by
  subst hA
  obtain ⟨G', S', bs⟩ := Gd.sub (S := []) (lvl := 4) (gd := gd) (un := un) (dp := dp) B F N XB TB hf hke (fun _ h => nomatch h) hdp hun
  refine wpAny_call (expSpec G' (hD.keep bs) hx fun v h' tk k1 k2 => ?_)
  rw [e] at k2
  obtain ⟨r, t, t', n, rfl, hs⟩ := k2
  obtain ⟨F', N', ne⟩ := news_sep F N k1 hs
  exact h r t t' n h' tk F' N' fun q hq => ne _ (.head _) q hq
theorem exp_callN {d : Addr} {x y z : Str} {t : Tok} {b : Bool} {D : List (Str × Str)} (hx : (x, y, z) ∈ splitTriples) (e : resOf D y z b = none) {A : Around} (hA : A = Ar dp un gd (env :: outer)) (B : Below A₀ base outer h₀) (F : Fr h₀ L s.heap m) (N : News h₀ L s.heap news) (XB : (hd.heap_39 w.params).In base) (TB : Top p loose mean mg mb base)
    (hf : env.frame = some L) (hke : env.scope.kind = .function) (hD : DictAt w base d D) (hdp : dp + 4 < recursionLimit) (hun : un + 16 * 4 + 100 < cLine)
    (h : ∀ t h' tk, Fr h₀ L h' m → News h₀ L h' news → Q (.str (Str.ofString "refused") t) { s with heap := h', toks := tk }) :
    wpAny (model PySem.Challenge.rw_nu0058_01.row.prog w) A (call (.ref 258) [.ref d, .str x t, .bool b]) Q E s := by
  subst hA
  obtain ⟨G', S', bs⟩ := Gd.sub (S := []) (lvl := 4) (gd := gd) (un := un) (dp := dp) B F N XB TB hf hke (fun _ h => nomatch h) hdp hun
  refine wpAny_call (expSpec G' (hD.keep bs) hx fun v h' tk k1 k2 => ?_)
  rw [e] at k2
  obtain ⟨t, rfl⟩ := k2
  exact h t h' tk (F.keeps k1) fun q hq => ⟨k1 _ _ (N q hq).1, (N q hq).2⟩
theorem pair_same {a b : Addr} {x y : Str} {t u t' u' : Tok} {n k : Nat} {A : Around} (N : News h₀ L s.heap news) (ha : (a, tupO [.str x t, .str y u] n) ∈ news) (hb : (b, tupO [.str x t', .str y u'] k) ∈ news) (hx : PyData.strOk x = true) (hy : PyData.strOk y = true) (hu : A.units + 64 < cLine)
    (h : Q (.bool false) s) : wpAny (model PySem.Challenge.rw_nu0058_01.row.prog w) A (compareOp .NotEq (.ref a) (.ref b)) Q E s := by
  have hsh : SeqAt.shaped (pairD (x, y)) = true := by
    unfold SeqAt.shaped
    simp [PyData.canLay0, PyData.canLayAll0, hx, hy, PyData.depth, PyData.depthAll]
  refine ne_dataH (da := pairD (x, y)) (db := pairD (x, y)) (.tuple (N _ ha).1 rfl rfl (.cons (as := []) (bs := []) (.str _ _) (.cons (as := []) (bs := []) (.str _ _) .nil))) (.tuple (N _ hb).1 rfl rfl (.cons (as := []) (bs := []) (.str _ _) (.cons (as := []) (bs := []) (.str _ _) .nil))) hsh hsh hu ?_
  have : PyData.eqv (pairD (x, y)) (pairD (x, y)) = true := by simp [PyData.eqv, PyData.eqvAll]
  rw [this]
  exact h
end
/-- the tables that the law makes: what is bound may be bound -/
def DOk (D : List (Str × Str)) : Prop := (D.map (·.1)).Nodup ∧ ∀ q ∈ D, q ∈ okBinds
theorem look_some {D : List (Str × Str)} {k v : Str} (h : look D k = some v) : (k, v) ∈ D := by
  unfold look at h
  cases e : D.find? fun q => q.1 = k with
  | none => rw [e] at h; cases h
  | some q =>
    rw [e] at h
    cases h
    have h1 := List.mem_of_find?_eq_some e
    have h2 := List.find?_some e
    rw [← of_decide_eq_true h2]; exact h1
theorem DOk.xmlns {D : List (Str × Str)} (h : DOk D) : look D (Str.ofString "xmlns") = none := by
  cases e : look D (Str.ofString "xmlns") with
  | none => rfl
  | some v => exact absurd rfl ((show ∀ q ∈ okBinds, q.1 ≠ Str.ofString "xmlns" from by decide +kernel) _ (h.2 _ (look_some e)))
theorem DOk.strOk {D : List (Str × Str)} (h : DOk D) {k v : Str} (e : look D k = some v) : PyData.strOk v = true :=
  (show ∀ q ∈ okBinds, PyData.strOk q.2 = true from by decide +kernel) _ (h.2 _ (look_some e))
theorem DOk.uri {D : List (Str × Str)} (h : DOk D) {x v : Str} (e : uriOf D x = some v) : PyData.strOk v = true := by
  unfold uriOf at e
  split at e
  · cases e
  · split at e
    · rename_i e1; cases e; exact h.strOk e1
    · split at e
      · cases e; decide +kernel
      · cases e
theorem DOk.res {D : List (Str × Str)} (h : DOk D) {x y z u l : Str} {b : Bool} (hx : (x, y, z) ∈ splitTriples) (e : resOf D y z b = some (u, l)) : PyData.strOk u = true ∧ PyData.strOk l = true := by
  have hz : PyData.strOk z = true := (show ∀ q ∈ splitTriples, PyData.strOk q.2.2 = true from by decide +kernel) _ hx
  unfold resOf at e
  split at e
  · cases e; exact ⟨by decide +kernel, hz⟩
  · cases e1 : uriOf D y with
    | none => rw [e1] at e; cases e
    | some v => rw [e1] at e; cases e; exact ⟨h.uri e1, hz⟩
local macro_rules | `(tactic| walk_at "call ref") => `(tactic| ((with_reducible refine' exp_callS ?x ?e ?hA ?k1 ?k2 ?k3 ?k4 ?k5 ?k6 ?k7 ?D ?k8 ?k9 ?_); k_dflt ((case x | e => assumption); walk_at "c9"; (case D => assumption); walk_at "ce")))
local macro_rules | `(tactic| walk_at "call ref") => `(tactic| ((with_reducible refine' exp_callN ?x ?e ?hA ?k1 ?k2 ?k3 ?k4 ?k5 ?k6 ?k7 ?D ?k8 ?k9 ?_); k_dflt ((case x | e => assumption); walk_at "c9"; (case D => assumption); walk_at "ce")))
local macro_rules | `(tactic| walk_at "compareOp NotEq ref ref") => `(tactic| ((with_reducible refine' pair_same ?N ?a ?b ?p ?q ?u ?_); k_dflt ((case N => k_asm); (case a | b => kfm_turns); (case p | q => assumption); (case u => k_units); k_whole)))
local macro_rules | `(tactic| walk_at "eval Name") => `(tactic| (kc_free; k_dflt (refine' nameFree ?F ?c ?v ?d ?_ ?a ?b; (case a | b => rfl); (case F => k_asm); (case c => rfl); (case v | d => assumption); k_whole)))
local macro_rules | `(tactic| walk_at "call ref") => `(tactic| with_reducible refine hold_at 239 ?_)
theorem off_part30_lams : True := by w_top off; trivial
abbrev noParams : Arguments := { posonlyargs := [], args := [], vararg := none, kwonlyargs := [], kw_defaults := [], kwarg := none, defaults := [] }
abbrev freeScope (ns : List (Str × NameKind)) : Scope := { kind := .function, names := ns, isGenerator := false, isCoroutine := false }
abbrev OneStr (sl : Addr) (so : Obj) (y : Str) (g : Heap) (v : Value) (h' : Heap) : Prop := (∃ t, v = .str y t) ∧ Sep g h' [(sl, so)]
abbrev TwoStr (sl : Addr) (so : Obj) (u l : Str) (g : Heap) (v : Value) (h' : Heap) : Prop := ∃ r t t' n, v = .ref r ∧ Sep g h' [(r, tupO [.str u t, .str l t'] n), (sl, so)]
theorem Sep.weak {g g' h : Heap} {S : List (Addr × Obj)} (x : Sep g' h S) (k : g.StaysIn g') : Sep g h S := fun q hq => ⟨(x q hq).1, by
  cases e : g.get? q.1 with
  | none => rfl
  | some o => have := k _ _ e; rw [(x q hq).2] at this; cases this⟩
theorem subB_stays {A₀ : Around} {base h₀ : Heap} {s : Shared} {outer : List Env} {env : Env} {L : Addr} {m : Str → Option Value} {news S : List (Addr × Obj)} (B : Below A₀ base outer h₀) (F : Fr h₀ L s.heap m) (N : News h₀ L s.heap news) (hf : env.frame = some L) (hS : ∀ q ∈ S, q ∈ news) : base.StaysIn (subB s S env outer) := by
  have Lnone : h₀.get? L = none := by
    cases e : h₀.get? L with
    | none => rfl
    | some o => exact absurd (Nat.lt_of_lt_of_le (Heap.lt_size e) F.above) (Nat.lt_irrefl _)
  refine fun b o hb => hideAll_get _ (sub_get (F.keep _ _ (B.stays _ _ hb)) fun q hq e => ?_) fun hm => ?_
  · have := (N q (hS q hq)).2.2; rw [e, B.stays _ _ hb] at this; cases this
  · rw [show frs (env :: outer) = L :: frs outer from by show List.filterMap _ _ = _; rw [List.filterMap_cons, hf]] at hm
    rcases List.mem_cons.mp hm with e | hm
    · have := B.stays _ _ hb; rw [e, Lnone] at this; cases this
    · rw [(B.frames.mem hm).1] at hb; cases hb
set_option maxHeartbeats 4000000 in
theorem lamUri {w : World} {p : Program} {loose : List Str} {mean : ExcName → Option Value} {mg mb : Str → Option Value} {dp un : Nat} {gd : Option (List Code)} {outer : List Env} {base : Heap}
    {fl c' cN cP nm sl tl d : Addr} {qual x : Str} {pm ctv : Value} {p1 p3 : Pos} {a1 a2 a3 b1 b2 b3 : Nat} {oN oP : Obj} {t : Tok} {ds : List Value} {n1 : Nat} {D : List (Str × Str)}
    (hfo : base.get? fl = some (kla_obj (Str.ofString "<lambda>") qual noParams (.Call (.Attribute (.Name (Str.ofString "names") p1) (Str.ofString "uri_of") ⟨a1, a2, 193, a3⟩) [.Name (Str.ofString "prefix") p3] [] ⟨193, b1, b2, b3⟩) (freeScope [(Str.ofString "names", .free), (Str.ofString "prefix", .free)]) [(Str.ofString "prefix", cP), (Str.ofString "names", cN)] pm c' ctv))
    (hcd : base.CodeRec (.ref c') qual) (hN : base.get? cN = some oN) (dN : oN.data = .cell (some (.ref nm))) (hP : base.get? cP = some oP) (dP : oP.data = .cell (some (.str x t))) (hn : NamesAt base nm sl tl) (hD : DictAt w base d D) (hx : x.length ≤ 1000) :
    (∀ y, uriOf D x = some y → CallC w p loose mean mg mb 19 dp un gd outer base fl [] [(sl, listOf (ds ++ [Value.ref d]).toArray n1)] (OneStr sl (listOf (ds ++ [Value.ref d]).toArray n1) y) False) ∧
    (uriOf D x = none → CallC w p loose mean mg mb 19 dp un gd outer base fl [] [(sl, listOf (ds ++ [Value.ref d]).toArray n1)] (fun _ _ _ => False) True) := by
  refine ⟨fun y e => ?_, fun e => ?_⟩
  all_goals (
  intro env' g base' s R bs G N hok herr
  replace hn := hn.keep bs
  replace hD := hD.keep bs
  have X := G.X
  have T := G.T
  obtain ⟨B, XB, TB, full, st, sz, hdp, hun⟩ := G
  have hN1 := B.stays _ _ (bs _ _ hN)
  have hP1 := B.stays _ _ (bs _ _ hP)
  have hDg := hD.keep B.stays
  obtain ⟨dx, k1, k2, h1, h2, nn, hn1, hn2⟩ := (hn.keep B.stays).obj
  have hfill : (PySem.Challenge.rw_nu0058_01.row.prog = PySem.Challenge.rw_nu0058_01.row.prog) ∧ (hd.heap_39 = hd.heap_39) → True := fun _ => trivial
  revert hfill; k_fill; intro hfill; clear hfill
  refine' enterLE (args := ⟨[], []⟩) (binds := []) B T st sz N (B.stays _ _ (bs _ _ hfo)) ((hcd.keeps bs).keeps B.stays) (by k_room) rfl (by decide) ?_ (by decide)
  k_whole
  intro L' h' F' N' l1; (try k_lt l1); (try dsimp only); (try k_fold)
  w_strict k_steps
  all_goals (try dsimp only))
  all_goals first
    | exact hok _ _ _ (Fr.keep (by assumption)) ⟨⟨_, rfl⟩, News.sep (by assumption)⟩
    | exact herr _ _ _ trivial (by assumption)
set_option maxHeartbeats 4000000 in
theorem lamRes {w : World} {p : Program} {loose : List Str} {mean : ExcName → Option Value} {mg mb : Str → Option Value} {dp un : Nat} {gd : Option (List Code)} {outer : List Env} {base : Heap}
    {fl c' cN cM cA nm sl tl d : Addr} {qual x y z : Str} {b : Bool} {pm ctv : Value} {p1 p3 p4 : Pos} {a1 a2 a3 b1 b2 b3 : Nat} {oN oM oA : Obj} {t : Tok} {ds : List Value} {n1 : Nat} {D : List (Str × Str)}
    (hfo : base.get? fl = some (kla_obj (Str.ofString "<lambda>") qual noParams (.Call (.Attribute (.Name (Str.ofString "names") p1) (Str.ofString "resolved") ⟨a1, a2, 198, a3⟩) [.Name (Str.ofString "name") p3, .Name (Str.ofString "is_attribute") p4] [] ⟨198, b1, b2, b3⟩) (freeScope [(Str.ofString "is_attribute", .free), (Str.ofString "name", .free), (Str.ofString "names", .free)]) [(Str.ofString "names", cN), (Str.ofString "name", cM), (Str.ofString "is_attribute", cA)] pm c' ctv))
    (hcd : base.CodeRec (.ref c') qual) (hN : base.get? cN = some oN) (dN : oN.data = .cell (some (.ref nm))) (hM : base.get? cM = some oM) (dM : oM.data = .cell (some (.str x t))) (hA : base.get? cA = some oA) (dA : oA.data = .cell (some (.bool b))) (hn : NamesAt base nm sl tl) (hD : DictAt w base d D) (hx : (x, y, z) ∈ splitTriples) :
    (∀ u l, resOf D y z b = some (u, l) → CallC w p loose mean mg mb 19 dp un gd outer base fl [] [(sl, listOf (ds ++ [Value.ref d]).toArray n1)] (TwoStr sl (listOf (ds ++ [Value.ref d]).toArray n1) u l) False) ∧
    (resOf D y z b = none → CallC w p loose mean mg mb 19 dp un gd outer base fl [] [(sl, listOf (ds ++ [Value.ref d]).toArray n1)] (fun _ _ _ => False) True) := by
  refine ⟨fun u l e => ?_, fun e => ?_⟩
  all_goals (
  intro env' g base' s R bs G N hok herr
  replace hn := hn.keep bs
  replace hD := hD.keep bs
  have X := G.X
  have T := G.T
  obtain ⟨B, XB, TB, full, st, sz, hdp, hun⟩ := G
  have hN1 := B.stays _ _ (bs _ _ hN)
  have hM1 := B.stays _ _ (bs _ _ hM)
  have hA1 := B.stays _ _ (bs _ _ hA)
  have hDg := hD.keep B.stays
  obtain ⟨dx, k1, k2, h1, h2, nn, hn1, hn2⟩ := (hn.keep B.stays).obj
  have hfill : (PySem.Challenge.rw_nu0058_01.row.prog = PySem.Challenge.rw_nu0058_01.row.prog) ∧ (hd.heap_39 = hd.heap_39) → True := fun _ => trivial
  revert hfill; k_fill; intro hfill; clear hfill
  refine' enterLE (args := ⟨[], []⟩) (binds := []) B T st sz N (B.stays _ _ (bs _ _ hfo)) ((hcd.keeps bs).keeps B.stays) (by k_room) rfl (by decide) ?_ (by decide)
  k_whole
  intro L' h' F' N' l1; (try k_lt l1); (try dsimp only); (try k_fold)
  w_strict k_steps
  all_goals (try dsimp only))
  all_goals first
    | exact hok _ _ _ (Fr.keep (by assumption)) ⟨_, _, _, _, rfl, News.sep (by assumption)⟩
    | exact herr _ _ _ trivial (by assumption)
theorem off_part31_toldx : True := by w_top off; trivial
theorem data_ne {g h : Heap} {L a b : Addr} {o p : Obj} {news : List (Addr × Obj)} (N : News g L h news) (ha : (a, o) ∈ news) (hb : (b, p) ∈ news) (hd : o.data ≠ p.data) : a ≠ b := by
  rintro rfl
  have z := (N _ ha).1
  rw [(N _ hb).1] at z
  exact hd (congrArg Obj.data (Option.some.inj z).symm)
theorem one_in {g h : Heap} {L a : Addr} {o : Obj} {news : List (Addr × Obj)} (_ : News g L h news) (hm : (a, o) ∈ news) : ∀ q ∈ [(a, o)], q ∈ news := fun q hq => by rw [List.mem_singleton.mp hq]; exact hm
theorem one_ne {a b : Addr} {o : Obj} (h : @Ne Nat a b) : ∀ p ∈ [(a, o)], p.1 ≠ b := fun p hp => by rw [List.mem_singleton.mp hp]; exact h
theorem GR.back {A : Around} {base g g' : Heap} {outer : List Env} (x : GR A base g outer g') (full : ∀ b o, g.get? b = some o → b ∉ frs outer → base.get? b = some o) {b : Addr} (h : g'.get? b = .none) : g.get? b = .none := by
  cases e : g.get? b with
  | none => rfl
  | some o =>
    by_cases hm : b ∈ frs outer
    · obtain ⟨_, o', ho', _⟩ := x.B.frames.mem hm
      rw [h] at ho'; cases ho'
    · have := x.B.stays _ _ (full _ _ e hm)
      rw [h] at this; cases this
section
variable {w : World} {p : Program} {loose : List Str} {mean : ExcName → Option Value} {mg mb : Str → Option Value} {dp un : Nat} {gd : Option (List Code)} {outer : List Env} {A₀ : Around} {base h₀ : Heap} {s : Shared}
  {L : Addr} {m : Str → Option Value} {env : Env} {news : List (Addr × Obj)} {Q E : Value → Shared → Prop}
theorem uri_told {fl c' cN cP nm sl tl d : Addr} {qual x dv : Str} {pm ctv : Value} {p1 p3 : Pos} {a1 a2 a3 b1 b2 b3 : Nat} {oN oP oc : Obj} {t t5 : Tok} {vs5 : Array Value} {ds : List Value} {n1 : Nat} {D : List (Str × Str)}
    (B : Below A₀ base outer h₀) (full : ∀ b o, h₀.get? b = some o → b ∉ frs outer → base.get? b = some o) (F : Fr h₀ L s.heap m) (N : News h₀ L s.heap news) (XB : (hd.heap_39 w.params).In base) (TB : Top p loose mean mg mb base) (hf : env.frame = some L) (hke : env.scope.kind = .function)
    (hm : (sl, listOf (ds ++ [Value.ref d]).toArray n1) ∈ news)
    (hfl : (fl, kla_obj (Str.ofString "<lambda>") qual noParams (.Call (.Attribute (.Name (Str.ofString "names") p1) (Str.ofString "uri_of") ⟨a1, a2, 193, a3⟩) [.Name (Str.ofString "prefix") p3] [] ⟨193, b1, b2, b3⟩) (freeScope [(Str.ofString "names", .free), (Str.ofString "prefix", .free)]) [(Str.ofString "prefix", cP), (Str.ofString "names", cN)] pm c' ctv) ∈ news)
    (hc' : (c', oc) ∈ news) (hd' : oc.data = .fields vs5) (hv' : vs5[1]? = some (.str qual t5)) (hN : (cN, oN) ∈ news) (dN : oN.data = .cell (some (.ref nm))) (hP : (cP, oP) ∈ news) (dP : oP.data = .cell (some (.str x t)))
    (hn : NamesAt base nm sl tl) (hD : DictAt w base d D) (hx : x.length ≤ 1000) (hfin : uriOf D x = some dv ∨ (uriOf D x = none ∧ dv = Str.ofString "refused")) (hdp : dp + 20 < recursionLimit) (hun : un + 16 * 20 + 100 < cLine)
    (h : ∀ t h' tk g', GR A₀ base h₀ outer g' → Fr g' L h' m → News g' L h' news → Q (.str dv t) { s with heap := h', toks := tk }) :
    wpAny (model PySem.Challenge.rw_nu0058_01.row.prog w) (Ar dp un gd (env :: outer)) (call (.ref 239) [.ref fl]) Q E s := by
  have hS := one_in N hm
  have n0 : sl ≠ fl := data_ne N hm hfl (by intro h; cases h)
  have n1' : sl ≠ c' := data_ne N hm hc' (by rw [hd']; intro h; cases h)
  have n2 : sl ≠ cN := data_ne N hm hN (by rw [dN]; intro h; cases h)
  have n3 : sl ≠ cP := data_ne N hm hP (by rw [dP]; intro h; cases h)
  have C := fun (bs6 : base.StaysIn (subB s [(sl, listOf (ds ++ [Value.ref d]).toArray n1)] env outer)) (at6 : ∀ q ∈ news, (∀ p ∈ [(sl, listOf (ds ++ [Value.ref d]).toArray n1)], p.1 ≠ q.1) → (subB s [(sl, listOf (ds ++ [Value.ref d]).toArray n1)] env outer).get? q.1 = some q.2) =>
    lamUri (w := w) (p := p) (loose := loose) (mean := mean) (mg := mg) (mb := mb) (dp := dp) (un := un) (gd := gd) (outer := env :: outer) (ds := ds) (n1 := n1) (at6 _ hfl (one_ne n0)) ⟨c', oc, vs5, t5, rfl, at6 _ hc' (one_ne n1'), hd', hv'⟩ (at6 _ hN (one_ne n2)) dN (at6 _ hP (one_ne n3)) dP (hn.keep bs6) (hD.keep bs6) hx
  rcases hfin with e | ⟨e, rfl⟩
  · refine told_call [(sl, listOf (ds ++ [Value.ref d]).toArray n1)] _ False B full F N XB TB hf hke hS hfl (one_ne n0) rfl hdp hun (fun bs6 at6 => (C bs6 at6).1 dv e) (fun _ _ _ _ k x => ⟨x.1, x.2.weak k⟩) ?_ (fun _ _ _ _ h => h.elim)
    rintro v7 h7 tk7 k7 ⟨⟨t7, rfl⟩, s7⟩
    exact h t7 h7 tk7 h₀ (GR.refl B full) (backF F N hS k7) (backN F N hS k7 s7)
  · refine told_call [(sl, listOf (ds ++ [Value.ref d]).toArray n1)] _ True B full F N XB TB hf hke hS hfl (one_ne n0) rfl hdp hun (fun bs6 at6 => (C bs6 at6).2 e) (fun _ _ _ _ _ x => x) (fun _ _ _ _ h => h.elim) ?_
    exact fun t7 h7 tk7 g7 _ gr F7 N7 => h t7 h7 tk7 g7 gr F7 N7
theorem res_told {fl c' cN cM cA nm sl tl d : Addr} {qual x y z : Str} {b : Bool} {pm ctv : Value} {p1 p3 p4 : Pos} {a1 a2 a3 b1 b2 b3 : Nat} {oN oM oA oc : Obj} {t t5 : Tok} {vs5 : Array Value} {ds : List Value} {n1 : Nat} {D : List (Str × Str)}
    (B : Below A₀ base outer h₀) (full : ∀ b o, h₀.get? b = some o → b ∉ frs outer → base.get? b = some o) (F : Fr h₀ L s.heap m) (N : News h₀ L s.heap news) (XB : (hd.heap_39 w.params).In base) (TB : Top p loose mean mg mb base) (hf : env.frame = some L) (hke : env.scope.kind = .function)
    (hm : (sl, listOf (ds ++ [Value.ref d]).toArray n1) ∈ news)
    (hfl : (fl, kla_obj (Str.ofString "<lambda>") qual noParams (.Call (.Attribute (.Name (Str.ofString "names") p1) (Str.ofString "resolved") ⟨a1, a2, 198, a3⟩) [.Name (Str.ofString "name") p3, .Name (Str.ofString "is_attribute") p4] [] ⟨198, b1, b2, b3⟩) (freeScope [(Str.ofString "is_attribute", .free), (Str.ofString "name", .free), (Str.ofString "names", .free)]) [(Str.ofString "names", cN), (Str.ofString "name", cM), (Str.ofString "is_attribute", cA)] pm c' ctv) ∈ news)
    (hc' : (c', oc) ∈ news) (hd' : oc.data = .fields vs5) (hv' : vs5[1]? = some (.str qual t5)) (hN : (cN, oN) ∈ news) (dN : oN.data = .cell (some (.ref nm))) (hM : (cM, oM) ∈ news) (dM : oM.data = .cell (some (.str x t))) (hA : (cA, oA) ∈ news) (dA : oA.data = .cell (some (.bool b)))
    (hn : NamesAt base nm sl tl) (hD : DictAt w base d D) (hx : (x, y, z) ∈ splitTriples) (hdp : dp + 20 < recursionLimit) (hun : un + 16 * 20 + 100 < cLine)
    (h1 : ∀ u l, resOf D y z b = some (u, l) → ∀ r t t' n h' tk, Fr h₀ L h' m → News h₀ L h' ((r, tupO [.str u t, .str l t'] n) :: news) → (∀ q ∈ news, q.1 ≠ r) → Q (.ref r) { s with heap := h', toks := tk })
    (h2 : resOf D y z b = none → ∀ t h' tk g', GR A₀ base h₀ outer g' → Fr g' L h' m → News g' L h' news → Q (.str (Str.ofString "refused") t) { s with heap := h', toks := tk }) :
    wpAny (model PySem.Challenge.rw_nu0058_01.row.prog w) (Ar dp un gd (env :: outer)) (call (.ref 239) [.ref fl]) Q E s := by
  have hS := one_in N hm
  have n0 : sl ≠ fl := data_ne N hm hfl (by intro h; cases h)
  have n1' : sl ≠ c' := data_ne N hm hc' (by rw [hd']; intro h; cases h)
  have n2 : sl ≠ cN := data_ne N hm hN (by rw [dN]; intro h; cases h)
  have n3 : sl ≠ cM := data_ne N hm hM (by rw [dM]; intro h; cases h)
  have n4 : sl ≠ cA := data_ne N hm hA (by rw [dA]; intro h; cases h)
  have C := fun (bs6 : base.StaysIn (subB s [(sl, listOf (ds ++ [Value.ref d]).toArray n1)] env outer)) (at6 : ∀ q ∈ news, (∀ p ∈ [(sl, listOf (ds ++ [Value.ref d]).toArray n1)], p.1 ≠ q.1) → (subB s [(sl, listOf (ds ++ [Value.ref d]).toArray n1)] env outer).get? q.1 = some q.2) =>
    lamRes (w := w) (p := p) (loose := loose) (mean := mean) (mg := mg) (mb := mb) (dp := dp) (un := un) (gd := gd) (outer := env :: outer) (ds := ds) (n1 := n1) (at6 _ hfl (one_ne n0)) ⟨c', oc, vs5, t5, rfl, at6 _ hc' (one_ne n1'), hd', hv'⟩ (at6 _ hN (one_ne n2)) dN (at6 _ hM (one_ne n3)) dM (at6 _ hA (one_ne n4)) dA (hn.keep bs6) (hD.keep bs6) hx
  cases e : resOf D y z b with
  | some ul =>
    obtain ⟨u, l⟩ := ul
    refine told_call [(sl, listOf (ds ++ [Value.ref d]).toArray n1)] _ False B full F N XB TB hf hke hS hfl (one_ne n0) rfl hdp hun (fun bs6 at6 => (C bs6 at6).1 u l e) (fun _ _ _ _ k ⟨r, t, t', n, a, x⟩ => ⟨r, t, t', n, a, x.weak k⟩) ?_ (fun _ _ _ _ h => h.elim)
    rintro v7 h7 tk7 k7 ⟨r, t, t', n, rfl, s7⟩
    have NR := backS F N hS s7 _ (.head _)
    have NN := backN F N hS k7 fun q hq => s7 q (.tail _ hq)
    refine h1 u l e r t t' n h7 tk7 (backF F N hS k7) (List.forall_mem_cons.mpr ⟨NR, NN⟩) fun q hq e => ?_
    by_cases hqs : q.1 = sl
    · have z := (NN _ hm).1
      have z2 : h7.get? r = _ := NR.1
      rw [show sl = r from hqs.symm.trans e] at z
      rw [z2] at z
      have z3 := congrArg Obj.cls (Option.some.inj z)
      exact absurd z3 (show Value.type "tuple" ≠ Value.type "list" from by intro e; injection e with e; revert e; decide)
    · exact backNe N s7 hq (fun r hr => by rw [List.mem_singleton.mp hr]; exact Ne.symm hqs) (.head _) e
  | none =>
    refine told_call [(sl, listOf (ds ++ [Value.ref d]).toArray n1)] _ True B full F N XB TB hf hke hS hfl (one_ne n0) rfl hdp hun (fun bs6 at6 => (C bs6 at6).2 e) (fun _ _ _ _ _ x => x) (fun _ _ _ _ h => h.elim) ?_
    exact fun t7 h7 tk7 g7 _ gr F7 N7 => h2 e t7 h7 tk7 g7 gr F7 N7
end
theorem off_part34_asked : True := by w_top off; trivial
section part34_asked
local macro_rules | `(tactic| walk_at "call type:dict") => `(tactic| ((with_reducible refine' dictPairs ?hh ?F ?N ?b ?r ?p ?T ?z ?_); k_dflt ((case hh => exact rfl); walk_at "FN"; (case b => exact modules_low (Top.nolimit (by k_asm))); (case r => kfm_turns); (case p => assumption); (case T => (intro q hq; first | k_mem | simp only [List.mem_cons, List.mem_append, hq, or_true])); (case z => assumption); k_whole; intros)))
local macro_rules | `(tactic| walk_at "call ref") => `(tactic| ((with_reducible refine' scope_call ?hA ?k1 ?k2 ?k3 ?k4 ?k5 ?k6 ?k7 ?m ?n ?D ?z ?k8 ?k9 ?_); k_dflt ((case n => assumption); walk_at "c9"; (case m => kfm_turns); (case D | z => assumption); walk_at "ce")))
local macro_rules | `(tactic| walk_at "compareOp NotEq ref ref") => `(tactic| ((with_reducible refine' dict_sameN ?N ?a ?b ?p ?q ?la ?lb ?n ?u ?_); k_dflt ((case N => k_asm); (case a | b => kfm_turns); (case p | q | la | lb => assumption); (case n => exact puts_keys_nodup _ _ .nil); (case u => k_units); k_whole)))
local macro_rules | `(tactic| walk_at "eval ListComp") => `(tactic| (k_dflt (refine ListComp_W (by k_asm) (by with_unfolding_all rfl) (by decide) (by rfl) (by decide) (by rfl) ?_)))
local macro_rules | `(tactic| walk_at "subscriptTail") => `(tactic| ((with_reducible refine' itemS ?T ?e ?_ ?y ?x); k_dflt ((case e => assumption); walk_at "T"; walk_at "yx"; k_whole; intros)))
local macro_rules | `(tactic| walk_at "pyIter ref") => `(tactic| refine hold ?_)
local macro_rules | `(tactic| walk_at "eval Lambda") => `(tactic| refine hold ?_)
local macro_rules | `(tactic| walk_at "exec Assign cons Call") => `(tactic| refine hold ?_)
local macro_rules | `(tactic| walk_at "exec For Name List cons nil") => `(tactic| refine hold ?_)
theorem allLt_ne {d : Addr} : ∀ {l : List (Addr × Obj)}, AllLt d l → ∀ p ∈ l, p.1 ≠ d
  | [], _, _, h => nomatch h
  | q :: r, x, p, h => by
    rcases List.mem_cons.mp h with rfl | h
    · exact Nat.ne_of_lt x.1
    · exact allLt_ne x.2 p h
def askNames : List Str := [Str.ofString "", Str.ofString "p", Str.ofString "q", Str.ofString "r", Str.ofString "xml", Str.ofString "xmlns"]
theorem ask_len {x : Str} (h : x ∈ askNames) : x.length ≤ 1000 := (show ∀ x ∈ askNames, x.length ≤ 1000 from by decide +kernel) x h
def resNames : List (Str × Str × Str) := [(Str.ofString "a", Str.ofString "", Str.ofString "a"), (Str.ofString "p:a", Str.ofString "p", Str.ofString "a"), (Str.ofString "r:b", Str.ofString "r", Str.ofString "b"), (Str.ofString "xmlns:a", Str.ofString "xmlns", Str.ofString "a")]
theorem res_split {q : Str × Str × Str} (h : q ∈ resNames) : q ∈ splitTriples := (show ∀ q ∈ resNames, q ∈ splitTriples from by decide +kernel) q h
def qualA : Str := Str.ofString "_law_asked_right" ++ Str.ofString ".<locals>." ++ Str.ofString "<lambda>"
/-- the cells and the rest -/
abbrev asBase (L : Addr) (o1 o2 oP o4 o5 : Obj) (sl : Addr) (so : Obj) (ps : Array Value) : List (Addr × Obj) :=
  [(L + 1 + 1 + 1 + 1 + 1, o1), (L + 1 + 1 + 1 + 1, o2), (L + 1 + 1 + 1, oP), (L + 1 + 1, o4), (L + 1, o5), (sl, so), (260, tabObj ps)]
/-- the state of the loops -/
inductive AsJ (m₀ : Str → Option Value) (CT₀ H : List (Addr × Obj)) (L : Addr) (o4 o5 : Obj) (sl : Addr) (so : Obj) (Bs : List Addr) (V : Option Value → Prop) (_i : Nat) (m : Str → Option Value) (news : List (Addr × Obj)) : Prop
  | mk (o1 o2 oP v1 v2 v3 ps CT : _) (_ : news = H ++ (asBase L o1 o2 oP o4 o5 sl so ps ++ CT)) (_ : o1.data = .cell v1) (_ : o2.data = .cell v2) (_ : oP.data = .cell v3) (_ : V v1) (_ : TabOk 260 qualA CT ps) (_ : (∀ q ∈ CT₀, q ∈ CT)) (_ : (∀ b ∈ Bs, ApartT CT b)) (_ : ∀ y, ([Str.ofString "due"] : List Str).contains y = false → m y = m₀ y) : AsJ m₀ CT₀ H L o4 o5 sl so Bs V _i m news
abbrev AsJof {h₀ h : Heap} {L : Addr} {m : Str → Option Value} {q : Addr × Obj} {rest : List (Addr × Obj)} (_ : Fr h₀ L h m) (_ : News h₀ L h (q :: rest)) (CT : List (Addr × Obj)) := AsJ m CT [q]
abbrev AsJof3 {h₀ h : Heap} {L : Addr} {m : Str → Option Value} {q q' q'' : Addr × Obj} {rest : List (Addr × Obj)} (_ : Fr h₀ L h m) (_ : News h₀ L h (q :: q' :: q'' :: rest)) (CT : List (Addr × Obj)) := AsJ m CT [q, q', q'']
theorem as_fin {A₀ : Around} {base g g₂ h : Heap} {outer : List Env} {L I sl : Addr} {itO o1 o2 oP o4 o5 so : Obj} {m m₀ : Str → Option Value} {CT₀ H CT news : List (Addr × Obj)} {Bs : List Addr} {V : Option Value → Prop} {v1 v2 v3 : Option Value} {ps : Array Value} {i tk : Nat} {s₁ : Shared}
    (gr : GR A₀ base g outer g₂) (F : Fr g₂ L h m) (N : News g₂ L h news) (b : ∀ q ∈ (I, itO) :: (H ++ asBase L o1 o2 oP o4 o5 sl so ps), q ∈ news) (c : ∀ q ∈ CT, q ∈ news) (d1 : o1.data = .cell v1) (d2 : o2.data = .cell v2) (d3 : oP.data = .cell v3) (hV : V v1)
    (TK : TabOk 260 qualA CT ps) (hCT : ∀ q ∈ CT₀, q ∈ CT) (hB : ∀ b ∈ Bs, ApartT CT b) (hI : ∀ q ∈ H ++ asBase L o1 o2 oP o4 o5 sl so ps, q.1 ≠ I) (aI : ApartT CT I) (hm : ∀ y, ([Str.ofString "due"] : List Str).contains y = false → m y = m₀ y) :
    TurnG A₀ base g outer L I itO (AsJ m₀ CT₀ H L o4 o5 sl so Bs V i) s₁ .next { s₁ with heap := h, toks := tk } := by
  refine ⟨rfl, g₂, _, _, _, H ++ (asBase L o1 o2 oP o4 o5 sl so ps ++ CT), rfl, gr, F, newsPerm N fun q hq => ?_, fun q hq => ?_, o1, o2, oP, v1, v2, v3, ps, CT, rfl, d1, d2, d3, hV, TK, hCT, hB, hm⟩
  · rcases List.mem_cons.mp hq with rfl | hq
    · exact b _ (.head _)
    · rw [← List.append_assoc] at hq
      rcases List.mem_append.mp hq with hq | hq
      · exact b _ (.tail _ hq)
      · exact c _ hq
  · rw [← List.append_assoc] at hq
    rcases List.mem_append.mp hq with hq | hq
    · exact hI _ hq
    · exact aI _ hq
theorem uri_fin {D : List (Str × Str)} {x : Str} (hDx : look D (Str.ofString "xmlns") = none) : (∀ y, look D x = some y → uriOf D x = some y ∨ (uriOf D x = none ∧ y = Str.ofString "refused")) ∧
    (look D x = none → x = Str.ofString "" → uriOf D x = some (Str.ofString "")) ∧ (look D x = none → x ≠ Str.ofString "" → uriOf D x = none) := by
  refine ⟨fun y e => .inl ?_, fun e h => ?_, fun e h => ?_⟩
  · unfold uriOf
    rw [if_neg (by rintro rfl; rw [hDx] at e; cases e), e]
  · subst h
    unfold uriOf
    rw [if_neg (by decide), e]
    exact if_pos rfl
  · unfold uriOf
    split
    · rfl
    · simp only [e, if_neg h]
theorem as_ne {L I sl : Addr} {o1 o2 oP o4 o5 so p1 p2 pP p4 p5 so' : Obj} {H CT : List (Addr × Obj)} {ps ps' : Array Value} (h : ∀ q ∈ H ++ (asBase L o1 o2 oP o4 o5 sl so ps ++ CT), q.1 ≠ I) : ∀ q ∈ H ++ asBase L p1 p2 pP p4 p5 sl so' ps', q.1 ≠ I := fun q hq => by
  rcases List.mem_append.mp hq with hq | hq
  · exact h q (List.mem_append_left _ hq)
  · have k : ∀ q ∈ asBase L o1 o2 oP o4 o5 sl so ps, q.1 ≠ I := fun q hq => h q (List.mem_append_right _ (List.mem_append_left _ hq))
    simp only [asBase, List.forall_mem_cons] at k
    obtain ⟨e1, e2, e3, e4, e5, e6, e7, _⟩ := k
    exact all_cons e1 (all_cons e2 (all_cons e3 (all_cons e4 (all_cons e5 (all_cons e6 (all_cons e7 all_nil)))))) q hq
/-- due is stored -/
inductive DueP (g : Heap) (L : Addr) (m : Str → Option Value) (news : List (Addr × Obj)) (D : List (Str × Str)) (x : Str) (s s' : Shared) : Prop
  | mk (h' : Heap) (tk' : Nat) (dv : Str) (t : Tok) (_ : s' = { s with heap := h', toks := tk' }) (_ : Fr g L h' (fun y => if y = Str.ofString "due" then some (.str dv t) else m y)) (_ : News g L h' news) (_ : uriOf D x = some dv ∨ (uriOf D x = none ∧ dv = Str.ofString "refused")) : DueP g L m news D x s s'
abbrev DueOf {g h : Heap} {L : Addr} {m : Str → Option Value} {news : List (Addr × Obj)} (_ : Fr g L h m) (_ : News g L h news) := DueP g L m news
set_option maxHeartbeats 4000000 in
theorem askedSpec {w : World} {p : Program} {loose : List Str} {mean : ExcName → Option Value} {mg mb : Str → Option Value} {dp un : Nat} {gd : Option (List Code)} {outer : List Env} {base g : Heap} {s : Shared} {R : Result → Shared → Prop}
    {nm sl tl d d2 : Addr} {ds : List Value} {n1 : Nat} {D : List (Str × Str)} {ps : Array Value} {CT : List (Addr × Obj)} (G : Gd w p loose mean mg mb 30 dp un gd outer base g s)
    (N : Sep g s.heap ((sl, listOf (ds ++ [Value.ref d]).toArray n1) :: (260, tabObj ps) :: CT)) (TK : TabOk 260 qualA CT ps) (hs260 : @Ne Nat sl 260) (hn : NamesAt base nm sl tl) (hD : DictAt w base d D) (hD2 : DictAt w base d2 D) (hD64 : D.length ≤ 1000) (hok : DOk D)
    (hret : ∀ ps' CT' h' tk, Kept base g outer h' → Sep g h' ((sl, listOf (ds ++ [Value.ref d]).toArray n1) :: (260, tabObj ps') :: CT') → TabOk 260 qualA CT' ps' → (∀ q ∈ CT, q ∈ CT') → R (.ok (.ret (.bool true))) { s with heap := h', toks := tk }) :
    codeAny (model PySem.Challenge.rw_nu0058_01.row.prog w) (Ar dp un gd outer) (.call (.ref 263) ⟨[.ref nm, .ref d2], []⟩) R s := by
  have hDn := hok.1
  have hDx := hok.xmlns
  have X := G.X
  have T := G.T
  obtain ⟨B, XB, TB, full, st, sz, hdp, hun⟩ := G
  have hDg := hD.keep B.stays
  have hD2g := hD2.keep B.stays
  obtain ⟨dx, k1, k2, h1, h2, nn, hn1, hn2⟩ := (hn.keep B.stays).obj
  have hfill : (PySem.Challenge.rw_nu0058_01.row.prog = PySem.Challenge.rw_nu0058_01.row.prog) ∧ (hd.heap_39 = hd.heap_39) → True := fun _ => trivial
  revert hfill; k_fill; intro hfill; clear hfill
  refine' enterSC ?k1 ?k2 ?k3 ?k4 ?k5 ?kN ?k6 ?k7 ?k8 ?k9 ?kB ?kD ?_ ?c2 ?c3 ?c4
  (case k1 => assumption)
  (case k2 => assumption)
  (case k3 => assumption)
  (case k4 => assumption)
  (case k5 => assumption)
  (case kN => assumption)
  (case k6 => k_is)
  (case k7 => k_is)
  (case k8 => k_room)
  (case k9 => first | exact BindsTo.of_eq rfl | exact binds_K (X.keeps st) rfl (by k_is) rfl rfl rfl)
  (case kB => exact rfl)
  (case kD => decide +kernel)
  (case c2 => exact rfl)
  (case c3 => exact rfl)
  (case c4 => exact rfl)
  k_whole
  intro L' h' tk' cells' F' N' Y' l1; (try k_lt l1); k_cells Y'; (try dsimp only [List.cons_append, List.nil_append] at N'); (try dsimp only); (try k_fold)
  rename_i o1 o2 o3 o4 o5 d1 d2' d3 d4 d5
  refine wpAny_noRaise ?_
  have lc1 := lt_up l1
  have lc2 := lt_cell (o := o5) lc1
  have lc3 := lt_cell (o := o4) lc2
  have lc4 := lt_cell (o := o3) lc3
  have lc5 := lt_cell (o := o2) lc4
  replace F' : Fr _ _ _ (fun _ => none) := F'
  replace d1 : o1.data = .cell none := d1
  replace d2' : o2.data = .cell none := d2'
  replace d3 : o3.data = .cell none := d3
  replace d4 : o4.data = .cell (some (.ref d2)) := d4
  replace d5 : o5.data = .cell (some (.ref nm)) := d5
  w_strict k_steps
  refine wpAny_Assign_Name (hs := by with_unfolding_all rfl) ?_
  w_strict k_steps
  all_goals (try dsimp only)
  (rename Fr _ _ _ _ => F1); (rename News _ _ _ _ => N1)
  refine keys_src rfl hD2g F1 N1 (by rw [sizeLine_eq]; omega) fun hK => ?_
  refine comp_new (l := D) (fun q v => ∃ t, v = .str q.1 t) (fun i v ⟨k, y, t, e1, e2⟩ => ⟨(k, y), e1, t, e2⟩) (fun q => decide (q.2 ≠ Str.ofString "")) (fun q => q) (fun _ => trivial) ?_ ?_ ?_
  · rintro ⟨x, y⟩ v XX I oI C oC D9 m₂ ys h tk E' hq ⟨t, rfl⟩ hoC hx F2 N2 off ne
    have hlk := look_mem hDn hq
    simp only [List.cons_append, List.nil_append, LCg.Off3] at off N2
    w_strict k_steps
    all_goals (try dsimp only)
    (rename Fr _ _ _ _ => F3); (rename News _ _ _ _ => N3)
    refine ⟨?_, _, _, rfl, F3, N3⟩
    by_cases hyy : y = Str.ofString "" <;> simp [hyy]
  · rintro ⟨x, y⟩ v XX I oI C oC D9 m₂ ys h tk E' hq ⟨t, rfl⟩ hoC hx F2 N2 off ne hy
    have hlk := look_mem hDn hq
    simp only [List.cons_append, List.nil_append, LCg.Off3] at off N2
    w_strict k_steps
    all_goals (try dsimp only)
    (rename Fr _ _ _ _ => F3); (rename News _ _ _ _ => N3)
    rename_i l3
    exact ⟨_, _, _, 0, _, _, rfl, rfl, F3, N3, all_lt l3⟩
  · intro ys XX hys D9 h9 tk9 F9 N9 off9
    simp only [List.cons_append, List.nil_append, LCg.Off1, List.map_id'] at off9 N9 hys
    replace hys : PairsIn XX ys (nonE D) := hys
    have hnz : (nonE D).length ≤ 1000 := Nat.le_trans (nonE_len D) hD64
    clear F1 N1
    w_strict k_steps
    all_goals (try dsimp only)
    (rename Fr _ _ _ _ => F1); (rename News _ _ _ _ => N1)
    refine' For_G F1 B ?h ?hs
    case hs => intro _; rfl
    replace N1 : News g L' _ (asBase L' o1 o2 o3 o4 o5 sl (listOf (ds ++ [Value.ref d]).toArray n1) ps ++ CT) := newsPerm N1 fun q hq => by
      simp only [List.mem_cons, List.mem_append, asBase, List.not_mem_nil, false_or, or_false] at hq ⊢
      rcases hq with (h | h | h | h | h | h | h) | h <;> simp only [h, true_or, or_true]
    simp only [asBase, List.cons_append, List.nil_append] at N1
    w_strict k_steps
    all_goals (try dsimp only)
    (rename Fr _ _ _ _ => F2); (rename News _ _ _ _ => N2)
    refine' seq_iterG rfl (by kfm_turns) B full F2 N2 (AsJof F2 N2 CT L' o4 o5 sl (listOf (ds ++ [Value.ref d]).toArray n1) [] (fun _ => True)) ?h0 ?hJ0 ?turn ?done
    case h0 => exact ⟨o1, o2, o3, none, none, none, ps, CT, rfl, d1, d2', d3, trivial, TK, (fun _ h => h), (fun _ h => nomatch h), fun _ _ => rfl⟩
    case hJ0 =>
      rintro i m' news' ⟨_, _, _, _, _, _, _, _, rfl, _⟩
      exact .head _
    case turn =>
      rintro i v g₁ m₁ news₁ I itO h₁ tk₁ hv ⟨o1, o2, oP, vA, vM, vP, ps1, CT1, rfl, dA, dM, dP, -, TK1, hCT, -, hm⟩ gr hI F3 N3
      have hv' := List.mem_of_getElem? hv
      obtain ⟨x, t, rfl, hx⟩ : ∃ x t, v = .str x t ∧ x ∈ askNames := by
        simp only [List.mem_cons, List.not_mem_nil, or_false] at hv'
        rcases hv' with rfl | rfl | rfl | rfl | rfl | rfl <;> exact ⟨_, _, rfl, by decide⟩
      have hk := keepN_of hm
      rw [hk] at F3
      simp only [asBase, List.cons_append, List.nil_append] at N3 hI
      dsimp only [keepN, AsJof] at F3 ⊢
      clear F2 N2 hv hv'
      have B1 := gr.B
      have X1 := XB.keeps B1.stays
      have T1 := TB.keeps B1.stays
      have hDg1 := hD.keep B1.stays
      have hD2g1 := hD2.keep B1.stays
      obtain ⟨dx, k1, k2, h1, h2, nn, hn1, hn2⟩ := (hn.keep B1.stays).obj
      have full1 := gr.full
      clear B hDg hD2g full st sz TK
      clear X T
      have aI : ApartT CT1 I := fun q hq => hI q (by kfm_turns)
      have a3 : ApartT CT1 (L' + 1 + 1 + 1) := TK1.apart N3 (fun q hq => by kfm_turns) (show (L' + 1 + 1 + 1, oP) ∈ _ by kfm_turns) (by rw [dP]; intro _ h; cases h)
      have hxl := ask_len hx
      obtain ⟨u1, u2, u3⟩ := uri_fin (D := D) (x := x) hDx
      have hcase : (∃ y, look D x = some y) ∨ (look D x = none ∧ x = Str.ofString "") ∨ (look D x = none ∧ x ≠ Str.ofString "" ∧ (x == Str.ofString "") = false) := by
        cases e : look D x with
        | some y => exact .inl ⟨y, rfl⟩
        | none =>
          by_cases h0 : x = Str.ofString ""
          · exact .inr (.inl ⟨rfl, h0⟩)
          · exact .inr (.inr ⟨rfl, h0, by simpa using h0⟩)
      refine hideT fun Q hQ => ?_
      w_strict k_steps
      all_goals (try dsimp only)
      (rename Fr _ _ _ _ => F4); (rename News _ _ _ _ => N4); (rename Obj.data _ = Data.cell (some (Value.str _ t)) => dP4)
      refine cutE (DueOf F4 N4 D x s) ?ca ?cb
      case ca =>
        dsimp only [DueOf]
        clear hQ F3 N3
        rcases hcase with ⟨dv, e⟩ | ⟨e, rfl⟩ | ⟨e, hx0, hx1⟩
        all_goals
          refine wpAny_Assign_Name (hs := by with_unfolding_all rfl) ?_
          w_strict k_steps
        all_goals (try dsimp only)
        all_goals
          (rename Fr _ _ _ _ => F5); (rename News _ _ _ _ => N5)
          refine ⟨_, _, _, _, rfl, F5, N5, ?_⟩
          first | exact u1 _ e | exact .inl (u2 e rfl) | exact .inr ⟨u3 e hx0, rfl⟩
      case cb =>
        dsimp only [DueOf]
        clear F3 N3 hcase u1 u2 u3
        (try clear F4)
        rintro s' ⟨h4, tk4, dv, t4, rfl, F4, N4, hdv⟩
        have hyd : (dv != dv) = false := by simp
        w_strict k_steps
        all_goals (try dsimp only)
        (rename Fr _ _ _ _ => F4); (rename News _ _ _ _ => N4)
        refine lam_new (qual := qualA) (X := [_, _, _, _, _, _, _, _]) F4 N4 ?_ TK1 T1 (codeHd_of_K (c := 262) (P := 260) X1 (by kernel_rfl)) rfl rfl rfl rfl ?_
        · k_all
        intro fl c' oc ctv ps2 CT2 h5 tk5 vs5 t5 F5 N5 TK2 hc' hd' hv' hne hsub hap
        dsimp only [List.cons_append, List.nil_append] at N5 hne
        have aI2 : ApartT CT2 I := hap I ⟨_, .head _, rfl⟩ aI
        clear F4 N4 TK1 hap
        dsimp only
        w_strict k_steps
        all_goals (try dsimp only)
        (rename Fr _ _ _ _ => F6); (rename News _ _ _ _ => N6)
        refine uri_told B1 full1 F6 N6 XB TB rfl rfl (show (sl, listOf (ds ++ [Value.ref d]).toArray n1) ∈ _ by kfm_turns) (.head _) (show (c', oc) ∈ _ by simp only [List.mem_cons, hc', or_true]) hd' hv' (show (L' + 1, o5) ∈ _ by kfm_turns) d5 (show (L' + 1 + 1 + 1, _) ∈ _ by kfm_turns) dP4 hn hD hxl hdv (by k_room) (by k_units) fun t7 h7 tk7 g7 gr7 F7 N7 => ?_
        clear F6 N6 hDg1 hD2g1
        dsimp only
        w_strict k_steps
        all_goals (try dsimp only)
        (rename Fr _ _ _ _ => F8); (rename News _ _ _ _ => N8)
        refine hQ _ _ ?_
        refine as_fin (L := L') (CT := CT2) gr7 F8 N8 ?b (fun q hq => by kfm_turns) dA dM dP4 (Bs := []) (V := fun _ => True) trivial TK2 (fun q hq => hsub _ (hCT _ hq)) (fun _ h => nomatch h) ?hI aI2 ?hm
        case b => repeat' (first | (refine List.forall_mem_cons.mpr ⟨?_, ?_⟩) | exact fun _ h => nomatch h | kfm_turns)
        case hI => exact as_ne hI
        case hm => repeat (first | exact keepN_base | refine keepN_if (by decide) ?_)
    case done =>
      rintro g₁ h4 tk4 m4 news4 gr F4 N4 ⟨o1, o2, oP, vA, vM, vP, ps1, CT1, rfl, dA, dM, dP, -, TK1, hCT, -, hm⟩
      have hk := keepN_of hm
      rw [hk] at F4
      simp only [asBase, List.cons_append, List.nil_append] at N4
      dsimp only [keepN, AsJof] at F4 ⊢
      clear F2 N2
      have B1 := gr.B
      have X1 := XB.keeps B1.stays
      have T1 := TB.keeps B1.stays
      have full1 := gr.full
      have gs := fun b (h : g₁.get? b = none) => gr.back full h
      clear B hDg hD2g full st sz TK
      clear X T
      replace N4 := newsPerm N4 fun q hq => .tail _ hq
      w_strict k_steps
      all_goals (try dsimp only)
      (rename Fr _ _ _ _ => F5)
      refine' For_G F5 B1 ?h ?hs
      case hs => intro _; rfl
      w_strict k_steps
      all_goals (try dsimp only)
      (rename Fr _ _ _ _ => F6); (rename News _ _ _ _ => N6)
      refine' seq_iterG rfl (by kfm_turns) B1 full1 F6 N6 (AsJof F6 N6 CT L' o4 o5 sl (listOf (ds ++ [Value.ref d]).toArray n1) [] (fun _ => True)) ?m0 ?mJ0 ?mturn ?mdone
      case m0 => exact ⟨o1, o2, oP, vA, vM, vP, ps1, CT1, rfl, dA, dM, dP, trivial, TK1, hCT, (fun _ h => nomatch h), fun _ _ => rfl⟩
      case mJ0 =>
        rintro i m' news' ⟨_, _, _, _, _, _, _, _, rfl, _⟩
        exact .head _
      case mturn =>
        dsimp only [AsJof]
        clear F6 N6 dA dM dP TK1 hCT hm hk T1 X1
        (try clear F5)
        (try clear F4)
        (try clear N4)
        rintro i v g₂ m₁ news₁ I itO h₁ tk₁ hv ⟨o1, o2, oP, vA, vM, vP, ps2, CT2, rfl, dA, dM, dP, -, TK1, hCT, -, hm⟩ gr2 hI F3 N3
        have hv' := List.mem_of_getElem? hv
        obtain ⟨x, y, z, t, rfl, hx⟩ : ∃ x y z t, v = .str x t ∧ (x, y, z) ∈ resNames := by
          simp only [List.mem_cons, List.not_mem_nil, or_false] at hv'
          rcases hv' with rfl | rfl | rfl | rfl
          · exact ⟨_, _, _, _, rfl, .head _⟩
          · exact ⟨_, _, _, _, rfl, .tail _ (.head _)⟩
          · exact ⟨_, _, _, _, rfl, .tail _ (.tail _ (.head _))⟩
          · exact ⟨_, _, _, _, rfl, .tail _ (.tail _ (.tail _ (.head _)))⟩
        have hsp := res_split hx
        have hk := keepN_of hm
        rw [hk] at F3
        simp only [asBase, List.cons_append, List.nil_append] at N3 hI
        (try dsimp only [keepN] at F3)
        clear hv hv'
        have B2 := gr2.B
        have X2 := XB.keeps B2.stays
        have T2 := TB.keeps B2.stays
        have full2 := gr2.full
        have hDg2 := hD.keep B2.stays
        clear B1 full1
        have aI : ApartT CT2 I := fun q hq => hI q (by kfm_turns)
        have a5 : ApartT CT2 (L' + 1 + 1 + 1 + 1 + 1) := TK1.apart N3 (fun q hq => by kfm_turns) (show (L' + 1 + 1 + 1 + 1 + 1, o1) ∈ _ by kfm_turns) (by rw [dA]; intro _ h; cases h)
        w_strict k_steps
        all_goals (try dsimp only)
        (rename Fr _ _ _ _ => F7); (rename Obj.data _ = Data.cell (some (Value.str _ t)) => dN2)
        refine' For_G F7 B2 ?h ?hs
        case hs => intro _; rfl
        w_strict k_steps
        all_goals (try dsimp only)
        (rename Fr _ _ _ _ => F8); (rename News _ _ _ _ => N8)
        refine' seq_iterG rfl (by kfm_turns) B2 full2 F8 N8 (AsJof3 F8 N8 CT L' o4 o5 sl (listOf (ds ++ [Value.ref d]).toArray n1) [I] (fun v => v = some (.str x t))) ?i0 ?iJ0 ?iturn ?idone
        case i0 => exact ⟨_, o2, oP, _, vM, vP, ps2, CT2, rfl, dN2, dM, dP, rfl, TK1, hCT, (fun b hb => by rw [List.mem_singleton.mp hb]; exact aI), fun _ _ => rfl⟩
        case iJ0 =>
          rintro i m' news' ⟨_, _, _, _, _, _, _, _, rfl, _⟩
          exact .head _
        case iturn =>
          dsimp only [AsJof3]
          clear F8 N8 dA dM dP dN2 TK1 hCT hm hk T2 X2 aI a5
          (try clear F7)
          rintro i2 v g₃ m₂ news₂ I2 itO2 h₂ tk₂ hv ⟨o1, o2, oP, vN, vA, vP, ps3, CT3, rfl, dN, dA, dP, rfl, TK1, hCT, hBs, hm⟩ gr3 hI2 F3 N3
          have hv' := List.mem_of_getElem? hv
          obtain ⟨b, rfl⟩ : ∃ b, v = .bool b := by
            simp only [List.mem_cons, List.not_mem_nil, or_false] at hv'
            rcases hv' with rfl | rfl <;> exact ⟨_, rfl⟩
          have hk := keepN_of hm
          rw [hk] at F3
          simp only [asBase, List.cons_append, List.nil_append] at N3 hI2
          (try dsimp only [keepN] at F3)
          clear hv hv'
          have B3 := gr3.B
          have X3 := XB.keeps B3.stays
          have T3 := TB.keeps B3.stays
          have full3 := gr3.full
          have hDg3 := hD.keep B3.stays
          clear B2 full2 hDg2
          have aI2 : ApartT CT3 I2 := fun q hq => hI2 q (by kfm_turns)
          have a4 : ApartT CT3 (L' + 1 + 1 + 1 + 1) := TK1.apart N3 (fun q hq => by kfm_turns) (show (L' + 1 + 1 + 1 + 1, o2) ∈ _ by kfm_turns) (by rw [dA]; intro _ h; cases h)
          cases e : resOf D y z b with
          | some ul =>
            obtain ⟨u, l⟩ := ul
            obtain ⟨su, sv⟩ := hok.res hsp e
            w_strict k_steps
            refine wpAny_Assign_Name (hs := by with_unfolding_all rfl) ?_
            w_strict k_steps
            all_goals (try dsimp only)
            (rename Fr _ _ _ _ => F4); (rename News _ _ _ _ => N4); (rename Obj.data _ = Data.cell (some (Value.bool b)) => dA4)
            refine lam_new (qual := qualA) (X := [_, _, _, _, _, _, _, _, _, _, _]) F4 N4 ?_ TK1 T3 (codeHd_of_K (c := 262) (P := 260) X3 (by kernel_rfl)) rfl rfl rfl rfl ?_
            · k_all
            intro fl c' oc ctv ps4 CT4 h5 tk5 vs5 t5 F5 N5 TK2 hc' hd' hv' hne hsub hap
            dsimp only [List.cons_append, List.nil_append] at N5 hne
            have aI4 : ApartT CT4 I2 := hap I2 ⟨_, .tail _ (.head _), rfl⟩ aI2
            have aI5 : ApartT CT4 I := hap I ⟨_, .tail _ (.tail _ (.tail _ (.head _))), rfl⟩ (hBs I (.head _))
            clear F3 N3 F4 N4 TK1 hap
            dsimp only
            w_strict k_steps
            all_goals (try dsimp only)
            (rename Fr _ _ _ _ => F6); (rename News _ _ _ _ => N6)
            refine res_told B3 full3 F6 N6 XB TB rfl rfl (show (sl, listOf (ds ++ [Value.ref d]).toArray n1) ∈ _ by kfm_turns) (.head _) (show (c', oc) ∈ _ by simp only [List.mem_cons, hc', or_true]) hd' hv' (show (L' + 1, o5) ∈ _ by kfm_turns) d5 (show (L' + 1 + 1 + 1 + 1 + 1, _) ∈ _ by kfm_turns) dN (show (L' + 1 + 1 + 1 + 1, _) ∈ _ by kfm_turns) dA4 hn hD hsp
              (by k_room) (by k_units) ?_ ?_
            · clear F6 N6
              intro u' l' e' r t7 t8 n7 h7 tk7 F7 N7 ne7
              rw [e] at e'
              cases e'
              dsimp only
              w_strict k_steps
              all_goals (try dsimp only)
              (rename Fr _ _ _ _ => F8); (rename News _ _ _ _ => N8)
              refine as_fin (L := L') (CT := CT4) (GR.refl B3 full3) F8 N8 ?b (fun q hq => by kfm_turns) dN dA4 dP (Bs := [I]) (V := fun v => v = some (.str x t)) rfl TK2 (fun q hq => hsub _ (hCT _ hq)) (fun b hb => by rw [List.mem_singleton.mp hb]; exact aI5) ?hI aI4 ?hm
              case b => repeat' (first | (refine List.forall_mem_cons.mpr ⟨?_, ?_⟩) | exact fun _ h => nomatch h | kfm_turns)
              case hI => exact as_ne hI2
              case hm => repeat (first | exact keepN_base | refine keepN_if (by decide) ?_)
            · intro e'
              rw [e] at e'
              cases e'
          | none =>
            w_strict k_steps
            refine wpAny_Assign_Name (hs := by with_unfolding_all rfl) ?_
            w_strict k_steps
            all_goals (try dsimp only)
            (rename Fr _ _ _ _ => F4); (rename News _ _ _ _ => N4); (rename Obj.data _ = Data.cell (some (Value.bool b)) => dA4)
            refine lam_new (qual := qualA) (X := [_, _, _, _, _, _, _, _, _, _]) F4 N4 ?_ TK1 T3 (codeHd_of_K (c := 262) (P := 260) X3 (by kernel_rfl)) rfl rfl rfl rfl ?_
            · k_all
            intro fl c' oc ctv ps4 CT4 h5 tk5 vs5 t5 F5 N5 TK2 hc' hd' hv' hne hsub hap
            dsimp only [List.cons_append, List.nil_append] at N5 hne
            have aI4 : ApartT CT4 I2 := hap I2 ⟨_, .head _, rfl⟩ aI2
            have aI5 : ApartT CT4 I := hap I ⟨_, .tail _ (.tail _ (.head _)), rfl⟩ (hBs I (.head _))
            clear F3 N3 F4 N4 TK1 hap
            dsimp only
            w_strict k_steps
            all_goals (try dsimp only)
            (rename Fr _ _ _ _ => F6); (rename News _ _ _ _ => N6)
            refine res_told B3 full3 F6 N6 XB TB rfl rfl (show (sl, listOf (ds ++ [Value.ref d]).toArray n1) ∈ _ by kfm_turns) (.head _) (show (c', oc) ∈ _ by simp only [List.mem_cons, hc', or_true]) hd' hv' (show (L' + 1, o5) ∈ _ by kfm_turns) d5 (show (L' + 1 + 1 + 1 + 1 + 1, _) ∈ _ by kfm_turns) dN (show (L' + 1 + 1 + 1 + 1, _) ∈ _ by kfm_turns) dA4 hn hD hsp
              (by k_room) (by k_units) ?_ ?_
            · intro u' l' e'
              rw [e] at e'
              cases e'
            · clear F6 N6
              intro _ t7 h7 tk7 g7 gr7 F7 N7
              dsimp only
              w_strict k_steps
              all_goals (try dsimp only)
              (rename Fr _ _ _ _ => F8); (rename News _ _ _ _ => N8)
              refine as_fin (L := L') (CT := CT4) gr7 F8 N8 ?b (fun q hq => by kfm_turns) dN dA4 dP (Bs := [I]) (V := fun v => v = some (.str x t)) rfl TK2 (fun q hq => hsub _ (hCT _ hq)) (fun b hb => by rw [List.mem_singleton.mp hb]; exact aI5) ?hI aI4 ?hm
              case b => repeat' (first | (refine List.forall_mem_cons.mpr ⟨?_, ?_⟩) | exact fun _ h => nomatch h | kfm_turns)
              case hI => exact as_ne hI2
              case hm => repeat (first | exact keepN_base | refine keepN_if (by decide) ?_)
        case idone =>
          dsimp only [AsJof3]
          clear F8 N8 dA dM dP dN2 TK1 hCT hm hk T2 X2 aI a5
          (try clear F7)
          rintro g₃ h₃ tk₃ m₃ news₃ gr3 F9 N9 ⟨o1, o2, oP, vN, vA, vP, ps3, CT3, rfl, dN, dA, dP, -, TK1, hCT, hBs, hm⟩
          simp only [asBase, List.cons_append, List.nil_append] at N9
          w_strict k_steps
          all_goals (try dsimp only)
          refine as_fin (L := L') (CT := CT3) gr3 F9 N9 ?b (fun q hq => by kfm_turns) dN dA dP (Bs := []) (V := fun _ => True) trivial TK1 hCT (fun _ h => nomatch h) ?hI (hBs I (.head _)) ?hm
          case b => repeat' (first | (refine List.forall_mem_cons.mpr ⟨?_, ?_⟩) | exact fun _ h => nomatch h | kfm_turns)
          case hI => exact as_ne hI
          case hm =>
            intro y hy
            rw [hm y hy]
            unfold keepN
            rw [if_neg (by rw [hy]; exact Bool.false_ne_true)]
      case mdone =>
        dsimp only [AsJof]
        clear F6 N6 dA dM dP TK1 hCT hm hk T1 X1
        (try clear F5)
        (try clear F4)
        (try clear N4)
        rintro g₂ h₂ tk₂ m₂ news₂ gr2 F9 N9 ⟨o1, o2, oP, vN, vA, vP, ps3, CT3, rfl, dN, dA, dP, -, TK1, hCT, -, hm⟩
        simp only [asBase, List.cons_append, List.nil_append] at N9
        w_strict k_steps
        all_goals (try dsimp only)
        refine hret ps3 CT3 _ _ (gr.kept _ (gr2.kept _ (Kept.of_stays gr2.B F9.keep))) (fun q hq => ?_) TK1 hCT
        have z := newsPerm N9 (fun q (hq : q ∈ (sl, listOf (ds ++ [Value.ref d]).toArray n1) :: (260, tabObj ps3) :: CT3) => .tail _ (.tail _ (.tail _ (.tail _ (.tail _ (.tail _ hq))))))
        exact ⟨(z q hq).1, gs _ (gr2.back full1 (z q hq).2.2)⟩
end part34_asked
theorem off_part35_olams : True := by w_top off; trivial
section part35_olams
local macro_rules | `(tactic| walk_at "call ref") => `(tactic| with_reducible refine hold_at 154 ?_)
local macro_rules | `(tactic| walk_at "call ref") => `(tactic| with_reducible refine hold_at 197 ?_)
theorem PairsIn.sub {A₀ : Around} {base h₀ : Heap} {s : Shared} {outer : List Env} {env : Env} {L : Addr} {news S T : List (Addr × Obj)} {vs : List Value} {l : List (Str × Str)} (x : PairsIn T vs l) (B : Below A₀ base outer h₀) (N : News h₀ L s.heap news) (hf : env.frame = some L) (hT : ∀ q ∈ T, q ∈ news)
    (hS : ∀ p ∈ S, p ∈ news ∧ p.2.cls = .type "list") : PairsAt (subB s S env outer) vs l := by
  induction x with
  | nil => exact .nil
  | cons e _ ih =>
    refine .cons (sub_at (S := S) B N hf (hT _ e) fun p hp => ?_) ih
    exact ne_cls N (hS p hp).1 (hT _ e) (by rw [(hS p hp).2]; intro e; injection e with e; revert e; decide)
theorem row_sub {A₀ : Around} {base h₀ : Heap} {s : Shared} {outer : List Env} {env : Env} {L r : Addr} {news S T : List (Addr × Obj)} {vs : List Value} {n : Nat} {l : List (Str × Str)} (x : PairsIn T vs l) (hr : (r, tupO vs n) ∈ news) (B : Below A₀ base outer h₀) (N : News h₀ L s.heap news) (hf : env.frame = some L) (hT : ∀ q ∈ T, q ∈ news)
    (hS : ∀ p ∈ S, p ∈ news ∧ p.2.cls = .type "list") : RowAt (subB s S env outer) r l := by
  refine ⟨vs, n, sub_at (S := S) B N hf hr fun p hp => ?_, x.sub B N hf hT hS⟩
  exact ne_cls N (hS p hp).1 hr (by rw [(hS p hp).2]; intro e; injection e with e; revert e; decide)
def EnterOk (w : World) (sl tl d : Addr) (D l : List (Str × Str)) (ds ts : List Value) (n1 n2 : Nat) (g : Heap) (v : Value) (h' : Heap) : Prop := ¬ BadIn l ∧ EnterPost w sl tl d D l ds ts n1 n2 g v h'
theorem EnterOk.weak {w : World} {sl tl d : Addr} {D l : List (Str × Str)} {ds ts : List Value} {n1 n2 : Nat} {g g' h' : Heap} {v : Value} (k : g.StaysIn g') (x : EnterOk w sl tl d D l ds ts n1 n2 g' v h') : EnterOk w sl tl d D l ds ts n1 n2 g v h' :=
  ⟨x.1, by obtain ⟨ro, tr, d', os, fs, ko, kt, T, e, c, r1, r2, r3, r4, r5, r6, r7⟩ := x.2; exact ⟨ro, tr, d', os, fs, ko, kt, T, e, c.weak k, r1, r2, r3, r4, r5, r6, r7⟩⟩
section
variable {w : World} {p : Program} {loose : List Str} {mean : ExcName → Option Value} {mg mb : Str → Option Value} {dp un : Nat} {gd : Option (List Code)} {outer : List Env} {A₀ : Around} {base h₀ : Heap} {s : Shared}
  {L : Addr} {m : Str → Option Value} {env : Env} {news : List (Addr × Obj)} {Q E : Value → Shared → Prop} {nm sl tl d r : Addr} {ds ts : List Value} {n1 n2 : Nat} {D l : List (Str × Str)}
theorem enter_call (B : Below A₀ base outer h₀) (F : Fr h₀ L s.heap m) (N : News h₀ L s.heap news) (XB : (hd.heap_39 w.params).In base) (TB : Top p loose mean mg mb base) (hf : env.frame = some L) (hke : env.scope.kind = .function)
    (hS : ∀ q ∈ [(sl, listOf (ds ++ [Value.ref d]).toArray n1), (tl, listOf ts.toArray n2)], q ∈ news) (hne : @Ne Nat sl tl) (hn : NamesAt base nm sl tl) (hr : RowAt base r l) (hD : DictAt w base d D) (hD64 : D.length ≤ 1000) (hds : ds.length ≤ 1000) (hts : ts.length ≤ 1000) (hl64 : l.length ≤ 64) (hok : ∀ q ∈ l, PairOk q)
    (hdp : dp + 16 < recursionLimit) (hun : un + 16 * 16 + 100 < cLine)
    (h : ∀ v h' tk, (subG s [(sl, listOf (ds ++ [Value.ref d]).toArray n1), (tl, listOf ts.toArray n2)]).StaysIn h' → EnterOk w sl tl d D l ds ts n1 n2 (subG s [(sl, listOf (ds ++ [Value.ref d]).toArray n1), (tl, listOf ts.toArray n2)]) v h' → Q v { s with heap := h', toks := tk })
    (he : BadIn l → ∀ e h' tk, XR (subG s [(sl, listOf (ds ++ [Value.ref d]).toArray n1), (tl, listOf ts.toArray n2)]) (env :: outer) e [(sl, listOf (ds ++ [Value.ref d]).toArray n1), (tl, listOf ts.toArray n2)] h' → E (.ref e) { s with heap := h', toks := tk }) :
    wpAny (model PySem.Challenge.rw_nu0058_01.row.prog w) (Ar dp un gd (env :: outer)) (call (.ref 154) [.ref nm, .ref r]) Q E s := by
  obtain ⟨G', S', bs⟩ := Gd.sub (lvl := 16) (gd := gd) (un := un) (dp := dp) B F N XB TB hf hke hS hdp hun
  exact wpAny_call (enterSpec G' hne S' (hn.keep bs) (hr.keep bs) (hD.keep bs) hD64 hds hts hl64 hok (fun hb v h' tk k1 k2 => h v h' tk k1 ⟨hb, k2⟩) he)
theorem check_call (B : Below A₀ base outer h₀) (F : Fr h₀ L s.heap m) (N : News h₀ L s.heap news) (XB : (hd.heap_39 w.params).In base) (TB : Top p loose mean mg mb base) (hf : env.frame = some L) (hke : env.scope.kind = .function)
    (hS : ∀ q ∈ [(sl, listOf (ds ++ [Value.ref d]).toArray n1)], q ∈ news) (hn : NamesAt base nm sl tl) (hr : RowAt base r l) (hD : DictAt w base d D) (hl64 : l.length ≤ 64) (hok : ∀ q ∈ l, q.1 ∈ plainNames)
    (hdp : dp + 16 < recursionLimit) (hun : un + 16 * 16 + 100 < cLine)
    (h : CheckOk D l → ∀ h' tk, (subG s [(sl, listOf (ds ++ [Value.ref d]).toArray n1)]).StaysIn h' → Sep (subG s [(sl, listOf (ds ++ [Value.ref d]).toArray n1)]) h' [(sl, listOf (ds ++ [Value.ref d]).toArray n1)] → Q .none { s with heap := h', toks := tk })
    (he : ¬ CheckOk D l → ∀ e h' tk, XR (subG s [(sl, listOf (ds ++ [Value.ref d]).toArray n1)]) (env :: outer) e [(sl, listOf (ds ++ [Value.ref d]).toArray n1)] h' → E (.ref e) { s with heap := h', toks := tk }) :
    wpAny (model PySem.Challenge.rw_nu0058_01.row.prog w) (Ar dp un gd (env :: outer)) (call (.ref 197) [.ref nm, .ref r]) Q E s := by
  obtain ⟨G', S', bs⟩ := Gd.sub (lvl := 16) (gd := gd) (un := un) (dp := dp) B F N XB TB hf hke hS hdp hun
  exact wpAny_call (checkSpec G' S' (hn.keep bs) (hr.keep bs) (hD.keep bs) hl64 hok h he)
end
set_option maxHeartbeats 4000000 in
theorem lamEnter {w : World} {p : Program} {loose : List Str} {mean : ExcName → Option Value} {mg mb : Str → Option Value} {dp un : Nat} {gd : Option (List Code)} {outer : List Env} {base : Heap}
    {fl c' cN cP nm sl tl d r : Addr} {qual : Str} {pm ctv : Value} {p1 p3 : Pos} {a1 a2 a3 b1 b2 b3 : Nat} {oN oP : Obj} {ds ts : List Value} {n1 n2 : Nat} {D l : List (Str × Str)}
    (hfo : base.get? fl = some (kla_obj (Str.ofString "<lambda>") qual noParams (.Call (.Attribute (.Name (Str.ofString "names") p1) (Str.ofString "enter") ⟨a1, a2, 203, a3⟩) [.Name (Str.ofString "row") p3] [] ⟨203, b1, b2, b3⟩) (freeScope [(Str.ofString "names", .free), (Str.ofString "row", .free)]) [(Str.ofString "row", cP), (Str.ofString "names", cN)] pm c' ctv))
    (hcd : base.CodeRec (.ref c') qual) (hN : base.get? cN = some oN) (dN : oN.data = .cell (some (.ref nm))) (hP : base.get? cP = some oP) (dP : oP.data = .cell (some (.ref r))) (hne : @Ne Nat sl tl) (hn : NamesAt base nm sl tl) (hr : RowAt base r l) (hD : DictAt w base d D) (hD64 : D.length ≤ 1000) (hds : ds.length ≤ 1000) (hts : ts.length ≤ 1000) (hl64 : l.length ≤ 64) (hok : ∀ q ∈ l, PairOk q) :
    CallC w p loose mean mg mb 19 dp un gd outer base fl [] [(sl, listOf (ds ++ [Value.ref d]).toArray n1), (tl, listOf ts.toArray n2)] (EnterOk w sl tl d D l ds ts n1 n2) (BadIn l) := by
  intro env' g base' s R bs G N hret herr
  replace hn := hn.keep bs
  replace hD := hD.keep bs
  replace hr := hr.keep bs
  have X := G.X
  have T := G.T
  obtain ⟨B, XB, TB, full, st, sz, hdp, hun⟩ := G
  have hN1 := B.stays _ _ (bs _ _ hN)
  have hP1 := B.stays _ _ (bs _ _ hP)
  obtain ⟨dx, k1, k2, h1, h2, nn, hn1, hn2⟩ := (hn.keep B.stays).obj
  have hfill : (PySem.Challenge.rw_nu0058_01.row.prog = PySem.Challenge.rw_nu0058_01.row.prog) ∧ (hd.heap_39 = hd.heap_39) → True := fun _ => trivial
  revert hfill; k_fill; intro hfill; clear hfill
  refine' enterLE (args := ⟨[], []⟩) (binds := []) B T st sz N (B.stays _ _ (bs _ _ hfo)) ((hcd.keeps bs).keeps B.stays) (by k_room) rfl (by decide) ?_ (by decide)
  k_whole
  intro L' h' F' N' l1; (try k_lt l1); (try dsimp only); (try k_fold)
  w_strict k_steps
  all_goals (try dsimp only)
  (rename Fr _ _ _ _ => F1); (rename News _ _ _ _ => N1)
  refine enter_call (l := l) B F1 N1 XB TB rfl rfl (fun _ h => h) hne hn hr hD hD64 hds hts hl64 hok (by k_room) (by k_units) (fun v h' tk k x => ?_) (fun hb e h' tk xr => ?_)
  · exact hret v h' tk (fun b o e => k _ _ (stays_sub F1 N1 _ _ e)) (x.weak (stays_sub F1 N1))
  · exact leave_on0 B F1 N1 (fun _ h => h) xr fun h'' xr' => herr _ _ _ hb xr'
set_option maxHeartbeats 4000000 in
theorem lamCheck {w : World} {p : Program} {loose : List Str} {mean : ExcName → Option Value} {mg mb : Str → Option Value} {dp un : Nat} {gd : Option (List Code)} {outer : List Env} {base : Heap}
    {fl c' cN cP nm sl tl d r : Addr} {qual : Str} {pm ctv : Value} {p1 p3 : Pos} {a1 a2 a3 b1 b2 b3 : Nat} {oN oP : Obj} {ds : List Value} {n1 : Nat} {D l : List (Str × Str)}
    (hfo : base.get? fl = some (kla_obj (Str.ofString "<lambda>") qual noParams (.Call (.Attribute (.Name (Str.ofString "names") p1) (Str.ofString "check_attributes") ⟨a1, a2, 216, a3⟩) [.Name (Str.ofString "others") p3] [] ⟨216, b1, b2, b3⟩) (freeScope [(Str.ofString "names", .free), (Str.ofString "others", .free)]) [(Str.ofString "others", cP), (Str.ofString "names", cN)] pm c' ctv))
    (hcd : base.CodeRec (.ref c') qual) (hN : base.get? cN = some oN) (dN : oN.data = .cell (some (.ref nm))) (hP : base.get? cP = some oP) (dP : oP.data = .cell (some (.ref r))) (hn : NamesAt base nm sl tl) (hr : RowAt base r l) (hD : DictAt w base d D) (hl64 : l.length ≤ 64) (hok : ∀ q ∈ l, q.1 ∈ plainNames) :
    CallC w p loose mean mg mb 19 dp un gd outer base fl [] [(sl, listOf (ds ++ [Value.ref d]).toArray n1)] (fun g v h' => CheckOk D l ∧ v = .none ∧ Sep g h' [(sl, listOf (ds ++ [Value.ref d]).toArray n1)]) (¬ CheckOk D l) := by
  intro env' g base' s R bs G N hret herr
  replace hn := hn.keep bs
  replace hD := hD.keep bs
  replace hr := hr.keep bs
  have X := G.X
  have T := G.T
  obtain ⟨B, XB, TB, full, st, sz, hdp, hun⟩ := G
  have hN1 := B.stays _ _ (bs _ _ hN)
  have hP1 := B.stays _ _ (bs _ _ hP)
  obtain ⟨dx, k1, k2, h1, h2, nn, hn1, hn2⟩ := (hn.keep B.stays).obj
  have hfill : (PySem.Challenge.rw_nu0058_01.row.prog = PySem.Challenge.rw_nu0058_01.row.prog) ∧ (hd.heap_39 = hd.heap_39) → True := fun _ => trivial
  revert hfill; k_fill; intro hfill; clear hfill
  refine' enterLE (args := ⟨[], []⟩) (binds := []) B T st sz N (B.stays _ _ (bs _ _ hfo)) ((hcd.keeps bs).keeps B.stays) (by k_room) rfl (by decide) ?_ (by decide)
  k_whole
  intro L' h' F' N' l1; (try k_lt l1); (try dsimp only); (try k_fold)
  w_strict k_steps
  all_goals (try dsimp only)
  (rename Fr _ _ _ _ => F1); (rename News _ _ _ _ => N1)
  refine check_call (l := l) (D := D) B F1 N1 XB TB rfl rfl (fun _ h => h) hn hr hD hl64 hok (by k_room) (by k_units) (fun hc h' tk k x => ?_) (fun hb e h' tk xr => ?_)
  · exact hret _ h' tk (fun b o e => k _ _ (stays_sub F1 N1 _ _ e)) ⟨hc, rfl, x.weak (stays_sub F1 N1)⟩
  · exact leave_on0 B F1 N1 (fun _ h => h) xr fun h'' xr' => herr _ _ _ hb xr'
end part35_olams
theorem off_part36_otold : True := by w_top off; trivial
section
variable {w : World} {p : Program} {loose : List Str} {mean : ExcName → Option Value} {mg mb : Str → Option Value} {dp un : Nat} {gd : Option (List Code)} {outer : List Env} {A₀ : Around} {base h₀ : Heap} {s : Shared}
  {L : Addr} {m : Str → Option Value} {env : Env} {news : List (Addr × Obj)} {Q E : Value → Shared → Prop}
theorem drawn_call {src : Addr} {so : Obj} (B : Below A₀ base outer h₀) (F : Fr h₀ L s.heap m) (N : News h₀ L s.heap news) (hsrc : (src, so) ∈ news) (hso : SrcO so) (XB : (hd.heap_39 w.params).In base) (TB : Top p loose mean mg mb base) (hf : env.frame = some L) (hke : env.scope.kind = .function)
    (hdp : dp + 8 < recursionLimit) (hun : un + 16 * 8 + 100 < cLine)
    (h : ∀ ro fs n T l so' h' tk, (∀ q ∈ l, PairOk q) → l.length ≤ 64 → PairsIn T fs l → (ro, tupO fs n) ∈ T → ApartT T src → SrcO so' → Fr h₀ L h' m → (∀ rest : List (Addr × Obj), (∀ q ∈ rest, q ∈ news ∧ src ≠ q.1) → News h₀ L h' ((src, so') :: (T ++ rest)) ∧ ∀ r ∈ rest, ApartT T r.1) → Q (.ref ro) { s with heap := h', toks := tk }) :
    wpAny (model PySem.Challenge.rw_nu0058_01.row.prog w) (Ar dp un gd (env :: outer)) (call (.ref 251) [.ref src]) Q E s := by
  have hS := one_in N hsrc
  obtain ⟨G', S', bs⟩ := Gd.sub (lvl := 8) (gd := gd) (un := un) (dp := dp) B F N XB TB hf hke hS hdp hun
  refine wpAny_call (drawnSpec G' S' hso fun ro fs n T l so' h' tk a b c d e f k1 k2 => h ro fs n T l so' h' tk a b c d e f (backF F N hS k1) fun rest hr => ⟨?_, fun r hr' q hq e => ?_⟩)
  · have N1 := backS F N hS k2
    have N2 := backO N k1 (rest := rest) fun q hq => ⟨(hr q hq).1, fun p hp => by rw [List.mem_singleton.mp hp]; exact (hr q hq).2⟩
    intro q hq
    rcases List.mem_cons.mp hq with rfl | hq
    · exact N1 _ (.head _)
    · rcases List.mem_append.mp hq with hq | hq
      · exact N1 _ (.tail _ hq)
      · exact N2 q hq
  · exact backNe N k2 (hr r hr').1 (fun p hp => by rw [List.mem_singleton.mp hp]; exact (hr r hr').2) (.tail _ hq) e.symm
theorem enter_told {fl c' cN cP nm sl tl d r : Addr} {qual : Str} {pm ctv : Value} {p1 p3 : Pos} {a1 a2 a3 b1 b2 b3 : Nat} {oN oP oc : Obj} {t5 : Tok} {vs5 : Array Value} {ds ts fs : List Value} {n1 n2 nr : Nat} {D l : List (Str × Str)} {T : List (Addr × Obj)}
    (B : Below A₀ base outer h₀) (full : ∀ b o, h₀.get? b = some o → b ∉ frs outer → base.get? b = some o) (F : Fr h₀ L s.heap m) (N : News h₀ L s.heap news) (XB : (hd.heap_39 w.params).In base) (TB : Top p loose mean mg mb base) (hf : env.frame = some L) (hke : env.scope.kind = .function)
    (hS : ∀ q ∈ [(sl, listOf (ds ++ [Value.ref d]).toArray n1), (tl, listOf ts.toArray n2)], q ∈ news)
    (hfl : (fl, kla_obj (Str.ofString "<lambda>") qual noParams (.Call (.Attribute (.Name (Str.ofString "names") p1) (Str.ofString "enter") ⟨a1, a2, 203, a3⟩) [.Name (Str.ofString "row") p3] [] ⟨203, b1, b2, b3⟩) (freeScope [(Str.ofString "names", .free), (Str.ofString "row", .free)]) [(Str.ofString "row", cP), (Str.ofString "names", cN)] pm c' ctv) ∈ news)
    (hc' : (c', oc) ∈ news) (hd' : oc.data = .fields vs5) (hv' : vs5[1]? = some (.str qual t5)) (hN : (cN, oN) ∈ news) (dN : oN.data = .cell (some (.ref nm))) (hP : (cP, oP) ∈ news) (dP : oP.data = .cell (some (.ref r)))
    (hne : @Ne Nat sl tl) (hn : NamesAt base nm sl tl) (hr : (r, tupO fs nr) ∈ news) (hps : PairsIn T fs l) (hT : ∀ q ∈ T, q ∈ news) (hD : DictAt w base d D) (hD64 : D.length ≤ 1000) (hds : ds.length ≤ 1000) (hts : ts.length ≤ 1000) (hl64 : l.length ≤ 64) (hok : ∀ q ∈ l, PairOk q)
    (hdp : dp + 20 < recursionLimit) (hun : un + 16 * 20 + 100 < cLine)
    (h : ¬ BadIn l → ∀ ro tr d' os fs' ko kt T' h' tk, Fr h₀ L h' m → (∀ rest : List (Addr × Obj), (∀ q ∈ rest, q ∈ news ∧ sl ≠ q.1 ∧ tl ≠ q.1) → News h₀ L h' ((sl, listOf (ds ++ [Value.ref d, Value.ref d']).toArray (n1 + 1)) :: (tl, listOf (ts ++ [Value.ref tr]).toArray (n2 + 1)) :: (T' ++ rest)) ∧ ∀ r ∈ rest, ApartT T' r.1) →
      (ro, tupO os ko) ∈ T' → PairsIn T' os (othersOf l) → (tr, tupO fs' kt) ∈ T' → PairsIn T' fs' (mineOf l) → ((d' = d ∧ mineOf l = []) ∨ DictIn w T' d' (puts D (mineOf l))) → ApartT T' sl → ApartT T' tl → Q (.ref ro) { s with heap := h', toks := tk })
    (h2 : BadIn l → ∀ t h' tk g', GR A₀ base h₀ outer g' → Fr g' L h' m → News g' L h' news → Q (.str (Str.ofString "refused") t) { s with heap := h', toks := tk }) :
    wpAny (model PySem.Challenge.rw_nu0058_01.row.prog w) (Ar dp un gd (env :: outer)) (call (.ref 239) [.ref fl]) Q E s := by
  have m1 := hS _ (.head _)
  have m2 := hS _ (.tail _ (.head _))
  have hSl : ∀ p ∈ [(sl, listOf (ds ++ [Value.ref d]).toArray n1), (tl, listOf ts.toArray n2)], p ∈ news ∧ p.2.cls = .type "list" := List.forall_mem_cons.mpr ⟨⟨m1, rfl⟩, List.forall_mem_cons.mpr ⟨⟨m2, rfl⟩, fun _ h => nomatch h⟩⟩
  have two : ∀ {a o}, (a, o) ∈ news → (∀ vs n, o.data ≠ .seq vs n) → ∀ p ∈ [(sl, listOf (ds ++ [Value.ref d]).toArray n1), (tl, listOf ts.toArray n2)], p.1 ≠ a := fun ha hd => List.forall_mem_cons.mpr ⟨data_ne N m1 ha fun e => hd _ _ e.symm, List.forall_mem_cons.mpr ⟨data_ne N m2 ha fun e => hd _ _ e.symm, fun _ h => nomatch h⟩⟩
  have q0 := two hfl (by intro _ _ h; cases h)
  have q1 := two hc' (by rw [hd']; intro _ _ h; cases h)
  have q2 := two hN (by rw [dN]; intro _ _ h; cases h)
  have q3 := two hP (by rw [dP]; intro _ _ h; cases h)
  refine told_call [(sl, listOf (ds ++ [Value.ref d]).toArray n1), (tl, listOf ts.toArray n2)] (EnterOk w sl tl d D l ds ts n1 n2) (BadIn l) B full F N XB TB hf hke hS hfl q0 rfl hdp hun
    (fun bs6 at6 => lamEnter (at6 _ hfl q0) ⟨c', oc, vs5, t5, rfl, at6 _ hc' q1, hd', hv'⟩ (at6 _ hN q2) dN (at6 _ hP q3) dP hne (hn.keep bs6) (row_sub hps hr B N hf hT hSl) (hD.keep bs6) hD64 hds hts hl64 hok) (fun _ _ _ _ k x => x.weak k) ?_ ?_
  · rintro v h' tk k1 ⟨hb, ro, tr, d', os, fs', ko, kt, T', rfl, k2, a1, a2, a3, a4, a5, a6, a7⟩
    refine h hb ro tr d' os fs' ko kt T' h' tk (backF F N hS k1) (fun rest hr => ⟨?_, fun r hr' q hq e => ?_⟩) a1 a2 a3 a4 a5 a6 a7
    · have N1 := backS F N hS k2
      have N2 := backO N k1 (rest := rest) fun q hq => ⟨(hr q hq).1, List.forall_mem_cons.mpr ⟨(hr q hq).2.1, List.forall_mem_cons.mpr ⟨(hr q hq).2.2, fun _ h => nomatch h⟩⟩⟩
      intro q hq
      rcases List.mem_cons.mp hq with rfl | hq
      · exact N1 _ (.head _)
      · rcases List.mem_cons.mp hq with rfl | hq
        · exact N1 _ (.tail _ (.head _))
        · rcases List.mem_append.mp hq with hq | hq
          · exact N1 _ (.tail _ (.tail _ hq))
          · exact N2 q hq
    · exact backNe N k2 (hr r hr').1 (List.forall_mem_cons.mpr ⟨(hr r hr').2.1, List.forall_mem_cons.mpr ⟨(hr r hr').2.2, fun _ h => nomatch h⟩⟩) (.tail _ (.tail _ hq)) e.symm
  · exact fun t h' tk g' hb gr F' N' => h2 hb t h' tk g' gr F' N'
theorem check_told {fl c' cN cP nm sl tl d r : Addr} {qual : Str} {pm ctv : Value} {p1 p3 : Pos} {a1 a2 a3 b1 b2 b3 : Nat} {oN oP oc : Obj} {t5 : Tok} {vs5 : Array Value} {ds fs : List Value} {n1 nr : Nat} {D l : List (Str × Str)} {T : List (Addr × Obj)}
    (B : Below A₀ base outer h₀) (full : ∀ b o, h₀.get? b = some o → b ∉ frs outer → base.get? b = some o) (F : Fr h₀ L s.heap m) (N : News h₀ L s.heap news) (XB : (hd.heap_39 w.params).In base) (TB : Top p loose mean mg mb base) (hf : env.frame = some L) (hke : env.scope.kind = .function)
    (hm : (sl, listOf (ds ++ [Value.ref d]).toArray n1) ∈ news)
    (hfl : (fl, kla_obj (Str.ofString "<lambda>") qual noParams (.Call (.Attribute (.Name (Str.ofString "names") p1) (Str.ofString "check_attributes") ⟨a1, a2, 216, a3⟩) [.Name (Str.ofString "others") p3] [] ⟨216, b1, b2, b3⟩) (freeScope [(Str.ofString "names", .free), (Str.ofString "others", .free)]) [(Str.ofString "others", cP), (Str.ofString "names", cN)] pm c' ctv) ∈ news)
    (hc' : (c', oc) ∈ news) (hd' : oc.data = .fields vs5) (hv' : vs5[1]? = some (.str qual t5)) (hN : (cN, oN) ∈ news) (dN : oN.data = .cell (some (.ref nm))) (hP : (cP, oP) ∈ news) (dP : oP.data = .cell (some (.ref r)))
    (hn : NamesAt base nm sl tl) (hr : (r, tupO fs nr) ∈ news) (hps : PairsIn T fs l) (hT : ∀ q ∈ T, q ∈ news) (hD : DictAt w base d D ∨ DictIn w news d D) (hl64 : l.length ≤ 64) (hok : ∀ q ∈ l, q.1 ∈ plainNames)
    (hdp : dp + 20 < recursionLimit) (hun : un + 16 * 20 + 100 < cLine)
    (h : CheckOk D l → ∀ h' tk, Fr h₀ L h' m → News h₀ L h' news → Q .none { s with heap := h', toks := tk })
    (h2 : ¬ CheckOk D l → ∀ t h' tk g', GR A₀ base h₀ outer g' → Fr g' L h' m → News g' L h' news → Q (.str (Str.ofString "refused") t) { s with heap := h', toks := tk }) :
    wpAny (model PySem.Challenge.rw_nu0058_01.row.prog w) (Ar dp un gd (env :: outer)) (call (.ref 239) [.ref fl]) Q E s := by
  have hS := one_in N hm
  have q0 := one_ne (o := listOf (ds ++ [Value.ref d]).toArray n1) (data_ne N hm hfl (by intro h; cases h))
  have q1 := one_ne (o := listOf (ds ++ [Value.ref d]).toArray n1) (data_ne N hm hc' (by rw [hd']; intro h; cases h))
  have q2 := one_ne (o := listOf (ds ++ [Value.ref d]).toArray n1) (data_ne N hm hN (by rw [dN]; intro h; cases h))
  have q3 := one_ne (o := listOf (ds ++ [Value.ref d]).toArray n1) (data_ne N hm hP (by rw [dP]; intro h; cases h))
  have hSl : ∀ p ∈ [(sl, listOf (ds ++ [Value.ref d]).toArray n1)], p ∈ news ∧ p.2.cls = .type "list" := List.forall_mem_cons.mpr ⟨⟨hm, rfl⟩, fun _ h => nomatch h⟩
  refine told_call [(sl, listOf (ds ++ [Value.ref d]).toArray n1)] (fun g v h' => CheckOk D l ∧ v = .none ∧ Sep g h' [(sl, listOf (ds ++ [Value.ref d]).toArray n1)]) (¬ CheckOk D l) B full F N XB TB hf hke hS hfl q0 rfl hdp hun
    (fun bs6 at6 => lamCheck (at6 _ hfl q0) ⟨c', oc, vs5, t5, rfl, at6 _ hc' q1, hd', hv'⟩ (at6 _ hN q2) dN (at6 _ hP q3) dP (hn.keep bs6) (row_sub hps hr B N hf hT hSl) ?_ hl64 hok) (fun _ _ _ _ k x => ⟨x.1, x.2.1, x.2.2.weak k⟩) ?_ ?_
  · rcases hD with hD | ⟨a, o, b, c⟩
    · exact hD.keep bs6
    · exact ⟨a, o, at6 _ b (one_ne (ne_cls N hm b (by rw [c.cls]; show Value.type "list" ≠ Value.type "dict"; intro e; injection e with e; revert e; decide))), c⟩
  · rintro v h' tk k1 ⟨hc, rfl, k2⟩
    exact h hc h' tk (backF F N hS k1) (backN F N hS k1 k2)
  · exact fun t h' tk g' hb gr F' N' => h2 hb t h' tk g' gr F' N'
end
theorem off_part32_pairblk : True := by w_top off; trivial
open PyProof.Rows.LCg PyProof.Rows.LCp
theorem let_tuple_iter {prog : Program} {w : World} {A : Around} {E : Value → Shared → Prop} {s : Shared} {I t : Addr} {i : Nat} {elts : List PySem.Expr} {kk : Nat} {tp : Pos} {v : Value} {Q : Unit → Shared → Prop} (hit : s.heap.IsTupleIter I t i) (hq : Q () s) :
    wpAny (model prog w) A (letOwnedTupleGo (.Tuple elts kk tp) (.ref I) v) Q E s := by
  obtain ⟨o, ho, hc, hd⟩ := hit
  cases v with
  | ref a =>
    unfold letOwnedTupleGo
    refine wpAny_bind (wpAny_load ho ?_)
    rw [hc, hd]
    show wpAny _ A (if (["enumerate", "zip", "dict_itemiterator", "dict_reverseitemiterator", "odict_iterator", "itertools.zip_longest", "itertools.pairwise"].contains "tuple_iterator" &&
      (#[.ref t, .int i 0] : Array Value)[0]? == some (rawInt a)) = true then _ else _) Q E s
    rw [if_neg (by
      intro h
      rw [show (["enumerate", "zip", "dict_itemiterator", "dict_reverseitemiterator", "odict_iterator", "itertools.zip_longest", "itertools.pairwise"].contains "tuple_iterator") = false from by decide, Bool.false_and] at h
      cases h)]
    exact wpAny_pure hq
  | _ => exact wpAny_pure hq
section
variable {prog : Program} {w : World} {A : Around} {E : Value → Shared → Prop} {s : Shared} {h₀ : Heap} {L : Addr} {m : Str → Option Value} {env : Env}
/-- one turn of `for x, y in ..` within a block, the element aside -/
theorem pair_turn {x y : Str} {px py tp : Pos} {kk : Nat} {scope : Scope} {cl : List (Str × Addr)} {C D I t : Addr} {ot oD : Obj} {v₁ v₂ : Value} {nt : Nat} {news : List (Addr × Obj)} {m' : Str → Option Value} {Q : Unit → Shared → Prop} (hh : A.handled = none)
    (hk : scope.kind = .function) (hx : scope.names.lookup x = some .local) (hy : scope.names.lookup y = some .local) (hxy : x ≠ y) (hI : ∃ o, s.heap.get? I = some o) (hm : (t, ot) ∈ news) (hc : ot.cls = .type "tuple") (hd : ot.data = .seq #[v₁, v₂] nt)
    (F : Fr h₀ L s.heap m) (hn : s.heap.Ns C m') (N : News h₀ L s.heap ((D, oD) :: news)) (off : ∀ p ∈ news, p.1 ≠ C) (hIL : I ≠ L) (hI0 : h₀.get? I = none) (hCL : C ≠ L) (hC0 : h₀.get? C = none) (hCI : I ≠ C) (hDC : D ≠ C)
    (h : ∀ h' tk oI oC m₂, NsObj oC m₂ → m₂ x = some v₁ → m₂ y = some v₂ → Fr h₀ L h' m → News h₀ L h' ((I, oI) :: (C, oC) :: (D, oD) :: news) → (∀ b o, b ≠ C → s.heap.get? b = some o → h'.get? b = some o) → Q () { s with heap := h', toks := tk }) :
    wpAny (model prog w) A (assign (.Tuple [.Name x px, .Name y py] kk tp) (compEnvC scope cl C env) (.ref t)) Q E s := by
  have ht : IsTup s.heap t #[v₁, v₂] := ⟨ot, (N _ (.tail _ hm)).1, hc, nt, hd⟩
  refine assign_Tuple_tuple hh ht rfl rfl fun h₅ he => ?_
  have he' : ∀ b o, s.heap.get? b = some o → h₅.get? b = some o := fun b o e => he b o (Nat.ne_of_lt (Heap.lt_size e)) e
  refine assignInOrder_cons (wpAny_assign_Name (wpAny_storeName_local (lookup_relabel_local hx) (hn.at' fun o e => he' _ o e) (fun h₆ hn₆ hs₆ => ?_) (by simp [compEnvC, relabel, hk])))
  refine assignInOrder_cons (wpAny_assign_Name (wpAny_storeName_local (lookup_relabel_local hy) hn₆ (fun h₃ hn₃ hs₃ => ?_) (by simp [compEnvC, relabel, hk])))
  refine assignInOrder_nil ?_
  have up : ∀ b o, b ≠ C → s.heap.get? b = some o → h₃.get? b = some o := fun b o hb e => hs₃.extBut b o hb (hs₆.extBut b o hb (he' b o e))
  obtain ⟨oI, heI⟩ := hI
  obtain ⟨oC, heC, hoC⟩ := ns_obj hn₃
  refine h h₃ _ oI oC _ hoC (by simp [hxy]) (by simp) (((F.keeps he').change hs₆ hCL hC0).change hs₃ hCL hC0) (fun p hp => ?_) up
  rcases List.mem_cons.mp hp with rfl | hp
  · exact ⟨up _ _ hCI heI, hIL, hI0⟩
  · rcases List.mem_cons.mp hp with rfl | hp
    · exact ⟨heC, hCL, hC0⟩
    · refine ⟨up _ _ ?_ (N p hp).1, (N p hp).2⟩
      rcases List.mem_cons.mp hp with rfl | hp
      · exact hDC
      · exact off p hp
/-- `[elt for x, y in (a tuple of the ledger)]` -/
inductive InvPT (prog : Program) (w : World) (A : Around) (h₀ : Heap) (L : Addr) (m : Str → Option Value) (env : Env) (elt : PySem.Expr) (x y : Str) (scope : Scope) (cl : List (Str × Addr)) (s₂ : Shared) (Q : Value → Shared → Prop) (I C D ax k0 : Nat) (vs : List Value) (k : Nat) (s' : Shared) : Prop
  | mk (h' : Heap) (tk i : Nat) (ys : List Value) (m' : Str → Option Value) (news' : List (Addr × Obj)) (_ : s' = { s₂ with heap := h', toks := tk }) (_ : i ≤ vs.length) (_ : k = vs.length + 1 - i) (_ : ys.length = i) (_ : h'.IsTupleIter I ax i ∧ h'.IsTuple ax vs.toArray) (_ : Fr h₀ L h' m) (_ : h'.Ns C m') (_ : News h₀ L h' ((D, lst ys) :: news'))
    (_ : Off3 I C D news') (_ : (ax, tupO vs k0) ∈ news') (_ : CompRestP prog w A h₀ L m env elt x y scope cl s₂ (fun nw => (ax, tupO vs k0) ∈ nw) (fun i v => vs[i]? = some v) (FinE h₀ L m s₂ Q) (vs.length - i) i ys news') : InvPT prog w A h₀ L m env elt x y scope cl s₂ Q I C D ax k0 vs k s'
theorem ListComp_PT {elt iter : PySem.Expr} {x y : Str} {px py tp : Pos} {kk : Nat} {scope : Scope} {cl : List (Str × Addr)} {pos : Pos} {Q : Value → Shared → Prop} (_F₀ : Fr h₀ L s.heap m)
    (hclos : closureFor scope env = pure cl) (hcell : ∀ y ∈ scope.names, y.2 ≠ .cell) (hkind : scope.kind = .function)
    (hnames : ∀ y ∈ scope.names, y.2 = .local → scope.names.lookup y.1 = some .local) (hx : scope.names.lookup x = some .local) (hy : scope.names.lookup y = some .local) (hxy : x ≠ y)
    (h : wpAny (model prog w) A (eval iter env) (fun xv s₁ => ∃ (ax : Addr) (vs : List Value) (k : Nat) (news : List (Addr × Obj)), xv = .ref ax ∧ A.handled = none ∧ Fr h₀ L s₁.heap m ∧ News h₀ L s₁.heap news ∧ (ax, tupO vs k) ∈ news ∧ vs.length ≤ sizeLine ∧
      ∀ g, CompRestP prog w A h₀ L m env elt x y scope cl { s₁ with heap := g } (fun nw => (ax, tupO vs k) ∈ nw) (fun i v => vs[i]? = some v) (FinE h₀ L m { s₁ with heap := g } Q) vs.length 0 [] news) E s)
    (hs : ∀ x, foldedSetIterable iter env x = pure x := by intro _; rfl) :
    wpAny (model prog w) A (eval (.ListComp elt [⟨.Tuple [.Name x px, .Name y py] kk tp, iter, [], 0⟩] scope pos) env) Q E s := by
  rw [eval_ListComp]
  refine wpAny_comprehension_free (use := none) rfl hs hclos hkind hnames (wpAny_mono h (fun xv s₁ h₁ => ?_) fun _ _ e => e)
  obtain ⟨ax, vs, k0, news, rfl, hh, F, N, hm, hsz, R⟩ := h₁
  have ht : s₁.heap.IsTuple ax vs.toArray := ⟨_, (N _ hm).1, rfl, k0, rfl⟩
  refine wpAny_pyIter_tuple ht ?_
  have W := Walks.tuple (prog := prog) (w := w) hh s₁.heap.objs.size ax (Nat.ne_of_lt (Heap.lt_size (N _ hm).1)) vs.toArray
  have hlen : vs.toArray.size = vs.length := by simp
  rw [hlen] at W
  generalize hs2 : ({ s₁ with heap := s₁.heap.push { cls := .type "tuple_iterator", data := .fields #[.ref ax, .int 0 0] } } : Shared) = s₂
  have hIlt : s₁.heap.objs.size < s₂.heap.objs.size := by rw [← hs2]; show _ < (s₁.heap.push _).objs.size; rw [Heap.size_push]; exact Nat.lt_succ_self _
  have hst : s₂.heap.IsTupleIter s₁.heap.objs.size ax 0 ∧ s₂.heap.IsTuple ax vs.toArray := by rw [← hs2]; exact ⟨⟨_, Heap.get?_push_size _ rfl, rfl, rfl⟩, ⟨_, Heap.get?_push_of_some _ (N _ hm).1, rfl, k0, rfl⟩⟩
  have hIL : L ≠ s₁.heap.objs.size := Nat.ne_of_lt F.ns.lt
  have hI₀ : h₀.get? s₁.heap.objs.size = none := next_is_new F
  have off : ∀ p ∈ news, p.1 ≠ s₁.heap.objs.size := fun p hp => Nat.ne_of_lt (Heap.lt_size (N p hp).1)
  replace F : Fr h₀ L s₂.heap m := by rw [← hs2]; exact F.push _
  replace N : News h₀ L s₂.heap news := by rw [← hs2]; exact fun p hp => ⟨Heap.get?_push_of_some _ (N p hp).1, (N p hp).2⟩
  replace R := R s₂.heap
  rw [show ({ s₁ with heap := s₂.heap } : Shared) = s₂ from by rw [← hs2]] at R
  generalize s₁.heap.objs.size = I at W hIlt hst hIL hI₀ off
  refine wpAny_newObj_type (wpAny_newFunctionEnv hcell (by intro y hy; simp at hy) (fun h₁ hns₁ hsb₁ => ?_) hkind)
  dsimp only at hns₁ hsb₁ ⊢
  generalize hH2 : s₂.heap.push { cls := .type "list", dict := none, data := .seq ([] : List Value).toArray } = H2 at hns₁ hsb₁ ⊢
  have hC : H2.objs.size = s₂.heap.objs.size + 1 := by rw [← hH2, Heap.size_push]
  generalize hDd : s₂.heap.objs.size = D at hC hIlt ⊢
  generalize hCc : H2.objs.size = C at hC hns₁ hsb₁ ⊢
  have old : ∀ b o, s₂.heap.get? b = some o → h₁.get? b = some o := fun b o e => hsb₁.extBut b o (by have := Heap.lt_size e; rw [hDd] at this; rw [hC]; exact Nat.ne_of_lt (Nat.lt_succ_of_lt this)) (Heap.get?_push_of_some _ (hH2 ▸ Heap.get?_push_of_some _ e))
  have hDC : D ≠ C := by rw [hC]; exact Nat.ne_of_lt (Nat.lt_succ_self _)
  have hacc : h₁.get? D = some (lst []) := hsb₁.extBut _ _ hDC (Heap.get?_push_of_some _ (hH2 ▸ hDd ▸ Heap.get?_push_size _ rfl))
  have fresh₀ : ∀ a, D ≤ a → h₀.get? a = none := fun a ha => by
    cases e : h₀.get? a with
    | none => rfl
    | some o' => exact absurd (Heap.lt_size (F.keep a o' e)) (by rw [hDd]; exact Nat.not_lt.mpr ha)
  have hD₀ : h₀.get? D = none := fresh₀ _ (Nat.le_refl _)
  have hC₀ : h₀.get? C = none := fresh₀ _ (by rw [hC]; exact Nat.le_succ _)
  have hLlt : L < D := hDd ▸ F.ns.lt
  have hDL : D ≠ L := Nat.ne_of_gt hLlt
  have hCL : C ≠ L := by rw [hC]; exact Nat.ne_of_gt (Nat.lt_succ_of_lt hLlt)
  have hCI : I ≠ C := by rw [hC]; exact Nat.ne_of_lt (Nat.lt_succ_of_lt hIlt)
  have hDI : I ≠ D := Nat.ne_of_lt hIlt
  have off₀ : Off3 I C D news := Off3.of fun p hp => by
    have hp' := Heap.lt_size (N p hp).1
    rw [hDd] at hp'
    exact ⟨off p hp, by rw [hC]; exact Nat.ne_of_lt (Nat.lt_succ_of_lt hp'), Nat.ne_of_lt hp'⟩
  have fin : ∀ D C h tk m' ys news', Fr h₀ L h m → News h₀ L h ((D, lst ys) :: news') → Off1 D news' → h.Ns C m' → h₀.get? C = none → C ≠ L → C ≠ D → (∀ p ∈ news', p.1 ≠ C) → FinE h₀ L m s₂ Q ys news' →
      ∃ m', h.Ns C m' ∧ ∀ h'', h.SameBut C h'' → Q (.ref D) { s₂ with heap := h'', toks := tk } := by
    intro D C h tk m' ys news' F' N' o1 hn hC0 hCL hCD offC fin
    refine ⟨m', hn, fun h'' hs'' => fin D h'' tk (F'.change hs'' hCL hC0) (fun p hp => ?_) o1⟩
    refine ⟨hs''.extBut _ _ ?_ (N' p hp).1, (N' p hp).2⟩
    rcases List.mem_cons.mp hp with rfl | hp
    · exact Ne.symm hCD
    · exact offC p hp
  have loop : ∀ s₃ : Shared, s₃ = { s₂ with heap := h₁, toks := s₂.toks + ([] : List (Str × Value)).length } →
      codeAny (model prog w) A (.compLoop (.ListComp elt [⟨.Tuple [.Name x px, .Name y py] kk tp, iter, [], 0⟩] scope pos) 0 (.ref I) (.ref D) (compEnvC scope cl C env)) (compPost (model prog w) A E none Q (.ref D) C) s₃ := by
    rintro s₃ rfl
    refine codeAny_compLoop_pair
      (InvPT prog w A h₀ L m env elt x y scope cl s₂ Q I C D ax k0 vs) ?_ (vs.length + 1)
      ⟨h₁, _, 0, [], _, news, rfl, Nat.zero_le _, rfl, rfl, ⟨hst.1.at (old _), hst.2.at (old _)⟩, F.keeps old, hns₁, fun p hp => ?_, off₀, hm, R⟩
    · rintro k s' ⟨h', tk, i, ys, m', news', rfl, hi, rfl, hyl, hst', F', hn', N', off', hS', R'⟩
      have off3 := off'.mem
      by_cases hlt : i < vs.length
      · obtain ⟨j, hj⟩ : ∃ j, vs.length - i = j + 1 := ⟨vs.length - i - 1, by omega⟩
        rw [hj] at R'
        refine W.item i _ _ _ hlt hst' fun v h₂ tk₂ hPv hst₂ hk₂ => ?_
        obtain ⟨t, ot, v₁, v₂, nt, rfl, hmt, hct, hdt, R''⟩ := R' v (by simpa using hPv)
        have F₂ := fr_but F' hk₂ hIL hI₀
        have N₂ : News h₀ L h₂ ((D, lst ys) :: news') := news_but N' hk₂ fun p hp => by
          rcases List.mem_cons.mp hp with rfl | hp
          · exact Ne.symm hDI
          · exact (off3 p hp).1
        refine let_tuple_iter hst₂.1 ?_
        refine pair_turn hh hkind hx hy hxy (by obtain ⟨o, e, _⟩ := hst₂.1; exact ⟨o, e⟩) hmt hct hdt F₂ (hn'.at' fun o e => hk₂ _ o (by simpa using Ne.symm hCI) e) N₂ (fun p hp => (off3 p hp).2.1) (Ne.symm hIL) hI₀ hCL hC₀ hCI hDC fun h₃ tk₃ oI oC m₂ hoC e1 e2 F₃ N₃ up => ?_
        refine wpAny_mono (R'' I oI C oC D m₂ h₃ _ _ hoC e1 e2 F₃ N₃ off' ⟨hCI, hDI, Ne.symm hDC⟩) (fun yv s₄ h₄ => ?_) fun _ _ e => e
        obtain ⟨h₄, tk₄, news₄, rfl, F₄, N₄, off₄, hS₄, R₄⟩ := h₄
        have zI := (N₄ (I, oI) (.head _)).1
        have zC := (N₄ (C, oC) (.tail _ (.head _))).1
        have zD := (N₄ (D, lst ys) (.tail _ (.tail _ (.head _)))).1
        have off4 := off₄.mem
        have N₄' : News h₀ L h₄ news₄ := fun p hp => N₄ p (.tail _ (.tail _ (.tail _ hp)))
        have it₄ : h₄.IsTupleIter I ax (i + 1) := (hst₂.1.at fun o e => up _ o hCI e).at fun o e => by rw [(N₃ (I, oI) (.head _)).1] at e; cases e; exact zI
        have tp₄ : h₄.IsTuple ax vs.toArray := ⟨_, (N₄' _ hS₄).1, rfl, k0, rfl⟩
        refine append_at (hsz := by show ys.toArray.size ≤ sizeLine; rw [List.size_toArray, hyl]; exact Nat.le_trans hi hsz) zD fun h₅ hs₅ hD₅ => ?_
        refine ⟨vs.length + 1 - (i + 1), sub_dec hlt, h₅, tk₄, i + 1, ys ++ [yv], _, news₄, rfl, hlt, rfl, by rw [List.length_append, List.length_singleton, hyl], ⟨it₄.at fun o e => hs₅.extBut _ o hDI e, tp₄.at fun o e => hs₅.extBut _ o (off4 _ hS₄).2.2 e⟩,
          F₄.change hs₅ hDL hD₀, (hoC.ns zC).sameBut hs₅ (Ne.symm hDC), fun p hp => ?_, off₄, hS₄, ?_⟩
        · rcases List.mem_cons.mp hp with rfl | hp
          · exact ⟨hD₅.trans (congrArg some (lst_snoc ys yv)), hDL, hD₀⟩
          · exact ⟨hs₅.extBut _ _ (off4 p hp).2.2 (N₄' p hp).1, (N₄' p hp).2⟩
        · rw [show vs.length - (i + 1) = j by omega]
          exact R₄
      · obtain rfl : i = vs.length := Nat.le_antisymm hi (Nat.not_lt.mp hlt)
        rw [Nat.sub_self] at R'
        refine W.done _ _ _ hst' fun h₂ tk₂ hk₂ => ?_
        exact fin _ _ h₂ tk₂ _ ys news' (fr_but F' hk₂ hIL hI₀) (news_but N' hk₂ fun p hp => by
          rcases List.mem_cons.mp hp with rfl | hp
          · exact Ne.symm hDI
          · exact (off3 p hp).1) off'.one (hn'.at' fun o e => hk₂ _ o (by simpa using Ne.symm hCI) e) hC₀ hCL (Ne.symm hDC) (fun p hp => (off3 p hp).2.1) R'
    · rcases List.mem_cons.mp hp with rfl | hp
      · exact ⟨hacc, hDL, hD₀⟩
      · exact ⟨old _ _ (N p hp).1, (N p hp).2⟩
  exact codeAny_compStart_list (loop _ rfl) (W.self 0 _ _ _ ⟨hst.1.at (old _), hst.2.at (old _)⟩ (loop _ rfl))
end
theorem off_part33_comps : True := by w_top off; trivial
abbrev pairDat (q : Str × Str) : Dat := .tuple [.str q.1, .str q.2]
theorem PairsIn.dat {T : List (Addr × Obj)} {vs : List Value} {l : List (Str × Str)} (x : PairsIn T vs l) : DatAll T vs (l.map pairDat) := by
  induction x with
  | nil => exact .nil
  | cons e _ ih => exact .cons (.tuple (vs := [.str _ _, .str _ _]) e (.cons (.str _ _) (.cons (.str _ _) .nil))) ih
/-- the element of a comprehension carries d -/
inductive EltDat (h₀ : Heap) (L : Addr) (m : Str → Option Value) (s : Shared) (news : List (Addr × Obj)) (d : Dat) (r : Value) (s' : Shared) : Prop
  | mk (Y h' tk' : _) (_ : s' = { s with heap := h', toks := tk' }) (_ : Fr h₀ L h' m) (_ : News h₀ L h' (Y ++ news)) (_ : DatIn Y r d) (_ : ∀ y ∈ Y, ∀ p ∈ news, p.1 ≠ y.1) : EltDat h₀ L m s news d r s'
/-- what the next turn stands on -/
theorem elt_step {h₀ h : Heap} {L I C D : Addr} {oI oC oD : Obj} {Y news X : List (Addr × Obj)} (N : News h₀ L h (Y ++ (I, oI) :: (C, oC) :: (D, oD) :: (news ++ X))) (off : LCg.Off3 I C D (news ++ X)) (ap : ∀ y ∈ Y, ∀ p ∈ (I, oI) :: (C, oC) :: (D, oD) :: (news ++ X), p.1 ≠ y.1) :
    News h₀ L h ((I, oI) :: (C, oC) :: (D, oD) :: (news ++ (Y ++ X))) ∧ LCg.Off3 I C D (news ++ (Y ++ X)) := by
  have offm := off.mem
  refine ⟨newsPerm N fun p hp => ?_, LCg.Off3.of fun p hp => ?_⟩
  · simp only [List.mem_cons, List.mem_append] at hp ⊢
    rcases hp with h | h | h | h | h | h <;> simp only [h, true_or, or_true]
  · rcases List.mem_append.mp hp with hp | hp
    · exact offm p (List.mem_append_left _ hp)
    · rcases List.mem_append.mp hp with hp | hp
      · exact ⟨Ne.symm (ap p hp _ (.head _)), Ne.symm (ap p hp _ (.tail _ (.head _))), Ne.symm (ap p hp _ (.tail _ (.tail _ (.head _))))⟩
      · exact offm p (List.mem_append_right _ hp)
section
variable {prog : Program} {w : World} {A : Around} {h₀ : Heap} {L : Addr} {m : Str → Option Value} {env : Env} {ct elt : PySem.Expr} {xa xb : Str} {scope : Scope} {cl : List (Str × Addr)} {s : Shared} {S : List (Addr × Obj) → Prop} {Fin : List Value → List (Addr × Obj) → Prop}
  {l : List (Str × Str)} {news T : List (Addr × Obj)} {vs : List Value}
/-- `[f(x, y) for x, y in vs]` -/
theorem compP_dat {P : Nat → Value → Prop} (hps : PairsIn T vs l) (hP : ∀ i v, P i v → vs[i]? = some v) (hT : ∀ q ∈ T, q ∈ news) (f : Str × Str → Dat) (hS : ∀ X, S (news ++ X))
    (telt : ∀ x y t u X I oI C oC D m₂ ys h tk (E' : Value → Shared → Prop), (x, y) ∈ l → LCg.NsObj oC m₂ → m₂ xa = some (.str x t) → m₂ xb = some (.str y u) → Fr h₀ L h m → News h₀ L h ((I, oI) :: (C, oC) :: (D, LCg.lst ys) :: (news ++ X)) → LCg.Off3 I C D (news ++ X) →
      ((@Ne Nat I C) ∧ (@Ne Nat I D) ∧ (@Ne Nat C D)) → wpAny (model prog w) A (eval elt (compEnvC scope cl C env)) (EltDat h₀ L m s ((I, oI) :: (C, oC) :: (D, LCg.lst ys) :: (news ++ X)) (f (x, y))) E' { s with heap := h, toks := tk })
    (fin : ∀ ys X, DatAll X ys (l.map f) → (∀ y ∈ X, ∀ p ∈ news, p.1 ≠ y.1) → Fin ys (news ++ X)) :
    LCp.CompRestP prog w A h₀ L m env elt xa xb scope cl s S P Fin vs.length 0 [] news := by
  have key : ∀ (j i : Nat) (ys : List Value) (X : List (Addr × Obj)), i + j = l.length → DatAll X ys ((l.take i).map f) → (∀ y ∈ X, ∀ p ∈ news, p.1 ≠ y.1) → LCp.CompRestP prog w A h₀ L m env elt xa xb scope cl s S P Fin j i ys (news ++ X) := by
    intro j
    induction j with
    | zero =>
      intro i ys X hi hys hX
      rw [Nat.add_zero] at hi
      rw [hi, List.take_length] at hys
      exact LCp.CompRestP.zero (fin ys X hys hX)
    | succ j ih =>
      intro i ys X hi hys hX
      refine LCp.CompRestP.succ fun v hv => ?_
      obtain ⟨a, x, y, t, u, n, rfl, ha, hl⟩ := hps.get (hP i v hv)
      refine ⟨a, _, .str x t, .str y u, n, rfl, List.mem_append_left _ (hT _ ha), rfl, rfl, ?_⟩
      intro I oI C oC D m₂ h tk E' hoC e1 e2 F N off ne
      have hm : (x, y) ∈ l := List.mem_of_getElem? hl
      have hs : l.take (i + 1) = l.take i ++ [(x, y)] := by rw [List.take_add_one, hl]; rfl
      refine wpAny_mono (telt x y t u X I oI C oC D m₂ ys h tk E' hm hoC e1 e2 F N off ne) (fun r s'' z => ?_) fun _ _ e => e
      obtain ⟨Y, h'', tk'', rfl, F'', N'', hd, ap⟩ := z
      obtain ⟨N3, off3⟩ := elt_step N'' off ap
      refine ⟨h'', tk'', news ++ (Y ++ X), rfl, F'', N3, off3, hS _, ih (i + 1) _ (Y ++ X) (by omega) ?_ fun q hq => ?_⟩
      · rw [hs, List.map_append]
        exact (hys.mono fun q hq => List.mem_append_right _ hq).append (.one (hd.mono fun q hq => List.mem_append_left _ hq))
      · rcases List.mem_append.mp hq with hq | hq
        · exact fun p hp => ap q hq p (.tail _ (.tail _ (.tail _ (List.mem_append_left _ hp))))
        · exact hX q hq
  have := key l.length 0 [] [] (by omega) .nil (fun _ h => nomatch h)
  rw [List.append_nil] at this
  rw [hps.length]
  exact this
/-- `[f(i) for i in range(n) if pz(i)]` -/
theorem compT_dat {xn : Str} {P : Nat → Value → Prop} {n : Nat} (pz : Nat → Bool) (f : Nat → Dat) (hS : ∀ X, S (news ++ X))
    (turn : ∀ i v X I oI C oC D m₂ ys h tk (E' : Value → Shared → Prop), i < n → P i v → LCg.NsObj oC m₂ → m₂ xn = some v → Fr h₀ L h m → News h₀ L h ((I, oI) :: (C, oC) :: (D, LCg.lst ys) :: (news ++ X)) → LCg.Off3 I C D (news ++ X) →
      ((@Ne Nat I C) ∧ (@Ne Nat I D) ∧ (@Ne Nat C D)) → wpAny (model prog w) A (isTrue ct (compEnvC scope cl C env) (eval ct (compEnvC scope cl C env))) (TestIs h₀ L m s ((I, oI) :: (C, oC) :: (D, LCg.lst ys) :: (news ++ X)) (pz i)) E' { s with heap := h, toks := tk })
    (telt : ∀ i v X I oI C oC D m₂ ys h tk (E' : Value → Shared → Prop), i < n → P i v → LCg.NsObj oC m₂ → m₂ xn = some v → Fr h₀ L h m → News h₀ L h ((I, oI) :: (C, oC) :: (D, LCg.lst ys) :: (news ++ X)) → LCg.Off3 I C D (news ++ X) →
      ((@Ne Nat I C) ∧ (@Ne Nat I D) ∧ (@Ne Nat C D)) → wpAny (model prog w) A (eval elt (compEnvC scope cl C env)) (EltDat h₀ L m s ((I, oI) :: (C, oC) :: (D, LCg.lst ys) :: (news ++ X)) (f i)) E' { s with heap := h, toks := tk })
    (fin : ∀ ys X, DatAll X ys (((List.range n).filter pz).map f) → Fin ys (news ++ X)) :
    LCt.CompRestT prog w A h₀ L m env ct elt xn scope cl s S P Fin n 0 [] news := by
  have key : ∀ (j i : Nat) (ys : List Value) (X : List (Addr × Obj)), i + j = n → DatAll X ys (((List.range i).filter pz).map f) → LCt.CompRestT prog w A h₀ L m env ct elt xn scope cl s S P Fin j i ys (news ++ X) := by
    intro j
    induction j with
    | zero =>
      intro i ys X hi hys
      rw [Nat.add_zero] at hi
      rw [hi] at hys
      exact LCt.CompRestT.zero (fin ys X hys)
    | succ j ih =>
      intro i ys X hi hys
      refine LCt.CompRestT.succ ?_
      intro v I oI C oC D m₂ h tk E' hPv hoC hx F N off ne
      have hlt : i < n := by omega
      refine wpAny_mono (turn i v X I oI C oC D m₂ ys h tk E' hlt hPv hoC hx F N off ne) (fun ok s' z => ?_) fun _ _ e => e
      obtain ⟨rfl, h', tk', rfl, F', N'⟩ := z
      cases hb : pz i with
      | true =>
        simp only [if_true]
        refine wpAny_mono (telt i v X I oI C oC D m₂ ys h' tk' E' hlt hPv hoC hx F' N' off ne) (fun r s'' z => ?_) fun _ _ e => e
        obtain ⟨Y, h'', tk'', rfl, F'', N'', hd, ap⟩ := z
        obtain ⟨N3, off3⟩ := elt_step N'' off ap
        refine ⟨h'', tk'', news ++ (Y ++ X), rfl, F'', N3, off3, hS _, ih (i + 1) _ (Y ++ X) (by omega) ?_⟩
        rw [List.range_succ, List.filter_append, List.map_append]
        simpa [hb] using (hys.mono fun q hq => List.mem_append_right _ hq).append (.one (hd.mono fun q hq => List.mem_append_left _ hq))
      | false =>
        simp only [Bool.false_eq_true, if_false]
        exact ⟨h', tk', news ++ X, rfl, F', N', off, hS X, ih (i + 1) _ X (by omega) (by rw [List.range_succ, List.filter_append]; simpa [hb] using hys)⟩
  have := key n 0 [] [] (by omega) .nil
  rw [List.append_nil] at this
  exact this
end
section
variable {prog : Program} {w : World} {A : Around} {E : Value → Shared → Prop} {s : Shared} {h₀ : Heap} {L r : Addr} {m : Str → Option Value} {env : Env} {news : List (Addr × Obj)} {vs : List Value} {k : Nat}
/-- a tuple of the ledger, as a comprehension's source -/
theorem tuple_src {ct elt : PySem.Expr} {x : Str} {scope : Scope} {cl : List (Str × Addr)} {Fin : Shared → List Value → List (Addr × Obj) → Prop} (hh : A.handled = none) (hm : (r, tupO vs k) ∈ news) (F : Fr h₀ L s.heap m) (N : News h₀ L s.heap news) (hz : vs.length ≤ sizeLine)
    (rest : ∀ h, LCt.CompRestT prog w A h₀ L m env ct elt x scope cl { s with heap := h } (fun nw => (r, tupO vs k) ∈ nw) (fun i v => vs.toArray[i]? = some v) (Fin { s with heap := h }) vs.toArray.size 0 [] news) :
    wpAny (model prog w) A (pyIter (.ref r)) (fun it s₂ => ∃ (I : Addr) (fp : List Addr) (n : Nat) (P : Nat → Value → Prop) (St : Nat → Heap → Prop) (S : List (Addr × Obj) → Prop) (news : List (Addr × Obj)),
      it = .ref I ∧ Walks prog w A I fp [I] n P St ∧ n ≤ sizeLine ∧ (∀ i h, St i h → ∃ o, h.get? I = some o) ∧
      (∀ i h h' o nw, St i h → h.get? I = some o → h'.get? I = some o → (∀ b o, h₀.get? b = some o → h'.get? b = some o) → News h₀ L h' nw → S nw → St i h') ∧ St 0 s₂.heap ∧ (∀ b ∈ fp, b < s₂.heap.objs.size) ∧
      Fr h₀ L s₂.heap m ∧ News h₀ L s₂.heap news ∧ L ≠ I ∧ h₀.get? I = none ∧ (∀ p ∈ news, p.1 ≠ I) ∧ S news ∧ LCt.CompRestT prog w A h₀ L m env ct elt x scope cl s₂ S P (Fin s₂) n 0 [] news) E s := by
  have ht : s.heap.IsTuple r vs.toArray := ⟨_, (N _ hm).1, rfl, k, rfl⟩
  have hlt := Heap.lt_size (N _ hm).1
  refine wpAny_pyIter_tuple ht ?_
  refine ⟨s.heap.objs.size, _, _, _, _, fun nw => (r, tupO vs k) ∈ nw, news, rfl, Walks.tuple hh s.heap.objs.size r (Nat.ne_of_lt hlt) vs.toArray, by simpa using hz, fun i h st => ?_, fun i h h' o nw st e1 e2 _ N' hm' => ?_, ⟨⟨_, Heap.get?_push_size _ rfl, rfl, rfl⟩, ?_⟩, fun b hb => ?_, F.push _, (fun p hp => ⟨Heap.get?_push_of_some _ (N p hp).1, (N p hp).2⟩), Nat.ne_of_lt F.ns.lt, next_is_new F, fun p hp => Nat.ne_of_lt (Heap.lt_size (N p hp).1), hm, rest _⟩
  · obtain ⟨⟨o, ho, _⟩, _⟩ := st
    exact ⟨o, ho⟩
  · exact ⟨st.1.at fun o' e => by rw [e1] at e; cases e; exact e2, ⟨_, (N' _ hm').1, rfl, k, rfl⟩⟩
  · exact ⟨_, Heap.get?_push_of_some _ (N _ hm).1, rfl, k, rfl⟩
  · show b < (s.heap.push _).objs.size
    rw [Heap.size_push]
    rcases List.mem_cons.mp hb with rfl | hb
    · exact Nat.lt_succ_self _
    · rw [List.mem_singleton.mp hb]; exact Nat.lt_succ_of_lt hlt
end
open Classical in
/-- tuples of data -/
theorem tup_ne {prog : Program} {w : World} {A : Around} {E : Value → Shared → Prop} {s : Shared} {h₀ : Heap} {L a b : Addr} {news n₁ n₂ : List (Addr × Obj)} {xs ys : List Value} {ka kb : Nat} {ds es : List Dat} {Q : Value → Shared → Prop}
    (N : News h₀ L s.heap news) (ma : (a, tupO xs ka) ∈ news) (Da : DatAll n₁ xs ds) (sa : ∀ p ∈ n₁, p ∈ news) (mb : (b, tupO ys kb) ∈ news) (Db : DatAll n₂ ys es) (sb : ∀ p ∈ n₂, p ∈ news)
    (ha : ∀ d ∈ ds, kqdOk 8 d = true) (hb : ∀ d ∈ es, kqdOk 8 d = true) (hu : A.units + 64 < cLine) (h : Q (.bool (!decide (ds = es))) s) : wpAny (model prog w) A (compareOp .NotEq (.ref a) (.ref b)) Q E s := by
  obtain ⟨as, ra⟩ := kqd_all N 8 (Da.mono sa) ha
  obtain ⟨bs, rb⟩ := kqd_all N 8 (Db.mono sb) hb
  have la := kqd_lay 9 (.tuple ds) (by simpa [kqdOk] using ha)
  have lb := kqd_lay 9 (.tuple es) (by simpa [kqdOk] using hb)
  rw [kqdP] at la lb
  have e : PyData.eqv (.tuple (kqdPs ds)) (.tuple (kqdPs es)) = decide (ds = es) := by
    have q := kqd_eqv 9 (.tuple ds) (.tuple es) 9 (by simpa [kqdOk] using ha) (by simpa [kqdOk] using hb)
    rw [kqdP, kqdP, Dat.tuple.injEq] at q
    by_cases hq : ds = es
    · rw [decide_eq_true hq]; exact q.mpr hq
    · rw [decide_eq_false hq]; exact Bool.eq_false_iff.mpr fun x => hq (q.mp x)
  refine ne_dataH (.tuple (N _ ma).1 rfl rfl (by simpa using ra)) (.tuple (N _ mb).1 rfl rfl (by simpa using rb)) ?_ ?_ hu (by rw [e]; exact h)
  · unfold SeqAt.shaped; rw [la.1, Bool.true_and]; exact decide_eq_true (Nat.le_trans la.2 (by decide))
  · unfold SeqAt.shaped; rw [lb.1, Bool.true_and]; exact decide_eq_true (Nat.le_trans lb.2 (by decide))
theorem pairDat_ok {l : List (Str × Str)} (h : SOk l) : ∀ d ∈ l.map pairDat, kqdOk 8 d = true := by
  intro d hd
  obtain ⟨q, hq, rfl⟩ := List.mem_map.mp hd
  have := h q hq
  simp [kqdOk, this]
theorem pairDat_inj {q r : Str × Str} (h : pairDat q = pairDat r) : q = r := by
  obtain ⟨a, b⟩ := q
  obtain ⟨c, d⟩ := r
  simpa [pairDat] using h
theorem off_part37_lstep : True := by w_top off; trivial
theorem apart_app {A B : List (Addr × Obj)} {x : Addr} (a : ApartT A x) (b : ApartT B x) : ApartT (A ++ B) x := fun q hq => (List.mem_append.mp hq).elim (a q) (b q)
theorem apart_sub {A B : List (Addr × Obj)} {x : Addr} (a : ApartT B x) (h : ∀ q ∈ A, q ∈ B) : ApartT A x := fun q hq => a q (h q hq)
section
variable {M : Model} {A : Around} {E : Value → Shared → Prop} {s : Shared} {h₀ : Heap} {L a c P : Addr} {m mg mb : Str → Option Value} {cn : Str} {cs : Scope} {ccd : Value} {cl : List (Str × Addr)} {C CT Z : List (Addr × Obj)}
  {p : Program} {loose : List Str} {mean : ExcName → Option Value} {params : Arguments} {body : PySem.Expr} {scope : Scope} {ps : Array Value} {pos : Pos} {clos : List (Str × Addr)} {qual : Str}
/-- a lambda is made, over a ledger with a tail -/
theorem lam_step {Q : Value → Shared → Prop} (F : Fr h₀ L s.heap m) (N : News h₀ L s.heap (C ++ (P, tabObj ps) :: Z)) (hC : ∀ q ∈ C, q.1 ≠ P) (hZ : ApartT Z P) (hCT : ∀ q ∈ CT, q ∈ Z) (TK : TabOk P qual CT ps) (T : Top p loose mean mg mb h₀) (CH : CodeHd h₀ c P) (hcd : ccd = .ref c)
    (hq : qual = (envX cn cs L a ccd cl).qual ++ "<lambda>") (hdef : defaultsOf params (envX cn cs L a ccd cl) = ([], [])) (hcl : closureFor scope (envX cn cs L a ccd cl) = pure clos)
    (h : ∀ f c' oc ctv ps' CT' Z' h' tk vs t, Fr h₀ L h' m → News h₀ L h' ((f, kla_obj "<lambda>" qual params body scope clos ((mg "__name__").getD .none) c' ctv) :: (C ++ (P, tabObj ps') :: Z')) → TabOk P qual CT' ps' → (∀ q ∈ CT', q ∈ Z') → (∀ q ∈ Z, q ∈ Z') → (∀ q ∈ CT, q ∈ CT') → (c', oc) ∈ Z' → oc.data = .fields vs → vs[1]? = some (.str qual t) →
      (∀ q ∈ C ++ (P, tabObj ps') :: Z', q.1 ≠ f) → ApartT Z' P → (∀ b, (∃ r ∈ C, r.1 = b) → ApartT Z b → ApartT Z' b) → Q (.ref f) { s with heap := h', toks := tk }) :
    wpAny M A (eval (.Lambda params body scope pos) (envX cn cs L a ccd cl)) Q E s := by
  refine lam_new (X := C ++ Z) F (newsPerm N fun q hq => ?_) (fun q hq => ?_) TK T CH hcd hq hdef hcl fun f c' oc ctv ps' CT' h' tk vs t F' N' TK' hc hd hv hne hsub hap => ?_
  · simp only [List.mem_append, List.mem_cons] at hq ⊢
    rcases hq with (h | h) | h | h
    · exact .inl h
    · exact .inr (.inr h)
    · exact .inr (.inl h)
    · exact .inr (.inr (hCT _ h))
  · rcases List.mem_append.mp hq with hq | hq
    · exact hC _ hq
    · exact hZ _ hq
  · refine h f c' oc ctv ps' CT' (CT' ++ Z) h' tk vs t F' (newsPerm N' fun q hq => ?_) TK' (fun q hq => List.mem_append_left _ hq) (fun q hq => List.mem_append_right _ hq) hsub (List.mem_append_left _ hc) hd hv (fun q hq => hne q ?_) (apart_app TK'.2.2.2 hZ) fun b ⟨r, hr, e⟩ hb => apart_app (hap b ⟨r, List.mem_append_left _ hr, e⟩ (apart_sub hb hCT)) hb
    · simp only [List.mem_cons, List.mem_append] at hq ⊢
      rcases hq with h | h | h | h | h <;> simp only [h, true_or, or_true]
    · simp only [List.mem_cons, List.mem_append] at hq ⊢
      rcases hq with h | h | h | h <;> simp only [h, true_or, or_true]
end
theorem off_part37b_txt : True := by w_top off; trivial
theorem pok_len {q : Str × Str} (h : PairOk q) : q.1.length ≤ 1000 := by
  rcases h.cases with h | ⟨p, h, _⟩
  · exact plain_len h
  · exact (show ∀ a ∈ declPairs, a.1.length ≤ 1000 from by decide +kernel) (q.1, p) h
theorem slice5 {x y : Str} (h : PairOk (x, y)) : (PySem.Txt.slice x none (some 5) == Str.ofString "xmlns") = (prefOf x).isSome := by
  rcases h.cases with h | ⟨p, h, _⟩
  · exact (show ∀ a ∈ plainNames, (PySem.Txt.slice a none (some 5) == Str.ofString "xmlns") = (prefOf a).isSome from by decide +kernel) x h
  · exact (show ∀ a ∈ declPairs, (PySem.Txt.slice a.1 none (some 5) == Str.ofString "xmlns") = (prefOf a.1).isSome from by decide +kernel) (x, p) h
theorem slice6 {x p : Str} (h : (x, p) ∈ declPairs) : PySem.Txt.slice x (some 6) none = p :=
  (show ∀ a ∈ declPairs, PySem.Txt.slice a.1 (some 6) none = a.2 from by decide +kernel) (x, p) h
theorem badW_mem {l : List (Str × Str)} (hok : ∀ q ∈ l, PairOk q) : (∃ q ∈ l.filter (fun q => (prefOf q.1).isSome), q ∈ badW) ↔ BadIn l := by
  constructor
  · rintro ⟨q, hq, hb⟩
    obtain ⟨h1, h2⟩ := List.mem_filter.mp hq
    rcases (hok q h1).cases with h | ⟨p, h, k | k⟩
    · rw [pref_plain h] at h2; cases h2
    · exact absurd hb ((show ∀ a ∈ okW, a ∉ badW from by decide +kernel) q (okW_of (x := q.1) h k))
    · exact ⟨q, h1, p, h, k⟩
  · rintro ⟨q, hq, p, h, k⟩
    exact ⟨q, List.mem_filter.mpr ⟨hq, by rw [pref_decl h]; rfl⟩, badW_of (x := q.1) h k⟩
theorem mine_cases {l : List (Str × Str)} (hok : ∀ q ∈ l, PairOk q) {x y : Str} (h : (x, y) ∈ l.filter (fun q => (prefOf q.1).isSome)) : ((x, y) ∈ okW ∧ decide ((x, y) ∈ badW) = false) ∨ ((x, y) ∈ badW ∧ decide ((x, y) ∈ badW) = true) := by
  obtain ⟨h1, h2⟩ := List.mem_filter.mp h
  rcases (hok _ h1).cases with h | ⟨p, h, k | k⟩
  · rw [pref_plain h] at h2; cases h2
  · have z : (x, y) ∈ okW := okW_of h k
    exact .inl ⟨z, decide_eq_false ((show ∀ a ∈ okW, a ∉ badW from by decide +kernel) _ z)⟩
  · have z : (x, y) ∈ badW := badW_of h k
    exact .inr ⟨z, decide_eq_true z⟩
theorem filt_len {α : Type} (p : α → Bool) (l : List α) {n : Nat} (h : l.length ≤ n) : (l.filter p).length ≤ n := Nat.le_trans (List.length_filter_le p l) h
theorem sok_bad {l : List (Str × Str)} : SOk (l.filter fun q => decide (q ∈ badW)) := fun q hq => (show ∀ q ∈ badW, PyData.strOk q.1 = true ∧ PyData.strOk q.2 = true from by decide +kernel) q (of_decide_eq_true (List.mem_filter.mp hq).2)
theorem off_part37c_lem : True := by w_top off; trivial
theorem nil_nil {prog : Program} {w : World} {A : Around} {E : Value → Shared → Prop} {s : Shared} {h₀ : Heap} {L a b : Addr} {news : List (Addr × Obj)} {n k : Nat} {Q : Value → Shared → Prop}
    (N : News h₀ L s.heap news) (ha : (a, listOf #[] n) ∈ news) (hb : (b, listOf #[] k) ∈ news) (hu : A.units + 64 < cLine) (h : Q (.bool false) s) : wpAny (model prog w) A (compareOp .NotEq (.ref a) (.ref b)) Q E s := by
  refine ne_dataH (da := .list []) (db := .list []) (reads_list_at (N _ ha).1 rfl rfl .nil) (reads_list_at (N _ hb).1 rfl rfl .nil) rfl rfl hu ?_
  simpa [PyData.eqv, PyData.eqvAll] using h
theorem dat_pairs {T : List (Addr × Obj)} {vs : List Value} : ∀ {l : List (Str × Str)}, DatAll T vs (l.map pairDat) → PairsIn T vs l := by
  induction vs with
  | nil =>
    intro l h
    cases l with
    | nil => exact .nil
    | cons _ _ => cases h
  | cons v vs ih =>
    intro l h
    cases l with
    | nil => cases h
    | cons q l =>
      cases h with
      | cons hd ht =>
        cases hd with
        | tuple hm ha =>
          cases ha with
          | cons h1 h2 =>
            cases h1
            cases h2 with
            | cons h3 h4 =>
              cases h3
              cases h4
              exact .cons hm (ih ht)
theorem same_tups {prog : Program} {w : World} {A : Around} {E : Value → Shared → Prop} {s : Shared} {h₀ : Heap} {L a b : Addr} {news T₁ T₂ : List (Addr × Obj)} {xs ys : List Value} {l : List (Str × Str)} {n k : Nat} {Q : Value → Shared → Prop}
    (N : News h₀ L s.heap news) (ha : (a, tupO xs n) ∈ news) (hp : PairsIn T₁ xs l) (hT₁ : ∀ q ∈ T₁, q ∈ news) (hb : (b, tupO ys k) ∈ news) (hq : PairsIn T₂ ys l) (hT₂ : ∀ q ∈ T₂, q ∈ news) (hs : SOk l) (hu : A.units + 64 < cLine) (h : Q (.bool false) s) :
    wpAny (model prog w) A (compareOp .NotEq (.ref a) (.ref b)) Q E s := by
  refine tup_ne N ha hp.dat hT₁ hb hq.dat hT₂ (pairDat_ok hs) (pairDat_ok hs) hu ?_
  have e : ∀ i : Decidable (l.map pairDat = l.map pairDat), (!@decide _ i) = false := fun i => by rw [@decide_eq_true _ i rfl]; rfl
  rw [e]
  exact h
theorem mem_mine {l : List (Str × Str)} {q : Str × Str} (h : q ∈ l) : pairDat q ∈ (l.filter fun q => (prefOf q.1).isSome).map pairDat ↔ (prefOf q.1).isSome = true := by
  constructor
  · intro h1
    obtain ⟨r, hr, e⟩ := List.mem_map.mp h1
    rw [← pairDat_inj e]
    exact (List.mem_filter.mp hr).2
  · exact fun h1 => List.mem_map.mpr ⟨q, List.mem_filter.mpr ⟨h, h1⟩, rfl⟩
theorem sok_all {l : List (Str × Str)} (hok : ∀ q ∈ l, PairOk q) : SOk l := fun q hq => by
  rcases hok q hq with ⟨h, k⟩ | ⟨p, h, k⟩
  · exact ⟨(show ∀ a ∈ plainNames, PyData.strOk a = true from by decide +kernel) _ h, k⟩
  · refine ⟨(show ∀ a ∈ declPairs, PyData.strOk a.1 = true from by decide +kernel) (q.1, p) h, ?_⟩
    rcases k with k | k
    · exact (show ∀ a ∈ okBinds, PyData.strOk a.2 = true from by decide +kernel) (p, q.2) k
    · exact (show ∀ a ∈ badBinds, PyData.strOk a.2 = true from by decide +kernel) (p, q.2) k
theorem sok_filter {l : List (Str × Str)} (h : SOk l) (p : Str × Str → Bool) : SOk (l.filter p) := fun q hq => h q (List.mem_filter.mp hq).1
section
variable {w : World} {p : Program} {loose : List Str} {mean : ExcName → Option Value} {mg mb : Str → Option Value} {dp un : Nat} {gd : Option (List Code)} {outer : List Env} {A₀ : Around} {base h₀ : Heap} {s : Shared}
  {L : Addr} {m : Str → Option Value} {env : Env} {news : List (Addr × Obj)} {Q E : Value → Shared → Prop}
theorem exp_callT {d : Addr} {x y z : Str} {t : Tok} {b : Bool} {D : List (Str × Str)} (hx : (x, y, z) ∈ splitTriples) (B : Below A₀ base outer h₀) (F : Fr h₀ L s.heap m) (N : News h₀ L s.heap news) (XB : (hd.heap_39 w.params).In base) (TB : Top p loose mean mg mb base)
    (hf : env.frame = some L) (hke : env.scope.kind = .function) (hD : DictIn w news d D) (hdp : dp + 4 < recursionLimit) (hun : un + 16 * 4 + 100 < cLine)
    (h1 : ∀ u l, resOf D y z b = some (u, l) → ∀ r t t' n h' tk, Fr h₀ L h' m → News h₀ L h' ((r, tupO [.str u t, .str l t'] n) :: news) → (∀ q ∈ news, q.1 ≠ r) → Q (.ref r) { s with heap := h', toks := tk })
    (h2 : resOf D y z b = none → ∀ t h' tk, Fr h₀ L h' m → News h₀ L h' news → Q (.str (Str.ofString "refused") t) { s with heap := h', toks := tk }) :
    wpAny (model PySem.Challenge.rw_nu0058_01.row.prog w) (Ar dp un gd (env :: outer)) (call (.ref 258) [.ref d, .str x t, .bool b]) Q E s := by
  obtain ⟨G', S', bs⟩ := Gd.sub (S := []) (lvl := 4) (gd := gd) (un := un) (dp := dp) B F N XB TB hf hke (fun _ h => nomatch h) hdp hun
  obtain ⟨lo, o, ho, hds⟩ := hD
  refine wpAny_call (expSpec G' ⟨lo, o, sub_at (S := []) B N hf ho (fun _ h => nomatch h), hds⟩ hx fun v h' tk k1 k2 => ?_)
  cases e : resOf D y z b with
  | none =>
    rw [e] at k2
    obtain ⟨t, rfl⟩ := k2
    exact h2 e t h' tk (F.keeps k1) fun q hq => ⟨k1 _ _ (N q hq).1, (N q hq).2⟩
  | some ul =>
    obtain ⟨u, l⟩ := ul
    rw [e] at k2
    obtain ⟨r, t, t', n, rfl, hs⟩ := k2
    obtain ⟨F', N', ne⟩ := news_sep F N k1 hs
    exact h1 u l e r t t' n h' tk F' N' fun q hq => ne _ (.head _) q hq
end
/-- the datum that an expanded name is -/
def eDat : Option (Str × Str) → Dat
  | none => .str (Str.ofString "refused")
  | some (u, l) => .tuple [.str u, .str l]
theorem eDat_inj {a b : Option (Str × Str)} (h : eDat a = eDat b) : a = b := by
  cases a with
  | none => cases b with
    | none => rfl
    | some b => cases h
  | some a => cases b with
    | none => cases h
    | some b =>
      obtain ⟨a1, a2⟩ := a
      obtain ⟨b1, b2⟩ := b
      simp only [eDat, Dat.tuple.injEq, List.cons.injEq, Dat.str.injEq, and_true] at h
      rw [h.1, h.2]
/-- the law's own word: refused -/
def refL (D l : List (Str × Str)) : List Dat := l.map fun q => eDat (expA D q.1)
theorem dup_iff {α : Type} (as : List α) : as.Nodup ↔ ∀ i, i < as.length → ∀ x, as[i]? = some x → x ∉ as.take i := by
  rw [List.nodup_iff_pairwise_ne, List.pairwise_iff_getElem]
  constructor
  · intro h i hi x hx hm
    obtain ⟨j, hj, e⟩ := List.mem_take_iff_getElem.mp hm
    have hx' : as[i] = x := by rw [List.getElem?_eq_getElem hi] at hx; exact Option.some.inj hx
    have hj' : j < i := by omega
    exact h j i (by omega) hi hj' (by rw [hx']; exact e)
  · intro h i j hi hj hij e
    refine h j hj as[j] (List.getElem?_eq_getElem hj) (List.mem_take_iff_getElem.mpr ⟨i, by omega, e⟩)
theorem map_inj_nodup {α β : Type} {f : α → β} (hf : ∀ a b, f a = f b → a = b) : ∀ {l : List α}, (l.map f).Nodup ↔ l.Nodup
  | [] => by simp
  | a :: l => by
    rw [List.map_cons, List.nodup_cons, List.nodup_cons, map_inj_nodup hf]
    refine and_congr_left fun _ => not_congr ⟨fun h => ?_, fun h => List.mem_map.mpr ⟨a, h, rfl⟩⟩
    obtain ⟨b, hb, e⟩ := List.mem_map.mp h
    exact hf _ _ e ▸ hb
theorem check_iff {D l : List (Str × Str)} : CheckOk D l ↔ Dat.str (Str.ofString "refused") ∉ refL D l ∧ ∀ i, i < (refL D l).length → ∀ x, (refL D l)[i]? = some x → x ∉ (refL D l).take i := by
  unfold CheckOk
  have e1 : (∀ q ∈ l, (expA D q.1).isSome = true) ↔ Dat.str (Str.ofString "refused") ∉ refL D l := by
    unfold refL
    constructor
    · intro h hm
      obtain ⟨q, hq, e⟩ := List.mem_map.mp hm
      have := h q hq
      rw [eDat_inj (a := expA D q.1) (b := none) e] at this
      cases this
    · intro h q hq
      cases e : expA D q.1 with
      | some _ => rfl
      | none => exact absurd (List.mem_map.mpr ⟨q, hq, by rw [e]; rfl⟩) h
  rw [e1, ← dup_iff]
  have e2 : refL D l = (l.map fun q => expA D q.1).map eDat := by unfold refL; rw [List.map_map]; rfl
  rw [e2, map_inj_nodup fun a b => eDat_inj]
theorem res_ok {D : List (Str × Str)} (h : DOk D) {x : Str} (hx : x ∈ plainNames) : kqdOk 8 (eDat (expA D x)) = true := by
  obtain ⟨y, z, hsp, hso⟩ := plain_split hx
  have e : expA D x = resOf D y z true := by unfold expA; rw [hso]; rfl
  rw [e]
  cases e1 : resOf D y z true with
  | none => decide +kernel
  | some ul =>
    obtain ⟨u, l⟩ := ul
    obtain ⟨a, b⟩ := h.res hsp e1
    simp [eDat, kqdOk, a, b]
theorem DOk.puts {D M : List (Str × Str)} (h : DOk D) (hM : ∀ q ∈ M, q ∈ okBinds) : DOk (puts D M) := by
  refine ⟨puts_keys_nodup _ _ h.1, ?_⟩
  have key : ∀ (M D : List (Str × Str)), (∀ q ∈ D, q ∈ okBinds) → (∀ q ∈ M, q ∈ okBinds) → ∀ q ∈ Mine.puts D M, q ∈ okBinds := by
    intro M
    induction M with
    | nil => exact fun D h _ => h
    | cons a M ih =>
      intro D hD hM
      refine ih (put D a.1 a.2) (fun q hq => ?_) fun q hq => hM q (.tail _ hq)
      unfold put at hq
      split at hq
      · obtain ⟨r, hr, e⟩ := List.mem_map.mp hq
        by_cases hk : r.1 = a.1
        · rw [if_pos hk, hk] at e
          rw [← e]; exact hM a (.head _)
        · rw [if_neg hk] at e
          rw [← e]; exact hD r hr
      · rcases List.mem_append.mp hq with hq | hq
        · exact hD q hq
        · rw [List.mem_singleton.mp hq]; exact hM a (.head _)
  exact key M D h.2 hM
theorem mine_ok {l : List (Str × Str)} (hok : ∀ q ∈ l, PairOk q) (hb : ¬ BadIn l) : ∀ q ∈ mineOf l, q ∈ okBinds := by
  intro a ha
  obtain ⟨q, hq, e⟩ := List.mem_filterMap.mp ha
  rcases (hok q hq).cases with h | ⟨p, h1, h2⟩
  · rw [pref_plain h] at e; cases e
  · rw [pref_decl h1] at e
    cases e
    rcases h2 with h2 | h2
    · exact h2
    · exact absurd ⟨q, hq, p, h1, h2⟩ hb
theorem others_ok {l : List (Str × Str)} (hok : ∀ q ∈ l, PairOk q) : ∀ q ∈ othersOf l, q.1 ∈ plainNames := by
  intro q hq
  obtain ⟨h1, h2⟩ := List.mem_filter.mp hq
  rcases (hok q h1).cases with h | ⟨p, h, _⟩
  · exact h
  · rw [pref_decl h] at h2; cases h2
theorem mine_filter (l : List (Str × Str)) : mineOf (l.filter fun q => (prefOf q.1).isSome) = mineOf l := by
  unfold mineOf
  rw [List.filterMap_filter]
  congr 1
  funext q
  cases prefOf q.1 <;> simp
theorem mine_map {l : List (Str × Str)} (h : ∀ q ∈ l, (prefOf q.1).isSome = true) : mineOf l = l.map fun q => ((prefOf q.1).getD (Str.ofString ""), q.2) := by
  unfold mineOf
  induction l with
  | nil => rfl
  | cons q l ih =>
    have := h q (.head _)
    rw [List.filterMap_cons, List.map_cons, ih fun q hq => h q (.tail _ hq)]
    cases e : prefOf q.1 with
    | none => rw [e] at this; cases this
    | some p => rfl
theorem pick_take (vs : List Value) (i : Nat) : slicePick vs.toArray none (some (i : Int)) none = (vs.take i).toArray := by
  have e : sliceBounds none (some (i : Int)) none vs.toArray.size = (((0 : Nat) : Int), ((min i vs.toArray.size : Nat) : Int), 1) := by
    simp only [sliceBounds, Option.getD_none, show (1 : Int) > 0 by decide, if_true, if_neg (show ¬ ((i : Int) < 0) by omega)]
    congr 1
    congr 1
    omega
  rw [kmk_pick_nat _ e]
  show ((vs.drop 0).take (min i vs.toArray.size - 0)).toArray = _
  rw [List.drop_zero, Nat.sub_zero, List.size_toArray, kmk_take_min]
theorem DatAll.takeN {T : List (Addr × Obj)} {vs : List Value} : ∀ {ds : List Dat}, DatAll T vs ds → ∀ i, DatAll T (vs.take i) (ds.take i) := by
  induction vs with
  | nil => intro ds h i; cases h; rw [List.take_nil, List.take_nil]; exact .nil
  | cons v vs ih =>
    intro ds h i
    cases h with
    | cons h r =>
      cases i with
      | zero => exact .nil
      | succ i => exact .cons h (ih r i)
theorem off1_all {D : Addr} : ∀ {l : List (Addr × Obj)}, LCg.Off1 D l → ∀ p ∈ l, p.1 ≠ D
  | [], _, _, h => nomatch h
  | q :: l, x, p, h => by
    rcases List.mem_cons.mp h with rfl | h
    · exact x.1
    · exact off1_all x.2 p h
/-- the state of the loop that fills the law's table -/
inductive OpK (w : World) (D : List (Str × Str)) (m₀ : Str → Option Value) (n : Addr) (R : List (Addr × Obj)) (pre : List (Str × Str)) (m : Str → Option Value) (news : List (Addr × Obj)) : Prop
  | mk (o : _) (_ : news = (n, o) :: R) (_ : DictS w o (puts D (mineOf pre))) (_ : ∀ y, ([Str.ofString "name", Str.ofString "value"] : List Str).contains y = false → m y = m₀ y) : OpK w D m₀ n R pre m news
abbrev OpKof (w : World) (D : List (Str × Str)) {h₀ h : Heap} {L n : Addr} {x : Obj} {R : List (Addr × Obj)} {m : Str → Option Value} (_ : Fr h₀ L h m) (_ : News h₀ L h ((n, x) :: R)) := OpK w D m n R
theorem decl_of {l : List (Str × Str)} (hok : ∀ q ∈ l, PairOk q) {x y : Str} (h : (x, y) ∈ l.filter fun q => (prefOf q.1).isSome) : ∃ p, (x, p) ∈ declPairs := by
  obtain ⟨h1, h2⟩ := List.mem_filter.mp h
  rcases (hok _ h1).cases with h | ⟨p, h, _⟩
  · rw [pref_plain h] at h2; cases h2
  · exact ⟨p, h⟩
theorem notmine {l : List (Str × Str)} {q : Str × Str} (h : q ∈ l) (i : Decidable (pairDat q ∈ (l.filter fun q => (prefOf q.1).isSome).map pairDat)) : (!@decide _ i) = (prefOf q.1).isNone := by
  cases e : prefOf q.1 with
  | none =>
    rw [@decide_eq_false _ i (fun hm => by have := (mem_mine h).mp hm; rw [e] at this; cases this)]; rfl
  | some p =>
    rw [@decide_eq_true _ i ((mem_mine h).mpr (by rw [e]; rfl))]; rfl
theorem mine_dats {l : List (Str × Str)} : ((l.filter fun q => (prefOf q.1).isSome).map fun q => pairDat ((prefOf q.1).getD (Str.ofString ""), q.2)) = (mineOf l).map pairDat := by
  rw [← mine_filter l, mine_map (l := l.filter fun q => (prefOf q.1).isSome) fun q hq => (List.mem_filter.mp hq).2, List.map_map]
  rfl
theorem decT {p : Prop} (i : Decidable p) (h : p) : @decide p i = true := @decide_eq_true p i h
theorem decF {p : Prop} (i : Decidable p) (h : ¬ p) : @decide p i = false := @decide_eq_false p i h
theorem small64 {n : Nat} (h : n ≤ 64) : Builtin.Range.small 0 (n : Int) 1 = true := (show ∀ n : Nat, n < 65 → Builtin.Range.small 0 (n : Int) 1 = true from by decide +kernel) n (Nat.lt_succ_of_le h)
theorem refL_len (D l : List (Str × Str)) : (refL D l).length = l.length := List.length_map _
theorem refL_ok {D l : List (Str × Str)} (h : DOk D) (hl : ∀ q ∈ l, q.1 ∈ plainNames) : ∀ d ∈ refL D l, kqdOk 8 d = true := fun d hd => by
  obtain ⟨q, hq, rfl⟩ := List.mem_map.mp hd
  exact res_ok h (hl q hq)
open Classical in
/-- the places whose item stands before -/
noncomputable def dupAt (as : List Dat) (i : Nat) : Bool := @decide (∃ x, as[i]? = some x ∧ x ∈ as.take i) (Classical.propDecidable _)
theorem dup_iff2 (as : List Dat) : (List.range as.length).filter (dupAt as) = [] ↔ ∀ i, i < as.length → ∀ x, as[i]? = some x → x ∉ as.take i := by
  rw [List.filter_eq_nil_iff]
  constructor
  · intro h i hi x hx hm
    exact h i (List.mem_range.mpr hi) (by unfold dupAt; exact decT _ ⟨x, hx, hm⟩)
  · intro h i hi hd
    unfold dupAt at hd
    obtain ⟨x, hx, hm⟩ := @of_decide_eq_true _ (Classical.propDecidable _) hd
    exact h i (List.mem_range.mp hi) x hx hm
theorem end_true {R : Result → Shared → Prop} {b : Bool} {s : Shared} (hb : b = true) (h : R (.ok (.ret (.bool true))) s) : R (.ok (.ret (.bool b))) s := hb ▸ h
theorem dup_eq {as : List Dat} {i : Nat} {d : Dat} (h : as[i]? = some d) (inst : Decidable (d ∈ as.take i)) : @decide _ inst = dupAt as i := by
  by_cases hm : d ∈ as.take i
  · rw [decT _ hm]; unfold dupAt; exact (decT _ ⟨d, h, hm⟩).symm
  · rw [decF _ hm]; unfold dupAt; exact (decF _ (fun ⟨x, hx, hm'⟩ => hm (by rw [h] at hx; cases hx; exact hm'))).symm
theorem drop_app {g h : Heap} {L : Addr} {q : Addr × Obj} {A X : List (Addr × Obj)} (N : News g L h (q :: (A ++ X))) : News g L h (q :: A) := newsPerm N fun r hr => by
  rcases List.mem_cons.mp hr with rfl | hr
  · exact .head _
  · exact .tail _ (List.mem_append_left _ hr)
theorem ints_any0 {X Y : List (Addr × Obj)} {ys : List Value} : ∀ {ds : List Dat}, DatAll X ys ds → (∀ d ∈ ds, ∃ i : Int, d = Dat.int i) → DatAll Y ys ds := by
  induction ys with
  | nil => intro ds h _; cases h; exact .nil
  | cons y ys ih =>
    intro ds h k
    cases h with
    | cons h r =>
      obtain ⟨i, rfl⟩ := k _ (.head _)
      cases h
      exact .cons (.int _ _) (ih r fun d hd => k d (.tail _ hd))
theorem ints_any {X Y : List (Addr × Obj)} {ys : List Value} {l : List Nat} (h : DatAll X ys (l.map fun (i : Nat) => Dat.int (i : Int))) : DatAll Y ys (l.map fun (i : Nat) => Dat.int (i : Int)) :=
  ints_any0 h fun d hd => by obtain ⟨i, _, rfl⟩ := List.mem_map.mp hd; exact ⟨_, rfl⟩
theorem off_part37d_bun : True := by w_top off; trivial
def NF (o : Obj) : Prop := ∀ vs, o.data ≠ .fields vs
theorem nf_cell {o : Obj} {v : Option Value} (h : o.data = .cell v) : NF o := fun vs e => by rw [h] at e; cases e
theorem nf_list (xs : Array Value) (n : Nat) : NF (listOf xs n) := fun _ h => by cases h
theorem nf_src {o : Obj} (h : SrcO o) : NF o := by obtain ⟨_, _, _, _, _, rfl, _⟩ := h; intro _ h; cases h
theorem nf_nil : ∀ r ∈ ([] : List (Addr × Obj)), NF r.2 := fun _ h => nomatch h
theorem nf_cons {a : Addr} {o : Obj} {C : List (Addr × Obj)} (h : NF o) (t : ∀ r ∈ C, NF r.2) : ∀ r ∈ (a, o) :: C, NF r.2 := List.forall_mem_cons.mpr ⟨h, t⟩
theorem TabOk.aparts {P : Addr} {qual : Str} {CT C : List (Addr × Obj)} {ps : Array Value} {g h : Heap} {L : Addr} {Bs : List Nat} {o : Obj} (x : TabOk P qual CT ps) (N : News g L h (C ++ (P, o) :: CT)) (hC : ∀ r ∈ C, NF r.2) (hB : Bs = C.map (·.1) ++ [P]) : ∀ b ∈ Bs, ApartT CT b := by
  subst hB
  intro b hb
  rcases List.mem_append.mp hb with hb | hb
  · obtain ⟨r, hr, rfl⟩ := List.mem_map.mp hb
    exact x.apart N (fun q hq => List.mem_append_right _ (.tail _ hq)) (List.mem_append_left _ hr) (hC r hr)
  · rw [List.mem_singleton.mp hb]; exact x.2.2.2
theorem ap_app {A B : List (Addr × Obj)} {Bs : List Nat} (a : ∀ b ∈ Bs, ApartT A b) (c : ∀ b ∈ Bs, ApartT B b) : ∀ b ∈ Bs, ApartT (A ++ B) b := fun b hb => apart_app (a b hb) (c b hb)
section
variable {w : World} {p : Program} {loose : List Str} {mean : ExcName → Option Value} {mg mb : Str → Option Value} {dp un : Nat} {gd : Option (List Code)} {outer : List Env} {A₀ : Around} {base h₀ : Heap} {s : Shared}
  {L : Addr} {m : Str → Option Value} {env : Env} {C1 C2 CT Z : List (Addr × Obj)} {Q E : Value → Shared → Prop} {Bs : List Nat} {A : Around}
theorem drawn_callZ {src : Addr} {so : Obj} (hA : A = Ar dp un gd (env :: outer)) (B : Below A₀ base outer h₀) (F : Fr h₀ L s.heap m) (N : News h₀ L s.heap (C1 ++ (src, so) :: (C2 ++ CT))) (h1 : ∀ q ∈ C1, q.1 ≠ src) (h2 : ∀ q ∈ C2, q.1 ≠ src) (hap : ∀ b ∈ Bs, ApartT CT b) (hB : Bs = C1.map (·.1) ++ src :: C2.map (·.1)) (hso : SrcO so) (XB : (hd.heap_39 w.params).In base) (TB : Top p loose mean mg mb base) (hf : env.frame = some L) (hke : env.scope.kind = .function)
    (hdp : dp + 8 < recursionLimit) (hun : un + 16 * 8 + 100 < cLine)
    (h : ∀ ro fs n Z l so' h' tk, (∀ q ∈ l, PairOk q) → l.length ≤ 64 → PairsIn Z fs l → (ro, tupO fs n) ∈ Z → SrcO so' → Fr h₀ L h' m → News h₀ L h' (C1 ++ (src, so') :: (C2 ++ Z)) → (∀ b ∈ Bs, ApartT Z b) → (∀ q ∈ CT, q ∈ Z) → Q (.ref ro) { s with heap := h', toks := tk }) :
    wpAny (model PySem.Challenge.rw_nu0058_01.row.prog w) A (call (.ref 251) [.ref src]) Q E s := by
  subst hA hB
  have h3 : ApartT CT src := hap _ (List.mem_append_right _ (.head _))
  refine drawn_call B F N (List.mem_append_right _ (.head _)) hso XB TB hf hke hdp hun fun ro fs n T l so' h' tk a1 a2 a3 a4 a5 a6 a7 rst => ?_
  obtain ⟨N2, ap⟩ := rst (C1 ++ (C2 ++ CT)) fun q hq => by
    rcases List.mem_append.mp hq with hq | hq
    · exact ⟨List.mem_append_left _ hq, (h1 q hq).symm⟩
    · rcases List.mem_append.mp hq with hq | hq
      · exact ⟨List.mem_append_right _ (.tail _ (List.mem_append_left _ hq)), (h2 q hq).symm⟩
      · exact ⟨List.mem_append_right _ (.tail _ (List.mem_append_right _ hq)), (h3 q hq).symm⟩
  refine h ro fs n (T ++ CT) l so' h' tk a1 a2 (a3.mono fun q hq => List.mem_append_left _ hq) (List.mem_append_left _ a4) a6 a7 (newsPerm N2 fun q hq => ?_) (ap_app (fun b hb => ?_) hap) fun q hq => List.mem_append_right _ hq
  · simp only [List.mem_append, List.mem_cons] at hq ⊢
    rcases hq with h | h | h | h | h <;> simp only [h, true_or, or_true]
  · rcases List.mem_append.mp hb with hb | hb
    · obtain ⟨r, hr, rfl⟩ := List.mem_map.mp hb
      exact ap r (List.mem_append_left _ hr)
    · rcases List.mem_cons.mp hb with rfl | hb
      · exact a5
      · obtain ⟨r, hr, rfl⟩ := List.mem_map.mp hb
        exact ap r (List.mem_append_right _ (List.mem_append_left _ hr))
theorem enter_toldZ {fl c' cN cP nm sl tl d r : Addr} {qual : Str} {pm ctv : Value} {p1 p3 : Pos} {a1 a2 a3 b1 b2 b3 : Nat} {oN oP oc : Obj} {t5 : Tok} {vs5 : Array Value} {ds ts fs : List Value} {n1 n2 nr : Nat} {D l : List (Str × Str)}
    (hA : A = Ar dp un gd (env :: outer)) (B : Below A₀ base outer h₀) (full : ∀ b o, h₀.get? b = some o → b ∉ frs outer → base.get? b = some o) (F : Fr h₀ L s.heap m)
    (N : News h₀ L s.heap ((fl, kla_obj (Str.ofString "<lambda>") qual noParams (.Call (.Attribute (.Name (Str.ofString "names") p1) (Str.ofString "enter") ⟨a1, a2, 203, a3⟩) [.Name (Str.ofString "row") p3] [] ⟨203, b1, b2, b3⟩) (freeScope [(Str.ofString "names", .free), (Str.ofString "row", .free)]) [(Str.ofString "row", cP), (Str.ofString "names", cN)] pm c' ctv) ::
      (C1 ++ (sl, listOf (ds ++ [Value.ref d]).toArray n1) :: (tl, listOf ts.toArray n2) :: (C2 ++ Z))))
    (h1 : ∀ q ∈ C1, q.1 ≠ sl) (h2 : ∀ q ∈ C2, q.1 ≠ sl) (h3 : ∀ q ∈ C1, q.1 ≠ tl) (h4 : ∀ q ∈ C2, q.1 ≠ tl) (hap : ∀ b ∈ Bs, ApartT Z b) (hB : Bs = C1.map (·.1) ++ sl :: tl :: C2.map (·.1))
    (XB : (hd.heap_39 w.params).In base) (TB : Top p loose mean mg mb base) (hf : env.frame = some L) (hke : env.scope.kind = .function)
    (hc' : (c', oc) ∈ Z) (hd' : oc.data = .fields vs5) (hv' : vs5[1]? = some (.str qual t5)) (hN : (cN, oN) ∈ C1) (dN : oN.data = .cell (some (.ref nm))) (hP : (cP, oP) ∈ C1) (dP : oP.data = .cell (some (.ref r)))
    (hne : @Ne Nat sl tl) (hn : NamesAt base nm sl tl) (hr : (r, tupO fs nr) ∈ Z) (hps : PairsIn Z fs l) (hD : DictAt w base d D) (hD64 : D.length ≤ 1000) (hds : ds.length ≤ 1000) (hts : ts.length ≤ 1000) (hl64 : l.length ≤ 64) (hok : ∀ q ∈ l, PairOk q)
    (hdp : dp + 20 < recursionLimit) (hun : un + 16 * 20 + 100 < cLine)
    (h : ¬ BadIn l → ∀ ro tr d' os fs' ko kt Z' h' tk, Fr h₀ L h' m → News h₀ L h' (C1 ++ (sl, listOf (ds ++ [Value.ref d, Value.ref d']).toArray (n1 + 1)) :: (tl, listOf (ts ++ [Value.ref tr]).toArray (n2 + 1)) :: (C2 ++ Z')) → (∀ b ∈ Bs, ApartT Z' b) → (∀ q ∈ Z, q ∈ Z') →
      (ro, tupO os ko) ∈ Z' → PairsIn Z' os (othersOf l) → (tr, tupO fs' kt) ∈ Z' → PairsIn Z' fs' (mineOf l) → ((d' = d ∧ mineOf l = []) ∨ DictIn w Z' d' (puts D (mineOf l))) → Q (.ref ro) { s with heap := h', toks := tk })
    (h5 : BadIn l → ∀ t h' tk g', GR A₀ base h₀ outer g' → Fr g' L h' m → News g' L h' (C1 ++ (sl, listOf (ds ++ [Value.ref d]).toArray n1) :: (tl, listOf ts.toArray n2) :: (C2 ++ Z)) → Q (.str (Str.ofString "refused") t) { s with heap := h', toks := tk }) :
    wpAny (model PySem.Challenge.rw_nu0058_01.row.prog w) A (call (.ref 239) [.ref fl]) Q E s := by
  subst hA hB
  have h6 : ApartT Z sl := hap _ (List.mem_append_right _ (.head _))
  have h7 : ApartT Z tl := hap _ (List.mem_append_right _ (.tail _ (.head _)))
  have inZ : ∀ (f : Addr × Obj), ∀ q ∈ Z, q ∈ f :: (C1 ++ (sl, listOf (ds ++ [Value.ref d]).toArray n1) :: (tl, listOf ts.toArray n2) :: (C2 ++ Z)) := fun _ q hq => .tail _ (List.mem_append_right _ (.tail _ (.tail _ (List.mem_append_right _ hq))))
  refine enter_told (T := Z) B full F N XB TB hf hke (List.forall_mem_cons.mpr ⟨.tail _ (List.mem_append_right _ (.head _)), List.forall_mem_cons.mpr ⟨.tail _ (List.mem_append_right _ (.tail _ (.head _))), fun _ h => nomatch h⟩⟩) (.head _) (inZ _ _ hc') hd' hv' (.tail _ (List.mem_append_left _ hN)) dN (.tail _ (List.mem_append_left _ hP)) dP hne hn (inZ _ _ hr) hps (inZ _) hD hD64 hds hts hl64 hok hdp hun ?_ ?_
  · intro hbad ro tr d' os fs' ko kt T' h' tk F' rst a1 a2 a3 a4 a5 a6 a7
    obtain ⟨N2, ap⟩ := rst (C1 ++ (C2 ++ Z)) fun q hq => by
      rcases List.mem_append.mp hq with hq | hq
      · exact ⟨.tail _ (List.mem_append_left _ hq), (h1 q hq).symm, (h3 q hq).symm⟩
      · rcases List.mem_append.mp hq with hq | hq
        · exact ⟨.tail _ (List.mem_append_right _ (.tail _ (.tail _ (List.mem_append_left _ hq)))), (h2 q hq).symm, (h4 q hq).symm⟩
        · exact ⟨inZ _ _ hq, (h6 q hq).symm, (h7 q hq).symm⟩
    have l1 : ∀ q ∈ T', q ∈ T' ++ Z := fun q hq => List.mem_append_left _ hq
    refine h hbad ro tr d' os fs' ko kt (T' ++ Z) h' tk F' (newsPerm N2 fun q hq => ?_) (ap_app (fun b hb => ?_) hap) (fun q hq => List.mem_append_right _ hq) (l1 _ a1) (a2.mono l1) (l1 _ a3) (a4.mono l1) (a5.imp id fun x => x.mono l1)
    · simp only [List.mem_append, List.mem_cons] at hq ⊢
      rcases hq with h | h | h | h | h | h <;> simp only [h, true_or, or_true]
    · rcases List.mem_append.mp hb with hb | hb
      · obtain ⟨r, hr, rfl⟩ := List.mem_map.mp hb
        exact ap r (List.mem_append_left _ hr)
      · rcases List.mem_cons.mp hb with rfl | hb
        · exact a6
        · rcases List.mem_cons.mp hb with rfl | hb
          · exact a7
          · obtain ⟨r, hr, rfl⟩ := List.mem_map.mp hb
            exact ap r (List.mem_append_right _ (List.mem_append_left _ hr))
  · exact fun hbad t h' tk g' gr F' N' => h5 hbad t h' tk g' gr F' (newsPerm N' fun q hq => .tail _ hq)
end
section
variable {M : Model} {A : Around} {E : Value → Shared → Prop} {s : Shared} {h₀ : Heap} {L a c P : Addr} {m mg mb : Str → Option Value} {cn : Str} {cs : Scope} {ccd : Value} {cl : List (Str × Addr)} {D C CT Z : List (Addr × Obj)}
  {p : Program} {loose : List Str} {mean : ExcName → Option Value} {params : Arguments} {body : PySem.Expr} {scope : Scope} {ps : Array Value} {pos : Pos} {clos : List (Str × Addr)} {qual : Str} {Bs : List Nat}
/-- a lambda is made; a list of addresses stays apart from the tail -/
theorem lam_stepZ {Q : Value → Shared → Prop} (F : Fr h₀ L s.heap m) (N : News h₀ L s.heap (D ++ (C ++ (P, tabObj ps) :: Z))) (hD : ∀ q ∈ D, q.1 ≠ P) (hC : ∀ q ∈ C, q.1 ≠ P) (hap : ∀ b ∈ Bs, ApartT Z b) (hB : Bs = C.map (·.1) ++ [P]) (hCT : ∀ q ∈ CT, q ∈ Z) (TK : TabOk P qual CT ps) (T : Top p loose mean mg mb h₀) (CH : CodeHd h₀ c P) (hcd : ccd = .ref c)
    (hq : qual = (envX cn cs L a ccd cl).qual ++ "<lambda>") (hdef : defaultsOf params (envX cn cs L a ccd cl) = ([], [])) (hcl : closureFor scope (envX cn cs L a ccd cl) = pure clos)
    (h : ∀ f c' oc ctv ps' CT' Z' h' tk vs t, Fr h₀ L h' m → News h₀ L h' ((f, kla_obj "<lambda>" qual params body scope clos ((mg "__name__").getD .none) c' ctv) :: (D ++ (C ++ (P, tabObj ps') :: Z'))) → TabOk P qual CT' ps' → (∀ q ∈ CT', q ∈ Z') → (∀ q ∈ Z, q ∈ Z') → (∀ q ∈ CT, q ∈ CT') → (c', oc) ∈ Z' → oc.data = .fields vs → vs[1]? = some (.str qual t) →
      (∀ q ∈ D ++ (C ++ (P, tabObj ps') :: Z'), q.1 ≠ f) → (∀ b ∈ Bs, ApartT Z' b) → Q (.ref f) { s with heap := h', toks := tk }) :
    wpAny M A (eval (.Lambda params body scope pos) (envX cn cs L a ccd cl)) Q E s := by
  subst hB
  refine lam_step (C := D ++ C) F (by rw [List.append_assoc]; exact N) (fun q hq => (List.mem_append.mp hq).elim (hD q) (hC q)) (hap _ (List.mem_append_right _ (.head _))) hCT TK T CH hcd hq hdef hcl fun f c' oc ctv ps' CT' Z' h' tk vs t F' N' TK' a1 a2 a3 a4 a5 a6 a7 a8 a9 => ?_
  rw [List.append_assoc] at N' a7
  refine h f c' oc ctv ps' CT' Z' h' tk vs t F' N' TK' a1 a2 a3 a4 a5 a6 a7 fun b hb => ?_
  rcases List.mem_append.mp hb with hb' | hb'
  · obtain ⟨r, hr, e⟩ := List.mem_map.mp hb'
    exact a9 b ⟨r, List.mem_append_right _ hr, e⟩ (hap b hb)
  · rw [List.mem_singleton.mp hb']; exact a8
end
section
variable {prog : Program} {w : World} {A : Around} {h₀ : Heap} {L : Addr} {m : Str → Option Value} {env : Env} {ct elt : PySem.Expr} {xa xb : Str} {scope : Scope} {cl : List (Str × Addr)} {s : Shared} {S : List (Addr × Obj) → Prop} {Fin : List Value → List (Addr × Obj) → Prop}
  {l : List (Str × Str)} {D C Z : List (Addr × Obj)} {vs : List Value} {Bs : List Nat}
theorem compP_datZ {P : Nat → Value → Prop} (hps : PairsIn Z vs l) (hP : ∀ i v, P i v → vs[i]? = some v) (f : Str × Str → Dat) (hap : ∀ b ∈ Bs, ApartT Z b) (hB : Bs = C.map (·.1)) (hS : ∀ X, S ((D ++ (C ++ Z)) ++ X))
    (telt : ∀ x y t u X I oI C' oC D' m₂ ys h tk (E' : Value → Shared → Prop), (x, y) ∈ l → LCg.NsObj oC m₂ → m₂ xa = some (.str x t) → m₂ xb = some (.str y u) → Fr h₀ L h m → News h₀ L h ((I, oI) :: (C', oC) :: (D', LCg.lst ys) :: (D ++ (C ++ (Z ++ X)))) →
      wpAny (model prog w) A (eval elt (compEnvC scope cl C' env)) (EltDat h₀ L m s ((I, oI) :: (C', oC) :: (D', LCg.lst ys) :: (D ++ (C ++ (Z ++ X)))) (f (x, y))) E' { s with heap := h, toks := tk })
    (fin : ∀ ys Z', (∀ q ∈ Z, q ∈ Z') → DatAll Z' ys (l.map f) → (∀ b ∈ Bs, ApartT Z' b) → Fin ys (D ++ (C ++ Z'))) :
    LCp.CompRestP prog w A h₀ L m env elt xa xb scope cl s S P Fin vs.length 0 [] (D ++ (C ++ Z)) := by
  subst hB
  have e : ∀ X, (D ++ (C ++ Z)) ++ X = D ++ (C ++ (Z ++ X)) := fun X => by rw [List.append_assoc, List.append_assoc]
  refine compP_dat hps hP (fun q hq => List.mem_append_right _ (List.mem_append_right _ hq)) f hS (fun x y t u X I oI C' oC D' m₂ ys h tk E' a1 a2 a3 a4 F N _ _ => ?_) fun ys X hy hX => ?_
  · rw [e] at N ⊢
    exact telt x y t u X I oI C' oC D' m₂ ys h tk E' a1 a2 a3 a4 F N
  · rw [e]
    refine fin ys (Z ++ X) (fun q hq => List.mem_append_left _ hq) (hy.mono fun q hq => List.mem_append_right _ hq) (ap_app hap fun b hb q hq => ?_)
    obtain ⟨r, hr, rfl⟩ := List.mem_map.mp hb
    exact (hX q hq r (List.mem_append_right _ (List.mem_append_left _ hr))).symm
end
/-- is_refused is stored -/
inductive RefP (g : Heap) (L : Addr) (m : Str → Option Value) (news : List (Addr × Obj)) (D l : List (Str × Str)) (s s' : Shared) : Prop
  | mk (h' tk' b : _) (_ : s' = { s with heap := h', toks := tk' }) (_ : Fr g L h' (fun y => if y = Str.ofString "is_refused" then some (.bool b) else m y)) (_ : News g L h' news) (_ : (b = true ↔ ¬ CheckOk D l)) : RefP g L m news D l s s'
abbrev RefOf {g h : Heap} {L : Addr} {m : Str → Option Value} {news : List (Addr × Obj)} (_ : Fr g L h m) (_ : News g L h news) := RefP g L m news
section
variable {g g' h : Heap} {L : Addr} {r d f t a1 a3 a6 a7 a8 a9 c6 c5 c4 c3 c2 c1 m1 m2 m3 m4 m5 P : Addr × Obj} {Z : List (Addr × Obj)}
theorem trimN (N : News g L h (a1 :: r :: a3 :: d :: t ::  a6 :: a7 :: a8 :: a9 :: c6 :: c5 :: c4 :: c3 :: c2 :: c1 :: m1 :: m2 :: m3 :: m4 :: m5 :: P :: Z)) : News g L h (r :: d :: t :: c5 :: c1 :: m1 :: m2 :: m3 :: m4 :: m5 :: P :: Z) := newsPerm N (fun q hq => picks _ 15 [1, 3, 4, 10, 14] q hq)
theorem fin_sepT (back : ∀ b, g'.get? b = none → g.get? b = none) (N : News g' L h (f :: r :: d :: t :: c5 :: c1 :: m1 :: m2 :: m3 :: m4 :: m5 :: P :: Z)) : Sep g h (m1 :: m2 :: m3 :: m4 :: m5 :: P :: d :: r :: Z) := fun q hq => by
  have hm := picks (f :: r :: d :: t :: c5 :: c1 :: m1 :: m2 :: m3 :: m4 :: m5 :: P :: Z) 12 [6, 7, 8, 9, 10, 11, 2, 1] q hq
  exact ⟨(N q hm).1, back _ (N q hm).2.2⟩
end
theorem off_part38_opened : True := by w_top off; trivial
section part38_opened
local macro_rules | `(tactic| walk_at "pyIter ref") => `(tactic| refine hold ?_)
local macro_rules | `(tactic| walk_at "eval Lambda") => `(tactic| refine hold ?_)
local macro_rules | `(tactic| walk_at "eval ListComp") => `(tactic| refine hold ?_)
local macro_rules | `(tactic| walk_at "call ref") => `(tactic| with_reducible refine hold_at 251 ?_)
local macro_rules | `(tactic| walk_at "mine_pure") => `(tactic| exact wrongOk (by assumption))
local macro_rules | `(tactic| walk_at "mine_pure") => `(tactic| exact wrongBad (by assumption))
local macro_rules | `(tactic| walk_at "compareOp NotEq ref ref") => `(tactic| refine hold ?_)
local macro_rules | `(tactic| walk_at "compareOp NotIn ref ref") => `(tactic| refine hold ?_)
local macro_rules | `(tactic| walk_at "compareOp In str ref") => `(tactic| refine hold ?_)
local macro_rules | `(tactic| walk_at "exec Assign cons BoolOp") => `(tactic| refine hold ?_)
local macro_rules | `(tactic| walk_at "compareOp In ref ref") => `(tactic| refine hold ?_)
local macro_rules | `(tactic| walk_at "CompSrcT") => `(tactic| refine hold ?_)
local macro_rules | `(tactic| walk_at "SrcLP") => `(tactic| refine hold ?_)
local macro_rules | `(tactic| walk_at "call ref") => `(tactic| with_reducible refine hold_at 258 ?_)
local macro_rules | `(tactic| walk_at "exec Assign cons ListComp") => `(tactic| (k_here; refine wpAny_Assign_Name (hs := by with_unfolding_all rfl) ?_))
local macro_rules | `(tactic| walk_at "Exists") => `(tactic| refine hold ?_)
local macro_rules | `(tactic| walk_at "subscriptTail Name Name ref int") => `(tactic| refine hold ?_)
local macro_rules | `(tactic| walk_at "subscriptTail Name Slice ref ref") => `(tactic| refine hold ?_)
local macro_rules | `(tactic| walk_at "compareOp In") => `(tactic| refine hold ?_)
def qualO : Str := Str.ofString "_law_opened_right" ++ Str.ofString ".<locals>." ++ Str.ofString "<lambda>"
set_option maxHeartbeats 4000000 in
theorem openedSpec {w : World} {p : Program} {loose : List Str} {mean : ExcName → Option Value} {mg mb : Str → Option Value} {dp un : Nat} {gd : Option (List Code)} {outer : List Env} {base g : Heap} {s : Shared} {R : Result → Shared → Prop}
    {src nm sl tl tb rw d t : Addr} {so : Obj} {ds ts tbs rws : List Value} {n1 n2 n3 n4 : Nat} {D : List (Str × Str)} {ps : Array Value} {CT : List (Addr × Obj)} (G : Gd w p loose mean mg mb 30 dp un gd outer base g s)
    (N : Sep g s.heap ((src, so) :: (sl, listOf (ds ++ [Value.ref d]).toArray n1) :: (tl, listOf ts.toArray n2) :: (tb, listOf (tbs ++ [Value.ref t]).toArray n3) :: (rw, listOf rws.toArray n4) :: (265, tabObj ps) :: CT)) (hso : SrcO so) (TK : TabOk 265 qualO CT ps)
    (hne : @Ne Nat src sl ∧ @Ne Nat src tl ∧ @Ne Nat src tb ∧ @Ne Nat src rw ∧ @Ne Nat sl tl ∧ @Ne Nat sl tb ∧ @Ne Nat sl rw ∧ @Ne Nat tl tb ∧ @Ne Nat tl rw ∧ @Ne Nat tb rw ∧ @Ne Nat src 265 ∧ @Ne Nat sl 265 ∧ @Ne Nat tl 265 ∧ @Ne Nat tb 265 ∧ @Ne Nat rw 265) (hn : NamesAt base nm sl tl) (hD : DictAt w base d D) (hT : DictAt w base t D) (hD64 : D.length ≤ 900) (hok : DOk D)
    (hds : ds.length ≤ 900) (hts : ts.length ≤ 900) (htb : tbs.length ≤ 900) (hrw : rws.length ≤ 900)
    (hretA : ∀ so' ps' CT' h' tk, Kept base g outer h' → SrcO so' → TabOk 265 qualO CT' ps' → (∀ q ∈ CT, q ∈ CT') → Sep g h' ((src, so') :: (sl, listOf (ds ++ [Value.ref d]).toArray n1) :: (tl, listOf ts.toArray n2) :: (tb, listOf (tbs ++ [Value.ref t]).toArray n3) :: (rw, listOf rws.toArray n4) :: (265, tabObj ps') :: CT') → R (.ok (.ret (.bool true))) { s with heap := h', toks := tk })
    (hretB : ∀ so' ps' CT' Z M d' t' tr rr fs gs k1 k2 n3' n4' h' tk, Kept base g outer h' → SrcO so' → TabOk 265 qualO CT' ps' → (∀ q ∈ CT, q ∈ CT') → (∀ q ∈ CT', q ∈ Z) → (∀ q ∈ M, q ∈ okBinds) → M.length ≤ 64 →
      Sep g h' ((src, so') :: (sl, listOf (ds ++ [Value.ref d, Value.ref d']).toArray (n1 + 1)) :: (tl, listOf (ts ++ [Value.ref tr]).toArray (n2 + 1)) :: (tb, listOf (tbs ++ [Value.ref t, Value.ref t']).toArray n3') :: (rw, listOf (rws ++ [Value.ref rr]).toArray n4') :: (265, tabObj ps') :: Z) →
      ((d' = d ∧ M = []) ∨ DictIn w Z d' (puts D M)) → DictIn w Z t' (puts D M) → (tr, tupO fs k1) ∈ Z → PairsIn Z fs M → (rr, tupO gs k2) ∈ Z → PairsIn Z gs M → (ApartT Z src ∧ ApartT Z sl ∧ ApartT Z tl ∧ ApartT Z tb ∧ ApartT Z rw ∧ ApartT Z 265) → R (.ok (.ret (.bool true))) { s with heap := h', toks := tk }) :
    codeAny (model PySem.Challenge.rw_nu0058_01.row.prog w) (Ar dp un gd outer) (.call (.ref 268) ⟨[.ref src, .ref nm, .ref tb, .ref rw], []⟩) R s := by
  have X := G.X
  have T := G.T
  obtain ⟨B, XB, TB, full, st, sz, hdp, hun⟩ := G
  have hDg := hD.keep B.stays
  have hTg := hT.keep B.stays
  obtain ⟨dx, k1, k2, h1, h2, nn, hn1, hn2⟩ := (hn.keep B.stays).obj
  obtain ⟨e1, e2, e3, e4, e5, e6, e7, e8, e9, e0, ea, eb, ec, ed, ee⟩ := hne
  have hfill : (PySem.Challenge.rw_nu0058_01.row.prog = PySem.Challenge.rw_nu0058_01.row.prog) ∧ (hd.heap_39 = hd.heap_39) → True := fun _ => trivial
  revert hfill; k_fill; intro hfill; clear hfill
  refine' enterSC ?k1 ?k2 ?k3 ?k4 ?k5 ?kN ?k6 ?k7 ?k8 ?k9 ?kB ?kD ?_ ?c2 ?c3 ?c4
  (case k1 => assumption)
  (case k2 => assumption)
  (case k3 => assumption)
  (case k4 => assumption)
  (case k5 => assumption)
  (case kN => assumption)
  (case k6 => k_is)
  (case k7 => k_is)
  (case k8 => k_room)
  (case k9 => first | exact BindsTo.of_eq rfl | exact binds_K (X.keeps st) rfl (by k_is) rfl rfl rfl)
  (case kB => exact rfl)
  (case kD => decide +kernel)
  (case c2 => exact rfl)
  (case c3 => exact rfl)
  (case c4 => exact rfl)
  k_whole
  intro L' h' tk' cells' F' N' Y' l1; (try k_lt l1); k_cells Y'; (try dsimp only [List.cons_append, List.nil_append] at N'); (try dsimp only); (try k_fold)
  rename_i o6 o5 o4 o3 o2 o1 d6 d5 d4 d3 d2 d1
  refine wpAny_noRaise ?_
  have lc1 := lt_up l1
  have lc2 := lt_cell (o := o1) lc1
  have lc3 := lt_cell (o := o2) lc2
  have lc4 := lt_cell (o := o3) lc3
  have lc5 := lt_cell (o := o4) lc4
  have lc6 := lt_cell (o := o5) lc5
  replace F' : Fr _ _ _ (fun y => if y = Str.ofString "rows" then some (.ref rw) else if y = Str.ofString "tables" then some (.ref tb) else if y = Str.ofString "source" then some (.ref src) else none) := F'
  replace d6 : o6.data = .cell none := d6
  replace d5 : o5.data = .cell none := d5
  replace d4 : o4.data = .cell none := d4
  replace d3 : o3.data = .cell none := d3
  replace d2 : o2.data = .cell none := d2
  replace d1 : o1.data = .cell (some (.ref nm)) := d1
  w_strict k_steps
  all_goals (try dsimp only)
  (rename Fr _ _ _ _ => F1); (rename News _ _ _ _ => N1)
  have apC : ∀ b ∈ [L' + 1 + 1 + 1 + 1 + 1 + 1, L' + 1 + 1 + 1 + 1 + 1, L' + 1 + 1 + 1 + 1, L' + 1 + 1 + 1, L' + 1 + 1, L' + 1, src, sl, tl, tb, rw, 265], ApartT CT b :=
    TK.aparts (C := [_, _, _, _, _, _, _, _, _, _, _]) N1 (nf_cons (nf_cell d6) (nf_cons (nf_cell d5) (nf_cons (nf_cell d4) (nf_cons (nf_cell d3) (nf_cons (nf_cell d2) (nf_cons (nf_cell d1) (nf_cons (nf_src hso) (nf_cons (nf_list _ _) (nf_cons (nf_list _ _) (nf_cons (nf_list _ _) (nf_cons (nf_list _ _) nf_nil))))))))))) rfl
  refine drawn_callZ (C1 := [_, _, _, _, _, _]) (C2 := [_, _, _, _, _]) rfl B F1 N1 (by k_all) (by k_all) apC rfl hso XB TB rfl rfl (by k_room) (by k_units) ?_
  clear F1 N1 N apC
  intro ro fs nr Z0 l so1 h2 tk2 hokl hl64 hps hro hso1 F2 N3 apC hCTZ
  dsimp only [List.cons_append, List.nil_append] at N3
  dsimp only
  w_strict k_steps
  all_goals (try dsimp only)
  (rename Fr _ _ _ _ => F4); (rename News _ _ _ _ => N4); (rename Obj.data _ = Data.cell (some (Value.ref ro)) => d6')
  rename_i o6'
  refine lam_stepZ (qual := qualO) (D := []) (C := [_, _, _, _, _, _, _, _, _, _, _]) (P := 265) (CT := CT) F4 N4 all_nil (by k_all) apC rfl hCTZ TK T (codeHd_of_K (c := 267) (P := 265) X (by kernel_rfl)) rfl rfl rfl rfl ?_
  clear F4 N4 apC
  intro fl c' oc ctv ps1 CT1 Z1 h5 tk5 vs5 t5 F5 N5 TK1 hCT1 hZ1 hsub1 hc' hd' hv' hne1 apC
  replace hps := hps.mono hZ1
  replace hro := hZ1 _ hro
  clear TK hCTZ hZ1
  dsimp only [List.cons_append, List.nil_append] at N5 hne1
  dsimp only
  w_strict k_steps
  all_goals (try dsimp only)
  (rename Fr _ _ _ _ => F6); (rename News _ _ _ _ => N6)
  refine enter_toldZ (l := l) (C1 := [_, _, _, _, _, _, _]) (C2 := [_, _, _]) rfl B full F6 N6 (by k_all) (by k_all) (by k_all) (by k_all) apC rfl XB TB rfl rfl hc' hd' hv' (show (L' + 1, o1) ∈ _ by kfm_turns) d1 (show (L' + 1 + 1 + 1 + 1 + 1 + 1, o6') ∈ _ by kfm_turns) d6'
    e5 hn hro hps hD (Nat.le_trans hD64 (by decide)) (Nat.le_trans hds (by decide)) (Nat.le_trans hts (by decide)) hl64 hokl (by k_room) (by k_units) ?_ ?_
  · clear F6 N6 apC hc' hd' hv' hne1
    intro hbad ro2 tr d' os fs2 ko kt Z h7 tk7 F7 N8 apC hZ hro2 hps2 htr hps3 hd2
    dsimp only [List.cons_append, List.nil_append] at N8
    replace hps := hps.mono hZ
    replace hro := hZ _ hro
    replace hCT1 := fun q hq => hZ _ (hCT1 q hq)
    clear hZ
    dsimp only
    w_strict k_steps
    all_goals (try dsimp only)
    (rename Fr _ _ _ _ => F8); (rename News _ _ _ _ => N8x)
    refine ListComp_W F8 (by with_unfolding_all rfl) (by decide) (by rfl) (by decide) (by rfl) ?_
    w_strict k_steps
    all_goals (try dsimp only)
    (rename Fr _ _ _ _ => F9); (rename News _ _ _ _ => N9)
    refine tuple_src rfl (show (ro, tupO fs nr) ∈ _ by kfm_turns) F9 N9 (by rw [hps.length, sizeLine_eq]; exact Nat.le_trans hl64 (by decide)) fun hK => ?_
    refine comp_filter hps (fun q => (prefOf q.1).isSome) ?_ ?_ ?_ ?_
    · kfm_turns
    · intro i a x y t u n I oI C oC D m₂ ys h tk E' ha hm hoC hx FA NA off ne
      have NB : News g _ _ ((a, tupO [.str x t, .str y u] n) :: _) := fun q hq => by
        rcases List.mem_cons.mp hq with rfl | hq
        · exact NA _ (by kfm_turns)
        · exact NA _ hq
      have hxl := pok_len (hokl _ hm)
      w_strict k_steps
      all_goals (try dsimp only)
      (rename Fr _ _ _ _ => FB); (rename News _ _ _ _ => NC)
      have hs5 := slice5 (hokl _ hm)
      exact ⟨hs5, _, _, rfl, FB, newsPerm NC fun q hq => .tail _ hq⟩
    · intro i a x y t u n I oI C oC D m₂ ys h tk E' ha hm hoC hx F7 N7 off ne
      w_strict k_steps
      all_goals (try dsimp only)
      exact ⟨rfl, _, _, rfl, F7, N7⟩
    · intro ys hys DM h8 tk8 F8 N8 off8
      replace off8 := off1_all off8
      have hzM : (l.filter (fun q => (prefOf q.1).isSome)).length ≤ 64 := filt_len _ _ hl64
      w_strict k_steps
      all_goals (try dsimp only)
      (rename Fr _ _ _ _ => F8)
      refine LCt.ListComp_T (F₀ := F8) (by with_unfolding_all rfl) (by decide) (by rfl) (by decide) (by rfl) ?_
      w_strict k_steps
      all_goals (try dsimp only)
      (rename Fr _ _ _ _ => F9); (rename News _ _ _ _ => N9); (rename Obj.data _ = Data.cell (some (Value.ref DM)) => dM)
      refine LCt.CompSrcT.ledger rfl F9 N9 (show (DM, listOf ys.toArray _) ∈ _ by kfm_turns) (by simp only [List.size_toArray]; rw [hys.length, sizeLine_eq]; exact Nat.le_trans hzM (by decide)) fun g' => ?_
      refine comp_filter hys (fun q => decide (q ∈ badW)) (.inr ⟨_, by kfm_turns, rfl, _, rfl⟩) ?_ ?_ ?_
      · intro i a x y t u n I oI C oC D m₂ ys h tk E' ha hm hoC hx FA NA off ne
        have NB : News g _ _ ((a, tupO [.str x t, .str y u] n) :: _) := fun q hq => by
          rcases List.mem_cons.mp hq with rfl | hq
          · exact NA _ (by kfm_turns)
          · exact NA _ hq
        rcases mine_cases hokl hm with ⟨hw, hdc⟩ | ⟨hw, hdc⟩
        all_goals (
          rw [hdc]
          w_strict k_steps
          all_goals (try dsimp only)
          (rename Fr _ _ _ _ => FB); (rename News _ _ _ _ => NC)
          exact ⟨rfl, _, _, rfl, FB, newsPerm NC fun q hq => .tail _ hq⟩)
      · intro i a x y t u n I oI C oC D m₂ ys h tk E' ha hm hoC hx F7 N7 off ne
        w_strict k_steps
        all_goals (try dsimp only)
        exact ⟨rfl, _, _, rfl, F7, N7⟩
      · intro yw hyw DW h9 tk9 F9 N9 off9
        have hsok := sok_all hokl
        have hW0 : (l.filter fun q => (prefOf q.1).isSome).filter (fun q => decide (q ∈ badW)) = [] := List.filter_eq_nil_iff.mpr fun q hq hb => hbad ((badW_mem hokl).mp ⟨q, hq, of_decide_eq_true hb⟩)
        rw [hW0] at hyw
        cases hyw
        replace off9 := off1_all off9
        w_strict k_steps
        all_goals (try dsimp only)
        (rename Fr _ _ _ _ => F10); (rename News _ _ _ _ => N10)
        refine nil_nil N10 (show (DW, listOf #[] _) ∈ _ by kfm_turns) (.head _) (by k_units) ?_
        (try dsimp only)
        w_strict k_steps
        all_goals (try dsimp only)
        (rename Fr _ _ _ _ => F11)
        refine ListComp_W F11 (by with_unfolding_all rfl) (by decide) (by rfl) (by decide) (by rfl) ?_
        w_strict k_steps
        all_goals (try dsimp only)
        (rename Fr _ _ _ _ => F12); (rename News _ _ _ _ => N12)
        refine tuple_src rfl (show (ro, tupO fs nr) ∈ _ by kfm_turns) F12 N12 (by rw [hps.length, sizeLine_eq]; exact Nat.le_trans hl64 (by decide)) fun hK => ?_
        refine comp_filter hps (fun q => (prefOf q.1).isNone) ?_ ?_ ?_ ?_
        · kfm_turns
        · intro i a x y t u n I oI C oC D m₂ yz h tk E' ha hm hoC hx FA NA off ne
          have NB : News g _ _ ((a, tupO [.str x t, .str y u] n) :: _) := fun q hq => by
            rcases List.mem_cons.mp hq with rfl | hq
            · exact NA _ (by kfm_turns)
            · exact NA _ hq
          w_strict k_steps
          all_goals (try dsimp only)
          (rename Fr _ _ _ _ => FB); (rename News _ _ _ _ => NC)
          refine kqd_notIn (d := pairDat (x, y)) NC (show (DM, listOf ys.toArray _) ∈ _ by kfm_turns) rfl rfl hys.dat (fun q hq => by kfm_turns) (DatIn.tuple (.head _) (.cons (.str _ _) (.cons (.str _ _) .nil))) (fun _ h => h) (pairDat_ok (sok_filter hsok _)) (pairDat_ok hsok _ (List.mem_map.mpr ⟨_, hm, rfl⟩)) (by k_units) ?_
          (try dsimp only)
          w_strict k_steps
          all_goals (try dsimp only)
          exact ⟨notmine hm _, _, _, rfl, FB, newsPerm NC fun q hq => .tail _ hq⟩
        · intro i a x y t u n I oI C oC D m₂ yz h tk E' ha hm hoC hx F7 N7 off ne
          w_strict k_steps
          all_goals (try dsimp only)
          exact ⟨rfl, _, _, rfl, F7, N7⟩
        · intro yo hyo DO h13 tk13 F13 N13 off13
          replace off13 := off1_all off13
          replace hyo : PairsIn Z yo (othersOf l) := hyo
          have hzo : (othersOf l).length ≤ 64 := filt_len _ _ hl64
          have hzy : yo.length ≤ 64 := by rw [hyo.length]; exact hzo
          w_strict k_steps
          all_goals (try dsimp only)
          (rename Fr _ _ _ _ => F14); (rename News _ _ _ _ => N14); (rename DictS _ _ _ => dD)
          replace N14 := newsPerm N14 fun q hq => .tail _ hq
          refine' pairs_iterL rfl rfl rfl rfl (show (DM, listOf ys.toArray _) ∈ _ by kfm_turns) Z hys F14 N14 (OpKof w D F14 N14) ?p0 ?pJ ?pturn ?pdone
          case p0 => exact ⟨_, rfl, dD, fun _ _ => rfl⟩
          case pJ =>
            rintro pre m' news' ⟨o, rfl, _⟩
            exact ⟨.tail _ (by kfm_turns), fun q hq => by kfm_turns⟩
          case pturn =>
            rintro pre x y post t u m₁ news₁ I itO h₁ tk₁ hl ⟨o, rfl, dd, hm⟩ hI F2 N2
            have hk := keepN_of hm
            rw [hk] at F2
            dsimp only [keepN] at F2
            have hmem : (x, y) ∈ l.filter (fun q => (prefOf q.1).isSome) := by rw [hl]; simp
            obtain ⟨p, hx⟩ := decl_of hokl hmem
            have hxl := pok_len (hokl _ (List.mem_filter.mp hmem).1)
            dsimp only at hxl
            have hz : (puts D (mineOf pre)).length ≤ 1000 := by
              have a := puts_len (mineOf pre) D
              have b := mine_len pre
              have e := congrArg List.length hl
              have f := filt_len (fun q : Str × Str => (prefOf q.1).isSome) l hl64
              simp at e
              omega
            w_strict k_steps
            all_goals (try dsimp only)
            (rename Fr _ _ _ _ => F5); (rename News _ _ _ _ => N5); (rename DictS _ _ _ => d5)
            rw [slice6 hx] at d5
            refine ⟨rfl, _, _, _, _, rfl, F5, N5, all_cons (hI _ (.head _)) fun q hq => hI q (.tail _ hq), _, rfl, by rw [mine_decl hx, puts_snoc]; exact d5, ?_⟩
            repeat (first | exact keepN_base | refine keepN_if (by decide) ?_)
          case pdone =>
            rintro h15 tk15 m15 news15 F15 N15 ⟨oT, rfl, dT, hm⟩
            have hk := keepN_of hm
            rw [hk] at F15
            dsimp only [keepN] at F15 ⊢
            rw [mine_filter] at dT
            clear dD
            w_strict k_steps
            all_goals (try dsimp only)
            (rename Fr _ _ _ _ => F16)
            refine LCp.ListComp_P (F₀ := F16) (by with_unfolding_all rfl) (by decide) (by rfl) (by decide) (by rfl) (by rfl) (by decide) ?_
            w_strict k_steps
            all_goals (try dsimp only)
            (rename Fr _ _ _ _ => F17); (rename News _ _ _ _ => N17)
            refine LCp.SrcLP.ledger rfl F17 N17 (show (DM, listOf ys.toArray _) ∈ _ by kfm_turns) (by simp only [List.size_toArray]; rw [hys.length, sizeLine_eq]; exact Nat.le_trans hzM (by decide)) fun g' => ?_
            refine compP_datZ (D := [_, _, _, _, _, _]) (C := [_, _, _, _, _, _, _, _, _, _, _, _]) hys (fun i v h => by simpa using h) (fun q => pairDat ((prefOf q.1).getD (Str.ofString ""), q.2)) apC rfl (fun X => .inr ⟨_, List.mem_append_left _ (by kfm_turns), rfl, _, rfl⟩) ?_ ?_
            · intro x y t u X I oI C oC D m₂ yz h tk E' hm hoC hx1 hx2 FA NA
              obtain ⟨p, hx⟩ := decl_of hokl hm
              have hxl := pok_len (hokl _ (List.mem_filter.mp hm).1)
              dsimp only at hxl
              dsimp only [List.cons_append, List.nil_append] at NA
              w_strict k_steps
              all_goals (try dsimp only)
              (rename Fr _ _ _ _ => FB); (rename News _ _ _ _ => NC)
              rw [slice6 hx] at NC
              refine ⟨[(_, _)], _, _, rfl, FB, NC, ?_, ?_⟩
              · rw [pref_decl hx]
                exact DatIn.tuple (.head _) (.cons (.str _ _) (.cons (.str _ _) .nil))
              · intro z hz
                rw [List.mem_singleton.mp hz]
                exact all_lt (by assumption)
            · (try clear F17); (try clear N17); clear hys hps hro
              intro yr Z2 hZ2 hyr apC2 DR h18 tk18 F18 N18 off18
              rw [mine_dats] at hyr
              replace hyr := dat_pairs hyr
              have hzr : yr.length ≤ 64 := by rw [hyr.length]; exact Nat.le_trans (mine_len l) hl64
              replace off18 := off1_all off18
              dsimp only [List.cons_append, List.nil_append] at N18 off18
              replace hps2 := hps2.mono hZ2
              replace hps3 := hps3.mono hZ2
              replace hyo := hyo.mono hZ2
              replace hro2 := hZ2 _ hro2
              replace htr := hZ2 _ htr
              replace hCT1 := fun q hq => hZ2 _ (hCT1 q hq)
              replace hd2 : (d' = d ∧ mineOf l = []) ∨ DictIn w Z2 d' (puts D (mineOf l)) := hd2.imp id fun x => x.mono hZ2
              clear hZ2 apC
              w_strict k_steps
              all_goals (try dsimp only)
              (rename News _ _ _ _ => N19)
              refine same_tups N19 (show (ro2, tupO os ko) ∈ _ by kfm_turns) hps2 (fun q hq => by kfm_turns) (by kfm_turns) hyo (fun q hq => by kfm_turns) (sok_filter hsok _) (by k_units) ?_
              clear hps2 hro2
              (try dsimp only)
              w_strict k_steps
              all_goals (try dsimp only)
              (rename Fr _ _ _ _ => F20)
              refine ListComp_PT F20 (by with_unfolding_all rfl) (by decide) (by rfl) (by decide) (by rfl) (by rfl) (by decide) ?_
              w_strict k_steps
              all_goals (try dsimp only)
              (rename Fr _ _ _ _ => F21); (rename News _ _ _ _ => N21)
              refine ⟨_, yo, 0, _, rfl, rfl, F21, N21, by kfm_turns, by rw [hyo.length, sizeLine_eq]; exact Nat.le_trans hzo (by decide), fun g' => ?_⟩
              refine compP_datZ (D := [_, _, _, _, _, _, _, _]) (C := [_, _, _, _, _, _, _, _, _, _, _, _]) hyo (fun i v h => h) (fun q => eDat (expA (puts D (mineOf l)) q.1)) apC2 rfl (fun X => List.mem_append_left _ (by kfm_turns)) ?_ ?_
              · intro x y t u X I oI C oC D0 m₂ yz h tk E' hm hoC hx1 hx2 FA NA
                have hpx := others_ok hokl _ hm
                obtain ⟨y', z', hsp, hso⟩ := plain_split hpx
                have hexp : expA (puts D (mineOf l)) x = resOf (puts D (mineOf l)) y' z' true := by unfold expA; rw [hso]; rfl
                dsimp only [List.cons_append, List.nil_append] at NA
                w_strict k_steps
                all_goals (try dsimp only)
                (rename Fr _ _ _ _ => FB); (rename News _ _ _ _ => NC)
                refine exp_callT hsp B FB NC XB TB rfl rfl ⟨by assumption, oT, by kfm_turns, dT⟩ (by k_room) (by k_units) ?_ ?_
                · intro u1 l1 e1 r t1 t2 n h tk FD ND ne1
                  exact ⟨[(r, tupO [.str u1 t1, .str l1 t2] n)], _, _, rfl, FD, ND, by dsimp only; rw [hexp, e1]; exact DatIn.tuple (.head _) (.cons (.str _ _) (.cons (.str _ _) .nil)), fun z hz p hp => by rw [List.mem_singleton.mp hz]; exact ne1 p hp⟩
                · intro e1 t1 h tk FD ND
                  exact ⟨[], _, _, rfl, FD, ND, by dsimp only; rw [hexp, e1]; exact .str _ _, fun _ h => nomatch h⟩
              · (try clear F20); (try clear F21); (try clear N21)
                intro ye Z3 hZ3 hye apC DE h22 tk22 F22 N22 off22
                replace off22 := off1_all off22
                dsimp only [List.cons_append, List.nil_append] at N22 off22
                replace hps3 := hps3.mono hZ3
                replace hyo := hyo.mono hZ3
                replace htr := hZ3 _ htr
                replace hCT1 := fun q hq => hZ3 _ (hCT1 q hq)
                replace hd2 : (d' = d ∧ mineOf l = []) ∨ DictIn w Z3 d' (puts D (mineOf l)) := hd2.imp id fun x => x.mono hZ3
                replace hyr := hyr.mono hZ3
                clear hZ3 apC2
                replace hye : DatAll Z3 ye (refL (puts D (mineOf l)) (othersOf l)) := hye
                w_strict k_steps
                all_goals (try dsimp only)
                (rename Fr _ _ _ _ => F23); (rename News _ _ _ _ => N23)
                simp only [List.push_toArray, List.append_assoc, List.cons_append, List.nil_append] at N23
                have NT := trimN N23
                refine cutE (RefOf F23 NT (puts D (mineOf l)) (othersOf l) s) ?ca ?cb
                case ca =>
                  dsimp only [RefOf]
                  clear NT apC hCT1 hps3 hyr htr hd2 hretA hretB TK1 hsub1
                  have hDp : DOk (puts D (mineOf l)) := hok.puts (mine_ok hokl hbad)
                  have hk8 := refL_ok hDp (others_ok hokl)
                  have hze : ye.length ≤ 64 := by rw [hye.length, refL_len]; exact hzo
                  refine wpAny_Assign_Name (hs := by with_unfolding_all rfl) ?_
                  w_strict k_steps
                  all_goals (try dsimp only)
                  (rename News _ _ _ _ => N24)
                  refine kqd_isIn (d := Dat.str (Str.ofString "refused")) (n₂ := Z3) N24 (show (DE, listOf ye.toArray _) ∈ _ by kfm_turns) rfl rfl hye (fun q hq => by kfm_turns) (DatIn.str _ _) (fun q hq => by kfm_turns) hk8 (by decide +kernel) (by k_units) ?_
                  by_cases hr : Dat.str (Str.ofString "refused") ∈ refL (puts D (mineOf l)) (othersOf l)
                  · rw [decT _ hr]
                    (try dsimp only)
                    have hck : ¬ CheckOk (puts D (mineOf l)) (othersOf l) := fun h => (check_iff.mp h).1 hr
                    w_strict k_steps
                    all_goals (try dsimp only)
                    (rename Fr _ _ _ _ => F30); (rename News _ _ _ _ => N30)
                    exact ⟨_, _, _, rfl, F30, trimN N30, fun _ => hck, fun _ => rfl⟩
                  · rw [decF _ hr]
                    (try dsimp only)
                    w_strict k_steps
                    all_goals (try dsimp only)
                    (rename Fr _ _ _ _ => F24)
                    refine LCt.ListComp_T (F₀ := F24) (by with_unfolding_all rfl) (by decide) (by rfl) (by decide) (by rfl) ?_
                    w_strict k_steps
                    all_goals (try dsimp only)
                    (rename Fr _ _ _ _ => F25); (rename News _ _ _ _ => N25); (rename IsRange _ _ _ _ _ _ _ _ => hR)
                    refine LCt.CompSrcT.range (n := ye.length) rfl F25 N25 hR (small64 hze) (by rw [rangeSize_nat]; simp) (by rw [sizeLine_eq]; exact Nat.le_trans hze (by decide)) fun g' => ?_
                    have eze : ye.length = (refL (puts D (mineOf l)) (othersOf l)).length := hye.length
                    refine compT_dat (dupAt (refL (puts D (mineOf l)) (othersOf l))) (fun i => Dat.int i) (fun _ => trivial) ?_ ?_ ?_
                    · intro i v X I oI C oC D0 m₂ yz h tk E' hi hv hoC hx FA NA off ne
                      obtain ⟨t9, hv9⟩ := hv
                      rw [Int.zero_add] at hv9
                      subst hv9
                      clear off
                      dsimp only [List.cons_append, List.nil_append] at NA
                      w_strict k_steps
                      all_goals (try dsimp only)
                      (rename Fr _ _ _ _ => FB); (rename News _ _ _ _ => NB)
                      have hi1 : (i : Int) < ((refL (puts D (mineOf l)) (othersOf l)).length : Int) := by rw [← eze]; exact Int.ofNat_lt.mpr hi
                      refine kd_item NB (show (DE, listOf ye.toArray _) ∈ _ by kfm_turns) hye (Int.natCast_nonneg i) hi1 (Int.lt_trans (Int.ofNat_lt.mpr (Nat.lt_of_lt_of_le hi hze)) (by decide)) fun v9 d9 hd9 hmem9 hD9 => ?_
                      rw [Int.toNat_natCast] at hd9
                      (try dsimp only)
                      w_strict k_steps
                      all_goals (try dsimp only)
                      (rename Fr _ _ _ _ => FC); (rename News _ _ _ _ => NC)
                      refine slice_list (s := ⟨_, _, _, _, _⟩) (lo := none) (hi := some (i : Int)) FC NC (News.isList NC (show (DE, listOf ye.toArray _) ∈ _ by kfm_turns)) (by constructor) (by constructor) (fun h40 FD ND => ?_) (hsz := by rw [List.size_toArray, sizeLine_eq]; exact Nat.le_trans hze (by decide))
                      rw [pick_take] at ND
                      (try dsimp only)
                      w_strict k_steps
                      all_goals (try dsimp only)
                      have inZX : ∀ q ∈ Z3, q ∈ Z3 ++ X := fun q hq => List.mem_append_left _ hq
                      refine kqd_isIn (d := d9) ND (.head _) rfl rfl (DatAll.takeN hye i) (fun q hq => by replace hq := inZX q hq; kfm_turns) hD9 (fun q hq => by replace hq := inZX q hq; kfm_turns) (fun d hd => hk8 d (List.mem_of_mem_take hd)) (hk8 _ hmem9) (by k_units) ?_
                      (try dsimp only)
                      w_strict k_steps
                      all_goals (try dsimp only)
                      exact ⟨dup_eq hd9 _, _, _, rfl, FD, newsPerm ND fun q hq => .tail _ hq⟩
                    · intro i v X I oI C oC D0 m₂ yz h tk E' hi hv hoC hx FA NA off ne
                      obtain ⟨t9, hv9⟩ := hv
                      rw [Int.zero_add] at hv9
                      subst hv9
                      clear off
                      dsimp only [List.cons_append, List.nil_append] at NA
                      w_strict k_steps
                      all_goals (try dsimp only)
                      (rename Fr _ _ _ _ => FB); (rename News _ _ _ _ => NB)
                      exact ⟨[], _, _, rfl, FB, NB, .int _ _, fun _ h => nomatch h⟩
                    · intro yc X hyc DC h41 tk41 F41 N41 off41
                      replace hyc := ints_any (Y := []) hyc
                      replace N41 := drop_app N41
                      clear off41
                      w_strict k_steps
                      all_goals (try dsimp only)
                      (rename News _ _ _ _ => N43)
                      refine kqd_ne (n₁ := []) (n₂ := []) N43 (show (DC, listOf yc.toArray _) ∈ _ by kfm_turns) rfl rfl hyc (fun _ h => nomatch h) (.head _) rfl rfl DatAll.nil (fun _ h => nomatch h) (fun d hd => by obtain ⟨_, _, rfl⟩ := List.mem_map.mp hd; rfl) (fun _ h => nomatch h) (by k_units) ?_
                      by_cases hdup : (List.range ye.length).filter (dupAt (refL (puts D (mineOf l)) (othersOf l))) = []
                      · rw [decT _ (show List.map _ _ = [] by rw [hdup]; rfl)]
                        have hck : CheckOk (puts D (mineOf l)) (othersOf l) := check_iff.mpr ⟨hr, (dup_iff2 _).mp (by rw [← eze]; exact hdup)⟩
                        (try dsimp only)
                        w_strict k_steps
                        all_goals (try dsimp only)
                        (rename Fr _ _ _ _ => F30); (rename News _ _ _ _ => N30)
                        exact ⟨_, _, _, rfl, F30, trimN (newsPerm N30 fun q hq => .tail _ (.tail _ (hq))), (fun h => absurd h (by decide)), fun h => absurd hck h⟩
                      · rw [decF _ (fun h => hdup (List.map_eq_nil_iff.mp h))]
                        have hck : ¬ CheckOk (puts D (mineOf l)) (othersOf l) := fun h => hdup (by rw [eze]; exact (dup_iff2 _).mpr (check_iff.mp h).2)
                        (try dsimp only)
                        w_strict k_steps
                        all_goals (try dsimp only)
                        (rename Fr _ _ _ _ => F30); (rename News _ _ _ _ => N30)
                        exact ⟨_, _, _, rfl, F30, trimN (newsPerm N30 fun q hq => .tail _ (.tail _ (hq))), fun _ => hck, fun _ => rfl⟩
                case cb =>
                  dsimp only [RefOf]
                  clear NT N23 hye
                  (try clear F22); (try clear N22); clear F23
                  rintro s' ⟨h30, tk30, b, rfl, F30, N30, hb⟩
                  (try dsimp only)
                  w_strict k_steps
                  all_goals (try dsimp only)
                  (rename Fr _ _ _ _ => F31); (rename News _ _ _ _ => N31)
                  refine lam_stepZ (qual := qualO) (D := [_, _, _, _, _]) (C := [_, _, _, _, _]) (P := 265) (CT := CT1) F31 N31 (by k_all) (by k_all) (fun b hb => apC b (mt4 (mt2 hb))) rfl hCT1 TK1 (TB.keeps B.stays) (codeHd_of_K (c := 267) (P := 265) (XB.keeps B.stays) (by kernel_rfl)) rfl rfl rfl rfl ?_
                  clear F31 N31 apC; (try clear F30); (try clear N30)
                  intro fl c' oc ctv ps9 CT9 Z9 h31 tk31 vs5 t5 F31 N31 TK9 hCT9 hZ9 hsub9 hc' hd' hv' hne9 apC
                  replace hps3 := hps3.mono hZ9
                  replace hyo := hyo.mono hZ9
                  replace hyr := hyr.mono hZ9
                  replace htr := hZ9 _ htr
                  replace hd2 : (d' = d ∧ mineOf l = []) ∨ DictIn w Z9 d' (puts D (mineOf l)) := hd2.imp id fun x => x.mono hZ9
                  clear hZ9 hne9 hCT1 TK1
                  dsimp only [List.cons_append, List.nil_append] at N31
                  (try dsimp only)
                  w_strict k_steps
                  all_goals (try dsimp only)
                  (rename Fr _ _ _ _ => F32); (rename News _ _ _ _ => N32)
                  have esl : ds ++ [Value.ref d, Value.ref d'] = (ds ++ [Value.ref d]) ++ [Value.ref d'] := by simp
                  have hdD : ∀ news, (∀ q ∈ Z9, q ∈ news) → DictAt w base d' (puts D (mineOf l)) ∨ DictIn w news d' (puts D (mineOf l)) := fun news hz => by
                    rcases hd2 with ⟨e1, e2⟩ | h
                    · rw [e1, e2]; exact .inl hD
                    · exact .inr (h.mono hz)
                  refine check_told (l := othersOf l) (D := puts D (mineOf l)) (d := d') (T := Z9) (fs := yo) B full F32 N32 XB TB rfl rfl (show (sl, listOf ((ds ++ [Value.ref d]) ++ [Value.ref d']).toArray _) ∈ _ by rw [← esl]; kfm_turns) (.head _) (show (c', oc) ∈ _ by kfm_turns) hd' hv' (show (L' + 1, o1) ∈ _ by kfm_turns) d1 (show (L' + 1 + 1 + 1 + 1 + 1, _) ∈ _ by kfm_turns) (by assumption)
                    hn (by kfm_turns) hyo (fun q hq => by kfm_turns) (hdD _ fun q hq => by kfm_turns) hzo (others_ok hokl) (by k_room) (by k_units) ?_ ?_
                  all_goals clear hdD esl hc' hd' hv' N32 F32
                  · intro hck h33 tk33 F33 N33
                    obtain rfl : b = false := Bool.eq_false_iff.mpr fun h => (hb.mp h) hck
                    (try dsimp only)
                    w_strict k_steps
                    all_goals (try dsimp only)
                    refine end_true (by decide) ?_
                    have S33 := fin_sepT (fun _ h => h) N33
                    exact hretB so1 ps9 CT9 _ (mineOf l) d' _ tr _ fs2 yr kt 0 _ _ _ _ (Kept.of_stays B F33.keep) hso1 TK9 (fun q hq => hsub9 q (hsub1 q hq)) (fun q hq => .tail _ (.tail _ (hCT9 q hq))) (mine_ok hokl hbad) (Nat.le_trans (mine_len l) hl64) S33 (hd2.imp id fun x => x.mono fun q hq => .tail _ (.tail _ hq)) ⟨by assumption, oT, .head _, dT⟩ (.tail _ (.tail _ htr)) (hps3.mono fun q hq => .tail _ (.tail _ hq)) (.tail _ (.head _)) (hyr.mono fun q hq => .tail _ (.tail _ hq))
                      ⟨by k_all, by k_all, by k_all, by k_all, by k_all, by k_all⟩
                  · intro hck t33 h33 tk33 g33 gr33 F33 N33
                    obtain rfl : b = true := hb.mpr hck
                    (try dsimp only)
                    w_strict k_steps
                    all_goals (try dsimp only)
                    refine end_true (by decide) ?_
                    have S33 := fin_sepT (fun b => gr33.back full) N33
                    exact hretB so1 ps9 CT9 _ (mineOf l) d' _ tr _ fs2 yr kt 0 _ _ _ _ (gr33.kept _ (Kept.of_stays gr33.B F33.keep)) hso1 TK9 (fun q hq => hsub9 q (hsub1 q hq)) (fun q hq => .tail _ (.tail _ (hCT9 q hq))) (mine_ok hokl hbad) (Nat.le_trans (mine_len l) hl64) S33 (hd2.imp id fun x => x.mono fun q hq => .tail _ (.tail _ hq)) ⟨by assumption, oT, .head _, dT⟩ (.tail _ (.tail _ htr)) (hps3.mono fun q hq => .tail _ (.tail _ hq)) (.tail _ (.head _)) (hyr.mono fun q hq => .tail _ (.tail _ hq))
                      ⟨by k_all, by k_all, by k_all, by k_all, by k_all, by k_all⟩
  · intro hbad t7 h7 tk7 g7 gr F7 N7
    dsimp only [List.cons_append, List.nil_append] at N7
    have gs := fun b (h : g7.get? b = none) => gr.back full h
    have B7 := gr.B
    have full7 := gr.full
    have X7 := XB.keeps B7.stays
    have T7 := TB.keeps B7.stays
    clear F6 N6 B full X T hDg hTg hn1 hn2 hc' hd' hv' hne1
    (try dsimp only)
    w_strict k_steps
    all_goals (try dsimp only)
    (rename Fr _ _ _ _ => F8); (rename News _ _ _ _ => N8x)
    refine ListComp_W F8 (by with_unfolding_all rfl) (by decide) (by rfl) (by decide) (by rfl) ?_
    w_strict k_steps
    all_goals (try dsimp only)
    (rename Fr _ _ _ _ => F9); (rename News _ _ _ _ => N9)
    refine tuple_src rfl (show (ro, tupO fs nr) ∈ _ by kfm_turns) F9 N9 (by rw [hps.length, sizeLine_eq]; exact Nat.le_trans hl64 (by decide)) fun hK => ?_
    refine comp_filter hps (fun q => (prefOf q.1).isSome) ?_ ?_ ?_ ?_
    · kfm_turns
    · intro i a x y t u n I oI C oC D m₂ ys h tk E' ha hm hoC hx FA NA off ne
      have NB : News g7 _ _ ((a, tupO [.str x t, .str y u] n) :: _) := fun q hq => by
        rcases List.mem_cons.mp hq with rfl | hq
        · exact NA _ (by kfm_turns)
        · exact NA _ hq
      have hxl := pok_len (hokl _ hm)
      w_strict k_steps
      all_goals (try dsimp only)
      (rename Fr _ _ _ _ => FB); (rename News _ _ _ _ => NC)
      have hs5 := slice5 (hokl _ hm)
      exact ⟨hs5, _, _, rfl, FB, newsPerm NC fun q hq => .tail _ hq⟩
    · intro i a x y t u n I oI C oC D m₂ ys h tk E' ha hm hoC hx F7 N7 off ne
      w_strict k_steps
      all_goals (try dsimp only)
      exact ⟨rfl, _, _, rfl, F7, N7⟩
    · intro ys hys DM h8 tk8 F8 N8 off8
      replace off8 := off1_all off8
      have hzM : (l.filter (fun q => (prefOf q.1).isSome)).length ≤ 64 := filt_len _ _ hl64
      w_strict k_steps
      all_goals (try dsimp only)
      (rename Fr _ _ _ _ => F8)
      refine LCt.ListComp_T (F₀ := F8) (by with_unfolding_all rfl) (by decide) (by rfl) (by decide) (by rfl) ?_
      w_strict k_steps
      all_goals (try dsimp only)
      (rename Fr _ _ _ _ => F9); (rename News _ _ _ _ => N9); (rename Obj.data _ = Data.cell (some (Value.ref DM)) => dM)
      refine LCt.CompSrcT.ledger rfl F9 N9 (show (DM, listOf ys.toArray _) ∈ _ by kfm_turns) (by simp only [List.size_toArray]; rw [hys.length, sizeLine_eq]; exact Nat.le_trans hzM (by decide)) fun g' => ?_
      refine comp_filter hys (fun q => decide (q ∈ badW)) (.inr ⟨_, by kfm_turns, rfl, _, rfl⟩) ?_ ?_ ?_
      · intro i a x y t u n I oI C oC D m₂ ys h tk E' ha hm hoC hx FA NA off ne
        have NB : News g7 _ _ ((a, tupO [.str x t, .str y u] n) :: _) := fun q hq => by
          rcases List.mem_cons.mp hq with rfl | hq
          · exact NA _ (by kfm_turns)
          · exact NA _ hq
        rcases mine_cases hokl hm with ⟨hw, hdc⟩ | ⟨hw, hdc⟩
        all_goals (
          rw [hdc]
          w_strict k_steps
          all_goals (try dsimp only)
          (rename Fr _ _ _ _ => FB); (rename News _ _ _ _ => NC)
          exact ⟨rfl, _, _, rfl, FB, newsPerm NC fun q hq => .tail _ hq⟩)
      · intro i a x y t u n I oI C oC D m₂ ys h tk E' ha hm hoC hx F7 N7 off ne
        w_strict k_steps
        all_goals (try dsimp only)
        exact ⟨rfl, _, _, rfl, F7, N7⟩
      · intro yw hyw DW h9 tk9 F9 N9 off9
        replace off9 := off1_all off9
        w_strict k_steps
        all_goals (try dsimp only)
        (rename Fr _ _ _ _ => F10); (rename News _ _ _ _ => N10)
        refine ne_nil N10 (show (DW, listOf yw.toArray _) ∈ _ by kfm_turns) (.head _) hyw (fun q hq => by kfm_turns) sok_bad (by k_units) ?_ ?_
        · intro e
          obtain ⟨q, hq, hb⟩ := (badW_mem hokl).mpr hbad
          have z : q ∈ List.filter (fun q => decide (q ∈ badW)) _ := List.mem_filter.mpr ⟨hq, decide_eq_true hb⟩
          rw [e] at z
          cases z
        (try dsimp only)
        w_strict k_steps
        all_goals (try dsimp only)
        (rename Fr _ _ _ _ => F11); (rename News _ _ _ _ => N11)
        exact hretA _ _ _ _ _ (gr.kept _ (Kept.of_stays B7 F11.keep)) hso1 TK1 hsub1 fun q hq => by
          have hq' := List.mem_cons.mp hq
          have z := newsPerm N11 (B := (src, so1) :: (sl, listOf (ds ++ [Value.ref d]).toArray n1) :: (tl, listOf ts.toArray n2) :: (tb, listOf (tbs ++ [Value.ref t]).toArray n3) :: (rw, listOf rws.toArray n4) :: (265, tabObj ps1) :: CT1) (by
            repeat' (first | (refine List.forall_mem_cons.mpr ⟨by kfm_turns, ?_⟩))
            exact fun q hq => (by have hq := hCT1 q hq; kfm_turns))
          exact ⟨(z q hq).1, gs _ (z q hq).2.2⟩
end part38_opened
theorem off_part39_pool : True := by w_top off; trivial
set_option maxHeartbeats 2000000 in
theorem poolSpec {w : World} {p : Program} {loose : List Str} {mean : ExcName → Option Value} {mg mb : Str → Option Value} {dp un : Nat} {gd : Option (List Code)} {outer : List Env} {base g : Heap} {s : Shared} {R : Result → Shared → Prop}
    {scr : Addr} {vs : List Value} {ns : List Int} {k : Int} {t0 : Tok} (G : Gd w p loose mean mg mb 2 dp un gd outer base g s) (lifted : base.IsList scr vs.toArray) (hI : IntsAre vs ns) (hlay : (PyData.list (List.map PyData.int ns)).layable0 = true) (hl : ns.length ≤ 63) (hk0 : 0 ≤ k) (hk1 : k ≤ 1)
    (hret : ∀ src so h' tk, SrcO so → g.StaysIn h' → Sep g h' [(src, so)] → R (.ok (.ret (.ref src))) { s with heap := h', toks := tk }) :
    codeAny (model PySem.Challenge.rw_nu0058_01.row.prog w) (Ar dp un gd outer) (.call (.ref 218) ⟨[.ref scr, .int k t0], []⟩) R s := by
  have X := G.X
  have T := G.T
  obtain ⟨B, XB, TB, full, st, sz, hdp, hun⟩ := G
  have N : Sep g s.heap [] := Sep.nil
  replace lifted : g.IsList scr vs.toArray := by obtain ⟨o, a, b⟩ := lifted; exact ⟨o, B.stays _ _ a, b⟩
  have hfill : (PySem.Challenge.rw_nu0058_01.row.prog = PySem.Challenge.rw_nu0058_01.row.prog) ∧ (hd.heap_39 = hd.heap_39) → True := fun _ => trivial
  revert hfill; k_fill; intro hfill; clear hfill
  refine' enterS ?k1 ?k2 ?k3 ?k4 ?k5 ?kN ?k6 ?k7 ?k8 ?k9 ?kB ?_ ?c5 ?c2 ?c3 ?c4
  (case k1 => assumption)
  (case k2 => assumption)
  (case k3 => assumption)
  (case k4 => assumption)
  (case k5 => assumption)
  (case kN => assumption)
  (case k6 => k_is)
  (case k7 => k_is)
  (case k8 => k_room)
  (case k9 => first | exact BindsTo.of_eq rfl | exact binds_K (X.keeps st) rfl (by k_is) rfl rfl rfl)
  (case c5 => decide)
  (case kB => exact locs rfl)
  (case c2 => exact rfl)
  (case c3 => exact rfl)
  (case c4 => exact rfl)
  k_whole
  intro L' h' F' N' l1; (try k_lt l1); (try dsimp only); (try k_fold)
  refine wpAny_noRaise ?_
  w_strict k_steps
  all_goals (try dsimp only)
  all_goals ((rename Fr _ _ _ _ => F5); (rename News _ _ _ _ => N5))
  all_goals refine hret _ _ _ _ ⟨_, _, _, _, _, rfl, Int.mul_nonneg ?_ ?_, Int.fmod_nonneg_of_pos _ (by decide), Int.fmod_lt_of_pos _ (by decide)⟩ F5.keep (News.sep N5)
  all_goals (split <;> omega)
theorem off_part40_range : True := by w_top off; trivial
section
variable {w : World} {A A₀ : Around} {base g : Heap} {outer : List Env} {E : Value → Shared → Prop} {s : Shared} {env : Env} {x : Str} {px : Pos} {body : List Stmt} {Q : Flow → Shared → Prop} {r : Addr} {a b : Int} {t u v : Tok} {n : Nat}
  {m : Str → Option Value} {news : List (Addr × Obj)}
/-- `for x in range(a, b)` whose turns may turn the ground -/
theorem range_iterG (hh : A.handled = none) (hr : IsRange s.heap r a b 1 t u v) (hsm : Builtin.Range.small a b 1 = true) (hn : Builtin.Range.rangeSize a b 1 = ((n : Nat) : Int)) (B : Below A₀ base outer g) (full : ∀ b o, g.get? b = some o → b ∉ frs outer → base.get? b = some o) (F : Fr g env.locals s.heap m) (N : News g env.locals s.heap news)
    (J : Nat → (Str → Option Value) → List (Addr × Obj) → Prop) (h0 : J 0 m news)
    (turn : ∀ i t₀ g₁ m₁ news₁ I itO h₁ tk₁, i < n → J i m₁ news₁ → GR A₀ base g outer g₁ → (∀ p ∈ news₁, p.1 ≠ I) → Fr g₁ env.locals h₁ m₁ → News g₁ env.locals h₁ ((I, itO) :: news₁) →
      wpAny (model PySem.Challenge.rw_nu0058_01.row.prog w) A (assign (.Name x px) env (.int (a + (i : Int)) t₀)) (fun _ s₃ => wpAny (model PySem.Challenge.rw_nu0058_01.row.prog w) A (execs body env) (TurnG A₀ base g₁ outer env.locals I itO (J (i + 1)) s) E s₃) E { s with heap := h₁, toks := tk₁ })
    (done : ∀ g₁ h' tk m' news', GR A₀ base g outer g₁ → Fr g₁ env.locals h' m' → News g₁ env.locals h' news' → J n m' news' → Q .next { s with heap := h', toks := tk }) :
    wpAny (model PySem.Challenge.rw_nu0058_01.row.prog w) A (pyIter (.ref r)) (fun it s₂ => LoopG PySem.Challenge.rw_nu0058_01.row.prog w A A₀ base g outer env x px body Q E it s₂) E s := by
  refine wpAny_pyIter_range hr hsm ?_
  have W := LCg.range_walks (prog := PySem.Challenge.rw_nu0058_01.row.prog) (w := w) (I := s.heap.objs.size) hh a n
  refine ⟨_, _, n, _, _, m, news, J, rfl, W, Nat.ne_of_lt F.ns.lt, next_is_new F, (fun p hp => Nat.ne_of_lt (Heap.lt_size (N p hp).1)), ?_, ?_, ?_, GR.refl B full, F.push _, (fun p hp => ⟨Heap.get?_push_of_some _ (N p hp).1, (N p hp).2⟩), h0, ?_, ?_⟩
  · show IsRangeIter _ _ _ _ _
    rw [hn]
    simpa using Heap.get?_push_size _ rfl
  · exact fun i h st => ⟨_, st⟩
  · rintro i h h' o j m' news' st e1 e2 _ _
    have st' : h.get? s.heap.objs.size = some _ := st
    rw [e1] at st'
    cases st'
    exact e2
  · rintro i v g₁ m₁ news₁ itO h₁ tk₁ hi ⟨t₀, rfl⟩ hJ gr off F₁ N₁
    exact turnG_up (turn i t₀ g₁ m₁ news₁ _ itO h₁ tk₁ hi hJ gr off F₁ N₁)
  · intro g₁ h' tk m' news' gr F' N' hJ
    exact done g₁ h' tk m' news' gr F' N' hJ
end
theorem off_part41_lawcalls : True := by w_top off; trivial
/-- with no frames below the grounds are one -/
theorem fr_nil {A : Around} {base g' h : Heap} {L : Addr} {m : Str → Option Value} (x : GR A base base [] g') (F : Fr g' L h m) : Fr base L h m := ⟨F.ns, fun b o e => F.keep b o (x.B.stays b o e), by rw [← x.size]; exact F.above⟩
theorem news_nil {A : Around} {base g' h : Heap} {L : Addr} {n : List (Addr × Obj)} (x : GR A base base [] g') (N : News g' L h n) : News base L h n := fun q hq => ⟨(N q hq).1, (N q hq).2.1, by
  cases e : base.get? q.1 with
  | none => rfl
  | some o => have := x.B.stays _ _ e; rw [(N q hq).2.2] at this; cases this⟩
theorem nil_fr {A : Around} {base g' h : Heap} {L : Addr} {m : Str → Option Value} (x : GR A base base [] g') (F : Fr base L h m) : Fr g' L h m := ⟨F.ns, fun b o e => F.keep b o (x.full b o e (fun h => nomatch h)), by rw [x.size]; exact F.above⟩
theorem nil_news {A : Around} {base g' h : Heap} {L : Addr} {n : List (Addr × Obj)} (x : GR A base base [] g') (N : News base L h n) : News g' L h n := fun q hq => ⟨(N q hq).1, (N q hq).2.1, x.none _ (N q hq).2.2⟩
theorem DictS.dataD {w : World} {o : Obj} {D : List (Str × Str)} (h : DictS w o D) : ∃ es n, o.data = .dict es n := by obtain ⟨_, ⟨es, n, _, x, _⟩, _⟩ := h; exact ⟨es, n, x⟩
/-- the Bindings object in the ledger -/
inductive NamesIn (T : List (Addr × Obj)) (nm sl tl : Addr) : Prop
  | mk (dx k1 k2 h1 h2 n : _) (_ : (nm, instObj 207 dx) ∈ T) (_ : (dx, dictOf [⟨h1, .str (Str.ofString "scopes") k1, .ref sl⟩, ⟨h2, .str (Str.ofString "told") k2, .ref tl⟩] n) ∈ T) : NamesIn T nm sl tl
theorem NamesIn.mono {T T' : List (Addr × Obj)} {nm sl tl : Addr} (x : NamesIn T nm sl tl) (k : ∀ q ∈ T, q ∈ T') : NamesIn T' nm sl tl := by obtain ⟨dx, k1, k2, h1, h2, n, a, b⟩ := x; exact ⟨dx, k1, k2, h1, h2, n, k _ a, k _ b⟩
section
variable {w : World} {p : Program} {loose : List Str} {mean : ExcName → Option Value} {mg mb : Str → Option Value} {dp un : Nat} {gd : Option (List Code)} {outer : List Env} {A₀ : Around} {base h₀ : Heap} {s : Shared}
  {L : Addr} {m : Str → Option Value} {env : Env} {news : List (Addr × Obj)} {Q E : Value → Shared → Prop}
/-- the objects that turn hold fields or a sequence -/
def Turning (S : List (Addr × Obj)) : Prop := ∀ p ∈ S, (∃ vs, p.2.data = .fields vs) ∨ ∃ vs n, p.2.data = .seq vs n
theorem turn_ne {S : List (Addr × Obj)} {g h : Heap} {a : Addr} {o : Obj} (hS : Turning S) (N : News g L h news) (hSn : ∀ p ∈ S, p ∈ news) (ha : (a, o) ∈ news) (h1 : ∀ vs, o.data ≠ .fields vs) (h2 : ∀ vs n, o.data ≠ .seq vs n) : ∀ p ∈ S, p.1 ≠ a := fun p hp => by
  refine data_ne N (hSn p hp) ha fun e => ?_
  rcases hS p hp with ⟨vs, e1⟩ | ⟨vs, n, e1⟩
  · exact h1 vs (e.symm.trans e1)
  · exact h2 vs n (e.symm.trans e1)
theorem NamesIn.sub {S T : List (Addr × Obj)} {nm sl tl : Addr} (x : NamesIn T nm sl tl) (hT : ∀ q ∈ T, q ∈ news) (B : Below A₀ base outer h₀) (N : News h₀ L s.heap news) (hf : env.frame = some L) (hS : Turning S) (hSn : ∀ p ∈ S, p ∈ news) : NamesAt (subB s S env outer) nm sl tl := by
  obtain ⟨dx, k1, k2, e1, e2, n, a, b⟩ := x
  exact ⟨dx, k1, k2, e1, e2, n, sub_at B N hf (hT _ a) (turn_ne hS N hSn (hT _ a) (by intro _ h; cases h) (by intro _ _ h; cases h)), sub_at B N hf (hT _ b) (turn_ne hS N hSn (hT _ b) (by intro _ h; cases h) (by intro _ _ h; cases h))⟩
theorem DictIn.sub {S T : List (Addr × Obj)} {d : Addr} {D : List (Str × Str)} (x : DictIn w T d D) (hT : ∀ q ∈ T, q ∈ news) (B : Below A₀ base outer h₀) (N : News h₀ L s.heap news) (hf : env.frame = some L) (hS : Turning S) (hSn : ∀ p ∈ S, p ∈ news) : DictAt w (subB s S env outer) d D := by
  obtain ⟨lo, o, ho, hd⟩ := x
  obtain ⟨es, n, e⟩ := hd.dataD
  exact ⟨lo, o, sub_at B N hf (hT _ ho) (turn_ne hS N hSn (hT _ ho) (by rw [e]; intro _ h; cases h) (by rw [e]; intro _ _ h; cases h)), hd⟩
/-- behind a call: what was new or has turned, and the rest -/
theorem call_back {S S' : List (Addr × Obj)} {h' : Heap} (B : Below A₀ base outer h₀) (full : ∀ b o, h₀.get? b = some o → b ∉ frs outer → base.get? b = some o) (F : Fr h₀ L s.heap m) (N : News h₀ L s.heap news) (hf : env.frame = some L) (hS : ∀ q ∈ S, q ∈ news)
    (hk : Kept (subB s S env outer) (subG s S) (env :: outer) h') (hs : Sep (subG s S) h' S') :
    ∃ g', GR A₀ base h₀ outer g' ∧ Fr g' L h' m ∧ (∀ rest : List (Addr × Obj), (∀ q ∈ rest, q ∈ news ∧ (q ∈ S' ∨ ∀ p ∈ S, p.1 ≠ q.1)) → News g' L h' (S' ++ rest)) ∧ ∀ r ∈ news, (∀ p ∈ S, p.1 ≠ r.1) → ApartT S' r.1 := by
  obtain ⟨g', gr, F', z1, z2⟩ := kept_back B full F N hf hS hk
  refine ⟨g', gr, F', fun rest hr q hq => ?_, fun r hr hn q hq e => backNe N hs hr hn hq e.symm⟩
  rcases List.mem_append.mp hq with hq | hq
  · exact z2 _ hs q hq
  · obtain ⟨h1, h2 | h2⟩ := hr q hq
    · exact z2 _ hs q h2
    · exact z1 [q] (fun x hx => by rw [List.mem_singleton.mp hx]; exact ⟨h1, h2⟩) q (.head _)
theorem asked_call {nm sl tl d d2 : Addr} {ds : List Value} {n1 : Nat} {D : List (Str × Str)} {ps : Array Value} {CT Z : List (Addr × Obj)} (B : Below A₀ base outer h₀) (full : ∀ b o, h₀.get? b = some o → b ∉ frs outer → base.get? b = some o) (F : Fr h₀ L s.heap m) (N : News h₀ L s.heap news)
    (XB : (hd.heap_39 w.params).In base) (TB : Top p loose mean mg mb base) (hf : env.frame = some L) (hke : env.scope.kind = .function)
    (hm : (sl, listOf (ds ++ [Value.ref d]).toArray n1) ∈ news) (hP : (260, tabObj ps) ∈ news) (hZ : ∀ q ∈ Z, q ∈ news) (hCT : ∀ q ∈ CT, q ∈ Z) (TK : TabOk 260 qualA CT ps) (hs : @Ne Nat sl 260) (hn : NamesIn Z nm sl tl) (hD : DictIn w Z d D) (hD2 : DictIn w Z d2 D) (hD64 : D.length ≤ 1000) (hok : DOk D)
    (hdp : dp + 30 < recursionLimit) (hun : un + 16 * 30 + 100 < cLine)
    (h : ∀ ps' CT' h' tk g', GR A₀ base h₀ outer g' → Fr g' L h' m → (∀ rest : List (Addr × Obj), (∀ q ∈ rest, q ∈ news ∧ sl ≠ q.1 ∧ 260 ≠ q.1) → News g' L h' ((sl, listOf (ds ++ [Value.ref d]).toArray n1) :: (260, tabObj ps') :: (CT' ++ rest))) → TabOk 260 qualA CT' ps' → (∀ q ∈ CT, q ∈ CT') →
      (∀ r ∈ news, sl ≠ r.1 → 260 ≠ r.1 → ApartT CT r.1 → ApartT CT' r.1) → ApartT CT' sl → Q (.bool true) { s with heap := h', toks := tk }) :
    wpAny (model PySem.Challenge.rw_nu0058_01.row.prog w) (Ar dp un gd (env :: outer)) (call (.ref 263) [.ref nm, .ref d2]) Q E s := by
  have hS : ∀ q ∈ (sl, listOf (ds ++ [Value.ref d]).toArray n1) :: (260, tabObj ps) :: CT, q ∈ news := List.forall_mem_cons.mpr ⟨hm, List.forall_mem_cons.mpr ⟨hP, fun q hq => hZ _ (hCT q hq)⟩⟩
  have hT : Turning ((sl, listOf (ds ++ [Value.ref d]).toArray n1) :: (260, tabObj ps) :: CT) := List.forall_mem_cons.mpr ⟨.inr ⟨_, _, rfl⟩, List.forall_mem_cons.mpr ⟨.inl ⟨_, rfl⟩, fun q hq => .inl (TK.2.2.1 q hq)⟩⟩
  obtain ⟨G', S', bs⟩ := Gd.sub (lvl := 30) (gd := gd) (un := un) (dp := dp) B F N XB TB hf hke hS hdp hun
  refine wpAny_call (askedSpec G' S' TK hs (hn.sub hZ B N hf hT hS) (hD.sub hZ B N hf hT hS) (hD2.sub hZ B N hf hT hS) hD64 hok fun ps' CT' h' tk k1 k2 TK' hsub => ?_)
  obtain ⟨g', gr, F', z1, z2⟩ := call_back B full F N hf hS k1 k2
  have NN := z1 [] (fun _ h => nomatch h)
  refine h ps' CT' h' tk g' gr F' (fun rest hr => newsPerm (z1 rest fun q hq => ⟨(hr q hq).1, ?_⟩) fun q hq => ?_) TK' hsub (fun r hr h1 h2 h3 q hq => z2 r hr (List.forall_mem_cons.mpr ⟨h1, List.forall_mem_cons.mpr ⟨h2, h3⟩⟩) q (.tail _ (.tail _ hq))) ?_
  · by_cases e : ∃ p ∈ CT, p.1 = q.1
    · obtain ⟨p, hp, e⟩ := e
      have z := (N q (hr q hq).1).1
      rw [← e, (N p (hZ _ (hCT p hp))).1] at z
      have : p = q := Prod.ext e (Option.some.inj z)
      exact .inl (.tail _ (.tail _ (this ▸ hsub p hp)))
    · exact .inr (List.forall_mem_cons.mpr ⟨(hr q hq).2.1, List.forall_mem_cons.mpr ⟨(hr q hq).2.2, fun p hp z => e ⟨p, hp, z⟩⟩⟩)
  · simpa using hq
  · exact TK'.apart NN (fun q hq => .tail _ (.tail _ (List.mem_append_left _ hq))) (.head _) (by intro _ h; cases h)
end
theorem off_part42_lawst : True := by w_top off; trivial
/-- what stands on the law's stacks at one height -/
structure Ent where
  d : Addr
  t : Addr
  tr : Addr
  rr : Addr
  D : List (Str × Str)
  M : List (Str × Str)
  fs : List Value
  gs : List Value
  k1 : Nat
  k2 : Nat
inductive EntOk (w : World) (Z : List (Addr × Obj)) (b : Nat) (e : Ent) : Prop
  | mk (_ : DictIn w Z e.d e.D) (_ : DictIn w Z e.t e.D) (_ : DOk e.D) (_ : e.D.length ≤ 64 * b) (_ : (e.tr, tupO e.fs e.k1) ∈ Z) (_ : PairsIn Z e.fs e.M) (_ : (e.rr, tupO e.gs e.k2) ∈ Z) (_ : PairsIn Z e.gs e.M) (_ : SOk e.M) : EntOk w Z b e
theorem DictIn.up {w : World} {T T' : List (Addr × Obj)} {d : Addr} {D : List (Str × Str)} (x : DictIn w T d D) (k : ∀ q ∈ T, q ∈ T') : DictIn w T' d D := by obtain ⟨a, o, h, c⟩ := x; exact ⟨a, o, k _ h, c⟩
theorem EntOk.mono {w : World} {Z Z' : List (Addr × Obj)} {b b' : Nat} {e : Ent} (x : EntOk w Z b e) (k : ∀ q ∈ Z, q ∈ Z') (hb : b ≤ b') : EntOk w Z' b' e :=
  by obtain ⟨a1, a2, a3, a4, a5, a6, a7, a8, a9⟩ := x; exact ⟨a1.up k, a2.up k, a3, Nat.le_trans a4 (Nat.mul_le_mul_left _ hb), k _ a5, a6.mono k, k _ a7, a8.mono k, a9⟩
theorem sok_of_ok {M : List (Str × Str)} (h : ∀ q ∈ M, q ∈ okBinds) : SOk M := fun q hq => (show ∀ q ∈ okBinds, PyData.strOk q.1 = true ∧ PyData.strOk q.2 = true from by decide +kernel) q (h q hq)
abbrev dsOf (S : List Ent) (e : Ent) : List Value := S.map (fun x => Value.ref x.d) ++ [Value.ref e.d]
abbrev tsOf (S : List Ent) (e : Ent) : List Value := S.map (fun x => Value.ref x.tr) ++ [Value.ref e.tr]
abbrev tbOf (S : List Ent) (e : Ent) : List Value := S.map (fun x => Value.ref x.t) ++ [Value.ref e.t]
abbrev rwOf (S : List Ent) (e : Ent) : List Value := S.map (fun x => Value.ref x.rr) ++ [Value.ref e.rr]
abbrev lawHd (src sl tl tb rw : Addr) (so : Obj) (S : List Ent) (e : Ent) (n1 n2 n3 n4 : Nat) (psO psA : Array Value) (Z : List (Addr × Obj)) : List (Addr × Obj) :=
  (src, so) :: (sl, listOf (dsOf S e).toArray n1) :: (tl, listOf (tsOf S e).toArray n2) :: (tb, listOf (tbOf S e).toArray n3) :: (rw, listOf (rwOf S e).toArray n4) :: (265, tabObj psO) :: (260, tabObj psA) :: Z
/-- the ledger between two steps of the law -/
inductive LawS (w : World) (hs : List (Addr × Obj)) (src sl tl tb rw : Addr) (b : Nat) (S : List Ent) (e : Ent) (news : List (Addr × Obj)) : Prop
  | mk (so n1 n2 n3 n4 psO psA CO CA Z : _) (_ : news = hs ++ lawHd src sl tl tb rw so S e n1 n2 n3 n4 psO psA Z) (_ : SrcO so) (_ : S.length < b) (_ : (∀ x ∈ S, EntOk w Z b x)) (_ : EntOk w Z b e) (_ : TabOk 265 qualO CO psO) (_ : TabOk 260 qualA CA psA) (_ : (∀ q ∈ CO, q ∈ Z)) (_ : (∀ q ∈ CA, q ∈ Z)) (_ : (ApartT Z src ∧ ApartT Z sl ∧ ApartT Z tl ∧ ApartT Z tb ∧ ApartT Z rw ∧ ApartT Z 265 ∧ ApartT Z 260)) (_ : ∀ q ∈ hs, ApartT Z q.1) : LawS w hs src sl tl tb rw b S e news
/-- the places apart -/
inductive LawNe (src sl tl tb rw : Addr) : Prop
  | mk (_ : (@Ne Nat src sl ∧ @Ne Nat src tl ∧ @Ne Nat src tb ∧ @Ne Nat src rw ∧ @Ne Nat sl tl ∧ @Ne Nat sl tb ∧ @Ne Nat sl rw ∧ @Ne Nat tl tb ∧ @Ne Nat tl rw ∧ @Ne Nat tb rw ∧ @Ne Nat src 265 ∧ @Ne Nat sl 265 ∧ @Ne Nat tl 265 ∧ @Ne Nat tb 265 ∧ @Ne Nat rw 265)) (_ : @Ne Nat src 260) (_ : @Ne Nat sl 260) (_ : @Ne Nat tl 260) (_ : @Ne Nat tb 260) (_ : @Ne Nat rw 260) : LawNe src sl tl tb rw
def HsNe (hs : List (Addr × Obj)) (src sl tl tb rw : Addr) : Prop := ∀ q ∈ hs, @Ne Nat q.1 src ∧ @Ne Nat q.1 sl ∧ @Ne Nat q.1 tl ∧ @Ne Nat q.1 tb ∧ @Ne Nat q.1 rw ∧ @Ne Nat q.1 265 ∧ @Ne Nat q.1 260
section
variable {w : World} {p : Program} {loose : List Str} {mean : ExcName → Option Value} {mg mb : Str → Option Value} {dp un : Nat} {gd : Option (List Code)} {outer : List Env} {A₀ : Around} {base h₀ : Heap} {s : Shared}
  {L : Addr} {m : Str → Option Value} {env : Env} {news hs : List (Addr × Obj)} {Q E : Value → Shared → Prop} {src nm sl tl tb rw : Addr} {b : Nat} {S : List Ent} {e : Ent}
theorem depth_call {ds : List Value} {n1 : Nat} (B : Below A₀ base outer h₀) (F : Fr h₀ L s.heap m) (N : News h₀ L s.heap news) (XB : (hd.heap_39 w.params).In base) (TB : Top p loose mean mg mb base) (hf : env.frame = some L) (hke : env.scope.kind = .function)
    (hm : (sl, listOf ds.toArray n1) ∈ news) (hn : NamesIn news nm sl tl) (hds : ds.length ≤ 1000) (hdp : dp + 8 < recursionLimit) (hun : un + 16 * 8 + 100 < cLine)
    (h : ∀ t h' tk, Fr h₀ L h' m → News h₀ L h' news → Q (.int (ds.length - 1) t) { s with heap := h', toks := tk }) :
    wpAny (model PySem.Challenge.rw_nu0058_01.row.prog w) (Ar dp un gd (env :: outer)) (call (.ref 168) [.ref nm]) Q E s := by
  have hS := one_in N hm
  obtain ⟨G', S', bs⟩ := Gd.sub (lvl := 8) (gd := gd) (un := un) (dp := dp) B F N XB TB hf hke hS hdp hun
  refine wpAny_call (depthSpec G' S' (hn.sub (fun _ h => h) B N hf (List.forall_mem_cons.mpr ⟨.inr ⟨_, _, rfl⟩, fun _ h => nomatch h⟩) hS) hds fun t h' tk k1 k2 => ?_)
  exact h t h' tk (backF F N hS k1) (backN F N hS k1 k2)
theorem declared_call {ts : List Value} {x : Value} {n2 : Nat} (B : Below A₀ base outer h₀) (F : Fr h₀ L s.heap m) (N : News h₀ L s.heap news) (XB : (hd.heap_39 w.params).In base) (TB : Top p loose mean mg mb base) (hf : env.frame = some L) (hke : env.scope.kind = .function)
    (hm : (tl, listOf (ts ++ [x]).toArray n2) ∈ news) (hn : NamesIn news nm sl tl) (hdp : dp + 8 < recursionLimit) (hun : un + 16 * 8 + 100 < cLine)
    (h : ∀ h' tk, Fr h₀ L h' m → News h₀ L h' news → Q x { s with heap := h', toks := tk }) :
    wpAny (model PySem.Challenge.rw_nu0058_01.row.prog w) (Ar dp un gd (env :: outer)) (call (.ref 175) [.ref nm]) Q E s := by
  have hS := one_in N hm
  obtain ⟨G', S', bs⟩ := Gd.sub (lvl := 8) (gd := gd) (un := un) (dp := dp) B F N XB TB hf hke hS hdp hun
  refine wpAny_call (declaredSpec G' S' (hn.sub (fun _ h => h) B N hf (List.forall_mem_cons.mpr ⟨.inr ⟨_, _, rfl⟩, fun _ h => nomatch h⟩) hS) fun h' tk k1 k2 => ?_)
  exact h h' tk (backF F N hS k1) (backN F N hS k1 k2)
theorem leave_call {ds ts : List Value} {d₀ d₁ t₁ : Value} {n1 n2 : Nat} (B : Below A₀ base outer h₀) (F : Fr h₀ L s.heap m) (N : News h₀ L s.heap news) (XB : (hd.heap_39 w.params).In base) (TB : Top p loose mean mg mb base) (hf : env.frame = some L) (hke : env.scope.kind = .function)
    (hm1 : (sl, listOf ((ds ++ [d₀]) ++ [d₁]).toArray n1) ∈ news) (hm2 : (tl, listOf (ts ++ [t₁]).toArray n2) ∈ news) (hne : @Ne Nat sl tl) (hn : NamesIn news nm sl tl) (hds : ds.length ≤ 1000) (hts : ts.length ≤ 1000) (hdp : dp + 8 < recursionLimit) (hun : un + 16 * 8 + 100 < cLine)
    (h : ∀ h' tk, Fr h₀ L h' m → (∀ rest : List (Addr × Obj), (∀ q ∈ rest, q ∈ news ∧ @Ne Nat q.1 sl ∧ @Ne Nat q.1 tl) → News h₀ L h' ((sl, listOf (ds ++ [d₀]).toArray (n1 + 1)) :: (tl, listOf ts.toArray (n2 + 1)) :: rest)) → Q .none { s with heap := h', toks := tk }) :
    wpAny (model PySem.Challenge.rw_nu0058_01.row.prog w) (Ar dp un gd (env :: outer)) (call (.ref 161) [.ref nm]) Q E s := by
  have hS : ∀ q ∈ [(sl, listOf ((ds ++ [d₀]) ++ [d₁]).toArray n1), (tl, listOf (ts ++ [t₁]).toArray n2)], q ∈ news := List.forall_mem_cons.mpr ⟨hm1, List.forall_mem_cons.mpr ⟨hm2, fun _ h => nomatch h⟩⟩
  obtain ⟨G', S', bs⟩ := Gd.sub (lvl := 8) (gd := gd) (un := un) (dp := dp) B F N XB TB hf hke hS hdp hun
  refine wpAny_call (leaveSpec G' hne S' (hn.sub (fun _ h => h) B N hf (List.forall_mem_cons.mpr ⟨.inr ⟨_, _, rfl⟩, List.forall_mem_cons.mpr ⟨.inr ⟨_, _, rfl⟩, fun _ h => nomatch h⟩⟩) hS) hds hts fun h' tk k1 k2 => ?_)
  refine h h' tk (backF F N hS k1) fun rest hr q hq => ?_
  rcases List.mem_cons.mp hq with rfl | hq
  · exact backS F N hS k2 _ (.head _)
  · rcases List.mem_cons.mp hq with rfl | hq
    · exact backS F N hS k2 _ (.tail _ (.head _))
    · exact backO N k1 (rest := rest) (fun x hx => ⟨(hr x hx).1, List.forall_mem_cons.mpr ⟨(hr x hx).2.1.symm, List.forall_mem_cons.mpr ⟨(hr x hx).2.2.symm, fun _ h => nomatch h⟩⟩⟩) q hq
theorem pool_callL {scr : Addr} {vs : List Value} {ns : List Int} {k : Int} {t0 : Tok} (B : Below A₀ base outer h₀) (F : Fr h₀ L s.heap m) (N : News h₀ L s.heap news) (XB : (hd.heap_39 w.params).In base) (TB : Top p loose mean mg mb base) (hf : env.frame = some L) (hke : env.scope.kind = .function)
    (lifted : base.IsList scr vs.toArray) (hI : IntsAre vs ns) (hlay : (PyData.list (List.map PyData.int ns)).layable0 = true) (hl : ns.length ≤ 63) (hk0 : 0 ≤ k) (hk1 : k ≤ 1) (hdp : dp + 2 < recursionLimit) (hun : un + 16 * 2 + 100 < cLine)
    (h : ∀ src so h' tk, SrcO so → Fr h₀ L h' m → News h₀ L h' ((src, so) :: news) → (∀ q ∈ news, q.1 ≠ src) → Q (.ref src) { s with heap := h', toks := tk }) :
    wpAny (model PySem.Challenge.rw_nu0058_01.row.prog w) (Ar dp un gd (env :: outer)) (call (.ref 218) [.ref scr, .int k t0]) Q E s := by
  obtain ⟨G', S', bs⟩ := Gd.sub (S := []) (lvl := 2) (gd := gd) (un := un) (dp := dp) B F N XB TB hf hke (fun _ h => nomatch h) hdp hun
  refine wpAny_call (poolSpec G' (by obtain ⟨o, a, c⟩ := lifted; exact ⟨o, bs _ _ a, c⟩) hI hlay hl hk0 hk1 fun src so h' tk ho k1 k2 => ?_)
  obtain ⟨F', N', ne⟩ := news_sep F N k1 k2
  exact h src so h' tk ho F' N' fun q hq => ne _ (.head _) q hq
end
theorem off_part43_opinv : True := by w_top off; trivial
section
variable {w : World} {p : Program} {loose : List Str} {mean : ExcName → Option Value} {mg mb : Str → Option Value} {dp un : Nat} {gd : Option (List Code)} {outer : List Env} {A₀ : Around} {base h₀ : Heap} {s : Shared}
  {L : Addr} {m : Str → Option Value} {env : Env} {news hs : List (Addr × Obj)} {Q E : Value → Shared → Prop} {src nm sl tl tb rw : Addr} {b : Nat} {S : List Ent} {e : Ent}
theorem listTurn {a : Addr} {vs : List Value} {n : Nat} : (∃ us, (a, listOf vs.toArray n).2.data = .fields us) ∨ ∃ us k, (a, listOf vs.toArray n).2.data = .seq us k := .inr ⟨_, _, rfl⟩
theorem map_lt {f : Ent → Value} {x : Value} {k : Nat} (h : S.length < k) (hk : k ≤ 900) : (S.map f ++ [x]).length ≤ 900 := by simp; omega
theorem map_le {f : Ent → Value} {k : Nat} (h : S.length < k) (hk : k ≤ 900) : (S.map f).length ≤ 900 := by simp; omega
theorem opened_inv (B : Below A₀ base outer h₀) (full : ∀ b o, h₀.get? b = some o → b ∉ frs outer → base.get? b = some o) (F : Fr h₀ L s.heap m) (N : News h₀ L s.heap news)
    (XB : (hd.heap_39 w.params).In base) (TB : Top p loose mean mg mb base) (hf : env.frame = some L) (hke : env.scope.kind = .function)
    (LS : LawS w hs src sl tl tb rw b S e news) (ne : LawNe src sl tl tb rw) (hne : HsNe hs src sl tl tb rw) (hn : NamesIn hs nm sl tl) (hb : b ≤ 12) (hdp : dp + 30 < recursionLimit) (hun : un + 16 * 30 + 100 < cLine)
    (h : ∀ S' e' h' tk g' news', GR A₀ base h₀ outer g' → Fr g' L h' m → News g' L h' news' → LawS w hs src sl tl tb rw (b + 1) S' e' news' → Q (.bool true) { s with heap := h', toks := tk }) :
    wpAny (model PySem.Challenge.rw_nu0058_01.row.prog w) (Ar dp un gd (env :: outer)) (call (.ref 268) [.ref src, .ref nm, .ref tb, .ref rw]) Q E s := by
  obtain ⟨so, n1, n2, n3, n4, psO, psA, CO, CA, Z, rfl, hso, hSb, hSe, hE, TO, TA, hCO, hCA, ⟨z1, z2, z3, z4, z5, z6, z7⟩, hsZ⟩ := LS
  obtain ⟨ne1, ne2, ne3, ne4, ne5, ne6⟩ := ne
  have in1 : ∀ q ∈ Z, q ∈ hs ++ lawHd src sl tl tb rw so S e n1 n2 n3 n4 psO psA Z := fun q hq => List.mem_append_right _ (by kfm_turns)
  have inH : ∀ q ∈ hs, q ∈ hs ++ lawHd src sl tl tb rw so S e n1 n2 n3 n4 psO psA Z := fun q hq => List.mem_append_left _ hq
  have hS : ∀ q ∈ (src, so) :: (sl, listOf (dsOf S e).toArray n1) :: (tl, listOf (tsOf S e).toArray n2) :: (tb, listOf (tbOf S e).toArray n3) :: (rw, listOf (rwOf S e).toArray n4) :: (265, tabObj psO) :: CO, q ∈ hs ++ lawHd src sl tl tb rw so S e n1 n2 n3 n4 psO psA Z := fun q hq => by
    simp only [List.mem_append, List.mem_cons] at hq ⊢
    rcases hq with h | h | h | h | h | h | h
    · exact .inr (.inl h)
    · exact .inr (.inr (.inl h))
    · exact .inr (.inr (.inr (.inl h)))
    · exact .inr (.inr (.inr (.inr (.inl h))))
    · exact .inr (.inr (.inr (.inr (.inr (.inl h)))))
    · exact .inr (.inr (.inr (.inr (.inr (.inr (.inl h))))))
    · exact .inr (.inr (.inr (.inr (.inr (.inr (.inr (.inr (hCO _ h))))))))
  have hT : Turning ((src, so) :: (sl, listOf (dsOf S e).toArray n1) :: (tl, listOf (tsOf S e).toArray n2) :: (tb, listOf (tbOf S e).toArray n3) :: (rw, listOf (rwOf S e).toArray n4) :: (265, tabObj psO) :: CO) :=
    List.forall_mem_cons.mpr ⟨by obtain ⟨_, _, _, _, _, rfl, _⟩ := hso; exact .inr ⟨_, _, rfl⟩, List.forall_mem_cons.mpr ⟨listTurn, List.forall_mem_cons.mpr ⟨listTurn, List.forall_mem_cons.mpr ⟨listTurn, List.forall_mem_cons.mpr ⟨listTurn, List.forall_mem_cons.mpr ⟨.inl ⟨_, rfl⟩, fun q hq => .inl (TO.2.2.1 q hq)⟩⟩⟩⟩⟩⟩
  obtain ⟨G', S', bs⟩ := Gd.sub (lvl := 30) (gd := gd) (un := un) (dp := dp) B F N XB TB hf hke hS hdp hun
  obtain ⟨eD, eT, eO, eL, etr, eps, err, epr, eM⟩ := hE
  -- what is not of the call's own
  have six : ∀ q : Addr × Obj, (q ∈ hs ∨ q = (260, tabObj psA) ∨ q ∈ Z) → @Ne Nat src q.1 ∧ @Ne Nat sl q.1 ∧ @Ne Nat tl q.1 ∧ @Ne Nat tb q.1 ∧ @Ne Nat rw q.1 ∧ @Ne Nat 265 q.1 := by
    rintro q (hq | rfl | hq)
    · obtain ⟨a1, a2, a3, a4, a5, a6, _⟩ := hne q hq
      exact ⟨a1.symm, a2.symm, a3.symm, a4.symm, a5.symm, a6.symm⟩
    · exact ⟨ne2, ne3, ne4, ne5, ne6, (by decide : @Ne Nat 265 260)⟩
    · exact ⟨(z1 q hq).symm, (z2 q hq).symm, (z3 q hq).symm, (z4 q hq).symm, (z5 q hq).symm, (z6 q hq).symm⟩
  have mem3 : ∀ q : Addr × Obj, (q ∈ hs ∨ q = (260, tabObj psA) ∨ q ∈ Z) → q ∈ hs ++ lawHd src sl tl tb rw so S e n1 n2 n3 n4 psO psA Z := by
    rintro q (hq | rfl | hq)
    · exact inH q hq
    · exact List.mem_append_right _ (by simp only [List.mem_cons, true_or, or_true])
    · exact in1 q hq
  have cN : ∀ q : Addr × Obj, (q ∈ hs ∨ q = (260, tabObj psA) ∨ q ∈ Z) → ∀ U : List (Addr × Obj), (∀ c ∈ CO, c ∈ U) → (q ∈ U ∨ ∀ p ∈ (src, so) :: (sl, listOf (dsOf S e).toArray n1) :: (tl, listOf (tsOf S e).toArray n2) :: (tb, listOf (tbOf S e).toArray n3) :: (rw, listOf (rwOf S e).toArray n4) :: (265, tabObj psO) :: CO, p.1 ≠ q.1) := by
    intro q hq U hU
    obtain ⟨a1, a2, a3, a4, a5, a6⟩ := six q hq
    by_cases c : ∃ p ∈ CO, p.1 = q.1
    · obtain ⟨p, hp, c⟩ := c
      have z := (N q (mem3 q hq)).1
      rw [← c, (N p (in1 _ (hCO p hp))).1] at z
      have : p = q := Prod.ext c (Option.some.inj z)
      exact .inl (this ▸ hU p hp)
    · exact .inr (List.forall_mem_cons.mpr ⟨a1, List.forall_mem_cons.mpr ⟨a2, List.forall_mem_cons.mpr ⟨a3, List.forall_mem_cons.mpr ⟨a4, List.forall_mem_cons.mpr ⟨a5, List.forall_mem_cons.mpr ⟨a6, fun p hp x => c ⟨p, hp, x⟩⟩⟩⟩⟩⟩⟩)
  have apZ : ∀ (U V : List (Addr × Obj)) (q : Addr × Obj), (∀ u ∈ U, u ∈ V) → (∀ r ∈ hs ++ lawHd src sl tl tb rw so S e n1 n2 n3 n4 psO psA Z, (∀ p ∈ (src, so) :: (sl, listOf (dsOf S e).toArray n1) :: (tl, listOf (tsOf S e).toArray n2) :: (tb, listOf (tbOf S e).toArray n3) :: (rw, listOf (rwOf S e).toArray n4) :: (265, tabObj psO) :: CO, p.1 ≠ r.1) → ApartT V r.1) → (q ∈ hs ∨ q = (260, tabObj psA)) → ApartT Z q.1 → ApartT U q.1 := by
    intro U V q hUV z hq hz
    have hq3 : q ∈ hs ∨ q = (260, tabObj psA) ∨ q ∈ Z := hq.elim .inl fun x => .inr (.inl x)
    obtain ⟨a1, a2, a3, a4, a5, a6⟩ := six q hq3
    have := z q (mem3 q hq3) (List.forall_mem_cons.mpr ⟨a1, List.forall_mem_cons.mpr ⟨a2, List.forall_mem_cons.mpr ⟨a3, List.forall_mem_cons.mpr ⟨a4, List.forall_mem_cons.mpr ⟨a5, List.forall_mem_cons.mpr ⟨a6, fun p hp => hz p (hCO p hp)⟩⟩⟩⟩⟩⟩)
    exact fun u hu => this u (hUV u hu)
  refine wpAny_call (openedSpec G' S' hso TO ne1 (hn.sub inH B N hf hT hS) (eD.sub in1 B N hf hT hS) (eT.sub in1 B N hf hT hS) (Nat.le_trans eL (by omega)) eO (map_le hSb (by omega)) (map_lt hSb (by omega)) (map_le hSb (by omega)) (map_lt hSb (by omega)) ?_ ?_)
  · intro so' ps' CT' h' tk k1 hso' TO' hsub k2
    obtain ⟨g', gr, F', y1, y2⟩ := call_back B full F N hf hS k1 k2
    have N' := y1 (hs ++ (260, tabObj psA) :: Z) fun q hq => by
      have hq3 : q ∈ hs ∨ q = (260, tabObj psA) ∨ q ∈ Z := by simpa using hq
      refine ⟨mem3 q hq3, cN q hq3 _ fun c hc => ?_⟩
      simp only [List.mem_cons, hsub c hc, or_true]
    have NN := newsPerm N' (B := hs ++ lawHd src sl tl tb rw so' S e n1 n2 n3 n4 ps' psA (CT' ++ Z)) fun q hq => by
      simp only [List.mem_append, List.mem_cons] at hq ⊢
      rcases hq with h | h | h | h | h | h | h | h | h | h <;> simp only [h, true_or, or_true]
    have hCT' : ∀ q ∈ CT', q ∈ hs ++ lawHd src sl tl tb rw so' S e n1 n2 n3 n4 ps' psA (CT' ++ Z) := fun q hq => List.mem_append_right _ (by simp only [List.mem_cons, List.mem_append, hq, true_or, or_true])
    have lnf : ∀ (xs : List Value) (n : Nat), ∀ vs, (listOf xs.toArray n).data ≠ .fields vs := fun _ _ _ h => by cases h
    have zr : ∀ q ∈ Z, q ∈ CT' ++ Z := fun q hq => List.mem_append_right _ hq
    refine h S e h' tk g' _ gr F' NN ⟨so', n1, n2, n3, n4, ps', psA, CT', CA, CT' ++ Z, rfl, hso', Nat.lt_succ_of_lt hSb, fun x hx => (hSe x hx).mono zr (Nat.le_succ _), EntOk.mono ⟨eD, eT, eO, eL, etr, eps, err, epr, eM⟩ zr (Nat.le_succ _), TO', TA, fun q hq => List.mem_append_left _ hq, fun q hq => zr _ (hCA q hq),
      ⟨apart_app (TO'.apart NN hCT' (List.mem_append_right _ (.head _)) (by obtain ⟨_, _, _, _, _, rfl, _⟩ := hso'; exact lnf _ _)) z1,
        apart_app (TO'.apart NN hCT' (List.mem_append_right _ (.tail _ (.head _))) (lnf _ _)) z2,
        apart_app (TO'.apart NN hCT' (List.mem_append_right _ (.tail _ (.tail _ (.head _)))) (lnf _ _)) z3,
        apart_app (TO'.apart NN hCT' (List.mem_append_right _ (.tail _ (.tail _ (.tail _ (.head _))))) (lnf _ _)) z4,
        apart_app (TO'.apart NN hCT' (List.mem_append_right _ (.tail _ (.tail _ (.tail _ (.tail _ (.head _)))))) (lnf _ _)) z5,
        apart_app TO'.2.2.2 z6, apart_app (apZ CT' _ (260, tabObj psA) (fun u hu => by kfm_turns) y2 (.inr rfl) z7) z7⟩,
      fun q hq => apart_app (apZ CT' _ q (fun u hu => by kfm_turns) y2 (.inl hq) (hsZ q hq)) (hsZ q hq)⟩
  · intro so' ps' CT' Z' M d' t' tr rr fs gs k1' k2' n3' n4' h' tk k1 hso' TO' hsub hCZ hM hM64 k2 hd' ht' htr hfs hrr hgs ⟨w1, w2, w3, w4, w5, w6⟩
    obtain ⟨g', gr, F', y1, y2⟩ := call_back B full F N hf hS k1 k2
    have N' := y1 (hs ++ (260, tabObj psA) :: Z) fun q hq => by
      have hq3 : q ∈ hs ∨ q = (260, tabObj psA) ∨ q ∈ Z := by simpa using hq
      refine ⟨mem3 q hq3, cN q hq3 _ fun c hc => ?_⟩
      simp only [List.mem_cons, hCZ _ (hsub c hc), or_true]
    have NN := newsPerm N' (B := hs ++ lawHd src sl tl tb rw so' (S ++ [e]) ⟨d', t', tr, rr, puts e.D M, M, fs, gs, k1', k2'⟩ (n1 + 1) (n2 + 1) n3' n4' ps' psA (Z' ++ Z)) fun q hq => by
      simp only [dsOf, tsOf, tbOf, rwOf, lawHd, List.map_append, List.map_cons, List.map_nil, List.append_assoc, List.cons_append, List.nil_append, List.mem_append, List.mem_cons] at hq ⊢
      rcases hq with h | h | h | h | h | h | h | h | h | h <;> simp only [h, true_or, or_true]
    have zl : ∀ q ∈ Z', q ∈ Z' ++ Z := fun q hq => List.mem_append_left _ hq
    have zr : ∀ q ∈ Z, q ∈ Z' ++ Z := fun q hq => List.mem_append_right _ hq
    have hE' := EntOk.mono ⟨eD, eT, eO, eL, etr, eps, err, epr, eM⟩ zr (Nat.le_succ b)
    refine h (S ++ [e]) ⟨d', t', tr, rr, puts e.D M, M, fs, gs, k1', k2'⟩ h' tk g' _ gr F' NN ⟨so', n1 + 1, n2 + 1, n3', n4', ps', psA, CT', CA, Z' ++ Z, rfl, hso', by simp; omega, fun x hx => ?_, ⟨?_, ht'.up zl, eO.puts hM, ?_, zl _ htr, hfs.mono zl, zl _ hrr, hgs.mono zl, sok_of_ok hM⟩, TO', TA, fun q hq => zl _ (hCZ q hq), fun q hq => zr _ (hCA q hq),
      ⟨apart_app w1 z1, apart_app w2 z2, apart_app w3 z3, apart_app w4 z4, apart_app w5 z5, apart_app w6 z6, apart_app (apZ Z' _ (260, tabObj psA) (fun u hu => by kfm_turns) y2 (.inr rfl) z7) z7⟩,
      fun q hq => apart_app (apZ Z' _ q (fun u hu => by kfm_turns) y2 (.inl hq) (hsZ q hq)) (hsZ q hq)⟩
    · rcases List.mem_append.mp hx with hx | hx
      · exact (hSe x hx).mono zr (Nat.le_succ _)
      · rw [List.mem_singleton.mp hx]; exact hE'
    · rcases hd' with ⟨rfl, rfl⟩ | hd'
      · exact eD.up zr
      · exact hd'.up zl
    · have := puts_len M e.D
      show (puts e.D M).length ≤ _
      omega
theorem asked_inv (B : Below A₀ base outer h₀) (full : ∀ b o, h₀.get? b = some o → b ∉ frs outer → base.get? b = some o) (F : Fr h₀ L s.heap m) (N : News h₀ L s.heap news)
    (XB : (hd.heap_39 w.params).In base) (TB : Top p loose mean mg mb base) (hf : env.frame = some L) (hke : env.scope.kind = .function)
    (LS : LawS w hs src sl tl tb rw b S e news) (ne : LawNe src sl tl tb rw) (hne : HsNe hs src sl tl tb rw) (hn : NamesIn hs nm sl tl) (hb : b ≤ 12) (hdp : dp + 30 < recursionLimit) (hun : un + 16 * 30 + 100 < cLine)
    (h : ∀ h' tk g' news', GR A₀ base h₀ outer g' → Fr g' L h' m → News g' L h' news' → LawS w hs src sl tl tb rw b S e news' → Q (.bool true) { s with heap := h', toks := tk }) :
    wpAny (model PySem.Challenge.rw_nu0058_01.row.prog w) (Ar dp un gd (env :: outer)) (call (.ref 263) [.ref nm, .ref e.t]) Q E s := by
  obtain ⟨so, n1, n2, n3, n4, psO, psA, CO, CA, Z, rfl, hso, hSb, hSe, hE, TO, TA, hCO, hCA, ⟨z1, z2, z3, z4, z5, z6, z7⟩, hsZ⟩ := LS
  obtain ⟨⟨e1, e2, e3, e4, e5, e6, e7, e8, e9, e0, ea, eb, ec, ed, ee⟩, ne2, ne3, ne4, ne5, ne6⟩ := ne
  have in1 : ∀ q ∈ Z, q ∈ hs ++ lawHd src sl tl tb rw so S e n1 n2 n3 n4 psO psA Z := fun q hq => List.mem_append_right _ (by kfm_turns)
  have inH : ∀ q ∈ hs, q ∈ hs ++ lawHd src sl tl tb rw so S e n1 n2 n3 n4 psO psA Z := fun q hq => List.mem_append_left _ hq
  have hE' := hE
  obtain ⟨eD, eT, eO, eL, etr, eps, err, epr, eM⟩ := hE
  have hsl : (sl, listOf (dsOf S e).toArray n1) ∈ hs ++ lawHd src sl tl tb rw so S e n1 n2 n3 n4 psO psA Z := List.mem_append_right _ (.tail _ (.head _))
  have h265 : (265, tabObj psO) ∈ hs ++ lawHd src sl tl tb rw so S e n1 n2 n3 n4 psO psA Z := List.mem_append_right _ (by simp only [List.mem_cons, true_or, or_true])
  have hin : ∀ q : Addr × Obj, q ∈ hs ++ Z → q ∈ hs ++ lawHd src sl tl tb rw so S e n1 n2 n3 n4 psO psA Z := fun q hq => (List.mem_append.mp hq).elim (inH q) (in1 q)
  refine asked_call (Z := hs ++ Z) B full F N XB TB hf hke hsl (List.mem_append_right _ (by simp only [List.mem_cons, true_or, or_true])) hin (fun q hq => List.mem_append_right _ (hCA q hq)) TA ne3 (hn.mono fun q hq => List.mem_append_left _ hq) (eD.up fun q hq => List.mem_append_right _ hq) (eT.up fun q hq => List.mem_append_right _ hq) (Nat.le_trans eL (by omega)) eO hdp hun ?_
  intro ps' CT' h' tk g' gr F' y1 TA' hsub y2 y3
  have N' := y1 (hs ++ (src, so) :: (tl, listOf (tsOf S e).toArray n2) :: (tb, listOf (tbOf S e).toArray n3) :: (rw, listOf (rwOf S e).toArray n4) :: (265, tabObj psO) :: Z) fun q hq => by
    simp only [List.mem_append, List.mem_cons] at hq
    rcases hq with hq | rfl | rfl | rfl | rfl | rfl | hq
    · obtain ⟨a1, a2, a3, a4, a5, a6, a7⟩ := hne q hq
      exact ⟨inH q hq, a2.symm, a7.symm⟩
    · exact ⟨List.mem_append_right _ (.head _), e1.symm, ne2.symm⟩
    · exact ⟨List.mem_append_right _ (.tail _ (.tail _ (.head _))), e5, ne4.symm⟩
    · exact ⟨List.mem_append_right _ (.tail _ (.tail _ (.tail _ (.head _)))), e6, ne5.symm⟩
    · exact ⟨List.mem_append_right _ (.tail _ (.tail _ (.tail _ (.tail _ (.head _))))), e7, ne6.symm⟩
    · exact ⟨h265, eb, (by decide : @Ne Nat 260 265)⟩
    · exact ⟨in1 q hq, (z2 q hq).symm, (z7 q hq).symm⟩
  have NN := newsPerm N' (B := hs ++ lawHd src sl tl tb rw so S e n1 n2 n3 n4 psO ps' (CT' ++ Z)) fun q hq => by
    simp only [List.mem_append, List.mem_cons] at hq ⊢
    rcases hq with h | h | h | h | h | h | h | h | h | h <;> simp only [h, true_or, or_true]
  have zr : ∀ q ∈ Z, q ∈ CT' ++ Z := fun q hq => List.mem_append_right _ hq
  have ap : ∀ q : Addr × Obj, q ∈ hs ++ lawHd src sl tl tb rw so S e n1 n2 n3 n4 psO psA Z → @Ne Nat sl q.1 → @Ne Nat 260 q.1 → ApartT Z q.1 → ApartT (CT' ++ Z) q.1 := fun q hq a1 a2 a3 => apart_app (y2 q hq a1 a2 (apart_sub a3 hCA)) a3
  exact h h' tk g' _ gr F' NN ⟨so, n1, n2, n3, n4, psO, ps', CO, CT', CT' ++ Z, rfl, hso, hSb, fun x hx => (hSe x hx).mono zr (Nat.le_refl _), hE'.mono zr (Nat.le_refl _), TO, TA', fun q hq => zr _ (hCO q hq), fun q hq => List.mem_append_left _ hq,
    ⟨ap (src, so) (List.mem_append_right _ (.head _)) e1.symm ne2.symm z1, apart_app y3 z2, ap (tl, _) (List.mem_append_right _ (.tail _ (.tail _ (.head _)))) e5 ne4.symm z3, ap (tb, _) (List.mem_append_right _ (.tail _ (.tail _ (.tail _ (.head _))))) e6 ne5.symm z4,
      ap (rw, _) (List.mem_append_right _ (.tail _ (.tail _ (.tail _ (.tail _ (.head _)))))) e7 ne6.symm z5, ap (265, _) h265 eb (by decide : @Ne Nat 260 265) z6, apart_app TA'.2.2.2 z7⟩,
    fun q hq => by
      obtain ⟨a1, a2, a3, a4, a5, a6, a7⟩ := hne q hq
      exact ap q (inH q hq) a2.symm a7.symm (hsZ q hq)⟩
theorem leave_inv {e' : Ent} {so : Obj} {n1 n2 n3 n4 : Nat} {psO psA : Array Value} {Z : List (Addr × Obj)} (B : Below A₀ base outer h₀) (F : Fr h₀ L s.heap m) (N : News h₀ L s.heap (hs ++ lawHd src sl tl tb rw so (S ++ [e']) e n1 n2 n3 n4 psO psA Z))
    (XB : (hd.heap_39 w.params).In base) (TB : Top p loose mean mg mb base) (hf : env.frame = some L) (hke : env.scope.kind = .function)
    (ne : LawNe src sl tl tb rw) (hne : HsNe hs src sl tl tb rw) (hn : NamesIn hs nm sl tl) (z2 : ApartT Z sl) (z3 : ApartT Z tl) (hSb : (S ++ [e']).length < b) (hb : b ≤ 12) (hdp : dp + 8 < recursionLimit) (hun : un + 16 * 8 + 100 < cLine)
    (h : ∀ h' tk, Fr h₀ L h' m → News h₀ L h' (hs ++ ((src, so) :: (sl, listOf (dsOf S e').toArray (n1 + 1)) :: (tl, listOf (tsOf S e').toArray (n2 + 1)) :: (tb, listOf (tbOf (S ++ [e']) e).toArray n3) :: (rw, listOf (rwOf (S ++ [e']) e).toArray n4) :: (265, tabObj psO) :: (260, tabObj psA) :: Z)) → Q .none { s with heap := h', toks := tk }) :
    wpAny (model PySem.Challenge.rw_nu0058_01.row.prog w) (Ar dp un gd (env :: outer)) (call (.ref 161) [.ref nm]) Q E s := by
  obtain ⟨⟨e1, e2, e3, e4, e5, e6, e7, e8, e9, e0, ea, eb, ec, ed, ee⟩, ne2, ne3, ne4, ne5, ne6⟩ := ne
  simp only [List.length_append, List.length_cons, List.length_nil] at hSb
  have inH : ∀ q ∈ hs, q ∈ hs ++ lawHd src sl tl tb rw so (S ++ [e']) e n1 n2 n3 n4 psO psA Z := fun q hq => List.mem_append_left _ hq
  refine leave_call (ds := S.map (fun x => Value.ref x.d)) (d₀ := .ref e'.d) (d₁ := .ref e.d) (ts := S.map (fun x => Value.ref x.tr) ++ [.ref e'.tr]) (t₁ := .ref e.tr) (n1 := n1) (n2 := n2) B F N XB TB hf hke ?_ ?_ e5 (hn.mono inH) (by simp; omega) (by simp; omega) hdp hun fun h' tk F' z => h h' tk F' ?_
  · refine List.mem_append_right _ ?_
    simp only [lawHd, dsOf, List.map_append, List.map_cons, List.map_nil, List.mem_cons, true_or, or_true]
  · refine List.mem_append_right _ ?_
    simp only [lawHd, tsOf, List.map_append, List.map_cons, List.map_nil, List.mem_cons, true_or, or_true]
  · have NN := z (hs ++ (src, so) :: (tb, listOf (tbOf (S ++ [e']) e).toArray n3) :: (rw, listOf (rwOf (S ++ [e']) e).toArray n4) :: (265, tabObj psO) :: (260, tabObj psA) :: Z) fun q hq => by
      simp only [List.mem_append, List.mem_cons] at hq
      rcases hq with hq | rfl | rfl | rfl | rfl | rfl | hq
      · obtain ⟨a1, a2, a3, a4, a5, a6, a7⟩ := hne q hq
        exact ⟨inH q hq, a2, a3⟩
      · exact ⟨List.mem_append_right _ (by simp only [lawHd, List.mem_cons, true_or, or_true]), e1, e2⟩
      · exact ⟨List.mem_append_right _ (by simp only [lawHd, List.mem_cons, true_or, or_true]), e6.symm, e8.symm⟩
      · exact ⟨List.mem_append_right _ (by simp only [lawHd, List.mem_cons, true_or, or_true]), e7.symm, e9.symm⟩
      · exact ⟨List.mem_append_right _ (by simp only [lawHd, List.mem_cons, true_or, or_true]), eb.symm, ec.symm⟩
      · exact ⟨List.mem_append_right _ (by simp only [lawHd, List.mem_cons, true_or, or_true]), ne3.symm, ne4.symm⟩
      · exact ⟨List.mem_append_right _ (by simp only [lawHd, List.mem_cons, hq, or_true]), z2 q hq, z3 q hq⟩
    refine newsPerm NN fun q hq => ?_
    simp only [List.mem_append, List.mem_cons] at hq ⊢
    rcases hq with h | h | h | h | h | h | h | h | h <;> simp only [h, true_or, or_true]
end
theorem off_part44_lawlem : True := by w_top off; trivial
/-- a statement is walked to what holds behind it -/
theorem cutS {M : Model} {A : Around} {E : Value → Shared → Prop} {s : Shared} {env : Env} {st : Stmt} {rest : List Stmt} {Q : Flow → Shared → Prop} (P : Shared → Prop) (h : wpAny M A (exec st env) (fun f s' => f = .next ∧ P s') E s) (k : ∀ s', P s' → wpAny M A (execs rest env) Q E s') :
    wpAny M A (execs (st :: rest) env) Q E s := wpAny_execs_cons (wpAny_mono h (fun f s' ⟨e, hp⟩ => by subst e; exact k s' hp) fun _ _ e => e)
theorem lturn_fin {A : Around} {base g₁ h : Heap} {L I : Addr} {itO : Obj} {m : Str → Option Value} {news' : List (Addr × Obj)} {J : (Str → Option Value) → List (Addr × Obj) → Prop} {s₁ : Shared} {tk : Nat} (gr : GR A base base [] g₁) (F : Fr base L h m) (N : News base L h ((I, itO) :: news')) (ap : ∀ p ∈ news', p.1 ≠ I) (hJ : J m news') :
    TurnG A base g₁ [] L I itO J s₁ .next { s₁ with heap := h, toks := tk } := ⟨rfl, g₁, h, tk, m, news', rfl, GR.refl gr.B gr.full, nil_fr gr F, nil_news gr N, ap, hJ⟩
/-- the state of the law's outer loop -/
inductive OutJ (m₀ : Str → Option Value) (_i : Nat) (m : Str → Option Value) (news : List (Addr × Obj)) : Prop
  | mk (psO psA CO CA Z : _) (_ : news = (265, tabObj psO) :: (260, tabObj psA) :: Z) (_ : TabOk 265 qualO CO psO) (_ : TabOk 260 qualA CA psA) (_ : (∀ q ∈ CO, q ∈ Z)) (_ : (∀ q ∈ CA, q ∈ Z)) (_ : ApartT Z 265) (_ : ApartT Z 260) (_ : ∀ y, ([Str.ofString "k", Str.ofString "source", Str.ofString "names", Str.ofString "tables", Str.ofString "rows", Str.ofString "turn"] : List Str).contains y = false → m y = m₀ y) : OutJ m₀ _i m news
/-- the state of the law's inner loop -/
inductive InJ (w : World) (m₀ : Str → Option Value) (hs : List (Addr × Obj)) (src sl tl tb rw : Addr) (i : Nat) (m : Str → Option Value) (news : List (Addr × Obj)) : Prop
  | mk (_ : (∃ S e, LawS w hs src sl tl tb rw (i + 1) S e news)) (_ : ∀ y, ([Str.ofString "turn"] : List Str).contains y = false → m y = m₀ y) : InJ w m₀ hs src sl tl tb rw i m news
theorem range_small {n : Int} (h0 : 0 ≤ n) (h1 : n ≤ 1000) : Builtin.Range.small 0 n 1 = true := small_one (by omega) (by omega) (by omega) (by omega)
theorem range_size {n : Nat} : Builtin.Range.rangeSize 0 (n : Int) 1 = (n : Int) := by
  unfold Builtin.Range.rangeSize; simp; omega
abbrev lawHs (nm dx : Addr) (od itO : Obj) (I : Addr) : List (Addr × Obj) := [(nm, instObj 207 dx), (dx, od), (I, itO)]
def ent0 (d t tr rr : Addr) : Ent := ⟨d, t, tr, rr, [(Str.ofString "xml", XMLU)], [], [], [], 0, 0⟩
theorem dok0 : DOk [(Str.ofString "xml", XMLU)] := ⟨by simp, by decide +kernel⟩
theorem start_law {w : World} {nm dx src sl tl tb rw d t tr rr I : Addr} {so od ot itO : Obj} {psO psA : Array Value} {CO CA Z : List (Addr × Obj)} {dO : Obj} (hso : SrcO so)
    (hd : DictS w od [(Str.ofString "xml", XMLU)]) (ht : DictS w ot [(Str.ofString "xml", XMLU)]) (ld : (d == sysModules) = false) (lt : (t == sysModules) = false)
    (TO : TabOk 265 qualO CO psO) (TA : TabOk 260 qualA CA psA) (hCO : ∀ q ∈ CO, q ∈ Z) (hCA : ∀ q ∈ CA, q ∈ Z)
    (hap : ∀ x ∈ [src, sl, tl, tb, rw, 265, 260, nm, dx, I], ApartT Z x ∧ @Ne Nat d x ∧ @Ne Nat t x ∧ @Ne Nat tr x ∧ @Ne Nat rr x) :
    LawS w (lawHs nm dx dO itO I) src sl tl tb rw 1 [] (ent0 d t tr rr) (lawHs nm dx dO itO I ++ lawHd src sl tl tb rw so [] (ent0 d t tr rr) 0 0 0 0 psO psA ((d, od) :: (t, ot) :: (tr, tupO [] 0) :: (rr, tupO [] 0) :: Z)) := by
  have ap : ∀ x ∈ [src, sl, tl, tb, rw, 265, 260, nm, dx, I], ApartT ((d, od) :: (t, ot) :: (tr, tupO [] 0) :: (rr, tupO [] 0) :: Z) x := fun x hx => by
    obtain ⟨a, b, c, e, f⟩ := hap x hx
    exact List.forall_mem_cons.mpr ⟨b, List.forall_mem_cons.mpr ⟨c, List.forall_mem_cons.mpr ⟨e, List.forall_mem_cons.mpr ⟨f, a⟩⟩⟩⟩
  have up : ∀ q ∈ Z, q ∈ (d, od) :: (t, ot) :: (tr, tupO [] 0) :: (rr, tupO [] 0) :: Z := fun q hq => .tail _ (.tail _ (.tail _ (.tail _ hq)))
  refine ⟨so, 0, 0, 0, 0, psO, psA, CO, CA, _, rfl, hso, by decide, (fun _ h => nomatch h), ⟨⟨ld, od, .head _, hd⟩, ⟨lt, ot, .tail _ (.head _), ht⟩, dok0, (by decide : 1 ≤ 64 * 1), .tail _ (.tail _ (.head _)), .nil, .tail _ (.tail _ (.tail _ (.head _))), .nil, fun _ h => nomatch h⟩, TO, TA, fun q hq => up _ (hCO q hq), fun q hq => up _ (hCA q hq),
    ⟨ap _ (by simp), ap _ (by simp), ap _ (by simp), ap _ (by simp), ap _ (by simp), ap _ (by simp), ap _ (by simp)⟩, ?_⟩
  refine List.forall_mem_cons.mpr ⟨ap _ (by simp), List.forall_mem_cons.mpr ⟨ap _ (by simp), List.forall_mem_cons.mpr ⟨ap _ (by simp), fun _ h => nomatch h⟩⟩⟩
/-- what the order of making says -/
theorem law_ord {src I nm dx d sl tr tl t tb rr rw : Nat} (a1 : src < dx) (a2 : I < dx) (a3 : 265 < dx) (a4 : 260 < dx) (a5 : dx < nm) (a6 : nm < d) (a7 : d < sl) (a8 : sl < tr) (a9 : tr < tl) (b1 : tl < t) (b2 : t < tb) (b3 : tb < rr) (b4 : rr < rw) :
    ((@Ne Nat src sl ∧ @Ne Nat src tl ∧ @Ne Nat src tb ∧ @Ne Nat src rw ∧ @Ne Nat sl tl ∧ @Ne Nat sl tb ∧ @Ne Nat sl rw ∧ @Ne Nat tl tb ∧ @Ne Nat tl rw ∧ @Ne Nat tb rw) ∧ (@Ne Nat sl 265 ∧ @Ne Nat tl 265 ∧ @Ne Nat tb 265 ∧ @Ne Nat rw 265 ∧ @Ne Nat sl 260 ∧ @Ne Nat tl 260 ∧ @Ne Nat tb 260 ∧ @Ne Nat rw 260)) ∧
    ((@Ne Nat nm src ∧ @Ne Nat nm sl ∧ @Ne Nat nm tl ∧ @Ne Nat nm tb ∧ @Ne Nat nm rw ∧ @Ne Nat nm 265 ∧ @Ne Nat nm 260) ∧ (@Ne Nat dx src ∧ @Ne Nat dx sl ∧ @Ne Nat dx tl ∧ @Ne Nat dx tb ∧ @Ne Nat dx rw ∧ @Ne Nat dx 265 ∧ @Ne Nat dx 260) ∧ (@Ne Nat I sl ∧ @Ne Nat I tl ∧ @Ne Nat I tb ∧ @Ne Nat I rw) ∧ @Ne Nat nm dx ∧ @Ne Nat nm I ∧ @Ne Nat dx I) ∧
    (∀ x ∈ [src, sl, tl, tb, rw, 265, 260, nm, dx, I], @Ne Nat d x ∧ @Ne Nat t x ∧ @Ne Nat tr x ∧ @Ne Nat rr x) := by
  have l_dx_d := Nat.lt_trans a5 a6
  have l_dx_sl := Nat.lt_trans l_dx_d a7
  have l_dx_tr := Nat.lt_trans l_dx_sl a8
  have l_dx_tl := Nat.lt_trans l_dx_tr a9
  have l_dx_t := Nat.lt_trans l_dx_tl b1
  have l_dx_tb := Nat.lt_trans l_dx_t b2
  have l_dx_rr := Nat.lt_trans l_dx_tb b3
  have l_dx_rw := Nat.lt_trans l_dx_rr b4
  have l_nm_sl := Nat.lt_trans a6 a7
  have l_nm_tr := Nat.lt_trans l_nm_sl a8
  have l_nm_tl := Nat.lt_trans l_nm_tr a9
  have l_nm_t := Nat.lt_trans l_nm_tl b1
  have l_nm_tb := Nat.lt_trans l_nm_t b2
  have l_nm_rr := Nat.lt_trans l_nm_tb b3
  have l_nm_rw := Nat.lt_trans l_nm_rr b4
  have l_d_tr := Nat.lt_trans a7 a8
  have l_d_tl := Nat.lt_trans l_d_tr a9
  have l_d_t := Nat.lt_trans l_d_tl b1
  have l_d_tb := Nat.lt_trans l_d_t b2
  have l_d_rr := Nat.lt_trans l_d_tb b3
  have l_d_rw := Nat.lt_trans l_d_rr b4
  have l_sl_tl := Nat.lt_trans a8 a9
  have l_sl_t := Nat.lt_trans l_sl_tl b1
  have l_sl_tb := Nat.lt_trans l_sl_t b2
  have l_sl_rr := Nat.lt_trans l_sl_tb b3
  have l_sl_rw := Nat.lt_trans l_sl_rr b4
  have l_tr_t := Nat.lt_trans a9 b1
  have l_tr_tb := Nat.lt_trans l_tr_t b2
  have l_tr_rr := Nat.lt_trans l_tr_tb b3
  have l_tr_rw := Nat.lt_trans l_tr_rr b4
  have l_tl_tb := Nat.lt_trans b1 b2
  have l_tl_rr := Nat.lt_trans l_tl_tb b3
  have l_tl_rw := Nat.lt_trans l_tl_rr b4
  have l_t_rr := Nat.lt_trans b2 b3
  have l_t_rw := Nat.lt_trans l_t_rr b4
  have l_tb_rw := Nat.lt_trans b3 b4
  have l_src_nm := Nat.lt_trans a1 a5
  have l_src_d := Nat.lt_trans a1 l_dx_d
  have l_src_sl := Nat.lt_trans a1 l_dx_sl
  have l_src_tr := Nat.lt_trans a1 l_dx_tr
  have l_src_tl := Nat.lt_trans a1 l_dx_tl
  have l_src_t := Nat.lt_trans a1 l_dx_t
  have l_src_tb := Nat.lt_trans a1 l_dx_tb
  have l_src_rr := Nat.lt_trans a1 l_dx_rr
  have l_src_rw := Nat.lt_trans a1 l_dx_rw
  have l_I_nm := Nat.lt_trans a2 a5
  have l_I_d := Nat.lt_trans a2 l_dx_d
  have l_I_sl := Nat.lt_trans a2 l_dx_sl
  have l_I_tr := Nat.lt_trans a2 l_dx_tr
  have l_I_tl := Nat.lt_trans a2 l_dx_tl
  have l_I_t := Nat.lt_trans a2 l_dx_t
  have l_I_tb := Nat.lt_trans a2 l_dx_tb
  have l_I_rr := Nat.lt_trans a2 l_dx_rr
  have l_I_rw := Nat.lt_trans a2 l_dx_rw
  have l_n265_nm := Nat.lt_trans a3 a5
  have l_n265_d := Nat.lt_trans a3 l_dx_d
  have l_n265_sl := Nat.lt_trans a3 l_dx_sl
  have l_n265_tr := Nat.lt_trans a3 l_dx_tr
  have l_n265_tl := Nat.lt_trans a3 l_dx_tl
  have l_n265_t := Nat.lt_trans a3 l_dx_t
  have l_n265_tb := Nat.lt_trans a3 l_dx_tb
  have l_n265_rr := Nat.lt_trans a3 l_dx_rr
  have l_n265_rw := Nat.lt_trans a3 l_dx_rw
  have l_n260_nm := Nat.lt_trans a4 a5
  have l_n260_d := Nat.lt_trans a4 l_dx_d
  have l_n260_sl := Nat.lt_trans a4 l_dx_sl
  have l_n260_tr := Nat.lt_trans a4 l_dx_tr
  have l_n260_tl := Nat.lt_trans a4 l_dx_tl
  have l_n260_t := Nat.lt_trans a4 l_dx_t
  have l_n260_tb := Nat.lt_trans a4 l_dx_tb
  have l_n260_rr := Nat.lt_trans a4 l_dx_rr
  have l_n260_rw := Nat.lt_trans a4 l_dx_rw
  exact ⟨⟨⟨Nat.ne_of_lt l_src_sl, Nat.ne_of_lt l_src_tl, Nat.ne_of_lt l_src_tb, Nat.ne_of_lt l_src_rw, Nat.ne_of_lt l_sl_tl, Nat.ne_of_lt l_sl_tb, Nat.ne_of_lt l_sl_rw, Nat.ne_of_lt l_tl_tb, Nat.ne_of_lt l_tl_rw, Nat.ne_of_lt l_tb_rw⟩, (Nat.ne_of_lt l_n265_sl).symm, (Nat.ne_of_lt l_n265_tl).symm, (Nat.ne_of_lt l_n265_tb).symm, (Nat.ne_of_lt l_n265_rw).symm, (Nat.ne_of_lt l_n260_sl).symm, (Nat.ne_of_lt l_n260_tl).symm, (Nat.ne_of_lt l_n260_tb).symm, (Nat.ne_of_lt l_n260_rw).symm⟩, ⟨⟨(Nat.ne_of_lt l_src_nm).symm, Nat.ne_of_lt l_nm_sl, Nat.ne_of_lt l_nm_tl, Nat.ne_of_lt l_nm_tb, Nat.ne_of_lt l_nm_rw, (Nat.ne_of_lt l_n265_nm).symm, (Nat.ne_of_lt l_n260_nm).symm⟩, ⟨(Nat.ne_of_lt a1).symm, Nat.ne_of_lt l_dx_sl, Nat.ne_of_lt l_dx_tl, Nat.ne_of_lt l_dx_tb, Nat.ne_of_lt l_dx_rw, (Nat.ne_of_lt a3).symm, (Nat.ne_of_lt a4).symm⟩, ⟨Nat.ne_of_lt l_I_sl, Nat.ne_of_lt l_I_tl, Nat.ne_of_lt l_I_tb, Nat.ne_of_lt l_I_rw⟩, (Nat.ne_of_lt a5).symm, (Nat.ne_of_lt l_I_nm).symm, (Nat.ne_of_lt a2).symm⟩, List.forall_mem_cons.mpr ⟨⟨(Nat.ne_of_lt l_src_d).symm, (Nat.ne_of_lt l_src_t).symm, (Nat.ne_of_lt l_src_tr).symm, (Nat.ne_of_lt l_src_rr).symm⟩, List.forall_mem_cons.mpr ⟨⟨Nat.ne_of_lt a7, (Nat.ne_of_lt l_sl_t).symm, (Nat.ne_of_lt a8).symm, (Nat.ne_of_lt l_sl_rr).symm⟩, List.forall_mem_cons.mpr ⟨⟨Nat.ne_of_lt l_d_tl, (Nat.ne_of_lt b1).symm, Nat.ne_of_lt a9, (Nat.ne_of_lt l_tl_rr).symm⟩, List.forall_mem_cons.mpr ⟨⟨Nat.ne_of_lt l_d_tb, Nat.ne_of_lt b2, Nat.ne_of_lt l_tr_tb, (Nat.ne_of_lt b3).symm⟩, List.forall_mem_cons.mpr ⟨⟨Nat.ne_of_lt l_d_rw, Nat.ne_of_lt l_t_rw, Nat.ne_of_lt l_tr_rw, Nat.ne_of_lt b4⟩, List.forall_mem_cons.mpr ⟨⟨(Nat.ne_of_lt l_n265_d).symm, (Nat.ne_of_lt l_n265_t).symm, (Nat.ne_of_lt l_n265_tr).symm, (Nat.ne_of_lt l_n265_rr).symm⟩, List.forall_mem_cons.mpr ⟨⟨(Nat.ne_of_lt l_n260_d).symm, (Nat.ne_of_lt l_n260_t).symm, (Nat.ne_of_lt l_n260_tr).symm, (Nat.ne_of_lt l_n260_rr).symm⟩, List.forall_mem_cons.mpr ⟨⟨(Nat.ne_of_lt a6).symm, (Nat.ne_of_lt l_nm_t).symm, (Nat.ne_of_lt l_nm_tr).symm, (Nat.ne_of_lt l_nm_rr).symm⟩, List.forall_mem_cons.mpr ⟨⟨(Nat.ne_of_lt l_dx_d).symm, (Nat.ne_of_lt l_dx_t).symm, (Nat.ne_of_lt l_dx_tr).symm, (Nat.ne_of_lt l_dx_rr).symm⟩, List.forall_mem_cons.mpr ⟨⟨(Nat.ne_of_lt l_I_d).symm, (Nat.ne_of_lt l_I_t).symm, (Nat.ne_of_lt l_I_tr).symm, (Nat.ne_of_lt l_I_rr).symm⟩, fun _ h => nomatch h⟩⟩⟩⟩⟩⟩⟩⟩⟩⟩⟩
theorem allLt_up {a b : Nat} (h : a ≤ b) : ∀ {l : List (Addr × Obj)}, AllLt a l → AllLt b l
  | [], x => x
  | _ :: _, x => ⟨Nat.lt_of_lt_of_le x.1 h, allLt_up h x.2⟩
theorem contains_mono {l l' : List Str} {y : Str} (k : ∀ x ∈ l', x ∈ l) (h : l.contains y = false) : l'.contains y = false := by
  rw [Bool.eq_false_iff] at h ⊢
  exact fun c => h (List.contains_iff_mem.mpr (k _ (List.contains_iff_mem.mp c)))
abbrev sixN : List Str := [Str.ofString "k", Str.ofString "source", Str.ofString "names", Str.ofString "tables", Str.ofString "rows", Str.ofString "turn"]
theorem six_turn {y : Str} (h : sixN.contains y = false) : ([Str.ofString "turn"] : List Str).contains y = false := contains_mono (fun x hx => by rw [List.mem_singleton.mp hx]; decide) h
abbrev InJof {h₀ h : Heap} {L : Addr} {m : Str → Option Value} (_ : Fr h₀ L h m) (w : World) (hs : List (Addr × Obj)) (src sl tl tb rw : Addr) := InJ w m hs src sl tl tb rw
/-- what holds between the parts of a turn -/
inductive CutP (w : World) (base : Heap) (L : Addr) (m : Str → Option Value) (hs : List (Addr × Obj)) (src sl tl tb rw : Addr) (b : Nat) (s s' : Shared) : Prop
  | mk (h' tk' S e news : _) (_ : s' = { s with heap := h', toks := tk' }) (_ : Fr base L h' m) (_ : News base L h' news) (_ : LawS w hs src sl tl tb rw b S e news) : CutP w base L m hs src sl tl tb rw b s s'
abbrev CutPof {h₀ h : Heap} {L : Addr} {m : Str → Option Value} (_ : Fr h₀ L h m) (w : World) (hs : List (Addr × Obj)) (src sl tl tb rw : Addr) (b : Nat) (s : Shared) := CutP w h₀ L m hs src sl tl tb rw b s
abbrev lawHs2 (nm dx : Addr) (od itO itO2 : Obj) (I I2 : Addr) : List (Addr × Obj) := [(nm, instObj 207 dx), (dx, od), (I, itO), (I2, itO2)]
theorem nil_or_snoc (S : List Ent) : S = [] ∨ ∃ S' e', S = S' ++ [e'] := by
  rcases List.eq_nil_or_concat S with h | ⟨S', e', h⟩
  · exact .inl h
  · exact .inr ⟨S', e', by simpa using h⟩
abbrev namesD (u1 u2 : Int) (k1 k2 : Tok) (n : Nat) (sl tl : Addr) : Obj := dictOf [⟨u1, .str (Str.ofString "scopes") k1, .ref sl⟩, ⟨u2, .str (Str.ofString "told") k2, .ref tl⟩] n
theorem hold_new {M M' : Model} {A A' : Around} {α : Type} {pos : List Value} {kw : List (Str × Value)} {c : Value → Shared → Sem α} {Q' : Value → Shared → α → Shared → Prop} {E' : Value → Shared → Value → Shared → Prop} {E : Value → Shared → Prop} {s : Shared}
    (h : Hold (wpAny M A (call (.ref 207) pos kw) (fun v s' => wpAny M' A' (c v s') (Q' v s') (E' v s') s') E s)) : wpAny M A (call (.ref 207) pos kw) (fun v s' => wpAny M' A' (c v s') (Q' v s') (E' v s') s') E s := h
/-- Bindings() is made -/
inductive BindP (w : World) (g : Heap) (L : Addr) (m : Str → Option Value) (news : List (Addr × Obj)) (s : Shared) (v : Value) (s' : Shared) : Prop
  | mk (h' : Heap) (tk' : Nat) (nm dx d sl tr tl : Addr) (od : Obj) (k1 k2 : Tok) (u1 u2 : Int) (n : Nat) (_ : v = .ref nm) (_ : s' = { s with heap := h', toks := tk' }) (_ : Fr g L h' m)
    (_ : News g L h' ((tl, listOf #[Value.ref tr] 0) :: (tr, tupO [] 0) :: (sl, listOf #[Value.ref d] 0) :: (d, od) :: (nm, instObj 207 dx) :: (dx, namesD u1 u2 k1 k2 n sl tl) :: news))
    (_ : DictS w od [(Str.ofString "xml", XMLU)]) (_ : (d == sysModules) = false) (_ : ∀ p ∈ news, p.1 < dx) (_ : dx < nm) (_ : nm < d) (_ : d < sl) (_ : sl < tr) (_ : tr < tl) : BindP w g L m news s v s'
abbrev BindPof {g h : Heap} {L : Addr} {m : Str → Option Value} {news : List (Addr × Obj)} (_ : Fr g L h m) (_ : News g L h news) (w : World) (s : Shared) := BindP w g L m news s
theorem lt_mem {a d : Nat} {o : Obj} {c : Addr × Obj} {l : List (Addr × Obj)} (h : ∀ p ∈ c :: l, p.1 < d) (m : (a, o) ∈ c :: l) : a < d := h _ m
/-- where the inner loop starts -/
inductive Start (w : World) (base : Heap) (L : Addr) (h : Heap) (nm dx src sl tl tb rw I : Addr) (itO dxo : Obj) : Prop
  | mk (S : List Ent) (e : Ent) (news : List (Addr × Obj)) (_ : News base L h news) (_ : LawS w (lawHs nm dx dxo itO I) src sl tl tb rw 1 S e news) (_ : LawNe src sl tl tb rw) (_ : HsNe (lawHs nm dx dxo itO I) src sl tl tb rw) (_ : NamesIn (lawHs nm dx dxo itO I) nm sl tl) : Start w base L h nm dx src sl tl tb rw I itO dxo
theorem law_begin {w : World} {base h : Heap} {L a3 rw rr tb t tl tr sl d nm dx src I : Addr} {o3 ot od so itO : Obj} {k1 k2 : Tok} {u1 u2 : Int} {n : Nat} {psO psA : Array Value} {CO CA Z : List (Addr × Obj)} {i1 : Obj}
    (N : News base L h ((a3, o3) :: (rw, listOf #[Value.ref rr] 0) :: (rr, tupO [] 0) :: (tb, listOf #[Value.ref t] 0) :: (t, ot) :: (tl, listOf #[Value.ref tr] 0) :: (tr, tupO [] 0) :: (sl, listOf #[Value.ref d] 0) :: (d, od) :: (nm, instObj 207 dx) :: (dx, namesD u1 u2 k1 k2 n sl tl) :: (src, so) :: (I, itO) :: (265, tabObj psO) :: (260, tabObj psA) :: Z))
    (lx : ∀ p ∈ (src, so) :: (I, itO) :: (265, tabObj psO) :: (260, tabObj psA) :: Z, p.1 < dx) (a5 : dx < nm) (a6 : nm < d) (a7 : d < sl) (a8 : sl < tr) (a9 : tr < tl) (b1 : tl < t) (b2 : t < tb) (b3 : tb < rr) (b4 : rr < rw)
    (ns : ∀ p ∈ (I, i1) :: (265, tabObj psO) :: (260, tabObj psA) :: Z, p.1 ≠ src) (nI : ∀ p ∈ (265, tabObj psO) :: (260, tabObj psA) :: Z, p.1 ≠ I) (z6 : ApartT Z 265) (z7 : ApartT Z 260) (hso : SrcO so)
    (hd : DictS w od [(Str.ofString "xml", XMLU)]) (ht : DictS w ot [(Str.ofString "xml", XMLU)]) (ld : (d == sysModules) = false) (lt : (t == sysModules) = false) (TO : TabOk 265 qualO CO psO) (TA : TabOk 260 qualA CA psA) (hCO : ∀ q ∈ CO, q ∈ Z) (hCA : ∀ q ∈ CA, q ∈ Z) :
    Start w base L h nm dx src sl tl tb rw I itO (namesD u1 u2 k1 k2 n sl tl) := by
  obtain ⟨⟨⟨m1, m2, m3, m4, m5, m6, m7, m8, m9, m10⟩, m11, m12, m13, m14, m15, m16, m17, m18⟩, ⟨⟨p1, p2, p3, p4, p5, p6, p7⟩, ⟨q1, q2, q3, q4, q5, q6, q7⟩, ⟨r1, r2, r3, r4⟩, t1, t2, t3⟩, od4⟩ := law_ord (lx (src, so) (.head _)) (lx (I, itO) (.tail _ (.head _))) (lx (265, _) (.tail _ (.tail _ (.head _)))) (lx (260, _) (.tail _ (.tail _ (.tail _ (.head _))))) a5 a6 a7 a8 a9 b1 b2 b3 b4
  have sI := ns (I, i1) (.head _)
  have s65 := ns (265, _) (.tail _ (.head _))
  have s60 := ns (260, _) (.tail _ (.tail _ (.head _)))
  have i65 := nI (265, _) (.head _)
  have i60 := nI (260, _) (.tail _ (.head _))
  have aI : ApartT Z I := fun q hq => nI q (.tail _ (.tail _ hq))
  have aS : ApartT Z src := fun q hq => ns q (.tail _ (.tail _ (.tail _ hq)))
  have zx : ∀ q ∈ Z, q.1 < dx := fun q hq => lx q (.tail _ (.tail _ (.tail _ (.tail _ hq))))
  have ap : ∀ {x : Nat}, dx ≤ x → ApartT Z x := fun k q hq => Nat.ne_of_lt (Nat.lt_of_lt_of_le (zx q hq) k)
  have l1 := Nat.lt_trans a5 a6
  have l2 := Nat.lt_trans l1 a7
  have l3 := Nat.lt_trans (Nat.lt_trans l2 a8) a9
  have l4 := Nat.lt_trans (Nat.lt_trans l3 b1) b2
  have l5 := Nat.lt_trans (Nat.lt_trans l4 b3) b4
  have hap : ∀ x ∈ [src, sl, tl, tb, rw, 265, 260, nm, dx, I], ApartT Z x :=
    List.forall_mem_cons.mpr ⟨aS, List.forall_mem_cons.mpr ⟨ap (Nat.le_of_lt l2), List.forall_mem_cons.mpr ⟨ap (Nat.le_of_lt l3), List.forall_mem_cons.mpr ⟨ap (Nat.le_of_lt l4), List.forall_mem_cons.mpr ⟨ap (Nat.le_of_lt l5), List.forall_mem_cons.mpr ⟨z6, List.forall_mem_cons.mpr ⟨z7, List.forall_mem_cons.mpr ⟨ap (Nat.le_of_lt a5), List.forall_mem_cons.mpr ⟨ap (Nat.le_refl _), List.forall_mem_cons.mpr ⟨aI, fun _ h => nomatch h⟩⟩⟩⟩⟩⟩⟩⟩⟩⟩
  refine ⟨_, _, _, newsPerm N (fun q hq => picks _ 15 [9, 10, 12, 11, 7, 5, 3, 1, 13, 14, 8, 4, 6, 2] q hq), start_law hso hd ht ld lt TO TA hCO hCA fun x hx => ⟨hap x hx, od4 x hx⟩, ⟨⟨m1, m2, m3, m4, m5, m6, m7, m8, m9, m10, s65.symm, m11, m12, m13, m14⟩, s60.symm, m15, m16, m17, m18⟩,
    List.forall_mem_cons.mpr ⟨⟨p1, p2, p3, p4, p5, p6, p7⟩, List.forall_mem_cons.mpr ⟨⟨q1, q2, q3, q4, q5, q6, q7⟩, List.forall_mem_cons.mpr ⟨⟨sI, r1, r2, r3, r4, i65.symm, i60.symm⟩, fun _ h => nomatch h⟩⟩⟩, dx, k1, k2, u1, u2, n, .head _, .tail _ (.head _)⟩
/-- a turn of the inner loop starts: its iterator joins -/
inductive Turn2 (w : World) (base : Heap) (L : Addr) (h : Heap) (nm dx src sl tl tb rw I I2 : Addr) (itO itO2 dxo : Obj) (b : Nat) (S : List Ent) (e : Ent) : Prop
  | mk (news : List (Addr × Obj)) (_ : News base L h news) (_ : LawS w (lawHs2 nm dx dxo itO itO2 I I2) src sl tl tb rw b S e news) (_ : HsNe (lawHs2 nm dx dxo itO itO2 I I2) src sl tl tb rw) (_ : NamesIn (lawHs2 nm dx dxo itO itO2 I I2) nm sl tl) (_ : @Ne Nat nm I2) (_ : @Ne Nat dx I2) (_ : @Ne Nat I I2) : Turn2 w base L h nm dx src sl tl tb rw I I2 itO itO2 dxo b S e
theorem law_turn {w : World} {base h : Heap} {L nm dx src sl tl tb rw I I2 : Addr} {itO itO2 dxo : Obj} {b : Nat} {S : List Ent} {e : Ent} {news : List (Addr × Obj)} (N : News base L h ((I2, itO2) :: news)) (LS : LawS w (lawHs nm dx dxo itO I) src sl tl tb rw b S e news) (hI : ∀ p ∈ news, p.1 ≠ I2)
    (hn : HsNe (lawHs nm dx dxo itO I) src sl tl tb rw) (hm : NamesIn (lawHs nm dx dxo itO I) nm sl tl) : Turn2 w base L h nm dx src sl tl tb rw I I2 itO itO2 dxo b S e := by
  obtain ⟨so2, n1, n2, n3, n4, psO2, psA2, CO2, CA2, Z2, rfl, hso2, hSb, hSe, hE, TO2, TA2, hCO2, hCA2, hz, hsZ⟩ := LS
  obtain ⟨dx', k1, k2, h1, h2, n, x1, x2⟩ := hm
  have mI : ∀ {x : Addr} {o : Obj}, (x, o) ∈ lawHs nm dx dxo itO I ++ lawHd src sl tl tb rw so2 S e n1 n2 n3 n4 psO2 psA2 Z2 → @Ne Nat x I2 := fun h => hI _ h
  have zI2 : ApartT Z2 I2 := fun q hq => hI q (by simp only [List.mem_append, List.mem_cons, hq, or_true])
  have up : ∀ q ∈ lawHs nm dx dxo itO I, q ∈ lawHs2 nm dx dxo itO itO2 I I2 := fun q hq => picks _ 4 [0, 1, 2] q hq
  have a1 := List.forall_mem_cons.mp hn
  have a2 := List.forall_mem_cons.mp a1.2
  have a3 := List.forall_mem_cons.mp a2.2
  refine ⟨_, newsPerm N (B := lawHs2 nm dx dxo itO itO2 I I2 ++ lawHd src sl tl tb rw so2 S e n1 n2 n3 n4 psO2 psA2 Z2) (fun q hq => picks _ 4 [1, 2, 3, 0] q hq),
    ⟨so2, n1, n2, n3, n4, psO2, psA2, CO2, CA2, Z2, rfl, hso2, hSb, hSe, hE, TO2, TA2, hCO2, hCA2, hz, List.forall_mem_cons.mpr ⟨hsZ (nm, _) (.head _), List.forall_mem_cons.mpr ⟨hsZ (dx, _) (.tail _ (.head _)), List.forall_mem_cons.mpr ⟨hsZ (I, _) (.tail _ (.tail _ (.head _))), List.forall_mem_cons.mpr ⟨zI2, fun _ h => nomatch h⟩⟩⟩⟩⟩,
    List.forall_mem_cons.mpr ⟨a1.1, List.forall_mem_cons.mpr ⟨a2.1, List.forall_mem_cons.mpr ⟨a3.1, List.forall_mem_cons.mpr ⟨⟨(mI (.tail _ (.tail _ (.tail _ (.head _))))).symm, (mI (.tail _ (.tail _ (.tail _ (.tail _ (.head _)))))).symm, (mI (.tail _ (.tail _ (.tail _ (.tail _ (.tail _ (.head _))))))).symm, (mI (.tail _ (.tail _ (.tail _ (.tail _ (.tail _ (.tail _ (.head _)))))))).symm, (mI (.tail _ (.tail _ (.tail _ (.tail _ (.tail _ (.tail _ (.tail _ (.head _))))))))).symm, (mI (.tail _ (.tail _ (.tail _ (.tail _ (.tail _ (.tail _ (.tail _ (.tail _ (.head _)))))))))).symm, (mI (.tail _ (.tail _ (.tail _ (.tail _ (.tail _ (.tail _ (.tail _ (.tail _ (.tail _ (.head _))))))))))).symm⟩, fun _ h => nomatch h⟩⟩⟩⟩,
    ⟨dx', k1, k2, h1, h2, n, up _ x1, up _ x2⟩, mI (.head _), mI (.tail _ (.head _)), mI (.tail _ (.tail _ (.head _)))⟩
/-- a turn of the inner loop ends: its iterator leaves -/
theorem law_turned {w : World} {base h : Heap} {L nm dx src sl tl tb rw I I2 : Addr} {itO itO2 dxo : Obj} {b : Nat} {S : List Ent} {e : Ent} {news : List (Addr × Obj)} (N : News base L h news) (LS : LawS w (lawHs2 nm dx dxo itO itO2 I I2) src sl tl tb rw b S e news) (hn : HsNe (lawHs2 nm dx dxo itO itO2 I I2) src sl tl tb rw) (v1 : @Ne Nat nm I2) (v2 : @Ne Nat dx I2) (v3 : @Ne Nat I I2) :
    ∃ news', News base L h ((I2, itO2) :: news') ∧ LawS w (lawHs nm dx dxo itO I) src sl tl tb rw b S e news' ∧ ∀ p ∈ news', p.1 ≠ I2 := by
  obtain ⟨so2, n1, n2, n3, n4, psO2, psA2, CO2, CA2, Z2, rfl, hso2, hSb, hSe, hE, TO2, TA2, hCO2, hCA2, hz, hsZ⟩ := LS
  obtain ⟨w1, w2, w3, w4, w5, w6, w7⟩ := hn (I2, itO2) (.tail _ (.tail _ (.tail _ (.head _))))
  refine ⟨lawHs nm dx dxo itO I ++ lawHd src sl tl tb rw so2 S e n1 n2 n3 n4 psO2 psA2 Z2, newsPerm N (fun q hq => picks _ 4 [3, 0, 1, 2] q hq), ⟨so2, n1, n2, n3, n4, psO2, psA2, CO2, CA2, Z2, rfl, hso2, hSb, hSe, hE, TO2, TA2, hCO2, hCA2, hz, List.forall_mem_cons.mpr ⟨hsZ (nm, _) (.head _), List.forall_mem_cons.mpr ⟨hsZ (dx, _) (.tail _ (.head _)), List.forall_mem_cons.mpr ⟨hsZ (I, _) (.tail _ (.tail _ (.head _))), fun _ h => nomatch h⟩⟩⟩⟩,
    List.forall_mem_cons.mpr ⟨v1, List.forall_mem_cons.mpr ⟨v2, List.forall_mem_cons.mpr ⟨v3, List.forall_mem_cons.mpr ⟨w1.symm, List.forall_mem_cons.mpr ⟨w2.symm, List.forall_mem_cons.mpr ⟨w3.symm, List.forall_mem_cons.mpr ⟨w4.symm, List.forall_mem_cons.mpr ⟨w5.symm, List.forall_mem_cons.mpr ⟨w6.symm, List.forall_mem_cons.mpr ⟨w7.symm, hsZ (I2, itO2) (.tail _ (.tail _ (.tail _ (.head _))))⟩⟩⟩⟩⟩⟩⟩⟩⟩⟩⟩
/-- whether an element is to be closed -/
inductive CutB (w : World) (base : Heap) (L : Addr) (m : Str → Option Value) (hs : List (Addr × Obj)) (src sl tl tb rw : Addr) (b : Nat) (S : List Ent) (e : Ent) (s : Shared) (v : Bool) (s' : Shared) : Prop
  | mk (h' tk' news : _) (_ : s' = { s with heap := h', toks := tk' }) (_ : Fr base L h' m) (_ : News base L h' news) (_ : LawS w hs src sl tl tb rw b S e news) (_ : v = true → ∃ S' e', S = S' ++ [e']) : CutB w base L m hs src sl tl tb rw b S e s v s'
abbrev CutBof {h₀ h : Heap} {L : Addr} {m : Str → Option Value} (_ : Fr h₀ L h m) (w : World) (hs : List (Addr × Obj)) (src sl tl tb rw : Addr) (b : Nat) (S : List Ent) (e : Ent) (s : Shared) := CutB w h₀ L m hs src sl tl tb rw b S e s
/-- the inner loop is over -/
inductive Over (base : Heap) (L : Addr) (h : Heap) (I : Addr) (itO : Obj) : Prop
  | mk (psO psA : Array Value) (CO CA Z : List (Addr × Obj)) (_ : News base L h ((I, itO) :: (265, tabObj psO) :: (260, tabObj psA) :: Z)) (_ : ∀ p ∈ (265, tabObj psO) :: (260, tabObj psA) :: Z, p.1 ≠ I) (_ : TabOk 265 qualO CO psO) (_ : TabOk 260 qualA CA psA) (_ : ∀ q ∈ CO, q ∈ Z) (_ : ∀ q ∈ CA, q ∈ Z) (_ : ApartT Z 265) (_ : ApartT Z 260) : Over base L h I itO
theorem law_over {w : World} {base h : Heap} {L nm dx src sl tl tb rw I : Addr} {itO dxo : Obj} {b : Nat} {S : List Ent} {e : Ent} {news : List (Addr × Obj)} (N : News base L h news) (LS : LawS w (lawHs nm dx dxo itO I) src sl tl tb rw b S e news) (i65 : @Ne Nat 265 I) (i60 : @Ne Nat 260 I) : Over base L h I itO := by
  obtain ⟨so2, n1, n2, n3, n4, psO2, psA2, CO2, CA2, Z2, rfl, hso2, hSb, hSe, hE, TO2, TA2, hCO2, hCA2, ⟨z1, z2, z3, z4, z5, z6, z7⟩, hsZ⟩ := LS
  refine ⟨psO2, psA2, CO2, CA2, Z2, newsPerm N (fun q hq => picks _ 10 [2, 8, 9] q hq), List.forall_mem_cons.mpr ⟨i65, List.forall_mem_cons.mpr ⟨i60, hsZ (I, itO) (.tail _ (.tail _ (.head _)))⟩⟩, TO2, TA2, hCO2, hCA2, z6, z7⟩
section
variable {hs : List (Addr × Obj)} {src sl tl tb rw : Addr} {x : Obj}
theorem off_src (ne : LawNe src sl tl tb rw) (hn : HsNe hs src sl tl tb rw) : ∀ p ∈ hs ++ [(sl, x), (tl, x), (tb, x), (rw, x), (265, x), (260, x)], p.1 ≠ src := by
  obtain ⟨⟨e1, e2, e3, e4, e5, e6, e7, e8, e9, e0, ea, eb, ec, ed, ee⟩, f1, f2, f3, f4, f5⟩ := ne
  exact List.forall_mem_append.mpr ⟨fun p h => (hn p h).1, List.forall_mem_cons.mpr ⟨e1.symm, List.forall_mem_cons.mpr ⟨e2.symm, List.forall_mem_cons.mpr ⟨e3.symm, List.forall_mem_cons.mpr ⟨e4.symm, List.forall_mem_cons.mpr ⟨ea.symm, List.forall_mem_cons.mpr ⟨f1.symm, fun _ h => nomatch h⟩⟩⟩⟩⟩⟩⟩
theorem off_tb (ne : LawNe src sl tl tb rw) (hn : HsNe hs src sl tl tb rw) : ∀ p ∈ hs ++ [(src, x), (sl, x), (tl, x), (rw, x), (265, x), (260, x)], p.1 ≠ tb := by
  obtain ⟨⟨e1, e2, e3, e4, e5, e6, e7, e8, e9, e0, ea, eb, ec, ed, ee⟩, f1, f2, f3, f4, f5⟩ := ne
  exact List.forall_mem_append.mpr ⟨fun p h => (hn p h).2.2.2.1, List.forall_mem_cons.mpr ⟨e3, List.forall_mem_cons.mpr ⟨e6, List.forall_mem_cons.mpr ⟨e8, List.forall_mem_cons.mpr ⟨e0.symm, List.forall_mem_cons.mpr ⟨ed.symm, List.forall_mem_cons.mpr ⟨f4.symm, fun _ h => nomatch h⟩⟩⟩⟩⟩⟩⟩
theorem off_rw (ne : LawNe src sl tl tb rw) (hn : HsNe hs src sl tl tb rw) : ∀ p ∈ hs ++ [(src, x), (sl, x), (tl, x), (tb, x), (265, x), (260, x)], p.1 ≠ rw := by
  obtain ⟨⟨e1, e2, e3, e4, e5, e6, e7, e8, e9, e0, ea, eb, ec, ed, ee⟩, f1, f2, f3, f4, f5⟩ := ne
  exact List.forall_mem_append.mpr ⟨fun p h => (hn p h).2.2.2.2.1, List.forall_mem_cons.mpr ⟨e4, List.forall_mem_cons.mpr ⟨e7, List.forall_mem_cons.mpr ⟨e9, List.forall_mem_cons.mpr ⟨e0, List.forall_mem_cons.mpr ⟨ee.symm, List.forall_mem_cons.mpr ⟨f5.symm, fun _ h => nomatch h⟩⟩⟩⟩⟩⟩⟩
end
theorem off_part50_law : True := by w_top off; trivial
section part50_law
local macro_rules | `(tactic| walk_at "call ref") => `(tactic| with_reducible refine hold_new ?_)
local macro_rules | `(tactic| walk_at "exec For Name Call cons nil") => `(tactic| refine hold ?_)
local macro_rules | `(tactic| walk_at "pyIter ref") => `(tactic| refine hold ?_)
local macro_rules | `(tactic| walk_at "call ref") => `(tactic| with_reducible refine hold_at 218 ?_)
local macro_rules | `(tactic| walk_at "call ref") => `(tactic| with_reducible refine hold_at 268 ?_)
local macro_rules | `(tactic| walk_at "call ref") => `(tactic| with_reducible refine hold_at 161 ?_)
local macro_rules | `(tactic| walk_at "call ref") => `(tactic| with_reducible refine hold_at 168 ?_)
local macro_rules | `(tactic| walk_at "call ref") => `(tactic| with_reducible refine hold_at 175 ?_)
local macro_rules | `(tactic| walk_at "call ref") => `(tactic| with_reducible refine hold_at 263 ?_)
local macro_rules | `(tactic| walk_at "compareOp NotEq ref ref") => `(tactic| refine hold ?_)
theorem stop_is (l : Nat) : ∃ n : Nat, (if (if (2 : Int) < (l : Int) then 2 else (l : Int)) > 1 then if (2 : Int) < (l : Int) then 2 else (l : Int) else 1) = (n : Int) ∧ n ≤ 2 := by
  refine ⟨(if (if (2 : Int) < (l : Int) then 2 else (l : Int)) > 1 then if (2 : Int) < (l : Int) then 2 else (l : Int) else 1).toNat, ?_, ?_⟩ <;> (repeat' split) <;> omega
theorem q_is {r : Int} (h1 : r < 4) (h0 : 0 ≤ r) : ∃ q : Nat, 4 + r = (q : Int) ∧ q ≤ 7 := ⟨(4 + r).toNat, by omega, by omega⟩
set_option maxHeartbeats 6000000 in
theorem lawHolds : PySem.Challenge.rw_nu0058_01.Holds := by
  w_on
  refine hd rfl rfl rfl ?hw ?hc
  case hw => w_witness2
  w_strict (k_go0; (all_goals try k_fold))
  w_strict k_steps
  all_goals (try dsimp only)
  (rename Below _ _ _ _ => B); (rename Fr _ _ _ _ => F1); (rename News _ _ _ _ => N1); (rename Top topProg _ _ _ _ _ => T); (rename Frag.In _ _ => X); (rename IntsAre _ _ => hI); (rename World => w); (rename Shared => s₁); (rename List Int => ns)
  (rename Heap.CodeRec _ _ _ => hcd); (rename Dflts _ _ _ _ _ _ => hdf)
  clear hdf hcd
  rename_i wlay1 wlay2 wlay3 wAddr1 wA2 wScr wVs wA3 wIsList wra wWell wReads wHasAll wCond wTrue wH1 wN wl
  have hlen : ns.length ≤ 63 := by omega
  refine wpAny_noRaise ?_
  refine' For_G F1 B ?h ?hs
  case hs => intro _; rfl
  w_strict k_steps
  all_goals (try dsimp only)
  clear F1
  (rename Fr _ _ _ _ => F2); (rename News _ _ _ _ => N2); (rename IsRange _ _ _ _ _ _ _ _ => hr)
  obtain ⟨n, hn, hn2⟩ := stop_is ns.length
  rw [hn] at hr
  refine' range_iterG rfl hr (range_small (by omega) (by omega)) range_size B (fun _ _ h _ => h) F2 N2 (OutJ (fun y => if y = Str.ofString "script" then some (.ref wScr) else none)) ?h0 ?turn ?done
  case h0 =>
    refine ⟨#[], #[], [], [], [], rfl, TabOk.nil _ _, TabOk.nil _ _, (fun _ h => nomatch h), (fun _ h => nomatch h), (fun _ h => nomatch h), (fun _ h => nomatch h), fun y _ => ?_⟩
    show List.lookup y [(Str.ofString "script", Value.ref wScr)] = (if y = Str.ofString "script" then some (.ref wScr) else none)
    by_cases e : y = Str.ofString "script"
    · subst e; simp [List.lookup]
    · rw [if_neg e, List.lookup, show (y == Str.ofString "script") = false from by simpa using e]; rfl
  case done =>
    rintro g₁ h₁ tk₁ m₁ news₁ gr F3 N3 ⟨psO, psA, CO, CA, Z, rfl, TO, TA, hCO, hCA, z6, z7, hm⟩
    replace F3 := fr_nil gr F3
    replace N3 := newsPerm (news_nil gr N3) (B := [(265, tabObj psO), (260, tabObj psA)]) fun q hq => by
      simp only [List.mem_cons, List.not_mem_nil, or_false] at hq ⊢
      rcases hq with h | h <;> simp only [h, true_or, or_true]
    have hk := keepN_of hm
    rw [hk] at F3
    unfold keepN at F3
    clear F2 N2 hm hk gr TO TA hCO hCA z6 z7
    w_strict k_steps
    all_goals (try dsimp only)
  case turn =>
    rintro i t₀ g₁ m₁ news₁ I itO h₁ tk₁ hi ⟨psO, psA, CO, CA, Z, rfl, TO, TA, hCO, hCA, z6, z7, hm⟩ gr hI3 F3 N3
    replace F3 := fr_nil gr F3
    replace N3 := news_nil gr N3
    have hk := keepN_of hm
    rw [hk] at F3
    unfold keepN at F3
    clear F2 N2
    (try (rename Fr _ _ _ (fun x => List.lookup x _) => F9; clear F9))
    have i65 : @Ne Nat 265 I := hI3 _ (.head _)
    have i60 : @Ne Nat 260 I := hI3 _ (.tail _ (.head _))
    clear hm hk
    w_strict k_steps
    all_goals (try dsimp only)
    clear F3 N3
    (rename Fr _ _ _ _ => F4); (rename News _ _ _ _ => N4)
    refine pool_callL B F4 N4 X T rfl rfl lifted hI wlay1 hlen (by omega) (by omega) (by decide) (by decide) fun src so h5 tk5 hso F5 N5 ne5 => ?_
    clear F4 N4
    w_strict k_steps
    (rename Fr _ _ _ _ => F6); (rename News _ _ _ _ => N6)
    refine cutA (BindPof F6 N6 w s₁) ?ba ?bb
    case ba =>
      dsimp only [BindPof]
      (try clear F5); (try clear N5)
      w_strict k_steps
      all_goals (try dsimp only)
      (rename Fr _ _ _ _ => F7); (rename News _ _ _ _ => N7); (rename Obj.IsDictOf _ _ _ => hdd)
      exact ⟨_, _, _, _, _, _, _, _, _, _, _, _, _, _, rfl, rfl, F7, N7, ⟨_, hdd, .cons .nil⟩, by assumption, by with_reducible assumption, by first | assumption | exact lt_mem (by with_reducible assumption) (.head _), lt_mem (by with_reducible assumption) (.head _), lt_mem (by with_reducible assumption) (.head _), lt_mem (by with_reducible assumption) (.head _), lt_mem (by with_reducible assumption) (.head _)⟩
    case bb =>
      dsimp only [BindPof]
      (try clear F5); (try clear N5); clear F6 N6
      rintro v s' ⟨h7, tk7, nm, dx, d, sl, tr, tl, od, k1, k2, u1, u2, n9, rfl, rfl, F7, N7, hDd, lod, lx, a5, a6, a7, a8, a9⟩
      w_strict k_steps
      all_goals (try dsimp only)
      (rename Obj.IsDictOf _ _ _ => hdt)
      rename_i tb hx7 lx4 rr hx6 lx3 rw hx5 lx2 a3 hx4 lx1 hx3 hx2 hx1 hx0 F8 N8
      obtain ⟨S, e, news7, N9, LS, ne0, hsne, hnm⟩ := law_begin N8 lx a5 a6 a7 a8 a9 (lt_mem (by with_reducible assumption) (.head _)) (lt_mem (by with_reducible assumption) (.head _)) (lt_mem (by with_reducible assumption) (.head _)) (lt_mem (by with_reducible assumption) (.head _)) ne5 hI3 z6 z7 hso hDd ⟨_, hdt, .cons .nil⟩ lod (by assumption) TO TA hCO hCA
      (try clear N7); (try clear F7); clear lx1 lx2 lx3 lx4; clear N8 hDd lod lx a5 a6 a7 a8 a9 hdt ne5 hI3 TO TA hCO hCA z6 z7 hso
      obtain ⟨so1, n1, n2, n3, n4, psO1, psA1, CO1, CA1, Z1, rfl, hso1, hSb, hSe, hE, TO1, TA1, hCO1, hCA1, hz, hsZ⟩ := LS
      dsimp only [lawHs, lawHd, List.cons_append, List.nil_append] at N9
      have nS := off_src (x := itO) ne0 hsne
      dsimp only [lawHs, List.cons_append, List.nil_append] at nS
      have z1 := hz.1
      refine' For_G F8 B ?h ?hs
      case hs => intro _; rfl
      w_strict k_steps
      all_goals (try dsimp only)
      (rename Fr _ _ _ _ => F9); (rename News _ _ _ _ => N9); (rename IsRange _ _ _ _ _ _ _ _ => hr2); (rename SrcO _ => hoT)
      (rename (_ : Int) < 4 => rT1)
      obtain ⟨q, hq, hq7⟩ := q_is rT1 (by assumption)
      rw [hq] at hr2
      clear nS z1
      refine' range_iterG rfl hr2 (range_small (by omega) (by omega)) range_size B (fun _ _ h _ => h) F9 N9 (InJof F9 w (lawHs nm dx (namesD u1 u2 k1 k2 n9 sl tl) itO I) src sl tl tb rw) ?i0 ?iturn ?idone
      case i0 => exact ⟨⟨S, e, _, n1, n2, n3, n4, psO1, psA1, CO1, CA1, Z1, rfl, hoT, hSb, hSe, hE, TO1, TA1, hCO1, hCA1, hz, hsZ⟩, fun _ _ => rfl⟩
      case idone =>
        rintro g₂ h₂ tk₂ m₂ news₂ gr2 F10 N10 ⟨⟨S, e, LS⟩, hm⟩
        (try dsimp only)
        refine wpAny_execs_nil ?_
        obtain ⟨psO2, psA2, CO2, CA2, Z2, N11, ap2, TO2, TA2, hCO2, hCA2, z6, z7⟩ := law_over (news_nil gr2 N10) LS i65 i60
        refine lturn_fin gr (fr_nil gr2 F10) N11 ap2 ⟨psO2, psA2, CO2, CA2, Z2, rfl, TO2, TA2, hCO2, hCA2, z6, z7, fun y hy => (hm y (six_turn hy)).trans ?_⟩
        revert y
        repeat (first | exact keepN_base | refine keepN_if (by decide) ?_)
      case iturn =>
        dsimp only [InJof]
        clear hSb hSe hE TO1 TA1 hCO1 hCA1 hz hsZ N9 F9 hoT hso1
        rintro j t₁ g₂ m₂ news₂ I2 itO2 h₂ tk₂ hj ⟨⟨S, e, LS⟩, hm⟩ gr2 hI2 F10 N10
        replace F10 := fr_nil gr2 F10
        replace N10 := news_nil gr2 N10
        rw [keepN_of hm] at F10
        unfold keepN at F10
        (try dsimp only at F10)
        obtain ⟨news3, N11, LS3, hsne2, hnm2, v1, v2, v3⟩ := law_turn N10 LS hI2 hsne hnm
        clear N10 LS hI2 hm
        refine hideT fun Q hQ => ?_
        refine wpAny_assign_Name (wpAny_storeName_local rfl F10.ns (fun h₄ hn₄ hs₄ => ?_) rfl)
        replace hs₄ : Heap.SameBut _ h₂ h₄ := hs₄
        have F11 := F10.set hn₄ hs₄
        have N12 := N11.set hs₄
        clear F10 N11 hn₄ hs₄
        refine cutS (CutPof F11 w (lawHs2 nm dx (namesD u1 u2 k1 k2 n9 sl tl) itO itO2 I I2) src sl tl tb rw (j + 1 + 1) s₁) ?ca ?cb
        case cb =>
          clear LS3 N12
          dsimp only [CutPof]
          clear F11
          rintro s' ⟨h', tk', S, e, news3, rfl, F12, N12, so3, n1, n2, n3, n4, psO3, psA3, CO3, CA3, Z3, rfl, hso3, hSb, hSe, hE, TO3, TA3, hCO3, hCA3, hz, hsZ3⟩
          dsimp only [lawHs2, lawHd, List.cons_append, List.nil_append] at N12
          have hl1 : (List.map (fun x => Value.ref x.t) S).length = S.length := by simp
          have hE' := hE
          obtain ⟨eD, eT, eO, eL, etr, eps, err, epr, eM⟩ := hE'
          w_strict k_steps
          all_goals (try dsimp only)
          (rename Fr _ _ _ _ => FA); (rename News _ _ _ _ => NA)
          refine depth_call B FA NA X T rfl rfl (show (sl, listOf (dsOf S e).toArray n1) ∈ _ by kfm_turns) ⟨dx, k1, k2, u1, u2, n9, .head _, .tail _ (.head _)⟩ (by simp; omega) (by decide) (by decide) fun t5 h5 tk5 F5 N5 => ?_
          rw [show (((dsOf S e).length : Nat) : Int) - 1 = (S.length : Int) by simp]
          clear FA NA
          w_strict k_steps
          all_goals (try dsimp only)
          all_goals (first | (exfalso; omega) | skip)
          (rename Fr _ _ _ _ => FA); (rename News _ _ _ _ => NA)
          refine declared_call B FA NA X T rfl rfl (show (tl, listOf (S.map (fun x => Value.ref x.tr) ++ [Value.ref e.tr]).toArray n2) ∈ _ by kfm_turns) ⟨dx, k1, k2, u1, u2, n9, .head _, .tail _ (.head _)⟩ (by decide) (by decide) fun h6 tk6 F6 N6 => ?_
          clear FA NA
          w_strict k_steps
          all_goals (try dsimp only)
          (rename Fr _ _ _ _ => FA); (rename News _ _ _ _ => NA)
          refine same_tups NA (a := e.tr) (b := e.rr) (show (e.tr, tupO e.fs e.k1) ∈ _ by kfm_turns) eps (fun q hq => by kfm_turns) (show (e.rr, tupO e.gs e.k2) ∈ _ by kfm_turns) epr (fun q hq => by kfm_turns) eM (by k_units) ?_
          w_strict k_steps
          all_goals (try dsimp only)
          refine asked_inv B (fun _ _ h _ => h) FA NA X T rfl rfl (hs := (lawHs2 nm dx (namesD u1 u2 k1 k2 n9 sl tl) itO itO2 I I2)) (src := src) (tb := tb) (rw := rw) (S := S) (e := e) (b := j + 1 + 1) ⟨so3, n1, n2, n3, n4, psO3, psA3, CO3, CA3, Z3, rfl, hso3, hSb, hSe, hE, TO3, TA3, hCO3, hCA3, hz, hsZ3⟩ ne0 hsne2 hnm2 (by omega) (by decide) (by decide) fun h9 tk9 g9 news9 gr9 FL NL LS9 => ?_
          clear FA NA
          w_strict k_steps
          all_goals (try dsimp only)
          obtain ⟨news', N', LS', hI'⟩ := law_turned (news_nil gr9 NL) LS9 hsne2 v1 v2 v3
          refine hQ _ _ (lturn_fin gr2 (fr_nil gr9 FL) N' hI' ⟨⟨S, e, LS'⟩, ?_⟩)
          repeat (first | exact keepN_base | refine keepN_if (by decide) ?_)
        case ca =>
          dsimp only [CutPof]
          clear hQ v1 v2 v3
          refine wpAny_If (cutA (CutBof F11 w (lawHs2 nm dx (namesD u1 u2 k1 k2 n9 sl tl) itO itO2 I I2) src sl tl tb rw (j + 1) S e s₁) ?cc ?ck)
          case cc =>
            dsimp only [CutBof]
            have nS := off_src (x := itO) ne0 hsne2
            dsimp only [lawHs2, List.cons_append, List.nil_append] at nS
            obtain ⟨so2, n1, n2, n3, n4, psO2, psA2, CO2, CA2, Z2, rfl, hso2, hSb, hSe, hE, TO2, TA2, hCO2, hCA2, hz, hsZ2⟩ := LS3
            have z1 := hz.1
            dsimp only [lawHs2, lawHd, List.cons_append, List.nil_append] at N12
            rcases nil_or_snoc S with rfl | ⟨S', e', rfl⟩
            · have hl1 : (List.map (fun x => Value.ref x.t) ([] : List Ent)).length = 0 := rfl
              w_strict k_steps
              all_goals (try dsimp only)
              (rename Fr _ _ _ _ => FB); (rename News _ _ _ _ => NB)
              exact ⟨_, _, _, rfl, FB, NB, ⟨_, n1, n2, n3, n4, psO2, psA2, CO2, CA2, Z2, rfl, by assumption, hSb, hSe, hE, TO2, TA2, hCO2, hCA2, hz, hsZ2⟩, fun h => absurd h (by decide)⟩
            · have hl1 : (List.map (fun x => Value.ref x.t) (S' ++ [e'])).length = S'.length + 1 := by simp
              have hl3 : S'.length + 1 < j + 1 := by simpa using hSb
              w_strict k_steps
              all_goals (try dsimp only)
              all_goals
                (rename Fr _ _ _ _ => FB); (rename News _ _ _ _ => NB)
                exact ⟨_, _, _, rfl, FB, NB, ⟨_, n1, n2, n3, n4, psO2, psA2, CO2, CA2, Z2, rfl, by assumption, hSb, hSe, hE, TO2, TA2, hCO2, hCA2, hz, hsZ2⟩, fun _ => ⟨S', e', rfl⟩⟩
          case ck =>
            dsimp only [CutBof]
            clear F11 N12 LS3
            rintro v s' ⟨h', tk', news, rfl, F12, N12, LS, hv⟩
            cases v with
            | true =>
              obtain ⟨S', e', rfl⟩ := hv rfl
              have nT := off_tb (x := itO) ne0 hsne2
              have nR := off_rw (x := itO) ne0 hsne2
              dsimp only [lawHs2, List.cons_append, List.nil_append] at nT nR
              obtain ⟨so2, n1, n2, n3, n4, psO2, psA2, CO2, CA2, Z2, rfl, hso2, hSb, hSe, hE, TO2, TA2, hCO2, hCA2, hz, hsZ2⟩ := LS
              have z4 := hz.2.2.2.1
              have z5 := hz.2.2.2.2.1
              have hl1 : (List.map (fun x => Value.ref x.t) (S' ++ [e'])).length = S'.length + 1 := by simp
              have hl2 : (List.map (fun x => Value.ref x.rr) (S' ++ [e'])).length = S'.length + 1 := by simp
              have hl3 : S'.length + 1 < j + 1 := by simpa using hSb
              dsimp only [lawHs2, lawHd, List.cons_append, List.nil_append] at N12
              w_strict k_steps
              all_goals (try dsimp only)
              (rename Fr _ _ _ _ => FB); (rename News _ _ _ _ => NB)
              refine leave_inv (hs := (lawHs2 nm dx (namesD u1 u2 k1 k2 n9 sl tl) itO itO2 I I2)) (S := S') (e' := e') (e := e) B FB NB X T rfl rfl ne0 hsne2 hnm2 hz.2.1 hz.2.2.1 hSb (by omega) (by decide) (by decide) fun h9 tk9 FC NC => ?_
              dsimp only [lawHs2, List.cons_append, List.nil_append] at NC
              clear FB NB
              w_strict k_steps
              all_goals (try dsimp only)
              (rename Fr _ _ _ _ => FD); (rename News _ _ _ _ => ND)
              simp only [List.map_append, List.map_cons, List.map_nil] at ND
              exact ⟨_, _, S', e', _, rfl, FD, ND, _, n1 + 1, n2 + 1, _, _, psO2, psA2, CO2, CA2, Z2, rfl, hso2, by simp at hSb; omega, fun x hx => (hSe x (List.mem_append_left _ hx)).mono (fun _ h => h) (Nat.le_succ _), (hSe e' (List.mem_append_right _ (.head _))).mono (fun _ h => h) (Nat.le_succ _), TO2, TA2, hCO2, hCA2, hz, hsZ2⟩
            | false =>
              clear hv
              w_strict k_steps
              all_goals (try dsimp only)
              (rename Fr _ _ _ _ => FB); (rename News _ _ _ _ => NB)
              refine opened_inv B (fun _ _ h _ => h) FB NB X T rfl rfl (hs := (lawHs2 nm dx (namesD u1 u2 k1 k2 n9 sl tl) itO itO2 I I2)) LS ne0 hsne2 hnm2 (by omega) (by decide) (by decide) fun S9 e9 h9 tk9 g9 news9 gr9 F9 N9 LS9 => ?_
              clear FB NB
              w_strict k_steps
              all_goals (try dsimp only)
              exact ⟨_, _, _, _, _, rfl, fr_nil gr9 F9, news_nil gr9 N9, LS9⟩
end part50_law
end Mine
theorem PySem.Challenge.cw_nu0058_01_holds : PySem.Challenge.rw_nu0058_01.Holds :=
  Mine.lawHolds
