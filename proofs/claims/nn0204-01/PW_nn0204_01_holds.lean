import PyProof.Rows.All
import Wide.All
import OpenK.AllK
import Wide.FinOn
import PySem.Challenge.RW_nn0204_01
open PySem PySem.W PyProof.Rows PySem.Spec PySem.Calls
set_option Elab.async false
set_option maxRecDepth 100000
set_option maxHeartbeats 8000000
set_option compiler.extract_closed false
namespace Mine
-- P00head
/-- the text's own parts, read off the row -/
def topAt (i : Nat) : Option Stmt := PySem.Challenge.pw_nn0204_01.main.body[i]?
def fnAt (i : Nat) (j : Option Nat) : Option Stmt := match j with
  | none => topAt i
  | some j => match topAt i with
    | some (.ClassDef _ _ _ b _ _ _ _ _ _ _) => b[j]?
    | _ => none
def fnP (i : Nat) (j : Option Nat) : Arguments := match fnAt i j with
  | some (.FunctionDef _ a _ _ _ _ _ _ _ _) => a
  | _ => { posonlyargs := [], args := [], vararg := none, kwonlyargs := [], kw_defaults := [], kwarg := none, defaults := [] }
def fnB (i : Nat) (j : Option Nat) : FuncBody := match fnAt i j with
  | some (.FunctionDef _ _ b _ _ _ _ _ _ _) => .stmts b
  | _ => .stmts []
def fnS (i : Nat) (j : Option Nat) : Scope := match fnAt i j with
  | some (.FunctionDef _ _ _ _ _ _ sc _ _ _) => sc
  | _ => { kind := .module, names := [], isGenerator := false, isCoroutine := false }
def keptOf (l : List Stmt) : List Nat → List Stmt
  | [] => []
  | i :: r => match l[i]? with
    | some s => s :: keptOf l r
    | none => keptOf l r
/-- the row's program, the statements that the head keeps -/
noncomputable def hd.view_39 : Program := { PySem.Challenge.pw_nn0204_01 with main := { PySem.Challenge.pw_nn0204_01.main with body := keptOf PySem.Challenge.pw_nn0204_01.main.body [0, 2, 4, 5, 6, 7, 8, 9, 11, 12, 13, 14, 15, 16, 17, 18, 19, 21, 22, 23, 24, 25, 26, 27, 28, 29, 30, 31, 32, 33] } }
/-- what the top has made -/
noncomputable def hd.heap_39 (P : Params) : Frag :=
(nat_lit 2,
  { cls := PySem.Value.none,
    data :=
      PySem.Data.dict
        #[{ hash := PySem.PyData.keyHash P (PySem.Str.ofString "type.__subclasses__.Exception.0"),
            key := PySem.Value.str (PySem.Str.ofString "type.__subclasses__.Exception.0") 232,
            val := PySem.Value.int 46 0 },
          { hash := PySem.PyData.keyHash P (PySem.Str.ofString "type.__subclasses__.Exception.n"),
            key := PySem.Value.str (PySem.Str.ofString "type.__subclasses__.Exception.n") 233,
            val := PySem.Value.int 1 0 }]
        2 }) ::
(nat_lit 3,
  { cls := PySem.Value.type "dict",
    data :=
      PySem.Data.dict
        #[{ hash := PySem.PyData.keyHash P (PySem.Str.ofString "__name__"),
            key := PySem.Value.str (PySem.Str.ofString "__name__") 165,
            val := PySem.Value.str (PySem.Str.ofString "law_nn0204_01") 558 },
          { hash := PySem.PyData.keyHash P (PySem.Str.ofString "__doc__"),
            key := PySem.Value.str (PySem.Str.ofString "__doc__") 166, val := PySem.Value.none },
          { hash := PySem.PyData.keyHash P (PySem.Str.ofString "__package__"),
            key := PySem.Value.str (PySem.Str.ofString "__package__") 167, val := PySem.Value.none },
          { hash := PySem.PyData.keyHash P (PySem.Str.ofString "__loader__"),
            key := PySem.Value.str (PySem.Str.ofString "__loader__") 168,
            val := PySem.Value.builtin "__main__.__loader__#opaque" },
          { hash := PySem.PyData.keyHash P (PySem.Str.ofString "__spec__"),
            key := PySem.Value.str (PySem.Str.ofString "__spec__") 169, val := PySem.Value.none },
          { hash := PySem.PyData.keyHash P (PySem.Str.ofString "__annotations__"),
            key := PySem.Value.str (PySem.Str.ofString "__annotations__") 170, val := PySem.Value.ref 6 },
          { hash := PySem.PyData.keyHash P (PySem.Str.ofString "__builtins__"),
            key := PySem.Value.str (PySem.Str.ofString "__builtins__") 171, val := PySem.Value.ref 4 },
          { hash := PySem.PyData.keyHash P (PySem.Str.ofString "__file__"),
            key := PySem.Value.str (PySem.Str.ofString "__file__") 173,
            val := PySem.Value.str (PySem.Str.ofString "/claim/cut.py") 172 },
          { hash := PySem.PyData.keyHash P (PySem.Str.ofString "__cached__"),
            key := PySem.Value.str (PySem.Str.ofString "__cached__") 174, val := PySem.Value.none },
          { hash := PySem.PyData.keyHash P (PySem.Str.ofString "_wall"),
            key := PySem.Value.str (PySem.Str.ofString "_wall") 193, val := PySem.Value.ref 21 },
          { hash := PySem.PyData.keyHash P (PySem.Str.ofString "PaperError"),
            key := PySem.Value.str (PySem.Str.ofString "PaperError") 235, val := PySem.Value.ref 46 },
          { hash := PySem.PyData.keyHash P (PySem.Str.ofString "Decimal"),
            key := PySem.Value.str (PySem.Str.ofString "Decimal") 360, val := PySem.Value.ref 143 },
          { hash := PySem.PyData.keyHash P (PySem.Str.ofString "sign_of"),
            key := PySem.Value.str (PySem.Str.ofString "sign_of") 367, val := PySem.Value.ref 154 },
          { hash := PySem.PyData.keyHash P (PySem.Str.ofString "decimal_of"),
            key := PySem.Value.str (PySem.Str.ofString "decimal_of") 374, val := PySem.Value.ref 161 },
          { hash := PySem.PyData.keyHash P (PySem.Str.ofString "at_one_scale"),
            key := PySem.Value.str (PySem.Str.ofString "at_one_scale") 385, val := PySem.Value.ref 168 },
          { hash := PySem.PyData.keyHash P (PySem.Str.ofString "least"),
            key := PySem.Value.str (PySem.Str.ofString "least") 394, val := PySem.Value.ref 175 },
          { hash := PySem.PyData.keyHash P (PySem.Str.ofString "greatest"),
            key := PySem.Value.str (PySem.Str.ofString "greatest") 403, val := PySem.Value.ref 182 },
          { hash := PySem.PyData.keyHash P (PySem.Str.ofString "Matrix"),
            key := PySem.Value.str (PySem.Str.ofString "Matrix") 491, val := PySem.Value.ref 232 },
          { hash := PySem.PyData.keyHash P (PySem.Str.ofString "is_straight"),
            key := PySem.Value.str (PySem.Str.ofString "is_straight") 498, val := PySem.Value.ref 243 },
          { hash := PySem.PyData.keyHash P (PySem.Str.ofString "box_of"),
            key := PySem.Value.str (PySem.Str.ofString "box_of") 504, val := PySem.Value.ref 248 },
          { hash := PySem.PyData.keyHash P (PySem.Str.ofString "box_from_array"),
            key := PySem.Value.str (PySem.Str.ofString "box_from_array") 511, val := PySem.Value.ref 255 },
          { hash := PySem.PyData.keyHash P (PySem.Str.ofString "corners_of"),
            key := PySem.Value.str (PySem.Str.ofString "corners_of") 522, val := PySem.Value.ref 262 },
          { hash := PySem.PyData.keyHash P (PySem.Str.ofString "transformed_box"),
            key := PySem.Value.str (PySem.Str.ofString "transformed_box") 528, val := PySem.Value.ref 267 },
          { hash := PySem.PyData.keyHash P (PySem.Str.ofString "box_size"),
            key := PySem.Value.str (PySem.Str.ofString "box_size") 535, val := PySem.Value.ref 274 },
          { hash := PySem.PyData.keyHash P (PySem.Str.ofString "is_in_box"),
            key := PySem.Value.str (PySem.Str.ofString "is_in_box") 545, val := PySem.Value.ref 281 },
          { hash := PySem.PyData.keyHash P (PySem.Str.ofString "common_box"),
            key := PySem.Value.str (PySem.Str.ofString "common_box") 557, val := PySem.Value.ref 288 },
          { hash := PySem.PyData.keyHash P (PySem.Str.ofString "_law_pen"),
            key := PySem.Value.str (PySem.Str.ofString "_law_pen") 565, val := PySem.Value.ref 293 },
          { hash := PySem.PyData.keyHash P (PySem.Str.ofString "_law_draw"),
            key := PySem.Value.str (PySem.Str.ofString "_law_draw") 578, val := PySem.Value.ref 300 },
          { hash := PySem.PyData.keyHash P (PySem.Str.ofString "_law_number"),
            key := PySem.Value.str (PySem.Str.ofString "_law_number") 587, val := PySem.Value.ref 307 },
          { hash := PySem.PyData.keyHash P (PySem.Str.ofString "_law_six"),
            key := PySem.Value.str (PySem.Str.ofString "_law_six") 593, val := PySem.Value.ref 312 },
          { hash := PySem.PyData.keyHash P (PySem.Str.ofString "_law_told"),
            key := PySem.Value.str (PySem.Str.ofString "_law_told") 602, val := PySem.Value.ref 319 },
          { hash := PySem.PyData.keyHash P (PySem.Str.ofString "_law_matrix"),
            key := PySem.Value.str (PySem.Str.ofString "_law_matrix") 609, val := PySem.Value.ref 326 },
          { hash := PySem.PyData.keyHash P (PySem.Str.ofString "_law_frame"),
            key := PySem.Value.str (PySem.Str.ofString "_law_frame") 615, val := PySem.Value.ref 331 },
          { hash := PySem.PyData.keyHash P (PySem.Str.ofString "_law_sides"),
            key := PySem.Value.str (PySem.Str.ofString "_law_sides") 622, val := PySem.Value.ref 338 },
          { hash := PySem.PyData.keyHash P (PySem.Str.ofString "_law_frame_told"),
            key := PySem.Value.str (PySem.Str.ofString "_law_frame_told") 628, val := PySem.Value.ref 343 },
          { hash := PySem.PyData.keyHash P (PySem.Str.ofString "_law_goes"),
            key := PySem.Value.str (PySem.Str.ofString "_law_goes") 637, val := PySem.Value.ref 350 },
          { hash := PySem.PyData.keyHash P (PySem.Str.ofString "_law_is_refused"),
            key := PySem.Value.str (PySem.Str.ofString "_law_is_refused") 646, val := PySem.Value.ref 357 },
          { hash := PySem.PyData.keyHash P (PySem.Str.ofString "_law_shared_told"),
            key := PySem.Value.str (PySem.Str.ofString "_law_shared_told") 658, val := PySem.Value.ref 364 },
          { hash := PySem.PyData.keyHash P (PySem.Str.ofString "law"),
            key := PySem.Value.str (PySem.Str.ofString "law") 664, val := PySem.Value.ref 369 }]
        39 }) ::
(nat_lit 15, { cls := PySem.Value.type "tuple", data := PySem.Data.seq #[] }) ::
(nat_lit 17, { cls := PySem.Value.type "tuple", data := PySem.Data.seq #[PySem.Value.str (PySem.Str.ofString "k") 190] }) ::
(nat_lit 18, { cls := PySem.Value.type "tuple", data := PySem.Data.seq #[] }) ::
(nat_lit 20,
  { cls := PySem.Value.type "code",
    data :=
      PySem.Data.fields
        #[PySem.Value.str (PySem.Str.ofString "_wall") 187, PySem.Value.str (PySem.Str.ofString "_wall") 188,
          PySem.Value.str (PySem.Str.ofString "/claim/cut.py") 189, PySem.Value.int 1 0, PySem.Value.int 1 0,
          PySem.Value.int 0 0, PySem.Value.int 0 0, PySem.Value.int 3 0, PySem.Value.ref 15, PySem.Value.bool Bool.true,
          PySem.Value.int 181 0, PySem.Value.ref 16, PySem.Value.none, PySem.Value.ref 17, PySem.Value.ref 18,
          PySem.Value.ref 19, PySem.Value.int 191 0, PySem.Value.int 1 0,
          PySem.Value.str (PySem.Str.ofString "/claim/cut.py") 192] }) ::
(nat_lit 21,
  { cls := PySem.Value.type "function",
    data :=
      PySem.Data.func
        { name := PySem.Str.ofString "_wall", qualname := PySem.Str.ofString "_wall", params := (fnP 0 none), body := (fnB 0 none),
          scope := (fnS 0 none), globals := 3, closure := [], defaults := PySem.Value.none, kwdefaults := PySem.Value.none,
          pyModule := PySem.Value.str (PySem.Str.ofString "__main__") 164, code := PySem.Value.ref 20 } }) ::
(nat_lit 22, { cls := PySem.Value.type "tuple", data := PySem.Data.seq #[PySem.Value.type "Exception"] }) ::
(nat_lit 29, { cls := PySem.Value.type "tuple", data := PySem.Data.seq #[PySem.Value.int (-1) 209] }) ::
(nat_lit 30, { cls := PySem.Value.type "tuple", data := PySem.Data.seq #[] }) ::
(nat_lit 32,
  { cls := PySem.Value.type "tuple",
    data :=
      PySem.Data.seq
        #[PySem.Value.str (PySem.Str.ofString "self") 213, PySem.Value.str (PySem.Str.ofString "what") 214,
          PySem.Value.str (PySem.Str.ofString "at") 215] }) ::
(nat_lit 33, { cls := PySem.Value.type "tuple", data := PySem.Data.seq #[] }) ::
(nat_lit 35,
  { cls := PySem.Value.type "code",
    data :=
      PySem.Data.fields
        #[PySem.Value.str (PySem.Str.ofString "__init__") 210,
          PySem.Value.str (PySem.Str.ofString "PaperError.__init__") 211,
          PySem.Value.str (PySem.Str.ofString "/claim/cut.py") 212, PySem.Value.int 7 0, PySem.Value.int 3 0,
          PySem.Value.int 0 0, PySem.Value.int 0 0, PySem.Value.int 3 0, PySem.Value.ref 30, PySem.Value.bool Bool.true,
          PySem.Value.int 181 0, PySem.Value.ref 31, PySem.Value.none, PySem.Value.ref 32, PySem.Value.ref 33,
          PySem.Value.ref 34, PySem.Value.int 216 0, PySem.Value.int 7 0,
          PySem.Value.str (PySem.Str.ofString "/claim/cut.py") 217] }) ::
(nat_lit 36,
  { cls := PySem.Value.type "function",
    data :=
      PySem.Data.func
        { name := PySem.Str.ofString "__init__", qualname := PySem.Str.ofString "PaperError.__init__", params := (fnP 2 (some 0)),
          body := (fnB 2 (some 0)), scope := (fnS 2 (some 0)), globals := 3, closure := [], defaults := PySem.Value.ref 29,
          kwdefaults := PySem.Value.none, pyModule := PySem.Value.str (PySem.Str.ofString "paperhold.errors") 194,
          code := PySem.Value.ref 35 } }) ::
(nat_lit 37, { cls := PySem.Value.type "tuple", data := PySem.Data.seq #[] }) ::
(nat_lit 39, { cls := PySem.Value.type "tuple", data := PySem.Data.seq #[PySem.Value.str (PySem.Str.ofString "self") 222] }) ::
(nat_lit 40, { cls := PySem.Value.type "tuple", data := PySem.Data.seq #[] }) ::
(nat_lit 42,
  { cls := PySem.Value.type "code",
    data :=
      PySem.Data.fields
        #[PySem.Value.str (PySem.Str.ofString "told") 219, PySem.Value.str (PySem.Str.ofString "PaperError.told") 220,
          PySem.Value.str (PySem.Str.ofString "/claim/cut.py") 221, PySem.Value.int 12 0, PySem.Value.int 1 0,
          PySem.Value.int 0 0, PySem.Value.int 0 0, PySem.Value.int 3 0, PySem.Value.ref 37, PySem.Value.bool Bool.true,
          PySem.Value.int 181 0, PySem.Value.ref 38, PySem.Value.none, PySem.Value.ref 39, PySem.Value.ref 40,
          PySem.Value.ref 41, PySem.Value.int 223 0, PySem.Value.int 12 0,
          PySem.Value.str (PySem.Str.ofString "/claim/cut.py") 224] }) ::
(nat_lit 43,
  { cls := PySem.Value.type "function",
    data :=
      PySem.Data.func
        { name := PySem.Str.ofString "told", qualname := PySem.Str.ofString "PaperError.told", params := (fnP 2 (some 1)),
          body := (fnB 2 (some 1)), scope := (fnS 2 (some 1)), globals := 3, closure := [], defaults := PySem.Value.none,
          kwdefaults := PySem.Value.none, pyModule := PySem.Value.str (PySem.Str.ofString "paperhold.errors") 194,
          code := PySem.Value.ref 42 } }) ::
(nat_lit 44,
  { cls := PySem.Value.type "tuple",
    data :=
      PySem.Data.seq
        #[PySem.Value.str (PySem.Str.ofString "at") 226, PySem.Value.str (PySem.Str.ofString "what") 227] }) ::
(nat_lit 45,
  { cls := PySem.Value.type "dict",
    data :=
      PySem.Data.dict
        #[{ hash := PySem.PyData.keyHash P (PySem.Str.ofString "__module__"),
            key := PySem.Value.str (PySem.Str.ofString "__module__") 203,
            val := PySem.Value.str (PySem.Str.ofString "paperhold.errors") 194 },
          { hash := PySem.PyData.keyHash P (PySem.Str.ofString "__firstlineno__"),
            key := PySem.Value.str (PySem.Str.ofString "__firstlineno__") 207, val := PySem.Value.int 5 206 },
          { hash := PySem.PyData.keyHash P (PySem.Str.ofString "__init__"),
            key := PySem.Value.str (PySem.Str.ofString "__init__") 218, val := PySem.Value.ref 36 },
          { hash := PySem.PyData.keyHash P (PySem.Str.ofString "told"),
            key := PySem.Value.str (PySem.Str.ofString "told") 225, val := PySem.Value.ref 43 },
          { hash := PySem.PyData.keyHash P (PySem.Str.ofString "__static_attributes__"),
            key := PySem.Value.str (PySem.Str.ofString "__static_attributes__") 228, val := PySem.Value.ref 44 },
          { hash := PySem.PyData.keyHash P (PySem.Str.ofString "__weakref__"),
            key := PySem.Value.str (PySem.Str.ofString "__weakref__") 230, val := PySem.Value.ref 47 },
          { hash := PySem.PyData.keyHash P (PySem.Str.ofString "__doc__"),
            key := PySem.Value.str (PySem.Str.ofString "__doc__") 231, val := PySem.Value.none }]
        3 }) ::
(nat_lit 46,
  { cls := PySem.Value.type "type",
    data :=
      PySem.Data.cls
        { name := PySem.Str.ofString "PaperError", bases := [PySem.Value.type "Exception"],
          mro :=
            [PySem.Value.ref 46, PySem.Value.type "Exception", PySem.Value.type "BaseException",
              PySem.Value.type "object"],
          ns := 45, qualname := PySem.Str.ofString "PaperError" },
    slots :=
      #[Option.some (PySem.Value.ref 22), Option.none,
        Option.some (PySem.Value.str (PySem.Str.ofString "PaperError") 196),
        Option.some (PySem.Value.str (PySem.Str.ofString "PaperError") 204),
        Option.some (PySem.Value.builtin "Exception.__new__"), Option.some (PySem.Value.bool Bool.true)] }) ::
(nat_lit 47,
  { cls := PySem.Value.type "getset_descriptor",
    data :=
      PySem.Data.fields
        #[PySem.Value.str (PySem.Str.ofString "__weakref__") 229, PySem.Value.ref 46,
          PySem.Value.builtin "ExceptionGroup.__weakref__", PySem.Value.none] }) ::
(nat_lit 57, { cls := PySem.Value.type "tuple", data := PySem.Data.seq #[] }) ::
(nat_lit 59,
  { cls := PySem.Value.type "tuple",
    data :=
      PySem.Data.seq
        #[PySem.Value.str (PySem.Str.ofString "self") 253, PySem.Value.str (PySem.Str.ofString "top") 254,
          PySem.Value.str (PySem.Str.ofString "places") 255] }) ::
(nat_lit 60, { cls := PySem.Value.type "tuple", data := PySem.Data.seq #[] }) ::
(nat_lit 62,
  { cls := PySem.Value.type "code",
    data :=
      PySem.Data.fields
        #[PySem.Value.str (PySem.Str.ofString "__init__") 250,
          PySem.Value.str (PySem.Str.ofString "Decimal.__init__") 251,
          PySem.Value.str (PySem.Str.ofString "/claim/cut.py") 252, PySem.Value.int 17 0, PySem.Value.int 3 0,
          PySem.Value.int 0 0, PySem.Value.int 0 0, PySem.Value.int 3 0, PySem.Value.ref 57, PySem.Value.bool Bool.true,
          PySem.Value.int 181 0, PySem.Value.ref 58, PySem.Value.none, PySem.Value.ref 59, PySem.Value.ref 60,
          PySem.Value.ref 61, PySem.Value.int 256 0, PySem.Value.int 17 0,
          PySem.Value.str (PySem.Str.ofString "/claim/cut.py") 257] }) ::
(nat_lit 63,
  { cls := PySem.Value.type "function",
    data :=
      PySem.Data.func
        { name := PySem.Str.ofString "__init__", qualname := PySem.Str.ofString "Decimal.__init__", params := (fnP 4 (some 0)),
          body := (fnB 4 (some 0)), scope := (fnS 4 (some 0)), globals := 3, closure := [], defaults := PySem.Value.none,
          kwdefaults := PySem.Value.none, pyModule := PySem.Value.str (PySem.Str.ofString "paperhold.decimals") 236,
          code := PySem.Value.ref 62 } }) ::
(nat_lit 64, { cls := PySem.Value.type "tuple", data := PySem.Data.seq #[] }) ::
(nat_lit 66,
  { cls := PySem.Value.type "tuple",
    data :=
      PySem.Data.seq
        #[PySem.Value.str (PySem.Str.ofString "self") 262, PySem.Value.str (PySem.Str.ofString "other") 263,
          PySem.Value.str (PySem.Str.ofString "one") 264, PySem.Value.str (PySem.Str.ofString "two") 265,
          PySem.Value.str (PySem.Str.ofString "places") 266] }) ::
(nat_lit 67, { cls := PySem.Value.type "tuple", data := PySem.Data.seq #[] }) ::
(nat_lit 69,
  { cls := PySem.Value.type "code",
    data :=
      PySem.Data.fields
        #[PySem.Value.str (PySem.Str.ofString "plus") 259, PySem.Value.str (PySem.Str.ofString "Decimal.plus") 260,
          PySem.Value.str (PySem.Str.ofString "/claim/cut.py") 261, PySem.Value.int 24 0, PySem.Value.int 2 0,
          PySem.Value.int 0 0, PySem.Value.int 0 0, PySem.Value.int 3 0, PySem.Value.ref 64, PySem.Value.bool Bool.true,
          PySem.Value.int 181 0, PySem.Value.ref 65, PySem.Value.none, PySem.Value.ref 66, PySem.Value.ref 67,
          PySem.Value.ref 68, PySem.Value.int 267 0, PySem.Value.int 24 0,
          PySem.Value.str (PySem.Str.ofString "/claim/cut.py") 268] }) ::
(nat_lit 70,
  { cls := PySem.Value.type "function",
    data :=
      PySem.Data.func
        { name := PySem.Str.ofString "plus", qualname := PySem.Str.ofString "Decimal.plus", params := (fnP 4 (some 1)),
          body := (fnB 4 (some 1)), scope := (fnS 4 (some 1)), globals := 3, closure := [], defaults := PySem.Value.none,
          kwdefaults := PySem.Value.none, pyModule := PySem.Value.str (PySem.Str.ofString "paperhold.decimals") 236,
          code := PySem.Value.ref 69 } }) ::
(nat_lit 71, { cls := PySem.Value.type "tuple", data := PySem.Data.seq #[] }) ::
(nat_lit 73,
  { cls := PySem.Value.type "tuple",
    data :=
      PySem.Data.seq
        #[PySem.Value.str (PySem.Str.ofString "self") 273, PySem.Value.str (PySem.Str.ofString "other") 274,
          PySem.Value.str (PySem.Str.ofString "one") 275, PySem.Value.str (PySem.Str.ofString "two") 276,
          PySem.Value.str (PySem.Str.ofString "places") 277] }) ::
(nat_lit 74, { cls := PySem.Value.type "tuple", data := PySem.Data.seq #[] }) ::
(nat_lit 76,
  { cls := PySem.Value.type "code",
    data :=
      PySem.Data.fields
        #[PySem.Value.str (PySem.Str.ofString "minus") 270, PySem.Value.str (PySem.Str.ofString "Decimal.minus") 271,
          PySem.Value.str (PySem.Str.ofString "/claim/cut.py") 272, PySem.Value.int 28 0, PySem.Value.int 2 0,
          PySem.Value.int 0 0, PySem.Value.int 0 0, PySem.Value.int 3 0, PySem.Value.ref 71, PySem.Value.bool Bool.true,
          PySem.Value.int 181 0, PySem.Value.ref 72, PySem.Value.none, PySem.Value.ref 73, PySem.Value.ref 74,
          PySem.Value.ref 75, PySem.Value.int 278 0, PySem.Value.int 28 0,
          PySem.Value.str (PySem.Str.ofString "/claim/cut.py") 279] }) ::
(nat_lit 77,
  { cls := PySem.Value.type "function",
    data :=
      PySem.Data.func
        { name := PySem.Str.ofString "minus", qualname := PySem.Str.ofString "Decimal.minus", params := (fnP 4 (some 2)),
          body := (fnB 4 (some 2)), scope := (fnS 4 (some 2)), globals := 3, closure := [], defaults := PySem.Value.none,
          kwdefaults := PySem.Value.none, pyModule := PySem.Value.str (PySem.Str.ofString "paperhold.decimals") 236,
          code := PySem.Value.ref 76 } }) ::
(nat_lit 78, { cls := PySem.Value.type "tuple", data := PySem.Data.seq #[] }) ::
(nat_lit 80,
  { cls := PySem.Value.type "tuple",
    data :=
      PySem.Data.seq
        #[PySem.Value.str (PySem.Str.ofString "self") 284, PySem.Value.str (PySem.Str.ofString "other") 285,
          PySem.Value.str (PySem.Str.ofString "factor") 286] }) ::
(nat_lit 81, { cls := PySem.Value.type "tuple", data := PySem.Data.seq #[] }) ::
(nat_lit 83,
  { cls := PySem.Value.type "code",
    data :=
      PySem.Data.fields
        #[PySem.Value.str (PySem.Str.ofString "times") 281, PySem.Value.str (PySem.Str.ofString "Decimal.times") 282,
          PySem.Value.str (PySem.Str.ofString "/claim/cut.py") 283, PySem.Value.int 32 0, PySem.Value.int 2 0,
          PySem.Value.int 0 0, PySem.Value.int 0 0, PySem.Value.int 3 0, PySem.Value.ref 78, PySem.Value.bool Bool.true,
          PySem.Value.int 181 0, PySem.Value.ref 79, PySem.Value.none, PySem.Value.ref 80, PySem.Value.ref 81,
          PySem.Value.ref 82, PySem.Value.int 287 0, PySem.Value.int 32 0,
          PySem.Value.str (PySem.Str.ofString "/claim/cut.py") 288] }) ::
(nat_lit 84,
  { cls := PySem.Value.type "function",
    data :=
      PySem.Data.func
        { name := PySem.Str.ofString "times", qualname := PySem.Str.ofString "Decimal.times", params := (fnP 4 (some 3)),
          body := (fnB 4 (some 3)), scope := (fnS 4 (some 3)), globals := 3, closure := [], defaults := PySem.Value.none,
          kwdefaults := PySem.Value.none, pyModule := PySem.Value.str (PySem.Str.ofString "paperhold.decimals") 236,
          code := PySem.Value.ref 83 } }) ::
(nat_lit 85, { cls := PySem.Value.type "tuple", data := PySem.Data.seq #[] }) ::
(nat_lit 87, { cls := PySem.Value.type "tuple", data := PySem.Data.seq #[PySem.Value.str (PySem.Str.ofString "self") 293] }) ::
(nat_lit 88, { cls := PySem.Value.type "tuple", data := PySem.Data.seq #[] }) ::
(nat_lit 90,
  { cls := PySem.Value.type "code",
    data :=
      PySem.Data.fields
        #[PySem.Value.str (PySem.Str.ofString "negated") 290,
          PySem.Value.str (PySem.Str.ofString "Decimal.negated") 291,
          PySem.Value.str (PySem.Str.ofString "/claim/cut.py") 292, PySem.Value.int 36 0, PySem.Value.int 1 0,
          PySem.Value.int 0 0, PySem.Value.int 0 0, PySem.Value.int 3 0, PySem.Value.ref 85, PySem.Value.bool Bool.true,
          PySem.Value.int 181 0, PySem.Value.ref 86, PySem.Value.none, PySem.Value.ref 87, PySem.Value.ref 88,
          PySem.Value.ref 89, PySem.Value.int 294 0, PySem.Value.int 36 0,
          PySem.Value.str (PySem.Str.ofString "/claim/cut.py") 295] }) ::
(nat_lit 91,
  { cls := PySem.Value.type "function",
    data :=
      PySem.Data.func
        { name := PySem.Str.ofString "negated", qualname := PySem.Str.ofString "Decimal.negated", params := (fnP 4 (some 4)),
          body := (fnB 4 (some 4)), scope := (fnS 4 (some 4)), globals := 3, closure := [], defaults := PySem.Value.none,
          kwdefaults := PySem.Value.none, pyModule := PySem.Value.str (PySem.Str.ofString "paperhold.decimals") 236,
          code := PySem.Value.ref 90 } }) ::
(nat_lit 92, { cls := PySem.Value.type "tuple", data := PySem.Data.seq #[] }) ::
(nat_lit 94,
  { cls := PySem.Value.type "tuple",
    data :=
      PySem.Data.seq
        #[PySem.Value.str (PySem.Str.ofString "self") 300, PySem.Value.str (PySem.Str.ofString "other") 301,
          PySem.Value.str (PySem.Str.ofString "one") 302, PySem.Value.str (PySem.Str.ofString "two") 303,
          PySem.Value.str (PySem.Str.ofString "places") 304] }) ::
(nat_lit 95, { cls := PySem.Value.type "tuple", data := PySem.Data.seq #[] }) ::
(nat_lit 97,
  { cls := PySem.Value.type "code",
    data :=
      PySem.Data.fields
        #[PySem.Value.str (PySem.Str.ofString "compared") 297,
          PySem.Value.str (PySem.Str.ofString "Decimal.compared") 298,
          PySem.Value.str (PySem.Str.ofString "/claim/cut.py") 299, PySem.Value.int 39 0, PySem.Value.int 2 0,
          PySem.Value.int 0 0, PySem.Value.int 0 0, PySem.Value.int 3 0, PySem.Value.ref 92, PySem.Value.bool Bool.true,
          PySem.Value.int 181 0, PySem.Value.ref 93, PySem.Value.none, PySem.Value.ref 94, PySem.Value.ref 95,
          PySem.Value.ref 96, PySem.Value.int 305 0, PySem.Value.int 39 0,
          PySem.Value.str (PySem.Str.ofString "/claim/cut.py") 306] }) ::
(nat_lit 98,
  { cls := PySem.Value.type "function",
    data :=
      PySem.Data.func
        { name := PySem.Str.ofString "compared", qualname := PySem.Str.ofString "Decimal.compared", params := (fnP 4 (some 5)),
          body := (fnB 4 (some 5)), scope := (fnS 4 (some 5)), globals := 3, closure := [], defaults := PySem.Value.none,
          kwdefaults := PySem.Value.none, pyModule := PySem.Value.str (PySem.Str.ofString "paperhold.decimals") 236,
          code := PySem.Value.ref 97 } }) ::
(nat_lit 99, { cls := PySem.Value.type "tuple", data := PySem.Data.seq #[] }) ::
(nat_lit 101, { cls := PySem.Value.type "tuple", data := PySem.Data.seq #[PySem.Value.str (PySem.Str.ofString "self") 311] }) ::
(nat_lit 102, { cls := PySem.Value.type "tuple", data := PySem.Data.seq #[] }) ::
(nat_lit 104,
  { cls := PySem.Value.type "code",
    data :=
      PySem.Data.fields
        #[PySem.Value.str (PySem.Str.ofString "is_whole") 308,
          PySem.Value.str (PySem.Str.ofString "Decimal.is_whole") 309,
          PySem.Value.str (PySem.Str.ofString "/claim/cut.py") 310, PySem.Value.int 43 0, PySem.Value.int 1 0,
          PySem.Value.int 0 0, PySem.Value.int 0 0, PySem.Value.int 3 0, PySem.Value.ref 99, PySem.Value.bool Bool.true,
          PySem.Value.int 181 0, PySem.Value.ref 100, PySem.Value.none, PySem.Value.ref 101, PySem.Value.ref 102,
          PySem.Value.ref 103, PySem.Value.int 312 0, PySem.Value.int 43 0,
          PySem.Value.str (PySem.Str.ofString "/claim/cut.py") 313] }) ::
(nat_lit 105,
  { cls := PySem.Value.type "function",
    data :=
      PySem.Data.func
        { name := PySem.Str.ofString "is_whole", qualname := PySem.Str.ofString "Decimal.is_whole", params := (fnP 4 (some 6)),
          body := (fnB 4 (some 6)), scope := (fnS 4 (some 6)), globals := 3, closure := [], defaults := PySem.Value.none,
          kwdefaults := PySem.Value.none, pyModule := PySem.Value.str (PySem.Str.ofString "paperhold.decimals") 236,
          code := PySem.Value.ref 104 } }) ::
(nat_lit 106, { cls := PySem.Value.type "tuple", data := PySem.Data.seq #[] }) ::
(nat_lit 108, { cls := PySem.Value.type "tuple", data := PySem.Data.seq #[PySem.Value.str (PySem.Str.ofString "self") 318] }) ::
(nat_lit 109, { cls := PySem.Value.type "tuple", data := PySem.Data.seq #[] }) ::
(nat_lit 111,
  { cls := PySem.Value.type "code",
    data :=
      PySem.Data.fields
        #[PySem.Value.str (PySem.Str.ofString "floor") 315, PySem.Value.str (PySem.Str.ofString "Decimal.floor") 316,
          PySem.Value.str (PySem.Str.ofString "/claim/cut.py") 317, PySem.Value.int 46 0, PySem.Value.int 1 0,
          PySem.Value.int 0 0, PySem.Value.int 0 0, PySem.Value.int 3 0, PySem.Value.ref 106,
          PySem.Value.bool Bool.true, PySem.Value.int 181 0, PySem.Value.ref 107, PySem.Value.none, PySem.Value.ref 108,
          PySem.Value.ref 109, PySem.Value.ref 110, PySem.Value.int 319 0, PySem.Value.int 46 0,
          PySem.Value.str (PySem.Str.ofString "/claim/cut.py") 320] }) ::
(nat_lit 112,
  { cls := PySem.Value.type "function",
    data :=
      PySem.Data.func
        { name := PySem.Str.ofString "floor", qualname := PySem.Str.ofString "Decimal.floor", params := (fnP 4 (some 7)),
          body := (fnB 4 (some 7)), scope := (fnS 4 (some 7)), globals := 3, closure := [], defaults := PySem.Value.none,
          kwdefaults := PySem.Value.none, pyModule := PySem.Value.str (PySem.Str.ofString "paperhold.decimals") 236,
          code := PySem.Value.ref 111 } }) ::
(nat_lit 113, { cls := PySem.Value.type "tuple", data := PySem.Data.seq #[] }) ::
(nat_lit 115,
  { cls := PySem.Value.type "tuple",
    data :=
      PySem.Data.seq
        #[PySem.Value.str (PySem.Str.ofString "self") 325, PySem.Value.str (PySem.Str.ofString "places") 326] }) ::
(nat_lit 116, { cls := PySem.Value.type "tuple", data := PySem.Data.seq #[] }) ::
(nat_lit 118,
  { cls := PySem.Value.type "code",
    data :=
      PySem.Data.fields
        #[PySem.Value.str (PySem.Str.ofString "rounded") 322,
          PySem.Value.str (PySem.Str.ofString "Decimal.rounded") 323,
          PySem.Value.str (PySem.Str.ofString "/claim/cut.py") 324, PySem.Value.int 49 0, PySem.Value.int 2 0,
          PySem.Value.int 0 0, PySem.Value.int 0 0, PySem.Value.int 3 0, PySem.Value.ref 113,
          PySem.Value.bool Bool.true, PySem.Value.int 181 0, PySem.Value.ref 114, PySem.Value.none, PySem.Value.ref 115,
          PySem.Value.ref 116, PySem.Value.ref 117, PySem.Value.int 327 0, PySem.Value.int 49 0,
          PySem.Value.str (PySem.Str.ofString "/claim/cut.py") 328] }) ::
(nat_lit 119,
  { cls := PySem.Value.type "function",
    data :=
      PySem.Data.func
        { name := PySem.Str.ofString "rounded", qualname := PySem.Str.ofString "Decimal.rounded", params := (fnP 4 (some 8)),
          body := (fnB 4 (some 8)), scope := (fnS 4 (some 8)), globals := 3, closure := [], defaults := PySem.Value.none,
          kwdefaults := PySem.Value.none, pyModule := PySem.Value.str (PySem.Str.ofString "paperhold.decimals") 236,
          code := PySem.Value.ref 118 } }) ::
(nat_lit 120, { cls := PySem.Value.type "tuple", data := PySem.Data.seq #[] }) ::
(nat_lit 122, { cls := PySem.Value.type "tuple", data := PySem.Data.seq #[PySem.Value.str (PySem.Str.ofString "self") 333] }) ::
(nat_lit 123, { cls := PySem.Value.type "tuple", data := PySem.Data.seq #[] }) ::
(nat_lit 125,
  { cls := PySem.Value.type "code",
    data :=
      PySem.Data.fields
        #[PySem.Value.str (PySem.Str.ofString "told") 330, PySem.Value.str (PySem.Str.ofString "Decimal.told") 331,
          PySem.Value.str (PySem.Str.ofString "/claim/cut.py") 332, PySem.Value.int 52 0, PySem.Value.int 1 0,
          PySem.Value.int 0 0, PySem.Value.int 0 0, PySem.Value.int 3 0, PySem.Value.ref 120,
          PySem.Value.bool Bool.true, PySem.Value.int 181 0, PySem.Value.ref 121, PySem.Value.none, PySem.Value.ref 122,
          PySem.Value.ref 123, PySem.Value.ref 124, PySem.Value.int 334 0, PySem.Value.int 52 0,
          PySem.Value.str (PySem.Str.ofString "/claim/cut.py") 335] }) ::
(nat_lit 126,
  { cls := PySem.Value.type "function",
    data :=
      PySem.Data.func
        { name := PySem.Str.ofString "told", qualname := PySem.Str.ofString "Decimal.told", params := (fnP 4 (some 9)),
          body := (fnB 4 (some 9)), scope := (fnS 4 (some 9)), globals := 3, closure := [], defaults := PySem.Value.none,
          kwdefaults := PySem.Value.none, pyModule := PySem.Value.str (PySem.Str.ofString "paperhold.decimals") 236,
          code := PySem.Value.ref 125 } }) ::
(nat_lit 127, { cls := PySem.Value.type "tuple", data := PySem.Data.seq #[] }) ::
(nat_lit 129, { cls := PySem.Value.type "tuple", data := PySem.Data.seq #[PySem.Value.str (PySem.Str.ofString "self") 340] }) ::
(nat_lit 130, { cls := PySem.Value.type "tuple", data := PySem.Data.seq #[] }) ::
(nat_lit 132,
  { cls := PySem.Value.type "code",
    data :=
      PySem.Data.fields
        #[PySem.Value.str (PySem.Str.ofString "text") 337, PySem.Value.str (PySem.Str.ofString "Decimal.text") 338,
          PySem.Value.str (PySem.Str.ofString "/claim/cut.py") 339, PySem.Value.int 55 0, PySem.Value.int 1 0,
          PySem.Value.int 0 0, PySem.Value.int 0 0, PySem.Value.int 3 0, PySem.Value.ref 127,
          PySem.Value.bool Bool.true, PySem.Value.int 181 0, PySem.Value.ref 128, PySem.Value.none, PySem.Value.ref 129,
          PySem.Value.ref 130, PySem.Value.ref 131, PySem.Value.int 341 0, PySem.Value.int 55 0,
          PySem.Value.str (PySem.Str.ofString "/claim/cut.py") 342] }) ::
(nat_lit 133,
  { cls := PySem.Value.type "function",
    data :=
      PySem.Data.func
        { name := PySem.Str.ofString "text", qualname := PySem.Str.ofString "Decimal.text", params := (fnP 4 (some 10)),
          body := (fnB 4 (some 10)), scope := (fnS 4 (some 10)), globals := 3, closure := [], defaults := PySem.Value.none,
          kwdefaults := PySem.Value.none, pyModule := PySem.Value.str (PySem.Str.ofString "paperhold.decimals") 236,
          code := PySem.Value.ref 132 } }) ::
(nat_lit 134, { cls := PySem.Value.type "tuple", data := PySem.Data.seq #[] }) ::
(nat_lit 136, { cls := PySem.Value.type "tuple", data := PySem.Data.seq #[PySem.Value.str (PySem.Str.ofString "self") 347] }) ::
(nat_lit 137, { cls := PySem.Value.type "tuple", data := PySem.Data.seq #[] }) ::
(nat_lit 139,
  { cls := PySem.Value.type "code",
    data :=
      PySem.Data.fields
        #[PySem.Value.str (PySem.Str.ofString "least_text") 344,
          PySem.Value.str (PySem.Str.ofString "Decimal.least_text") 345,
          PySem.Value.str (PySem.Str.ofString "/claim/cut.py") 346, PySem.Value.int 58 0, PySem.Value.int 1 0,
          PySem.Value.int 0 0, PySem.Value.int 0 0, PySem.Value.int 3 0, PySem.Value.ref 134,
          PySem.Value.bool Bool.true, PySem.Value.int 181 0, PySem.Value.ref 135, PySem.Value.none, PySem.Value.ref 136,
          PySem.Value.ref 137, PySem.Value.ref 138, PySem.Value.int 348 0, PySem.Value.int 58 0,
          PySem.Value.str (PySem.Str.ofString "/claim/cut.py") 349] }) ::
(nat_lit 140,
  { cls := PySem.Value.type "function",
    data :=
      PySem.Data.func
        { name := PySem.Str.ofString "least_text", qualname := PySem.Str.ofString "Decimal.least_text",
          params := (fnP 4 (some 11)), body := (fnB 4 (some 11)), scope := (fnS 4 (some 11)), globals := 3, closure := [], defaults := PySem.Value.none,
          kwdefaults := PySem.Value.none, pyModule := PySem.Value.str (PySem.Str.ofString "paperhold.decimals") 236,
          code := PySem.Value.ref 139 } }) ::
(nat_lit 141,
  { cls := PySem.Value.type "tuple",
    data :=
      PySem.Data.seq
        #[PySem.Value.str (PySem.Str.ofString "places") 351, PySem.Value.str (PySem.Str.ofString "top") 352] }) ::
(nat_lit 142,
  { cls := PySem.Value.type "dict",
    data :=
      PySem.Data.dict
        #[{ hash := PySem.PyData.keyHash P (PySem.Str.ofString "__module__"),
            key := PySem.Value.str (PySem.Str.ofString "__module__") 245,
            val := PySem.Value.str (PySem.Str.ofString "paperhold.decimals") 236 },
          { hash := PySem.PyData.keyHash P (PySem.Str.ofString "__firstlineno__"),
            key := PySem.Value.str (PySem.Str.ofString "__firstlineno__") 249, val := PySem.Value.int 15 248 },
          { hash := PySem.PyData.keyHash P (PySem.Str.ofString "__init__"),
            key := PySem.Value.str (PySem.Str.ofString "__init__") 258, val := PySem.Value.ref 63 },
          { hash := PySem.PyData.keyHash P (PySem.Str.ofString "plus"),
            key := PySem.Value.str (PySem.Str.ofString "plus") 269, val := PySem.Value.ref 70 },
          { hash := PySem.PyData.keyHash P (PySem.Str.ofString "minus"),
            key := PySem.Value.str (PySem.Str.ofString "minus") 280, val := PySem.Value.ref 77 },
          { hash := PySem.PyData.keyHash P (PySem.Str.ofString "times"),
            key := PySem.Value.str (PySem.Str.ofString "times") 289, val := PySem.Value.ref 84 },
          { hash := PySem.PyData.keyHash P (PySem.Str.ofString "negated"),
            key := PySem.Value.str (PySem.Str.ofString "negated") 296, val := PySem.Value.ref 91 },
          { hash := PySem.PyData.keyHash P (PySem.Str.ofString "compared"),
            key := PySem.Value.str (PySem.Str.ofString "compared") 307, val := PySem.Value.ref 98 },
          { hash := PySem.PyData.keyHash P (PySem.Str.ofString "is_whole"),
            key := PySem.Value.str (PySem.Str.ofString "is_whole") 314, val := PySem.Value.ref 105 },
          { hash := PySem.PyData.keyHash P (PySem.Str.ofString "floor"),
            key := PySem.Value.str (PySem.Str.ofString "floor") 321, val := PySem.Value.ref 112 },
          { hash := PySem.PyData.keyHash P (PySem.Str.ofString "rounded"),
            key := PySem.Value.str (PySem.Str.ofString "rounded") 329, val := PySem.Value.ref 119 },
          { hash := PySem.PyData.keyHash P (PySem.Str.ofString "told"),
            key := PySem.Value.str (PySem.Str.ofString "told") 336, val := PySem.Value.ref 126 },
          { hash := PySem.PyData.keyHash P (PySem.Str.ofString "text"),
            key := PySem.Value.str (PySem.Str.ofString "text") 343, val := PySem.Value.ref 133 },
          { hash := PySem.PyData.keyHash P (PySem.Str.ofString "least_text"),
            key := PySem.Value.str (PySem.Str.ofString "least_text") 350, val := PySem.Value.ref 140 },
          { hash := PySem.PyData.keyHash P (PySem.Str.ofString "__static_attributes__"),
            key := PySem.Value.str (PySem.Str.ofString "__static_attributes__") 353, val := PySem.Value.ref 141 },
          { hash := PySem.PyData.keyHash P (PySem.Str.ofString "__dict__"),
            key := PySem.Value.str (PySem.Str.ofString "__dict__") 355, val := PySem.Value.ref 144 },
          { hash := PySem.PyData.keyHash P (PySem.Str.ofString "__weakref__"),
            key := PySem.Value.str (PySem.Str.ofString "__weakref__") 357, val := PySem.Value.ref 145 },
          { hash := PySem.PyData.keyHash P (PySem.Str.ofString "__doc__"),
            key := PySem.Value.str (PySem.Str.ofString "__doc__") 358, val := PySem.Value.none }]
        4 }) ::
(nat_lit 143,
  { cls := PySem.Value.type "type",
    data :=
      PySem.Data.cls
        { name := PySem.Str.ofString "Decimal", bases := [PySem.Value.type "object"],
          mro := [PySem.Value.ref 143, PySem.Value.type "object"], ns := 142,
          qualname := PySem.Str.ofString "Decimal" },
    slots :=
      #[Option.none, Option.none, Option.some (PySem.Value.str (PySem.Str.ofString "Decimal") 238),
        Option.some (PySem.Value.str (PySem.Str.ofString "Decimal") 246),
        Option.some (PySem.Value.builtin "object.__new__"), Option.some (PySem.Value.bool Bool.true)] }) ::
(nat_lit 144,
  { cls := PySem.Value.type "getset_descriptor",
    data :=
      PySem.Data.fields
        #[PySem.Value.str (PySem.Str.ofString "__dict__") 354, PySem.Value.ref 143,
          PySem.Value.builtin "function.__dict__", PySem.Value.builtin "function.__dict__#set"] }) ::
(nat_lit 145,
  { cls := PySem.Value.type "getset_descriptor",
    data :=
      PySem.Data.fields
        #[PySem.Value.str (PySem.Str.ofString "__weakref__") 356, PySem.Value.ref 143,
          PySem.Value.builtin "ExceptionGroup.__weakref__", PySem.Value.none] }) ::
(nat_lit 148, { cls := PySem.Value.type "tuple", data := PySem.Data.seq #[] }) ::
(nat_lit 150, { cls := PySem.Value.type "tuple", data := PySem.Data.seq #[PySem.Value.str (PySem.Str.ofString "number") 364] }) ::
(nat_lit 151, { cls := PySem.Value.type "tuple", data := PySem.Data.seq #[] }) ::
(nat_lit 153,
  { cls := PySem.Value.type "code",
    data :=
      PySem.Data.fields
        #[PySem.Value.str (PySem.Str.ofString "sign_of") 361, PySem.Value.str (PySem.Str.ofString "sign_of") 362,
          PySem.Value.str (PySem.Str.ofString "/claim/cut.py") 363, PySem.Value.int 60 0, PySem.Value.int 1 0,
          PySem.Value.int 0 0, PySem.Value.int 0 0, PySem.Value.int 3 0, PySem.Value.ref 148,
          PySem.Value.bool Bool.true, PySem.Value.int 181 0, PySem.Value.ref 149, PySem.Value.none, PySem.Value.ref 150,
          PySem.Value.ref 151, PySem.Value.ref 152, PySem.Value.int 365 0, PySem.Value.int 60 0,
          PySem.Value.str (PySem.Str.ofString "/claim/cut.py") 366] }) ::
(nat_lit 154,
  { cls := PySem.Value.type "function",
    data :=
      PySem.Data.func
        { name := PySem.Str.ofString "sign_of", qualname := PySem.Str.ofString "sign_of", params := (fnP 5 none),
          body := (fnB 5 none), scope := (fnS 5 none), globals := 3, closure := [], defaults := PySem.Value.none,
          kwdefaults := PySem.Value.none, pyModule := PySem.Value.str (PySem.Str.ofString "paperhold.decimals") 236,
          code := PySem.Value.ref 153 } }) ::
(nat_lit 155, { cls := PySem.Value.type "tuple", data := PySem.Data.seq #[] }) ::
(nat_lit 157, { cls := PySem.Value.type "tuple", data := PySem.Data.seq #[PySem.Value.str (PySem.Str.ofString "value") 371] }) ::
(nat_lit 158, { cls := PySem.Value.type "tuple", data := PySem.Data.seq #[] }) ::
(nat_lit 160,
  { cls := PySem.Value.type "code",
    data :=
      PySem.Data.fields
        #[PySem.Value.str (PySem.Str.ofString "decimal_of") 368, PySem.Value.str (PySem.Str.ofString "decimal_of") 369,
          PySem.Value.str (PySem.Str.ofString "/claim/cut.py") 370, PySem.Value.int 64 0, PySem.Value.int 1 0,
          PySem.Value.int 0 0, PySem.Value.int 0 0, PySem.Value.int 3 0, PySem.Value.ref 155,
          PySem.Value.bool Bool.true, PySem.Value.int 181 0, PySem.Value.ref 156, PySem.Value.none, PySem.Value.ref 157,
          PySem.Value.ref 158, PySem.Value.ref 159, PySem.Value.int 372 0, PySem.Value.int 64 0,
          PySem.Value.str (PySem.Str.ofString "/claim/cut.py") 373] }) ::
(nat_lit 161,
  { cls := PySem.Value.type "function",
    data :=
      PySem.Data.func
        { name := PySem.Str.ofString "decimal_of", qualname := PySem.Str.ofString "decimal_of", params := (fnP 6 none),
          body := (fnB 6 none), scope := (fnS 6 none), globals := 3, closure := [], defaults := PySem.Value.none,
          kwdefaults := PySem.Value.none, pyModule := PySem.Value.str (PySem.Str.ofString "paperhold.decimals") 236,
          code := PySem.Value.ref 160 } }) ::
(nat_lit 162, { cls := PySem.Value.type "tuple", data := PySem.Data.seq #[] }) ::
(nat_lit 164,
  { cls := PySem.Value.type "tuple",
    data :=
      PySem.Data.seq
        #[PySem.Value.str (PySem.Str.ofString "one") 378, PySem.Value.str (PySem.Str.ofString "other") 379,
          PySem.Value.str (PySem.Str.ofString "first") 380, PySem.Value.str (PySem.Str.ofString "second") 381,
          PySem.Value.str (PySem.Str.ofString "places") 382] }) ::
(nat_lit 165, { cls := PySem.Value.type "tuple", data := PySem.Data.seq #[] }) ::
(nat_lit 167,
  { cls := PySem.Value.type "code",
    data :=
      PySem.Data.fields
        #[PySem.Value.str (PySem.Str.ofString "at_one_scale") 375,
          PySem.Value.str (PySem.Str.ofString "at_one_scale") 376,
          PySem.Value.str (PySem.Str.ofString "/claim/cut.py") 377, PySem.Value.int 70 0, PySem.Value.int 2 0,
          PySem.Value.int 0 0, PySem.Value.int 0 0, PySem.Value.int 3 0, PySem.Value.ref 162,
          PySem.Value.bool Bool.true, PySem.Value.int 181 0, PySem.Value.ref 163, PySem.Value.none, PySem.Value.ref 164,
          PySem.Value.ref 165, PySem.Value.ref 166, PySem.Value.int 383 0, PySem.Value.int 70 0,
          PySem.Value.str (PySem.Str.ofString "/claim/cut.py") 384] }) ::
(nat_lit 168,
  { cls := PySem.Value.type "function",
    data :=
      PySem.Data.func
        { name := PySem.Str.ofString "at_one_scale", qualname := PySem.Str.ofString "at_one_scale", params := (fnP 7 none),
          body := (fnB 7 none), scope := (fnS 7 none), globals := 3, closure := [], defaults := PySem.Value.none,
          kwdefaults := PySem.Value.none, pyModule := PySem.Value.str (PySem.Str.ofString "paperhold.decimals") 236,
          code := PySem.Value.ref 167 } }) ::
(nat_lit 169, { cls := PySem.Value.type "tuple", data := PySem.Data.seq #[] }) ::
(nat_lit 171,
  { cls := PySem.Value.type "tuple",
    data :=
      PySem.Data.seq
        #[PySem.Value.str (PySem.Str.ofString "values") 389, PySem.Value.str (PySem.Str.ofString "best") 390,
          PySem.Value.str (PySem.Str.ofString "value") 391] }) ::
(nat_lit 172, { cls := PySem.Value.type "tuple", data := PySem.Data.seq #[] }) ::
(nat_lit 174,
  { cls := PySem.Value.type "code",
    data :=
      PySem.Data.fields
        #[PySem.Value.str (PySem.Str.ofString "least") 386, PySem.Value.str (PySem.Str.ofString "least") 387,
          PySem.Value.str (PySem.Str.ofString "/claim/cut.py") 388, PySem.Value.int 75 0, PySem.Value.int 1 0,
          PySem.Value.int 0 0, PySem.Value.int 0 0, PySem.Value.int 3 0, PySem.Value.ref 169,
          PySem.Value.bool Bool.true, PySem.Value.int 181 0, PySem.Value.ref 170, PySem.Value.none, PySem.Value.ref 171,
          PySem.Value.ref 172, PySem.Value.ref 173, PySem.Value.int 392 0, PySem.Value.int 75 0,
          PySem.Value.str (PySem.Str.ofString "/claim/cut.py") 393] }) ::
(nat_lit 175,
  { cls := PySem.Value.type "function",
    data :=
      PySem.Data.func
        { name := PySem.Str.ofString "least", qualname := PySem.Str.ofString "least", params := (fnP 8 none), body := (fnB 8 none),
          scope := (fnS 8 none), globals := 3, closure := [], defaults := PySem.Value.none, kwdefaults := PySem.Value.none,
          pyModule := PySem.Value.str (PySem.Str.ofString "paperhold.decimals") 236, code := PySem.Value.ref 174 } }) ::
(nat_lit 176, { cls := PySem.Value.type "tuple", data := PySem.Data.seq #[] }) ::
(nat_lit 178,
  { cls := PySem.Value.type "tuple",
    data :=
      PySem.Data.seq
        #[PySem.Value.str (PySem.Str.ofString "values") 398, PySem.Value.str (PySem.Str.ofString "best") 399,
          PySem.Value.str (PySem.Str.ofString "value") 400] }) ::
(nat_lit 179, { cls := PySem.Value.type "tuple", data := PySem.Data.seq #[] }) ::
(nat_lit 181,
  { cls := PySem.Value.type "code",
    data :=
      PySem.Data.fields
        #[PySem.Value.str (PySem.Str.ofString "greatest") 395, PySem.Value.str (PySem.Str.ofString "greatest") 396,
          PySem.Value.str (PySem.Str.ofString "/claim/cut.py") 397, PySem.Value.int 83 0, PySem.Value.int 1 0,
          PySem.Value.int 0 0, PySem.Value.int 0 0, PySem.Value.int 3 0, PySem.Value.ref 176,
          PySem.Value.bool Bool.true, PySem.Value.int 181 0, PySem.Value.ref 177, PySem.Value.none, PySem.Value.ref 178,
          PySem.Value.ref 179, PySem.Value.ref 180, PySem.Value.int 401 0, PySem.Value.int 83 0,
          PySem.Value.str (PySem.Str.ofString "/claim/cut.py") 402] }) ::
(nat_lit 182,
  { cls := PySem.Value.type "function",
    data :=
      PySem.Data.func
        { name := PySem.Str.ofString "greatest", qualname := PySem.Str.ofString "greatest", params := (fnP 9 none),
          body := (fnB 9 none), scope := (fnS 9 none), globals := 3, closure := [], defaults := PySem.Value.none,
          kwdefaults := PySem.Value.none, pyModule := PySem.Value.str (PySem.Str.ofString "paperhold.decimals") 236,
          code := PySem.Value.ref 181 } }) ::
(nat_lit 190, { cls := PySem.Value.type "tuple", data := PySem.Data.seq #[] }) ::
(nat_lit 192,
  { cls := PySem.Value.type "tuple",
    data :=
      PySem.Data.seq
        #[PySem.Value.str (PySem.Str.ofString "self") 421, PySem.Value.str (PySem.Str.ofString "a") 422,
          PySem.Value.str (PySem.Str.ofString "b") 423, PySem.Value.str (PySem.Str.ofString "c") 424,
          PySem.Value.str (PySem.Str.ofString "d") 425, PySem.Value.str (PySem.Str.ofString "e") 426,
          PySem.Value.str (PySem.Str.ofString "f") 427] }) ::
(nat_lit 193, { cls := PySem.Value.type "tuple", data := PySem.Data.seq #[] }) ::
(nat_lit 195,
  { cls := PySem.Value.type "code",
    data :=
      PySem.Data.fields
        #[PySem.Value.str (PySem.Str.ofString "__init__") 418,
          PySem.Value.str (PySem.Str.ofString "Matrix.__init__") 419,
          PySem.Value.str (PySem.Str.ofString "/claim/cut.py") 420, PySem.Value.int 94 0, PySem.Value.int 7 0,
          PySem.Value.int 0 0, PySem.Value.int 0 0, PySem.Value.int 3 0, PySem.Value.ref 190,
          PySem.Value.bool Bool.true, PySem.Value.int 181 0, PySem.Value.ref 191, PySem.Value.none, PySem.Value.ref 192,
          PySem.Value.ref 193, PySem.Value.ref 194, PySem.Value.int 428 0, PySem.Value.int 94 0,
          PySem.Value.str (PySem.Str.ofString "/claim/cut.py") 429] }) ::
(nat_lit 196,
  { cls := PySem.Value.type "function",
    data :=
      PySem.Data.func
        { name := PySem.Str.ofString "__init__", qualname := PySem.Str.ofString "Matrix.__init__", params := (fnP 11 (some 0)),
          body := (fnB 11 (some 0)), scope := (fnS 11 (some 0)), globals := 3, closure := [], defaults := PySem.Value.none,
          kwdefaults := PySem.Value.none, pyModule := PySem.Value.str (PySem.Str.ofString "paperhold.matrix") 404,
          code := PySem.Value.ref 195 } }) ::
(nat_lit 197, { cls := PySem.Value.type "tuple", data := PySem.Data.seq #[] }) ::
(nat_lit 199,
  { cls := PySem.Value.type "tuple",
    data :=
      PySem.Data.seq
        #[PySem.Value.str (PySem.Str.ofString "self") 434, PySem.Value.str (PySem.Str.ofString "other") 435,
          PySem.Value.str (PySem.Str.ofString "a") 436, PySem.Value.str (PySem.Str.ofString "b") 437,
          PySem.Value.str (PySem.Str.ofString "c") 438, PySem.Value.str (PySem.Str.ofString "d") 439,
          PySem.Value.str (PySem.Str.ofString "e") 440, PySem.Value.str (PySem.Str.ofString "f") 441] }) ::
(nat_lit 200, { cls := PySem.Value.type "tuple", data := PySem.Data.seq #[] }) ::
(nat_lit 202,
  { cls := PySem.Value.type "code",
    data :=
      PySem.Data.fields
        #[PySem.Value.str (PySem.Str.ofString "times") 431, PySem.Value.str (PySem.Str.ofString "Matrix.times") 432,
          PySem.Value.str (PySem.Str.ofString "/claim/cut.py") 433, PySem.Value.int 102 0, PySem.Value.int 2 0,
          PySem.Value.int 0 0, PySem.Value.int 0 0, PySem.Value.int 3 0, PySem.Value.ref 197,
          PySem.Value.bool Bool.true, PySem.Value.int 181 0, PySem.Value.ref 198, PySem.Value.none, PySem.Value.ref 199,
          PySem.Value.ref 200, PySem.Value.ref 201, PySem.Value.int 442 0, PySem.Value.int 102 0,
          PySem.Value.str (PySem.Str.ofString "/claim/cut.py") 443] }) ::
(nat_lit 203,
  { cls := PySem.Value.type "function",
    data :=
      PySem.Data.func
        { name := PySem.Str.ofString "times", qualname := PySem.Str.ofString "Matrix.times", params := (fnP 11 (some 1)),
          body := (fnB 11 (some 1)), scope := (fnS 11 (some 1)), globals := 3, closure := [], defaults := PySem.Value.none,
          kwdefaults := PySem.Value.none, pyModule := PySem.Value.str (PySem.Str.ofString "paperhold.matrix") 404,
          code := PySem.Value.ref 202 } }) ::
(nat_lit 204, { cls := PySem.Value.type "tuple", data := PySem.Data.seq #[] }) ::
(nat_lit 206,
  { cls := PySem.Value.type "tuple",
    data :=
      PySem.Data.seq
        #[PySem.Value.str (PySem.Str.ofString "self") 448, PySem.Value.str (PySem.Str.ofString "x") 449,
          PySem.Value.str (PySem.Str.ofString "y") 450, PySem.Value.str (PySem.Str.ofString "right") 451,
          PySem.Value.str (PySem.Str.ofString "up") 452] }) ::
(nat_lit 207, { cls := PySem.Value.type "tuple", data := PySem.Data.seq #[] }) ::
(nat_lit 209,
  { cls := PySem.Value.type "code",
    data :=
      PySem.Data.fields
        #[PySem.Value.str (PySem.Str.ofString "applied") 445, PySem.Value.str (PySem.Str.ofString "Matrix.applied") 446,
          PySem.Value.str (PySem.Str.ofString "/claim/cut.py") 447, PySem.Value.int 110 0, PySem.Value.int 3 0,
          PySem.Value.int 0 0, PySem.Value.int 0 0, PySem.Value.int 3 0, PySem.Value.ref 204,
          PySem.Value.bool Bool.true, PySem.Value.int 181 0, PySem.Value.ref 205, PySem.Value.none, PySem.Value.ref 206,
          PySem.Value.ref 207, PySem.Value.ref 208, PySem.Value.int 453 0, PySem.Value.int 110 0,
          PySem.Value.str (PySem.Str.ofString "/claim/cut.py") 454] }) ::
(nat_lit 210,
  { cls := PySem.Value.type "function",
    data :=
      PySem.Data.func
        { name := PySem.Str.ofString "applied", qualname := PySem.Str.ofString "Matrix.applied", params := (fnP 11 (some 2)),
          body := (fnB 11 (some 2)), scope := (fnS 11 (some 2)), globals := 3, closure := [], defaults := PySem.Value.none,
          kwdefaults := PySem.Value.none, pyModule := PySem.Value.str (PySem.Str.ofString "paperhold.matrix") 404,
          code := PySem.Value.ref 209 } }) ::
(nat_lit 211, { cls := PySem.Value.type "tuple", data := PySem.Data.seq #[] }) ::
(nat_lit 213,
  { cls := PySem.Value.type "tuple",
    data :=
      PySem.Data.seq
        #[PySem.Value.str (PySem.Str.ofString "self") 459, PySem.Value.str (PySem.Str.ofString "x") 460,
          PySem.Value.str (PySem.Str.ofString "y") 461] }) ::
(nat_lit 214, { cls := PySem.Value.type "tuple", data := PySem.Data.seq #[] }) ::
(nat_lit 216,
  { cls := PySem.Value.type "code",
    data :=
      PySem.Data.fields
        #[PySem.Value.str (PySem.Str.ofString "shifted") 456, PySem.Value.str (PySem.Str.ofString "Matrix.shifted") 457,
          PySem.Value.str (PySem.Str.ofString "/claim/cut.py") 458, PySem.Value.int 115 0, PySem.Value.int 3 0,
          PySem.Value.int 0 0, PySem.Value.int 0 0, PySem.Value.int 3 0, PySem.Value.ref 211,
          PySem.Value.bool Bool.true, PySem.Value.int 181 0, PySem.Value.ref 212, PySem.Value.none, PySem.Value.ref 213,
          PySem.Value.ref 214, PySem.Value.ref 215, PySem.Value.int 462 0, PySem.Value.int 115 0,
          PySem.Value.str (PySem.Str.ofString "/claim/cut.py") 463] }) ::
(nat_lit 217,
  { cls := PySem.Value.type "function",
    data :=
      PySem.Data.func
        { name := PySem.Str.ofString "shifted", qualname := PySem.Str.ofString "Matrix.shifted", params := (fnP 11 (some 3)),
          body := (fnB 11 (some 3)), scope := (fnS 11 (some 3)), globals := 3, closure := [], defaults := PySem.Value.none,
          kwdefaults := PySem.Value.none, pyModule := PySem.Value.str (PySem.Str.ofString "paperhold.matrix") 404,
          code := PySem.Value.ref 216 } }) ::
(nat_lit 218, { cls := PySem.Value.type "tuple", data := PySem.Data.seq #[] }) ::
(nat_lit 220, { cls := PySem.Value.type "tuple", data := PySem.Data.seq #[PySem.Value.str (PySem.Str.ofString "self") 468] }) ::
(nat_lit 221, { cls := PySem.Value.type "tuple", data := PySem.Data.seq #[] }) ::
(nat_lit 223,
  { cls := PySem.Value.type "code",
    data :=
      PySem.Data.fields
        #[PySem.Value.str (PySem.Str.ofString "parts") 465, PySem.Value.str (PySem.Str.ofString "Matrix.parts") 466,
          PySem.Value.str (PySem.Str.ofString "/claim/cut.py") 467, PySem.Value.int 118 0, PySem.Value.int 1 0,
          PySem.Value.int 0 0, PySem.Value.int 0 0, PySem.Value.int 3 0, PySem.Value.ref 218,
          PySem.Value.bool Bool.true, PySem.Value.int 181 0, PySem.Value.ref 219, PySem.Value.none, PySem.Value.ref 220,
          PySem.Value.ref 221, PySem.Value.ref 222, PySem.Value.int 469 0, PySem.Value.int 118 0,
          PySem.Value.str (PySem.Str.ofString "/claim/cut.py") 470] }) ::
(nat_lit 224,
  { cls := PySem.Value.type "function",
    data :=
      PySem.Data.func
        { name := PySem.Str.ofString "parts", qualname := PySem.Str.ofString "Matrix.parts", params := (fnP 11 (some 4)),
          body := (fnB 11 (some 4)), scope := (fnS 11 (some 4)), globals := 3, closure := [], defaults := PySem.Value.none,
          kwdefaults := PySem.Value.none, pyModule := PySem.Value.str (PySem.Str.ofString "paperhold.matrix") 404,
          code := PySem.Value.ref 223 } }) ::
(nat_lit 225, { cls := PySem.Value.type "tuple", data := PySem.Data.seq #[] }) ::
(nat_lit 228,
  { cls := PySem.Value.type "code",
    data :=
      PySem.Data.fields
        #[PySem.Value.str (PySem.Str.ofString "told") 472, PySem.Value.str (PySem.Str.ofString "Matrix.told") 473,
          PySem.Value.str (PySem.Str.ofString "/claim/cut.py") 474, PySem.Value.int 121 0, PySem.Value.int 1 0,
          PySem.Value.int 0 0, PySem.Value.int 0 0, PySem.Value.int 3 0, PySem.Value.ref 225,
          PySem.Value.bool Bool.true, PySem.Value.int 181 0, PySem.Value.ref 226, PySem.Value.none, PySem.Value.none,
          PySem.Value.none, PySem.Value.ref 227, PySem.Value.int 475 0, PySem.Value.int 121 0,
          PySem.Value.str (PySem.Str.ofString "/claim/cut.py") 476] }) ::
(nat_lit 229,
  { cls := PySem.Value.type "function",
    data :=
      PySem.Data.func
        { name := PySem.Str.ofString "told", qualname := PySem.Str.ofString "Matrix.told", params := (fnP 11 (some 5)),
          body := (fnB 11 (some 5)), scope := (fnS 11 (some 5)), globals := 3, closure := [], defaults := PySem.Value.none,
          kwdefaults := PySem.Value.none, pyModule := PySem.Value.str (PySem.Str.ofString "paperhold.matrix") 404,
          code := PySem.Value.ref 228 } }) ::
(nat_lit 230,
  { cls := PySem.Value.type "tuple",
    data :=
      PySem.Data.seq
        #[PySem.Value.str (PySem.Str.ofString "a") 478, PySem.Value.str (PySem.Str.ofString "b") 479,
          PySem.Value.str (PySem.Str.ofString "c") 480, PySem.Value.str (PySem.Str.ofString "d") 481,
          PySem.Value.str (PySem.Str.ofString "e") 482, PySem.Value.str (PySem.Str.ofString "f") 483] }) ::
(nat_lit 231,
  { cls := PySem.Value.type "dict",
    data :=
      PySem.Data.dict
        #[{ hash := PySem.PyData.keyHash P (PySem.Str.ofString "__module__"),
            key := PySem.Value.str (PySem.Str.ofString "__module__") 413,
            val := PySem.Value.str (PySem.Str.ofString "paperhold.matrix") 404 },
          { hash := PySem.PyData.keyHash P (PySem.Str.ofString "__firstlineno__"),
            key := PySem.Value.str (PySem.Str.ofString "__firstlineno__") 417, val := PySem.Value.int 92 416 },
          { hash := PySem.PyData.keyHash P (PySem.Str.ofString "__init__"),
            key := PySem.Value.str (PySem.Str.ofString "__init__") 430, val := PySem.Value.ref 196 },
          { hash := PySem.PyData.keyHash P (PySem.Str.ofString "times"),
            key := PySem.Value.str (PySem.Str.ofString "times") 444, val := PySem.Value.ref 203 },
          { hash := PySem.PyData.keyHash P (PySem.Str.ofString "applied"),
            key := PySem.Value.str (PySem.Str.ofString "applied") 455, val := PySem.Value.ref 210 },
          { hash := PySem.PyData.keyHash P (PySem.Str.ofString "shifted"),
            key := PySem.Value.str (PySem.Str.ofString "shifted") 464, val := PySem.Value.ref 217 },
          { hash := PySem.PyData.keyHash P (PySem.Str.ofString "parts"),
            key := PySem.Value.str (PySem.Str.ofString "parts") 471, val := PySem.Value.ref 224 },
          { hash := PySem.PyData.keyHash P (PySem.Str.ofString "told"),
            key := PySem.Value.str (PySem.Str.ofString "told") 477, val := PySem.Value.ref 229 },
          { hash := PySem.PyData.keyHash P (PySem.Str.ofString "__static_attributes__"),
            key := PySem.Value.str (PySem.Str.ofString "__static_attributes__") 484, val := PySem.Value.ref 230 },
          { hash := PySem.PyData.keyHash P (PySem.Str.ofString "__dict__"),
            key := PySem.Value.str (PySem.Str.ofString "__dict__") 486, val := PySem.Value.ref 233 },
          { hash := PySem.PyData.keyHash P (PySem.Str.ofString "__weakref__"),
            key := PySem.Value.str (PySem.Str.ofString "__weakref__") 488, val := PySem.Value.ref 234 },
          { hash := PySem.PyData.keyHash P (PySem.Str.ofString "__doc__"),
            key := PySem.Value.str (PySem.Str.ofString "__doc__") 489, val := PySem.Value.none }]
        4 }) ::
(nat_lit 232,
  { cls := PySem.Value.type "type",
    data :=
      PySem.Data.cls
        { name := PySem.Str.ofString "Matrix", bases := [PySem.Value.type "object"],
          mro := [PySem.Value.ref 232, PySem.Value.type "object"], ns := 231, qualname := PySem.Str.ofString "Matrix" },
    slots :=
      #[Option.none, Option.none, Option.some (PySem.Value.str (PySem.Str.ofString "Matrix") 406),
        Option.some (PySem.Value.str (PySem.Str.ofString "Matrix") 414),
        Option.some (PySem.Value.builtin "object.__new__"), Option.some (PySem.Value.bool Bool.true)] }) ::
(nat_lit 233,
  { cls := PySem.Value.type "getset_descriptor",
    data :=
      PySem.Data.fields
        #[PySem.Value.str (PySem.Str.ofString "__dict__") 485, PySem.Value.ref 232,
          PySem.Value.builtin "function.__dict__", PySem.Value.builtin "function.__dict__#set"] }) ::
(nat_lit 234,
  { cls := PySem.Value.type "getset_descriptor",
    data :=
      PySem.Data.fields
        #[PySem.Value.str (PySem.Str.ofString "__weakref__") 487, PySem.Value.ref 232,
          PySem.Value.builtin "ExceptionGroup.__weakref__", PySem.Value.none] }) ::
(nat_lit 237, { cls := PySem.Value.type "tuple", data := PySem.Data.seq #[] }) ::
(nat_lit 239, { cls := PySem.Value.type "tuple", data := PySem.Data.seq #[PySem.Value.str (PySem.Str.ofString "m") 495] }) ::
(nat_lit 240, { cls := PySem.Value.type "tuple", data := PySem.Data.seq #[] }) ::
(nat_lit 242,
  { cls := PySem.Value.type "code",
    data :=
      PySem.Data.fields
        #[PySem.Value.str (PySem.Str.ofString "is_straight") 492,
          PySem.Value.str (PySem.Str.ofString "is_straight") 493,
          PySem.Value.str (PySem.Str.ofString "/claim/cut.py") 494, PySem.Value.int 123 0, PySem.Value.int 1 0,
          PySem.Value.int 0 0, PySem.Value.int 0 0, PySem.Value.int 3 0, PySem.Value.ref 237,
          PySem.Value.bool Bool.true, PySem.Value.int 181 0, PySem.Value.ref 238, PySem.Value.none, PySem.Value.ref 239,
          PySem.Value.ref 240, PySem.Value.ref 241, PySem.Value.int 496 0, PySem.Value.int 123 0,
          PySem.Value.str (PySem.Str.ofString "/claim/cut.py") 497] }) ::
(nat_lit 243,
  { cls := PySem.Value.type "function",
    data :=
      PySem.Data.func
        { name := PySem.Str.ofString "is_straight", qualname := PySem.Str.ofString "is_straight", params := (fnP 12 none),
          body := (fnB 12 none), scope := (fnS 12 none), globals := 3, closure := [], defaults := PySem.Value.none,
          kwdefaults := PySem.Value.none, pyModule := PySem.Value.str (PySem.Str.ofString "paperhold.matrix") 404,
          code := PySem.Value.ref 242 } }) ::
(nat_lit 244, { cls := PySem.Value.type "tuple", data := PySem.Data.seq #[] }) ::
(nat_lit 247,
  { cls := PySem.Value.type "code",
    data :=
      PySem.Data.fields
        #[PySem.Value.str (PySem.Str.ofString "box_of") 499, PySem.Value.str (PySem.Str.ofString "box_of") 500,
          PySem.Value.str (PySem.Str.ofString "/claim/cut.py") 501, PySem.Value.int 125 0, PySem.Value.int 1 0,
          PySem.Value.int 0 0, PySem.Value.int 0 0, PySem.Value.int 3 0, PySem.Value.ref 244,
          PySem.Value.bool Bool.true, PySem.Value.int 181 0, PySem.Value.ref 245, PySem.Value.none, PySem.Value.none,
          PySem.Value.none, PySem.Value.ref 246, PySem.Value.int 502 0, PySem.Value.int 125 0,
          PySem.Value.str (PySem.Str.ofString "/claim/cut.py") 503] }) ::
(nat_lit 248,
  { cls := PySem.Value.type "function",
    data :=
      PySem.Data.func
        { name := PySem.Str.ofString "box_of", qualname := PySem.Str.ofString "box_of", params := (fnP 13 none),
          body := (fnB 13 none), scope := (fnS 13 none), globals := 3, closure := [], defaults := PySem.Value.none,
          kwdefaults := PySem.Value.none, pyModule := PySem.Value.str (PySem.Str.ofString "paperhold.matrix") 404,
          code := PySem.Value.ref 247 } }) ::
(nat_lit 249, { cls := PySem.Value.type "tuple", data := PySem.Data.seq #[] }) ::
(nat_lit 251, { cls := PySem.Value.type "tuple", data := PySem.Data.seq #[PySem.Value.str (PySem.Str.ofString "values") 508] }) ::
(nat_lit 252, { cls := PySem.Value.type "tuple", data := PySem.Data.seq #[] }) ::
(nat_lit 254,
  { cls := PySem.Value.type "code",
    data :=
      PySem.Data.fields
        #[PySem.Value.str (PySem.Str.ofString "box_from_array") 505,
          PySem.Value.str (PySem.Str.ofString "box_from_array") 506,
          PySem.Value.str (PySem.Str.ofString "/claim/cut.py") 507, PySem.Value.int 129 0, PySem.Value.int 1 0,
          PySem.Value.int 0 0, PySem.Value.int 0 0, PySem.Value.int 3 0, PySem.Value.ref 249,
          PySem.Value.bool Bool.true, PySem.Value.int 181 0, PySem.Value.ref 250, PySem.Value.none, PySem.Value.ref 251,
          PySem.Value.ref 252, PySem.Value.ref 253, PySem.Value.int 509 0, PySem.Value.int 129 0,
          PySem.Value.str (PySem.Str.ofString "/claim/cut.py") 510] }) ::
(nat_lit 255,
  { cls := PySem.Value.type "function",
    data :=
      PySem.Data.func
        { name := PySem.Str.ofString "box_from_array", qualname := PySem.Str.ofString "box_from_array",
          params := (fnP 14 none), body := (fnB 14 none), scope := (fnS 14 none), globals := 3, closure := [], defaults := PySem.Value.none,
          kwdefaults := PySem.Value.none, pyModule := PySem.Value.str (PySem.Str.ofString "paperhold.matrix") 404,
          code := PySem.Value.ref 254 } }) ::
(nat_lit 256, { cls := PySem.Value.type "tuple", data := PySem.Data.seq #[] }) ::
(nat_lit 258,
  { cls := PySem.Value.type "tuple",
    data :=
      PySem.Data.seq
        #[PySem.Value.str (PySem.Str.ofString "frame") 515, PySem.Value.str (PySem.Str.ofString "left") 516,
          PySem.Value.str (PySem.Str.ofString "bottom") 517, PySem.Value.str (PySem.Str.ofString "right") 518,
          PySem.Value.str (PySem.Str.ofString "top") 519] }) ::
(nat_lit 259, { cls := PySem.Value.type "tuple", data := PySem.Data.seq #[] }) ::
(nat_lit 261,
  { cls := PySem.Value.type "code",
    data :=
      PySem.Data.fields
        #[PySem.Value.str (PySem.Str.ofString "corners_of") 512, PySem.Value.str (PySem.Str.ofString "corners_of") 513,
          PySem.Value.str (PySem.Str.ofString "/claim/cut.py") 514, PySem.Value.int 133 0, PySem.Value.int 1 0,
          PySem.Value.int 0 0, PySem.Value.int 0 0, PySem.Value.int 3 0, PySem.Value.ref 256,
          PySem.Value.bool Bool.true, PySem.Value.int 181 0, PySem.Value.ref 257, PySem.Value.none, PySem.Value.ref 258,
          PySem.Value.ref 259, PySem.Value.ref 260, PySem.Value.int 520 0, PySem.Value.int 133 0,
          PySem.Value.str (PySem.Str.ofString "/claim/cut.py") 521] }) ::
(nat_lit 262,
  { cls := PySem.Value.type "function",
    data :=
      PySem.Data.func
        { name := PySem.Str.ofString "corners_of", qualname := PySem.Str.ofString "corners_of", params := (fnP 15 none),
          body := (fnB 15 none), scope := (fnS 15 none), globals := 3, closure := [], defaults := PySem.Value.none,
          kwdefaults := PySem.Value.none, pyModule := PySem.Value.str (PySem.Str.ofString "paperhold.matrix") 404,
          code := PySem.Value.ref 261 } }) ::
(nat_lit 263, { cls := PySem.Value.type "tuple", data := PySem.Data.seq #[] }) ::
(nat_lit 266,
  { cls := PySem.Value.type "code",
    data :=
      PySem.Data.fields
        #[PySem.Value.str (PySem.Str.ofString "transformed_box") 523,
          PySem.Value.str (PySem.Str.ofString "transformed_box") 524,
          PySem.Value.str (PySem.Str.ofString "/claim/cut.py") 525, PySem.Value.int 136 0, PySem.Value.int 2 0,
          PySem.Value.int 0 0, PySem.Value.int 0 0, PySem.Value.int 3 0, PySem.Value.ref 263,
          PySem.Value.bool Bool.true, PySem.Value.int 181 0, PySem.Value.ref 264, PySem.Value.none, PySem.Value.none,
          PySem.Value.none, PySem.Value.ref 265, PySem.Value.int 526 0, PySem.Value.int 136 0,
          PySem.Value.str (PySem.Str.ofString "/claim/cut.py") 527] }) ::
(nat_lit 267,
  { cls := PySem.Value.type "function",
    data :=
      PySem.Data.func
        { name := PySem.Str.ofString "transformed_box", qualname := PySem.Str.ofString "transformed_box",
          params := (fnP 16 none), body := (fnB 16 none), scope := (fnS 16 none), globals := 3, closure := [], defaults := PySem.Value.none,
          kwdefaults := PySem.Value.none, pyModule := PySem.Value.str (PySem.Str.ofString "paperhold.matrix") 404,
          code := PySem.Value.ref 266 } }) ::
(nat_lit 268, { cls := PySem.Value.type "tuple", data := PySem.Data.seq #[] }) ::
(nat_lit 270, { cls := PySem.Value.type "tuple", data := PySem.Data.seq #[PySem.Value.str (PySem.Str.ofString "frame") 532] }) ::
(nat_lit 271, { cls := PySem.Value.type "tuple", data := PySem.Data.seq #[] }) ::
(nat_lit 273,
  { cls := PySem.Value.type "code",
    data :=
      PySem.Data.fields
        #[PySem.Value.str (PySem.Str.ofString "box_size") 529, PySem.Value.str (PySem.Str.ofString "box_size") 530,
          PySem.Value.str (PySem.Str.ofString "/claim/cut.py") 531, PySem.Value.int 138 0, PySem.Value.int 1 0,
          PySem.Value.int 0 0, PySem.Value.int 0 0, PySem.Value.int 3 0, PySem.Value.ref 268,
          PySem.Value.bool Bool.true, PySem.Value.int 181 0, PySem.Value.ref 269, PySem.Value.none, PySem.Value.ref 270,
          PySem.Value.ref 271, PySem.Value.ref 272, PySem.Value.int 533 0, PySem.Value.int 138 0,
          PySem.Value.str (PySem.Str.ofString "/claim/cut.py") 534] }) ::
(nat_lit 274,
  { cls := PySem.Value.type "function",
    data :=
      PySem.Data.func
        { name := PySem.Str.ofString "box_size", qualname := PySem.Str.ofString "box_size", params := (fnP 17 none),
          body := (fnB 17 none), scope := (fnS 17 none), globals := 3, closure := [], defaults := PySem.Value.none,
          kwdefaults := PySem.Value.none, pyModule := PySem.Value.str (PySem.Str.ofString "paperhold.matrix") 404,
          code := PySem.Value.ref 273 } }) ::
(nat_lit 275, { cls := PySem.Value.type "tuple", data := PySem.Data.seq #[] }) ::
(nat_lit 277,
  { cls := PySem.Value.type "tuple",
    data :=
      PySem.Data.seq
        #[PySem.Value.str (PySem.Str.ofString "frame") 539, PySem.Value.str (PySem.Str.ofString "x") 540,
          PySem.Value.str (PySem.Str.ofString "y") 541, PySem.Value.str (PySem.Str.ofString "inside_across") 542] }) ::
(nat_lit 278, { cls := PySem.Value.type "tuple", data := PySem.Data.seq #[] }) ::
(nat_lit 280,
  { cls := PySem.Value.type "code",
    data :=
      PySem.Data.fields
        #[PySem.Value.str (PySem.Str.ofString "is_in_box") 536, PySem.Value.str (PySem.Str.ofString "is_in_box") 537,
          PySem.Value.str (PySem.Str.ofString "/claim/cut.py") 538, PySem.Value.int 140 0, PySem.Value.int 3 0,
          PySem.Value.int 0 0, PySem.Value.int 0 0, PySem.Value.int 3 0, PySem.Value.ref 275,
          PySem.Value.bool Bool.true, PySem.Value.int 181 0, PySem.Value.ref 276, PySem.Value.none, PySem.Value.ref 277,
          PySem.Value.ref 278, PySem.Value.ref 279, PySem.Value.int 543 0, PySem.Value.int 140 0,
          PySem.Value.str (PySem.Str.ofString "/claim/cut.py") 544] }) ::
(nat_lit 281,
  { cls := PySem.Value.type "function",
    data :=
      PySem.Data.func
        { name := PySem.Str.ofString "is_in_box", qualname := PySem.Str.ofString "is_in_box", params := (fnP 18 none),
          body := (fnB 18 none), scope := (fnS 18 none), globals := 3, closure := [], defaults := PySem.Value.none,
          kwdefaults := PySem.Value.none, pyModule := PySem.Value.str (PySem.Str.ofString "paperhold.matrix") 404,
          code := PySem.Value.ref 280 } }) ::
(nat_lit 282, { cls := PySem.Value.type "tuple", data := PySem.Data.seq #[] }) ::
(nat_lit 284,
  { cls := PySem.Value.type "tuple",
    data :=
      PySem.Data.seq
        #[PySem.Value.str (PySem.Str.ofString "one") 549, PySem.Value.str (PySem.Str.ofString "other") 550,
          PySem.Value.str (PySem.Str.ofString "left") 551, PySem.Value.str (PySem.Str.ofString "bottom") 552,
          PySem.Value.str (PySem.Str.ofString "right") 553, PySem.Value.str (PySem.Str.ofString "top") 554] }) ::
(nat_lit 285, { cls := PySem.Value.type "tuple", data := PySem.Data.seq #[] }) ::
(nat_lit 287,
  { cls := PySem.Value.type "code",
    data :=
      PySem.Data.fields
        #[PySem.Value.str (PySem.Str.ofString "common_box") 546, PySem.Value.str (PySem.Str.ofString "common_box") 547,
          PySem.Value.str (PySem.Str.ofString "/claim/cut.py") 548, PySem.Value.int 143 0, PySem.Value.int 2 0,
          PySem.Value.int 0 0, PySem.Value.int 0 0, PySem.Value.int 3 0, PySem.Value.ref 282,
          PySem.Value.bool Bool.true, PySem.Value.int 181 0, PySem.Value.ref 283, PySem.Value.none, PySem.Value.ref 284,
          PySem.Value.ref 285, PySem.Value.ref 286, PySem.Value.int 555 0, PySem.Value.int 143 0,
          PySem.Value.str (PySem.Str.ofString "/claim/cut.py") 556] }) ::
(nat_lit 288,
  { cls := PySem.Value.type "function",
    data :=
      PySem.Data.func
        { name := PySem.Str.ofString "common_box", qualname := PySem.Str.ofString "common_box", params := (fnP 19 none),
          body := (fnB 19 none), scope := (fnS 19 none), globals := 3, closure := [], defaults := PySem.Value.none,
          kwdefaults := PySem.Value.none, pyModule := PySem.Value.str (PySem.Str.ofString "paperhold.matrix") 404,
          code := PySem.Value.ref 287 } }) ::
(nat_lit 289, { cls := PySem.Value.type "tuple", data := PySem.Data.seq #[] }) ::
(nat_lit 292,
  { cls := PySem.Value.type "code",
    data :=
      PySem.Data.fields
        #[PySem.Value.str (PySem.Str.ofString "_law_pen") 560, PySem.Value.str (PySem.Str.ofString "_law_pen") 561,
          PySem.Value.str (PySem.Str.ofString "/claim/cut.py") 562, PySem.Value.int 152 0, PySem.Value.int 1 0,
          PySem.Value.int 0 0, PySem.Value.int 0 0, PySem.Value.int 3 0, PySem.Value.ref 289,
          PySem.Value.bool Bool.true, PySem.Value.int 181 0, PySem.Value.ref 290, PySem.Value.none, PySem.Value.none,
          PySem.Value.none, PySem.Value.ref 291, PySem.Value.int 563 0, PySem.Value.int 152 0,
          PySem.Value.str (PySem.Str.ofString "/claim/cut.py") 564] }) ::
(nat_lit 293,
  { cls := PySem.Value.type "function",
    data :=
      PySem.Data.func
        { name := PySem.Str.ofString "_law_pen", qualname := PySem.Str.ofString "_law_pen", params := (fnP 21 none),
          body := (fnB 21 none), scope := (fnS 21 none), globals := 3, closure := [], defaults := PySem.Value.none,
          kwdefaults := PySem.Value.none, pyModule := PySem.Value.str (PySem.Str.ofString "law_nn0204_01") 558,
          code := PySem.Value.ref 292 } }) ::
(nat_lit 294, { cls := PySem.Value.type "tuple", data := PySem.Data.seq #[] }) ::
(nat_lit 296,
  { cls := PySem.Value.type "tuple",
    data :=
      PySem.Data.seq
        #[PySem.Value.str (PySem.Str.ofString "pen") 569, PySem.Value.str (PySem.Str.ofString "many") 570,
          PySem.Value.str (PySem.Str.ofString "digit") 571, PySem.Value.str (PySem.Str.ofString "spot") 572,
          PySem.Value.str (PySem.Str.ofString "cell") 573, PySem.Value.str (PySem.Str.ofString "great") 574,
          PySem.Value.str (PySem.Str.ofString "churned") 575] }) ::
(nat_lit 297, { cls := PySem.Value.type "tuple", data := PySem.Data.seq #[] }) ::
(nat_lit 299,
  { cls := PySem.Value.type "code",
    data :=
      PySem.Data.fields
        #[PySem.Value.str (PySem.Str.ofString "_law_draw") 566, PySem.Value.str (PySem.Str.ofString "_law_draw") 567,
          PySem.Value.str (PySem.Str.ofString "/claim/cut.py") 568, PySem.Value.int 154 0, PySem.Value.int 2 0,
          PySem.Value.int 0 0, PySem.Value.int 0 0, PySem.Value.int 3 0, PySem.Value.ref 294,
          PySem.Value.bool Bool.true, PySem.Value.int 181 0, PySem.Value.ref 295, PySem.Value.none, PySem.Value.ref 296,
          PySem.Value.ref 297, PySem.Value.ref 298, PySem.Value.int 576 0, PySem.Value.int 154 0,
          PySem.Value.str (PySem.Str.ofString "/claim/cut.py") 577] }) ::
(nat_lit 300,
  { cls := PySem.Value.type "function",
    data :=
      PySem.Data.func
        { name := PySem.Str.ofString "_law_draw", qualname := PySem.Str.ofString "_law_draw", params := (fnP 22 none),
          body := (fnB 22 none), scope := (fnS 22 none), globals := 3, closure := [], defaults := PySem.Value.none,
          kwdefaults := PySem.Value.none, pyModule := PySem.Value.str (PySem.Str.ofString "law_nn0204_01") 558,
          code := PySem.Value.ref 299 } }) ::
(nat_lit 301, { cls := PySem.Value.type "tuple", data := PySem.Data.seq #[] }) ::
(nat_lit 303,
  { cls := PySem.Value.type "tuple",
    data :=
      PySem.Data.seq
        #[PySem.Value.str (PySem.Str.ofString "pen") 582, PySem.Value.str (PySem.Str.ofString "way") 583,
          PySem.Value.str (PySem.Str.ofString "sign") 584] }) ::
(nat_lit 304, { cls := PySem.Value.type "tuple", data := PySem.Data.seq #[] }) ::
(nat_lit 306,
  { cls := PySem.Value.type "code",
    data :=
      PySem.Data.fields
        #[PySem.Value.str (PySem.Str.ofString "_law_number") 579,
          PySem.Value.str (PySem.Str.ofString "_law_number") 580,
          PySem.Value.str (PySem.Str.ofString "/claim/cut.py") 581, PySem.Value.int 171 0, PySem.Value.int 1 0,
          PySem.Value.int 0 0, PySem.Value.int 0 0, PySem.Value.int 3 0, PySem.Value.ref 301,
          PySem.Value.bool Bool.true, PySem.Value.int 181 0, PySem.Value.ref 302, PySem.Value.none, PySem.Value.ref 303,
          PySem.Value.ref 304, PySem.Value.ref 305, PySem.Value.int 585 0, PySem.Value.int 171 0,
          PySem.Value.str (PySem.Str.ofString "/claim/cut.py") 586] }) ::
(nat_lit 307,
  { cls := PySem.Value.type "function",
    data :=
      PySem.Data.func
        { name := PySem.Str.ofString "_law_number", qualname := PySem.Str.ofString "_law_number", params := (fnP 23 none),
          body := (fnB 23 none), scope := (fnS 23 none), globals := 3, closure := [], defaults := PySem.Value.none,
          kwdefaults := PySem.Value.none, pyModule := PySem.Value.str (PySem.Str.ofString "law_nn0204_01") 558,
          code := PySem.Value.ref 306 } }) ::
(nat_lit 308, { cls := PySem.Value.type "tuple", data := PySem.Data.seq #[] }) ::
(nat_lit 311,
  { cls := PySem.Value.type "code",
    data :=
      PySem.Data.fields
        #[PySem.Value.str (PySem.Str.ofString "_law_six") 588, PySem.Value.str (PySem.Str.ofString "_law_six") 589,
          PySem.Value.str (PySem.Str.ofString "/claim/cut.py") 590, PySem.Value.int 179 0, PySem.Value.int 1 0,
          PySem.Value.int 0 0, PySem.Value.int 0 0, PySem.Value.int 3 0, PySem.Value.ref 308,
          PySem.Value.bool Bool.true, PySem.Value.int 181 0, PySem.Value.ref 309, PySem.Value.none, PySem.Value.none,
          PySem.Value.none, PySem.Value.ref 310, PySem.Value.int 591 0, PySem.Value.int 179 0,
          PySem.Value.str (PySem.Str.ofString "/claim/cut.py") 592] }) ::
(nat_lit 312,
  { cls := PySem.Value.type "function",
    data :=
      PySem.Data.func
        { name := PySem.Str.ofString "_law_six", qualname := PySem.Str.ofString "_law_six", params := (fnP 24 none),
          body := (fnB 24 none), scope := (fnS 24 none), globals := 3, closure := [], defaults := PySem.Value.none,
          kwdefaults := PySem.Value.none, pyModule := PySem.Value.str (PySem.Str.ofString "law_nn0204_01") 558,
          code := PySem.Value.ref 311 } }) ::
(nat_lit 313, { cls := PySem.Value.type "tuple", data := PySem.Data.seq #[] }) ::
(nat_lit 315,
  { cls := PySem.Value.type "tuple",
    data :=
      PySem.Data.seq
        #[PySem.Value.str (PySem.Str.ofString "worth") 597, PySem.Value.str (PySem.Str.ofString "scale") 598,
          PySem.Value.str (PySem.Str.ofString "places") 599] }) ::
(nat_lit 316, { cls := PySem.Value.type "tuple", data := PySem.Data.seq #[] }) ::
(nat_lit 318,
  { cls := PySem.Value.type "code",
    data :=
      PySem.Data.fields
        #[PySem.Value.str (PySem.Str.ofString "_law_told") 594, PySem.Value.str (PySem.Str.ofString "_law_told") 595,
          PySem.Value.str (PySem.Str.ofString "/claim/cut.py") 596, PySem.Value.int 192 0, PySem.Value.int 2 0,
          PySem.Value.int 0 0, PySem.Value.int 0 0, PySem.Value.int 3 0, PySem.Value.ref 313,
          PySem.Value.bool Bool.true, PySem.Value.int 181 0, PySem.Value.ref 314, PySem.Value.none, PySem.Value.ref 315,
          PySem.Value.ref 316, PySem.Value.ref 317, PySem.Value.int 600 0, PySem.Value.int 192 0,
          PySem.Value.str (PySem.Str.ofString "/claim/cut.py") 601] }) ::
(nat_lit 319,
  { cls := PySem.Value.type "function",
    data :=
      PySem.Data.func
        { name := PySem.Str.ofString "_law_told", qualname := PySem.Str.ofString "_law_told", params := (fnP 25 none),
          body := (fnB 25 none), scope := (fnS 25 none), globals := 3, closure := [], defaults := PySem.Value.none,
          kwdefaults := PySem.Value.none, pyModule := PySem.Value.str (PySem.Str.ofString "law_nn0204_01") 558,
          code := PySem.Value.ref 318 } }) ::
(nat_lit 320, { cls := PySem.Value.type "tuple", data := PySem.Data.seq #[] }) ::
(nat_lit 322, { cls := PySem.Value.type "tuple", data := PySem.Data.seq #[PySem.Value.str (PySem.Str.ofString "six") 606] }) ::
(nat_lit 323, { cls := PySem.Value.type "tuple", data := PySem.Data.seq #[] }) ::
(nat_lit 325,
  { cls := PySem.Value.type "code",
    data :=
      PySem.Data.fields
        #[PySem.Value.str (PySem.Str.ofString "_law_matrix") 603,
          PySem.Value.str (PySem.Str.ofString "_law_matrix") 604,
          PySem.Value.str (PySem.Str.ofString "/claim/cut.py") 605, PySem.Value.int 198 0, PySem.Value.int 1 0,
          PySem.Value.int 0 0, PySem.Value.int 0 0, PySem.Value.int 3 0, PySem.Value.ref 320,
          PySem.Value.bool Bool.true, PySem.Value.int 181 0, PySem.Value.ref 321, PySem.Value.none, PySem.Value.ref 322,
          PySem.Value.ref 323, PySem.Value.ref 324, PySem.Value.int 607 0, PySem.Value.int 198 0,
          PySem.Value.str (PySem.Str.ofString "/claim/cut.py") 608] }) ::
(nat_lit 326,
  { cls := PySem.Value.type "function",
    data :=
      PySem.Data.func
        { name := PySem.Str.ofString "_law_matrix", qualname := PySem.Str.ofString "_law_matrix", params := (fnP 26 none),
          body := (fnB 26 none), scope := (fnS 26 none), globals := 3, closure := [], defaults := PySem.Value.none,
          kwdefaults := PySem.Value.none, pyModule := PySem.Value.str (PySem.Str.ofString "law_nn0204_01") 558,
          code := PySem.Value.ref 325 } }) ::
(nat_lit 327, { cls := PySem.Value.type "tuple", data := PySem.Data.seq #[] }) ::
(nat_lit 330,
  { cls := PySem.Value.type "code",
    data :=
      PySem.Data.fields
        #[PySem.Value.str (PySem.Str.ofString "_law_frame") 610, PySem.Value.str (PySem.Str.ofString "_law_frame") 611,
          PySem.Value.str (PySem.Str.ofString "/claim/cut.py") 612, PySem.Value.int 200 0, PySem.Value.int 1 0,
          PySem.Value.int 0 0, PySem.Value.int 0 0, PySem.Value.int 3 0, PySem.Value.ref 327,
          PySem.Value.bool Bool.true, PySem.Value.int 181 0, PySem.Value.ref 328, PySem.Value.none, PySem.Value.none,
          PySem.Value.none, PySem.Value.ref 329, PySem.Value.int 613 0, PySem.Value.int 200 0,
          PySem.Value.str (PySem.Str.ofString "/claim/cut.py") 614] }) ::
(nat_lit 331,
  { cls := PySem.Value.type "function",
    data :=
      PySem.Data.func
        { name := PySem.Str.ofString "_law_frame", qualname := PySem.Str.ofString "_law_frame", params := (fnP 27 none),
          body := (fnB 27 none), scope := (fnS 27 none), globals := 3, closure := [], defaults := PySem.Value.none,
          kwdefaults := PySem.Value.none, pyModule := PySem.Value.str (PySem.Str.ofString "law_nn0204_01") 558,
          code := PySem.Value.ref 330 } }) ::
(nat_lit 332, { cls := PySem.Value.type "tuple", data := PySem.Data.seq #[] }) ::
(nat_lit 334, { cls := PySem.Value.type "tuple", data := PySem.Data.seq #[PySem.Value.str (PySem.Str.ofString "four") 619] }) ::
(nat_lit 335, { cls := PySem.Value.type "tuple", data := PySem.Data.seq #[] }) ::
(nat_lit 337,
  { cls := PySem.Value.type "code",
    data :=
      PySem.Data.fields
        #[PySem.Value.str (PySem.Str.ofString "_law_sides") 616, PySem.Value.str (PySem.Str.ofString "_law_sides") 617,
          PySem.Value.str (PySem.Str.ofString "/claim/cut.py") 618, PySem.Value.int 205 0, PySem.Value.int 1 0,
          PySem.Value.int 0 0, PySem.Value.int 0 0, PySem.Value.int 3 0, PySem.Value.ref 332,
          PySem.Value.bool Bool.true, PySem.Value.int 181 0, PySem.Value.ref 333, PySem.Value.none, PySem.Value.ref 334,
          PySem.Value.ref 335, PySem.Value.ref 336, PySem.Value.int 620 0, PySem.Value.int 205 0,
          PySem.Value.str (PySem.Str.ofString "/claim/cut.py") 621] }) ::
(nat_lit 338,
  { cls := PySem.Value.type "function",
    data :=
      PySem.Data.func
        { name := PySem.Str.ofString "_law_sides", qualname := PySem.Str.ofString "_law_sides", params := (fnP 28 none),
          body := (fnB 28 none), scope := (fnS 28 none), globals := 3, closure := [], defaults := PySem.Value.none,
          kwdefaults := PySem.Value.none, pyModule := PySem.Value.str (PySem.Str.ofString "law_nn0204_01") 558,
          code := PySem.Value.ref 337 } }) ::
(nat_lit 339, { cls := PySem.Value.type "tuple", data := PySem.Data.seq #[] }) ::
(nat_lit 342,
  { cls := PySem.Value.type "code",
    data :=
      PySem.Data.fields
        #[PySem.Value.str (PySem.Str.ofString "_law_frame_told") 623,
          PySem.Value.str (PySem.Str.ofString "_law_frame_told") 624,
          PySem.Value.str (PySem.Str.ofString "/claim/cut.py") 625, PySem.Value.int 207 0, PySem.Value.int 3 0,
          PySem.Value.int 0 0, PySem.Value.int 0 0, PySem.Value.int 3 0, PySem.Value.ref 339,
          PySem.Value.bool Bool.true, PySem.Value.int 181 0, PySem.Value.ref 340, PySem.Value.none, PySem.Value.none,
          PySem.Value.none, PySem.Value.ref 341, PySem.Value.int 626 0, PySem.Value.int 207 0,
          PySem.Value.str (PySem.Str.ofString "/claim/cut.py") 627] }) ::
(nat_lit 343,
  { cls := PySem.Value.type "function",
    data :=
      PySem.Data.func
        { name := PySem.Str.ofString "_law_frame_told", qualname := PySem.Str.ofString "_law_frame_told",
          params := (fnP 29 none), body := (fnB 29 none), scope := (fnS 29 none), globals := 3, closure := [], defaults := PySem.Value.none,
          kwdefaults := PySem.Value.none, pyModule := PySem.Value.str (PySem.Str.ofString "law_nn0204_01") 558,
          code := PySem.Value.ref 342 } }) ::
(nat_lit 344, { cls := PySem.Value.type "tuple", data := PySem.Data.seq #[] }) ::
(nat_lit 346,
  { cls := PySem.Value.type "tuple",
    data :=
      PySem.Data.seq
        #[PySem.Value.str (PySem.Str.ofString "six") 632, PySem.Value.str (PySem.Str.ofString "x") 633,
          PySem.Value.str (PySem.Str.ofString "y") 634] }) ::
(nat_lit 347, { cls := PySem.Value.type "tuple", data := PySem.Data.seq #[] }) ::
(nat_lit 349,
  { cls := PySem.Value.type "code",
    data :=
      PySem.Data.fields
        #[PySem.Value.str (PySem.Str.ofString "_law_goes") 629, PySem.Value.str (PySem.Str.ofString "_law_goes") 630,
          PySem.Value.str (PySem.Str.ofString "/claim/cut.py") 631, PySem.Value.int 209 0, PySem.Value.int 3 0,
          PySem.Value.int 0 0, PySem.Value.int 0 0, PySem.Value.int 3 0, PySem.Value.ref 344,
          PySem.Value.bool Bool.true, PySem.Value.int 181 0, PySem.Value.ref 345, PySem.Value.none, PySem.Value.ref 346,
          PySem.Value.ref 347, PySem.Value.ref 348, PySem.Value.int 635 0, PySem.Value.int 209 0,
          PySem.Value.str (PySem.Str.ofString "/claim/cut.py") 636] }) ::
(nat_lit 350,
  { cls := PySem.Value.type "function",
    data :=
      PySem.Data.func
        { name := PySem.Str.ofString "_law_goes", qualname := PySem.Str.ofString "_law_goes", params := (fnP 30 none),
          body := (fnB 30 none), scope := (fnS 30 none), globals := 3, closure := [], defaults := PySem.Value.none,
          kwdefaults := PySem.Value.none, pyModule := PySem.Value.str (PySem.Str.ofString "law_nn0204_01") 558,
          code := PySem.Value.ref 349 } }) ::
(nat_lit 351, { cls := PySem.Value.type "tuple", data := PySem.Data.seq #[] }) ::
(nat_lit 353,
  { cls := PySem.Value.type "tuple",
    data :=
      PySem.Data.seq
        #[PySem.Value.str (PySem.Str.ofString "way") 641, PySem.Value.str (PySem.Str.ofString "values") 642,
          PySem.Value.str (PySem.Str.ofString "heard") 643] }) ::
(nat_lit 354, { cls := PySem.Value.type "tuple", data := PySem.Data.seq #[] }) ::
(nat_lit 356,
  { cls := PySem.Value.type "code",
    data :=
      PySem.Data.fields
        #[PySem.Value.str (PySem.Str.ofString "_law_is_refused") 638,
          PySem.Value.str (PySem.Str.ofString "_law_is_refused") 639,
          PySem.Value.str (PySem.Str.ofString "/claim/cut.py") 640, PySem.Value.int 211 0, PySem.Value.int 2 0,
          PySem.Value.int 0 0, PySem.Value.int 0 0, PySem.Value.int 3 0, PySem.Value.ref 351,
          PySem.Value.bool Bool.true, PySem.Value.int 181 0, PySem.Value.ref 352, PySem.Value.none, PySem.Value.ref 353,
          PySem.Value.ref 354, PySem.Value.ref 355, PySem.Value.int 644 0, PySem.Value.int 211 0,
          PySem.Value.str (PySem.Str.ofString "/claim/cut.py") 645] }) ::
(nat_lit 357,
  { cls := PySem.Value.type "function",
    data :=
      PySem.Data.func
        { name := PySem.Str.ofString "_law_is_refused", qualname := PySem.Str.ofString "_law_is_refused",
          params := (fnP 31 none), body := (fnB 31 none), scope := (fnS 31 none), globals := 3, closure := [], defaults := PySem.Value.none,
          kwdefaults := PySem.Value.none, pyModule := PySem.Value.str (PySem.Str.ofString "law_nn0204_01") 558,
          code := PySem.Value.ref 356 } }) ::
(nat_lit 358, { cls := PySem.Value.type "tuple", data := PySem.Data.seq #[] }) ::
(nat_lit 360,
  { cls := PySem.Value.type "tuple",
    data :=
      PySem.Data.seq
        #[PySem.Value.str (PySem.Str.ofString "one") 650, PySem.Value.str (PySem.Str.ofString "two") 651,
          PySem.Value.str (PySem.Str.ofString "sides") 652, PySem.Value.str (PySem.Str.ofString "others") 653,
          PySem.Value.str (PySem.Str.ofString "found") 654, PySem.Value.str (PySem.Str.ofString "due") 655] }) ::
(nat_lit 361, { cls := PySem.Value.type "tuple", data := PySem.Data.seq #[] }) ::
(nat_lit 363,
  { cls := PySem.Value.type "code",
    data :=
      PySem.Data.fields
        #[PySem.Value.str (PySem.Str.ofString "_law_shared_told") 647,
          PySem.Value.str (PySem.Str.ofString "_law_shared_told") 648,
          PySem.Value.str (PySem.Str.ofString "/claim/cut.py") 649, PySem.Value.int 221 0, PySem.Value.int 4 0,
          PySem.Value.int 0 0, PySem.Value.int 0 0, PySem.Value.int 3 0, PySem.Value.ref 358,
          PySem.Value.bool Bool.true, PySem.Value.int 181 0, PySem.Value.ref 359, PySem.Value.none, PySem.Value.ref 360,
          PySem.Value.ref 361, PySem.Value.ref 362, PySem.Value.int 656 0, PySem.Value.int 221 0,
          PySem.Value.str (PySem.Str.ofString "/claim/cut.py") 657] }) ::
(nat_lit 364,
  { cls := PySem.Value.type "function",
    data :=
      PySem.Data.func
        { name := PySem.Str.ofString "_law_shared_told", qualname := PySem.Str.ofString "_law_shared_told",
          params := (fnP 32 none), body := (fnB 32 none), scope := (fnS 32 none), globals := 3, closure := [], defaults := PySem.Value.none,
          kwdefaults := PySem.Value.none, pyModule := PySem.Value.str (PySem.Str.ofString "law_nn0204_01") 558,
          code := PySem.Value.ref 363 } }) ::
(nat_lit 365, { cls := PySem.Value.type "tuple", data := PySem.Data.seq #[] }) ::
(nat_lit 368,
  { cls := PySem.Value.type "code",
    data :=
      PySem.Data.fields
        #[PySem.Value.str (PySem.Str.ofString "law") 659, PySem.Value.str (PySem.Str.ofString "law") 660,
          PySem.Value.str (PySem.Str.ofString "/claim/cut.py") 661, PySem.Value.int 227 0, PySem.Value.int 1 0,
          PySem.Value.int 0 0, PySem.Value.int 0 0, PySem.Value.int 3 0, PySem.Value.ref 365,
          PySem.Value.bool Bool.true, PySem.Value.int 181 0, PySem.Value.ref 366, PySem.Value.none, PySem.Value.none,
          PySem.Value.none, PySem.Value.ref 367, PySem.Value.int 662 0, PySem.Value.int 227 0,
          PySem.Value.str (PySem.Str.ofString "/claim/cut.py") 663] }) ::
(nat_lit 369,
  { cls := PySem.Value.type "function",
    data :=
      PySem.Data.func
        { name := PySem.Str.ofString "law", qualname := PySem.Str.ofString "law", params := (fnP 33 none), body := (fnB 33 none),
          scope := (fnS 33 none), globals := 3, closure := [], defaults := PySem.Value.none, kwdefaults := PySem.Value.none,
          pyModule := PySem.Value.str (PySem.Str.ofString "law_nn0204_01") 558, code := PySem.Value.ref 368 } }) :: []
def asL : List Addr := [2, 3, 15, 17, 18, 20, 21, 22, 29, 30, 32, 33, 35, 36, 37, 39, 40, 42, 43, 44, 45, 46, 47, 57, 59, 60, 62, 63, 64, 66, 67, 69, 70, 71, 73, 74, 76, 77, 78, 80, 81, 83, 84, 85, 87, 88, 90, 91, 92, 94, 95, 97, 98, 99, 101, 102, 104, 105, 106, 108, 109, 111, 112, 113, 115, 116, 118, 119, 120, 122, 123, 125, 126, 127, 129, 130, 132, 133, 134, 136, 137, 139, 140, 141, 142, 143, 144, 145, 148, 150, 151, 153, 154, 155, 157, 158, 160, 161, 162, 164, 165, 167, 168, 169, 171, 172, 174, 175, 176, 178, 179, 181, 182, 190, 192, 193, 195, 196, 197, 199, 200, 202, 203, 204, 206, 207, 209, 210, 211, 213, 214, 216, 217, 218, 220, 221, 223, 224, 225, 228, 229, 230, 231, 232, 233, 234, 237, 239, 240, 242, 243, 244, 247, 248, 249, 251, 252, 254, 255, 256, 258, 259, 261, 262, 263, 266, 267, 268, 270, 271, 273, 274, 275, 277, 278, 280, 281, 282, 284, 285, 287, 288, 289, 292, 293, 294, 296, 297, 299, 300, 301, 303, 304, 306, 307, 308, 311, 312, 313, 315, 316, 318, 319, 320, 322, 323, 325, 326, 327, 330, 331, 332, 334, 335, 337, 338, 339, 342, 343, 344, 346, 347, 349, 350, 351, 353, 354, 356, 357, 358, 360, 361, 363, 364, 365, 368, 369]
theorem heap_as : ∀ P : Params, asL = (hd.heap_39 P).map (·.1) := fun _ => by kernel_rfl
theorem left_slim : LeftO (PySem.Challenge.rw_nn0204_01.row.toRowW.prog) hd.view_39 [Str.ofString "PaperError"] (fun s => xlAt hd.view_39 [] s && recOk PySem.Challenge.rw_nn0204_01.row.records s) (kHook hd.heap_39 asL heap_as).obs (kHook hd.heap_39 asL heap_as).val 4290 := by
  intro w
  kernel_rfl
theorem said_slim : OpenLaw.wellSaid PySem.Challenge.rw_nn0204_01 = true := by kernel_rfl
def dLaw : DefRec := { name := Str.ofString "law", params := fnP 33 none, body := match fnB 33 none with | .stmts b => b | _ => [], scope := fnS 33 none, pos := { line := 227, col := 0, endLine := 277, endCol := 88 } }
theorem hd (call : WalkO hd.view_39 [Str.ofString "PaperError"] (XL hd.view_39 []) (kHook hd.heap_39 asL heap_as).says PySem.Challenge.rw_nn0204_01.row.toRowW dLaw [] fun f vs => PySem.call f vs) : PySem.Challenge.rw_nn0204_01.Holds := by
  refine holds_law said_slim fun said => ?_
  refine holds_open left_slim (Hook.of (kHook hd.heap_39 asL heap_as)) (Hook.keeps (kHook hd.heap_39 asL heap_as)) (fun s e => xl_of s (Bool.and_eq_true_iff.mp e).1) XL.keeps (by kernel_rfl) (by kernel_rfl) (by kernel_rfl) (fun s e => recFacts_of (Bool.and_eq_true_iff.mp e).2) (by rfl) said (by decide +kernel) ⟨rfl, rfl, rfl, rfl, rfl, by decide +kernel⟩ ?hw call
  case hw => w_witness2
-- P01base
abbrev Led := List (Addr × Obj)

/-- what a call of the text's own asks of the caller's place -/
structure Cx (w : World) (dp : Nat) (cs : Scope) (outer : List Env) (A₀ : Around) (base h₀ : Heap) (L : Addr) (m : Str → Option Value) (s : Shared) (news : Led) (mean : ExcName → Option Value) (mg mb : Str → Option Value) (dN : Nat) : Prop where
  B : Below A₀ base outer h₀
  F : Fr h₀ L s.heap m
  X : (hd.heap_39 w.params).In h₀
  N : News h₀ L s.heap news
  T : Top hd.view_39 (looseW hd.view_39 [Str.ofString "PaperError"]) mean mg mb h₀
  hk : cs.kind = .function
  hd : dp + dN < recursionLimit

/-- what is asked of what comes back (a mark for the walk's sides) -/
def Ret (p : Prop) : Prop := p
theorem Ret.mk {p : Prop} (h : p) : Ret p := h

/-- the normal form of t / 10 ^ k -/
def nmN : Int → Nat → Int × Nat
  | t, 0 => (t, 0)
  | t, n + 1 => if t % 10 = 0 then nmN (t / 10) n else (t, n + 1)
def nmT (t : Int) (k : Nat) : Int := (nmN t k).1
def nmP (t : Int) (k : Nat) : Int := ((nmN t k).2 : Int)

abbrev decO (w : World) (wv : Int) (k : Nat) (u a b v : Tok) : Obj :=
  dictOf [⟨PyData.keyHash w.params (Str.ofString "top"), .str (Str.ofString "top") a, .int (nmT wv k) u⟩, ⟨PyData.keyHash w.params (Str.ofString "places"), .str (Str.ofString "places") b, .int (nmP wv k) v⟩] 2

theorem nm_acc {top p k : Int} (hp : 0 ≤ p) (hk : k ≤ p) (hm : min p 0 ≤ k)
    (ht : ∀ j, k < j → j ≤ p → (if 0 < j then if ((accDown (fun _ x => Int.fdiv x 10) p top j).fmod 10 == 0) = true then true else false else false) = true)
    (hf : (if 0 < k then if ((accDown (fun _ x => Int.fdiv x 10) p top k).fmod 10 == 0) = true then true else false else false) = false) :
    accDown (fun _ x => Int.fdiv x 10) p top k = nmT top p.toNat ∧ k = nmP top p.toNat := by
  have hk0 : 0 ≤ k := by omega
  have key : ∀ n : Nat, ∀ j : Int, (p - j).toNat = n → k ≤ j → j ≤ p → nmN top p.toNat = nmN (accDown (fun _ x => Int.fdiv x 10) p top j) j.toNat := by
    intro n
    induction n with
    | zero =>
      intro j h1 h2 h3
      have : j = p := by omega
      subst this
      rw [accDown_start]
    | succ n ih =>
      intro j h1 h2 h3
      have h4 := ih (j + 1) (by omega) (by omega) (by omega)
      rw [h4]
      have h5 := ht (j + 1) (by omega) (by omega)
      have e1 : (j + 1).toNat = j.toNat + 1 := by omega
      rw [e1, nmN]
      have h6 := accDown_succ (g := fun _ x => Int.fdiv x 10) (k₀ := p) (k := j + 1) (x₀ := top) (by omega)
      have e2 : j + 1 - 1 = j := by omega
      rw [e2] at h6
      rw [h6]
      have h7 : 0 < j + 1 := by omega
      rw [if_pos h7] at h5
      by_cases h8 : ((accDown (fun _ x => Int.fdiv x 10) p top (j + 1)).fmod 10 == 0) = true
      · have h9 : (accDown (fun _ x => Int.fdiv x 10) p top (j + 1)).fmod 10 = 0 := by simpa using h8
        rw [Int.fmod_eq_emod_of_nonneg _ (by omega)] at h9
        rw [if_pos h9]
        rw [Int.fdiv_eq_ediv_of_nonneg _ (by omega)]
      · rw [if_neg h8] at h5
        cases h5
  have h1 := key _ k rfl (by omega) hk
  unfold nmT nmP
  rw [h1]
  by_cases h2 : 0 < k
  · rw [if_pos h2] at hf
    have e1 : k.toNat = (k.toNat - 1) + 1 := by omega
    by_cases h8 : ((accDown (fun _ x => Int.fdiv x 10) p top k).fmod 10 == 0) = true
    · rw [if_pos h8] at hf
      cases hf
    · have h9 : ¬ (accDown (fun _ x => Int.fdiv x 10) p top k) % 10 = 0 := by
        intro q
        apply h8
        rw [Int.fmod_eq_emod_of_nonneg _ (by omega), q]
        rfl
      rw [e1, nmN, if_neg h9]
      constructor
      · rfl
      · show k = ((k.toNat - 1 + 1 : Nat) : Int)
        omega
  · have : k = 0 := by omega
    subst this
    constructor <;> rfl

theorem nm_places (t : Int) : ∀ k, (nmN t k).2 ≤ k := by
  intro k
  induction k generalizing t with
  | zero => simp [nmN]
  | succ n ih =>
    rw [nmN]
    split
    · exact Nat.le_succ_of_le (ih _)
    · exact Nat.le_refl _
theorem nm_back (t : Int) : ∀ k, (nmN t k).1 * 10 ^ (k - (nmN t k).2) = t := by
  intro k
  induction k generalizing t with
  | zero => simp [nmN]
  | succ n ih =>
    rw [nmN]
    split
    · rename_i h
      have h1 := ih (t / 10)
      have h2 := nm_places (t / 10) n
      have e : n + 1 - (nmN (t / 10) n).2 = (n - (nmN (t / 10) n).2) + 1 := by omega
      rw [e, Int.pow_succ, ← Int.mul_assoc, h1]
      omega
    · simp
theorem nm_lift (t : Int) (k j : Nat) : nmN (t * 10 ^ j) (k + j) = nmN t k := by
  induction j with
  | zero => simp
  | succ j ih =>
    have e : k + (j + 1) = (k + j) + 1 := by omega
    rw [e, nmN]
    have h1 : t * 10 ^ (j + 1) = (t * 10 ^ j) * 10 := by rw [Int.pow_succ, Int.mul_assoc]
    have h2 : t * 10 ^ (j + 1) % 10 = 0 := by rw [h1]; omega
    rw [if_pos h2]
    have h3 : t * 10 ^ (j + 1) / 10 = t * 10 ^ j := by rw [h1]; omega
    rw [h3, ih]
/-- one scale for the other -/
theorem nm_at (t : Int) {k k' : Nat} (h : k ≤ k') : nmN (t * 10 ^ (k' - k)) k' = nmN t k := by
  have := nm_lift t k (k' - k)
  rwa [Nat.add_sub_cancel' h] at this
theorem nmP_nonneg (t : Int) (k : Nat) : 0 ≤ nmP t k := by unfold nmP; omega
theorem nmP_le (t : Int) (k : Nat) : nmP t k ≤ k := by have := nm_places t k; unfold nmP; omega
theorem natAbs_le_mul_pow (a : Int) (j : Nat) : a.natAbs ≤ (a * 10 ^ j).natAbs := by
  rw [Int.natAbs_mul, Int.natAbs_pow]
  have : 1 ≤ (10 : Int).natAbs ^ j := Nat.one_le_pow _ _ (by decide)
  calc a.natAbs = a.natAbs * 1 := (Nat.mul_one _).symm
    _ ≤ a.natAbs * (10 : Int).natAbs ^ j := Nat.mul_le_mul_left _ this
theorem nmT_abs (t : Int) (k : Nat) : (nmT t k).natAbs ≤ t.natAbs := by
  have h := nm_back t k
  have h2 := natAbs_le_mul_pow (nmN t k).1 (k - (nmN t k).2)
  rw [h] at h2
  exact h2
/-- the top of a normal form over places between its own and the scale's -/
theorem nm_scaled (t : Int) (k p : Nat) (h1 : (nmN t k).2 ≤ p) (h2 : p ≤ k) : (nmN t k).1 * 10 ^ (p - (nmN t k).2) * 10 ^ (k - p) = t := by
  rw [Int.mul_assoc, ← Int.pow_add]
  have : p - (nmN t k).2 + (k - p) = k - (nmN t k).2 := by omega
  rw [this, nm_back]
theorem nm_sum (x y : Int) (k p : Nat) (hx : (nmN x k).2 ≤ p) (hy : (nmN y k).2 ≤ p) (hp : p ≤ k) :
    nmN ((nmN x k).1 * 10 ^ (p - (nmN x k).2) + (nmN y k).1 * 10 ^ (p - (nmN y k).2)) p = nmN (x + y) k := by
  have h1 := nm_scaled x k p hx hp
  have h2 := nm_scaled y k p hy hp
  rw [← nm_at _ hp, Int.add_mul, h1, h2]
theorem nm_diff (x y : Int) (k p : Nat) (hx : (nmN x k).2 ≤ p) (hy : (nmN y k).2 ≤ p) (hp : p ≤ k) :
    nmN ((nmN x k).1 * 10 ^ (p - (nmN x k).2) - (nmN y k).1 * 10 ^ (p - (nmN y k).2)) p = nmN (x - y) k := by
  have h1 := nm_scaled x k p hx hp
  have h2 := nm_scaled y k p hy hp
  rw [← nm_at _ hp, Int.sub_mul, h1, h2]
theorem nm_prod (x y : Int) (k k' : Nat) : nmN ((nmN x k).1 * (nmN y k').1) ((nmN x k).2 + (nmN y k').2) = nmN (x * y) (k + k') := by
  have h1 := nm_back x k
  have h2 := nm_back y k'
  have h3 := nm_places x k
  have h4 := nm_places y k'
  have e : (k + k') - ((nmN x k).2 + (nmN y k').2) = (k - (nmN x k).2) + (k' - (nmN y k').2) := by omega
  rw [← nm_at ((nmN x k).1 * (nmN y k').1) (show (nmN x k).2 + (nmN y k').2 ≤ k + k' by omega), e, Int.pow_add]
  have : (nmN x k).1 * (nmN y k').1 * (10 ^ (k - (nmN x k).2) * 10 ^ (k' - (nmN y k').2)) = x * y := by
    calc (nmN x k).1 * (nmN y k').1 * (10 ^ (k - (nmN x k).2) * 10 ^ (k' - (nmN y k').2))
        = ((nmN x k).1 * 10 ^ (k - (nmN x k).2)) * ((nmN y k').1 * 10 ^ (k' - (nmN y k').2)) := by ac_rfl
      _ = x * y := by rw [h1, h2]
  rw [this]
def signOf (n : Int) : Int := if n = 0 then 0 else if n > 0 then 1 else -1
theorem signOf_scale (n : Int) (j : Nat) : signOf (n * 10 ^ j) = signOf n := by
  have hp : (0 : Int) < 10 ^ j := Int.pow_pos (by decide)
  unfold signOf
  by_cases h0 : n = 0
  · subst h0; simp
  · by_cases h1 : n > 0
    · have : n * 10 ^ j > 0 := Int.mul_pos h1 hp
      rw [if_neg (by omega), if_pos this, if_neg h0, if_pos h1]
    · have : n * 10 ^ j < 0 := Int.mul_neg_of_neg_of_pos (by omega) hp
      rw [if_neg (by omega), if_neg (by omega), if_neg h0, if_neg h1]
theorem sign_diff (x y : Int) (k p : Nat) (hx : (nmN x k).2 ≤ p) (hy : (nmN y k).2 ≤ p) (hp : p ≤ k) :
    signOf ((nmN x k).1 * 10 ^ (p - (nmN x k).2) - (nmN y k).1 * 10 ^ (p - (nmN y k).2)) = signOf (x - y) := by
  have h1 := nm_scaled x k p hx hp
  have h2 := nm_scaled y k p hy hp
  rw [← signOf_scale _ (k - p), Int.sub_mul, h1, h2]

/-- a call of the contract at this place -/
theorem atC {M : Model} {A : Around} {E Q : Value → Shared → Prop} {s : Shared} {as : List Value} {kw : List (Str × Value)} (a : Addr) (h : wpAny M A (call (.ref a) as kw) Q E s) : wpAny M A (call (.ref a) as kw) Q E s := h
theorem room1 {x N c a : Nat} (h : x + N < c) (hn : Nat.ble a N = true) : x + a < c := Nat.lt_of_le_of_lt (Nat.add_le_add_left (Nat.le_of_ble_eq_true hn) x) h
theorem room2 {x N c a b : Nat} (h : x + N < c) (hn : Nat.ble (a + b) N = true) : x + a + b < c := by rw [Nat.add_assoc]; exact room1 h hn
theorem room3 {x N c a b d : Nat} (h : x + N < c) (hn : Nat.ble (a + (b + d)) N = true) : x + a + b + d < c := by rw [Nat.add_assoc]; exact room2 h hn
theorem inLt {x b : Nat} {P Q : Prop} (h : x < b ∧ P) (f : x < b ∧ P → Q) : Q := f h
theorem inNe {x b : Nat} {P Q : Prop} (h : x ≠ b ∧ P) (f : x ≠ b ∧ P → Q) : Q := f h
theorem inNe3 {x i c d : Nat} {P Q : Prop} (h : (x ≠ i ∧ x ≠ c ∧ x ≠ d) ∧ P) (f : (x ≠ i ∧ x ≠ c ∧ x ≠ d) ∧ P → Q) : Q := f h
theorem neLt {a b : Nat} (h : a < b) : a ≠ b := Nat.ne_of_lt h
theorem neGt {a b : Nat} (h : b < a) : a ≠ b := Nat.ne_of_gt h
theorem neSy {a b : Nat} (h : b ≠ a) : a ≠ b := Ne.symm h

/- Short words for the tactics that stand in many walks. They are laid on tactics of the library that these walks do not use (a walk_at tries every line of the library before it fails: 35 ms):
   kas_types: membership in a ledger (k_mem by itself takes two ways at each entry); krn_off: depth and units; kpc_turns: the caller's place; kat_tups, kbo_bools, kcf_all, kct_strs: orders and differences of addresses out of the facts at hand;
   kpt_turns: a contract's premises by their shape; kfm_turns: the rest of them; kp_flats: all of them; keq_rows, keq_hits: the call's end -/
local macro_rules | `(tactic| krn_off) => `(tactic| first | exact room1 (by with_reducible assumption) rfl | exact room2 (by with_reducible assumption) rfl | exact room3 (by with_reducible assumption) rfl | omega)
local macro_rules | `(tactic| ktr_room) => `(tactic| ((try simp only [depth_under_make, depth_under_kw, depth_in1, depth_deeper, depth_caller]); (try dsimp only [ktrTop]); krn_off))
local macro_rules | `(tactic| ktr_call $b:term 1) => `(tactic| k_dflt (
  refine' code_def (binds := $b) ?k1 ?k2 ?k3 ?k4 ?k5 ?kA ?kF ?kK ?k6 ?k7 ?k8 ?k9 ?kB ?_ ?c2 ?c3 ?c4 ?c5; (case kA => first | exact rfl | assumption); (case kF => first | exact rfl | assumption); (case kK => first | exact rfl | assumption); (case k1 => k_asm); (case k2 => k_asm); (case k3 => k_asm); (case k4 => k_asm); (case k5 => k_asm); (case k6 => k_is); (case k7 => k_is); (case k8 => ktr_room); (case k9 => exact BindsTo.of_eq rfl); (case c5 => decide); (case kB => exact locs rfl); (case c2 => exact rfl); (case c3 => exact rfl); (case c4 => exact rfl); k_whole; intro g' L' h' FG' F' N' B' X' T'; (try dsimp only); (try k_fold)))
local macro_rules | `(tactic| k_mem) => `(tactic| kas_types)
local macro_rules | `(tactic| kas_types) => `(tactic| first | exact List.Mem.head _ | with_reducible assumption | (refine List.mem_cons_of_mem _ ?_; kas_types))
local macro_rules | `(tactic| kpc_turns) => `(tactic| exact Cx.mk (by k_asm) (by k_asm) (by k_asm) (by k_asm) (by k_asm) (by first | exact rfl | assumption) (by ktr_room))
local macro_rules | `(tactic| kat_tups) => `(tactic| first | exact fun h => h.1 | exact fun h => h.2.1 | exact fun h => h.2.2.1 | exact fun h => h.2.2.2.1 | exact fun h => h.2.2.2.2.1 | exact fun h => h.2.2.2.2.2.1 | exact fun h => h.2.2.2.2.2.2.1 | exact fun h => h.2.2.2.2.2.2.2.1 | exact fun h => h.2.2.2.2.2.2.2.2.1)
local macro_rules | `(tactic| kbo_bools) => `(tactic| first | with_reducible assumption | (refine inLt (by with_reducible assumption) ?_; kat_tups))
local macro_rules | `(tactic| kcf_all) => `(tactic| first | kbo_bools | omega)
local macro_rules | `(tactic| kct_strs) => `(tactic| first | with_reducible assumption | (refine inNe (by with_reducible assumption) ?_; kat_tups) | (refine inNe3 (by with_reducible assumption) ?_; first | exact fun h => h.1.1 | exact fun h => h.1.2.1 | exact fun h => h.1.2.2 | exact fun h => h.2.1.1 | exact fun h => h.2.1.2.1 | exact fun h => h.2.1.2.2 | exact fun h => h.2.2.1.1 | exact fun h => h.2.2.1.2.1 | exact fun h => h.2.2.1.2.2))
local macro_rules | `(tactic| k_ne) => `(tactic| (refine neN ?_; (try dsimp only); first | kct_strs | (refine neSy ?_; kct_strs) | (refine neLt ?_; kbo_bools) | (refine neGt ?_; kbo_bools) | omega))
local macro_rules | `(tactic| kpt_turns) => `(tactic| first | kpc_turns | ((with_reducible show _ ∈ _); k_mem) | ((with_reducible show News _ _ _ _); k_asm) | ((with_reducible show Fr _ _ _ _); k_asm) | ((with_reducible show Around.handled _ = _); with_unfolding_all rfl) | ((with_reducible show IntsAre _ _); assumption))
local macro_rules | `(tactic| kfm_turns) => `(tactic| first | with_reducible assumption | decide | omega | units_room | assumption | exact .inl rfl | exact .inr rfl)
local macro_rules | `(tactic| kp_flats) => `(tactic| first | ((all_goals try kpt_turns); all_goals first | with_reducible refine Ret.mk ?_ | (k_whole; kfm_turns)) | fail "sides")
local macro_rules | `(tactic| keq_rows) => `(tactic| (kp_flats; all_goals (k_whole; intros; (try ((with_reducible rename AllLt _ _ => l1'); simp only [AllLt, and_true] at l1')); (try ((with_reducible rename LCg.Off1 _ _ => l3'); simp only [LCg.Off1, and_true] at l3')); (try k_sweep))))
local macro_rules | `(tactic| keq_hits) => `(tactic| (kp_flats; k_whole; intros; (with_reducible rename News _ _ _ _ => kN'); (try dsimp only at kN'); (try ((with_reducible rename LCg.Off1 _ _ => l3'); (try dsimp only at l3'); simp only [LCg.Off1, and_true] at l3')); (try k_sweep)))
-- P28nm
theorem named_eq {m m' : Str → Option Value} {x : Str} {v : Value} (e : m' = m) (hx : m x = some v) : (fun y => if y = x then some v else m' y) = m := by
  subst e
  funext y
  split
  · rename_i q; rw [q, hx]
  · rfl
theorem Fr_cast {h₀ h : Heap} {L : Addr} {m m' : Str → Option Value} (F : Fr h₀ L h m) (e : m' = m) : Fr h₀ L h m' := e ▸ F
-- P02dec
section
variable {w : World} {dp un : Nat} {gd : Option (List Code)} {cn : Str} {cs : Scope} {ca : Addr} {ccd : Value} {cl : List (Str × Addr)} {A₀ : Around} {outer : List Env} {base h₀ : Heap} {L : Addr} {m : Str → Option Value} {s : Shared} {news : Led} {mean : ExcName → Option Value} {mg mb : Str → Option Value} {Q E : Value → Shared → Prop}

/-- Decimal(top, places) -/
theorem c_dec {top p : Int} {tt tp : Tok} (C : Cx w dp cs outer A₀ base h₀ L m s news mean mg mb 3) (hp : 0 ≤ p)
    (hret : Ret (∀ x d u a b v h' tk', Fr h₀ L h' m → News h₀ L h' ((x, instObj 143 d) :: (d, decO w top p.toNat u a b v) :: news) → AllLt d news → @LT.lt Nat _ d x → Q (.ref x) { s with heap := h', toks := tk' })) :
    wpAny (model PySem.Challenge.rw_nn0204_01.row.prog w) (ktrTop dp un gd cn cs L ca ccd cl outer) (call (.ref 143) [.int top tt, .int p tp]) Q E s := by
  obtain ⟨B, F, X, N, T, hk, hd⟩ := C
  w_on
  revert X; k_fill; intro X
  k_dflt (refine' call_cls ?k1 ?k2 ?k3 ?k4 ?k5 ?k6 ?_; (case k1 => k_asm); (case k2 => k_asm); (case k3 => k_asm); (case k4 => k_is); (case k5 => k_is); (case k6 => k_is); k_whole; intro x' d' h' F' N' l1 l2; (try k_lt2 l2); (try k_sweep))
  ktr_call [(Str.ofString "self", .ref x'), (Str.ofString "top", .int top tt), (Str.ofString "places", .int p tp)] 1
  k_steps
  rename_i k t u h2 tk2 a4 a3 a2 a1 a0 h1 h0 F1 N1 kF kN Tc kX
  obtain ⟨e1, e2⟩ := nm_acc hp a4 a3 a2 a1
  rw [e1] at kN
  rw [e2] at kN
  exact hret _ _ _ _ _ _ _ _ kF kN (allLt_of l1) l2

/-- sign_of(number) -/
theorem c_sign {n : Int} {t : Tok} (C : Cx w dp cs outer A₀ base h₀ L m s news mean mg mb 3)
    (hret : Ret (∀ u h' tk', Fr h₀ L h' m → News h₀ L h' news → Q (.int (signOf n) u) { s with heap := h', toks := tk' })) :
    wpAny (model PySem.Challenge.rw_nn0204_01.row.prog w) (ktrTop dp un gd cn cs L ca ccd cl outer) (call (.ref 154) [.int n t]) Q E s := by
  obtain ⟨B, F, X, N, T, hk, hd⟩ := C
  w_on
  revert X; k_fill; intro X
  refine wpAny_call ?_
  ktr_call [(Str.ofString "number", .int n t)] 1
  k_steps
  all_goals (refine cb_retI hret ?_ (by assumption) (by assumption); unfold signOf; (repeat' split) <;> omega)

/-- decimal_of(a Decimal) -/
theorem c_decOf {x d : Addr} {od : Obj} (C : Cx w dp cs outer A₀ base h₀ L m s news mean mg mb 3) (mx : (x, instObj 143 d) ∈ news) (md : (d, od) ∈ news)
    (hret : Ret (∀ h' tk', Fr h₀ L h' m → News h₀ L h' news → Q (.ref x) { s with heap := h', toks := tk' })) :
    wpAny (model PySem.Challenge.rw_nn0204_01.row.prog w) (ktrTop dp un gd cn cs L ca ccd cl outer) (call (.ref 161) [.ref x]) Q E s := by
  obtain ⟨B, F, X, N, T, hk, hd⟩ := C
  w_on
  revert X; k_fill; intro X
  refine wpAny_call ?_
  ktr_call [(Str.ofString "value", .ref x)] 1
  k_steps
  exact hret _ _ (by assumption) (by assumption)

end
local macro_rules | `(tactic| walk_at "call ref") => `(tactic| (with_reducible refine atC 143 ?_; k_dflt (refine' c_dec _ _ _; keq_rows)))
section
variable {w : World} {dp un : Nat} {gd : Option (List Code)} {cn : Str} {cs : Scope} {ca : Addr} {ccd : Value} {cl : List (Str × Addr)} {A₀ : Around} {outer : List Env} {base h₀ : Heap} {L : Addr} {m : Str → Option Value} {s : Shared} {news : Led} {mean : ExcName → Option Value} {mg mb : Str → Option Value} {Q E : Value → Shared → Prop}
/-- decimal_of(an int) -/
theorem c_decIX {n : Int} {t : Tok} (C : Cx w dp cs outer A₀ base h₀ L m s news mean mg mb 6)
    (hret : ∀ x d u a b v h' tk', Fr h₀ L h' m → News h₀ L h' ((x, instObj 143 d) :: (d, decO w n 0 u a b v) :: news) → AllLt d news → @LT.lt Nat _ d x → Q (.ref x) { s with heap := h', toks := tk' }) :
    wpAny (model PySem.Challenge.rw_nn0204_01.row.prog w) (ktrTop dp un gd cn cs L ca ccd cl outer) (call (.ref 161) [.int n t]) Q E s := by
  obtain ⟨B, F, X, N, T, hk, hd⟩ := C
  w_on
  revert X; k_fill; intro X
  refine wpAny_call ?_
  ktr_call [(Str.ofString "value", .int n t)] 1
  k_steps
  exact hret _ _ _ _ _ _ _ _ (by assumption) (by assumption) (by assumption) (by assumption)

end
local macro_rules | `(tactic| walk_at "call ref") => `(tactic| (with_reducible refine atC 161 ?_; k_dflt (refine' c_decOf _ _ _ _; keq_rows)))
local macro_rules | `(tactic| walk_at "call ref") => `(tactic| (with_reducible refine atC 154 ?_; k_dflt (refine' c_sign _ _; keq_rows)))
section
variable {w : World} {dp un : Nat} {gd : Option (List Code)} {cn : Str} {cs : Scope} {ca : Addr} {ccd : Value} {cl : List (Str × Addr)} {A₀ : Around} {outer : List Env} {base h₀ : Heap} {L : Addr} {m : Str → Option Value} {s : Shared} {news : Led} {mean : ExcName → Option Value} {mg mb : Str → Option Value} {Q E : Value → Shared → Prop}

theorem mulok_l {a b : Int} (h : a.natAbs < 2 ^ 63) : PySem.IntMulOk a b := IntMulOk.of_left (intBits_le_64 (by omega) (by omega))
theorem mulok_r {a b : Int} (h : b.natAbs < 2 ^ 63) : PySem.IntMulOk a b := IntMulOk.of_right (intBits_le_64 (by omega) (by omega))
theorem pow10 {prog : Program} {A : Around} {n : Int} {t u : Tok} (h0 : 0 ≤ n) (h1 : n ≤ 100) (h : ∀ t' tk, Q (.int (10 ^ n.toNat) t') { s with toks := tk }) : wpAny (model prog w) A (binaryOp .Pow (.int 10 t) (.int n u)) Q E s := by
  refine PyProof.Rows.pow_int h0 ?_ (h _ _)
  have : (Builtin.Int.intBits 10 : Int) = 4 := by decide +kernel
  rw [this]
  omega
theorem mul_k {prog : Program} {A : Around} {x y : Int} {t u : Tok} (hm : PySem.IntMulOk x y) (h : ∀ t' tk, Q (.int (x * y) t') { s with toks := tk }) : wpAny (model prog w) A (binaryOp .Mult (.int x t) (.int y u)) Q E s :=
  PyProof.Rows.mul_int (h _ _) hm
end
local macro_rules | `(tactic| walk_at "binaryOp Pow int int") => `(tactic| (refine pow10 (by omega) (by omega) ?_; intro _ _; (try dsimp only)))
local macro_rules | `(tactic| walk_at "binaryOp Mult int int") => `(tactic| (refine mul_k (by first | exact mulok_l (by assumption) | exact mulok_r (by assumption) | mul_fits) ?_; intro _ _; (try dsimp only)))
-- P03scale
def scP (w1 w2 : Int) (k : Nat) : Int := if nmP w2 k > nmP w1 k then nmP w2 k else nmP w1 k
def scA (w1 w2 : Int) (k : Nat) : Int := nmT w1 k * 10 ^ (scP w1 w2 k - nmP w1 k).toNat
def scB (w1 w2 : Int) (k : Nat) : Int := nmT w2 k * 10 ^ (scP w1 w2 k - nmP w2 k).toNat
theorem scP_nonneg (w1 w2 : Int) (k : Nat) : 0 ≤ scP w1 w2 k := by
  have q1 := nmP_nonneg w1 k
  have q3 := nmP_nonneg w2 k
  unfold scP; split <;> omega
theorem sc_ways (w1 w2 : Int) (k : Nat) : ∃ p : Nat, scP w1 w2 k = p ∧ (nmN w1 k).2 ≤ p ∧ (nmN w2 k).2 ≤ p ∧ p ≤ k ∧ scA w1 w2 k = (nmN w1 k).1 * 10 ^ (p - (nmN w1 k).2) ∧ scB w1 w2 k = (nmN w2 k).1 * 10 ^ (p - (nmN w2 k).2) := by
  have h1 := nm_places w1 k
  have h2 := nm_places w2 k
  have h0 := scP_nonneg w1 w2 k
  have h3 : scP w1 w2 k = ((max (nmN w1 k).2 (nmN w2 k).2 : Nat) : Int) := by
    unfold scP nmP; split <;> omega
  refine ⟨_, h3, by omega, by omega, by omega, ?_, ?_⟩
  · unfold scA
    rw [h3]
    have e : (((max (nmN w1 k).2 (nmN w2 k).2 : Nat) : Int) - nmP w1 k).toNat = max (nmN w1 k).2 (nmN w2 k).2 - (nmN w1 k).2 := by unfold nmP; omega
    rw [e]; rfl
  · unfold scB
    rw [h3]
    have e : (((max (nmN w1 k).2 (nmN w2 k).2 : Nat) : Int) - nmP w2 k).toNat = max (nmN w1 k).2 (nmN w2 k).2 - (nmN w2 k).2 := by unfold nmP; omega
    rw [e]; rfl
theorem sc_sum (w1 w2 : Int) (k : Nat) : nmN (scA w1 w2 k + scB w1 w2 k) (scP w1 w2 k).toNat = nmN (w1 + w2) k := by
  obtain ⟨p, e, h1, h2, h3, ea, eb⟩ := sc_ways w1 w2 k
  rw [e, ea, eb, Int.toNat_natCast]
  exact nm_sum _ _ _ _ h1 h2 h3
theorem sc_diff (w1 w2 : Int) (k : Nat) : nmN (scA w1 w2 k - scB w1 w2 k) (scP w1 w2 k).toNat = nmN (w1 - w2) k := by
  obtain ⟨p, e, h1, h2, h3, ea, eb⟩ := sc_ways w1 w2 k
  rw [e, ea, eb, Int.toNat_natCast]
  exact nm_diff _ _ _ _ h1 h2 h3
theorem sc_sign (w1 w2 : Int) (k : Nat) : signOf (scA w1 w2 k - scB w1 w2 k) = signOf (w1 - w2) := by
  obtain ⟨p, e, h1, h2, h3, ea, eb⟩ := sc_ways w1 w2 k
  rw [ea, eb]
  exact sign_diff _ _ _ _ h1 h2 h3

theorem decO_eq {w : World} {x y : Int} {p k : Nat} (h : nmN x p = nmN y k) (u a b v : Tok) : decO w x p u a b v = decO w y k u a b v := by
  simp only [decO, nmT, nmP, h]
theorem news_d0 {h₀ h : Heap} {L : Addr} {a : Addr × Obj} {l : Led} (N : News h₀ L h (a :: l)) : News h₀ L h l := fun p hp => N p (.tail _ hp)
theorem news_d2 {h₀ h : Heap} {L : Addr} {a b c : Addr × Obj} {l : Led} (N : News h₀ L h (a :: b :: c :: l)) : News h₀ L h (a :: b :: l) := fun p hp => by
  rcases List.mem_cons.mp hp with rfl | hp
  · exact N _ (.head _)
  · rcases List.mem_cons.mp hp with rfl | hp
    · exact N _ (.tail _ (.head _))
    · exact N _ (.tail _ (.tail _ (.tail _ hp)))
abbrev tup (vs : List Value) : Obj := { cls := .type "tuple", data := .seq vs.toArray }

section
variable {w : World} {dp un : Nat} {gd : Option (List Code)} {cn : Str} {cs : Scope} {ca : Addr} {ccd : Value} {cl : List (Str × Addr)} {A₀ : Around} {outer : List Env} {base h₀ : Heap} {L : Addr} {m : Str → Option Value} {s : Shared} {news : Led} {mean : ExcName → Option Value} {mg mb : Str → Option Value} {Q E : Value → Shared → Prop}

/-- at_one_scale(one, other) -/
theorem c_scale {x d y e : Addr} {w1 w2 : Int} {k : Nat} {u a b v u2 a2 b2 v2 : Tok} (C : Cx w dp cs outer A₀ base h₀ L m s news mean mg mb 6)
    (hk1 : k ≤ 50) (hw1 : w1.natAbs < 2 ^ 63) (hw2 : w2.natAbs < 2 ^ 63)
    (mx : (x, instObj 143 d) ∈ news) (md : (d, decO w w1 k u a b v) ∈ news) (my : (y, instObj 143 e) ∈ news) (me : (e, decO w w2 k u2 a2 b2 v2) ∈ news)
    (hret : Ret (∀ D t1 t2 t3 h' tk', Fr h₀ L h' m → News h₀ L h' ((D, tup [.int (scA w1 w2 k) t1, .int (scB w1 w2 k) t2, .int (scP w1 w2 k) t3]) :: news) → AllLt D news → Q (.ref D) { s with heap := h', toks := tk' })) :
    wpAny (model PySem.Challenge.rw_nn0204_01.row.prog w) (ktrTop dp un gd cn cs L ca ccd cl outer) (call (.ref 168) [.ref x, .ref y]) Q E s := by
  obtain ⟨B, F, X, N, T, hk, hd⟩ := C
  w_on
  revert X; k_fill; intro X
  have q1 := nmP_nonneg w1 k
  have q2 := nmP_le w1 k
  have q3 := nmP_nonneg w2 k
  have q4 := nmP_le w2 k
  have q5 : (nmT w1 k).natAbs < 2 ^ 63 := Nat.lt_of_le_of_lt (nmT_abs _ _) hw1
  have q6 : (nmT w2 k).natAbs < 2 ^ 63 := Nat.lt_of_le_of_lt (nmT_abs _ _) hw2
  refine wpAny_call ?_
  ktr_call [(Str.ofString "one", .ref x), (Str.ofString "other", .ref y)] 1
  k_steps
  exact hret _ _ _ _ _ _ (by assumption) (by assumption) (allLt_of (by assumption))

end
local macro_rules | `(tactic| walk_at "call ref") => `(tactic| (with_reducible refine atC 168 ?_; k_dflt (refine' c_scale _ _ _ _ _ _ _ _ _; keq_rows)))
local macro_rules | `(tactic| kfm_turns) => `(tactic| with_reducible exact scP_nonneg _ _ _)
-- P04ops
section
variable {w : World} {dp un : Nat} {gd : Option (List Code)} {cn : Str} {cs : Scope} {ca : Addr} {ccd : Value} {cl : List (Str × Addr)} {A₀ : Around} {outer : List Env} {base h₀ : Heap} {L : Addr} {m : Str → Option Value} {s : Shared} {news : Led} {mean : ExcName → Option Value} {mg mb : Str → Option Value} {Q E : Value → Shared → Prop}


/-- one.plus(other) -/
theorem c_plus {x d y e : Addr} {w1 w2 : Int} {k : Nat} {u a b v u2 a2 b2 v2 : Tok} (C : Cx w dp cs outer A₀ base h₀ L m s news mean mg mb 9)
    (hk1 : k ≤ 50) (hw1 : w1.natAbs < 2 ^ 63) (hw2 : w2.natAbs < 2 ^ 63)
    (mx : (x, instObj 143 d) ∈ news) (md : (d, decO w w1 k u a b v) ∈ news) (my : (y, instObj 143 e) ∈ news) (me : (e, decO w w2 k u2 a2 b2 v2) ∈ news)
    (hret : Ret (∀ x d u a b v h' tk', Fr h₀ L h' m → News h₀ L h' ((x, instObj 143 d) :: (d, decO w (w1 + w2) k u a b v) :: news) → AllLt d news → @LT.lt Nat _ d x → Q (.ref x) { s with heap := h', toks := tk' })) :
    wpAny (model PySem.Challenge.rw_nn0204_01.row.prog w) (ktrTop dp un gd cn cs L ca ccd cl outer) (call (.ref 70) [.ref x, .ref y]) Q E s := by
  obtain ⟨B, F, X, N, T, hk, hd⟩ := C
  w_on
  revert X; k_fill; intro X
  refine wpAny_call ?_
  ktr_call [(Str.ofString "self", .ref x), (Str.ofString "other", .ref y)] 1
  k_steps
  rename News h₀ L _ _ => kN
  rw [decO_eq (sc_sum w1 w2 k)] at kN
  exact hret _ _ _ _ _ _ _ _ (by assumption) (news_d2 kN) (by first | assumption | tbn_find | exact allLt_of (by assumption)) (by assumption)

/-- one.minus(other) -/
theorem c_minus {x d y e : Addr} {w1 w2 : Int} {k : Nat} {u a b v u2 a2 b2 v2 : Tok} (C : Cx w dp cs outer A₀ base h₀ L m s news mean mg mb 9)
    (hk1 : k ≤ 50) (hw1 : w1.natAbs < 2 ^ 63) (hw2 : w2.natAbs < 2 ^ 63)
    (mx : (x, instObj 143 d) ∈ news) (md : (d, decO w w1 k u a b v) ∈ news) (my : (y, instObj 143 e) ∈ news) (me : (e, decO w w2 k u2 a2 b2 v2) ∈ news)
    (hret : Ret (∀ x d u a b v h' tk', Fr h₀ L h' m → News h₀ L h' ((x, instObj 143 d) :: (d, decO w (w1 - w2) k u a b v) :: news) → AllLt d news → @LT.lt Nat _ d x → Q (.ref x) { s with heap := h', toks := tk' })) :
    wpAny (model PySem.Challenge.rw_nn0204_01.row.prog w) (ktrTop dp un gd cn cs L ca ccd cl outer) (call (.ref 77) [.ref x, .ref y]) Q E s := by
  obtain ⟨B, F, X, N, T, hk, hd⟩ := C
  w_on
  revert X; k_fill; intro X
  refine wpAny_call ?_
  ktr_call [(Str.ofString "self", .ref x), (Str.ofString "other", .ref y)] 1
  k_steps
  rename News h₀ L _ _ => kN
  rw [decO_eq (sc_diff w1 w2 k)] at kN
  exact hret _ _ _ _ _ _ _ _ (by assumption) (news_d2 kN) (by first | assumption | tbn_find | exact allLt_of (by assumption)) (by assumption)

theorem nm_prod' (x y : Int) (k k' : Nat) : nmN (nmT x k * nmT y k') (nmP x k + nmP y k').toNat = nmN (x * y) (k + k') := by
  have : (nmP x k + nmP y k').toNat = (nmN x k).2 + (nmN y k').2 := by unfold nmP; omega
  rw [this]
  exact nm_prod x y k k'
/-- one.times(other) -/
theorem c_times {x d y e : Addr} {w1 w2 : Int} {k k2 : Nat} {u a b v u2 a2 b2 v2 : Tok} (C : Cx w dp cs outer A₀ base h₀ L m s news mean mg mb 9)
    (hw1 : w1.natAbs < 2 ^ 63)
    (mx : (x, instObj 143 d) ∈ news) (md : (d, decO w w1 k u a b v) ∈ news) (my : (y, instObj 143 e) ∈ news) (me : (e, decO w w2 k2 u2 a2 b2 v2) ∈ news)
    (hret : Ret (∀ x d u a b v h' tk', Fr h₀ L h' m → News h₀ L h' ((x, instObj 143 d) :: (d, decO w (w1 * w2) (k + k2) u a b v) :: news) → AllLt d news → @LT.lt Nat _ d x → Q (.ref x) { s with heap := h', toks := tk' })) :
    wpAny (model PySem.Challenge.rw_nn0204_01.row.prog w) (ktrTop dp un gd cn cs L ca ccd cl outer) (call (.ref 84) [.ref x, .ref y]) Q E s := by
  obtain ⟨B, F, X, N, T, hk, hd⟩ := C
  w_on
  revert X; k_fill; intro X
  have q1 := nmP_nonneg w1 k
  have q3 := nmP_nonneg w2 k2
  have q5 : (nmT w1 k).natAbs < 2 ^ 63 := Nat.lt_of_le_of_lt (nmT_abs _ _) hw1
  refine wpAny_call ?_
  ktr_call [(Str.ofString "self", .ref x), (Str.ofString "other", .ref y)] 1
  k_steps
  rename News h₀ L _ _ => kN
  rw [decO_eq (nm_prod' w1 w2 k k2)] at kN
  exact hret _ _ _ _ _ _ _ _ (by assumption) kN (by first | assumption | tbn_find | exact allLt_of (by assumption)) (by assumption)

/-- one.compared(other) -/
theorem c_comp {x d y e : Addr} {w1 w2 : Int} {k : Nat} {u a b v u2 a2 b2 v2 : Tok} (C : Cx w dp cs outer A₀ base h₀ L m s news mean mg mb 9)
    (hk1 : k ≤ 50) (hw1 : w1.natAbs < 2 ^ 63) (hw2 : w2.natAbs < 2 ^ 63)
    (mx : (x, instObj 143 d) ∈ news) (md : (d, decO w w1 k u a b v) ∈ news) (my : (y, instObj 143 e) ∈ news) (me : (e, decO w w2 k u2 a2 b2 v2) ∈ news)
    (hret : Ret (∀ u h' tk', Fr h₀ L h' m → News h₀ L h' news → Q (.int (signOf (w1 - w2)) u) { s with heap := h', toks := tk' })) :
    wpAny (model PySem.Challenge.rw_nn0204_01.row.prog w) (ktrTop dp un gd cn cs L ca ccd cl outer) (call (.ref 98) [.ref x, .ref y]) Q E s := by
  obtain ⟨B, F, X, N, T, hk, hd⟩ := C
  w_on
  revert X; k_fill; intro X
  refine wpAny_call ?_
  ktr_call [(Str.ofString "self", .ref x), (Str.ofString "other", .ref y)] 1
  k_steps
  rw [sc_sign]
  exact hret _ _ _ (by assumption) (cb_drop (by assumption) fun p hp => .tail _ hp)

/-- one.told() -/
theorem c_told {x d : Addr} {w1 : Int} {k : Nat} {u a b v : Tok} (C : Cx w dp cs outer A₀ base h₀ L m s news mean mg mb 3)
    (mx : (x, instObj 143 d) ∈ news) (md : (d, decO w w1 k u a b v) ∈ news)
    (hret : Ret (∀ D t1 t2 h' tk', Fr h₀ L h' m → News h₀ L h' ((D, tup [.int (nmT w1 k) t1, .int (nmP w1 k) t2]) :: news) → AllLt D news → Q (.ref D) { s with heap := h', toks := tk' })) :
    wpAny (model PySem.Challenge.rw_nn0204_01.row.prog w) (ktrTop dp un gd cn cs L ca ccd cl outer) (call (.ref 126) [.ref x]) Q E s := by
  obtain ⟨B, F, X, N, T, hk, hd⟩ := C
  w_on
  revert X; k_fill; intro X
  refine wpAny_call ?_
  ktr_call [(Str.ofString "self", .ref x)] 1
  k_steps
  exact hret _ _ _ _ _ (by assumption) (by assumption) (allLt_of (by assumption))

end
local macro_rules | `(tactic| walk_at "call ref") => `(tactic| (with_reducible refine atC 70 ?_; k_dflt (refine' c_plus _ _ _ _ _ _ _ _ _; keq_rows)))
local macro_rules | `(tactic| walk_at "call ref") => `(tactic| (with_reducible refine atC 77 ?_; k_dflt (refine' c_minus _ _ _ _ _ _ _ _ _; keq_rows)))
local macro_rules | `(tactic| walk_at "call ref") => `(tactic| (with_reducible refine atC 84 ?_; k_dflt (refine' c_times _ _ _ _ _ _ _; keq_rows)))
local macro_rules | `(tactic| walk_at "call ref") => `(tactic| (with_reducible refine atC 98 ?_; k_dflt (refine' c_comp _ _ _ _ _ _ _ _ _; keq_rows)))
local macro_rules | `(tactic| walk_at "call ref") => `(tactic| (with_reducible refine atC 126 ?_; k_dflt (refine' c_told _ _ _ _; keq_rows)))
-- P05led
section
variable {prog : Program} {w : World} {A : Around} {E : Value → Shared → Prop} {s : Shared} {env : Env} {h₀ : Heap} {x : Str} {body : List Stmt} {Q : Flow → Shared → Prop}
theorem led_list {h : Heap} {L l : Addr} {vs : List Value} {n : Nat} {news : Led} (N : News h₀ L h news) (hl : (l, listOf vs.toArray n) ∈ news) : h.IsList l vs.toArray := ⟨_, (N _ hl).1, rfl, n, rfl⟩
/-- a loop over a list of the call's own, its turns keeping the ledger -/
theorem iter_led {l : Addr} {vs : List Value} {n : Nat} {m₀ : Str → Option Value} {news : Led} (J : Nat → (Str → Option Value) → Prop)
    (hh : A.handled = none) (hl : (l, listOf vs.toArray n) ∈ news) (F : Fr h₀ env.locals s.heap m₀) (N : News h₀ env.locals s.heap news) (hj : J 0 m₀)
    (turn : ∀ i v m₁ h tk own, vs[i]? = some v → J i m₁ → Fr h₀ env.locals h (fun y => if y = x then some v else m₁ y) → News h₀ env.locals h (own ++ news) →
      wpAny (model prog w) A (execs body env) (InvPost h₀ env.locals (J (i + 1)) (own ++ news) { s with heap := h, toks := tk } Q) E { s with heap := h, toks := tk })
    (done : ∀ m₁ h tk, J vs.length m₁ → Fr h₀ env.locals h m₁ → News h₀ env.locals h news → Q .next { s with heap := h, toks := tk }) :
    wpAny (model prog w) A (pyIter (.ref l)) (fun it s₂ => LoopAtV prog w A h₀ env x body Q E it s₂) E s := by
  have hls : s.heap.IsList l vs.toArray := led_list N hl
  obtain ⟨ol, hol, _⟩ := id hls
  have hlt : l < s.heap.objs.size := Heap.lt_size hol
  have hne : l ≠ s.heap.objs.size := Nat.ne_of_lt hlt
  refine wpAny_pyIter_list hls ?_
  have W := Walks.list (prog := prog) (w := w) hh s.heap.objs.size l hne vs.toArray
  have hlen : vs.toArray.size = vs.length := by simp
  rw [hlen] at W
  let J' : Nat → (Str → Option Value) → List (Addr × Obj) → Prop := fun i m₁ news₁ => news₁ = news ∧ J i m₁
  refine ⟨_, _, _, vs.length, _, _, m₀, news, J', rfl, W, ?_, ?_, ?_, ⟨⟨_, Heap.get?_push_size _ rfl, rfl, rfl⟩, hls.at fun o e => Heap.get?_push_of_some _ e⟩, F.push _, (fun p hp => ⟨Heap.get?_push_of_some _ (N p hp).1, (N p hp).2⟩), ⟨rfl, hj⟩, ?_, ?_⟩
  · intro hm
    rcases List.mem_cons.mp hm with e | hm
    · exact absurd F.ns.lt (e ▸ Nat.lt_irrefl _)
    · exact (N _ hl).2.1 (List.mem_singleton.mp hm).symm
  · intro b hb
    rw [List.mem_singleton.mp hb]
    exact next_is_new F
  · intro p hp hI
    exact absurd (Heap.lt_size (N p hp).1) ((List.mem_singleton.mp hI) ▸ Nat.lt_irrefl _)
  · rintro i v m₁ news₁ s₁ own ⟨hh', tk', rfl⟩ hin hP ⟨rfl, hJ⟩ hoff _ _ _ _ F₁ N₁
    have hP' : vs[i]? = some v := by simpa using hP
    refine wpAny_mono (turn i v m₁ hh' tk' own hP' hJ F₁ N₁) (fun f s₂ p => ?_) fun _ _ e => e
    have fin : InvEnd h₀ env.locals (J (i + 1)) (own ++ news₁) { s with heap := hh', toks := tk' } s₂ → LoopStepU h₀ env.locals [s.heap.objs.size] own (J' (i + 1)) { s with heap := hh', toks := tk' } .next s₂ := by
      rintro ⟨h', tk, m', news', e, F', N', hn, hm⟩
      exact ⟨rfl, h', tk, m', news₁, e, F', fun p hp => N' p (hn p hp), hoff, rfl, hm⟩
    cases f with
    | ret v => exact .ret p
    | brk => exact .brk p
    | next => exact .next (fin p)
    | cont => exact .cont (fin p)
  · rintro h' tk m' news' F' N' _ ⟨rfl, hJ⟩
    exact done m' h' tk hJ F' N'

/-- the same, one name told besides the loop's own -/
theorem iter_led1 {l : Addr} {vs : List Value} {n : Nat} {m₀ : Str → Option Value} {news : Led} {y : Str} (R : Nat → Value → Prop) {b₀ : Value}
    (hh : A.handled = none) (hl : (l, listOf vs.toArray n) ∈ news) (F : Fr h₀ env.locals s.heap m₀) (N : News h₀ env.locals s.heap news) (hy : m₀ y = some b₀) (hr : R 0 b₀)
    (turn : ∀ i v b h tk own, vs[i]? = some v → R i b → Fr h₀ env.locals h (fun z => if z = x then some v else if z = y then some b else m₀ z) → News h₀ env.locals h (own ++ news) →
      wpAny (model prog w) A (execs body env) (InvPost h₀ env.locals (fun m' => (∃ b', m' y = some b' ∧ R (i + 1) b') ∧ ∀ z, z ≠ x → z ≠ y → m' z = m₀ z) (own ++ news) { s with heap := h, toks := tk } Q) E { s with heap := h, toks := tk })
    (done : ∀ (u : Str → Option Value) b h tk, R vs.length b → Fr h₀ env.locals h (fun z => if z = x then u z else if z = y then some b else m₀ z) → News h₀ env.locals h news → Q .next { s with heap := h, toks := tk }) :
    wpAny (model prog w) A (pyIter (.ref l)) (fun it s₂ => LoopAtV prog w A h₀ env x body Q E it s₂) E s := by
  refine iter_led (fun i m => (∃ b', m y = some b' ∧ R i b') ∧ ∀ z, z ≠ x → z ≠ y → m z = m₀ z) hh hl F N ⟨⟨_, hy, hr⟩, fun _ _ _ => rfl⟩ ?_ ?_
  · rintro i v m₁ h tk own hv ⟨⟨b, hb, hR⟩, hm⟩ F₁ N₁
    rw [map_one hb hm] at F₁
    exact turn i v b h tk own hv hR F₁ N₁
  · rintro m₁ h tk ⟨⟨b, hb, hR⟩, hm⟩ F₁ N₁
    refine done m₁ b h tk hR ?_ N₁
    rw [done_one hb hm]; exact F₁
end

theorem len_led {prog : Program} {w : World} {A : Around} {E : Value → Shared → Prop} {s : Shared} {h₀ : Heap} {L l : Addr} {vs : List Value} {n : Nat} {news : Led} {Q : Value → Shared → Prop} (N : News h₀ L s.heap news) (hl : (l, listOf vs.toArray n) ∈ news) (hz : vs.length < 1000)
    (h : Ret (∀ t tk, Q (.int (vs.length : Int) t) { s with toks := tk })) : wpAny (model prog w) A (call (.builtin "len") [.ref l]) Q E s :=
  len_list (led_list N hl) (by simp only [List.size_toArray]; omega) (by simpa only [List.size_toArray] using h _ _)
theorem item0_led {prog : Program} {w : World} {A : Around} {E : Value → Shared → Prop} {s : Shared} {h₀ : Heap} {L l : Addr} {v : Value} {vs : List Value} {n : Nat} {news : Led} {value slice : PySem.Expr} {u : Tok} {Q : Value → Shared → Prop} (N : News h₀ L s.heap news) (hl : (l, listOf (v :: vs).toArray n) ∈ news)
    (h : Ret (Q v s)) (hs : subscripted slice false (.ref l) (.int 0 u) = operate [.ref l, .int 0 u] (getItem (.ref l) (.int 0 u)) := by with_unfolding_all rfl) : wpAny (model prog w) A (subscriptTail value slice (.ref l) (.int 0 u)) Q E s :=
  have hL := led_list N hl
  tail_any hL.typeIs slot_list_getitem.lookup (wpAny_getItem_list hL (by decide) (by decide) (by simp) h) hs
theorem pick1 (v : Value) (vs : List Value) : kms_pick (v :: vs).toArray.toList (some 1) none = vs := by
  show ((v :: vs).drop (kms_lo (some 1) (v :: vs).length)).take (kms_hi none (v :: vs).length - kms_lo (some 1) (v :: vs).length) = vs
  have e : kms_lo (some 1) (v :: vs).length = 1 := by simp [kms_lo]
  rw [e]
  simp [kms_hi]

local macro_rules | `(tactic| kfm_turns) => `(tactic| (simp only [List.length_cons]; omega))
local macro_rules | `(tactic| walk_at "call builtin:len") => `(tactic| (k_dflt (refine' len_led _ _ _ _; kp_flats; intro t' tk'; (try dsimp only))))
local macro_rules | `(tactic| walk_at "subscriptTail") => `(tactic| ((with_reducible show wpAny _ _ (subscriptTail _ _ (Value.ref _) (Value.int 0 _)) _ _ _); k_dflt (refine' item0_led _ _ _; kp_flats)))
local macro_rules | `(tactic| walk_at "subscriptTail Name Slice ref ref") => `(tactic| (k_here; (with_reducible show wpAny _ _ (subscriptTail _ (PySem.Expr.Slice _ _ none _) (Value.ref _) (Value.ref _)) _ _ _); k_dflt (refine' kms_slice_lit ?F ?N ?l ?p ?q ?e ?_ ?s ?t ?z; (case F => k_asm); (case N => k_asm); (case l => exact led_list (by k_asm) (by k_mem)); (case p => kmk_part); (case q => kmk_part); (case e => exact pick1 _ _); (case s => with_unfolding_all rfl); (case t => kmk_pure); (case z => (simp only [List.size_toArray, List.length_cons, sizeLine_eq]; omega))); intro D' h' F' N' l1; (try k_lt l1); (try k_sweep)))
local macro_rules | `(tactic| walk_at "exec For Name Subscript cons nil") => `(tactic| (k_here; (rename Fr _ _ _ _ => lF'); (with_unfolding_all refine' For_invVF lF' ?k1 ?k2 ?_; (case k1 => exact rfl); (case k2 => exact rfl); k_whole)))
-- P06least
section
variable {w : World} {dp un : Nat} {gd : Option (List Code)} {cn : Str} {cs : Scope} {ca : Addr} {ccd : Value} {cl : List (Str × Addr)} {A₀ : Around} {outer : List Env} {base h₀ : Heap} {L : Addr} {m : Str → Option Value} {s : Shared} {news : Led} {mean : ExcName → Option Value} {mg mb : Str → Option Value} {Q E : Value → Shared → Prop}



/-- x is a Decimal of the ledger: wv / 10 ^ k -/
inductive DecAt (w : World) (news : Led) (x : Addr) (wv : Int) (k : Nat) : Prop
  | mk (d : Addr) (u a b v : Tok) (h1 : (x, instObj 143 d) ∈ news) (h2 : (d, decO w wv k u a b v) ∈ news)
theorem DecAt.op {w : World} {news : Led} {x : Addr} {wv : Int} {k : Nat} {P : Prop} (h : DecAt w news x wv k) (f : ∀ d u a b v, (x, instObj 143 d) ∈ news → (d, decO w wv k u a b v) ∈ news → P) : P := by
  cases h with
  | mk d u a b v h1 h2 => exact f d u a b v h1 h2
theorem DecAt.mono {w : World} {news news' : Led} {x : Addr} {wv : Int} {k : Nat} (h : DecAt w news x wv k) (hs : ∀ p ∈ news, p ∈ news') : DecAt w news' x wv k :=
  let ⟨d, u, a, b, v, h1, h2⟩ := h; ⟨d, u, a, b, v, hs _ h1, hs _ h2⟩


def lmin (w0 : Int) (ws : List Int) : Int := ws.foldl min w0
def lmax (w0 : Int) (ws : List Int) : Int := ws.foldl max w0
theorem lmin_snoc (w0 : Int) (ws : List Int) (i : Nat) (v : Int) (h : ws[i]? = some v) : lmin w0 (ws.take (i + 1)) = min (lmin w0 (ws.take i)) v := by
  unfold lmin; rw [List.take_add_one, h]; simp
theorem lmax_snoc (w0 : Int) (ws : List Int) (i : Nat) (v : Int) (h : ws[i]? = some v) : lmax w0 (ws.take (i + 1)) = max (lmax w0 (ws.take i)) v := by
  unfold lmax; rw [List.take_add_one, h]; simp
theorem signOf_pos (n : Int) : signOf n > 0 ↔ n > 0 := by unfold signOf; (repeat' split) <;> omega
theorem signOf_neg (n : Int) : signOf n < 0 ↔ n < 0 := by unfold signOf; (repeat' split) <;> omega
theorem signOf_le (n : Int) : signOf n ≤ 0 ↔ n ≤ 0 := by unfold signOf; (repeat' split) <;> omega
theorem signOf_ge (n : Int) : signOf n ≥ 0 ↔ n ≥ 0 := by unfold signOf; (repeat' split) <;> omega


/-- least(a list of Decimals) -/
theorem c_least {l x0 : Addr} {vs : List Value} {its : List (Addr × Int)} {n : Nat} {w0 : Int} {k : Nat} {sub : Led} (C : Cx w dp cs outer A₀ base h₀ L m s news mean mg mb 13)
    (hk1 : k ≤ 50) (hsub : ∀ p ∈ sub, p ∈ news) (ml : (l, listOf vs.toArray n) ∈ news) (hv : vs = Value.ref x0 :: its.map (fun p => Value.ref p.1)) (hlen : its.length < 900)
    (m0 : DecAt w sub x0 w0 k) (mi : ∀ p ∈ its, DecAt w sub p.1 p.2 k) (b0 : w0.natAbs < 2 ^ 62) (bi : ∀ p ∈ its, p.2.natAbs < 2 ^ 62)
    (hret : ∀ x h' tk', Fr h₀ L h' m → News h₀ L h' news → DecAt w sub x (lmin w0 (its.map (·.2))) k → Q (.ref x) { s with heap := h', toks := tk' }) :
    wpAny (model PySem.Challenge.rw_nn0204_01.row.prog w) (ktrTop dp un gd cn cs L ca ccd cl outer) (call (.ref 175) [.ref l]) Q E s := by
  obtain ⟨B, F, X, N, T, hk, hd⟩ := C
  subst hv
  refine DecAt.op m0 ?_; intro d0 u a b v mx md
  have mx := hsub _ mx
  have md := hsub _ md
  w_on
  revert X; k_fill; intro X
  refine wpAny_call ?_
  ktr_call [(Str.ofString "values", .ref l)] 1
  have hlv : (its.map (fun p => Value.ref p.1)).length < 900 := by rw [List.length_map]; exact hlen
  generalize hvs : its.map (fun p => Value.ref p.1) = vs at hlv ml
  k_steps
  · exfalso
    rename_i hz
    rw [List.length_cons] at hz
    omega
  · rename_i lF lN ll
    refine iter_led1 (y := Str.ofString "best") (fun i b => ∃ x wb, b = Value.ref x ∧ DecAt w sub x wb k ∧ wb = lmin w0 ((its.map (·.2)).take i) ∧ wb.natAbs < 2 ^ 62) (by exact rfl) (List.mem_cons_self ..) lF lN (by rfl) ⟨x0, w0, rfl, m0, by simp [lmin], b0⟩ ?_ ?_
    · rintro i vv bb h1 tk1 own hi ⟨xb, wb, rfl, mb, hwb, hbb⟩ F1 N1
      obtain ⟨⟨xi, wi⟩, hi1, rfl⟩ : ∃ p, its[i]? = some p ∧ Value.ref p.1 = vv := by
        rw [← hvs, List.getElem?_map] at hi
        cases hq : its[i]? with
        | none => rw [hq] at hi; cases hi
        | some p => rw [hq] at hi; exact ⟨p, rfl, Option.some.inj hi⟩
      have hm := List.mem_of_getElem? hi1
      have mv := mi _ hm
      have hbi := bi _ hm
      have hsn := lmin_snoc w0 (its.map (·.2)) i wi (by rw [List.getElem?_map, hi1]; rfl)
      refine DecAt.op mb ?_; intro db ub ab bb vb mb1 mb2
      refine DecAt.op mv ?_; intro dv uv av bv vv mv1 mv2
      have mb1 := hsub _ mb1
      have mb2 := hsub _ mb2
      have mv1 := hsub _ mv1
      have mv2 := hsub _ mv2
      have hb1 : wb.natAbs < 2 ^ 63 := by omega
      have hb2 : wi.natAbs < 2 ^ 63 := by simp only at hbi; omega
      have hs := signOf_pos (wb - wi)
      dsimp only at hbi mv mv1 mv2 F1 ⊢
      k_steps
      · refine InvEnd.intro (by assumption) (by assumption) (fun p hp => hp) ⟨⟨_, rfl, xi, wi, rfl, mv, ?_, hbi⟩, by k_same2⟩
        rw [hsn, ← hwb]; omega
      · refine InvEnd.intro (by assumption) (by assumption) (fun p hp => hp) ⟨⟨_, rfl, xb, wb, rfl, mb, ?_, hbb⟩, by k_same2⟩
        rw [hsn, ← hwb]; omega
    · rintro uu bb h1 tk1 ⟨xb, wb, rfl, mb, hwb, hbb⟩ F1 N1
      have hl2 : vs.length = (its.map (·.2)).length := by rw [← hvs]; simp
      rw [hl2, List.take_length] at hwb
      rw [← hwb] at hret
      dsimp only
      k_steps
      exact hret _ _ _ (by assumption) (news_d0 (by assumption)) mb

/-- greatest(a list of Decimals) -/
theorem c_greatest {l x0 : Addr} {vs : List Value} {its : List (Addr × Int)} {n : Nat} {w0 : Int} {k : Nat} {sub : Led} (C : Cx w dp cs outer A₀ base h₀ L m s news mean mg mb 13)
    (hk1 : k ≤ 50) (hsub : ∀ p ∈ sub, p ∈ news) (ml : (l, listOf vs.toArray n) ∈ news) (hv : vs = Value.ref x0 :: its.map (fun p => Value.ref p.1)) (hlen : its.length < 900)
    (m0 : DecAt w sub x0 w0 k) (mi : ∀ p ∈ its, DecAt w sub p.1 p.2 k) (b0 : w0.natAbs < 2 ^ 62) (bi : ∀ p ∈ its, p.2.natAbs < 2 ^ 62)
    (hret : ∀ x h' tk', Fr h₀ L h' m → News h₀ L h' news → DecAt w sub x (lmax w0 (its.map (·.2))) k → Q (.ref x) { s with heap := h', toks := tk' }) :
    wpAny (model PySem.Challenge.rw_nn0204_01.row.prog w) (ktrTop dp un gd cn cs L ca ccd cl outer) (call (.ref 182) [.ref l]) Q E s := by
  obtain ⟨B, F, X, N, T, hk, hd⟩ := C
  subst hv
  refine DecAt.op m0 ?_; intro d0 u a b v mx md
  have mx := hsub _ mx
  have md := hsub _ md
  w_on
  revert X; k_fill; intro X
  refine wpAny_call ?_
  ktr_call [(Str.ofString "values", .ref l)] 1
  have hlv : (its.map (fun p => Value.ref p.1)).length < 900 := by rw [List.length_map]; exact hlen
  generalize hvs : its.map (fun p => Value.ref p.1) = vs at hlv ml
  k_steps
  · exfalso
    rename_i hz
    rw [List.length_cons] at hz
    omega
  · rename_i lF lN ll
    refine iter_led1 (y := Str.ofString "best") (fun i b => ∃ x wb, b = Value.ref x ∧ DecAt w sub x wb k ∧ wb = lmax w0 ((its.map (·.2)).take i) ∧ wb.natAbs < 2 ^ 62) (by exact rfl) (List.mem_cons_self ..) lF lN (by rfl) ⟨x0, w0, rfl, m0, by simp [lmax], b0⟩ ?_ ?_
    · rintro i vv bb h1 tk1 own hi ⟨xb, wb, rfl, mb, hwb, hbb⟩ F1 N1
      obtain ⟨⟨xi, wi⟩, hi1, rfl⟩ : ∃ p, its[i]? = some p ∧ Value.ref p.1 = vv := by
        rw [← hvs, List.getElem?_map] at hi
        cases hq : its[i]? with
        | none => rw [hq] at hi; cases hi
        | some p => rw [hq] at hi; exact ⟨p, rfl, Option.some.inj hi⟩
      have hm := List.mem_of_getElem? hi1
      have mv := mi _ hm
      have hbi := bi _ hm
      have hsn := lmax_snoc w0 (its.map (·.2)) i wi (by rw [List.getElem?_map, hi1]; rfl)
      refine DecAt.op mb ?_; intro db ub ab bb vb mb1 mb2
      refine DecAt.op mv ?_; intro dv uv av bv vv mv1 mv2
      have mb1 := hsub _ mb1
      have mb2 := hsub _ mb2
      have mv1 := hsub _ mv1
      have mv2 := hsub _ mv2
      have hb1 : wb.natAbs < 2 ^ 63 := by omega
      have hb2 : wi.natAbs < 2 ^ 63 := by simp only at hbi; omega
      have hs := signOf_neg (wb - wi)
      dsimp only at hbi mv mv1 mv2 F1 ⊢
      k_steps
      · refine InvEnd.intro (by assumption) (by assumption) (fun p hp => hp) ⟨⟨_, rfl, xi, wi, rfl, mv, ?_, hbi⟩, by k_same2⟩
        rw [hsn, ← hwb]; omega
      · refine InvEnd.intro (by assumption) (by assumption) (fun p hp => hp) ⟨⟨_, rfl, xb, wb, rfl, mb, ?_, hbb⟩, by k_same2⟩
        rw [hsn, ← hwb]; omega
    · rintro uu bb h1 tk1 ⟨xb, wb, rfl, mb, hwb, hbb⟩ F1 N1
      have hl2 : vs.length = (its.map (·.2)).length := by rw [← hvs]; simp
      rw [hl2, List.take_length] at hwb
      rw [← hwb] at hret
      dsimp only
      k_steps
      exact hret _ _ _ (by assumption) (news_d0 (by assumption)) mb

end
local macro_rules | `(tactic| kpt_turns) => `(tactic| ((with_reducible show DecAt _ _ _ _ _); k_mem))
local macro_rules | `(tactic| walk_at "call ref") => `(tactic| (k_dflt ((first | ((with_reducible refine atC 175 ?_); refine' c_least ?C ?hk ?hs ?ml ?hv ?hl ?m0 ?mi ?b0 ?bi ?_) | ((with_reducible refine atC 182 ?_); refine' c_greatest ?C ?hk ?hs ?ml ?hv ?hl ?m0 ?mi ?b0 ?bi ?_)); (case C => kpc_turns); (case ml => k_mem); (case hv => k_asm); (case hk => omega); (case m0 => k_asm); (case hs => first | exact fun _ h => h | exact fun _ h => .tail _ h | exact fun _ h => .tail _ (.tail _ h) | exact fun _ h => .tail _ (.tail _ (.tail _ h)) | exact fun _ h => .tail _ (.tail _ (.tail _ (.tail _ h))) | k_asm); (case hl => k_asm); (case mi => k_asm); (case b0 => k_asm); (case bi => k_asm); k_whole; intro x' h' tk' F' N' m'; (try k_sweep))))
-- P28law
theorem mul_between {a l r x : Int} (h1 : l ≤ x) (h2 : x ≤ r) : min (a * l) (a * r) ≤ a * x ∧ a * x ≤ max (a * l) (a * r) := by
  rcases Int.le_total 0 a with ha | ha
  · exact ⟨Int.le_trans (Int.min_le_left _ _) (Int.mul_le_mul_of_nonneg_left h1 ha), Int.le_trans (Int.mul_le_mul_of_nonneg_left h2 ha) (Int.le_max_right _ _)⟩
  · exact ⟨Int.le_trans (Int.min_le_right _ _) (Int.mul_le_mul_of_nonpos_left ha h2), Int.le_trans (Int.mul_le_mul_of_nonpos_left ha h1) (Int.le_max_left _ _)⟩
theorem between_mul {a l r x : Int} (ha : a ≠ 0) (lr : l ≤ r) (h1 : min (a * l) (a * r) ≤ a * x) (h2 : a * x ≤ max (a * l) (a * r)) : l ≤ x ∧ x ≤ r := by
  rcases Int.lt_or_gt_of_ne ha with ha | ha
  · have g := Int.mul_le_mul_of_nonpos_left (Int.le_of_lt ha) lr
    rw [Int.min_eq_right g] at h1
    rw [Int.max_eq_left g] at h2
    exact ⟨Int.le_of_not_gt fun q => Int.not_le_of_gt (Int.mul_lt_mul_of_neg_left q ha) h2, Int.le_of_not_gt fun q => Int.not_le_of_gt (Int.mul_lt_mul_of_neg_left q ha) h1⟩
  · have g := Int.mul_le_mul_of_nonneg_left lr (Int.le_of_lt ha)
    rw [Int.min_eq_left g] at h1
    rw [Int.max_eq_right g] at h2
    exact ⟨Int.le_of_not_gt fun q => Int.not_le_of_gt (Int.mul_lt_mul_of_pos_left q ha) h1, Int.le_of_not_gt fun q => Int.not_le_of_gt (Int.mul_lt_mul_of_pos_left q ha) h2⟩
theorem lmin4 (x y z u : Int) : lmin x [y, z, u] = min (min (min x y) z) u := rfl
theorem lmax4 (x y z u : Int) : lmax x [y, z, u] = max (max (max x y) z) u := rfl
theorem lmin4_le {x y z u : Int} : lmin x [y, z, u] ≤ x ∧ lmin x [y, z, u] ≤ y ∧ lmin x [y, z, u] ≤ z ∧ lmin x [y, z, u] ≤ u := by
  rw [lmin4]
  have h1 := Int.min_le_left (min (min x y) z) u
  have h2 := Int.min_le_left (min x y) z
  exact ⟨Int.le_trans h1 (Int.le_trans h2 (Int.min_le_left x y)), Int.le_trans h1 (Int.le_trans h2 (Int.min_le_right x y)), Int.le_trans h1 (Int.min_le_right _ z), Int.min_le_right _ u⟩
theorem le_lmax4 {x y z u : Int} : x ≤ lmax x [y, z, u] ∧ y ≤ lmax x [y, z, u] ∧ z ≤ lmax x [y, z, u] ∧ u ≤ lmax x [y, z, u] := by
  rw [lmax4]
  have h1 := Int.le_max_left (max (max x y) z) u
  have h2 := Int.le_max_left (max x y) z
  exact ⟨Int.le_trans (Int.le_max_left x y) (Int.le_trans h2 h1), Int.le_trans (Int.le_max_right x y) (Int.le_trans h2 h1), Int.le_trans (Int.le_max_right _ z) h1, Int.le_max_right _ u⟩
theorem min_or {p q s : Int} (h : min p q ≤ s) : p ≤ s ∨ q ≤ s := by
  rcases Int.le_total p q with g | g
  · rw [Int.min_eq_left g] at h; exact .inl h
  · rw [Int.min_eq_right g] at h; exact .inr h
theorem max_or {p q s : Int} (h : s ≤ max p q) : s ≤ p ∨ s ≤ q := by
  rcases Int.le_total p q with g | g
  · rw [Int.max_eq_right g] at h; exact .inr h
  · rw [Int.max_eq_left g] at h; exact .inl h
theorem min4_or {x y z u s : Int} (h : lmin x [y, z, u] ≤ s) : x ≤ s ∨ y ≤ s ∨ z ≤ s ∨ u ≤ s := by
  rw [lmin4] at h
  rcases min_or h with h | h
  · rcases min_or h with h | h
    · exact (min_or h).imp id .inl
    · exact .inr (.inr (.inl h))
  · exact .inr (.inr (.inr h))
theorem max4_or {x y z u s : Int} (h : s ≤ lmax x [y, z, u]) : s ≤ x ∨ s ≤ y ∨ s ≤ z ∨ s ≤ u := by
  rw [lmax4] at h
  rcases max_or h with h | h
  · rcases max_or h with h | h
    · exact (max_or h).imp id .inl
    · exact .inr (.inr (.inl h))
  · exact .inr (.inr (.inr h))
theorem add_le3 {p s u w e : Int} (h : p ≤ s) (g : u ≤ w) : p + u + e ≤ s + w + e := Int.add_le_add_right (Int.add_le_add h g) e
/-- a point of the box goes to between the corners' -/
theorem hull_in {a c e l b r t x y : Int} (h1 : l ≤ x) (h2 : x ≤ r) (h3 : b ≤ y) (h4 : y ≤ t) :
    lmin (a * l + c * b + e) [a * r + c * b + e, a * r + c * t + e, a * l + c * t + e] ≤ a * x + c * y + e ∧
    a * x + c * y + e ≤ lmax (a * l + c * b + e) [a * r + c * b + e, a * r + c * t + e, a * l + c * t + e] := by
  have k1 := mul_between (a := a) h1 h2
  have k2 := mul_between (a := c) h3 h4
  constructor
  · rcases min_or k1.1 with g | g <;> rcases min_or k2.1 with f | f
    · exact Int.le_trans lmin4_le.1 (add_le3 g f)
    · exact Int.le_trans lmin4_le.2.2.2 (add_le3 g f)
    · exact Int.le_trans lmin4_le.2.1 (add_le3 g f)
    · exact Int.le_trans lmin4_le.2.2.1 (add_le3 g f)
  · rcases max_or k1.2 with g | g <;> rcases max_or k2.2 with f | f
    · exact Int.le_trans (add_le3 g f) le_lmax4.1
    · exact Int.le_trans (add_le3 g f) le_lmax4.2.2.2
    · exact Int.le_trans (add_le3 g f) le_lmax4.2.1
    · exact Int.le_trans (add_le3 g f) le_lmax4.2.2.1
theorem hull_out {a c e l b r t x y : Int} (ha : a ≠ 0) (hc : c = 0) (lr : l ≤ r)
    (h1 : lmin (a * l + c * b + e) [a * r + c * b + e, a * r + c * t + e, a * l + c * t + e] ≤ a * x + c * y + e)
    (h2 : a * x + c * y + e ≤ lmax (a * l + c * b + e) [a * r + c * b + e, a * r + c * t + e, a * l + c * t + e]) : l ≤ x ∧ x ≤ r := by
  subst hc
  simp only [Int.zero_mul, Int.add_zero] at h1 h2
  refine between_mul ha lr ?_ ?_
  · rcases min4_or h1 with h | h | h | h
    · exact Int.le_trans (Int.min_le_left _ _) (Int.le_of_add_le_add_right h)
    · exact Int.le_trans (Int.min_le_right _ _) (Int.le_of_add_le_add_right h)
    · exact Int.le_trans (Int.min_le_right _ _) (Int.le_of_add_le_add_right h)
    · exact Int.le_trans (Int.min_le_left _ _) (Int.le_of_add_le_add_right h)
  · rcases max4_or h2 with h | h | h | h
    · exact Int.le_trans (Int.le_of_add_le_add_right h) (Int.le_max_left _ _)
    · exact Int.le_trans (Int.le_of_add_le_add_right h) (Int.le_max_right _ _)
    · exact Int.le_trans (Int.le_of_add_le_add_right h) (Int.le_max_right _ _)
    · exact Int.le_trans (Int.le_of_add_le_add_right h) (Int.le_max_left _ _)
theorem hull_out' {a c e l b r t x y : Int} (hc : c ≠ 0) (ha : a = 0) (bt : b ≤ t)
    (h1 : lmin (a * l + c * b + e) [a * r + c * b + e, a * r + c * t + e, a * l + c * t + e] ≤ a * x + c * y + e)
    (h2 : a * x + c * y + e ≤ lmax (a * l + c * b + e) [a * r + c * b + e, a * r + c * t + e, a * l + c * t + e]) : b ≤ y ∧ y ≤ t := by
  subst ha
  simp only [Int.zero_mul, Int.zero_add] at h1 h2
  refine between_mul hc bt ?_ ?_
  · rcases min4_or h1 with h | h | h | h
    · exact Int.le_trans (Int.min_le_left _ _) (Int.le_of_add_le_add_right h)
    · exact Int.le_trans (Int.min_le_left _ _) (Int.le_of_add_le_add_right h)
    · exact Int.le_trans (Int.min_le_right _ _) (Int.le_of_add_le_add_right h)
    · exact Int.le_trans (Int.min_le_right _ _) (Int.le_of_add_le_add_right h)
  · rcases max4_or h2 with h | h | h | h
    · exact Int.le_trans (Int.le_of_add_le_add_right h) (Int.le_max_left _ _)
    · exact Int.le_trans (Int.le_of_add_le_add_right h) (Int.le_max_left _ _)
    · exact Int.le_trans (Int.le_of_add_le_add_right h) (Int.le_max_right _ _)
    · exact Int.le_trans (Int.le_of_add_le_add_right h) (Int.le_max_right _ _)
/-- a straight map that loses nothing leads only the box's points into the corners' box -/
theorem straight_out {a b c d e f l bo r t x y : Int} (st : (b = 0 ∧ c = 0) ∨ (a = 0 ∧ d = 0)) (hd : a * d ≠ b * c) (lr : l ≤ r) (bt : bo ≤ t)
    (h1 : lmin (a * l + c * bo + e) [a * r + c * bo + e, a * r + c * t + e, a * l + c * t + e] ≤ a * x + c * y + e)
    (h2 : a * x + c * y + e ≤ lmax (a * l + c * bo + e) [a * r + c * bo + e, a * r + c * t + e, a * l + c * t + e])
    (h3 : lmin (b * l + d * bo + f) [b * r + d * bo + f, b * r + d * t + f, b * l + d * t + f] ≤ b * x + d * y + f)
    (h4 : b * x + d * y + f ≤ lmax (b * l + d * bo + f) [b * r + d * bo + f, b * r + d * t + f, b * l + d * t + f]) : l ≤ x ∧ x ≤ r ∧ bo ≤ y ∧ y ≤ t := by
  rcases st with ⟨hb, hc⟩ | ⟨ha, hd'⟩
  · have ha : a ≠ 0 := by rintro rfl; subst hb; simp at hd
    have hd' : d ≠ 0 := by rintro rfl; subst hb; simp at hd
    have g1 := hull_out ha hc lr h1 h2
    have g2 := hull_out' hd' hb bt h3 h4
    exact ⟨g1.1, g1.2, g2.1, g2.2⟩
  · have hc : c ≠ 0 := by rintro rfl; subst ha; simp at hd
    have hb : b ≠ 0 := by rintro rfl; subst ha; simp at hd
    have g1 := hull_out' hc ha bt h1 h2
    have g2 := hull_out hb hd' lr h3 h4
    exact ⟨g2.1, g2.2, g1.1, g1.2⟩
-- P07comp
section
variable {prog : Program} {w : World} {A : Around} {s : Shared} {h₀ : Heap} {L : Addr} {m : Str → Option Value} {env : Env}
theorem compRest_ind {elt : PySem.Expr} {x : Str} {scope : Scope} {cl : List (Str × Addr)} {S : Led → Prop} {P : Nat → Value → Prop} {Fin : List Value → Led → Prop} (Inv : Nat → List Value → Led → Prop) {n : Nat}
    (step : ∀ i ys news v I oI C oC D m₂ h tk (E' : Value → Shared → Prop), i < n → P i v → Inv i ys news → LCg.NsObj oC m₂ → m₂ x = some v → Fr h₀ L h m → News h₀ L h ((I, oI) :: (C, oC) :: (D, LCg.lst ys) :: news) → LCg.Off3 I C D news → ((@Ne Nat I C) ∧ (@Ne Nat I D) ∧ (@Ne Nat C D)) →
      wpAny (model prog w) A (eval elt (compEnvC scope cl C env)) (LCg.CompEnd h₀ L m { s with heap := h, toks := tk } I oI C oC D (LCg.lst ys) S (fun y news' => Inv (i + 1) (ys ++ [y]) news')) E' { s with heap := h, toks := tk })
    (fin : ∀ ys news, Inv n ys news → Fin ys news) : ∀ k i ys news, i + k = n → Inv i ys news → LCg.CompRest prog w A h₀ L m env elt x scope cl s S P Fin k i ys news := by
  intro k
  induction k with
  | zero =>
    intro i ys news e hI
    have : i = n := by omega
    subst this
    exact fin ys news hI
  | succ k ih =>
    intro i ys news e hI
    refine LCg.CompRest.succ ?_
    intro v I oI C oC D m₂ h tk E' hP hC hx F N off ne
    refine wpAny_mono (step i ys news v I oI C oC D m₂ h tk E' (by omega) hP hI hC hx F N off ne) (fun y s₂ hy => ?_) (fun _ _ e => e)
    obtain ⟨h', tk', news', e1, F', N', off', hS', hI'⟩ := hy
    exact ⟨h', tk', news', e1, F', N', off', hS', ih _ _ _ (by omega) hI'⟩
theorem compRestP_ind {elt : PySem.Expr} {x x₂ : Str} {scope : Scope} {cl : List (Str × Addr)} {S : Led → Prop} {P : Nat → Value → Prop} {Fin : List Value → Led → Prop} (Inv : Nat → List Value → Led → Prop) {n : Nat}
    (item : ∀ i ys news v, i < n → P i v → Inv i ys news → ∃ (t : Addr) (ot : Obj) (v₁ v₂ : Value) (nt : Nat), v = .ref t ∧ (t, ot) ∈ news ∧ ot.cls = .type "tuple" ∧ ot.data = .seq #[v₁, v₂] nt ∧
      ∀ I oI C oC D m₂ h tk (E' : Value → Shared → Prop), LCg.NsObj oC m₂ → m₂ x = some v₁ → m₂ x₂ = some v₂ → Fr h₀ L h m → News h₀ L h ((I, oI) :: (C, oC) :: (D, LCg.lst ys) :: news) → LCg.Off3 I C D news → ((@Ne Nat I C) ∧ (@Ne Nat I D) ∧ (@Ne Nat C D)) →
      wpAny (model prog w) A (eval elt (compEnvC scope cl C env)) (LCg.CompEnd h₀ L m { s with heap := h, toks := tk } I oI C oC D (LCg.lst ys) S (fun y news' => Inv (i + 1) (ys ++ [y]) news')) E' { s with heap := h, toks := tk })
    (fin : ∀ ys news, Inv n ys news → Fin ys news) : ∀ k i ys news, i + k = n → Inv i ys news → LCp.CompRestP prog w A h₀ L m env elt x x₂ scope cl s S P Fin k i ys news := by
  intro k
  induction k with
  | zero =>
    intro i ys news e hI
    have : i = n := by omega
    subst this
    exact fin ys news hI
  | succ k ih =>
    intro i ys news e hI
    refine LCp.CompRestP.succ ?_
    intro v hP
    obtain ⟨t, ot, v₁, v₂, nt, e0, e1, e2, e3, go⟩ := item i ys news v (by omega) hP hI
    refine ⟨t, ot, v₁, v₂, nt, e0, e1, e2, e3, ?_⟩
    intro I oI C oC D m₂ h tk E' hC hx hx2 F N off ne
    refine wpAny_mono (go I oI C oC D m₂ h tk E' hC hx hx2 F N off ne) (fun y s₂ hy => ?_) (fun _ _ e => e)
    obtain ⟨h', tk', news', e1, F', N', off', hS', hI'⟩ := hy
    exact ⟨h', tk', news', e1, F', N', off', hS', ih _ _ _ (by omega) hI'⟩
end

local macro_rules | `(tactic| walk_at "CompSrc") => `(tactic| (k_here; k_dflt (refine LCg.CompSrc.ledger (by rfl) (by k_asm) (by k_asm) (by k_mem) (by first | assumption | size_fits | exact Nat.le_of_ble_eq_true rfl) ?_; intro g')))
local macro_rules | `(tactic| walk_at "SrcLP") => `(tactic| (k_here; k_dflt (refine LCp.SrcLP.ledger (by rfl) (by k_asm) (by k_asm) (by k_mem) (by first | assumption | size_fits | exact Nat.le_of_ble_eq_true rfl) ?_; intro g')))
local macro_rules | `(tactic| walk_at "CompSrc") => `(tactic| (k_here; k_dflt (refine LCg.CompSrc.ledger (by rfl) (by k_asm) (by k_asm) (by k_mem) (by first | size_fits | exact Nat.le_of_ble_eq_true rfl) ?_; intro g'; lcg_lit)))
local macro_rules | `(tactic| walk_at "SrcLP") => `(tactic| (k_here; k_dflt (refine LCp.SrcLP.ledger (by rfl) (by k_asm) (by k_asm) (by k_mem) (by first | size_fits | exact Nat.le_of_ble_eq_true rfl) ?_; intro g'; lcp_lit)))
-- P08box
section
variable {w : World} {dp un : Nat} {gd : Option (List Code)} {cn : Str} {cs : Scope} {ca : Addr} {ccd : Value} {cl : List (Str × Addr)} {A₀ : Around} {outer : List Env} {base h₀ : Heap} {L : Addr} {m : Str → Option Value} {s : Shared} {news : Led} {mean : ExcName → Option Value} {mg mb : Str → Option Value} {Q E : Value → Shared → Prop}




theorem mem_d2 {a b c : Addr × Obj} {l : Led} {p : Addr × Obj} (h : p ∈ a :: l) : p ∈ a :: b :: c :: l := (List.mem_cons.mp h).elim (fun e => e ▸ .head _) fun h => .tail _ (.tail _ (.tail _ h))
/-- a point of the ledger: the pair's place, its two Decimals -/
abbrev Pt := Addr × (Addr × Int) × (Addr × Int)
def PtAt (w : World) (news : Led) (k : Nat) (p : Pt) : Prop := (p.1, tup [.ref p.2.1.1, .ref p.2.2.1]) ∈ news ∧ DecAt w news p.2.1.1 p.2.1.2 k ∧ DecAt w news p.2.2.1 p.2.2.2 k
theorem PtAt.mono {w : World} {news news' : Led} {k : Nat} {p : Pt} (h : PtAt w news k p) (hs : ∀ q ∈ news, q ∈ news') : PtAt w news' k p := ⟨hs _ h.1, h.2.1.mono hs, h.2.2.mono hs⟩

/-- box_of(points) -/
theorem c_boxOf {l : Addr} {vs : List Value} {p0 : Pt} {ps : List Pt} {n : Nat} {k : Nat} (C : Cx w dp cs outer A₀ base h₀ L m s news mean mg mb 20)
    (hk1 : k ≤ 50) (ml : (l, listOf vs.toArray n) ∈ news) (hv : vs = (p0 :: ps).map (fun p => Value.ref p.1)) (hlen : ps.length < 800)
    (mi : ∀ p ∈ p0 :: ps, PtAt w news k p) (bi : ∀ p ∈ p0 :: ps, p.2.1.2.natAbs < 2 ^ 62 ∧ p.2.2.2.natAbs < 2 ^ 62)
    (hret : ∀ D a b c d h' tk', Fr h₀ L h' m → News h₀ L h' ((D, tup [.ref a, .ref b, .ref c, .ref d]) :: news) → AllLt D news →
      DecAt w news a (lmin p0.2.1.2 ((ps.map (·.2.1)).map (·.2))) k → DecAt w news b (lmin p0.2.2.2 ((ps.map (·.2.2)).map (·.2))) k → DecAt w news c (lmax p0.2.1.2 ((ps.map (·.2.1)).map (·.2))) k → DecAt w news d (lmax p0.2.2.2 ((ps.map (·.2.2)).map (·.2))) k → Q (.ref D) { s with heap := h', toks := tk' }) :
    wpAny (model PySem.Challenge.rw_nn0204_01.row.prog w) (ktrTop dp un gd cn cs L ca ccd cl outer) (call (.ref 248) [.ref l]) Q E s := by
  obtain ⟨B, F, X, N, T, hk, hd⟩ := C
  have hsz : vs.toArray.size ≤ sizeLine := by rw [List.size_toArray, hv, List.length_map, List.length_cons, sizeLine_eq]; omega
  w_on
  revert X; k_fill; intro X
  refine wpAny_call ?_
  ktr_call [(Str.ofString "points", .ref l)] 1
  have hn : vs.toArray.size = (p0 :: ps).length := by rw [List.size_toArray, hv, List.length_map]
  have hit : ∀ (i : Nat) (v : Value), vs.toArray[i]? = some v → ∃ p : Pt, (p0 :: ps)[i]? = some p ∧ v = Value.ref p.1 := by
    intro i v h
    rw [hv, List.getElem?_toArray, List.getElem?_map] at h
    cases hq : (p0 :: ps)[i]? with
    | none => rw [hq] at h; cases h
    | some p => rw [hq] at h; exact ⟨p, rfl, (Option.some.inj h).symm⟩
  have snoc : ∀ (f : Pt → Value) (i : Nat) (p : Pt), (p0 :: ps)[i]? = some p → ((p0 :: ps).take i).map f ++ [f p] = ((p0 :: ps).take (i + 1)).map f := by
    intro f i p hp
    rw [List.take_add_one, hp]
    simp
  k_steps
  refine compRest_ind (fun i ys nx => news = nx ∧ ys = ((p0 :: ps).take i).map (fun p => Value.ref p.2.1.1)) ?_ ?_ _ 0 [] _ (Nat.zero_add _) ⟨rfl, rfl⟩
  · rintro i ys nx v I oI C oC D m₂ h tk E' hi hP ⟨rfl, hys⟩ hC hx F1 N1 off ne
    obtain ⟨p, hp, rfl⟩ := hit i v hP
    have hpt := (mi p (List.mem_of_getElem? hp)).1
    k_steps
    exact LCg.CompEnd.intro F1 N1 _ (fun _ h => h) off (.inr ⟨_, ml, rfl, _, rfl⟩) ⟨rfl, by rw [hys]; exact snoc _ _ _ hp⟩
  rintro ys nx ⟨rfl, hys⟩
  k_steps
  rename_i D1 h1 tk1 F1 N1 o1 g1
  refine compRest_ind (fun i ys1 nx => (D1, LCg.lst ys) :: news = nx ∧ ys1 = ((p0 :: ps).take i).map (fun p => Value.ref p.2.2.1)) ?_ ?_ _ 0 [] _ (Nat.zero_add _) ⟨rfl, rfl⟩
  · rintro i ys1 nx v I oI C oC D m₂ h tk E' hi hP ⟨rfl, hys1⟩ hC hx F1 N1 off ne
    obtain ⟨p, hp, rfl⟩ := hit i v hP
    have hpt := (mi p (List.mem_of_getElem? hp)).1
    k_steps
    exact LCg.CompEnd.intro F1 N1 _ (fun _ h => h) off (.inr ⟨_, .tail _ ml, rfl, _, rfl⟩) ⟨rfl, by rw [hys1]; exact snoc _ _ _ hp⟩
  rintro ys1 nx ⟨rfl, hys1⟩
  rw [hn, List.take_length] at hys hys1
  have v1 : ys = Value.ref p0.2.1.1 :: (ps.map (·.2.1)).map (fun p => Value.ref p.1) := by rw [hys]; simp
  have v2 : ys1 = Value.ref p0.2.2.1 :: (ps.map (·.2.2)).map (fun p => Value.ref p.1) := by rw [hys1]; simp
  have l1 : (ps.map (·.2.1)).length < 900 := by rw [List.length_map]; omega
  have l2 : (ps.map (·.2.2)).length < 900 := by rw [List.length_map]; omega
  have a1 : DecAt w news p0.2.1.1 p0.2.1.2 k := (mi p0 (.head _)).2.1
  have a2 : DecAt w news p0.2.2.1 p0.2.2.2 k := (mi p0 (.head _)).2.2
  have a3 : ∀ q ∈ ps.map (·.2.1), DecAt w news q.1 q.2 k := by
    intro q hq; obtain ⟨p, hp, rfl⟩ := List.mem_map.mp hq; exact (mi p (.tail _ hp)).2.1
  have a4 : ∀ q ∈ ps.map (·.2.2), DecAt w news q.1 q.2 k := by
    intro q hq; obtain ⟨p, hp, rfl⟩ := List.mem_map.mp hq; exact (mi p (.tail _ hp)).2.2
  have b1 := (bi p0 (.head _)).1
  have b2 := (bi p0 (.head _)).2
  have b3 : ∀ q ∈ ps.map (·.2.1), q.2.natAbs < 2 ^ 62 := by
    intro q hq; obtain ⟨p, hp, rfl⟩ := List.mem_map.mp hq; exact (bi p (.tail _ hp)).1
  have b4 : ∀ q ∈ ps.map (·.2.2), q.2.natAbs < 2 ^ 62 := by
    intro q hq; obtain ⟨p, hp, rfl⟩ := List.mem_map.mp hq; exact (bi p (.tail _ hp)).2
  k_steps
  exact hret _ _ _ _ _ _ _ (by k_asm) (fun p hp => (by k_asm : News h₀ L _ _) p (mem_d2 hp)) (by tbn_find) (by k_asm) (by k_asm) (by k_asm) (by k_asm)
end
-- P09sub
/-- a ledger within another -/
abbrev Sub (a b : Led) : Prop := ∀ p ∈ a, p ∈ b
theorem DecAt.cons {w : World} {news : Led} {q : Addr × Obj} {x : Addr} {v : Int} {k : Nat} (h : DecAt w news x v k) : DecAt w (q :: news) x v k := h.mono fun _ hp => .tail _ hp
/-- what stands in nd was made behind all that stands in news -/
def Newer (nd news : Led) : Prop := ∀ p ∈ nd, ∀ q ∈ news, q.1 < p.1
theorem allLt_mem {d : Nat} : ∀ {l : Led}, AllLt d l → ∀ q ∈ l, q.1 < d
  | [], _, _, h => nomatch h
  | (_, _) :: _, h, q, hq => by
    rcases List.mem_cons.mp hq with rfl | hq
    · exact h.1
    · exact allLt_mem h.2 q hq
theorem AllLt.up {d x : Nat} {l : Led} (h : d < x) (g : AllLt d l) : AllLt x l := allLt_of fun q hq => Nat.lt_trans (allLt_mem g q hq) h
theorem Newer.nil {news : Led} : Newer [] news := fun _ h => nomatch h
theorem Newer.cons {a : Addr} {o : Obj} {nd news : Led} (h : AllLt a news) (g : Newer nd news) : Newer ((a, o) :: nd) news := fun p hp => by
  rcases List.mem_cons.mp hp with rfl | hp
  · exact allLt_mem h
  · exact g p hp
theorem Newer.off3 {I C D : Addr} {oI oC oD : Obj} {nd news : Led} (off : LCg.Off3 I C D news) (h : Newer nd ((I, oI) :: (C, oC) :: (D, oD) :: news)) : LCg.Off3 I C D (nd ++ news) := LCg.Off3.of fun p hp => by
  rcases List.mem_append.mp hp with hp | hp
  · exact ⟨Nat.ne_of_gt (h p hp _ (.head _)), Nat.ne_of_gt (h p hp _ (.tail _ (.head _))), Nat.ne_of_gt (h p hp _ (.tail _ (.tail _ (.head _))))⟩
  · exact off.mem p hp
/-- x lies within 2 ^ n (a word that omega does not look into) -/
def Ab (n : Nat) (x : Int) : Prop := x.natAbs < 2 ^ n
theorem Ab.out {n : Nat} {x : Int} (h : Ab n x) : x.natAbs < 2 ^ n := h
theorem Ab.le {n k : Nat} {x : Int} (h : Ab n x) (hk : n ≤ k := by decide) : Ab k x := Nat.lt_of_lt_of_le h (Nat.pow_le_pow_right (by decide) hk)
theorem Ab.max {n : Nat} {x y : Int} (h : Ab n x) (g : Ab n y) : Ab n (max x y) := by
  rcases Int.le_total x y with q | q
  · rw [Int.max_eq_right q]; exact g
  · rw [Int.max_eq_left q]; exact h
theorem Ab.min {n : Nat} {x y : Int} (h : Ab n x) (g : Ab n y) : Ab n (min x y) := by
  rcases Int.le_total x y with q | q
  · rw [Int.min_eq_left q]; exact h
  · rw [Int.min_eq_right q]; exact g
local macro_rules | `(tactic| kas_types) => `(tactic| (with_reducible apply DecAt.cons; kas_types))
local macro_rules | `(tactic| kas_types) => `(tactic| (with_reducible assumption))
local macro_rules | `(tactic| walk_at "call ref") => `(tactic| (with_reducible refine atC 77 ?_; k_dflt (refine' c_minus _ _ _ _ _ _ _ _ _; keq_rows)))
local macro_rules | `(tactic| walk_at "call ref") => `(tactic| (with_reducible refine atC 98 ?_; k_dflt (refine' c_comp _ _ _ _ _ _ _ _ _; keq_rows)))
local macro_rules | `(tactic| kfm_turns) => `(tactic| exact Ab.le (n := 62) (by with_reducible assumption))
-- P28bi
section
variable {w : World} {dp un : Nat} {gd : Option (List Code)} {cn : Str} {cs : Scope} {ca : Addr} {ccd : Value} {cl : List (Str × Addr)} {A₀ : Around} {outer : List Env} {base h₀ : Heap} {L : Addr} {m : Str → Option Value} {s : Shared} {news : Led} {mean : ExcName → Option Value} {mg mb : Str → Option Value} {Q E : Value → Shared → Prop}

theorem c_leastI {l : Addr} {x : Int} {t : Tok} {n : Nat} (C : Cx w dp cs outer A₀ base h₀ L m s news mean mg mb 13)
    (ml : (l, listOf [.int x t].toArray n) ∈ news)
    (hret : Ret (∀ D h' tk' news', Fr h₀ L h' m → News h₀ L h' news' → Sub news news' → DecAt w news' D x 0 → Q (.ref D) { s with heap := h', toks := tk' })) :
    wpAny (model PySem.Challenge.rw_nn0204_01.row.prog w) (ktrTop dp un gd cn cs L ca ccd cl outer) (call (.ref 175) [.ref l]) Q E s := by
  obtain ⟨B, F, X, N, T, hk, hd⟩ := C
  w_on
  revert X; k_fill; intro X
  refine wpAny_call ?_
  ktr_call [(Str.ofString "values", .ref l)] 1
  k_steps
  k_here
  refine' c_decIX ?C ?_
  case C => exact ⟨by k_asm, by k_asm, by k_asm, by k_asm, by k_asm, by first | exact rfl | assumption, by ktr_room⟩
  k_whole
  intro x' d' u' a' b' v' h' tk' F' N' l1 l2
  try dsimp only
  k_steps
  rename_i lF lN ll
  refine iter_led (fun _ m₁ => m₁ (Str.ofString "best") = some (.ref x')) (by exact rfl) (List.mem_cons_self ..) lF lN (by rfl) ?_ ?_
  · intro i vv m₁ h tk own hi
    cases hi
  · intro m₁ h tk hJ F1 N1
    have F1 := Fr_cast F1 (named_eq rfl hJ)
    dsimp only
    k_steps
    refine hret _ _ _ _ (by assumption) (by assumption) ?_ ?_
    · intro p hp; repeat (first | exact hp | refine List.mem_cons_of_mem _ ?_)
    · exact ⟨_, _, _, _, _, by k_mem, by k_mem⟩
theorem c_greatI {l : Addr} {x : Int} {t : Tok} {n : Nat} (C : Cx w dp cs outer A₀ base h₀ L m s news mean mg mb 13)
    (ml : (l, listOf [.int x t].toArray n) ∈ news)
    (hret : Ret (∀ D h' tk' news', Fr h₀ L h' m → News h₀ L h' news' → Sub news news' → DecAt w news' D x 0 → Q (.ref D) { s with heap := h', toks := tk' })) :
    wpAny (model PySem.Challenge.rw_nn0204_01.row.prog w) (ktrTop dp un gd cn cs L ca ccd cl outer) (call (.ref 182) [.ref l]) Q E s := by
  obtain ⟨B, F, X, N, T, hk, hd⟩ := C
  w_on
  revert X; k_fill; intro X
  refine wpAny_call ?_
  ktr_call [(Str.ofString "values", .ref l)] 1
  k_steps
  k_here
  refine' c_decIX ?C ?_
  case C => exact ⟨by k_asm, by k_asm, by k_asm, by k_asm, by k_asm, by first | exact rfl | assumption, by ktr_room⟩
  k_whole
  intro x' d' u' a' b' v' h' tk' F' N' l1 l2
  try dsimp only
  k_steps
  rename_i lF lN ll
  refine iter_led (fun _ m₁ => m₁ (Str.ofString "best") = some (.ref x')) (by exact rfl) (List.mem_cons_self ..) lF lN (by rfl) ?_ ?_
  · intro i vv m₁ h tk own hi
    cases hi
  · intro m₁ h tk hJ F1 N1
    have F1 := Fr_cast F1 (named_eq rfl hJ)
    dsimp only
    k_steps
    refine hret _ _ _ _ (by assumption) (by assumption) ?_ ?_
    · intro p hp; repeat (first | exact hp | refine List.mem_cons_of_mem _ ?_)
    · exact ⟨_, _, _, _, _, by k_mem, by k_mem⟩
end
-- P28it
section
variable {prog : Program} {w : World} {A : Around} {E : Value → Shared → Prop} {s : Shared} {env : Env} {h₀ : Heap} {target : PySem.Expr} {x : Str} {body : List Stmt} {Q : Flow → Shared → Prop}
/-- a loop over a list of the ledger, any target, its turns keeping the ledger -/
theorem turns_led {l : Addr} {vs : List Value} {n : Nat} {m₀ : Str → Option Value} {news : Led} (J : Nat → (Str → Option Value) → Prop)
    (hh : A.handled = none) (hl : (l, listOf vs.toArray n) ∈ news) (F : Fr h₀ env.locals s.heap m₀) (N : News h₀ env.locals s.heap news) (hj : J 0 m₀)
    (turn : ∀ i v m₁ h tk nx, vs[i]? = some v → J i m₁ → Fr h₀ env.locals h m₁ → News h₀ env.locals h nx → Sub news nx →
      wpAny (model prog w) A (assign target env v) (fun _ s₃ => wpAny (model prog w) A (execs body env) (InvPost h₀ env.locals (J (i + 1)) nx { s with heap := h, toks := tk } Q) E s₃) E { s with heap := h, toks := tk })
    (done : ∀ m₁ h tk, J vs.length m₁ → Fr h₀ env.locals h m₁ → News h₀ env.locals h news → Q .next { s with heap := h, toks := tk }) :
    wpAny (model prog w) A (pyIter (.ref l)) (fun it s₂ => TurnsAt prog w A h₀ env target body Q E it s₂) E s := by
  have hls : s.heap.IsList l vs.toArray := led_list N hl
  obtain ⟨ol, hol, _⟩ := id hls
  have hlt : l < s.heap.objs.size := Heap.lt_size hol
  have hne : l ≠ s.heap.objs.size := Nat.ne_of_lt hlt
  refine wpAny_pyIter_list hls ?_
  have W := KTurns.ofWalks (target := target) (Walks.list (prog := prog) (w := w) hh s.heap.objs.size l hne vs.toArray) (fun i v s Q E st q => letGo_listiter st.1 q)
  have hlen : vs.toArray.size = vs.length := by simp
  rw [hlen] at W
  let J' : Nat → (Str → Option Value) → List (Addr × Obj) → Prop := fun i m₁ news₁ => news₁ = news ∧ J i m₁
  refine ⟨_, _, _, vs.length, _, _, _, m₀, news, J', rfl, W, ?_, ?_, ?_, ⟨⟨_, Heap.get?_push_size _ rfl, rfl, rfl⟩, hls.at fun o e => Heap.get?_push_of_some _ e⟩, F.push _, (fun p hp => ⟨Heap.get?_push_of_some _ (N p hp).1, (N p hp).2⟩), ⟨rfl, hj⟩, ?_, ?_⟩
  · intro hm
    rcases List.mem_cons.mp hm with e | hm
    · exact absurd F.ns.lt (e ▸ Nat.lt_irrefl _)
    · exact (N _ hl).2.1 (List.mem_singleton.mp hm).symm
  · intro b hb
    rw [List.mem_singleton.mp hb]
    exact next_is_new F
  · intro p hp hI
    exact absurd (Heap.lt_size (N p hp).1) ((List.mem_singleton.mp hI) ▸ Nat.lt_irrefl _)
  · rintro i v m₁ news₁ hh' tk' own hin hP ⟨rfl, hJ⟩ hoff _ _ _ _ F₁ N₁
    have hP' : vs[i]? = some v := by simpa using hP
    refine wpAny_mono (turn i v m₁ hh' tk' (own ++ news₁) hP' hJ F₁ N₁ (fun p hp => List.mem_append_right _ hp)) (fun _ s₃ h₃ => wpAny_mono h₃ (fun f s₂ p => ?_) fun _ _ e => e) fun _ _ e => e
    have fin : InvEnd h₀ env.locals (J (i + 1)) (own ++ news₁) { s with heap := hh', toks := tk' } s₂ → LoopStepU h₀ env.locals [s.heap.objs.size] own (J' (i + 1)) { s with heap := hh', toks := tk' } .next s₂ := by
      rintro ⟨h', tk, m', news', e, F', N', hn, hm⟩
      exact ⟨rfl, h', tk, m', news₁, e, F', fun p hp => N' p (hn p hp), hoff, rfl, hm⟩
    cases f with
    | ret v => exact .ret p
    | brk => exact .brk p
    | next => exact .next (fin p)
    | cont => exact .cont (fin p)
  · rintro h' tk m' news' F' N' _ ⟨rfl, hJ⟩
    exact done m' h' tk hJ F' N'
/-- a loop over a range, its turns changing the ledger -/
theorem range_led {r : Addr} {a₀ b₀ : Int} {t₀ u₀ v₀ : Tok} {n : Nat} {m₀ : Str → Option Value} {news : Led} (J : Nat → (Str → Option Value) → Led → Prop)
    (hh : A.handled = none) (hr : IsRange s.heap r a₀ b₀ 1 t₀ u₀ v₀) (hsmall : Builtin.Range.small a₀ b₀ 1 = true) (hn : Builtin.Range.rangeSize a₀ b₀ 1 = (n : Int)) (F : Fr h₀ env.locals s.heap m₀) (N : News h₀ env.locals s.heap news) (hj : J 0 m₀ news)
    (turn : ∀ i t m₁ nx h tk I oI, i < n → J i m₁ nx → (∀ p ∈ nx, p.1 ≠ I) → Fr h₀ env.locals h (fun y => if y = x then some (.int (a₀ + (i : Int)) t) else m₁ y) → News h₀ env.locals h ((I, oI) :: nx) →
      wpAny (model prog w) A (execs body env) (UnrPost h₀ env.locals { s with heap := h, toks := tk } I oI (J (i + 1)) Q) E { s with heap := h, toks := tk })
    (done : ∀ m₁ nx h tk, J n m₁ nx → Fr h₀ env.locals h m₁ → News h₀ env.locals h nx → Q .next { s with heap := h, toks := tk }) :
    wpAny (model prog w) A (pyIter (.ref r)) (fun it s₂ => LoopAtV prog w A h₀ env x body Q E it s₂) E s := by
  refine iter_rangeUnr hh hr hsmall hn F N fun I hI => ?_
  have key : ∀ k i m₁ nx, i + k = n → J i m₁ nx → (∀ p ∈ nx, p.1 ≠ I) → RangeRest prog w A E h₀ env x body Q s I a₀ n k i m₁ nx := by
    intro k
    induction k with
    | zero =>
      intro i m₁ nx hi hJ ho
      have e : i = n := by omega
      subst e
      exact RangeRest.zero fun h tk F' N' => done m₁ nx h tk hJ F' N'
    | succ k ih =>
      intro i m₁ nx hi hJ ho
      refine RangeRest.succ fun t h tk F' N' => ?_
      refine wpAny_mono (turn i t m₁ nx h tk I _ (by omega) hJ ho F' N') (fun f s₂ p => ?_) fun _ _ e => e
      have fin : UnrEnd h₀ env.locals { s with heap := h, toks := tk } I (itR (a₀ + ((i + 1 : Nat) : Int)) ((n : Int) - ((i + 1 : Nat) : Int))) (J (i + 1)) s₂ →
          UnrEnd h₀ env.locals { s with heap := h, toks := tk } I (itR (a₀ + ((i + 1 : Nat) : Int)) ((n : Int) - ((i + 1 : Nat) : Int))) (RangeRest prog w A E h₀ env x body Q s I a₀ n k (i + 1)) s₂ := by
        rintro ⟨h', tk', m', news', e, F2, N2, ho2, hJ2⟩
        exact ⟨h', tk', m', news', e, F2, N2, ho2, ih (i + 1) m' news' (by omega) hJ2 ho2⟩
      cases f with
      | ret v => exact p
      | brk => exact p
      | next => exact fin p
      | cont => exact fin p
  exact key n 0 m₀ news (by omega) hj fun p hp => Nat.ne_of_lt (hI p hp)
end
-- P09arr
section
variable {w : World} {dp un : Nat} {gd : Option (List Code)} {cn : Str} {cs : Scope} {ca : Addr} {ccd : Value} {cl : List (Str × Addr)} {A₀ : Around} {outer : List Env} {base h₀ : Heap} {L : Addr} {m : Str → Option Value} {s : Shared} {news : Led} {mean : ExcName → Option Value} {mg mb : Str → Option Value} {Q E : Value → Shared → Prop}

theorem item_led {prog : Program} {w : World} {A : Around} {E : Value → Shared → Prop} {s : Shared} {h₀ : Heap} {L l : Addr} {v : Value} {vs : List Value} {n : Nat} {i : Int} {news : Led} {value slice : PySem.Expr} {u : Tok} {Q : Value → Shared → Prop} (N : News h₀ L s.heap news) (hl : (l, listOf vs.toArray n) ∈ news)
    (h0 : 0 ≤ i) (h1 : i < 2 ^ 63) (hx : vs[i.toNat]? = some v)
    (h : Ret (Q v s)) (hs : subscripted slice false (.ref l) (.int i u) = operate [.ref l, .int i u] (getItem (.ref l) (.int i u)) := by with_unfolding_all rfl) : wpAny (model prog w) A (subscriptTail value slice (.ref l) (.int i u)) Q E s :=
  have hL := led_list N hl
  tail_any hL.typeIs slot_list_getitem.lookup (wpAny_getItem_list hL h0 h1 (by simpa using hx) h) hs
end
local macro_rules | `(tactic| walk_at "subscriptTail") => `(tactic| ((with_reducible show wpAny _ _ (subscriptTail _ _ (Value.ref _) (Value.int _ _)) _ _ _); k_dflt (refine' item_led _ _ _ _ _ _; kp_flats)))
local macro_rules | `(tactic| kpt_turns) => `(tactic| ((with_reducible show getElem? _ _ = some _); exact rfl))
section
variable {w : World} {dp un : Nat} {gd : Option (List Code)} {cn : Str} {cs : Scope} {ca : Addr} {ccd : Value} {cl : List (Str × Addr)} {A₀ : Around} {outer : List Env} {base h₀ : Heap} {L : Addr} {m : Str → Option Value} {s : Shared} {news : Led} {mean : ExcName → Option Value} {mg mb : Str → Option Value} {Q E : Value → Shared → Prop}
/-- box_from_array(a list of four Decimals) -/
theorem c_boxArr {l x0 x1 x2 x3 : Addr} {w0 w1 w2 w3 : Int} {n : Nat} {k : Nat} {sub : Led} (C : Cx w dp cs outer A₀ base h₀ L m s news mean mg mb 30)
    (hk1 : k ≤ 50) (ml : (l, listOf [.ref x0, .ref x1, .ref x2, .ref x3].toArray n) ∈ news)
    (m0 : DecAt w news x0 w0 k) (m1 : DecAt w news x1 w1 k) (m2 : DecAt w news x2 w2 k) (m3 : DecAt w news x3 w3 k)
    (b0 : Ab 62 w0) (b1 : Ab 62 w1) (b2 : Ab 62 w2) (b3 : Ab 62 w3)
    (hret : Ret (∀ D a b c d h' tk' news', Fr h₀ L h' m → News h₀ L h' news' → Sub news news' → (D, tup [.ref a, .ref b, .ref c, .ref d]) ∈ news' →
      DecAt w news' a (min w0 w2) k → DecAt w news' b (min w1 w3) k → DecAt w news' c (max w0 w2) k → DecAt w news' d (max w1 w3) k → Q (.ref D) { s with heap := h', toks := tk' })) :
    wpAny (model PySem.Challenge.rw_nn0204_01.row.prog w) (ktrTop dp un gd cn cs L ca ccd cl outer) (call (.ref 255) [.ref l]) Q E s := by
  obtain ⟨B, F, X, N, T, hk, hd⟩ := C
  w_on
  revert X; k_fill; intro X
  refine wpAny_call ?_
  ktr_call [(Str.ofString "values", .ref l)] 1
  k_steps
  k_dflt (refine' c_boxOf (p0 := (_, (x0, w0), (x1, w1))) (ps := [(_, (x2, w2), (x3, w3))]) (k := k) ?C hk1 (List.mem_cons_self ..) rfl (show 1 < 800 by decide) ?mi ?bi ?_; (case C => kpc_turns); k_whole)
  case mi =>
    intro p hp
    rcases List.mem_cons.mp hp with rfl | hp
    · exact ⟨.tail _ (.tail _ (.head _)), m0.cons.cons.cons, m1.cons.cons.cons⟩
    · rw [List.mem_singleton.mp hp]
      exact ⟨.tail _ (.head _), m2.cons.cons.cons, m3.cons.cons.cons⟩
  case bi =>
    intro p hp
    rcases List.mem_cons.mp hp with rfl | hp
    · exact ⟨b0, b1⟩
    · rw [List.mem_singleton.mp hp]; exact ⟨b2, b3⟩
  intro D' a' b' c' d' h' tk' F' N' l1 ma' mb' mc' md'
  k_steps
  refine hret _ _ _ _ _ _ _ _ (by assumption) (by assumption) (by intro p hp; repeat (first | exact hp | refine List.mem_cons_of_mem _ ?_)) (by k_mem) ?_ ?_ ?_ ?_
  · exact ma'.cons
  · exact mb'.cons
  · exact mc'.cons
  · exact md'.cons
end
local macro_rules | `(tactic| walk_at "call ref") => `(tactic| (with_reducible refine atC 255 ?_; k_dflt (refine' c_boxArr _ _ _ _ _ _ _ _ _ _ _ _; keq_rows)))
-- P09cor
section
variable {w : World} {dp un : Nat} {gd : Option (List Code)} {cn : Str} {cs : Scope} {ca : Addr} {ccd : Value} {cl : List (Str × Addr)} {A₀ : Around} {outer : List Env} {base h₀ : Heap} {L : Addr} {m : Str → Option Value} {s : Shared} {news : Led} {mean : ExcName → Option Value} {mg mb : Str → Option Value} {Q E : Value → Shared → Prop}

/-- corners_of(frame) -/
theorem c_corners {f a b c d : Addr} (C : Cx w dp cs outer A₀ base h₀ L m s news mean mg mb 4) (mf : (f, tup [.ref a, .ref b, .ref c, .ref d]) ∈ news)
    (hret : Ret (∀ l vs t0 t1 t2 t3 h' tk' news', vs = [.ref t0, .ref t1, .ref t2, .ref t3] → vs.toArray.size ≤ sizeLine → Fr h₀ L h' m → News h₀ L h' news' → Sub news news' → (l, listOf vs.toArray 0) ∈ news' → (t3, tup [.ref a, .ref d]) ∈ news' → (t2, tup [.ref c, .ref d]) ∈ news' → (t1, tup [.ref c, .ref b]) ∈ news' → (t0, tup [.ref a, .ref b]) ∈ news' →
      Q (.ref l) { s with heap := h', toks := tk' })) :
    wpAny (model PySem.Challenge.rw_nn0204_01.row.prog w) (ktrTop dp un gd cn cs L ca ccd cl outer) (call (.ref 262) [.ref f]) Q E s := by
  obtain ⟨B, F, X, N, T, hk, hd⟩ := C
  w_on
  revert X; k_fill; intro X
  refine wpAny_call ?_
  ktr_call [(Str.ofString "frame", .ref f)] 1
  k_steps
  exact hret _ _ _ _ _ _ _ _ _ rfl (by rw [sizeLine_eq]; exact (show (4 : Nat) ≤ 16777216 by decide)) (by assumption) (by assumption) (by intro p hp; repeat (first | exact hp | refine List.mem_cons_of_mem _ ?_)) (by k_mem) (by k_mem) (by k_mem) (by k_mem) (by k_mem)
end
local macro_rules | `(tactic| walk_at "call ref") => `(tactic| (with_reducible refine atC 262 ?_; k_dflt (refine' c_corners _ _ _; keq_rows)))
-- P09siz
section
variable {w : World} {dp un : Nat} {gd : Option (List Code)} {cn : Str} {cs : Scope} {ca : Addr} {ccd : Value} {cl : List (Str × Addr)} {A₀ : Around} {outer : List Env} {base h₀ : Heap} {L : Addr} {m : Str → Option Value} {s : Shared} {news : Led} {mean : ExcName → Option Value} {mg mb : Str → Option Value} {Q E : Value → Shared → Prop}

/-- box_size(frame) -/
theorem c_size {f a b c d : Addr} {wa wb wc wd : Int} {k : Nat} (C : Cx w dp cs outer A₀ base h₀ L m s news mean mg mb 20) (mf : (f, tup [.ref a, .ref b, .ref c, .ref d]) ∈ news)
    (hk1 : k ≤ 50) (ma : DecAt w news a wa k) (mb' : DecAt w news b wb k) (mc : DecAt w news c wc k) (md : DecAt w news d wd k)
    (b0 : Ab 62 wa) (b1 : Ab 62 wb) (b2 : Ab 62 wc) (b3 : Ab 62 wd)
    (hret : Ret (∀ D x y h' tk' news', Fr h₀ L h' m → News h₀ L h' news' → Sub news news' → (D, tup [.ref x, .ref y]) ∈ news' → DecAt w news' x (wc - wa) k → DecAt w news' y (wd - wb) k → Q (.ref D) { s with heap := h', toks := tk' })) :
    wpAny (model PySem.Challenge.rw_nn0204_01.row.prog w) (ktrTop dp un gd cn cs L ca ccd cl outer) (call (.ref 274) [.ref f]) Q E s := by
  refine DecAt.op ma ?_; intro d1 u1 a1 b1 v1 ma1 ma2
  refine DecAt.op mb' ?_; intro d2 u2 a2 b2 v2 mb1 mb2
  refine DecAt.op mc ?_; intro d3 u3 a3 b3 v3 mc1 mc2
  refine DecAt.op md ?_; intro d4 u4 a4 b4 v4 md1 md2
  obtain ⟨B, F, X, N, T, hk, hd⟩ := C
  w_on
  revert X; k_fill; intro X
  refine wpAny_call ?_
  ktr_call [(Str.ofString "frame", .ref f)] 1
  k_steps
  refine hret _ _ _ _ _ _ (by assumption) (by assumption) (by intro p hp; repeat (first | exact hp | refine List.mem_cons_of_mem _ ?_)) (by k_mem) ?_ ?_
  · exact ⟨_, _, _, _, _, by k_mem, by k_mem⟩
  · exact ⟨_, _, _, _, _, by k_mem, by k_mem⟩
end
local macro_rules | `(tactic| walk_at "call ref") => `(tactic| (with_reducible refine atC 274 ?_; k_dflt (refine' c_size _ _ _ _ _ _ _ _ _ _ _ _; keq_rows)))
-- P09inb
theorem sgl {a x : Int} : signOf (a - x) ≤ 0 ↔ a ≤ x := (signOf_le (a - x)).trans (by omega)
theorem sgg {a x : Int} : 0 ≤ signOf (a - x) ↔ x ≤ a := (signOf_ge (a - x)).trans (by omega)
theorem and4_1 {p q r s : Prop} (hp : p) (hq : q) (hr : r) : s ↔ p ∧ q ∧ r ∧ s := ⟨fun h => ⟨hp, hq, hr, h⟩, fun h => h.2.2.2⟩
theorem and4_2 {p q r s : Prop} (hr : ¬ r) : r ↔ p ∧ q ∧ r ∧ s := ⟨fun h => absurd h hr, fun h => h.2.2.1⟩
theorem and4_3 {p q r s : Prop} (hq : ¬ q) : q ↔ p ∧ q ∧ r ∧ s := ⟨fun h => absurd h hq, fun h => h.2.1⟩
theorem and4_4 {p q r s : Prop} (hp : ¬ p) : p ↔ p ∧ q ∧ r ∧ s := ⟨fun h => absurd h hp, fun h => h.1⟩
section
variable {w : World} {dp un : Nat} {gd : Option (List Code)} {cn : Str} {cs : Scope} {ca : Addr} {ccd : Value} {cl : List (Str × Addr)} {A₀ : Around} {outer : List Env} {base h₀ : Heap} {L : Addr} {m : Str → Option Value} {s : Shared} {news : Led} {mean : ExcName → Option Value} {mg mb : Str → Option Value} {Q E : Value → Shared → Prop}

/-- is_in_box(frame, x, y) -/
theorem c_inBox {f a b c d x y : Addr} {wa wb wc wd wx wy : Int} {k : Nat} (C : Cx w dp cs outer A₀ base h₀ L m s news mean mg mb 20) (mf : (f, tup [.ref a, .ref b, .ref c, .ref d]) ∈ news)
    (hk1 : k ≤ 50) (ma : DecAt w news a wa k) (mb' : DecAt w news b wb k) (mc : DecAt w news c wc k) (md : DecAt w news d wd k) (mx : DecAt w news x wx k) (my : DecAt w news y wy k)
    (c0 : Ab 62 wa) (c1 : Ab 62 wb) (c2 : Ab 62 wc) (c3 : Ab 62 wd) (c4 : Ab 62 wx) (c5 : Ab 62 wy)
    (hret : Ret (∀ h' tk', Fr h₀ L h' m → News h₀ L h' news → Q (.bool (decide (wa ≤ wx ∧ wx ≤ wc ∧ wb ≤ wy ∧ wy ≤ wd))) { s with heap := h', toks := tk' })) :
    wpAny (model PySem.Challenge.rw_nn0204_01.row.prog w) (ktrTop dp un gd cn cs L ca ccd cl outer) (call (.ref 281) [.ref f, .ref x, .ref y]) Q E s := by
  refine DecAt.op ma ?_; intro d1 u1 a1 b1' v1 ma1 ma2
  refine DecAt.op mb' ?_; intro d2 u2 a2 b2' v2 mb1 mb2
  refine DecAt.op mc ?_; intro d3 u3 a3 b3' v3 mc1 mc2
  refine DecAt.op md ?_; intro d4 u4 a4 b4' v4 md1 md2
  refine DecAt.op mx ?_; intro d5 u5 a5 b5' v5 mx1 mx2
  refine DecAt.op my ?_; intro d6 u6 a6 b6' v6 my1 my2
  obtain ⟨B, F, X, N, T, hk, hd⟩ := C
  w_on
  revert X; k_fill; intro X
  refine wpAny_call ?_
  ktr_call [(Str.ofString "frame", .ref f), (Str.ofString "x", .ref x), (Str.ofString "y", .ref y)] 1
  k_steps
  all_goals (refine cb_retB (fun _ => hret) ?_ (by assumption) (by assumption); rw [decide_eq_decide, ← sgl (a := wa), ← sgg (a := wc), ← sgl (a := wb), ← sgg (a := wd)]; first | exact and4_1 (by assumption) (by assumption) (by assumption) | exact and4_2 (by assumption) | exact and4_3 (by assumption) | exact and4_4 (by assumption))
end
local macro_rules | `(tactic| walk_at "call ref") => `(tactic| (with_reducible refine atC 281 ?_; k_dflt (refine' c_inBox _ _ _ _ _ _ _ _ _ _ _ _ _ _ _ _; keq_rows)))
-- P10mat
theorem DecAt.scale {w : World} {news : Led} {x : Addr} {v : Int} {k : Nat} (h : DecAt w news x v k) (k' : Nat) (hk : k ≤ k') : DecAt w news x (v * 10 ^ (k' - k)) k' := by
  obtain ⟨d, u, a, b, t, h1, h2⟩ := h
  exact ⟨d, u, a, b, t, h1, decO_eq (nm_at v hk) u a b t ▸ h2⟩
theorem nmT_zero (t : Int) (k : Nat) : nmT t k = 0 ↔ t = 0 := by
  have h := nm_back t k
  constructor
  · intro h0; unfold nmT at h0; rw [h0, Int.zero_mul] at h; exact h.symm
  · intro h0
    subst h0
    rcases Int.mul_eq_zero.mp h with h1 | h1
    · exact h1
    · have h2 : (0 : Int) < 10 ^ (k - (nmN 0 k).2) := Int.pow_pos (by decide)
      rw [h1] at h2
      exact absurd h2 (Int.lt_irrefl 0)
theorem abs_mul_lt {a b : Int} (ha : a.natAbs < 2 ^ 24) (hb : b.natAbs < 2 ^ 24) : (a * b).natAbs < 2 ^ 48 := by
  rw [Int.natAbs_mul]
  have : a.natAbs * b.natAbs ≤ 2 ^ 24 * b.natAbs := Nat.mul_le_mul_right _ (by omega)
  have : 2 ^ 24 * b.natAbs < 2 ^ 24 * 2 ^ 24 := Nat.mul_lt_mul_of_pos_left hb (by decide)
  omega
/-- a Matrix's attributes -/
abbrev matO (w : World) (x0 x1 x2 x3 x4 x5 : Addr) (t0 t1 t2 t3 t4 t5 : Tok) : Obj := dictOf [⟨PyData.keyHash w.params (Str.ofString "a"), .str (Str.ofString "a") t0, .ref x0⟩, ⟨PyData.keyHash w.params (Str.ofString "b"), .str (Str.ofString "b") t1, .ref x1⟩, ⟨PyData.keyHash w.params (Str.ofString "c"), .str (Str.ofString "c") t2, .ref x2⟩, ⟨PyData.keyHash w.params (Str.ofString "d"), .str (Str.ofString "d") t3, .ref x3⟩, ⟨PyData.keyHash w.params (Str.ofString "e"), .str (Str.ofString "e") t4, .ref x4⟩, ⟨PyData.keyHash w.params (Str.ofString "f"), .str (Str.ofString "f") t5, .ref x5⟩] 6
/-- M is a Matrix of the ledger: its six Decimals -/
inductive MatAt (w : World) (news : Led) (M : Addr) (wa wb wc wd we wf : Int) (k : Nat) : Prop
  | mk (d x0 x1 x2 x3 x4 x5 : Addr) (t0 t1 t2 t3 t4 t5 : Tok) (hM : (M, instObj 232 d) ∈ news) (hD : (d, matO w x0 x1 x2 x3 x4 x5 t0 t1 t2 t3 t4 t5) ∈ news)
    (m0 : DecAt w news x0 wa k) (m1 : DecAt w news x1 wb k) (m2 : DecAt w news x2 wc k) (m3 : DecAt w news x3 wd k) (m4 : DecAt w news x4 we k) (m5 : DecAt w news x5 wf k)
theorem MatAt.mono {w : World} {news news' : Led} {M : Addr} {wa wb wc wd we wf : Int} {k : Nat} (h : MatAt w news M wa wb wc wd we wf k) (hs : Sub news news') : MatAt w news' M wa wb wc wd we wf k := by
  cases h with
  | mk d x0 x1 x2 x3 x4 x5 t0 t1 t2 t3 t4 t5 h1 h2 a b c e f g => exact ⟨d, x0, x1, x2, x3, x4, x5, t0, t1, t2, t3, t4, t5, hs _ h1, hs _ h2, a.mono hs, b.mono hs, c.mono hs, e.mono hs, f.mono hs, g.mono hs⟩
theorem MatAt.cons {w : World} {news : Led} {q : Addr × Obj} {M : Addr} {wa wb wc wd we wf : Int} {k : Nat} (h : MatAt w news M wa wb wc wd we wf k) : MatAt w (q :: news) M wa wb wc wd we wf k := h.mono fun _ hp => .tail _ hp
local macro_rules | `(tactic| kpt_turns) => `(tactic| ((with_reducible show MatAt _ _ _ _ _ _ _ _ _ _); k_mem))
local macro_rules | `(tactic| kas_types) => `(tactic| (with_reducible apply MatAt.cons; kas_types))
local macro_rules | `(tactic| kas_types) => `(tactic| (with_reducible assumption))
section
variable {w : World} {dp un : Nat} {gd : Option (List Code)} {cn : Str} {cs : Scope} {ca : Addr} {ccd : Value} {cl : List (Str × Addr)} {A₀ : Around} {outer : List Env} {base h₀ : Heap} {L : Addr} {m : Str → Option Value} {s : Shared} {news : Led} {mean : ExcName → Option Value} {mg mb : Str → Option Value} {Q E : Value → Shared → Prop}

/-- Matrix(six Decimals) -/
theorem c_matrix {x0 x1 x2 x3 x4 x5 : Addr} {wa wb wc wd we wf : Int} {k : Nat} (C : Cx w dp cs outer A₀ base h₀ L m s news mean mg mb 9)
    (m0 : DecAt w news x0 wa k) (m1 : DecAt w news x1 wb k) (m2 : DecAt w news x2 wc k) (m3 : DecAt w news x3 wd k) (m4 : DecAt w news x4 we k) (m5 : DecAt w news x5 wf k)
    (hret : Ret (∀ M h' tk' news', Fr h₀ L h' m → News h₀ L h' news' → Sub news news' → MatAt w news' M wa wb wc wd we wf k → Q (.ref M) { s with heap := h', toks := tk' })) :
    wpAny (model PySem.Challenge.rw_nn0204_01.row.prog w) (ktrTop dp un gd cn cs L ca ccd cl outer) (call (.ref 232) [.ref x0, .ref x1, .ref x2, .ref x3, .ref x4, .ref x5]) Q E s := by
  refine DecAt.op m0 ?_; intro d0 u0 a0 b0 v0 p0 q0
  refine DecAt.op m1 ?_; intro d1 u1 a1 b1 v1 p1 q1
  refine DecAt.op m2 ?_; intro d2 u2 a2 b2 v2 p2 q2
  refine DecAt.op m3 ?_; intro d3 u3 a3 b3 v3 p3 q3
  refine DecAt.op m4 ?_; intro d4 u4 a4 b4 v4 p4 q4
  refine DecAt.op m5 ?_; intro d5 u5 a5 b5 v5 p5 q5
  obtain ⟨B, F, X, N, T, hk, hd⟩ := C
  w_on
  revert X; k_fill; intro X
  k_dflt (refine' call_cls ?k1 ?k2 ?k3 ?k4 ?k5 ?k6 ?_; (case k1 => k_asm); (case k2 => k_asm); (case k3 => k_asm); (case k4 => k_is); (case k5 => k_is); (case k6 => k_is); k_whole; intro x' d' h' F' N' l1 l2; (try k_lt2 l2); (try k_sweep))
  ktr_call [(Str.ofString "self", .ref x'), (Str.ofString "a", .ref x0), (Str.ofString "b", .ref x1), (Str.ofString "c", .ref x2), (Str.ofString "d", .ref x3), (Str.ofString "e", .ref x4), (Str.ofString "f", .ref x5)] 1
  k_steps
  refine hret _ _ _ _ (by assumption) (by assumption) (by intro p hp; repeat (first | exact hp | refine List.mem_cons_of_mem _ ?_)) ?_
  exact ⟨_, _, _, _, _, _, _, _, _, _, _, _, _, .head _, .tail _ (.head _), m0.cons.cons, m1.cons.cons, m2.cons.cons, m3.cons.cons, m4.cons.cons, m5.cons.cons⟩
end
local macro_rules | `(tactic| walk_at "call ref") => `(tactic| (with_reducible refine atC 232 ?_; k_dflt (refine' c_matrix _ _ _ _ _ _ _ _; keq_rows)))
-- P11app
section
variable {w : World} {dp un : Nat} {gd : Option (List Code)} {cn : Str} {cs : Scope} {ca : Addr} {ccd : Value} {cl : List (Str × Addr)} {A₀ : Around} {outer : List Env} {base h₀ : Heap} {L : Addr} {m : Str → Option Value} {s : Shared} {news : Led} {mean : ExcName → Option Value} {mg mb : Str → Option Value} {Q E : Value → Shared → Prop}

theorem app_fin {w : World} {h₀ h : Heap} {L D r dr u du : Addr} {news : Led} {o1 o2 o3 o4 o5 o6 o7 o8 o9 o10 o11 o12 : Addr × Obj} {wr wu : Int} {a b c d e f g i : Tok}
    (N : News h₀ L h ((D, tup [.ref r, .ref u]) :: (u, instObj 143 du) :: (du, decO w wu 4 a b c d) :: o1 :: o2 :: o3 :: o4 :: o5 :: o6 :: (r, instObj 143 dr) :: (dr, decO w wr 4 e f g i) :: o7 :: o8 :: o9 :: o10 :: o11 :: o12 :: news))
    (lD : AllLt D news) (lu : AllLt du news) (lu2 : du < u) (lr : AllLt dr news) (lr2 : dr < r) :
    ∃ nd, News h₀ L h (nd ++ news) ∧ Newer nd news ∧ (D, tup [.ref r, .ref u]) ∈ nd ∧ DecAt w nd r wr 4 ∧ DecAt w nd u wu 4 := by
  refine ⟨[(D, tup [.ref r, .ref u]), (u, instObj 143 du), (du, decO w wu 4 a b c d), (r, instObj 143 dr), (dr, decO w wr 4 e f g i)], cb_drop N ?_, .cons lD (.cons (AllLt.up lu2 lu) (.cons lu (.cons (AllLt.up lr2 lr) (.cons lr .nil)))), .head _,
    ⟨dr, e, f, g, i, .tail _ (.tail _ (.tail _ (.head _))), .tail _ (.tail _ (.tail _ (.tail _ (.head _))))⟩, ⟨du, a, b, c, d, .tail _ (.head _), .tail _ (.tail _ (.head _))⟩⟩
  intro p hp
  simp only [List.cons_append, List.nil_append, List.mem_cons] at hp ⊢
  rcases hp with h | h | h | h | h | h <;> simp only [h, true_or, or_true]
/-- m.applied(x, y) -/
theorem c_applied {M x y : Addr} {wa wb wc wd we wf wx wy : Int} (C : Cx w dp cs outer A₀ base h₀ L m s news mean mg mb 20)
    (mM : MatAt w news M wa wb wc wd we wf 2) (mx : DecAt w news x wx 2) (my : DecAt w news y wy 2)
    (ca1 : Ab 24 wa) (cb : Ab 24 wb) (cc : Ab 24 wc) (cd : Ab 24 wd) (ce : Ab 24 we) (cf : Ab 24 wf) (cx : Ab 24 wx) (cy : Ab 24 wy)
    (hret : Ret (∀ D r u h' tk' nd, Fr h₀ L h' m → News h₀ L h' (nd ++ news) → Newer nd news → (D, tup [.ref r, .ref u]) ∈ nd → DecAt w nd r (wa * wx + wc * wy + we * 100) 4 → DecAt w nd u (wb * wx + wd * wy + wf * 100) 4 → Q (.ref D) { s with heap := h', toks := tk' })) :
    wpAny (model PySem.Challenge.rw_nn0204_01.row.prog w) (ktrTop dp un gd cn cs L ca ccd cl outer) (call (.ref 210) [.ref M, .ref x, .ref y]) Q E s := by
  obtain ⟨dM, x0, x1, x2, x3, x4, x5, t0, t1, t2, t3, t4, t5, hM, hD, m0, m1, m2, m3, m4, m5⟩ := mM
  have m4 := m4.scale 4 (by decide)
  have m5 := m5.scale 4 (by decide)
  have e0 : (10 : Int) ^ (4 - 2) = 100 := by decide
  rw [e0] at m4 m5
  refine DecAt.op m0 ?_; intro D0 u0 a0 B0 v0 p0 q0
  refine DecAt.op m1 ?_; intro D1 u1 a1 B1 v1 p1 q1
  refine DecAt.op m2 ?_; intro D2 u2 a2 B2 v2 p2 q2
  refine DecAt.op m3 ?_; intro D3 u3 a3 B3 v3 p3 q3
  refine DecAt.op m4 ?_; intro D4 u4 a4 B4 v4 p4 q4
  refine DecAt.op m5 ?_; intro D5 u5 a5 B5 v5 p5 q5
  refine DecAt.op mx ?_; intro Dx ux ax Bx vx px qx
  refine DecAt.op my ?_; intro Dy uy ay By vy py qy
  have r1 := ca1.out
  have r2 := cb.out
  have r3 := cc.out
  have r4 := cd.out
  have r5 := ce.out
  have r6 := cf.out
  have g1 := abs_mul_lt ca1 cx
  have g2 := abs_mul_lt cc cy
  have g3 := abs_mul_lt cb cx
  have g4 := abs_mul_lt cd cy
  obtain ⟨B, F, X, N, T, hk, hd⟩ := C
  w_on
  revert X; k_fill; intro X
  refine wpAny_call ?_
  ktr_call [(Str.ofString "self", .ref M), (Str.ofString "x", .ref x), (Str.ofString "y", .ref y)] 1
  k_steps
  rename News h₀ L _ _ => kN
  obtain ⟨nd, n1, n2, n3, n4, n5⟩ := app_fin kN (by tbn_find) (by tbn_find) (by assumption) (by tbn_find) (by assumption)
  exact hret _ _ _ _ _ nd (by assumption) n1 n2 n3 n4 n5
end
local macro_rules | `(tactic| walk_at "call ref") => `(tactic| (with_reducible refine atC 210 ?_; k_dflt (refine' c_applied _ _ _ _ _ _ _ _ _ _ _ _ _; keq_rows)))
-- P11str
theorem st1 {a b c d : Int} (hb : b = 0) (hc : c = 0) : (c == 0) = decide ((b = 0 ∧ c = 0) ∨ (a = 0 ∧ d = 0)) := by simp [hb, hc]
theorem st2 {a b c d : Int} (hc : ¬ c = 0) (ha : a = 0) : (d == 0) = decide ((b = 0 ∧ c = 0) ∨ (a = 0 ∧ d = 0)) := by simp [hc, ha]; rfl
theorem st3 {a b c d : Int} (hc : ¬ c = 0) (ha : ¬ a = 0) : (a == 0) = decide ((b = 0 ∧ c = 0) ∨ (a = 0 ∧ d = 0)) := by simp [hc, ha]
theorem st4 {p : Prop} {b : Int} (hb : ¬ b = 0) (hb' : b = 0) : p := absurd hb' hb
theorem st5 {a b c d : Int} (hb : ¬ b = 0) (ha : a = 0) : (d == 0) = decide ((b = 0 ∧ c = 0) ∨ (a = 0 ∧ d = 0)) := by simp [hb, ha]; rfl
theorem st6 {a b c d : Int} (hb : ¬ b = 0) (ha : ¬ a = 0) : (a == 0) = decide ((b = 0 ∧ c = 0) ∨ (a = 0 ∧ d = 0)) := by simp [hb, ha]
section
variable {w : World} {dp un : Nat} {gd : Option (List Code)} {cn : Str} {cs : Scope} {ca : Addr} {ccd : Value} {cl : List (Str × Addr)} {A₀ : Around} {outer : List Env} {base h₀ : Heap} {L : Addr} {m : Str → Option Value} {s : Shared} {news : Led} {mean : ExcName → Option Value} {mg mb : Str → Option Value} {Q E : Value → Shared → Prop}

/-- is_straight(m) -/
theorem c_straight {M : Addr} {wa wb wc wd we wf : Int} (C : Cx w dp cs outer A₀ base h₀ L m s news mean mg mb 9)
    (mM : MatAt w news M wa wb wc wd we wf 2)
    (hret : Ret (∀ h' tk', Fr h₀ L h' m → News h₀ L h' news → Q (.bool (decide ((wb = 0 ∧ wc = 0) ∨ (wa = 0 ∧ wd = 0)))) { s with heap := h', toks := tk' })) :
    wpAny (model PySem.Challenge.rw_nn0204_01.row.prog w) (ktrTop dp un gd cn cs L ca ccd cl outer) (call (.ref 243) [.ref M]) Q E s := by
  obtain ⟨dM, x0, x1, x2, x3, x4, x5, t0, t1, t2, t3, t4, t5, hM, hD, m0, m1, m2, m3, m4, m5⟩ := mM
  refine DecAt.op m0 ?_; intro d0 u0 a0 b0 v0 p0 q0
  refine DecAt.op m1 ?_; intro d1 u1 a1 b1 v1 p1 q1
  refine DecAt.op m2 ?_; intro d2 u2 a2 b2 v2 p2 q2
  refine DecAt.op m3 ?_; intro d3 u3 a3 b3 v3 p3 q3
  refine DecAt.op m4 ?_; intro d4 u4 a4 b4 v4 p4 q4
  refine DecAt.op m5 ?_; intro d5 u5 a5 b5 v5 p5 q5
  have zz : decide ((wb = 0 ∧ wc = 0) ∨ (wa = 0 ∧ wd = 0)) = decide ((nmT wb 2 = 0 ∧ nmT wc 2 = 0) ∨ (nmT wa 2 = 0 ∧ nmT wd 2 = 0)) := by simp only [nmT_zero]
  obtain ⟨B, F, X, N, T, hk, hd⟩ := C
  w_on
  revert X; k_fill; intro X
  refine wpAny_call ?_
  ktr_call [(Str.ofString "m", .ref M)] 1
  k_steps
  all_goals (refine cb_retB (fun _ => hret) ?_ (by assumption) (by assumption); simp only [beq_iff_eq, decide_eq_true_eq, beq_eq_false_iff_ne, ne_eq, Bool.not_eq_true] at *; rw [show decide ((wb = 0 ∧ wc = 0) ∨ (wa = 0 ∧ wd = 0)) = decide ((nmT wb 2 = 0 ∧ nmT wc 2 = 0) ∨ (nmT wa 2 = 0 ∧ nmT wd 2 = 0)) from zz]; first | exact st1 (by assumption) (by assumption) | exact st2 (by assumption) (by assumption) | exact st3 (by assumption) (by assumption) | exact st5 (by assumption) (by assumption) | exact st6 (by assumption) (by assumption) | exact st4 (b := nmT wb 2) (by assumption) (by assumption))
end
local macro_rules | `(tactic| walk_at "call ref") => `(tactic| (with_reducible refine atC 243 ?_; k_dflt (refine' c_straight _ _ _; keq_rows)))
-- P11com
section
variable {w : World} {dp un : Nat} {gd : Option (List Code)} {cn : Str} {cs : Scope} {ca : Addr} {ccd : Value} {cl : List (Str × Addr)} {A₀ : Around} {outer : List Env} {base h₀ : Heap} {L : Addr} {m : Str → Option Value} {s : Shared} {news : Led} {mean : ExcName → Option Value} {mg mb : Str → Option Value} {Q E : Value → Shared → Prop}

/-- least([x, y]) -/
theorem c_least2 {l x0 x1 : Addr} {n : Nat} {w0 w1 : Int} {k : Nat} (C : Cx w dp cs outer A₀ base h₀ L m s news mean mg mb 13)
    (ml : (l, listOf [.ref x0, .ref x1].toArray n) ∈ news) (hk1 : k ≤ 50) (m0 : DecAt w news x0 w0 k) (m1 : DecAt w news x1 w1 k) (b0 : Ab 62 w0) (b1 : Ab 62 w1)
    (hret : Ret (∀ x d u a b v h' tk', Fr h₀ L h' m → News h₀ L h' news → DecAt w news x (min w0 w1) k → (x, instObj 143 d) ∈ news → (d, decO w (min w0 w1) k u a b v) ∈ news → Q (.ref x) { s with heap := h', toks := tk' })) :
    wpAny (model PySem.Challenge.rw_nn0204_01.row.prog w) (ktrTop dp un gd cn cs L ca ccd cl outer) (call (.ref 175) [.ref l]) Q E s :=
  c_least (its := [(x1, w1)]) C hk1 (fun _ h => h) ml rfl (show 1 < 900 by decide) m0 (fun p hp => by rw [List.mem_singleton.mp hp]; exact m1) b0 (fun p hp => by rw [List.mem_singleton.mp hp]; exact b1) (fun x h' tk' F' N' m' => DecAt.op m' fun d u a b v p q => hret x d u a b v h' tk' F' N' m' p q)
end
local macro_rules | `(tactic| walk_at "call ref") => `(tactic| (with_reducible refine atC 175 ?_; k_dflt (refine' c_least2 _ _ _ _ _ _ _ _; keq_rows)))
section
variable {w : World} {dp un : Nat} {gd : Option (List Code)} {cn : Str} {cs : Scope} {ca : Addr} {ccd : Value} {cl : List (Str × Addr)} {A₀ : Around} {outer : List Env} {base h₀ : Heap} {L : Addr} {m : Str → Option Value} {s : Shared} {news : Led} {mean : ExcName → Option Value} {mg mb : Str → Option Value} {Q E : Value → Shared → Prop}
/-- greatest([x, y]) -/
theorem c_greatest2 {l x0 x1 : Addr} {n : Nat} {w0 w1 : Int} {k : Nat} (C : Cx w dp cs outer A₀ base h₀ L m s news mean mg mb 13)
    (ml : (l, listOf [.ref x0, .ref x1].toArray n) ∈ news) (hk1 : k ≤ 50) (m0 : DecAt w news x0 w0 k) (m1 : DecAt w news x1 w1 k) (b0 : Ab 62 w0) (b1 : Ab 62 w1)
    (hret : Ret (∀ x d u a b v h' tk', Fr h₀ L h' m → News h₀ L h' news → DecAt w news x (max w0 w1) k → (x, instObj 143 d) ∈ news → (d, decO w (max w0 w1) k u a b v) ∈ news → Q (.ref x) { s with heap := h', toks := tk' })) :
    wpAny (model PySem.Challenge.rw_nn0204_01.row.prog w) (ktrTop dp un gd cn cs L ca ccd cl outer) (call (.ref 182) [.ref l]) Q E s :=
  c_greatest (its := [(x1, w1)]) C hk1 (fun _ h => h) ml rfl (show 1 < 900 by decide) m0 (fun p hp => by rw [List.mem_singleton.mp hp]; exact m1) b0 (fun p hp => by rw [List.mem_singleton.mp hp]; exact b1) (fun x h' tk' F' N' m' => DecAt.op m' fun d u a b v p q => hret x d u a b v h' tk' F' N' m' p q)
end
local macro_rules | `(tactic| walk_at "call ref") => `(tactic| (with_reducible refine atC 182 ?_; k_dflt (refine' c_greatest2 _ _ _ _ _ _ _ _; keq_rows)))
section
variable {w : World} {dp un : Nat} {gd : Option (List Code)} {cn : Str} {cs : Scope} {ca : Addr} {ccd : Value} {cl : List (Str × Addr)} {A₀ : Around} {outer : List Env} {base h₀ : Heap} {L : Addr} {m : Str → Option Value} {s : Shared} {news : Led} {mean : ExcName → Option Value} {mg mb : Str → Option Value} {Q E : Value → Shared → Prop}
/-- common_box(one, other) -/
theorem c_common {f g a b c d a2 b2 c2 d2 : Addr} {wa wb wc wd va vb vc vd : Int} {k : Nat} (C : Cx w dp cs outer A₀ base h₀ L m s news mean mg mb 30) (mf : (f, tup [.ref a, .ref b, .ref c, .ref d]) ∈ news) (mg' : (g, tup [.ref a2, .ref b2, .ref c2, .ref d2]) ∈ news)
    (hk1 : k ≤ 50) (ma : DecAt w news a wa k) (mb' : DecAt w news b wb k) (mc : DecAt w news c wc k) (md : DecAt w news d wd k) (na : DecAt w news a2 va k) (nb : DecAt w news b2 vb k) (nc : DecAt w news c2 vc k) (nd : DecAt w news d2 vd k)
    (c0 : Ab 62 wa) (c1 : Ab 62 wb) (c2' : Ab 62 wc) (c3 : Ab 62 wd) (c4 : Ab 62 va) (c5 : Ab 62 vb) (c6 : Ab 62 vc) (c7 : Ab 62 vd)
    (hnone : Ret ((max wa va > min wc vc ∨ max wb vb > min wd vd) → ∀ h' tk', Fr h₀ L h' m → News h₀ L h' news → Q .none { s with heap := h', toks := tk' }))
    (hret : Ret (¬ (max wa va > min wc vc ∨ max wb vb > min wd vd) → ∀ D x y z u h' tk' news', Fr h₀ L h' m → News h₀ L h' news' → Sub news news' → (D, tup [.ref x, .ref y, .ref z, .ref u]) ∈ news' →
      DecAt w news' x (max wa va) k → DecAt w news' y (max wb vb) k → DecAt w news' z (min wc vc) k → DecAt w news' u (min wd vd) k → Q (.ref D) { s with heap := h', toks := tk' })) :
    wpAny (model PySem.Challenge.rw_nn0204_01.row.prog w) (ktrTop dp un gd cn cs L ca ccd cl outer) (call (.ref 288) [.ref f, .ref g]) Q E s := by
  have i1 := c0.max c4
  have i2 := c1.max c5
  have i3 := c2'.min c6
  have i4 := c3.min c7
  have e1 := signOf_pos (max wa va - min wc vc)
  have e2 := signOf_pos (max wb vb - min wd vd)
  obtain ⟨B, F, X, N, T, hk, hd⟩ := C
  w_on
  revert X; k_fill; intro X
  refine wpAny_call ?_
  ktr_call [(Str.ofString "one", .ref f), (Str.ofString "other", .ref g)] 1
  k_steps
  · exact hnone (by omega -splitMinMax) _ _ (by assumption) (cb_drop (by assumption) (by intro p hp; repeat (first | exact hp | refine List.mem_cons_of_mem _ ?_)))
  · exact hnone (by omega -splitMinMax) _ _ (by assumption) (cb_drop (by assumption) (by intro p hp; repeat (first | exact hp | refine List.mem_cons_of_mem _ ?_)))
  · refine hret (by omega -splitMinMax) _ _ _ _ _ _ _ _ (by assumption) (by assumption) (by intro p hp; repeat (first | exact hp | refine List.mem_cons_of_mem _ ?_)) (.head _) ?_ ?_ ?_ ?_ <;> k_mem
end
-- P12tra
local macro_rules | `(tactic| ktr_call $b:term 2) => `(tactic| k_dflt (
  refine' code_defC (binds := $b) ?k1 ?k2 ?k3 ?k4 ?k5 ?kA ?kF ?kK ?k6 ?k7 ?k8 ?k9 ?kB ?kD ?_ ?c2 ?c3 ?c4; (case kA => first | exact rfl | assumption); (case kF => first | exact rfl | assumption); (case kK => first | exact rfl | assumption); (case k1 => k_asm); (case k2 => k_asm); (case k3 => k_asm); (case k4 => k_asm); (case k5 => k_asm); (case k6 => k_is); (case k7 => k_is); (case k8 => ktr_room); (case k9 => exact BindsTo.of_eq rfl); (case kB => exact rfl); (case kD => decide +kernel); (case c2 => exact rfl); (case c3 => exact rfl); (case c4 => exact rfl); k_whole; intro g' L' h' tk' cells' FG' F' N' Y' B' X' T' l1; (try k_lt l1); k_cells Y'; (try simp only [List.cons_append, List.nil_append] at N'); (try dsimp only); (try k_fold)))
theorem abs3 {a x c y e : Int} (h1 : Ab 24 a) (h2 : Ab 24 x) (h3 : Ab 24 c) (h4 : Ab 24 y) (h5 : Ab 24 e) : (a * x + c * y + e * 100).natAbs < 2 ^ 62 := by
  have g1 := abs_mul_lt h1.out h2.out
  have g2 := abs_mul_lt h3.out h4.out
  have g3 := h5.out
  clear h1 h2 h3 h4 h5
  omega
section
variable {w : World} {dp un : Nat} {gd : Option (List Code)} {cn : Str} {cs : Scope} {ca : Addr} {ccd : Value} {cl : List (Str × Addr)} {A₀ : Around} {outer : List Env} {base h₀ : Heap} {L : Addr} {m : Str → Option Value} {s : Shared} {news : Led} {mean : ExcName → Option Value} {mg mb : Str → Option Value} {Q E : Value → Shared → Prop}

/-- transformed_box(frame, m) -/
theorem c_trans {M f a b c d : Addr} {wa wb wc wd we wf va vb vc vd : Int} (C : Cx w dp cs outer A₀ base h₀ L m s news mean mg mb 30)
    (mM : MatAt w news M wa wb wc wd we wf 2) (mf : (f, tup [.ref a, .ref b, .ref c, .ref d]) ∈ news)
    (ma : DecAt w news a va 2) (mb' : DecAt w news b vb 2) (mc : DecAt w news c vc 2) (md : DecAt w news d vd 2)
    (cwa : Ab 24 wa) (cwb : Ab 24 wb) (cwc : Ab 24 wc) (cwd : Ab 24 wd) (cwe : Ab 24 we) (cwf : Ab 24 wf) (ea : Ab 24 va) (eb : Ab 24 vb) (ec : Ab 24 vc) (ed : Ab 24 vd)
    (hret : Ret (∀ D x y z u h' tk' news', Fr h₀ L h' m → News h₀ L h' news' → Sub news news' → (D, tup [.ref x, .ref y, .ref z, .ref u]) ∈ news' →
      DecAt w news' x (lmin (wa * va + wc * vb + we * 100) [wa * vc + wc * vb + we * 100, wa * vc + wc * vd + we * 100, wa * va + wc * vd + we * 100]) 4 →
      DecAt w news' y (lmin (wb * va + wd * vb + wf * 100) [wb * vc + wd * vb + wf * 100, wb * vc + wd * vd + wf * 100, wb * va + wd * vd + wf * 100]) 4 →
      DecAt w news' z (lmax (wa * va + wc * vb + we * 100) [wa * vc + wc * vb + we * 100, wa * vc + wc * vd + we * 100, wa * va + wc * vd + we * 100]) 4 →
      DecAt w news' u (lmax (wb * va + wd * vb + wf * 100) [wb * vc + wd * vb + wf * 100, wb * vc + wd * vd + wf * 100, wb * va + wd * vd + wf * 100]) 4 → Q (.ref D) { s with heap := h', toks := tk' })) :
    wpAny (model PySem.Challenge.rw_nn0204_01.row.prog w) (ktrTop dp un gd cn cs L ca ccd cl outer) (call (.ref 267) [.ref f, .ref M]) Q E s := by
  obtain ⟨dM, x0, x1, x2, x3, x4, x5, t0, t1, t2, t3, t4, t5, hM, hD, n0, n1, n2, n3, n4, n5⟩ := id mM
  clear n0 n1 n2 n3 n4 n5
  obtain ⟨B, F, X, N, T, hk, hd⟩ := C
  w_on
  revert X; k_fill; intro X
  refine wpAny_call ?_
  ktr_call [(Str.ofString "frame", .ref f), (Str.ofString "m", .ref M)] 2
  k_steps
  rename_i cO cE l vs t0' t1' t2' t3' h1 tk1 nw hvs hsz F1 N1 sub1 ml mt3 mt2 mt1 mt0 g1
  have hcell := sub1 _ (.head _)
  have hM1 := sub1 _ (.tail _ hM)
  have hD1 := sub1 _ (.tail _ hD)
  have mM1 := mM.mono (fun p hp => sub1 p (.tail _ hp))
  have ma1 := ma.mono (fun p hp => sub1 p (.tail _ hp))
  have mb1 := mb'.mono (fun p hp => sub1 p (.tail _ hp))
  have mc1 := mc.mono (fun p hp => sub1 p (.tail _ hp))
  have md1 := md.mono (fun p hp => sub1 p (.tail _ hp))
  have hlen : vs.toArray.size = 4 := by rw [hvs]; rfl
  have hit : ∀ (i : Nat) (v : Value), vs.toArray[i]? = some v → ∃ (t x y : Addr) (vx vy : Int), v = .ref t ∧ (t, tup [.ref x, .ref y]) ∈ nw ∧ DecAt w nw x vx 2 ∧ DecAt w nw y vy 2 ∧ [(va, vb), (vc, vb), (vc, vd), (va, vd)][i]? = some (vx, vy) ∧ Ab 24 vx ∧ Ab 24 vy := by
    intro i v h
    rw [hvs, List.getElem?_toArray] at h
    rcases i with _ | _ | _ | _ | i
    · exact ⟨_, _, _, _, _, (Option.some.inj h).symm, mt0, ma1, mb1, rfl, ea, eb⟩
    · exact ⟨_, _, _, _, _, (Option.some.inj h).symm, mt1, mc1, mb1, rfl, ec, eb⟩
    · exact ⟨_, _, _, _, _, (Option.some.inj h).symm, mt2, mc1, md1, rfl, ec, ed⟩
    · exact ⟨_, _, _, _, _, (Option.some.inj h).symm, mt3, ma1, md1, rfl, ea, ed⟩
    · cases h
  refine compRestP_ind (fun i ys nx => Sub nw nx ∧ ∃ ps : List Pt, ys = ps.map (fun p => Value.ref p.1) ∧ (∀ p ∈ ps, PtAt w nx 4 p) ∧ ps.map (fun p => (p.2.1.2, p.2.2.2)) = ([(va, vb), (vc, vb), (vc, vd), (va, vd)].take i).map (fun q => (wa * q.1 + wc * q.2 + we * 100, wb * q.1 + wd * q.2 + wf * 100))) ?_ ?_ _ 0 [] _ (Nat.zero_add _) ⟨fun _ h => h, [], rfl, (fun _ h => nomatch h), rfl⟩
  · rintro i ys nx v hi hP ⟨hs, ps, hys, hps, hval⟩
    obtain ⟨t, x, y, vx, vy, rfl, ht, hx, hy, hc, ax, ay⟩ := hit i v hP
    refine ⟨t, _, .ref x, .ref y, _, rfl, hs _ ht, rfl, rfl, ?_⟩
    intro I oI C oC D m₂ h tk E' hC hmx hmy F2 N2 off ne
    have hcell := hs _ hcell
    have hM1 := hs _ hM1
    have hD1 := hs _ hD1
    have mM1 := mM1.mono hs
    have hx := hx.mono hs
    have hy := hy.mono hs
    k_steps
    rename_i D1 r1 u1 h2 tk2 nd F3 N3 new3 mD mr mu
    refine LCg.CompEnd.intro F3 N3 (nd ++ nx) ?_ (new3.off3 off) (.inr ⟨_, List.mem_append_right _ (hs _ ml), rfl, _, rfl⟩) ⟨fun p hp => List.mem_append_right _ (hs p hp), ps ++ [(D1, (r1, wa * vx + wc * vy + we * 100), (u1, wb * vx + wd * vy + wf * 100))], ?_, ?_, ?_⟩
    · intro p hp
      simp only [List.mem_cons, List.mem_append] at hp ⊢
      rcases hp with h | h | h | h | h <;> simp only [h, true_or, or_true]
    · rw [hys, List.map_append]; rfl
    · intro p hp
      rcases List.mem_append.mp hp with hp | hp
      · exact (hps p hp).mono fun q hq => List.mem_append_right _ hq
      · rw [List.mem_singleton.mp hp]
        exact ⟨List.mem_append_left _ mD, mr.mono fun q hq => List.mem_append_left _ hq, mu.mono fun q hq => List.mem_append_left _ hq⟩
    · rw [List.map_append, hval, List.take_add_one, hc]
      simp
  rintro ys nx ⟨hs, ps, hys, hps, hval⟩
  rw [hlen] at hval
  have hl4 : ps.length = 4 := by have := congrArg List.length hval; simpa using this
  obtain ⟨p0, p1, p2, p3, rfl⟩ : ∃ p0 p1 p2 p3, ps = [p0, p1, p2, p3] := by
    rcases ps with _ | ⟨p0, _ | ⟨p1, _ | ⟨p2, _ | ⟨p3, _ | ⟨p4, ps⟩⟩⟩⟩⟩ <;> first | exact ⟨_, _, _, _, rfl⟩ | (simp at hl4)
  simp only [List.take, List.map_cons, List.map_nil, List.cons.injEq, Prod.mk.injEq, and_true] at hval
  obtain ⟨⟨v1, v2⟩, ⟨v3, v4⟩, ⟨v5, v6⟩, v7, v8⟩ := hval
  k_steps
  rename_i D1 h2 tk2 F3 N3 o3
  k_dflt (refine' c_boxOf (p0 := p0) (ps := [p1, p2, p3]) (k := 4) ?C (by decide) (List.mem_cons_self ..) hys (show 3 < 800 by decide) ?mi ?bi ?_; (case C => kpc_turns); k_whole)
  case mi => exact fun p hp => (hps p hp).mono fun q hq => .tail _ hq
  case bi =>
    intro p hp
    simp only [List.mem_cons, List.not_mem_nil, or_false] at hp
    rcases hp with rfl | rfl | rfl | rfl
    · rw [v1, v2]; exact ⟨abs3 cwa ea cwc eb cwe, abs3 cwb ea cwd eb cwf⟩
    · rw [v3, v4]; exact ⟨abs3 cwa ec cwc eb cwe, abs3 cwb ec cwd eb cwf⟩
    · rw [v5, v6]; exact ⟨abs3 cwa ec cwc ed cwe, abs3 cwb ec cwd ed cwf⟩
    · rw [v7, v8]; exact ⟨abs3 cwa ea cwc ed cwe, abs3 cwb ea cwd ed cwf⟩
  intro D' a' b' c' d' h' tk' F' N' l1 ma' mb2 mc' md'
  simp only [List.map_cons, List.map_nil] at ma' mb2 mc' md'
  rw [v1, v3, v5, v7] at ma' mc'
  rw [v2, v4, v6, v8] at mb2 md'
  k_steps
  exact hret _ _ _ _ _ _ _ _ (by assumption) (by assumption) (fun p hp => .tail _ (.tail _ (hs _ (sub1 _ (.tail _ hp))))) (.head _) ma'.cons mb2.cons mc'.cons md'.cons
end
local macro_rules | `(tactic| walk_at "call ref") => `(tactic| (with_reducible refine atC 267 ?_; k_dflt (refine' c_trans _ _ _ _ _ _ _ _ _ _ _ _ _ _ _ _ _ _; keq_rows)))
-- P13low
theorem DecAt.here {w : World} {news : Led} {x d : Addr} {v : Int} {k : Nat} {u a b t : Tok} : DecAt w ((x, instObj 143 d) :: (d, decO w v k u a b t) :: news) x v k := ⟨d, u, a, b, t, .head _, .tail _ (.head _)⟩
theorem ifmin (a b : Int) : (if b < a then b else a) = min a b := by split <;> omega
theorem ifmax (a b : Int) : (if b > a then b else a) = max a b := by split <;> omega
section
variable {w : World} {dp un : Nat} {gd : Option (List Code)} {cn : Str} {cs : Scope} {ca : Addr} {ccd : Value} {cl : List (Str × Addr)} {A₀ : Around} {outer : List Env} {base h₀ : Heap} {L : Addr} {m : Str → Option Value} {s : Shared} {news : Led} {mean : ExcName → Option Value} {mg mb : Str → Option Value} {Q E : Value → Shared → Prop}

/-- Decimal(top, 2) -/
theorem c_dec2 {top : Int} {tt tp : Tok} (C : Cx w dp cs outer A₀ base h₀ L m s news mean mg mb 3)
    (hret : Ret (∀ x d u a b v h' tk', Fr h₀ L h' m → News h₀ L h' ((x, instObj 143 d) :: (d, decO w top 2 u a b v) :: news) → AllLt d news → @LT.lt Nat _ d x → Q (.ref x) { s with heap := h', toks := tk' })) :
    wpAny (model PySem.Challenge.rw_nn0204_01.row.prog w) (ktrTop dp un gd cn cs L ca ccd cl outer) (call (.ref 143) [.int top tt, .int 2 tp]) Q E s := c_dec C (by decide) hret
end
local macro_rules | `(tactic| kas_types) => `(tactic| (with_reducible exact DecAt.here))
local macro_rules | `(tactic| walk_at "call ref") => `(tactic| ((with_reducible show wpAny _ _ (call (Value.ref 143) [_, Value.int 2 _]) _ _ _); k_dflt (refine' c_dec2 _ _; keq_rows)))
local macro_rules | `(tactic| walk_at "binaryOp Mult int int") => `(tactic| (refine mul_k (by first | exact mulok_l (Ab.le (n := 24) (k := 63) (by assumption)) | exact mulok_r (Ab.le (n := 24) (k := 63) (by assumption)) | exact mulok_l (by decide)) ?_; intro _ _; (try dsimp only)))
-- P13told
section
variable {w : World} {dp un : Nat} {gd : Option (List Code)} {cn : Str} {cs : Scope} {ca : Addr} {ccd : Value} {cl : List (Str × Addr)} {A₀ : Around} {outer : List Env} {base h₀ : Heap} {L : Addr} {m : Str → Option Value} {s : Shared} {news : Led} {mean : ExcName → Option Value} {mg mb : Str → Option Value} {Q E : Value → Shared → Prop}

/-- _law_told(worth, scale) -/
theorem c_ltold {wv p : Int} {t u : Tok} (C : Cx w dp cs outer A₀ base h₀ L m s news mean mg mb 6)
    (hp : 0 ≤ p)
    (hret : Ret (∀ D t1 t2 h' tk', Fr h₀ L h' m → News h₀ L h' ((D, tup [.int (nmT wv p.toNat) t1, .int (nmP wv p.toNat) t2]) :: news) → AllLt D news → Q (.ref D) { s with heap := h', toks := tk' })) :
    wpAny (model PySem.Challenge.rw_nn0204_01.row.prog w) (ktrTop dp un gd cn cs L ca ccd cl outer) (call (.ref 319) [.int wv t, .int p u]) Q E s := by
  obtain ⟨B, F, X, N, T, hk, hd⟩ := C
  w_on
  revert X; k_fill; intro X
  refine wpAny_call ?_
  ktr_call [(Str.ofString "worth", .int wv t), (Str.ofString "scale", .int p u)] 1
  k_steps
  rename_i h2 k t' u' h1 tk2 a4 a3 a2 a1 a0 D h3 F1 N1 l1 kF kN Tc kX
  obtain ⟨e1, e2⟩ := nm_acc hp a4 a3 a2 a1
  dsimp only [vInt] at kN
  rw [e1] at kN
  rw [e2] at kN
  exact hret _ _ _ _ _ kF kN (allLt_of l1)
/-- _law_told(worth, 0) -/
theorem c_ltold0 {wv : Int} {t u : Tok} (C : Cx w dp cs outer A₀ base h₀ L m s news mean mg mb 6)
    (hret : Ret (∀ D t1 t2 h' tk', Fr h₀ L h' m → News h₀ L h' ((D, tup [.int (nmT wv 0) t1, .int (nmP wv 0) t2]) :: news) → AllLt D news → Q (.ref D) { s with heap := h', toks := tk' })) :
    wpAny (model PySem.Challenge.rw_nn0204_01.row.prog w) (ktrTop dp un gd cn cs L ca ccd cl outer) (call (.ref 319) [.int wv t, .int 0 u]) Q E s := c_ltold C (by decide) hret
end
local macro_rules | `(tactic| walk_at "call ref") => `(tactic| ((with_reducible show wpAny _ _ (call (Value.ref 319) [_, Value.int 0 _]) _ _ _); k_dflt (refine' c_ltold0 _ _; keq_rows)))
section
variable {w : World} {dp un : Nat} {gd : Option (List Code)} {cn : Str} {cs : Scope} {ca : Addr} {ccd : Value} {cl : List (Str × Addr)} {A₀ : Around} {outer : List Env} {base h₀ : Heap} {L : Addr} {m : Str → Option Value} {s : Shared} {news : Led} {mean : ExcName → Option Value} {mg mb : Str → Option Value} {Q E : Value → Shared → Prop}

/-- _law_told(worth, 2) -/
theorem c_ltold2 {wv : Int} {t u : Tok} (C : Cx w dp cs outer A₀ base h₀ L m s news mean mg mb 6)
    (hret : Ret (∀ D t1 t2 h' tk', Fr h₀ L h' m → News h₀ L h' ((D, tup [.int (nmT wv 2) t1, .int (nmP wv 2) t2]) :: news) → AllLt D news → Q (.ref D) { s with heap := h', toks := tk' })) :
    wpAny (model PySem.Challenge.rw_nn0204_01.row.prog w) (ktrTop dp un gd cn cs L ca ccd cl outer) (call (.ref 319) [.int wv t, .int 2 u]) Q E s := c_ltold C (by decide) hret
end
local macro_rules | `(tactic| walk_at "call ref") => `(tactic| ((with_reducible show wpAny _ _ (call (Value.ref 319) [_, Value.int 2 _]) _ _ _); k_dflt (refine' c_ltold2 _ _; keq_rows)))
section
variable {w : World} {dp un : Nat} {gd : Option (List Code)} {cn : Str} {cs : Scope} {ca : Addr} {ccd : Value} {cl : List (Str × Addr)} {A₀ : Around} {outer : List Env} {base h₀ : Heap} {L : Addr} {m : Str → Option Value} {s : Shared} {news : Led} {mean : ExcName → Option Value} {mg mb : Str → Option Value} {Q E : Value → Shared → Prop}

/-- _law_told(worth, 4) -/
theorem c_ltold4 {wv : Int} {t u : Tok} (C : Cx w dp cs outer A₀ base h₀ L m s news mean mg mb 6)
    (hret : Ret (∀ D t1 t2 h' tk', Fr h₀ L h' m → News h₀ L h' ((D, tup [.int (nmT wv 4) t1, .int (nmP wv 4) t2]) :: news) → AllLt D news → Q (.ref D) { s with heap := h', toks := tk' })) :
    wpAny (model PySem.Challenge.rw_nn0204_01.row.prog w) (ktrTop dp un gd cn cs L ca ccd cl outer) (call (.ref 319) [.int wv t, .int 4 u]) Q E s := c_ltold C (by decide) hret
end
local macro_rules | `(tactic| walk_at "call ref") => `(tactic| ((with_reducible show wpAny _ _ (call (Value.ref 319) [_, Value.int 4 _]) _ _ _); k_dflt (refine' c_ltold4 _ _; keq_rows)))
-- P13side
section
variable {w : World} {dp un : Nat} {gd : Option (List Code)} {cn : Str} {cs : Scope} {ca : Addr} {ccd : Value} {cl : List (Str × Addr)} {A₀ : Around} {outer : List Env} {base h₀ : Heap} {L : Addr} {m : Str → Option Value} {s : Shared} {news : Led} {mean : ExcName → Option Value} {mg mb : Str → Option Value} {Q E : Value → Shared → Prop}

/-- _law_sides(four) -/
theorem c_sides0 {l : Addr} {a0 a1 a2 a3 : Int} {t0 t1 t2 t3 : Tok} {n : Nat} (C : Cx w dp cs outer A₀ base h₀ L m s news mean mg mb 6)
    (ml : (l, listOf [.int a0 t0, .int a1 t1, .int a2 t2, .int a3 t3].toArray n) ∈ news)
    (hret : ∀ D u0 u1 u2 u3 h' tk', Fr h₀ L h' m → News h₀ L h' ((D, tup [.int (if a2 < a0 then a2 else a0) u0, .int (if a3 < a1 then a3 else a1) u1, .int (if a2 > a0 then a2 else a0) u2, .int (if a3 > a1 then a3 else a1) u3]) :: news) → AllLt D news → Q (.ref D) { s with heap := h', toks := tk' }) :
    wpAny (model PySem.Challenge.rw_nn0204_01.row.prog w) (ktrTop dp un gd cn cs L ca ccd cl outer) (call (.ref 338) [.ref l]) Q E s := by
  obtain ⟨B, F, X, N, T, hk, hd⟩ := C
  w_on
  revert X; k_fill; intro X
  refine wpAny_call ?_
  ktr_call [(Str.ofString "four", .ref l)] 1
  k_steps
  exact hret _ _ _ _ _ _ _ (by assumption) (by assumption) (allLt_of (by assumption))
/-- _law_sides(four), told by min and max -/
theorem c_sides {l : Addr} {a0 a1 a2 a3 : Int} {t0 t1 t2 t3 : Tok} {n : Nat} (C : Cx w dp cs outer A₀ base h₀ L m s news mean mg mb 6) (ml : (l, listOf [.int a0 t0, .int a1 t1, .int a2 t2, .int a3 t3].toArray n) ∈ news)
    (hret : Ret (∀ D u0 u1 u2 u3 h' tk', Fr h₀ L h' m → News h₀ L h' ((D, tup [.int (min a0 a2) u0, .int (min a1 a3) u1, .int (max a0 a2) u2, .int (max a1 a3) u3]) :: news) → AllLt D news → Q (.ref D) { s with heap := h', toks := tk' })) :
    wpAny (model PySem.Challenge.rw_nn0204_01.row.prog w) (ktrTop dp un gd cn cs L ca ccd cl outer) (call (.ref 338) [.ref l]) Q E s :=
  c_sides0 C ml fun D u0 u1 u2 u3 h' tk' F N l => hret D u0 u1 u2 u3 h' tk' F (by rw [ifmin, ifmin, ifmax, ifmax] at N; exact N) l
end
local macro_rules | `(tactic| walk_at "call ref") => `(tactic| (with_reducible refine atC 338 ?_; k_dflt (refine' c_sides _ _ _; keq_rows)))
-- P13goes
section
variable {w : World} {dp un : Nat} {gd : Option (List Code)} {cn : Str} {cs : Scope} {ca : Addr} {ccd : Value} {cl : List (Str × Addr)} {A₀ : Around} {outer : List Env} {base h₀ : Heap} {L : Addr} {m : Str → Option Value} {s : Shared} {news : Led} {mean : ExcName → Option Value} {mg mb : Str → Option Value} {Q E : Value → Shared → Prop}

/-- _law_goes(six, x, y) -/
theorem c_goes {l : Addr} {a0 a1 a2 a3 a4 a5 x y : Int} {t0 t1 t2 t3 t4 t5 tx ty : Tok} {n : Nat} (C : Cx w dp cs outer A₀ base h₀ L m s news mean mg mb 6)
    (ml : (l, listOf [.int a0 t0, .int a1 t1, .int a2 t2, .int a3 t3, .int a4 t4, .int a5 t5].toArray n) ∈ news) (b0 : Ab 24 a0) (b1 : Ab 24 a1) (b2 : Ab 24 a2) (b3 : Ab 24 a3) (b4 : Ab 24 a4) (b5 : Ab 24 a5)
    (hret : Ret (∀ D u0 u1 h' tk', Fr h₀ L h' m → News h₀ L h' ((D, tup [.int (a0 * x + a2 * y + 100 * a4) u0, .int (a1 * x + a3 * y + 100 * a5) u1]) :: news) → AllLt D news → Q (.ref D) { s with heap := h', toks := tk' })) :
    wpAny (model PySem.Challenge.rw_nn0204_01.row.prog w) (ktrTop dp un gd cn cs L ca ccd cl outer) (call (.ref 350) [.ref l, .int x tx, .int y ty]) Q E s := by
  obtain ⟨B, F, X, N, T, hk, hd⟩ := C
  w_on
  revert X; k_fill; intro X
  refine wpAny_call ?_
  ktr_call [(Str.ofString "six", .ref l), (Str.ofString "x", .int x tx), (Str.ofString "y", .int y ty)] 1
  k_steps
  exact hret _ _ _ _ _ (by assumption) (by assumption) (allLt_of (by assumption))
end
local macro_rules | `(tactic| walk_at "call ref") => `(tactic| (with_reducible refine atC 350 ?_; k_dflt (refine' c_goes _ _ _ _ _ _ _ _ _; keq_rows)))
-- P13lmat
section
variable {w : World} {dp un : Nat} {gd : Option (List Code)} {cn : Str} {cs : Scope} {ca : Addr} {ccd : Value} {cl : List (Str × Addr)} {A₀ : Around} {outer : List Env} {base h₀ : Heap} {L : Addr} {m : Str → Option Value} {s : Shared} {news : Led} {mean : ExcName → Option Value} {mg mb : Str → Option Value} {Q E : Value → Shared → Prop}

/-- _law_matrix(six) -/
theorem c_lmat {l : Addr} {a0 a1 a2 a3 a4 a5 : Int} {t0 t1 t2 t3 t4 t5 : Tok} {n : Nat} (C : Cx w dp cs outer A₀ base h₀ L m s news mean mg mb 20)
    (ml : (l, listOf [.int a0 t0, .int a1 t1, .int a2 t2, .int a3 t3, .int a4 t4, .int a5 t5].toArray n) ∈ news)
    (hret : Ret (∀ M h' tk' news', Fr h₀ L h' m → News h₀ L h' news' → Sub news news' → MatAt w news' M a0 a1 a2 a3 a4 a5 2 → Q (.ref M) { s with heap := h', toks := tk' })) :
    wpAny (model PySem.Challenge.rw_nn0204_01.row.prog w) (ktrTop dp un gd cn cs L ca ccd cl outer) (call (.ref 326) [.ref l]) Q E s := by
  obtain ⟨B, F, X, N, T, hk, hd⟩ := C
  w_on
  revert X; k_fill; intro X
  refine wpAny_call ?_
  ktr_call [(Str.ofString "six", .ref l)] 1
  k_steps
  rename Sub _ _ => sb
  rename MatAt _ _ _ _ _ _ _ _ _ _ => mM
  exact hret _ _ _ _ (by assumption) (by assumption) (fun p hp => sb p (by repeat (first | exact hp | refine List.mem_cons_of_mem _ ?_))) mM
end
local macro_rules | `(tactic| walk_at "call ref") => `(tactic| (with_reducible refine atC 326 ?_; k_dflt (refine' c_lmat _ _ _; keq_rows)))
-- P14draw
theorem ints_len {vs : List Value} {ns : List Int} (h : IntsAre vs ns) : vs.length = ns.length := by
  induction h with
  | nil => rfl
  | cons n t _ ih => simp [ih]
theorem ints_at {vs : List Value} {ns : List Int} (h : IntsAre vs ns) : ∀ i, i < vs.length → ∃ c t, vs[i]? = some (.int c t) := by
  induction h with
  | nil => intro i hi; cases hi
  | cons n t _ ih =>
    intro i hi
    cases i with
    | zero => exact ⟨n, t, rfl⟩
    | succ i => exact ih i (Nat.lt_of_succ_lt_succ hi)
theorem ne_nil_led {prog : Program} {w : World} {A : Around} {E : Value → Shared → Prop} {s : Shared} {h₀ : Heap} {L a b : Addr} {vs : List Value} {ns : List Int} {n n' : Nat} {news : Led} {Q : Value → Shared → Prop} (N : News h₀ L s.heap news)
    (m1 : (a, listOf vs.toArray n) ∈ news) (hi : IntsAre vs ns) (m2 : (b, listOf [].toArray n') ∈ news) (hu : A.units + 64 < cLine) (h : Ret (Q (.bool (decide (¬ (vs.length : Int) = 0))) s)) : wpAny (model prog w) A (compareOp .NotEq (.ref a) (.ref b)) Q E s :=
  ne_intsK (led_list N m1) hi (led_list N m2) .nil hu (by
    have e : (!decide (ns = [])) = decide (¬ (vs.length : Int) = 0) := by
      have hl := ints_len hi
      cases ns with
      | nil => simp at hl; simp [hl]
      | cons a r =>
        simp only [List.length_cons] at hl
        have h0 : (vs.length : Int) ≠ 0 := by omega
        rw [decide_eq_true h0]
        simp
    rw [e]; exact h)
theorem pb1 {c spot : Int} (h0 : 0 ≤ spot) (h1 : spot ≤ 100000) : (c.fmod 2147483587 + 50033 * spot + 6007).natAbs < 2 ^ 64 := by
  have a := Int.fmod_lt_of_pos c (show (0 : Int) < 2147483587 by decide)
  have b := Int.fmod_nonneg_of_pos c (show (0 : Int) < 2147483587 by decide)
  omega
theorem pb2 {c spot : Int} (h0 : 0 ≤ spot) (h1 : spot ≤ 100000) : (c.fmod 2147483629 * (2 * spot + 3011) + 701 * spot * spot + 37).natAbs < 2 ^ 64 := by
  have a := Int.fmod_lt_of_pos c (show (0 : Int) < 2147483629 by decide)
  have b := Int.fmod_nonneg_of_pos c (show (0 : Int) < 2147483629 by decide)
  generalize c.fmod 2147483629 = d at a b
  have e1 : d * (2 * spot + 3011) ≤ 2147483629 * (2 * spot + 3011) := Int.mul_le_mul_of_nonneg_right (by omega) (by omega)
  have e2 : 0 ≤ d * (2 * spot + 3011) := Int.mul_nonneg b (by omega)
  have e3 : 701 * spot * spot ≤ 701 * 100000 * 100000 := Int.mul_le_mul (by omega) h1 h0 (by omega)
  have e4 : 0 ≤ 701 * spot * spot := Int.mul_nonneg (by omega) h0
  generalize d * (2 * spot + 3011) = x at e1 e2
  generalize 701 * spot * spot = y at e3 e4
  omega
theorem pow_any {prog : Program} {w : World} {A : Around} {E : Value → Shared → Prop} {s : Shared} {a n : Int} {t u : Tok} {Q : Value → Shared → Prop} (hn : 0 ≤ n) (hn2 : n ≤ 1000000) (ha : a.natAbs < 2 ^ 64) (h : ∀ v t' tk, Q (.int v t') { s with toks := tk }) : wpAny (model prog w) A (binaryOp .Pow (.int a t) (.int n u)) Q E s :=
  pow_int_small hn hn2 ha (h _ _ _)
theorem item_ints {prog : Program} {w : World} {A : Around} {E : Value → Shared → Prop} {s : Shared} {h₀ : Heap} {L l : Addr} {vs : List Value} {ns : List Int} {n : Nat} {i : Int} {news : Led} {value slice : PySem.Expr} {u : Tok} {Q : Value → Shared → Prop} (N : News h₀ L s.heap news) (hl : (l, listOf vs.toArray n) ∈ news)
    (hi : IntsAre vs ns) (h0 : 0 ≤ i) (h1 : i < vs.length) (hz : vs.length < 1000)
    (h : ∀ c t, Q (.int c t) s) (hs : subscripted slice false (.ref l) (.int i u) = operate [.ref l, .int i u] (getItem (.ref l) (.int i u)) := by with_unfolding_all rfl) : wpAny (model prog w) A (subscriptTail value slice (.ref l) (.int i u)) Q E s := by
  obtain ⟨c, t, hc⟩ := ints_at hi i.toNat (by omega)
  exact item_led N hl h0 (by omega) hc (h c t) hs
local macro_rules | `(tactic| k_all) => `(tactic| (with_reducible assumption))
local macro_rules | `(tactic| units_room) => `(tactic| ((try simp only [units_under_make, units_in1, units_deeper, Around.mark_units, units_caller]); (try dsimp only [ktrTop]); omega))
local macro_rules | `(tactic| walk_at "binaryOp Pow int int") => `(tactic| ((with_reducible show wpAny _ _ (binaryOp _ (Value.int (HAdd.hAdd _ _) _) _) _ _ _); refine pow_any (by decide) (by decide) (by first | exact pb1 (by assumption) (by assumption) | exact pb2 (by assumption) (by assumption)) ?_; intro v' t' tk'; (try dsimp only)))
local macro_rules | `(tactic| walk_at "compareOp NotEq ref ref") => `(tactic| (k_dflt (refine' ne_nil_led _ _ _ _ _ _; kp_flats)))
local macro_rules | `(tactic| walk_at "subscriptTail") => `(tactic| (k_here; (with_reducible show wpAny _ _ (subscriptTail _ _ (Value.ref _) (Value.int (Int.fmod _ _) _)) _ _ _); k_dflt (refine' item_ints ?N ?m ?hi ?a ?b ?z ?_; (case N => k_asm); (case m => k_mem); (case hi => assumption); (case a => l_fact); (case b => l_fact); (case z => omega); k_whole); intro c' t'; (try dsimp only)))
/-- a statement's end: one name holds some int, the rest of the frame and the ledger are as they were -/
structure CutInt (h₀ : Heap) (L : Addr) (m : Str → Option Value) (x : Str) (news : Led) (s s' : Shared) : Prop where
  at_ : ∃ (c : Int) (t : Tok) (m' : Str → Option Value) (h : Heap) (tk : Nat), s' = { s with heap := h, toks := tk } ∧ Fr h₀ L h m' ∧ News h₀ L h news ∧ m' x = some (.int c t) ∧ ∀ y, y ≠ x → m' y = m y
/-- a statement's end: frame and ledger are as they were -/
structure CutAt (h₀ : Heap) (L : Addr) (m : Str → Option Value) (news : Led) (s s' : Shared) : Prop where
  at_ : ∃ (h : Heap) (tk : Nat), s' = { s with heap := h, toks := tk } ∧ Fr h₀ L h m ∧ News h₀ L h news
theorem cut_int {M : Model} {A : Around} {E : Value → Shared → Prop} {env : Env} {st : Stmt} {rest : List Stmt} {Q : Flow → Shared → Prop} {s : Shared} {h₀ : Heap} {L : Addr} {m : Str → Option Value} {news : Led} (x : Str)
    (_F : Fr h₀ L s.heap m) (_N : News h₀ L s.heap news)
    (head : wpAny M A (exec st env) (fun f s' => match f with | .next => CutInt h₀ L m x news s s' | f => Q f s') E s)
    (tail : ∀ c t h tk, Fr h₀ L h (fun y => if y = x then some (.int c t) else m y) → News h₀ L h news → wpAny M A (execs rest env) Q E { s with heap := h, toks := tk }) :
    wpAny M A (execs (st :: rest) env) Q E s := by
  refine wpAny_execs_cons (wpAny_mono head (fun f s' h => ?_) fun _ _ e => e)
  cases f with
  | next =>
    obtain ⟨c, t, m', g, tk, rfl, F', N', e1, e2⟩ := CutInt.at_ h
    refine tail c t g tk ?_ N'
    have e : (fun y => if y = x then some (Value.int c t) else m y) = m' := by
      funext y
      by_cases hy : y = x
      · rw [if_pos hy, hy, e1]
      · rw [if_neg hy, e2 y hy]
    rw [e]
    exact F'
  | ret v => exact h
  | brk => exact h
  | cont => exact h
theorem cut_at {M : Model} {A : Around} {E : Value → Shared → Prop} {env : Env} {st : Stmt} {rest : List Stmt} {Q : Flow → Shared → Prop} {s : Shared} {h₀ : Heap} {L : Addr} {m : Str → Option Value} {news : Led}
    (_F : Fr h₀ L s.heap m) (_N : News h₀ L s.heap news)
    (head : wpAny M A (exec st env) (fun f s' => match f with | .next => CutAt h₀ L m news s s' | f => Q f s') E s)
    (tail : ∀ h tk, Fr h₀ L h m → News h₀ L h news → wpAny M A (execs rest env) Q E { s with heap := h, toks := tk }) :
    wpAny M A (execs (st :: rest) env) Q E s := by
  refine wpAny_execs_cons (wpAny_mono head (fun f s' h => ?_) fun _ _ e => e)
  cases f with
  | next =>
    obtain ⟨g, tk, rfl, F', N'⟩ := CutAt.at_ h
    exact tail g tk F' N'
  | ret v => exact h
  | brk => exact h
  | cont => exact h
section
variable {w : World} {dp un : Nat} {gd : Option (List Code)} {cn : Str} {cs : Scope} {ca : Addr} {ccd : Value} {cl : List (Str × Addr)} {A₀ : Around} {outer : List Env} {base h₀ : Heap} {L : Addr} {m : Str → Option Value} {s : Shared} {news : Led} {mean : ExcName → Option Value} {mg mb : Str → Option Value} {Q E : Value → Shared → Prop}

/-- _law_draw(pen, many) -/
theorem c_draw {P cl1 : Addr} {vs : List Value} {ns : List Int} {spot rst many : Int} {ts tr tm : Tok} {n n2 : Nat} {nw : Led} (C : Cx w dp cs outer A₀ base h₀ L m s news mean mg mb 6)
    (hnews : news = (P, listOf [.ref cl1, .int spot ts, .int rst tr].toArray n) :: nw) (mc : (cl1, listOf vs.toArray n2) ∈ nw) (hne : ∀ p ∈ nw, p.1 ≠ P)
    (hun : un + 200 < cLine) (hI : IntsAre vs ns) (hlen : ns.length ≤ 63) (hs0 : 0 ≤ spot) (hs1 : spot ≤ 100000) (hr0 : 0 ≤ rst) (hm0 : 0 < many) (hm1 : many ≤ 1000000)
    (hret : ∀ d spot' rst' td ts' tr' h' tk', 0 ≤ d → d < many → spot ≤ spot' → spot' ≤ spot + 1 → 0 ≤ rst' → Fr h₀ L h' m → News h₀ L h' ((P, listOf [.ref cl1, .int spot' ts', .int rst' tr'].toArray n) :: nw) → Q (.int d td) { s with heap := h', toks := tk' }) :
    wpAny (model PySem.Challenge.rw_nn0204_01.row.prog w) (ktrTop dp un gd cn cs L ca ccd cl outer) (call (.ref 300) [.ref P, .int many tm]) Q E s := by
  subst hnews
  have hvl := ints_len hI
  have hz : vs.length < 1000 := by omega
  obtain ⟨B, F, X, N, T, hk, hd⟩ := C
  w_on
  revert X; k_fill; intro X
  refine wpAny_call ?_
  ktr_call [(Str.ofString "pen", .ref P), (Str.ofString "many", .int many tm)] 1
  repeat' ((fail_if_success (with_reducible show wpAny _ _ (execs (Stmt.If (PySem.Expr.Compare _ [CmpOp.NotEq] _ _) _ _ _ :: _) _) _ _ _)); (first | (k_unfold; (try dsimp only)) | (k_end; wrow_close) | walk1 | (dsimp only; walk1) | (leave1; try dsimp only)))
  rotate_left
  refine cut_int (Str.ofString "cell") (by assumption) (by assumption) ?h1 ?t1
  case h1 =>
    k_steps
    all_goals exact CutInt.mk ⟨_, _, _, _, _, rfl, by assumption, by first | assumption | exact news_d0 (by assumption), rfl, fun y hy => by first | rfl | (simp only [if_neg hy])⟩
  case t1 =>
    intro c' t' h' tk' F' N'
    k_sweep
    refine cut_at F' N' ?h2 ?t2
    case h2 =>
      k_steps
      all_goals first
        | exact CutAt.mk ⟨_, _, rfl, by assumption, by assumption⟩
        | (rename News h₀ L _ _ => kN; first
          | exact hret _ _ _ _ _ _ _ _ (Int.fmod_nonneg_of_pos _ hm0) (Int.fmod_lt_of_pos _ hm0) (by omega) (by omega) (by first | assumption | exact Int.fdiv_nonneg (by first | assumption | exact Int.sub_nonneg_of_le (by assumption)) (by omega)) (by assumption) kN
          | exact hret _ _ _ _ _ _ _ _ (Int.fmod_nonneg_of_pos _ hm0) (Int.fmod_lt_of_pos _ hm0) (by omega) (by omega) (by first | assumption | exact Int.fdiv_nonneg (by first | assumption | exact Int.sub_nonneg_of_le (by assumption)) (by omega)) (by assumption) (news_d0 kN))
    case t2 =>
      intro h' tk' F' N'
      k_sweep
      k_steps
      (rename News h₀ L _ _ => kN; first
        | exact hret _ _ _ _ _ _ _ _ (Int.fmod_nonneg_of_pos _ hm0) (Int.fmod_lt_of_pos _ hm0) (by omega) (by omega) (by first | assumption | exact Int.fdiv_nonneg (by first | assumption | exact Int.sub_nonneg_of_le (by assumption)) (by omega)) (by assumption) kN
        | exact hret _ _ _ _ _ _ _ _ (Int.fmod_nonneg_of_pos _ hm0) (Int.fmod_lt_of_pos _ hm0) (by omega) (by omega) (by first | assumption | exact Int.fdiv_nonneg (by first | assumption | exact Int.sub_nonneg_of_le (by assumption)) (by omega)) (by assumption) (news_d0 kN))
  all_goals (rename News h₀ L _ _ => kN; first
    | exact hret _ _ _ _ _ _ _ _ (Int.fmod_nonneg_of_pos _ hm0) (Int.fmod_lt_of_pos _ hm0) (by omega) (by omega) (by first | assumption | exact Int.fdiv_nonneg (by first | assumption | exact Int.sub_nonneg_of_le (by assumption)) (by omega)) (by assumption) kN
    | exact hret _ _ _ _ _ _ _ _ (Int.fmod_nonneg_of_pos _ hm0) (Int.fmod_lt_of_pos _ hm0) (by omega) (by omega) (by first | assumption | exact Int.fdiv_nonneg (by first | assumption | exact Int.sub_nonneg_of_le (by assumption)) (by omega)) (by assumption) (news_d0 kN))
end
-- P15pen
/-- the pen's object: its cells, its spot (at most b), its rest -/
def PenAt (cl1 : Addr) (n : Nat) (b : Int) (o : Obj) : Prop := ∃ spot rst ts tr, o = listOf [.ref cl1, .int spot ts, .int rst tr].toArray n ∧ 0 ≤ spot ∧ spot ≤ b ∧ 0 ≤ rst
/-- the script's cells -/
def CellsAt (news : Led) (cl1 : Addr) : Prop := ∃ vs ns n2, (cl1, listOf vs.toArray n2) ∈ news ∧ IntsAre vs ns ∧ ns.length ≤ 63
theorem CellsAt.mono {news news' : Led} {a : Addr} (h : CellsAt news a) (hs : Sub news news') : CellsAt news' a := let ⟨vs, ns, n2, h1, h2⟩ := h; ⟨vs, ns, n2, hs _ h1, h2⟩
theorem CellsAt.cons {news : Led} {q : Addr × Obj} {a : Addr} (h : CellsAt news a) : CellsAt (q :: news) a := h.mono fun _ hp => .tail _ hp
theorem PenAt.le {cl1 : Addr} {n : Nat} {b b' : Int} {o : Obj} (h : PenAt cl1 n b o) (hb : b ≤ b') : PenAt cl1 n b' o := let ⟨a, r, ts, tr, e, h1, h2, h3⟩ := h; ⟨a, r, ts, tr, e, h1, Int.le_trans h2 hb, h3⟩
section
variable {w : World} {dp un : Nat} {gd : Option (List Code)} {cn : Str} {cs : Scope} {ca : Addr} {ccd : Value} {cl : List (Str × Addr)} {A₀ : Around} {outer : List Env} {base h₀ : Heap} {L : Addr} {m : Str → Option Value} {s : Shared} {news : Led} {mean : ExcName → Option Value} {mg mb : Str → Option Value} {Q E : Value → Shared → Prop}

/-- _law_draw(pen, many), wherever the pen stands -/
theorem c_drawU {P cl1 : Addr} {many : Int} {tm : Tok} {n : Nat} {b : Int} {o : Obj} {f : Obj → Led} (C : Cx w dp cs outer A₀ base h₀ L m s news mean mg mb 6)
    (U : UpdF P o news f) (hp : PenAt cl1 n b o) (mc : CellsAt news cl1) (hun : un + 200 < cLine) (hb : b ≤ 100000) (hm0 : 0 < many) (hm1 : many ≤ 1000000)
    (hret : Ret (∀ d o' td h' tk', 0 ≤ d → d < many → PenAt cl1 n (b + 1) o' → Fr h₀ L h' m → News h₀ L h' (f o') → Q (.int d td) { s with heap := h', toks := tk' })) :
    wpAny (model PySem.Challenge.rw_nn0204_01.row.prog w) (ktrTop dp un gd cn cs L ca ccd cl outer) (call (.ref 300) [.ref P, .int many tm]) Q E s := by
  obtain ⟨spot, rst, ts, tr, rfl, h1, h2, h3⟩ := hp
  obtain ⟨vs, ns, n2, mc, hI, hlen⟩ := mc
  obtain ⟨pre, post, rfl, hg, ha, hb'⟩ := U.split
  have mc' : (cl1, listOf vs.toArray n2) ∈ pre ++ post := by
    rcases List.mem_append.mp mc with h | h
    · exact List.mem_append_left _ h
    · rcases List.mem_cons.mp h with h | h
      · exfalso
        have e : vs = [.ref cl1, .int spot ts, .int rst tr] := by
          have := congrArg (fun p : Addr × Obj => p.2.data) h
          injection this with e1
          exact congrArg Array.toList e1
        rw [e] at hI
        cases hI
      · exact List.mem_append_right _ h
  have hne : ∀ p ∈ pre ++ post, p.1 ≠ P := fun p hp => (List.mem_append.mp hp).elim (ha p) (hb' p)
  obtain ⟨B, F, X, N, T, hk, hd⟩ := C
  refine c_draw (nw := pre ++ post) (ts := ts) (tr := tr) (n := n) ⟨B, F, X, cb_drop N ?_, T, hk, hd⟩ rfl mc' hne hun hI hlen h1 (by omega) h3 hm0 hm1 ?_
  · intro p hp
    simp only [List.mem_cons, List.mem_append] at hp ⊢
    rcases hp with h | h | h <;> simp only [h, true_or, or_true]
  · intro d spot' rst' td ts' tr' h' tk' l1 l2 l3 l4 l5 F' N'
    refine hret d _ td h' tk' l1 l2 ⟨spot', rst', ts', tr', rfl, by omega, by omega, l5⟩ F' ?_
    rw [hg]
    refine cb_drop N' ?_
    intro p hp
    simp only [List.mem_cons, List.mem_append] at hp ⊢
    rcases hp with h | h | h <;> simp only [h, true_or, or_true]
end
local macro_rules | `(tactic| kpt_turns) => `(tactic| first | ((with_reducible show PenAt _ _ _ _); assumption) | ((with_reducible show CellsAt _ _); k_mem) | ((with_reducible show UpdF _ _ _ _); k_updF))
local macro_rules | `(tactic| kas_types) => `(tactic| (with_reducible apply CellsAt.cons; kas_types))
local macro_rules | `(tactic| kas_types) => `(tactic| (with_reducible assumption))
local macro_rules | `(tactic| walk_at "call ref") => `(tactic| (with_reducible refine atC 300 ?_; k_dflt (refine' c_drawU _ _ _ _ _ _ _ _ _; keq_hits)))
-- P16num
theorem num1 {s d : Int} (s0 : 0 ≤ s) (s1 : s < 2) (d0 : 0 ≤ d) (d1 : d < 4) : Ab 17 ((1 - 2 * s) * 100 * [0, 1, 2, 10].getD d.toNat 0) := by
  have hs : s = 0 ∨ s = 1 := by omega
  have hd : d = 0 ∨ d = 1 ∨ d = 2 ∨ d = 3 := by omega
  unfold Ab
  rcases hs with rfl | rfl <;> rcases hd with rfl | rfl | rfl | rfl <;> decide
theorem num2 {s d : Int} (s0 : 0 ≤ s) (s1 : s < 2) (d0 : 0 ≤ d) (d1 : d < 6) : Ab 17 ((1 - 2 * s) * [50, 25, 4, 5, 300, 1].getD d.toNat 0) := by
  have hs : s = 0 ∨ s = 1 := by omega
  have hd : d = 0 ∨ d = 1 ∨ d = 2 ∨ d = 3 ∨ d = 4 ∨ d = 5 := by omega
  unfold Ab
  rcases hs with rfl | rfl <;> rcases hd with rfl | rfl | rfl | rfl | rfl | rfl <;> decide
theorem num3 {s d : Int} (s0 : 0 ≤ s) (s1 : s < 2) (d0 : 0 ≤ d) (d1 : d < 100000) : Ab 17 ((1 - 2 * s) * d) := by
  have hs : s = 0 ∨ s = 1 := by omega
  unfold Ab
  rcases hs with rfl | rfl <;> omega
theorem updF_parts {P : Addr} {o : Obj} {news : Led} {f : Obj → Led} (U : UpdF P o news f) : ∃ nw, (∀ p ∈ (P, o) :: nw, p ∈ news) ∧ (∀ o', (∀ p ∈ f o', p ∈ (P, o') :: nw) ∧ (∀ p ∈ news, p = (P, o) ∨ p ∈ nw)) ∧ ∀ p ∈ nw, p.1 ≠ P := by
  obtain ⟨pre, post, rfl, hg, ha, hb⟩ := U.split
  refine ⟨pre ++ post, ?_, fun o' => ⟨?_, ?_⟩, fun p hp => (List.mem_append.mp hp).elim (ha p) (hb p)⟩
  · intro p hp
    simp only [List.mem_cons, List.mem_append] at hp ⊢
    rcases hp with h | h | h <;> simp only [h, true_or, or_true]
  · intro p hp
    rw [hg] at hp
    simp only [List.mem_cons, List.mem_append] at hp ⊢
    rcases hp with h | h | h <;> simp only [h, true_or, or_true]
  · intro p hp
    simp only [List.mem_cons, List.mem_append] at hp ⊢
    rcases hp with h | h | h <;> simp only [h, true_or, or_true]
theorem cells_off {P cl1 : Addr} {n : Nat} {b : Int} {o : Obj} {news nw : Led} {f : Obj → Led} (hp : PenAt cl1 n b o) (mc : CellsAt news cl1) (_U : UpdF P o news f) (_h1 : ∀ p ∈ (P, o) :: nw, p ∈ news) (h2 : ∀ o', (∀ p ∈ f o', p ∈ (P, o') :: nw) ∧ (∀ p ∈ news, p = (P, o) ∨ p ∈ nw)) : CellsAt nw cl1 := by
  obtain ⟨vs, ns, n2, mc, hI, hlen⟩ := mc
  obtain ⟨spot, rst, ts, tr, rfl, _, _, _⟩ := hp
  rcases (h2 (listOf #[] 0)).2 _ mc with h | h
  · exfalso
    have e : vs = [.ref cl1, .int spot ts, .int rst tr] := by
      have := congrArg (fun p : Addr × Obj => p.2.data) h
      injection this with e1
      exact congrArg Array.toList e1
    rw [e] at hI
    cases hI
  · exact ⟨vs, ns, n2, h, hI, hlen⟩
section
variable {w : World} {dp un : Nat} {gd : Option (List Code)} {cn : Str} {cs : Scope} {ca : Addr} {ccd : Value} {cl : List (Str × Addr)} {A₀ : Around} {outer : List Env} {base h₀ : Heap} {L : Addr} {m : Str → Option Value} {s : Shared} {news : Led} {mean : ExcName → Option Value} {mg mb : Str → Option Value} {Q E : Value → Shared → Prop}

/-- _law_number(pen) -/
theorem c_num {P cl1 : Addr} {n : Nat} {b : Int} {o : Obj} {nw : Led} (C : Cx w dp cs outer A₀ base h₀ L m s news mean mg mb 12)
    (hnews : news = (P, o) :: nw) (hne : ∀ p ∈ nw, p.1 ≠ P) (hp : PenAt cl1 n b o) (mc : CellsAt nw cl1) (hun : un + 300 < cLine) (hb : b ≤ 90000)
    (hret : ∀ v o' td h' tk', Ab 17 v → PenAt cl1 n (b + 6) o' → Fr h₀ L h' m → News h₀ L h' ((P, o') :: nw) → Q (.int v td) { s with heap := h', toks := tk' }) :
    wpAny (model PySem.Challenge.rw_nn0204_01.row.prog w) (ktrTop dp un gd cn cs L ca ccd cl outer) (call (.ref 307) [.ref P]) Q E s := by
  subst hnews
  obtain ⟨B, F, X, N, T, hk, hd⟩ := C
  w_on
  revert X; k_fill; intro X
  refine wpAny_call ?_
  ktr_call [(Str.ofString "pen", .ref P)] 1
  k_steps
  all_goals (rename News h₀ L _ _ => kN)
  · exact hret _ _ _ _ _ (num1 (by assumption) (by assumption) (by assumption) (by assumption)) (PenAt.le (by assumption) (by omega)) (by assumption) (news_d0 kN)
  · exact hret _ _ _ _ _ (num2 (by assumption) (by assumption) (by assumption) (by assumption)) (PenAt.le (by assumption) (by omega)) (by assumption) (news_d0 kN)
  · exact hret _ _ _ _ _ (num3 (by assumption) (by assumption) (by assumption) (by assumption)) (PenAt.le (by assumption) (by omega)) (by assumption) kN
/-- _law_number(pen), wherever the pen stands -/
theorem c_numU {P cl1 : Addr} {n : Nat} {b : Int} {o : Obj} {f : Obj → Led} (C : Cx w dp cs outer A₀ base h₀ L m s news mean mg mb 12)
    (U : UpdF P o news f) (hp : PenAt cl1 n b o) (mc : CellsAt news cl1) (hun : un + 300 < cLine) (hb : b ≤ 90000)
    (hret : Ret (∀ v o' td h' tk', Ab 17 v → PenAt cl1 n (b + 6) o' → Fr h₀ L h' m → News h₀ L h' (f o') → Q (.int v td) { s with heap := h', toks := tk' })) :
    wpAny (model PySem.Challenge.rw_nn0204_01.row.prog w) (ktrTop dp un gd cn cs L ca ccd cl outer) (call (.ref 307) [.ref P]) Q E s := by
  obtain ⟨nw, hg1, hg2, hne⟩ := updF_parts U
  obtain ⟨B, F, X, N, T, hk, hd⟩ := C
  refine c_num (nw := nw) ⟨B, F, X, cb_drop N hg1, T, hk, hd⟩ rfl hne hp (cells_off hp mc U hg1 hg2) hun hb ?_
  intro v o' td h' tk' a1 a2 F' N'
  exact hret v o' td h' tk' a1 a2 F' (cb_drop N' (hg2 o').1)
end
local macro_rules | `(tactic| walk_at "call ref") => `(tactic| (with_reducible refine atC 307 ?_; k_dflt (refine' c_numU _ _ _ _ _ _ _; keq_hits)))
-- P17pre
theorem off1_all {D : Addr} : ∀ {l : Led}, LCg.Off1 D l → ∀ p ∈ l, p.1 ≠ D
  | [], _, _, h => nomatch h
  | _ :: _, o, p, h => by
    rcases List.mem_cons.mp h with rfl | h
    · exact o.1
    · exact off1_all o.2 p h
theorem news_mid {h₀ h : Heap} {L : Addr} {a b : Addr × Obj} {l : Led} (N : News h₀ L h (a :: b :: l)) : News h₀ L h (a :: l) := fun p hp => by
  rcases List.mem_cons.mp hp with rfl | hp
  · exact N _ (.head _)
  · exact N _ (.tail _ (.tail _ hp))
theorem ab_zero {n : Nat} : Ab n 0 := Nat.pow_pos (by decide)
theorem ab_two {v : Int} (h : Ab 17 v) : Ab 20 (2 * v) := by
  have h := h.out
  unfold Ab
  omega
theorem ab_fr {d : Int} (h0 : 0 ≤ d) (h1 : d < 2000) : Ab 10 (d - 1000) := by unfold Ab; omega
theorem pop_int {ys : List Value} {n : Nat} {R : Int → Prop} (hl : ys.length = n + 1) (hy : ∀ v ∈ ys, ∃ (a : Int) (t : Tok), v = .int a t ∧ R a) :
    ∃ a t r, ys = .int a t :: r ∧ R a ∧ r.length = n ∧ ∀ v ∈ r, ∃ (a : Int) (t : Tok), v = .int a t ∧ R a := by
  cases ys with
  | nil => cases hl
  | cons v r =>
    obtain ⟨a, t, rfl, h⟩ := hy v (.head _)
    exact ⟨a, t, r, rfl, h, Nat.succ.inj hl, fun v hv => hy v (.tail _ hv)⟩
/-- a comprehension whose turns change the pen alone -/
theorem compRest_pen {prog : Program} {w : World} {A : Around} {s : Shared} {h₀ : Heap} {L : Addr} {m : Str → Option Value} {env : Env} {elt : PySem.Expr} {x : Str} {scope : Scope} {cl : List (Str × Addr)} {S : Led → Prop} {Pv : Nat → Value → Prop} {Fin : List Value → Led → Prop} {n : Nat} {c : Addr × Obj} {P : Addr} {o : Obj} {nw : Led}
    (Inv : Nat → List Value → Obj → Prop) (init : Inv 0 [] o)
    (step : ∀ i ys o' v I oI C oC D m₂ h tk (E' : Value → Shared → Prop), i < n → Pv i v → Inv i ys o' → LCg.NsObj oC m₂ → m₂ x = some v → Fr h₀ L h m → News h₀ L h ((I, oI) :: (C, oC) :: (D, LCg.lst ys) :: c :: (P, o') :: nw) → LCg.Off3 I C D (c :: (P, o') :: nw) → ((@Ne Nat I C) ∧ (@Ne Nat I D) ∧ (@Ne Nat C D)) →
      wpAny (model prog w) A (eval elt (compEnvC scope cl C env)) (LCg.CompEnd h₀ L m { s with heap := h, toks := tk } I oI C oC D (LCg.lst ys) S (fun y news' => ∃ o'', news' = c :: (P, o'') :: nw ∧ Inv (i + 1) (ys ++ [y]) o'')) E' { s with heap := h, toks := tk })
    (fin : ∀ ys o', Inv n ys o' → Fin ys (c :: (P, o') :: nw)) : LCg.CompRest prog w A h₀ L m env elt x scope cl s S Pv Fin n 0 [] (c :: (P, o) :: nw) := by
  refine compRest_ind (fun i ys nx => ∃ o', nx = c :: (P, o') :: nw ∧ Inv i ys o') ?_ ?_ _ 0 [] _ (Nat.zero_add _) ⟨o, rfl, init⟩
  · rintro i ys nx v I oI C oC D m₂ h tk E' hi hP ⟨o', rfl, hI⟩ hC hx F N off ne
    exact step i ys o' v I oI C oC D m₂ h tk E' hi hP hI hC hx F N off ne
  · rintro ys nx ⟨o', rfl, hI⟩
    exact fin ys o' hI
local macro_rules | `(tactic| walk_at "CompSrc") => `(tactic| (k_here; k_dflt (refine LCg.CompSrc.range (by rfl) (by k_asm) (by k_asm) (by assumption) (by decide) (by rfl) (by exact Nat.le_of_ble_eq_true rfl) ?_; intro g'; lcg_lit)))
local macro_rules | `(tactic| walk_at "CompEnd") => `(tactic| (k_here; k_dflt (refine LCg.CompEnd.intro (by assumption) (by assumption) _ (fun _ hp => hp) (by assumption) (by trivial) ?_)))
local macro_rules | `(tactic| k_all) => `(tactic| ((with_reducible rename _ ∧ _ ∧ LCg.Off1 _ _ => o1'); exact off1_all o1'.2.2))
-- P17six
/-- what holds after i turns of the row of numbers -/
inductive SixInv (cl1 : Addr) (n : Nat) (b : Int) (i : Nat) (ys : List Value) (o : Obj) : Prop
  | mk (hp : PenAt cl1 n (b + 1 + 6 * (i : Int)) o) (hl : ys.length = i) (hy : ∀ v ∈ ys, ∃ (a : Int) (t : Tok), v = .int a t ∧ Ab 17 a)
/-- six ints -/
inductive SixOf (ys : List Value) : Prop
  | mk (a0 a1 a2 a3 a4 a5 : Int) (t0 t1 t2 t3 t4 t5 : Tok) (e : ys = [.int a0 t0, .int a1 t1, .int a2 t2, .int a3 t3, .int a4 t4, .int a5 t5]) (h0 : Ab 17 a0) (h1 : Ab 17 a1) (h2 : Ab 17 a2) (h3 : Ab 17 a3) (h4 : Ab 17 a4) (h5 : Ab 17 a5)
theorem six_of {ys : List Value} (hl : ys.length = 6) (hy : ∀ v ∈ ys, ∃ (a : Int) (t : Tok), v = .int a t ∧ Ab 17 a) : SixOf ys := by
  obtain ⟨a0, t0, r0, rfl, h0, l0, y0⟩ := pop_int hl hy
  obtain ⟨a1, t1, r1, rfl, h1, l1, y1⟩ := pop_int l0 y0
  obtain ⟨a2, t2, r2, rfl, h2, l2, y2⟩ := pop_int l1 y1
  obtain ⟨a3, t3, r3, rfl, h3, l3, y3⟩ := pop_int l2 y2
  obtain ⟨a4, t4, r4, rfl, h4, l4, y4⟩ := pop_int l3 y3
  obtain ⟨a5, t5, r5, rfl, h5, l5, _⟩ := pop_int l4 y4
  rw [List.eq_nil_of_length_eq_zero l5]
  exact ⟨a0, a1, a2, a3, a4, a5, t0, t1, t2, t3, t4, t5, rfl, h0, h1, h2, h3, h4, h5⟩
/-- a statement's end: the list l holds six ints, all else is as it was -/
inductive CutSix (h₀ : Heap) (L : Addr) (m : Str → Option Value) (l : Addr) (n : Nat) (rest : Led) (s s' : Shared) : Prop
  | mk (a0 a1 a2 a3 a4 a5 : Int) (t0 t1 t2 t3 t4 t5 : Tok) (h : Heap) (tk : Nat) (e : s' = { s with heap := h, toks := tk }) (F : Fr h₀ L h m) (N : News h₀ L h ((l, listOf [.int a0 t0, .int a1 t1, .int a2 t2, .int a3 t3, .int a4 t4, .int a5 t5].toArray n) :: rest)) (h0 : Ab 17 a0) (h1 : Ab 17 a1) (h2 : Ab 17 a2) (h3 : Ab 17 a3) (h4 : Ab 17 a4) (h5 : Ab 17 a5)
theorem cut_six {M : Model} {A : Around} {E : Value → Shared → Prop} {env : Env} {st : Stmt} {sts : List Stmt} {Q : Flow → Shared → Prop} {s : Shared} {h₀ : Heap} {L l : Addr} {m : Str → Option Value} {n : Nat} {rest : Led} {b0 b1 b2 b3 b4 b5 : Int} {u0 u1 u2 u3 u4 u5 : Tok}
    (_F : Fr h₀ L s.heap m) (_N : News h₀ L s.heap ((l, listOf [.int b0 u0, .int b1 u1, .int b2 u2, .int b3 u3, .int b4 u4, .int b5 u5].toArray n) :: rest))
    (head : wpAny M A (exec st env) (fun f s' => match f with | .next => CutSix h₀ L m l n rest s s' | f => Q f s') E s)
    (tail : ∀ a0 a1 a2 a3 a4 a5 t0 t1 t2 t3 t4 t5 h tk, Ab 17 a0 → Ab 17 a1 → Ab 17 a2 → Ab 17 a3 → Ab 17 a4 → Ab 17 a5 → Fr h₀ L h m → News h₀ L h ((l, listOf [.int a0 t0, .int a1 t1, .int a2 t2, .int a3 t3, .int a4 t4, .int a5 t5].toArray n) :: rest) → wpAny M A (execs sts env) Q E { s with heap := h, toks := tk }) :
    wpAny M A (execs (st :: sts) env) Q E s := by
  refine wpAny_execs_cons (wpAny_mono head (fun f s' h => ?_) fun _ _ e => e)
  cases f with
  | next =>
    have h : CutSix h₀ L m l n rest s s' := h
    cases h with
    | mk a0 a1 a2 a3 a4 a5 t0 t1 t2 t3 t4 t5 g tk e F' N' h0 h1 h2 h3 h4 h5 => subst e; exact tail _ _ _ _ _ _ _ _ _ _ _ _ g tk h0 h1 h2 h3 h4 h5 F' N'
  | ret v => exact h
  | brk => exact h
  | cont => exact h
section
variable {w : World} {dp un : Nat} {gd : Option (List Code)} {cn : Str} {cs : Scope} {ca : Addr} {ccd : Value} {cl : List (Str × Addr)} {A₀ : Around} {outer : List Env} {base h₀ : Heap} {L : Addr} {m : Str → Option Value} {s : Shared} {news : Led} {mean : ExcName → Option Value} {mg mb : Str → Option Value} {Q E : Value → Shared → Prop}

/-- _law_six(pen) -/
theorem c_six {P cl1 : Addr} {n : Nat} {b : Int} {o : Obj} {nw : Led} (C : Cx w dp cs outer A₀ base h₀ L m s news mean mg mb 20)
    (hnews : news = (P, o) :: nw) (hne : ∀ p ∈ nw, p.1 ≠ P) (hp : PenAt cl1 n b o) (mc : CellsAt nw cl1) (hun : un + 400 < cLine) (hb : b ≤ 80000)
    (hret : ∀ l n' a0 a1 a2 a3 a4 a5 t0 t1 t2 t3 t4 t5 o' h' tk', Ab 20 a0 → Ab 20 a1 → Ab 20 a2 → Ab 20 a3 → Ab 20 a4 → Ab 20 a5 → PenAt cl1 n (b + 60) o' → Fr h₀ L h' m → News h₀ L h' ((l, listOf [.int a0 t0, .int a1 t1, .int a2 t2, .int a3 t3, .int a4 t4, .int a5 t5].toArray n') :: (P, o') :: nw) → P ≠ l → (∀ p ∈ nw, p.1 ≠ l) → Q (.ref l) { s with heap := h', toks := tk' }) :
    wpAny (model PySem.Challenge.rw_nn0204_01.row.prog w) (ktrTop dp un gd cn cs L ca ccd cl outer) (call (.ref 312) [.ref P]) Q E s := by
  subst hnews
  obtain ⟨B, F, X, N, T, hk, hd⟩ := C
  w_on
  revert X; k_fill; intro X
  refine wpAny_call ?_
  ktr_call [(Str.ofString "pen", .ref P)] 2
  repeat' ((fail_if_success (with_reducible show LCg.CompSrc _ _ _ _ _ _ _ _ _ _ _ _ _ _)); (first | (k_unfold; (try dsimp only)) | (k_end; wrow_close) | walk1 | (dsimp only; walk1) | (leave1; try dsimp only)))
  refine LCg.CompSrc.range (n := 6) (by rfl) (by k_asm) (by k_asm) (by assumption) (by decide) (by rfl) (by exact Nat.le_of_ble_eq_true rfl) ?_
  intro g'
  refine compRest_pen (SixInv cl1 n b) ⟨PenAt.le (by assumption) (by omega), rfl, fun _ h => nomatch h⟩ ?step ?fin
  case step =>
    rintro i ys o' v I oI C oC D m₂ h tk E' hi hP ⟨hp', hl, hy⟩ hC hx F1 N1 off ne
    obtain ⟨t9, rfl⟩ := hP
    have off' := off
    simp only [LCg.Off3] at off'
    k_steps
    refine ⟨PenAt.le (by assumption) (by omega), by rw [List.length_append, hl]; rfl, fun v hv => ?_⟩
    rcases List.mem_append.mp hv with h | h
    · exact hy v h
    · rw [List.mem_singleton.mp h]; exact ⟨_, _, rfl, by assumption⟩
  case fin =>
    rintro ys o' ⟨hp', hl, hy⟩
    cases six_of hl hy with
    | mk a0 a1 a2 a3 a4 a5 t0 t1 t2 t3 t4 t5 e h0 h1 h2 h3 h4 h5 =>
    subst e
    clear hy hl
    repeat' ((fail_if_success (with_reducible show wpAny _ _ (execs (Stmt.If _ _ _ _ :: _) _) _ _ _)); (first | (k_unfold; (try dsimp only)) | (k_end; wrow_close) | walk1 | (dsimp only; walk1) | (leave1; try dsimp only)))
    refine cut_six (by assumption) (by assumption) ?c1 ?t1
    case c1 =>
      k_steps
      all_goals exact CutSix.mk _ _ _ _ _ _ _ _ _ _ _ _ _ _ rfl (by assumption) (by assumption) (by first | assumption | exact ab_zero) (by first | assumption | exact ab_zero) (by first | assumption | exact ab_zero) (by first | assumption | exact ab_zero) (by first | assumption | exact ab_zero) (by first | assumption | exact ab_zero)
    case t1 =>
    clear h0 h1 h2 h3 h4 h5
    intro a0 a1 a2 a3 a4 a5 t0 t1 t2 t3 t4 t5 h' tk' h0 h1 h2 h3 h4 h5 F' N'
    k_sweep
    refine cut_six F' N' ?c2 ?t2
    case c2 =>
      k_steps
      all_goals exact CutSix.mk _ _ _ _ _ _ _ _ _ _ _ _ _ _ rfl (by assumption) (by assumption) (by first | assumption | exact ab_zero) (by first | assumption | exact ab_zero) (by first | assumption | exact ab_zero) (by first | assumption | exact ab_zero) (by first | assumption | exact ab_zero) (by first | assumption | exact ab_zero)
    case t2 =>
    clear h0 h1 h2 h3 h4 h5
    intro a0 a1 a2 a3 a4 a5 t0 t1 t2 t3 t4 t5 h' tk' h0 h1 h2 h3 h4 h5 F' N'
    k_sweep
    k_steps
    all_goals (rename News h₀ L _ _ => kN; rename _ ∧ _ ∧ LCg.Off1 _ _ => o1)
    all_goals (exact hret _ _ _ _ _ _ _ _ _ _ _ _ _ _ _ _ _ (by first | exact Ab.le (n := 17) (by assumption) | exact ab_zero | exact ab_two (by assumption)) (by first | exact Ab.le (n := 17) (by assumption) | exact ab_zero | exact ab_two (by assumption)) (by first | exact Ab.le (n := 17) (by assumption) | exact ab_zero | exact ab_two (by assumption)) (by first | exact Ab.le (n := 17) (by assumption) | exact ab_zero | exact ab_two (by assumption)) (by first | exact Ab.le (n := 17) (by assumption) | exact ab_zero | exact ab_two (by assumption)) (by first | exact Ab.le (n := 17) (by assumption) | exact ab_zero | exact ab_two (by assumption)) (PenAt.le (by assumption) (by omega)) (by assumption) (news_mid kN) o1.2.1 (off1_all o1.2.2))
end
-- P17frm
/-- what holds after i turns of the row of draws -/
inductive FourInv (cl1 : Addr) (n : Nat) (b : Int) (i : Nat) (ys : List Value) (o : Obj) : Prop
  | mk (hp : PenAt cl1 n (b + (i : Int)) o) (hl : ys.length = i) (hy : ∀ v ∈ ys, ∃ (a : Int) (t : Tok), v = .int a t ∧ Ab 10 a)
section
variable {w : World} {dp un : Nat} {gd : Option (List Code)} {cn : Str} {cs : Scope} {ca : Addr} {ccd : Value} {cl : List (Str × Addr)} {A₀ : Around} {outer : List Env} {base h₀ : Heap} {L : Addr} {m : Str → Option Value} {s : Shared} {news : Led} {mean : ExcName → Option Value} {mg mb : Str → Option Value} {Q E : Value → Shared → Prop}

/-- _law_frame(pen) -/
theorem c_frame {P cl1 : Addr} {n : Nat} {b : Int} {o : Obj} {nw : Led} (C : Cx w dp cs outer A₀ base h₀ L m s news mean mg mb 20)
    (hnews : news = (P, o) :: nw) (hne : ∀ p ∈ nw, p.1 ≠ P) (hp : PenAt cl1 n b o) (mc : CellsAt nw cl1) (hun : un + 400 < cLine) (hb : b ≤ 80000)
    (hret : ∀ l n' a0 a1 a2 a3 t0 t1 t2 t3 o' h' tk', Ab 10 a0 → Ab 10 a1 → Ab 10 a2 → Ab 10 a3 → PenAt cl1 n (b + 10) o' → Fr h₀ L h' m → News h₀ L h' ((l, listOf [.int a0 t0, .int a1 t1, .int a2 t2, .int a3 t3].toArray n') :: (P, o') :: nw) → P ≠ l → (∀ p ∈ nw, p.1 ≠ l) → Q (.ref l) { s with heap := h', toks := tk' }) :
    wpAny (model PySem.Challenge.rw_nn0204_01.row.prog w) (ktrTop dp un gd cn cs L ca ccd cl outer) (call (.ref 331) [.ref P]) Q E s := by
  subst hnews
  obtain ⟨B, F, X, N, T, hk, hd⟩ := C
  w_on
  revert X; k_fill; intro X
  refine wpAny_call ?_
  ktr_call [(Str.ofString "pen", .ref P)] 2
  repeat' ((fail_if_success (with_reducible show LCg.CompSrc _ _ _ _ _ _ _ _ _ _ _ _ _ _)); (first | (k_unfold; (try dsimp only)) | (k_end; wrow_close) | walk1 | (dsimp only; walk1) | (leave1; try dsimp only)))
  refine LCg.CompSrc.range (n := 4) (by rfl) (by k_asm) (by k_asm) (by assumption) (by decide) (by rfl) (by exact Nat.le_of_ble_eq_true rfl) ?_
  intro g'
  refine compRest_pen (FourInv cl1 n b) ⟨PenAt.le hp (by omega), rfl, fun _ h => nomatch h⟩ ?step ?fin
  case step =>
    rintro i ys o' v I oI C oC D m₂ h tk E' hi hP ⟨hp', hl, hy⟩ hC hx F1 N1 off ne
    obtain ⟨t9, rfl⟩ := hP
    have off' := off
    simp only [LCg.Off3] at off'
    k_steps
    refine ⟨PenAt.le (by assumption) (by omega), by rw [List.length_append, hl]; rfl, fun v hv => ?_⟩
    rcases List.mem_append.mp hv with h | h
    · exact hy v h
    · rw [List.mem_singleton.mp h]; exact ⟨_, _, rfl, ab_fr (by assumption) (by assumption)⟩
  case fin =>
    rintro ys o' ⟨hp', hl, hy⟩
    obtain ⟨a0, t0, r0, rfl, h0, l0, y0⟩ := pop_int hl hy
    obtain ⟨a1, t1, r1, rfl, h1, l1, y1⟩ := pop_int l0 y0
    obtain ⟨a2, t2, r2, rfl, h2, l2, y2⟩ := pop_int l1 y1
    obtain ⟨a3, t3, r3, rfl, h3, l3, _⟩ := pop_int l2 y2
    cases List.eq_nil_of_length_eq_zero l3
    clear hy hl l0 y0 l1 y1 l2 y2 l3
    k_steps
    all_goals (rename News h₀ L _ _ => kN; rename _ ∧ _ ∧ LCg.Off1 _ _ => o1)
    all_goals (exact hret _ _ _ _ _ _ _ _ _ _ _ _ _ (by assumption) (by assumption) (by assumption) (by assumption) (PenAt.le (by assumption) (by omega)) (by assumption) (news_mid kN) o1.2.1 (off1_all o1.2.2))
end
-- P18pen
theorem ints_snoc {vs : List Value} {ns : List Int} (h : IntsAre vs ns) (c : Int) (t : Tok) : IntsAre (vs ++ [.int c t]) (ns ++ [c]) := by
  induction h with
  | nil => exact .cons c t .nil
  | cons n u _ ih => exact .cons n u ih
local macro_rules | `(tactic| ktr_call $b:term 3) => `(tactic| k_dflt (
  refine' code_def (binds := $b) ?k1 ?k2 ?k3 ?k4 ?k5 ?kA ?kF ?kK ?k6 ?k7 ?k8 ?k9 ?kB ?_ ?c2 ?c3 ?c4 ?c5; (case kA => first | exact rfl | assumption); (case kF => first | exact rfl | assumption); (case kK => first | exact rfl | assumption); (case k1 => k_asm); (case k2 => k_asm); (case k3 => k_asm); (case k4 => k_asm); (case k5 => k_asm); (case k6 => k_is); (case k7 => k_is); (case k8 => ktr_room); (case k9 => exact BindsTo.of_eq rfl); (case c5 => decide); (case kB => exact locs rfl); (case c2 => exact rfl); (case c3 => exact rfl); (case c4 => exact rfl); k_whole; intro g' L' h' FG' F' N' B' X' T'; (try dsimp only); (try k_lift B'); (try k_fold)))
-- P19pre
section
variable {h₀ h' : Heap} {L I C D a a2 : Addr} {m : Str → Option Value} {s₁ : Shared} {oI oC oD o o2 : Obj} {S : Led → Prop} {R : Value → Led → Prop} {y : Value} {tk : Nat} {rest : Led}
theorem comp_end0 (F : Fr h₀ L h' m) (N : News h₀ L h' ((I, oI) :: (C, oC) :: (D, oD) :: rest)) (off : LCg.Off3 I C D rest) (hS : S rest) (r : R y rest) :
    LCg.CompEnd h₀ L m s₁ I oI C oC D oD S R y { s₁ with heap := h', toks := tk } := LCg.CompEnd.intro F N rest (fun _ h => h) off hS r
theorem comp_end1 (F : Fr h₀ L h' m) (N : News h₀ L h' ((a, o) :: (I, oI) :: (C, oC) :: (D, oD) :: rest)) (off : LCg.Off3 I C D rest) (n1 : @LT.lt Nat _ I a) (n2 : @LT.lt Nat _ C a) (n3 : @LT.lt Nat _ D a) (hS : S ((a, o) :: rest)) (r : R y ((a, o) :: rest)) :
    LCg.CompEnd h₀ L m s₁ I oI C oC D oD S R y { s₁ with heap := h', toks := tk } := LCg.CompEnd.intro F N ((a, o) :: rest) (by
      intro p hp
      simp only [List.mem_cons] at hp ⊢
      rcases hp with h | h | h | h | h <;> simp only [h, true_or, or_true]) ⟨⟨Nat.ne_of_gt n1, Nat.ne_of_gt n2, Nat.ne_of_gt n3⟩, off⟩ hS r
theorem comp_end2 (F : Fr h₀ L h' m) (N : News h₀ L h' ((a, o) :: (a2, o2) :: (I, oI) :: (C, oC) :: (D, oD) :: rest)) (off : LCg.Off3 I C D rest) (n1 : @LT.lt Nat _ I a2) (n2 : @LT.lt Nat _ C a2) (n3 : @LT.lt Nat _ D a2) (n4 : @LT.lt Nat _ a2 a) (hS : S ((a, o) :: (a2, o2) :: rest)) (r : R y ((a, o) :: (a2, o2) :: rest)) :
    LCg.CompEnd h₀ L m s₁ I oI C oC D oD S R y { s₁ with heap := h', toks := tk } := LCg.CompEnd.intro F N ((a, o) :: (a2, o2) :: rest) (by
      intro p hp
      simp only [List.mem_cons] at hp ⊢
      rcases hp with h | h | h | h | h | h <;> simp only [h, true_or, or_true]) ⟨⟨Nat.ne_of_gt (Nat.lt_trans n1 n4), Nat.ne_of_gt (Nat.lt_trans n2 n4), Nat.ne_of_gt (Nat.lt_trans n3 n4)⟩, ⟨Nat.ne_of_gt n1, Nat.ne_of_gt n2, Nat.ne_of_gt n3⟩, off⟩ hS r
end
/-- a comprehension over a tuple of the ledger -/
def TupAt (ax : Addr) (its : Array Value) (news : Led) : Prop := ∃ n, (ax, ({ cls := .type "tuple", data := .seq its n } : Obj)) ∈ news
theorem TupAt.isTuple {h₀ h : Heap} {L ax : Addr} {its : Array Value} {news : Led} (x : TupAt ax its news) (N : News h₀ L h news) : h.IsTuple ax its := let ⟨n, hm⟩ := x; ⟨_, (N _ hm).1, rfl, n, rfl⟩
def SrcT (prog : Program) (w : World) (A : Around) (h₀ : Heap) (L : Addr) (m : Str → Option Value) (env : Env) (elt : PySem.Expr) (x : Str) (scope : Scope) (cl : List (Str × Addr)) (Fin : Shared → List Value → Led → Prop) (xv : Value) (s₁ : Shared) : Prop :=
  ∃ ax its news, xv = .ref ax ∧ A.handled = none ∧ Fr h₀ L s₁.heap m ∧ News h₀ L s₁.heap news ∧ TupAt ax its news ∧ its.size ≤ sizeLine ∧
    ∀ s₂ : Shared, (∃ h, s₂ = { s₁ with heap := h }) → LCg.CompRest prog w A h₀ L m env elt x scope cl s₂ (TupAt ax its) (fun i v => its[i]? = some v) (Fin s₂) its.size 0 [] news
theorem SrcT.led {prog : Program} {w : World} {A : Around} {h₀ : Heap} {L : Addr} {m : Str → Option Value} {env : Env} {elt : PySem.Expr} {x : Str} {scope : Scope} {cl : List (Str × Addr)} {Fin : Shared → List Value → Led → Prop} {ax : Addr} {its : Array Value} {k : Nat} {news : Led} {s₁ : Shared}
    (hh : A.handled = none) (F : Fr h₀ L s₁.heap m) (N : News h₀ L s₁.heap news) (hm : (ax, ({ cls := .type "tuple", data := .seq its k } : Obj)) ∈ news) (hsz : its.size ≤ sizeLine)
    (h : ∀ g, LCg.CompRest prog w A h₀ L m env elt x scope cl { s₁ with heap := g } (TupAt ax its) (fun i v => its[i]? = some v) (Fin { s₁ with heap := g }) its.size 0 [] news) :
    SrcT prog w A h₀ L m env elt x scope cl Fin (.ref ax) s₁ := ⟨ax, its, news, rfl, hh, F, N, ⟨_, hm⟩, hsz, fun _ ⟨g, e⟩ => e ▸ h g⟩
theorem ListComp_T {prog : Program} {w : World} {A : Around} {E : Value → Shared → Prop} {s : Shared} {h₀ : Heap} {L : Addr} {m : Str → Option Value} {env : Env} {elt iter : PySem.Expr} {x : Str} {px : Pos} {scope : Scope} {cl : List (Str × Addr)} {pos : Pos} {Q : Value → Shared → Prop} (F₀ : Fr h₀ L s.heap m)
    (hclos : closureFor scope env = pure cl) (hcell : ∀ y ∈ scope.names, y.2 ≠ .cell) (hkind : scope.kind = .function)
    (hnames : ∀ y ∈ scope.names, y.2 = .local → scope.names.lookup y.1 = some .local) (hx : scope.names.lookup x = some .local)
    (h : wpAny (model prog w) A (eval iter env) (SrcT prog w A h₀ L m env elt x scope cl (fun s₂ => LCg.FinE h₀ L m s₂ Q)) E s)
    (hs : ∀ x, foldedSetIterable iter env x = pure x := by intro _; rfl) :
    wpAny (model prog w) A (eval (.ListComp elt [⟨.Name x px, iter, [], 0⟩] scope pos) env) Q E s := by
  rw [eval_ListComp]
  refine wpAny_comprehension_free (use := none) rfl hs hclos hkind hnames (wpAny_mono h (fun xv s₁ h₁ => ?_) fun _ _ e => e)
  obtain ⟨ax, its, news, rfl, hh, F, N, S, hsz, R⟩ := h₁
  have hl := S.isTuple N
  have hlt : ax < s₁.heap.objs.size := by obtain ⟨_, e, _⟩ := hl; exact Heap.lt_size e
  refine wpAny_pyIter_tuple hl ?_
  have up : ∀ b o, s₁.heap.get? b = some o → (s₁.heap.push { cls := .type "tuple_iterator", data := .fields #[.ref ax, .int 0 0] }).get? b = some o := fun b o e => Heap.get?_push_of_some _ e
  refine LCg.block_U (Walks.tuple hh s₁.heap.objs.size ax (Nat.ne_of_lt hlt) its) hsz (fun i h st => by obtain ⟨o, e, _⟩ := st.1; exact ⟨o, e⟩)
    (fun i h h' o nw st e e' k N S => ⟨by obtain ⟨o', q, r⟩ := st.1; rw [e] at q; cases q; exact ⟨o, e', r⟩, S.isTuple N⟩) hcell hkind hx ⟨⟨_, Heap.get?_push_size _ rfl, rfl, rfl⟩, hl.at fun o e => up _ o e⟩ (fun b hb => ?_)
    (F.keeps up) (N.grown up) (Nat.ne_of_lt F.ns.lt) (next_is_new F) (fun p hp => Nat.ne_of_lt (Heap.lt_size (N p hp).1)) S (R _ ⟨_, rfl⟩) ?_
  · show b < (s₁.heap.push _).objs.size
    rw [Heap.size_push]
    rcases List.mem_cons.mp hb with rfl | hb
    · exact Nat.lt_succ_self _
    · rw [List.mem_singleton.mp hb]; exact Nat.lt_succ_of_lt hlt
  · intro D C h tk m' ys news' F' N' o1 hn hC₀ hD₀ hCL hDL hCD offC fin
    refine ⟨m', hn, fun h'' hs'' => fin D h'' tk (F'.change hs'' hCL hC₀) (fun p hp => ?_) o1⟩
    refine ⟨hs''.extBut _ _ ?_ (N' p hp).1, (N' p hp).2⟩
    rcases List.mem_cons.mp hp with rfl | hp
    · exact Ne.symm hCD
    · exact offC p hp
local macro_rules | `(tactic| walk_at "eval ListComp") => `(tactic| (k_here; k_dflt (refine LCg.ListComp_U (F₀ := by k_asm) (by with_unfolding_all rfl) (by decide) (by with_unfolding_all rfl) (by decide) (by rfl) ?_); k_dflt lcg_toSrc))
local macro_rules | `(tactic| walk_at "eval ListComp") => `(tactic| (k_here; k_dflt (refine ListComp_T (F₀ := by k_asm) (by with_unfolding_all rfl) (by decide) (by with_unfolding_all rfl) (by decide) (by rfl) ?_); (repeat (first | walk1 | (dsimp only; walk1))); k_dflt (refine SrcT.led (by rfl) (by k_asm) (by k_asm) (by k_mem) (by exact Nat.le_of_ble_eq_true rfl) ?_; intro g'; lcg_lit)))
local macro_rules | `(tactic| walk_at "CompEnd") => `(tactic| (k_here; k_dflt (first
  | refine comp_end2 (by assumption) (by assumption) (by assumption) (by kcf_all) (by kcf_all) (by kcf_all) (by kcf_all) (by first | trivial | lcg_src | exact .inr ⟨_, by k_mem, rfl, _, rfl⟩ | exact ⟨_, by k_mem⟩) ?_
  | refine comp_end1 (by assumption) (by assumption) (by assumption) (by kcf_all) (by kcf_all) (by kcf_all) (by first | trivial | lcg_src | exact .inr ⟨_, by k_mem, rfl, _, rfl⟩ | exact ⟨_, by k_mem⟩) ?_
  | refine comp_end0 (by assumption) (by assumption) (by assumption) (by first | trivial | lcg_src | exact .inr ⟨_, by k_mem, rfl, _, rfl⟩ | exact ⟨_, by k_mem⟩) ?_)))
-- P19ftd
local macro_rules | `(tactic| ke_room) => `(tactic| units_room)
local macro_rules | `(tactic| walk_at "call ref") => `(tactic| (with_reducible refine atC 319 ?_; k_dflt (refine' c_ltold _ (by assumption) _; keq_rows)))
section
variable {w : World} {dp un : Nat} {gd : Option (List Code)} {cn : Str} {cs : Scope} {ca : Addr} {ccd : Value} {cl : List (Str × Addr)} {A₀ : Around} {outer : List Env} {base h₀ : Heap} {L : Addr} {m : Str → Option Value} {s : Shared} {news : Led} {mean : ExcName → Option Value} {mg mb : Str → Option Value} {Q E : Value → Shared → Prop}

/-- _law_frame_told(frame, sides, scale) -/
theorem c_ftold {f g a b c d : Addr} {wa wb wc wd p : Int} {ua ub uc ud up : Tok} (C : Cx w dp cs outer A₀ base h₀ L m s news mean mg mb 20)
    (mf : (f, tup [.ref a, .ref b, .ref c, .ref d]) ∈ news) (mg' : (g, tup [.int wa ua, .int wb ub, .int wc uc, .int wd ud]) ∈ news) (hp : 0 ≤ p) (hun : un + 400 < cLine)
    (ma : DecAt w news a wa p.toNat) (mb' : DecAt w news b wb p.toNat) (mc : DecAt w news c wc p.toNat) (md : DecAt w news d wd p.toNat)
    (hret : ∀ h' tk', Fr h₀ L h' m → News h₀ L h' news → Q (.bool true) { s with heap := h', toks := tk' }) :
    wpAny (model PySem.Challenge.rw_nn0204_01.row.prog w) (ktrTop dp un gd cn cs L ca ccd cl outer) (call (.ref 343) [.ref f, .ref g, .int p up]) Q E s := by
  refine DecAt.op ma ?_; intro d0 u0 a0 b0 v0 p0 q0
  refine DecAt.op mb' ?_; intro d1 u1 a1 b1 v1 p1 q1
  refine DecAt.op mc ?_; intro d2 u2 a2 b2 v2 p2 q2
  refine DecAt.op md ?_; intro d3 u3 a3 b3 v3 p3 q3
  obtain ⟨B, F, X, N, T, hk, hd⟩ := C
  w_on
  revert X; k_fill; intro X
  refine wpAny_call ?_
  ktr_call [(Str.ofString "frame", .ref f), (Str.ofString "sides", .ref g), (Str.ofString "scale", .int p up)] 2
  k_steps
  exact hret _ _ (by assumption) (cb_drop (by assumption) (by intro p hp; repeat (first | exact hp | refine List.mem_cons_of_mem _ ?_)))
/-- _law_frame_told(frame, sides, 0) -/
theorem c_ftold0 {f g a b c d : Addr} {wa wb wc wd : Int} {ua ub uc ud up : Tok} (C : Cx w dp cs outer A₀ base h₀ L m s news mean mg mb 20)
    (mf : (f, tup [.ref a, .ref b, .ref c, .ref d]) ∈ news) (mg' : (g, tup [.int wa ua, .int wb ub, .int wc uc, .int wd ud]) ∈ news) (hun : un + 400 < cLine)
    (ma : DecAt w news a wa 0) (mb' : DecAt w news b wb 0) (mc : DecAt w news c wc 0) (md : DecAt w news d wd 0)
    (hret : Ret (∀ h' tk', Fr h₀ L h' m → News h₀ L h' news → Q (.bool true) { s with heap := h', toks := tk' })) :
    wpAny (model PySem.Challenge.rw_nn0204_01.row.prog w) (ktrTop dp un gd cn cs L ca ccd cl outer) (call (.ref 343) [.ref f, .ref g, .int 0 up]) Q E s := c_ftold C mf mg' (by decide) hun ma mb' mc md hret
end
local macro_rules | `(tactic| walk_at "call ref") => `(tactic| ((with_reducible show wpAny _ _ (call (Value.ref 343) [_, _, Value.int 0 _]) _ _ _); k_dflt (refine' c_ftold0 _ _ _ _ _ _ _ _ _; keq_rows)))
section
variable {w : World} {dp un : Nat} {gd : Option (List Code)} {cn : Str} {cs : Scope} {ca : Addr} {ccd : Value} {cl : List (Str × Addr)} {A₀ : Around} {outer : List Env} {base h₀ : Heap} {L : Addr} {m : Str → Option Value} {s : Shared} {news : Led} {mean : ExcName → Option Value} {mg mb : Str → Option Value} {Q E : Value → Shared → Prop}
/-- _law_frame_told(frame, sides, 2) -/
theorem c_ftold2 {f g a b c d : Addr} {wa wb wc wd : Int} {ua ub uc ud up : Tok} (C : Cx w dp cs outer A₀ base h₀ L m s news mean mg mb 20)
    (mf : (f, tup [.ref a, .ref b, .ref c, .ref d]) ∈ news) (mg' : (g, tup [.int wa ua, .int wb ub, .int wc uc, .int wd ud]) ∈ news) (hun : un + 400 < cLine)
    (ma : DecAt w news a wa 2) (mb' : DecAt w news b wb 2) (mc : DecAt w news c wc 2) (md : DecAt w news d wd 2)
    (hret : Ret (∀ h' tk', Fr h₀ L h' m → News h₀ L h' news → Q (.bool true) { s with heap := h', toks := tk' })) :
    wpAny (model PySem.Challenge.rw_nn0204_01.row.prog w) (ktrTop dp un gd cn cs L ca ccd cl outer) (call (.ref 343) [.ref f, .ref g, .int 2 up]) Q E s := c_ftold C mf mg' (by decide) hun ma mb' mc md hret
end
local macro_rules | `(tactic| walk_at "call ref") => `(tactic| ((with_reducible show wpAny _ _ (call (Value.ref 343) [_, _, Value.int 2 _]) _ _ _); k_dflt (refine' c_ftold2 _ _ _ _ _ _ _ _ _; keq_rows)))
section
variable {w : World} {dp un : Nat} {gd : Option (List Code)} {cn : Str} {cs : Scope} {ca : Addr} {ccd : Value} {cl : List (Str × Addr)} {A₀ : Around} {outer : List Env} {base h₀ : Heap} {L : Addr} {m : Str → Option Value} {s : Shared} {news : Led} {mean : ExcName → Option Value} {mg mb : Str → Option Value} {Q E : Value → Shared → Prop}
/-- _law_frame_told(frame, sides, 4) -/
theorem c_ftold4 {f g a b c d : Addr} {wa wb wc wd : Int} {ua ub uc ud up : Tok} (C : Cx w dp cs outer A₀ base h₀ L m s news mean mg mb 20)
    (mf : (f, tup [.ref a, .ref b, .ref c, .ref d]) ∈ news) (mg' : (g, tup [.int wa ua, .int wb ub, .int wc uc, .int wd ud]) ∈ news) (hun : un + 400 < cLine)
    (ma : DecAt w news a wa 4) (mb' : DecAt w news b wb 4) (mc : DecAt w news c wc 4) (md : DecAt w news d wd 4)
    (hret : Ret (∀ h' tk', Fr h₀ L h' m → News h₀ L h' news → Q (.bool true) { s with heap := h', toks := tk' })) :
    wpAny (model PySem.Challenge.rw_nn0204_01.row.prog w) (ktrTop dp un gd cn cs L ca ccd cl outer) (call (.ref 343) [.ref f, .ref g, .int 4 up]) Q E s := c_ftold C mf mg' (by decide) hun ma mb' mc md hret
end
local macro_rules | `(tactic| walk_at "call ref") => `(tactic| ((with_reducible show wpAny _ _ (call (Value.ref 343) [_, _, Value.int 4 _]) _ _ _); k_dflt (refine' c_ftold4 _ _ _ _ _ _ _ _ _; keq_rows)))
section
-- P21sto
/-- a PaperError of the call's own, told by its fields -/
def MadeP (h₀ : Heap) (L : Addr) (h : Heap) (e : Addr) (news : Led) : Prop := ∃ oe t, h.get? e = some oe ∧ oe.cls = .ref 46 ∧ oe.data = .fields #[.ref t, .none, .none, .none, .bool false, .none] ∧ e ≠ L ∧ h₀.get? e = none ∧ ∀ p ∈ news, p.1 ≠ e
section
open PySem.Builtin PySem.Builtin.ObjectAttr
variable {prog : Program} {w : World} {A : Around} {E : Value → Shared → Prop} {h : Heap} {g : Array GenState} {d : Drawn} {t : Nat} {os : OsState}
variable {nm q : Str} {C N x : Addr} {bs bm : List Value} {sn : List Str} {sub : List Value} {ab : Bool} {col : Option Bool} {dd : Option Addr} {k0 k1 k2 k3 k5 : Option Value} {B newId sa owner : String}
  {mN : Str → Option Value} {name : Str} {v : Value} {fs : Array Value}
/-- the first attribute that is stored on an exception: its dict is made, and it is new -/
theorem store_first {Q : Unit → Shared → Prop} (SF : StoreFacts B bm sa owner)
    (hC : h.get? C = some (excClassObj nm q C N bs bm true sn sub ab col dd k0 k1 k2 k3 k5 newId)) (hn : h.Ns N mN) (hns : mN "__setattr__" = none) (hna : mN name = none)
    (hB : typeLookup (.type B) name = pure none) (hx : h.get? x = some { cls := .ref C, data := .fields fs })
    (hq : ∀ h' tk dx, h.get? dx = none → dx ≠ x → h'.get? x = some { cls := .ref C, dict := some dx, data := .fields fs } → h'.Ns1 dx (fun y => if y = name then some v else none) →
      (∀ b o, b ≠ x → h.get? b = some o → h'.get? b = some o) → Q () ⟨h', g, d, tk, os⟩) :
    wpAny (model prog w) A (setAttr (.ref x) name v) Q E ⟨h, g, d, t, os⟩ := by
  have f3 := SF.slot.bind (.ref x)
  have hpass := SF.passes (.ref x)
  have hxs : x ≠ h.objs.size := Nat.ne_of_lt (Heap.lt_size hx)
  have hx₁ : (h.push { cls := .type "dict", data := .dict #[] }).get? x = some { cls := .ref C, data := .fields fs } := Heap.get?_push_of_some _ hx
  unfold setAttr callSpecial? specialOf
  repeat (any_goals (first | assumption | (with_reducible refine wpAny_loadPart_at hx ?_) | (with_reducible refine wpAny_typeLookup_exc hC hn SF.mro SF.slot.lookup ?_; rw [hns]) | wp_step))
  refine codeAny_call_builtin SF.slot.plain SF.entry (wpAny_check_sa SF hC hx rfl ?_)
  unfold Builtin.«object.__setattr__»
  repeat (first | ((fail_if_success (with_reducible refine' wpAny_bind (wpAny_nsSet1 ?_ ?_))); first | rw [refuse_eq] | (rw [refuseLoop_ref, hpass]) | (with_reducible refine wpAny_loadPart_at hx ?_) | with_reducible refine wpAny_mroOf_exc hC ?_ | (with_reducible refine wpAny_typeLookup_exc hC hn SF.mro hB ?_; rw [hna]) | wp_step))
  refine wpAny_bind (wpAny_nsSet1 (Heap.Ns1.of_empty (⟨_, #[], _, (Heap.get?_update_ne _ _ _ _ hxs.symm).trans (Heap.get?_push_at rfl rfl), rfl, fun e he => absurd he (by simp), fun _ => rfl⟩ : Heap.Ns _ _ fun _ => none)) fun h' hn' hs => ?_)
  obtain ⟨oD, esD, epD, hoD, hdD, hcD⟩ := hn'.count (Within.cons name v Within.nil)
  refine wpAny_bind (wpAny_lookBehind hoD (by rw [hdD]; exact pastItsLine_dict (Nat.le_trans hcD (by rw [List.length_cons, List.length_nil, sizeLine_eq]; omega))) ?_)
  wp_walk
  exact hq h' _ h.objs.size (Heap.get?_none_of_le (Nat.le_refl _)) hxs.symm ((hs.2 x hxs).trans (Heap.get?_update_self _ hx₁ rfl)) hn'
    fun b o hbx hb => (hs.2 b (Nat.ne_of_lt (Heap.lt_size hb))).trans ((Heap.get?_update_ne _ _ _ _ hbx).trans (Heap.get?_push_of_some _ hb))
end
abbrev excO (C t : Addr) (dx : Option Addr) : Obj := { cls := .ref C, dict := dx, data := .fields #[.ref t, .none, .none, .none, .bool false, .none] }
section
variable {prog : Program} {w : World} {A : Around} {E : Value → Shared → Prop} {s : Shared} {h₀ : Heap} {L : Addr} {m : Str → Option Value} {news : Led} {K : Frag}
variable {nm q : Str} {C N0 x t : Addr} {bs : List Value} {sn : List Str} {sub : List Value} {ab : Bool} {col : Option Bool} {dd dx' : Option Addr} {k0 k1 k2 k3 k5 : Option Value}
  {mN : Str → Option Value} {name name' : Str} {v v' : Value} {oN : Obj}
theorem news_other {h h' : Heap} (N : News h₀ L h ((x, excO C t dx') :: news)) {o' : Obj} (e : h'.get? x = some o') (hk : ∀ p ∈ news, h.get? p.1 = some p.2 → h'.get? p.1 = some p.2) : News h₀ L h' ((x, o') :: news) := fun p hp => by
  rcases List.mem_cons.mp hp with rfl | hp
  · exact ⟨e, (N _ (.head _)).2⟩
  · exact ⟨hk _ hp (N _ (.tail _ hp)).1, (N _ (.tail _ hp)).2⟩
theorem fr_other {h h' : Heap} (F : Fr h₀ L h m) (hL : ∀ o, h.get? L = some o → h'.get? L = some o) (hk : ∀ b o, h₀.get? b = some o → h.get? b = some o → h'.get? b = some o) : Fr h₀ L h' m :=
  ⟨F.ns.at' fun o e => hL o e, fun b o e => hk b o e (F.keep b o e), F.above⟩
/-- Exception.__init__(the exception, a value) -/
theorem exc_init {Q : Value → Shared → Prop} (F : Fr h₀ L s.heap m) (X : K.In h₀) (N : News h₀ L s.heap ((x, excO C t none) :: news)) (l46 : K.lookup C = some (excClassObj nm q C N0 bs [.type "Exception", .type "BaseException", .type "object"] true sn sub ab col dd k0 k1 k2 k3 k5 "Exception.__new__"))
    (hne : ∀ p ∈ news, p.1 ≠ x) (h : ∀ h' t', Fr h₀ L h' m → News h₀ L h' ((x, excO C t' none) :: news) → Q .none { s with heap := h' }) :
    wpAny (model prog w) A (call (.builtin "Exception.__init__") [.ref x, v]) Q E s := by
  obtain ⟨hp, g, d, tk, os⟩ := s
  have hC : hp.get? C = _ := F.keep _ _ (X _ _ l46)
  have hx : hp.get? x = _ := (N _ (.head _)).1
  have hxL := (N _ (.head _)).2.1
  have hx0 := (N _ (.head _)).2.2
  dsimp only at hxL hx0
  have FF := PySem.F.excBase_Exception
  refine wpAny_call (codeAny_call_builtin FF.init.plain FF.initEntry (wpAny_check_init_sub FF hC hx rfl ?_))
  wp_walk
  have hk : ∀ b o, b ≠ x → hp.get? b = some o → ((hp.push { cls := .type "tuple", data := .seq [v].toArray }).update x (Obj.mapFields fun z => z.setIfInBounds 0 (.ref hp.objs.size))).get? b = some o := fun b o hb e => (Heap.get?_update_ne _ _ _ _ hb).trans (Heap.get?_push_of_some _ e)
  exact h _ hp.objs.size (fr_other F (fun o e => hk _ _ (Ne.symm hxL) e) fun b o e0 e => hk b o (fun z => by rw [z, hx0] at e0; cases e0) e)
    (news_other N (Heap.get?_update_self _ (Heap.get?_push_of_some _ hx) rfl) fun p hp e => hk _ _ (hne p hp) e)
/-- the first attribute -/
theorem exc_store1 {Q : Unit → Shared → Prop} (F : Fr h₀ L s.heap m) (X : K.In h₀) (N : News h₀ L s.heap ((x, excO C t none) :: news)) (l46 : K.lookup C = some (excClassObj nm q C N0 bs [.type "Exception", .type "BaseException", .type "object"] true sn sub ab col dd k0 k1 k2 k3 k5 "Exception.__new__"))
    (lN : K.lookup N0 = some oN) (hNs : ∀ h : Heap, h.get? N0 = some oN → h.Ns N0 mN) (hs : mN "__setattr__" = none) (hna : mN name = none) (hB : typeLookup (.type "Exception") name = pure none) (hne : ∀ p ∈ news, p.1 ≠ x)
    (h : ∀ h' tk dx, Fr h₀ L h' m → News h₀ L h' ((x, excO C t (some dx)) :: news) → h'.Ns1 dx (fun y => if y = name then some v else none) → dx ≠ x → dx ≠ L → h₀.get? dx = none → (∀ p ∈ news, p.1 ≠ dx) → Q () { s with heap := h', toks := tk }) :
    wpAny (model prog w) A (setAttr (.ref x) name v) Q E s := by
  obtain ⟨hp, g, d, tk, os⟩ := s
  have hC : hp.get? C = _ := F.keep _ _ (X _ _ l46)
  have hx : hp.get? x = _ := (N _ (.head _)).1
  have hxL := (N _ (.head _)).2.1
  have hx0 := (N _ (.head _)).2.2
  dsimp only at hxL hx0
  refine store_first PySem.F.store_Exception hC (hNs _ (F.keep _ _ (X _ _ lN))) hs hna hB hx fun h' tk' dx hd0 hdx hx' hn' hk => ?_
  have ne : ∀ {b o}, hp.get? b = some o → b ≠ dx := fun e z => by rw [z, hd0] at e; cases e
  obtain ⟨oL, _, _, hL, _⟩ := id F.ns
  refine h h' tk' dx (fr_other F (fun o e => hk _ _ (Ne.symm hxL) e) fun b o e0 e => hk b o (fun z => by rw [z, hx0] at e0; cases e0) e) (news_other N hx' fun p hp e => hk _ _ (hne p hp) e) hn' hdx (Ne.symm (ne hL)) ?_ fun p hp => ne (N _ (.tail _ hp)).1
  cases e : h₀.get? dx with
  | none => rfl
  | some o => exact absurd rfl (ne (F.keep _ _ e))
/-- the next one -/
theorem exc_store2 {dx : Addr} {Q : Unit → Shared → Prop} (F : Fr h₀ L s.heap m) (X : K.In h₀) (N : News h₀ L s.heap ((x, excO C t (some dx)) :: news)) (l46 : K.lookup C = some (excClassObj nm q C N0 bs [.type "Exception", .type "BaseException", .type "object"] true sn sub ab col dd k0 k1 k2 k3 k5 "Exception.__new__"))
    (lN : K.lookup N0 = some oN) (hNs : ∀ h : Heap, h.get? N0 = some oN → h.Ns N0 mN) (hs : mN "__setattr__" = none) (hna : mN name = none) (hB : typeLookup (.type "Exception") name = pure none) (hne : ∀ p ∈ news, p.1 ≠ x)
    (hd : s.heap.Ns1 dx (fun y => if y = name' then some v' else none)) (d1 : dx ≠ x) (d2 : dx ≠ L) (d3 : h₀.get? dx = none) (d4 : ∀ p ∈ news, p.1 ≠ dx) (hxC : x ≠ C)
    (h : ∀ h' tk, Fr h₀ L h' m → News h₀ L h' ((x, excO C t (some dx)) :: news) → Q () { s with heap := h', toks := tk }) :
    wpAny (model prog w) A (setAttr (.ref x) name v) Q E s := by
  obtain ⟨hp, g, d, tk, os⟩ := s
  have hC : hp.get? C = _ := F.keep _ _ (X _ _ l46)
  have hx : hp.get? x = _ := (N _ (.head _)).1
  have hxL := (N _ (.head _)).2.1
  have hx0 := (N _ (.head _)).2.2
  dsimp only at hxL hx0
  refine store_attr PySem.F.store_Exception hC (hNs _ (F.keep _ _ (X _ _ lN))) hs hna hB hxC ⟨_, hx, rfl, (fun c => by intro z; cases z), .inr ⟨dx, rfl, d1, hd⟩⟩ (fun h' tk' I' hk hsame => ?_) (Within.cons name' v' Within.nil)
  have hk' : ∀ b o, b ≠ x → b ≠ dx → hp.get? b = some o → h'.get? b = some o := fun b o b1 b2 e => hk b o b1 (fun o₀ dx' e1 e2 => by
    rw [hx] at e1
    cases e1
    cases e2
    exact b2) e
  obtain ⟨o₁, e1, e2, e3, e4, e5⟩ := hsame _ hx
  have e6 := e5 dx rfl
  have e7 : h'.get? x = some (excO C t (some dx)) := by
    rw [e1]
    obtain ⟨c1, c2, c3, c4⟩ := o₁
    dsimp only at e2 e3 e4 e6
    rw [e2, e3, e4, e6]
  exact h h' tk' (fr_other F (fun o e => hk' _ _ (Ne.symm hxL) (Ne.symm d2) e) fun b o e0 e => hk' b o (fun z => by rw [z, hx0] at e0; cases e0) (fun z => by rw [z, d3] at e0; cases e0) e)
    (news_other N e7 fun p hp e => hk' _ _ (hne p hp) (d4 p hp) e)
end
-- P21exc
theorem meta_exc : typeOf (.type "Exception") = pure (.type "type") := by kernel_rfl
theorem look_what : typeLookup (.type "Exception") (Str.ofString "what") = pure none := by rw [typeLookup_type, builtinLookup_eq_fast]; kernel_rfl
theorem look_at : typeLookup (.type "Exception") (Str.ofString "at") = pure none := by rw [typeLookup_type, builtinLookup_eq_fast]; kernel_rfl
local macro_rules | `(tactic| walk_at "getMethod type:Exception") => `(tactic| (k_here; k_dflt (refine' method_type ?F ?X ?m (by decide +kernel) ?e ?h ?_; (case F => k_asm); (case X => k_asm); (case m => exact meta_exc); (case e => k_dflt k_is); (case h => k_handed)); (try dsimp only)))
local macro_rules | `(tactic| walk_at "call builtin:Exception.__init__") => `(tactic| (k_here; refine exc_init (by k_asm) (by k_asm) (by k_asm) (by assumption) (by assumption) ?_; intro h' t' F' N'; (try k_sweep)))
local macro_rules | `(tactic| walk_at "setAttr ref") => `(tactic| (k_here; first
  | (refine exc_store1 (by k_asm) (by k_asm) (by k_asm) (by assumption) (by assumption) (by assumption) rfl rfl (by first | exact look_what | exact look_at) (by assumption) ?_; intro h' tk' dx' F' N' d0' d1' d2' d3' d4'; (try k_sweep))
  | (refine exc_store2 (by k_asm) (by k_asm) (by k_asm) (by assumption) (by assumption) (by assumption) rfl rfl (by first | exact look_what | exact look_at) (by assumption) (by assumption) (by assumption) (by assumption) (by assumption) (by assumption) (by assumption) ?_; intro h' tk' F' N'; (try k_sweep))))
section
variable {w : World} {dp un : Nat} {gd : Option (List Code)} {cn : Str} {cs : Scope} {ca : Addr} {ccd : Value} {cl : List (Str × Addr)} {A₀ : Around} {outer : List Env} {base h₀ : Heap} {L : Addr} {m : Str → Option Value} {s : Shared} {news : Led} {mean : ExcName → Option Value} {mg mb : Str → Option Value} {Q E : Value → Shared → Prop}
/-- PaperError(a text) -/
theorem c_paper {x : Str} {t : Tok} (C : Cx w dp cs outer A₀ base h₀ L m s news mean mg mb 6)
    (hret : Ret (∀ e h' tk', Fr h₀ L h' m → News h₀ L h' news → MadeP h₀ L h' e news → Q (.ref e) { s with heap := h', toks := tk' })) :
    wpAny (model PySem.Challenge.rw_nn0204_01.row.prog w) (ktrTop dp un gd cn cs L ca ccd cl outer) (call (.ref 46) [.str x t]) Q E s := by
  obtain ⟨B, F, X, N, T, hk, hd⟩ := C
  w_on
  revert X; k_fill; intro X
  obtain ⟨hp, g, d, tk, os⟩ := s
  have l46 : (Mine.hd.heap_39 w.params).lookup 46 = some (excClassObj _ _ 46 45 _ _ _ _ _ _ _ _ _ _ _ _ _ _) := id (by k_dflt k_is)
  have l45 : (Mine.hd.heap_39 w.params).lookup 45 = some _ := id (by k_dflt k_is)
  obtain ⟨o45, es, ep, ho, hdd, hkeys, _⟩ : h₀.Ns 45 (h₀.nsMap 45) := .of_isNs (isNs_of_in X (by kernel_rfl))
  have hNs : ∀ h : Heap, h.get? 45 = some o45 → h.Ns 45 (fun n => nsFind es n) := fun h e => ⟨_, _, _, e, hdd, hkeys, fun _ => rfl⟩
  have q45 := X _ _ l45
  rw [ho] at q45
  cases q45
  cases hdd
  clear ho
  have hC : hp.get? 46 = _ := F.keep _ _ (X _ _ l46)
  have hn := hNs _ (F.keep _ _ (X _ _ l45))
  refine wpAny_call_exc_init PySem.F.excBase_Exception hC hn rfl (F.keep _ _ (X 36 _ (by k_dflt k_is))) rfl fun h1 e hm => ?_
  obtain ⟨t0, he, ht0, htup⟩ := hm.there
  have hLe : e ≠ L := fun q => by
    obtain ⟨oL, _, _, hL, _⟩ := F.ns
    have := hm.new
    rw [q, hL] at this
    cases this
  have he0 : h₀.get? e = none := by
    cases q : h₀.get? e with
    | none => rfl
    | some o' => have := F.keep e o' q; rw [hm.new] at this; cases this
  have heC : e ≠ 46 := fun q => by have := hm.new; rw [q, hC] at this; cases this
  have hne : ∀ p ∈ news, p.1 ≠ e := fun p hp q => by have := hm.new; rw [← q, (N p hp).1] at this; cases this
  have F1 : Fr h₀ L h1 m := F.grownK hm.keeps
  have N1 : News h₀ L h1 ((e, excO 46 t0 none) :: news) := fun p hp => by
    rcases List.mem_cons.mp hp with rfl | hp
    · exact ⟨he, hLe, he0⟩
    · exact (N.grown hm.keeps) p hp
  clear F N hC hn ht0 htup he hm
  refine wpAny_call ?_
  k_dflt (
  refine' code_def ?k1 ?k2 ?k3 ?k4 ?k5 ?kA ?kF ?kK ?k6 ?k7 ?k8 ?k9 ?kB ?_ ?c2 ?c3 ?c4 ?c5; (case kA => first | exact rfl | assumption); (case kF => first | exact rfl | assumption); (case kK => first | exact rfl | assumption); (case k1 => k_asm); (case k2 => k_asm); (case k3 => k_asm); (case k4 => k_asm); (case k5 => k_asm); (case k6 => k_is); (case k7 => k_is); (case k8 => ktr_room); (case k9 => exact binds_K (by k_in) rfl (by k_is) rfl rfl rfl); (case c5 => decide); (case kB => exact locs rfl); (case c2 => exact rfl); (case c3 => exact rfl); (case c4 => exact rfl); k_whole; intro g' L' h' FG' F' N' B' X' T'; (try dsimp only); (try k_fold))
  k_steps
  rename News h₀ L _ _ => kN
  exact hret e _ _ (by assumption) (news_d0 kN) ⟨_, _, (kN _ (.head _)).1, rfl, rfl, hLe, he0, hne⟩
end
-- P22rai
/-- what a raise of a PaperError hands on -/
def RaiseNow (E : Value → Shared → Prop) (v : Value) (s₁ : Shared) : Prop := ∃ e oe t, v = .ref e ∧ (∃ N nm q bs sn sub ab col dd k0 k1 k2 k3 k5 newId hd bm, s₁.heap.get? 46 = some (excClassObj nm q 46 N bs bm hd sn sub ab col dd k0 k1 k2 k3 k5 newId) ∧ bm.contains (.type "BaseException") = true) ∧
  s₁.heap.get? e = some oe ∧ oe.cls = .ref 46 ∧ oe.data = .fields #[.ref t, .none, .none, .none, .bool false, .none] ∧ E (.ref e) s₁
section
variable {prog : Program} {w : World} {A : Around} {E : Value → Shared → Prop} {s : Shared} {env : Env}
theorem raise_now {x : PySem.Expr} {pos : Pos} {Q : Flow → Shared → Prop} (hh : A.handled = none) (h : wpAny (model prog w) A (eval x env) (RaiseNow E) E s) : wpAny (model prog w) A (exec (.Raise (some x) none pos) env) Q E s := by
  rw [arm_exec_Raise]
  refine wpAny_bind (wpAny_standAt ?_)
  unfold raiseStmt
  refine wpAny_bind (wpAny_bind (wpAny_mono h (fun v s₁ h₁ => wpAny_bind (wpAny_standAt (wpAny_pure ?_))) fun _ _ x => x))
  obtain ⟨e, oe, t, rfl, ⟨N, nm, q, bs, sn, sub, ab, col, dd, k0, k1, k2, k3, k5, newId, hdct, bm, hC, hb⟩, he, hc, hd, hE⟩ := h₁
  have hcB : (Value.ref 46 :: bm).contains (.type "BaseException") = true := by rw [List.contains_cons, hb, Bool.or_true]
  obtain ⟨oc, od, odt, osl⟩ := oe
  dsimp only at hc hd
  subst hc hd
  obtain ⟨hp, g, d, tk, os⟩ := s₁
  repeat (first | with_reducible refine wpAny_loadPart_at he ?_ | with_reducible refine wpAny_loadPart_at hC ?_ | (with_reducible refine wpAny_isSubtype_exc hC ?_; rw [hcB]) | wp_step)
  exact wpAny_raiseNew_none hh hE
end
section
variable {M : Model} {A : Around} {E : Value → Shared → Prop} {s' : Shared} {base g : Heap} {outer : List Env} {L a e : Addr} {m : Str → Option Value} {name : Str} {scope : Scope} {cd : Value} {Q : Unit → Shared → Prop} {news : Led}
theorem leave_P (K : Below A base outer g) (F : Fr g L s'.heap m) (N : News g L s'.heap news) (hx : MadeP g L s'.heap e news)
    (hQ : ∀ h', RaisedN base outer e (.ref 46) news h' → g.UpToSlots h' → Q () { s' with heap := h' }) (hk : scope.kind = .function := by rfl) :
    wpAny M (A.deeper (envOf name scope L a cd)) (leaving (envOf name scope L a cd) (.ref e)) Q E s' := by
  obtain ⟨oe, t, he, hc, hd, heL, he0, hne⟩ := hx
  have K' := K.push (name := name) (a := a) (cd := cd) F hk
  have heb : base.get? e = none := fresh_of_stays K.stays he0
  have hin : ∀ env ∈ (envOf name scope L a cd :: outer), ∀ b, env.frame = some b → b ∈ e :: (envOf name scope L a cd :: outer).filterMap (·.frame) := fun env he b hb => .tail _ (List.mem_filterMap.mpr ⟨env, he, hb⟩)
  have st : base.StaysIn (hideAll s'.heap (e :: (envOf name scope L a cd :: outer).filterMap (·.frame))) := fun b o q => hideAll_get _ (K'.stays b o q) fun hm => by
    rcases List.mem_cons.mp hm with rfl | hm
    · rw [heb] at q; cases q
    · rw [(K'.frames.mem hm).1] at q; cases q
  have hl : ∀ q ∈ news, (hideAll s'.heap (e :: (envOf name scope L a cd :: outer).filterMap (·.frame))).get? q.1 = some q.2 ∧ base.get? q.1 = none := fun q hq => by
    refine ⟨hideAll_get _ (N q hq).1 fun hm => ?_, fresh_of_stays K.stays (N q hq).2.2⟩
    rcases List.mem_cons.mp hm with hm | hm
    · exact hne q hq hm
    · obtain ⟨env, he, hf⟩ := List.mem_filterMap.mp hm
      rcases List.mem_cons.mp he with rfl | he
      · exact (N q hq).2.1 (Option.some.inj hf).symm
      · obtain ⟨o, ho, _⟩ := (K.frames.mem (List.mem_filterMap.mpr ⟨env, he, hf⟩)).2
        rw [(N q hq).2.2] at ho; cases ho
  have hen : (hideAll s'.heap (e :: (envOf name scope L a cd :: outer).filterMap (·.frame))).get? e = none := hideAll_none _ (.head _)
  refine wpAny_leaving_firstW (a0 := .ref t) K'.stack (funFrames_hide K'.frames hin) rfl he (fun b o hb => of_hideAll _ hb) hen hd rfl rfl fun h' hL => ?_
  obtain ⟨k1, ⟨_, _, k2⟩, k3, k4⟩ := hL
  exact hQ h' ⟨_, .ref t, st, hl, k1, hen, k2, by rw [← hc]; exact k3⟩ ((Heap.UpToSlots.of_keeps F.keep).trans k4)
end
-- P23r1
theorem raisedN_sub {base h : Heap} {l : List Env} {e : Addr} {cls : Value} {news news' : Led} (R : RaisedN base l e cls news h) (hs : ∀ p ∈ news', p ∈ news) : RaisedN base l e cls news' h :=
  let ⟨B, a0, h1, h2, h3⟩ := R; ⟨B, a0, h1, fun q hq => h2 q (hs q hq), h3⟩
theorem raise_fin {K : Frag} {h₀ : Heap} {L : Addr} {m : Str → Option Value} {news : Led} {E : Value → Shared → Prop} {s : Shared} {e N : Addr} {nm q : Str} {bs bm : List Value} {hdct : Bool} {sn : List Str} {sub : List Value} {ab : Bool} {col : Option Bool} {dd : Option Addr} {k0 k1 k2 k3 k5 : Option Value} {newId : String}
    (X : K.In h₀) (l : K.lookup 46 = some (excClassObj nm q 46 N bs bm hdct sn sub ab col dd k0 k1 k2 k3 k5 newId)) (hb : bm.contains (.type "BaseException") = true) (F : Fr h₀ L s.heap m) (hx : MadeP h₀ L s.heap e news) (hE : E (.ref e) s) : RaiseNow E (.ref e) s :=
  let ⟨oe, t, h1, h2, h3, _⟩ := hx
  ⟨e, oe, t, rfl, ⟨N, nm, q, bs, sn, sub, ab, col, dd, k0, k1, k2, k3, k5, newId, hdct, bm, F.keep _ _ (X _ _ l), hb⟩, h1, h2, h3, hE⟩
local macro_rules | `(tactic| walk_at "exec Raise some none") => `(tactic| (k_here; k_dflt (refine raise_now (by rfl) ?_)))
local macro_rules | `(tactic| walk_at "call ref") => `(tactic| (with_reducible refine atC 46 ?_; k_dflt (refine' c_paper _ _; keq_rows)))
local macro_rules | `(tactic| walk_at "RaiseNow") => `(tactic| (k_dflt (refine' raise_fin ?X ?l ?b ?F ?mP ?_; (case X => k_asm); (case l => k_is); (case b => decide); (case F => k_asm); (case mP => assumption))))
local macro_rules | `(tactic| walk_at "leaving ref") => `(tactic| (k_here; refine' leave_P ?k1 ?k2 ?k3 ?k4 ?_; (case k4 => assumption); (case k1 => assumption); (case k2 => assumption); (case k3 => k_asm); k_whole; intro h' R' U'; (try dsimp only at R' U' ⊢)))
section
variable {w : World} {dp un : Nat} {gd : Option (List Code)} {cn : Str} {cs : Scope} {ca : Addr} {ccd : Value} {cl : List (Str × Addr)} {A₀ : Around} {outer : List Env} {base h₀ : Heap} {L : Addr} {m : Str → Option Value} {s : Shared} {news : Led} {mean : ExcName → Option Value} {mg mb : Str → Option Value} {Q E : Value → Shared → Prop}

/-- decimal_of(none): refused -/
theorem r_dec_none (C : Cx w dp cs outer A₀ base h₀ L m s news mean mg mb 12)
    (hret : ∀ e h' tk' g₂, RaisedN base (envX cn cs L ca ccd cl :: outer) e (.ref 46) news h' → Fr h₀ L g₂ m → g₂.UpToSlots h' → E (.ref e) { s with heap := h', toks := tk' }) :
    wpAny (model PySem.Challenge.rw_nn0204_01.row.prog w) (ktrTop dp un gd cn cs L ca ccd cl outer) (call (.ref 161) [.none]) Q E s := by
  obtain ⟨B, F, X, N, T, hk, hd⟩ := C
  w_on
  revert X; k_fill; intro X
  refine wpAny_call ?_
  ktr_call [(Str.ofString "value", .none)] 1
  k_steps
  all_goals (rename RaisedN _ _ _ _ _ _ => kR; exact hret _ _ _ _ (raisedN_sub kR (by intro p hp; repeat (first | exact hp | refine List.mem_cons_of_mem _ ?_))) (by assumption) (by assumption))
/-- decimal_of(false): refused -/
theorem r_dec_false (C : Cx w dp cs outer A₀ base h₀ L m s news mean mg mb 12)
    (hret : ∀ e h' tk' g₂, RaisedN base (envX cn cs L ca ccd cl :: outer) e (.ref 46) news h' → Fr h₀ L g₂ m → g₂.UpToSlots h' → E (.ref e) { s with heap := h', toks := tk' }) :
    wpAny (model PySem.Challenge.rw_nn0204_01.row.prog w) (ktrTop dp un gd cn cs L ca ccd cl outer) (call (.ref 161) [.bool false]) Q E s := by
  obtain ⟨B, F, X, N, T, hk, hd⟩ := C
  w_on
  revert X; k_fill; intro X
  refine wpAny_call ?_
  ktr_call [(Str.ofString "value", .bool false)] 1
  k_steps
  all_goals (rename RaisedN _ _ _ _ _ _ => kR; exact hret _ _ _ _ (raisedN_sub kR (by intro p hp; repeat (first | exact hp | refine List.mem_cons_of_mem _ ?_))) (by assumption) (by assumption))
/-- decimal_of(None or False): refused -/
theorem r_dec {v : Value} (C : Cx w dp cs outer A₀ base h₀ L m s news mean mg mb 12) (hv : v = .none ∨ v = .bool false) (hret : Ret (∀ e h' tk' g₂, RaisedN base (envX cn cs L ca ccd cl :: outer) e (.ref 46) news h' → Fr h₀ L g₂ m → g₂.UpToSlots h' → E (.ref e) { s with heap := h', toks := tk' })) :
    wpAny (model PySem.Challenge.rw_nn0204_01.row.prog w) (ktrTop dp un gd cn cs L ca ccd cl outer) (call (.ref 161) [v]) Q E s := by
  rcases hv with rfl | rfl
  · exact r_dec_none C hret
  · exact r_dec_false C hret
end
local macro_rules | `(tactic| walk_at "call ref") => `(tactic| (with_reducible refine atC 161 ?_; k_dflt (refine' r_dec _ _ _; keq_rows)))
-- P23r2
section
variable {w : World} {dp un : Nat} {gd : Option (List Code)} {cn : Str} {cs : Scope} {ca : Addr} {ccd : Value} {cl : List (Str × Addr)} {A₀ : Around} {outer : List Env} {base h₀ : Heap} {L : Addr} {m : Str → Option Value} {s : Shared} {news : Led} {mean : ExcName → Option Value} {mg mb : Str → Option Value} {Q E : Value → Shared → Prop}

/-- least([]): refused -/
theorem r_least0 {l : Addr} {n : Nat} (C : Cx w dp cs outer A₀ base h₀ L m s news mean mg mb 12)
    (ml : (l, listOf [].toArray n) ∈ news)
    (hret : Ret (∀ e h' tk' g₂, RaisedN base (envX cn cs L ca ccd cl :: outer) e (.ref 46) news h' → Fr h₀ L g₂ m → g₂.UpToSlots h' → E (.ref e) { s with heap := h', toks := tk' })) :
    wpAny (model PySem.Challenge.rw_nn0204_01.row.prog w) (ktrTop dp un gd cn cs L ca ccd cl outer) (call (.ref 175) [.ref l]) Q E s := by
  obtain ⟨B, F, X, N, T, hk, hd⟩ := C
  w_on
  revert X; k_fill; intro X
  refine wpAny_call ?_
  ktr_call [(Str.ofString "values", .ref l)] 1
  k_steps
  all_goals (rename RaisedN _ _ _ _ _ _ => kR; exact hret _ _ _ _ (raisedN_sub kR (by intro p hp; repeat (first | exact hp | refine List.mem_cons_of_mem _ ?_))) (by assumption) (by assumption))
end
local macro_rules | `(tactic| walk_at "call ref") => `(tactic| (with_reducible refine atC 175 ?_; k_dflt (refine' r_least0 _ _ _; keq_rows)))
section
variable {w : World} {dp un : Nat} {gd : Option (List Code)} {cn : Str} {cs : Scope} {ca : Addr} {ccd : Value} {cl : List (Str × Addr)} {A₀ : Around} {outer : List Env} {base h₀ : Heap} {L : Addr} {m : Str → Option Value} {s : Shared} {news : Led} {mean : ExcName → Option Value} {mg mb : Str → Option Value} {Q E : Value → Shared → Prop}
/-- box_from_array(a list of another length): refused -/
theorem r_arrL {l : Addr} {n : Nat} {vs : List Value} (C : Cx w dp cs outer A₀ base h₀ L m s news mean mg mb 12)
    (ml : (l, listOf vs.toArray n) ∈ news) (hl : vs.length ≠ 4) (hz : vs.length < 1000)
    (hret : Ret (∀ e h' tk' g₂, RaisedN base (envX cn cs L ca ccd cl :: outer) e (.ref 46) news h' → Fr h₀ L g₂ m → g₂.UpToSlots h' → E (.ref e) { s with heap := h', toks := tk' })) :
    wpAny (model PySem.Challenge.rw_nn0204_01.row.prog w) (ktrTop dp un gd cn cs L ca ccd cl outer) (call (.ref 255) [.ref l]) Q E s := by
  obtain ⟨B, F, X, N, T, hk, hd⟩ := C
  w_on
  revert X; k_fill; intro X
  refine wpAny_call ?_
  ktr_call [(Str.ofString "values", .ref l)] 1
  k_steps
  all_goals first | (exfalso; omega) | (rename RaisedN _ _ _ _ _ _ => kR; exact hret _ _ _ _ (raisedN_sub kR (by intro p hp; repeat (first | exact hp | refine List.mem_cons_of_mem _ ?_))) (by assumption) (by assumption))
end
local macro_rules | `(tactic| walk_at "call ref") => `(tactic| (with_reducible refine atC 255 ?_; k_dflt (refine' r_arrL _ _ _ _ _; keq_rows)))
section
variable {w : World} {dp un : Nat} {gd : Option (List Code)} {cn : Str} {cs : Scope} {ca : Addr} {ccd : Value} {cl : List (Str × Addr)} {A₀ : Around} {outer : List Env} {base h₀ : Heap} {L : Addr} {m : Str → Option Value} {s : Shared} {news : Led} {mean : ExcName → Option Value} {mg mb : Str → Option Value} {Q E : Value → Shared → Prop}
/-- box_from_array(a tuple): refused -/
theorem r_arrT {l : Addr} {vs : List Value} (C : Cx w dp cs outer A₀ base h₀ L m s news mean mg mb 12)
    (ml : (l, tup vs) ∈ news)
    (hret : Ret (∀ e h' tk' g₂, RaisedN base (envX cn cs L ca ccd cl :: outer) e (.ref 46) news h' → Fr h₀ L g₂ m → g₂.UpToSlots h' → E (.ref e) { s with heap := h', toks := tk' })) :
    wpAny (model PySem.Challenge.rw_nn0204_01.row.prog w) (ktrTop dp un gd cn cs L ca ccd cl outer) (call (.ref 255) [.ref l]) Q E s := by
  obtain ⟨B, F, X, N, T, hk, hd⟩ := C
  w_on
  revert X; k_fill; intro X
  refine wpAny_call ?_
  ktr_call [(Str.ofString "values", .ref l)] 1
  k_steps
  all_goals (rename RaisedN _ _ _ _ _ _ => kR; exact hret _ _ _ _ (raisedN_sub kR (by intro p hp; repeat (first | exact hp | refine List.mem_cons_of_mem _ ?_))) (by assumption) (by assumption))
end
local macro_rules | `(tactic| walk_at "call ref") => `(tactic| (with_reducible refine atC 255 ?_; k_dflt (refine' r_arrT _ _ _; keq_rows)))
section
variable {w : World} {dp un : Nat} {gd : Option (List Code)} {cn : Str} {cs : Scope} {ca : Addr} {ccd : Value} {cl : List (Str × Addr)} {A₀ : Around} {outer : List Env} {base h₀ : Heap} {L : Addr} {m : Str → Option Value} {s : Shared} {news : Led} {mean : ExcName → Option Value} {mg mb : Str → Option Value} {Q E : Value → Shared → Prop}
/-- box_from_array(None): refused -/
theorem r_arrN (C : Cx w dp cs outer A₀ base h₀ L m s news mean mg mb 12)
    
    (hret : Ret (∀ e h' tk' g₂, RaisedN base (envX cn cs L ca ccd cl :: outer) e (.ref 46) news h' → Fr h₀ L g₂ m → g₂.UpToSlots h' → E (.ref e) { s with heap := h', toks := tk' })) :
    wpAny (model PySem.Challenge.rw_nn0204_01.row.prog w) (ktrTop dp un gd cn cs L ca ccd cl outer) (call (.ref 255) [.none]) Q E s := by
  obtain ⟨B, F, X, N, T, hk, hd⟩ := C
  w_on
  revert X; k_fill; intro X
  refine wpAny_call ?_
  ktr_call [(Str.ofString "values", .none)] 1
  k_steps
  all_goals (rename RaisedN _ _ _ _ _ _ => kR; exact hret _ _ _ _ (raisedN_sub kR (by intro p hp; repeat (first | exact hp | refine List.mem_cons_of_mem _ ?_))) (by assumption) (by assumption))
end
local macro_rules | `(tactic| walk_at "call ref") => `(tactic| ((with_reducible show wpAny _ _ (call (Value.ref 255) [Value.none]) _ _ _); k_dflt (refine' r_arrN _ _; keq_rows)))
-- P23r3
section
variable {w : World} {dp un : Nat} {gd : Option (List Code)} {cn : Str} {cs : Scope} {ca : Addr} {ccd : Value} {cl : List (Str × Addr)} {A₀ : Around} {outer : List Env} {base h₀ : Heap} {L : Addr} {m : Str → Option Value} {s : Shared} {news : Led} {mean : ExcName → Option Value} {mg mb : Str → Option Value} {Q E : Value → Shared → Prop}

/-- at_one_scale(a Decimal, None or False): refused -/
theorem r_scale {x d : Addr} {od : Obj} {v : Value} (C : Cx w dp cs outer A₀ base h₀ L m s news mean mg mb 16)
    (mx : (x, instObj 143 d) ∈ news) (md : (d, od) ∈ news) (hv : v = .none ∨ v = .bool false)
    (hret : Ret (∀ e h' tk' g₂, RaisedN base (envX cn cs L ca ccd cl :: outer) e (.ref 46) news h' → Fr h₀ L g₂ m → g₂.UpToSlots h' → E (.ref e) { s with heap := h', toks := tk' })) :
    wpAny (model PySem.Challenge.rw_nn0204_01.row.prog w) (ktrTop dp un gd cn cs L ca ccd cl outer) (call (.ref 168) [.ref x, v]) Q E s := by
  obtain ⟨B, F, X, N, T, hk, hd⟩ := C
  w_on
  revert X; k_fill; intro X
  refine wpAny_call ?_
  ktr_call [(Str.ofString "one", .ref x), (Str.ofString "other", v)] 1
  k_steps
  all_goals (rename RaisedN _ _ _ _ _ _ => kR; exact hret _ _ _ _ (raisedN_sub kR (by intro p hp; repeat (first | exact hp | refine List.mem_cons_of_mem _ ?_))) (by assumption) (by assumption))
end
local macro_rules | `(tactic| walk_at "call ref") => `(tactic| (with_reducible refine atC 168 ?_; k_dflt (refine' r_scale _ _ _ _ _; keq_rows)))
section
variable {w : World} {dp un : Nat} {gd : Option (List Code)} {cn : Str} {cs : Scope} {ca : Addr} {ccd : Value} {cl : List (Str × Addr)} {A₀ : Around} {outer : List Env} {base h₀ : Heap} {L : Addr} {m : Str → Option Value} {s : Shared} {news : Led} {mean : ExcName → Option Value} {mg mb : Str → Option Value} {Q E : Value → Shared → Prop}
/-- one.compared(None or False): refused -/
theorem r_comp {x d : Addr} {od : Obj} {v : Value} (C : Cx w dp cs outer A₀ base h₀ L m s news mean mg mb 20)
    (mx : (x, instObj 143 d) ∈ news) (md : (d, od) ∈ news) (hv : v = .none ∨ v = .bool false)
    (hret : Ret (∀ e h' tk' g₂, RaisedN base (envX cn cs L ca ccd cl :: outer) e (.ref 46) news h' → Fr h₀ L g₂ m → g₂.UpToSlots h' → E (.ref e) { s with heap := h', toks := tk' })) :
    wpAny (model PySem.Challenge.rw_nn0204_01.row.prog w) (ktrTop dp un gd cn cs L ca ccd cl outer) (call (.ref 98) [.ref x, v]) Q E s := by
  obtain ⟨B, F, X, N, T, hk, hd⟩ := C
  w_on
  revert X; k_fill; intro X
  refine wpAny_call ?_
  ktr_call [(Str.ofString "self", .ref x), (Str.ofString "other", v)] 1
  k_steps
  all_goals (rename RaisedN _ _ _ _ _ _ => kR; exact hret _ _ _ _ (raisedN_sub kR (by intro p hp; repeat (first | exact hp | refine List.mem_cons_of_mem _ ?_))) (by assumption) (by assumption))
end
local macro_rules | `(tactic| walk_at "call ref") => `(tactic| (with_reducible refine atC 98 ?_; k_dflt (refine' r_comp _ _ _ _ _; keq_rows)))
section
variable {w : World} {dp un : Nat} {gd : Option (List Code)} {cn : Str} {cs : Scope} {ca : Addr} {ccd : Value} {cl : List (Str × Addr)} {A₀ : Around} {outer : List Env} {base h₀ : Heap} {L : Addr} {m : Str → Option Value} {s : Shared} {news : Led} {mean : ExcName → Option Value} {mg mb : Str → Option Value} {Q E : Value → Shared → Prop}
/-- least([a Decimal, None or False]): refused -/
theorem r_least2 {l x : Addr} {v : Value} {n k : Nat} {w1 : Int} (C : Cx w dp cs outer A₀ base h₀ L m s news mean mg mb 25)
    (ml : (l, listOf [.ref x, v].toArray n) ∈ news) (mD : DecAt w news x w1 k) (hv : v = .none ∨ v = .bool false)
    (hret : Ret (∀ e h' tk' g₂, RaisedN base (envX cn cs L ca ccd cl :: outer) e (.ref 46) news h' → Fr h₀ L g₂ m → g₂.UpToSlots h' → E (.ref e) { s with heap := h', toks := tk' })) :
    wpAny (model PySem.Challenge.rw_nn0204_01.row.prog w) (ktrTop dp un gd cn cs L ca ccd cl outer) (call (.ref 175) [.ref l]) Q E s := by
  refine DecAt.op mD ?_; intro d u a b t mx md
  obtain ⟨B, F, X, N, T, hk, hd⟩ := C
  w_on
  revert X; k_fill; intro X
  refine wpAny_call ?_
  ktr_call [(Str.ofString "values", .ref l)] 1
  k_steps
  rename_i lF lN ll
  refine iter_led1 (y := Str.ofString "best") (fun i b => i = 0 ∧ b = Value.ref x) (by exact rfl) (List.mem_cons_self ..) lF lN (by rfl) ⟨rfl, rfl⟩ ?_ ?_
  · rintro i vv bb h1 tk1 own hi ⟨rfl, rfl⟩ F1 N1
    obtain rfl := Option.some.inj hi
    dsimp only at F1 ⊢
    k_steps
    rename RaisedN _ _ _ _ _ _ => kR
    exact hret _ _ _ _ (raisedN_sub kR (by intro p hp; exact List.mem_append_right _ (.tail _ hp))) (by assumption) (by assumption)
  · rintro uu bb h1 tk1 ⟨h0, _⟩
    exact absurd h0 (by simp)
end
local macro_rules | `(tactic| walk_at "call ref") => `(tactic| (with_reducible refine atC 175 ?_; k_dflt (refine' r_least2 _ _ _ _ _; keq_rows)))
-- P23r4
section
variable {w : World} {dp un : Nat} {gd : Option (List Code)} {cn : Str} {cs : Scope} {ca : Addr} {ccd : Value} {cl : List (Str × Addr)} {A₀ : Around} {outer : List Env} {base h₀ : Heap} {L : Addr} {m : Str → Option Value} {s : Shared} {news : Led} {mean : ExcName → Option Value} {mg mb : Str → Option Value} {Q E : Value → Shared → Prop}

/-- box_of([(n0, n1), (n2, None or False)]): refused -/
theorem r_box {l p0 p1 x0 x1 x2 : Addr} {w0 w1 w2 : Int} {v : Value} {n k : Nat} (C : Cx w dp cs outer A₀ base h₀ L m s news mean mg mb 30)
    (ml : (l, listOf [.ref p0, .ref p1].toArray n) ∈ news) (m0 : (p0, tup [.ref x0, .ref x1]) ∈ news) (m1 : (p1, tup [.ref x2, v]) ∈ news) (hk1 : k ≤ 50) (d0 : DecAt w news x0 w0 k) (d1 : DecAt w news x1 w1 k) (d2 : DecAt w news x2 w2 k) (b0 : Ab 62 w0) (b2 : Ab 62 w2) (hv : v = .none ∨ v = .bool false)
    (hret : Ret (∀ e h' tk' g₂, RaisedN base (envX cn cs L ca ccd cl :: outer) e (.ref 46) news h' → Fr h₀ L g₂ m → g₂.UpToSlots h' → E (.ref e) { s with heap := h', toks := tk' })) :
    wpAny (model PySem.Challenge.rw_nn0204_01.row.prog w) (ktrTop dp un gd cn cs L ca ccd cl outer) (call (.ref 248) [.ref l]) Q E s := by
  obtain ⟨B, F, X, N, T, hk, hd⟩ := C
  w_on
  revert X; k_fill; intro X
  refine wpAny_call ?_
  ktr_call [(Str.ofString "points", .ref l)] 1
  k_steps
  all_goals (rename RaisedN _ _ _ _ _ _ => kR; exact hret _ _ _ _ (raisedN_sub kR (by intro p hp; repeat (first | exact hp | refine List.mem_cons_of_mem _ ?_))) (by assumption) (by assumption))
end
local macro_rules | `(tactic| walk_at "call ref") => `(tactic| (with_reducible refine atC 248 ?_; k_dflt (refine' r_box _ _ _ _ _ _ _ _ _ _ _ _; keq_rows)))
section
variable {w : World} {dp un : Nat} {gd : Option (List Code)} {cn : Str} {cs : Scope} {ca : Addr} {ccd : Value} {cl : List (Str × Addr)} {A₀ : Around} {outer : List Env} {base h₀ : Heap} {L : Addr} {m : Str → Option Value} {s : Shared} {news : Led} {mean : ExcName → Option Value} {mg mb : Str → Option Value} {Q E : Value → Shared → Prop}
/-- box_of([]): refused -/
theorem r_box0 {l : Addr} {n : Nat} (C : Cx w dp cs outer A₀ base h₀ L m s news mean mg mb 30)
    (ml : (l, listOf [].toArray n) ∈ news)
    (hret : Ret (∀ e h' tk' g₂, RaisedN base (envX cn cs L ca ccd cl :: outer) e (.ref 46) news h' → Fr h₀ L g₂ m → g₂.UpToSlots h' → E (.ref e) { s with heap := h', toks := tk' })) :
    wpAny (model PySem.Challenge.rw_nn0204_01.row.prog w) (ktrTop dp un gd cn cs L ca ccd cl outer) (call (.ref 248) [.ref l]) Q E s := by
  obtain ⟨B, F, X, N, T, hk, hd⟩ := C
  w_on
  revert X; k_fill; intro X
  refine wpAny_call ?_
  ktr_call [(Str.ofString "points", .ref l)] 1
  k_steps
  all_goals (rename RaisedN _ _ _ _ _ _ => kR; exact hret _ _ _ _ (raisedN_sub kR (by intro p hp; repeat (first | exact hp | refine List.mem_cons_of_mem _ ?_))) (by assumption) (by assumption))
end
local macro_rules | `(tactic| walk_at "call ref") => `(tactic| (with_reducible refine atC 248 ?_; k_dflt (refine' r_box0 _ _ _; keq_rows)))
-- P23r5
section
variable {w : World} {dp un : Nat} {gd : Option (List Code)} {cn : Str} {cs : Scope} {ca : Addr} {ccd : Value} {cl : List (Str × Addr)} {A₀ : Around} {outer : List Env} {base h₀ : Heap} {L : Addr} {m : Str → Option Value} {s : Shared} {news : Led} {mean : ExcName → Option Value} {mg mb : Str → Option Value} {Q E : Value → Shared → Prop}

/-- box_from_array([n0, n1, n2, None or False]): refused -/
theorem r_arrV {l x0 x1 x2 : Addr} {w0 w1 w2 : Int} {v : Value} {n k : Nat} (C : Cx w dp cs outer A₀ base h₀ L m s news mean mg mb 40)
    (ml : (l, listOf [.ref x0, .ref x1, .ref x2, v].toArray n) ∈ news) (hk1 : k ≤ 50) (d0 : DecAt w news x0 w0 k) (d1 : DecAt w news x1 w1 k) (d2 : DecAt w news x2 w2 k) (b0 : Ab 62 w0) (b2 : Ab 62 w2) (hv : v = .none ∨ v = .bool false)
    (hret : Ret (∀ e h' tk' g₂, RaisedN base (envX cn cs L ca ccd cl :: outer) e (.ref 46) news h' → Fr h₀ L g₂ m → g₂.UpToSlots h' → E (.ref e) { s with heap := h', toks := tk' })) :
    wpAny (model PySem.Challenge.rw_nn0204_01.row.prog w) (ktrTop dp un gd cn cs L ca ccd cl outer) (call (.ref 255) [.ref l]) Q E s := by
  obtain ⟨B, F, X, N, T, hk, hd⟩ := C
  w_on
  revert X; k_fill; intro X
  refine wpAny_call ?_
  ktr_call [(Str.ofString "values", .ref l)] 1
  k_steps
  all_goals (rename RaisedN _ _ _ _ _ _ => kR; exact hret _ _ _ _ (raisedN_sub kR (by intro p hp; repeat (first | exact hp | refine List.mem_cons_of_mem _ ?_))) (by assumption) (by assumption))
end
local macro_rules | `(tactic| walk_at "call ref") => `(tactic| (with_reducible refine atC 255 ?_; k_dflt (refine' r_arrV _ _ _ _ _ _ _ _ _ _; keq_rows)))
-- P24try
/-- how a def that catches hands back: what its caller's place is, slots aside -/
def LeaveT (h₀ : Heap) (L : Addr) (m : Str → Option Value) (news : Led) (R : Result → Shared → Prop) (v : Value) (s' : Shared) : Prop :=
  ∃ L' m' oL, Fr h₀ L' s'.heap m' ∧ News h₀ L' s'.heap ((L, oL) :: news) ∧ (∀ h : Heap, h.get? L = some oL → h.Ns L m) ∧ (Fr h₀ L s'.heap m → News h₀ L s'.heap news → R (.ok (.ret v)) s')
section
variable {prog : Program} {w : World} {A A₀ : Around} {s : Shared} {h₀ base : Heap} {L : Addr} {m mg mb : Str → Option Value} {news : Led} {p : Program} {loose : List Str} {mean : ExcName → Option Value} {K : Frag}
theorem code_try {env : Env} {outer : List Env} {R : Result → Shared → Prop} {name qual : Str} {params : Arguments} {body : List Stmt} {scope : Scope} {dV kV doc pm cdv ct oc : Value} {an od : Option Addr} {osl : Array (Option Value)} {f : Addr} {args : Args} {binds : List (Str × Value)}
    (B : Below A₀ base outer h₀) (F : Fr h₀ L s.heap m) (X₀ : K.In h₀) (N : News h₀ L s.heap news) (T : Top p loose mean mg mb h₀) (hA : A.frames = some (env :: outer)) (hf : env.frame = some L) (hke : env.scope.kind = .function)
    (ho : K.lookup f = some ⟨oc, od, .func (fnOf name qual params body scope dV kV doc pm an cdv ct), osl⟩) (hcd : codeIn K cdv qual = true) (hroom : A.depth < recursionLimit)
    (hbind : BindsTo s (fnOf name qual params body scope dV kV doc pm an cdv ct) args binds) (hloc : ∀ y ∈ binds, scope.names.lookup y.1 = some .local)
    (h : ∀ g L' h₁, Fr h₀ L g m → Fr g L' h₁ (fun y => binds.reverse.lookup y) → News g L' h₁ news → Below A base (env :: outer) g → K.In g → Top p loose mean mg mb g →
      wpAny (model prog w) (A.deeper (envOf qual scope L' f cdv)) (execs body (envOf qual scope L' f cdv))
        (fun fl s' => LeaveT h₀ L m news R (match fl with | .ret v => v | _ => .none) s')
        (fun e s' => wpAny (model prog w) (A.deeper (envOf qual scope L' f cdv)) (leaving (envOf qual scope L' f cdv) e) (fun _ s'' => R (.error e) s'') (fun e' s'' => R (.error e') s'') s')
        { s with heap := h₁, toks := s.toks + binds.length })
    (hco : scope.isCoroutine = false) (hgen : scope.isGenerator = false) (hk : scope.kind = .function)
    (hcell : ∀ x ∈ scope.names, x.2 ≠ .cell) : codeAny (model prog w) A (.call (.ref f) args) R s := by
  obtain ⟨FG, BG, st, _⟩ := groundX (R := R) B F N hA hf hke
  have X := X₀.keeps F.keep
  refine codeAny_call_def (fd := fnOf name qual params body scope dV kV doc pm an cdv ct) (body := body) (binds := binds) hroom (X _ _ ho) rfl (T.nolimit.keeps F.keep) (codeRec_of X hcd) rfl hbind hcell hloc (fun h₁ hns hk₁ => ?_) hco hgen hk
  refine wpAny_mono (h _ s.heap.objs.size h₁ FG ⟨hns, fun b o e => hk₁ b o (of_hideAll _ e), Nat.le_of_eq (hideAll_size _ _)⟩
    (fun p hp => ⟨hk₁ _ _ (N p hp).1, Nat.ne_of_lt (Heap.lt_size (N p hp).1), hideAll_none _ (List.mem_map_of_mem hp)⟩) BG (X₀.keeps st) (T.keeps st)) (fun fl s' hl => ?_) fun _ _ y => y
  obtain ⟨L', m', oL, F', N', hn, k⟩ := hl
  exact k ⟨hn _ (N' _ (.head _)).1, F'.keep, F.above⟩ fun p hp => ⟨(N' _ (.tail _ hp)).1, (N p hp).2.1, (N p hp).2.2⟩
end
section
variable {prog : Program} {w : World} {A₀ : Around} {E : Value → Shared → Prop} {s' : Shared} {h₀ g G : Heap} {outer : List Env} {L L₀ a e : Addr} {m m₀ : Str → Option Value} {name : Str} {scope : Scope} {cd : Value}
  {b₀ : Stmt} {suite : List Stmt} {pos np : Pos} {rest : List ExceptHandler} {Q : Flow → Shared → Prop} {news : Led} {KF : Frag}
  {p : Program} {loose : List Str} {mg mb : Str → Option Value} {x : Str} {nm q : Str} {N : Addr} {bs bm : List Value} {hdct : Bool} {sn : List Str} {sub : List Value} {ab : Bool} {col : Option Bool} {dd : Option Addr} {k0 k1 k2 k3 k5 : Option Value} {newId : String}
theorem caught_P0 (hst : A₀.frames = some outer) (FG : Fr h₀ L₀ g m₀) (F : Fr g L G m) (hsm : G.UpToSlots s'.heap) (R : RaisedN h₀ (envOf name scope L a cd :: outer) e (.ref 46) news s'.heap)
    (X : KF.In h₀) (T : TopRead p loose mg mb h₀) (ex : nsIn KF mainGlobals x = some (some (.ref 46))) (l46 : KF.lookup 46 = some (excClassObj nm q 46 N bs bm hdct sn sub ab col dd k0 k1 k2 k3 k5 newId)) (hbase : bm.contains (.type "BaseException") = true)
    (k : ∀ h' oL, Fr h₀ L h' m → News h₀ L h' ((L₀, oL) :: news) → (∀ h : Heap, h.get? L₀ = some oL → h.Ns L₀ m₀) →
      wpAny (model prog w) ((A₀.deeper (envOf name scope L a cd)).mark (some (.ref e))) (execs (b₀ :: suite) (envOf name scope L a cd)) Q E { s' with heap := h' })
    (hk : scope.kind = .function := by rfl) (hx : (envOf name scope L a cd).kindOf x = some .globalImplicit := by rfl) (hd : (x == ("__debug__" : Str)) = false := by decide)
    (hE : PassesOwnAt (model prog w) ((A₀.deeper (envOf name scope L a cd)).mark (some (.ref e))) (A₀.deeper (envOf name scope L a cd)) (envOf name scope L a cd) E := by passes_own) :
    wpAny (model prog w) (A₀.deeper (envOf name scope L a cd)) (noteFrame (.ref e) (envOf name scope L a cd))
      (fun _ s₂ => wpAny (model prog w) (A₀.deeper (envOf name scope L a cd)) (setFlight (.ref e) none) (fun _ s₃ =>
        wpAny (model prog w) (A₀.deeper (envOf name scope L a cd)) (handleBy (.ref e) (envOf name scope L a cd) (.ExceptHandler (some (.Name x np)) none (b₀ :: suite) pos :: rest)) Q E s₃) E s₂) E s' := by
  obtain ⟨B, a0, hB, hl, hfl⟩ := R
  have hL : B.get? L = none := by
    obtain ⟨_, ⟨L', _, hf, hn', _⟩, _⟩ := hfl.2.2.1
    obtain rfl : L = L' := Option.some.inj hf
    exact hn'
  obtain ⟨oL, es, ep, hoL, hLd, hLk, hLf⟩ := id FG.ns
  have hlt := Heap.lt_size hoL
  have hgL := F.above
  have Fh : Fr h₀ L G m := ⟨F.ns, fun b o e => F.keep b o (FG.keep b o e), Nat.le_trans FG.above (Nat.le_trans (Nat.le_of_lt hlt) hgL)⟩
  refine wpAny_looks_onW (Around.frames_deeper hst) rfl hfl fun h₄ hheld₄ hsm₄ => ?_
  refine wpAny_landsW hheld₄ fun h₅ hheld hsm₅' => ?_
  have hsm₅ := hsm₄.trans hsm₅'
  have hheld' := flyingW_base hB hheld
  have F₅ := Fh.of_stays hheld'.1 (hsm.trans hsm₅)
  obtain ⟨ob, hob, hobc⟩ := hheld'.there
  refine wpAny_handleBy_cons (codeAny_handlers_test (name_K F₅ X T ex ?_ hk hx hd)) (by intro q; cases q)
  refine wpAny_excMatches_sub_self (F₅.keep _ _ (X _ _ l46)) hob hobc hbase (codeAny_handlers_suite ?_)
  refine lands_againW hheld fun h₆ hfl₆ hsm₆ => ?_
  have F₆ := Fh.of_stays (flyingW_base hB hfl₆).1 ((hsm.trans hsm₅).trans hsm₆)
  obtain ⟨sl, hs⟩ := ((hsm.trans hsm₅).trans hsm₆) _ _ (F.keep _ _ hoL) (fun vs q => by rw [hLd] at q; cases q)
  refine wpAny_passesOwnAt hE (k h₆ { oL with slots := sl } F₆ (fun q hq => ?_) fun h e => ⟨_, es, ep, e, hLd, hLk, hLf⟩)
  rcases List.mem_cons.mp hq with rfl | hq
  · exact ⟨hs, Nat.ne_of_lt (Nat.lt_of_lt_of_le hlt hgL), Heap.get?_none_of_le FG.above⟩
  · exact ⟨hfl₆.1 _ _ (hl q hq).1, (fun z => by have := (hl q hq).1; rw [z, hL] at this; cases this), (hl q hq).2⟩
end
-- P25ref
local macro_rules | `(tactic| ktr_call $b:term 6) => `(tactic| k_dflt (
  refine' code_try (binds := $b) ?k1 ?k2 ?k3 ?k4 ?k5 ?kA ?kF ?kK ?k6 ?k7 ?k8 ?k9 ?kB ?_ ?c2 ?c3 ?c4 ?c5; (case kA => first | exact rfl | assumption); (case kF => first | exact rfl | assumption); (case kK => first | exact rfl | assumption); (case k1 => k_asm); (case k2 => k_asm); (case k3 => k_asm); (case k4 => k_asm); (case k5 => k_asm); (case k6 => k_is); (case k7 => k_is); (case k8 => ktr_room); (case k9 => exact BindsTo.of_eq rfl); (case c5 => decide); (case kB => exact locs rfl); (case c2 => exact rfl); (case c3 => exact rfl); (case c4 => exact rfl); k_whole; intro g' L' h' FG' F' N' B' X' T'; (try dsimp only); (try k_fold)))
local macro_rules | `(tactic| walk_at "noteFrame ref") => `(tactic| (k_here; k_dflt (refine' caught_P0 ?st ?FG ?F ?U ?R ?X ?T ?ex ?l ?b ?_; (case st => exact Below.stack (by assumption)); (case R => assumption); (case F => assumption); (case FG => assumption); (case U => assumption); (case X => assumption); (case T => k_asm); (case ex => k_is); (case l => k_is); (case b => decide)); intro h' oL' F' N' hL'; (try k_sweep)))
local macro_rules | `(tactic| walk_at "LeaveT") => `(tactic| (refine ⟨_, _, _, by assumption, by assumption, by assumption, ?_⟩; intro kF kN))
local macro_rules | `(tactic| walk_at "call ref") => `(tactic| (with_reducible refine atC 255 ?_; k_dflt (refine' r_arrL _ _ _ _ _; keq_rows)))
section
variable {w : World} {dp un : Nat} {gd : Option (List Code)} {cn : Str} {cs : Scope} {ca : Addr} {ccd : Value} {cl : List (Str × Addr)} {A₀ : Around} {outer : List Env} {base h₀ : Heap} {L : Addr} {m : Str → Option Value} {s : Shared} {news : Led} {mean : ExcName → Option Value} {mg mb : Str → Option Value} {Q E : Value → Shared → Prop}

/-- _law_is_refused(1, None) -/
theorem c_refN {tw : Tok} (C : Cx w dp cs [] A₀ h₀ h₀ L m s news mean mg mb 60)
    (hret : Ret (∀ h' tk', Fr h₀ L h' m → News h₀ L h' news → Q (.bool true) { s with heap := h', toks := tk' })) :
    wpAny (model PySem.Challenge.rw_nn0204_01.row.prog w) (ktrTop dp un gd cn cs L ca ccd cl []) (call (.ref 357) [.int 1 tw, .none]) Q E s := by
  obtain ⟨B, F, X, N, T, hk, hd⟩ := C
  w_on
  revert X; k_fill; intro X
  refine wpAny_call ?_
  ktr_call [(Str.ofString "way", .int 1 tw), (Str.ofString "values", .none)] 6
  k_steps
  all_goals exact hret _ _ (by assumption) (by assumption)
end
local macro_rules | `(tactic| walk_at "call ref") => `(tactic| ((with_reducible show wpAny _ _ (call (Value.ref 357) [Value.int 1 _, Value.none]) _ _ _); k_dflt (refine' c_refN _ _; keq_rows)))
section
variable {w : World} {dp un : Nat} {gd : Option (List Code)} {cn : Str} {cs : Scope} {ca : Addr} {ccd : Value} {cl : List (Str × Addr)} {A₀ : Around} {outer : List Env} {base h₀ : Heap} {L : Addr} {m : Str → Option Value} {s : Shared} {news : Led} {mean : ExcName → Option Value} {mg mb : Str → Option Value} {Q E : Value → Shared → Prop}
/-- _law_is_refused(1, a list of another length) -/
theorem c_refL {l : Addr} {tw : Tok} {n : Nat} {vs : List Value} (C : Cx w dp cs [] A₀ h₀ h₀ L m s news mean mg mb 60)
    (ml : (l, listOf vs.toArray n) ∈ news) (hl : vs.length ≠ 4) (hz : vs.length < 1000)
    (hret : Ret (∀ h' tk', Fr h₀ L h' m → News h₀ L h' news → Q (.bool true) { s with heap := h', toks := tk' })) :
    wpAny (model PySem.Challenge.rw_nn0204_01.row.prog w) (ktrTop dp un gd cn cs L ca ccd cl []) (call (.ref 357) [.int 1 tw, .ref l]) Q E s := by
  obtain ⟨B, F, X, N, T, hk, hd⟩ := C
  w_on
  revert X; k_fill; intro X
  refine wpAny_call ?_
  ktr_call [(Str.ofString "way", .int 1 tw), (Str.ofString "values", .ref l)] 6
  k_steps
  all_goals exact hret _ _ (by assumption) (by assumption)
end
local macro_rules | `(tactic| walk_at "call ref") => `(tactic| ((with_reducible show wpAny _ _ (call (Value.ref 357) [Value.int 1 _, _]) _ _ _); k_dflt (refine' c_refL _ _ _ _ _; keq_rows)))
section
variable {w : World} {dp un : Nat} {gd : Option (List Code)} {cn : Str} {cs : Scope} {ca : Addr} {ccd : Value} {cl : List (Str × Addr)} {A₀ : Around} {outer : List Env} {base h₀ : Heap} {L : Addr} {m : Str → Option Value} {s : Shared} {news : Led} {mean : ExcName → Option Value} {mg mb : Str → Option Value} {Q E : Value → Shared → Prop}
/-- _law_is_refused(1, a tuple) -/
theorem c_refT {l : Addr} {tw : Tok} {vs : List Value} (C : Cx w dp cs [] A₀ h₀ h₀ L m s news mean mg mb 60)
    (ml : (l, tup vs) ∈ news)
    (hret : Ret (∀ h' tk', Fr h₀ L h' m → News h₀ L h' news → Q (.bool true) { s with heap := h', toks := tk' })) :
    wpAny (model PySem.Challenge.rw_nn0204_01.row.prog w) (ktrTop dp un gd cn cs L ca ccd cl []) (call (.ref 357) [.int 1 tw, .ref l]) Q E s := by
  obtain ⟨B, F, X, N, T, hk, hd⟩ := C
  w_on
  revert X; k_fill; intro X
  refine wpAny_call ?_
  ktr_call [(Str.ofString "way", .int 1 tw), (Str.ofString "values", .ref l)] 6
  k_steps
  all_goals exact hret _ _ (by assumption) (by assumption)
end
local macro_rules | `(tactic| walk_at "call ref") => `(tactic| ((with_reducible show wpAny _ _ (call (Value.ref 357) [Value.int 1 _, _]) _ _ _); k_dflt (refine' c_refT _ _ _; keq_rows)))
section
variable {w : World} {dp un : Nat} {gd : Option (List Code)} {cn : Str} {cs : Scope} {ca : Addr} {ccd : Value} {cl : List (Str × Addr)} {A₀ : Around} {outer : List Env} {base h₀ : Heap} {L : Addr} {m : Str → Option Value} {s : Shared} {news : Led} {mean : ExcName → Option Value} {mg mb : Str → Option Value} {Q E : Value → Shared → Prop}
/-- _law_is_refused(1, [n0, n1, n2, None or False]) -/
theorem c_refV {l x0 x1 x2 : Addr} {tw : Tok} {w0 w1 w2 : Int} {v : Value} {n k : Nat} (C : Cx w dp cs [] A₀ h₀ h₀ L m s news mean mg mb 60)
    (ml : (l, listOf [.ref x0, .ref x1, .ref x2, v].toArray n) ∈ news) (hk1 : k ≤ 50) (d0 : DecAt w news x0 w0 k) (d1 : DecAt w news x1 w1 k) (d2 : DecAt w news x2 w2 k) (b0 : Ab 62 w0) (b2 : Ab 62 w2) (hv : v = .none ∨ v = .bool false)
    (hret : Ret (∀ h' tk', Fr h₀ L h' m → News h₀ L h' news → Q (.bool true) { s with heap := h', toks := tk' })) :
    wpAny (model PySem.Challenge.rw_nn0204_01.row.prog w) (ktrTop dp un gd cn cs L ca ccd cl []) (call (.ref 357) [.int 1 tw, .ref l]) Q E s := by
  obtain ⟨B, F, X, N, T, hk, hd⟩ := C
  w_on
  revert X; k_fill; intro X
  refine wpAny_call ?_
  ktr_call [(Str.ofString "way", .int 1 tw), (Str.ofString "values", .ref l)] 6
  k_steps
  all_goals exact hret _ _ (by assumption) (by assumption)
end
local macro_rules | `(tactic| walk_at "call ref") => `(tactic| ((with_reducible show wpAny _ _ (call (Value.ref 357) [Value.int 1 _, _]) _ _ _); k_dflt (refine' c_refV _ _ _ _ _ _ _ _ _ _; keq_rows)))
section
variable {w : World} {dp un : Nat} {gd : Option (List Code)} {cn : Str} {cs : Scope} {ca : Addr} {ccd : Value} {cl : List (Str × Addr)} {A₀ : Around} {outer : List Env} {base h₀ : Heap} {L : Addr} {m : Str → Option Value} {s : Shared} {news : Led} {mean : ExcName → Option Value} {mg mb : Str → Option Value} {Q E : Value → Shared → Prop}
/-- _law_is_refused(0, []) -/
theorem c_ref0 {l : Addr} {tw : Tok} {n : Nat} (C : Cx w dp cs [] A₀ h₀ h₀ L m s news mean mg mb 60)
    (ml : (l, listOf [].toArray n) ∈ news)
    (hret : Ret (∀ h' tk', Fr h₀ L h' m → News h₀ L h' news → Q (.bool true) { s with heap := h', toks := tk' })) :
    wpAny (model PySem.Challenge.rw_nn0204_01.row.prog w) (ktrTop dp un gd cn cs L ca ccd cl []) (call (.ref 357) [.int 0 tw, .ref l]) Q E s := by
  obtain ⟨B, F, X, N, T, hk, hd⟩ := C
  w_on
  revert X; k_fill; intro X
  refine wpAny_call ?_
  ktr_call [(Str.ofString "way", .int 0 tw), (Str.ofString "values", .ref l)] 6
  k_steps
  all_goals exact hret _ _ (by assumption) (by assumption)
end
local macro_rules | `(tactic| walk_at "call ref") => `(tactic| ((with_reducible show wpAny _ _ (call (Value.ref 357) [Value.int 0 _, _]) _ _ _); k_dflt (refine' c_ref0 _ _ _; keq_rows)))
end
-- P20pre
theorem Sub.mem {a b : Led} {p : Addr × Obj} (s : Sub a b) (h : p ∈ a) : p ∈ b := s p h
theorem DecAt.sub {w : World} {a b : Led} {x : Addr} {v : Int} {k : Nat} (s : Sub a b) (h : DecAt w a x v k) : DecAt w b x v k := h.mono s
theorem MatAt.sub {w : World} {a b : Led} {M : Addr} {wa wb wc wd we wf : Int} {k : Nat} (s : Sub a b) (h : MatAt w a M wa wb wc wd we wf k) : MatAt w b M wa wb wc wd we wf k := h.mono s
theorem CellsAt.sub {a b : Led} {x : Addr} (s : Sub a b) (h : CellsAt a x) : CellsAt b x := h.mono s
section
variable {prog : Program} {w : World} {A : Around} {E : Value → Shared → Prop} {s : Shared} {h₀ : Heap} {L : Addr} {m : Str → Option Value} {news : Led} {a b : Int} {t u : Tok} {Q : Value → Shared → Prop}
theorem max2 (hh : A.handled = none) (F : Fr h₀ L s.heap m) (N : News h₀ L s.heap news) (h : Ret (∀ t h' tk, Fr h₀ L h' m → News h₀ L h' news → Q (.int (max a b) t) { s with heap := h', toks := tk })) : wpAny (model prog w) A (call (.builtin "max") [.int a t, .int b u]) Q E s :=
  max_two_N hh F N fun h' tk F' N' => by rw [ifmax]; exact h _ h' tk F' N'
theorem min2 (hh : A.handled = none) (F : Fr h₀ L s.heap m) (N : News h₀ L s.heap news) (h : Ret (∀ t h' tk, Fr h₀ L h' m → News h₀ L h' news → Q (.int (min a b) t) { s with heap := h', toks := tk })) : wpAny (model prog w) A (call (.builtin "min") [.int a t, .int b u]) Q E s :=
  min_two_N hh F N fun h' tk F' N' => by rw [ifmin]; exact h _ h' tk F' N'
end
local macro_rules | `(tactic| kas_types) => `(tactic| (refine Sub.mem (by with_reducible assumption) ?_; kas_types))
local macro_rules | `(tactic| kas_types) => `(tactic| (with_reducible apply DecAt.sub; (with_reducible assumption); kas_types))
local macro_rules | `(tactic| kas_types) => `(tactic| (with_reducible apply MatAt.sub; (with_reducible assumption); kas_types))
local macro_rules | `(tactic| kas_types) => `(tactic| (with_reducible apply CellsAt.sub; (with_reducible assumption); kas_types))
local macro_rules | `(tactic| kas_types) => `(tactic| (with_reducible assumption))
local macro_rules | `(tactic| walk_at "call builtin:max") => `(tactic| ((with_reducible show wpAny _ _ (call (Value.builtin _) [Value.int _ _, Value.int _ _]) _ _ _); k_dflt (refine' max2 _ _ _ _; keq_rows)))
local macro_rules | `(tactic| walk_at "call builtin:min") => `(tactic| ((with_reducible show wpAny _ _ (call (Value.builtin _) [Value.int _ _, Value.int _ _]) _ _ _); k_dflt (refine' min2 _ _ _ _; keq_rows)))
local macro_rules | `(tactic| walk_at "call ref") => `(tactic| (with_reducible refine atC 288 ?_; k_dflt (refine' c_common _ _ _ _ _ _ _ _ _ _ _ _ _ _ _ _ _ _ _ _ _ _; keq_rows)))
-- P20sh
section
variable {w : World} {dp un : Nat} {gd : Option (List Code)} {cn : Str} {cs : Scope} {ca : Addr} {ccd : Value} {cl : List (Str × Addr)} {A₀ : Around} {outer : List Env} {base h₀ : Heap} {L : Addr} {m : Str → Option Value} {s : Shared} {news : Led} {mean : ExcName → Option Value} {mg mb : Str → Option Value} {Q E : Value → Shared → Prop}

/-- _law_shared_told(one, two, sides, others) -/
theorem c_shared {f g sd ot a b c d a2 b2 c2 d2 : Addr} {wa wb wc wd va vb vc vd : Int} {u0 u1 u2 u3 u4 u5 u6 u7 : Tok} (C : Cx w dp cs outer A₀ base h₀ L m s news mean mg mb 40)
    (mf : (f, tup [.ref a, .ref b, .ref c, .ref d]) ∈ news) (mg' : (g, tup [.ref a2, .ref b2, .ref c2, .ref d2]) ∈ news)
    (ms : (sd, tup [.int wa u0, .int wb u1, .int wc u2, .int wd u3]) ∈ news) (mo : (ot, tup [.int va u4, .int vb u5, .int vc u6, .int vd u7]) ∈ news) (hun : un + 500 < cLine)
    (ma : DecAt w news a wa 2) (mb' : DecAt w news b wb 2) (mc : DecAt w news c wc 2) (md : DecAt w news d wd 2) (na : DecAt w news a2 va 2) (nb : DecAt w news b2 vb 2) (nc : DecAt w news c2 vc 2) (nd : DecAt w news d2 vd 2)
    (e0 : Ab 62 wa) (e1 : Ab 62 wb) (e2 : Ab 62 wc) (e3 : Ab 62 wd) (e4 : Ab 62 va) (e5 : Ab 62 vb) (e6 : Ab 62 vc) (e7 : Ab 62 vd)
    (hret : Ret (∀ h' tk' news', Fr h₀ L h' m → News h₀ L h' news' → Sub news news' → Q (.bool true) { s with heap := h', toks := tk' })) :
    wpAny (model PySem.Challenge.rw_nn0204_01.row.prog w) (ktrTop dp un gd cn cs L ca ccd cl outer) (call (.ref 364) [.ref f, .ref g, .ref sd, .ref ot]) Q E s := by
  obtain ⟨B, F, X, N, T, hk, hd⟩ := C
  w_on
  revert X; k_fill; intro X
  refine wpAny_call ?_
  ktr_call [(Str.ofString "one", .ref f), (Str.ofString "two", .ref g), (Str.ofString "sides", .ref sd), (Str.ofString "others", .ref ot)] 1
  k_steps
  all_goals exact hret _ _ _ (by assumption) (by assumption) (by intro p hp; first | exact .tail _ hp | exact .tail _ (Sub.mem (by assumption) hp))
end
local macro_rules | `(tactic| walk_at "call ref") => `(tactic| (with_reducible refine atC 364 ?_; k_dflt (refine' c_shared _ _ _ _ _ _ _ _ _ _ _ _ _ _ _ _ _ _ _ _ _ _ _; keq_rows)))
-- P26u
theorem off1_of {D : Addr} : ∀ {l : Led}, (∀ p ∈ l, p.1 ≠ D) → LCg.Off1 D l
  | [], _ => trivial
  | _ :: _, h => ⟨h _ (.head _), off1_of fun p hp => h p (.tail _ hp)⟩
local macro_rules | `(tactic| ktr_room) => `(tactic| ((try simp only [depth_under_make, depth_under_kw, depth_in1, depth_deeper, depth_caller]); (try dsimp only [ktrTop]); first | omega | decide))
local macro_rules | `(tactic| units_room) => `(tactic| ((try simp only [units_under_make, units_in1, units_deeper, Around.mark_units, units_caller]); (try dsimp only [ktrTop]); first | omega | decide))
section
variable {w : World} {dp un : Nat} {gd : Option (List Code)} {cn : Str} {cs : Scope} {ca : Addr} {ccd : Value} {cl : List (Str × Addr)} {A₀ : Around} {outer : List Env} {base h₀ : Heap} {L : Addr} {m : Str → Option Value} {s : Shared} {news : Led} {mean : ExcName → Option Value} {mg mb : Str → Option Value} {Q E : Value → Shared → Prop}

/-- frame, wherever the pen stands -/
theorem c_frameU {P cl1 : Addr} {n : Nat} {b : Int} {o : Obj} {f : Obj → Led} (C : Cx w dp cs outer A₀ base h₀ L m s news mean mg mb 20)
    (U : UpdF P o news f) (hp : PenAt cl1 n b o) (mc : CellsAt news cl1) (hun : un + 400 < cLine) (hb : b ≤ 80000)
    (hret : Ret (∀ l n' a0 a1 a2 a3 t0 t1 t2 t3 o' h' tk', Ab 10 a0 → Ab 10 a1 → Ab 10 a2 → Ab 10 a3 → PenAt cl1 n (b + 10) o' → Fr h₀ L h' m → News h₀ L h' ((l, listOf [.int a0 t0, .int a1 t1, .int a2 t2, .int a3 t3].toArray n') :: f o') → LCg.Off1 l (f o') → Q (.ref l) { s with heap := h', toks := tk' })) :
    wpAny (model PySem.Challenge.rw_nn0204_01.row.prog w) (ktrTop dp un gd cn cs L ca ccd cl outer) (call (.ref 331) [.ref P]) Q E s := by
  obtain ⟨nw, hg1, hg2, hne⟩ := updF_parts U
  obtain ⟨B, F, X, N, T, hk, hd⟩ := C
  refine c_frame (nw := nw) ⟨B, F, X, cb_drop N hg1, T, hk, hd⟩ rfl hne hp (cells_off hp mc U hg1 hg2) hun hb ?_
  intro l n' a0 a1 a2 a3 t0 t1 t2 t3 o' h' tk' b0 b1 b2 b3 hp' F' N' hPl hal
  refine hret l n' a0 a1 a2 a3 t0 t1 t2 t3 o' h' tk' b0 b1 b2 b3 hp' F' (cb_drop N' fun p hp => ?_) (off1_of fun p hp => ?_)
  · rcases List.mem_cons.mp hp with rfl | hp
    · exact .head _
    · exact .tail _ ((hg2 o').1 p hp)
  · rcases List.mem_cons.mp ((hg2 o').1 p hp) with rfl | hp
    · exact hPl
    · exact hal p hp
end
local macro_rules | `(tactic| walk_at "call ref") => `(tactic| (with_reducible refine atC 331 ?_; k_dflt (refine' c_frameU _ _ _ _ _ _ _; keq_hits)))
section
variable {w : World} {dp un : Nat} {gd : Option (List Code)} {cn : Str} {cs : Scope} {ca : Addr} {ccd : Value} {cl : List (Str × Addr)} {A₀ : Around} {outer : List Env} {base h₀ : Heap} {L : Addr} {m : Str → Option Value} {s : Shared} {news : Led} {mean : ExcName → Option Value} {mg mb : Str → Option Value} {Q E : Value → Shared → Prop}
/-- six, wherever the pen stands -/
theorem c_sixU {P cl1 : Addr} {n : Nat} {b : Int} {o : Obj} {f : Obj → Led} (C : Cx w dp cs outer A₀ base h₀ L m s news mean mg mb 20)
    (U : UpdF P o news f) (hp : PenAt cl1 n b o) (mc : CellsAt news cl1) (hun : un + 400 < cLine) (hb : b ≤ 80000)
    (hret : Ret (∀ l n' a0 a1 a2 a3 a4 a5 t0 t1 t2 t3 t4 t5 o' h' tk', Ab 20 a0 → Ab 20 a1 → Ab 20 a2 → Ab 20 a3 → Ab 20 a4 → Ab 20 a5 → PenAt cl1 n (b + 60) o' → Fr h₀ L h' m → News h₀ L h' ((l, listOf [.int a0 t0, .int a1 t1, .int a2 t2, .int a3 t3, .int a4 t4, .int a5 t5].toArray n') :: f o') → LCg.Off1 l (f o') → Q (.ref l) { s with heap := h', toks := tk' })) :
    wpAny (model PySem.Challenge.rw_nn0204_01.row.prog w) (ktrTop dp un gd cn cs L ca ccd cl outer) (call (.ref 312) [.ref P]) Q E s := by
  obtain ⟨nw, hg1, hg2, hne⟩ := updF_parts U
  obtain ⟨B, F, X, N, T, hk, hd⟩ := C
  refine c_six (nw := nw) ⟨B, F, X, cb_drop N hg1, T, hk, hd⟩ rfl hne hp (cells_off hp mc U hg1 hg2) hun hb ?_
  intro l n' a0 a1 a2 a3 a4 a5 t0 t1 t2 t3 t4 t5 o' h' tk' b0 b1 b2 b3 b4 b5 hp' F' N' hPl hal
  refine hret l n' a0 a1 a2 a3 a4 a5 t0 t1 t2 t3 t4 t5 o' h' tk' b0 b1 b2 b3 b4 b5 hp' F' (cb_drop N' fun p hp => ?_) (off1_of fun p hp => ?_)
  · rcases List.mem_cons.mp hp with rfl | hp
    · exact .head _
    · exact .tail _ ((hg2 o').1 p hp)
  · rcases List.mem_cons.mp ((hg2 o').1 p hp) with rfl | hp
    · exact hPl
    · exact hal p hp
end
local macro_rules | `(tactic| walk_at "call ref") => `(tactic| (with_reducible refine atC 312 ?_; k_dflt (refine' c_sixU _ _ _ _ _ _ _; keq_hits)))
-- P26p
section
variable {w : World} {dp un : Nat} {gd : Option (List Code)} {cn : Str} {cs : Scope} {ca : Addr} {ccd : Value} {cl : List (Str × Addr)} {A₀ : Around} {outer : List Env} {base h₀ : Heap} {L : Addr} {m : Str → Option Value} {s : Shared} {news : Led} {mean : ExcName → Option Value} {mg mb : Str → Option Value} {Q E : Value → Shared → Prop}

/-- _law_pen(script) -/
theorem c_pen2 {a : Addr} {vs : List Value} {ns : List Int} (C : Cx w dp cs outer A₀ base h₀ L m s news mean mg mb 6)
    (hL : base.IsList a vs.toArray) (hI : IntsAre vs ns) (hlen : ns.length ≤ 63)
    (hret : Ret (∀ P cl1 co o h' tk', Fr h₀ L h' m → News h₀ L h' ((P, o) :: (cl1, co) :: news) → PenAt cl1 0 0 o → CellsAt ((cl1, co) :: news) cl1 → AllLt P news → (@LT.lt Nat _ cl1 P) → LCg.Off1 cl1 news → Q (.ref P) { s with heap := h', toks := tk' })) :
    wpAny (model PySem.Challenge.rw_nn0204_01.row.prog w) (ktrTop dp un gd cn cs L ca ccd cl outer) (call (.ref 293) [.ref a]) Q E s := by
  have hvl := ints_len hI
  have hz : vs.length < 1000 := by omega
  obtain ⟨B, F, X, N, T, hk, hd⟩ := C
  w_on
  revert X; k_fill; intro X
  refine wpAny_call ?_
  ktr_call [(Str.ofString "script", .ref a)] 3
  k_steps
  rename_i D1 ws h1 F1 N1 l1 hIw hCw hLw g1
  have hwl := ints_len hIw
  have hsz : ws.toArray.size ≤ 63 := by rw [List.size_toArray]; omega
  refine compRest_ind (fun i ys nx => (D1, listOf ws.toArray 0) :: news = nx ∧ ∃ zs, IntsAre ys zs ∧ zs.length = i) ?_ ?_ _ 0 [] _ (Nat.zero_add _) ⟨rfl, [], .nil, rfl⟩
  · rintro i ys nx v I oI C oC D m₂ h tk E' hi hP ⟨rfl, zs, hz1, hz2⟩ hC hx F2 N2 off ne
    obtain ⟨c, t, hc⟩ := ints_at hIw i (by rw [List.size_toArray] at hi; exact hi)
    rw [List.getElem?_toArray, hc] at hP
    obtain rfl := Option.some.inj hP
    k_steps
    · exact ints_snoc hz1 _ _
    · rw [List.length_append, hz2]; rfl
  rintro ys nx ⟨rfl, zs, hz1, hz2⟩
  k_steps
  rename News h₀ L _ _ => kN
  rename _ ∧ _ ∧ AllLt _ _ => lq
  rename _ ∧ LCg.Off1 _ _ => oq
  exact hret _ _ _ _ _ _ (by assumption) (news_d2 kN) ⟨0, 0, _, _, rfl, by decide, by decide, by decide⟩ ⟨ys, zs, _, .head _, hz1, by omega⟩ lq.2.2 lq.1 oq.2
end
local macro_rules | `(tactic| walk_at "call ref") => `(tactic| (with_reducible refine atC 293 ?_; k_dflt (refine' c_pen2 _ _ _ _ _; keq_rows)))
-- P27inf
/-- the law's own text, read off the row -/
def lawDef : Option (List Stmt × Scope) := match PySem.Challenge.pw_nn0204_01.main.body.getLast? with
  | some (.FunctionDef _ _ b _ _ _ sc _ _ _) => some (b, sc)
  | _ => none
def lawStmts : List Stmt := match lawDef with | some p => p.1 | none => []
def lawScope : Scope := match lawDef with | some p => p.2 | none => { kind := .module, names := [], isGenerator := false, isCoroutine := false }
theorem Fr_named {h₀ h : Heap} {L : Addr} {m : Str → Option Value} {x : Str} {v : Value} (F : Fr h₀ L h m) (hx : m x = some v) : Fr h₀ L h (fun y => if y = x then some v else m y) := by
  have e : (fun y => if y = x then some v else m y) = m := by
    funext y
    split
    · rename_i q; rw [q, hx]
    · rfl
  rw [e]; exact F
/-- the values of the law's state -/
structure LD where
  (P cl six ln fr sd se ot M n0 n1 n2 n3 fa fb fc fd ga gb gc gd : Addr)
  (a0 a1 a2 a3 a4 a5 f0 f1 f2 f3 g0 g1 g2 g3 : Int)
/-- what the ledger holds of them -/
structure LF (w : World) (L : Addr) (d : LD) (news : Led) : Prop where
  cells : CellsAt news d.cl
  six : ∃ t0 t1 t2 t3 t4 t5 n, (d.six, listOf [.int d.a0 t0, .int d.a1 t1, .int d.a2 t2, .int d.a3 t3, .int d.a4 t4, .int d.a5 t5].toArray n) ∈ news
  cell : ∃ o, (L + 1, o) ∈ news ∧ o.data = .cell (some (.ref d.six))
  mat : MatAt w news d.M d.a0 d.a1 d.a2 d.a3 d.a4 d.a5 2
  nums : ∃ n, (d.ln, listOf [.ref d.n0, .ref d.n1, .ref d.n2, .ref d.n3].toArray n) ∈ news
  num0 : DecAt w news d.n0 d.f0 2
  num1 : DecAt w news d.n1 d.f1 2
  num2 : DecAt w news d.n2 d.f2 2
  num3 : DecAt w news d.n3 d.f3 2
  frame : (d.fr, tup [.ref d.fa, .ref d.fb, .ref d.fc, .ref d.fd]) ∈ news
  fa : DecAt w news d.fa (min d.f0 d.f2) 2
  fb : DecAt w news d.fb (min d.f1 d.f3) 2
  fc : DecAt w news d.fc (max d.f0 d.f2) 2
  fd : DecAt w news d.fd (max d.f1 d.f3) 2
  sides : ∃ u0 u1 u2 u3, (d.sd, tup [.int (min d.f0 d.f2) u0, .int (min d.f1 d.f3) u1, .int (max d.f0 d.f2) u2, .int (max d.f1 d.f3) u3]) ∈ news
  second : (d.se, tup [.ref d.ga, .ref d.gb, .ref d.gc, .ref d.gd]) ∈ news
  ga : DecAt w news d.ga (min d.g0 d.g2) 2
  gb : DecAt w news d.gb (min d.g1 d.g3) 2
  gc : DecAt w news d.gc (max d.g0 d.g2) 2
  gd : DecAt w news d.gd (max d.g1 d.g3) 2
  others : ∃ u0 u1 u2 u3, (d.ot, tup [.int (min d.g0 d.g2) u0, .int (min d.g1 d.g3) u1, .int (max d.g0 d.g2) u2, .int (max d.g1 d.g3) u3]) ∈ news
theorem LF.mono {w : World} {L : Addr} {d : LD} {news news' : Led} (x : LF w L d news) (s : Sub news news') : LF w L d news' where
  cells := x.cells.mono s
  six := let ⟨t0, t1, t2, t3, t4, t5, n, h⟩ := x.six; ⟨t0, t1, t2, t3, t4, t5, n, s _ h⟩
  cell := let ⟨o, h, e⟩ := x.cell; ⟨o, s _ h, e⟩
  mat := x.mat.mono s
  nums := let ⟨n, h⟩ := x.nums; ⟨n, s _ h⟩
  num0 := x.num0.mono s
  num1 := x.num1.mono s
  num2 := x.num2.mono s
  num3 := x.num3.mono s
  frame := s _ x.frame
  fa := x.fa.mono s
  fb := x.fb.mono s
  fc := x.fc.mono s
  fd := x.fd.mono s
  sides := let ⟨u0, u1, u2, u3, h⟩ := x.sides; ⟨u0, u1, u2, u3, s _ h⟩
  second := s _ x.second
  ga := x.ga.mono s
  gb := x.gb.mono s
  gc := x.gc.mono s
  gd := x.gd.mono s
  others := let ⟨u0, u1, u2, u3, h⟩ := x.others; ⟨u0, u1, u2, u3, s _ h⟩
/-- the bounds of the numbers -/
structure LB (d : LD) : Prop where
  (a0 : Ab 20 d.a0) (a1 : Ab 20 d.a1) (a2 : Ab 20 d.a2) (a3 : Ab 20 d.a3) (a4 : Ab 20 d.a4) (a5 : Ab 20 d.a5)
  (f0 : Ab 10 d.f0) (f1 : Ab 10 d.f1) (f2 : Ab 10 d.f2) (f3 : Ab 10 d.f3) (g0 : Ab 10 d.g0) (g1 : Ab 10 d.g1) (g2 : Ab 10 d.g2) (g3 : Ab 10 d.g3)
/-- the law's locals -/
structure LM (d : LD) (m : Str → Option Value) : Prop where
  pen : m (Str.ofString "pen") = some (.ref d.P)
  m_ : m (Str.ofString "m") = some (.ref d.M)
  numbers : m (Str.ofString "numbers") = some (.ref d.ln)
  frame : m (Str.ofString "frame") = some (.ref d.fr)
  sides : m (Str.ofString "sides") = some (.ref d.sd)
  second : m (Str.ofString "second") = some (.ref d.se)
  others : m (Str.ofString "others") = some (.ref d.ot)
-- P28c1
section
variable {w : World} {fa : Addr} {cdA : Value} {h₀ : Heap} {L : Addr} {m : Str → Option Value} {s : Shared} {mean : ExcName → Option Value} {mg mb : Str → Option Value} {Q : Flow → Shared → Prop} {E : Value → Shared → Prop}
theorem law_c1a {a : Addr} {vs : List Value} {ns : List Int} {oc : Obj} {v₀ : Option Value} (B : Below callerA h₀ [] h₀) (F : Fr h₀ L s.heap m) (X : (hd.heap_39 w.params).In h₀) (N : News h₀ L s.heap [(L + 1, oc)])
    (T : Top hd.view_39 (looseW hd.view_39 [Str.ofString "PaperError"]) mean mg mb h₀) (hoc : oc.data = .cell v₀) (hm : m (Str.ofString "script") = some (.ref a)) (hL : h₀.IsList a vs.toArray) (hI : IntsAre vs ns) (hlen : ns.length ≤ 63)
    (hnext : ∀ (P cl l4 l4' sx M : Addr) (f0 f1 f2 f3 g0 g1 g2 g3 a0 a1 a2 a3 a4 a5 : Int) (t0 t1 t2 t3 u0 u1 u2 u3 v0 v1 v2 v3 v4 v5 : Tok) (n0 n1 n2 : Nat) h' tk' m' news' o oc', Fr h₀ L h' m' → News h₀ L h' news' →
      Ab 10 f0 → Ab 10 f1 → Ab 10 f2 → Ab 10 f3 → Ab 10 g0 → Ab 10 g1 → Ab 10 g2 → Ab 10 g3 → Ab 20 a0 → Ab 20 a1 → Ab 20 a2 → Ab 20 a3 → Ab 20 a4 → Ab 20 a5 →
      m' (Str.ofString "pen") = some (.ref P) → m' (Str.ofString "four") = some (.ref l4) → m' (Str.ofString "fours") = some (.ref l4') → m' (Str.ofString "m") = some (.ref M) →
      CellsAt news' cl → (l4, listOf [.int f0 t0, .int f1 t1, .int f2 t2, .int f3 t3].toArray n0) ∈ news' → (l4', listOf [.int g0 u0, .int g1 u1, .int g2 u2, .int g3 u3].toArray n1) ∈ news' →
      (sx, listOf [.int a0 v0, .int a1 v1, .int a2 v2, .int a3 v3, .int a4 v4, .int a5 v5].toArray n2) ∈ news' → (L + 1, oc') ∈ news' → oc'.data = .cell (some (.ref sx)) → MatAt w news' M a0 a1 a2 a3 a4 a5 2 →
      (P, o) ∈ news' → PenAt cl 0 100 o →
      wpAny (model PySem.Challenge.rw_nn0204_01.row.prog w) (callerA.deeper (envOfC (Str.ofString "law") lawScope L fa cdA)) (execs (lawStmts.drop 5) (envOfC (Str.ofString "law") lawScope L fa cdA)) Q E { s with heap := h', toks := tk' }) :
    wpAny (model PySem.Challenge.rw_nn0204_01.row.prog w) (callerA.deeper (envOfC (Str.ofString "law") lawScope L fa cdA)) (execs (lawStmts.drop 0) (envOfC (Str.ofString "law") lawScope L fa cdA)) Q E s := by
  w_on
  revert X; k_fill; intro X
  have F := Fr_named F hm
  have e0 : lawStmts.drop 0 = _ :: _ :: _ :: _ :: _ :: lawStmts.drop 5 := id rfl
  rw [e0]
  clear e0
  generalize lawStmts.drop 5 = R5 at hnext ⊢
  rw [show lawScope = Scope.mk _ _ _ _ _ from rfl] at hnext ⊢
  iterate 59 (first | (k_unfold; (try dsimp only)) | (k_end; wrow_close) | walk1 | (dsimp only; walk1))
  refine' hnext _ _ _ _ _ _ _ _ _ _ _ _ _ _ _ _ _ _ _ _ _ _ _ _ _ _ _ _ _ _ _ _ _ _ _ _ _ _ _ _ _ _ _ ?F ?N ?b0 ?b1 ?b2 ?b3 ?b4 ?b5 ?b6 ?b7 ?b8 ?b9 ?b10 ?b11 ?b12 ?b13 ?pen ?four ?fours ?mm ?mc ?m4 ?m5 ?ms ?mL ?dL ?mM ?mP ?hP
  case F => assumption
  case N => assumption
  case pen => exact rfl
  case four => exact rfl
  case fours => exact rfl
  case mm => exact rfl
  case mP => k_mem
  case hP => exact PenAt.le (by assumption) (by omega)
  case mc =>
    rename CellsAt _ _ => q1
    rename Sub _ _ => sb
    obtain ⟨vs1, ns1, n1, h1, h2, h3⟩ := q1
    rcases List.mem_cons.mp h1 with e | h1
    · refine ⟨vs1, ns1, n1, ?_, h2, h3⟩
      rw [e]
      exact sb _ (by k_mem)
    · have e := congrArg Prod.fst (List.mem_singleton.mp h1)
      rename L + 1 ≠ _ => ne1
      exact absurd e.symm ne1
  case mL => k_mem
  case dL => assumption
  case mM => assumption
  case ms => k_mem
  case m4 => k_mem
  case m5 => k_mem
  case b0 => assumption
  case b1 => assumption
  case b2 => assumption
  case b3 => assumption
  case b4 => assumption
  case b5 => assumption
  case b6 => assumption
  case b7 => assumption
  case b8 => assumption
  case b9 => assumption
  case b10 => assumption
  case b11 => assumption
  case b12 => assumption
  case b13 => assumption
end
-- P28c1b
section
variable {w : World} {fa : Addr} {cdA : Value} {h₀ : Heap} {L : Addr} {m : Str → Option Value} {s : Shared} {mean : ExcName → Option Value} {mg mb : Str → Option Value} {Q : Flow → Shared → Prop} {E : Value → Shared → Prop} {news : Led}
theorem law_c1b {l4 : Addr} {f0 f1 f2 f3 : Int} {t0 t1 t2 t3 : Tok} {n0 : Nat} (B : Below callerA h₀ [] h₀) (F : Fr h₀ L s.heap m) (X : (hd.heap_39 w.params).In h₀) (N : News h₀ L s.heap news)
    (T : Top hd.view_39 (looseW hd.view_39 [Str.ofString "PaperError"]) mean mg mb h₀) (hm : m (Str.ofString "four") = some (.ref l4)) (m4 : (l4, listOf [.int f0 t0, .int f1 t1, .int f2 t2, .int f3 t3].toArray n0) ∈ news)
    (b0 : Ab 10 f0) (b1 : Ab 10 f1) (b2 : Ab 10 f2) (b3 : Ab 10 f3)
    (hnext : ∀ (ln x0 x1 x2 x3 : Addr) (n : Nat) h' tk' m' news', Fr h₀ L h' m' → News h₀ L h' news' → Sub news news' →
      m' (Str.ofString "numbers") = some (.ref ln) → (∀ y, y ≠ Str.ofString "numbers" → m' y = m y) →
      (ln, listOf [.ref x0, .ref x1, .ref x2, .ref x3].toArray n) ∈ news' → DecAt w news' x0 f0 2 → DecAt w news' x1 f1 2 → DecAt w news' x2 f2 2 → DecAt w news' x3 f3 2 →
      wpAny (model PySem.Challenge.rw_nn0204_01.row.prog w) (callerA.deeper (envOfC (Str.ofString "law") lawScope L fa cdA)) (execs (lawStmts.drop 6) (envOfC (Str.ofString "law") lawScope L fa cdA)) Q E { s with heap := h', toks := tk' }) :
    wpAny (model PySem.Challenge.rw_nn0204_01.row.prog w) (callerA.deeper (envOfC (Str.ofString "law") lawScope L fa cdA)) (execs (lawStmts.drop 5) (envOfC (Str.ofString "law") lawScope L fa cdA)) Q E s := by
  w_on
  revert X; k_fill; intro X
  have F := Fr_named F hm
  have e0 : lawStmts.drop 5 = _ :: lawStmts.drop 6 := id rfl
  rw [e0]
  clear e0
  generalize lawStmts.drop 6 = R5 at hnext ⊢
  rw [show lawScope = Scope.mk _ _ _ _ _ from rfl] at hnext ⊢
  have b0' := b0.le (k := 62)
  have b1' := b1.le (k := 62)
  have b2' := b2.le (k := 62)
  have b3' := b3.le (k := 62)
  repeat (first | (k_unfold; (try dsimp only)) | (k_end; wrow_close) | walk1 | (dsimp only; walk1))
  rename News h₀ L _ _ => kN
  rename Fr h₀ L _ _ => kF
  refine' hnext _ _ _ _ _ _ _ _ _ _ kF kN (by intro p hp; repeat (first | exact hp | refine List.mem_cons_of_mem _ ?_)) ?a ?b (.head _) ⟨_, _, _, _, _, by k_mem, by k_mem⟩ ⟨_, _, _, _, _, by k_mem, by k_mem⟩ ⟨_, _, _, _, _, by k_mem, by k_mem⟩ ⟨_, _, _, _, _, by k_mem, by k_mem⟩
  case a => exact rfl
  case b =>
    intro y hy
    simp only [hy, if_false]
    split
    · rename_i q; rw [q, hm]
    · rfl
end
-- P28c1c
theorem Fr_named2 {h₀ h : Heap} {L : Addr} {m : Str → Option Value} {x y : Str} {u v : Value} (F : Fr h₀ L h m) (hx : m x = some u) (hy : m y = some v) : Fr h₀ L h (fun z => if z = x then some u else if z = y then some v else m z) := by
  have e : (fun z => if z = x then some u else if z = y then some v else m z) = m := by
    funext z
    split
    · rename_i q; rw [q, hx]
    · split
      · rename_i q; rw [q, hy]
      · rfl
  rw [e]; exact F
section
variable {w : World} {fa : Addr} {cdA : Value} {h₀ : Heap} {L : Addr} {m : Str → Option Value} {s : Shared} {mean : ExcName → Option Value} {mg mb : Str → Option Value} {Q : Flow → Shared → Prop} {E : Value → Shared → Prop} {news : Led}
theorem law_c1c {l4 ln x0 x1 x2 x3 : Addr} {f0 f1 f2 f3 : Int} {t0 t1 t2 t3 : Tok} {n0 n : Nat} (B : Below callerA h₀ [] h₀) (F : Fr h₀ L s.heap m) (X : (hd.heap_39 w.params).In h₀) (N : News h₀ L s.heap news)
    (T : Top hd.view_39 (looseW hd.view_39 [Str.ofString "PaperError"]) mean mg mb h₀) (hm : m (Str.ofString "four") = some (.ref l4)) (hn : m (Str.ofString "numbers") = some (.ref ln)) (m4 : (l4, listOf [.int f0 t0, .int f1 t1, .int f2 t2, .int f3 t3].toArray n0) ∈ news)
    (mn : (ln, listOf [.ref x0, .ref x1, .ref x2, .ref x3].toArray n) ∈ news) (m0 : DecAt w news x0 f0 2) (m1 : DecAt w news x1 f1 2) (m2 : DecAt w news x2 f2 2) (m3 : DecAt w news x3 f3 2)
    (b0 : Ab 10 f0) (b1 : Ab 10 f1) (b2 : Ab 10 f2) (b3 : Ab 10 f3)
    (hnext : ∀ (fr a b c d sd : Addr) (u0 u1 u2 u3 : Tok) h' tk' m' news', Fr h₀ L h' m' → News h₀ L h' news' → Sub news news' →
      m' (Str.ofString "frame") = some (.ref fr) → m' (Str.ofString "sides") = some (.ref sd) → (∀ y, y ≠ Str.ofString "frame" → y ≠ Str.ofString "sides" → m' y = m y) →
      (fr, tup [.ref a, .ref b, .ref c, .ref d]) ∈ news' → DecAt w news' a (min f0 f2) 2 → DecAt w news' b (min f1 f3) 2 → DecAt w news' c (max f0 f2) 2 → DecAt w news' d (max f1 f3) 2 →
      (sd, tup [.int (min f0 f2) u0, .int (min f1 f3) u1, .int (max f0 f2) u2, .int (max f1 f3) u3]) ∈ news' →
      wpAny (model PySem.Challenge.rw_nn0204_01.row.prog w) (callerA.deeper (envOfC (Str.ofString "law") lawScope L fa cdA)) (execs (lawStmts.drop 8) (envOfC (Str.ofString "law") lawScope L fa cdA)) Q E { s with heap := h', toks := tk' }) :
    wpAny (model PySem.Challenge.rw_nn0204_01.row.prog w) (callerA.deeper (envOfC (Str.ofString "law") lawScope L fa cdA)) (execs (lawStmts.drop 6) (envOfC (Str.ofString "law") lawScope L fa cdA)) Q E s := by
  w_on
  revert X; k_fill; intro X
  have F := Fr_named2 F hm hn
  have e0 : lawStmts.drop 6 = _ :: _ :: lawStmts.drop 8 := id rfl
  rw [e0]
  clear e0
  generalize lawStmts.drop 8 = R5 at hnext ⊢
  rw [show lawScope = Scope.mk _ _ _ _ _ from rfl] at hnext ⊢
  have b0' := b0.le (k := 62)
  have b1' := b1.le (k := 62)
  have b2' := b2.le (k := 62)
  have b3' := b3.le (k := 62)
  iterate 9 (first | (k_unfold; (try dsimp only)) | (k_end; wrow_close) | walk1 | (dsimp only; walk1))
  k_here
  refine' c_boxArr (sub := []) (x0 := x0) (x1 := x1) (x2 := x2) (x3 := x3) (w0 := f0) (w1 := f1) (w2 := f2) (w3 := f3) (k := 2) ?C ?hk mn m0 m1 m2 m3 b0' b1' b2' b3' ?_
  case C => exact ⟨by k_asm, by k_asm, by k_asm, by k_asm, by k_asm, by first | exact rfl | assumption, by ktr_room⟩
  case hk => omega
  k_whole
  intro D' a' b' c' d' h' tk' news' F' N' sub' m' ma' mb' mc' md'
  try k_sweep
  iterate 13 (first | (k_unfold; (try dsimp only)) | (k_end; wrow_close) | walk1 | (dsimp only; walk1))
  rename News h₀ L _ _ => kN
  rename Fr h₀ L _ _ => kF
  refine' hnext _ _ _ _ _ _ _ _ _ _ _ _ _ _ kF kN (fun p hp => .tail _ (sub' p hp)) ?a ?b ?c (.tail _ m') ma'.cons mb'.cons mc'.cons md'.cons (.head _)
  case a => exact rfl
  case b => exact rfl
  case c =>
    intro y hy hz
    simp only [hy, hz, if_false]
    split
    · rename_i q; rw [q, hm]
    · split
      · rename_i q; rw [q, hn]
      · rfl
end
-- P28c1d
section
variable {w : World} {fa : Addr} {cdA : Value} {h₀ : Heap} {L : Addr} {m : Str → Option Value} {s : Shared} {mean : ExcName → Option Value} {mg mb : Str → Option Value} {Q : Flow → Shared → Prop} {E : Value → Shared → Prop} {news : Led}
theorem law_c1d {l4 : Addr} {f0 f1 f2 f3 : Int} {t0 t1 t2 t3 : Tok} {n0 : Nat} (B : Below callerA h₀ [] h₀) (F : Fr h₀ L s.heap m) (X : (hd.heap_39 w.params).In h₀) (N : News h₀ L s.heap news)
    (T : Top hd.view_39 (looseW hd.view_39 [Str.ofString "PaperError"]) mean mg mb h₀) (hm : m (Str.ofString "fours") = some (.ref l4)) (m4 : (l4, listOf [.int f0 t0, .int f1 t1, .int f2 t2, .int f3 t3].toArray n0) ∈ news)
    (b0 : Ab 10 f0) (b1 : Ab 10 f1) (b2 : Ab 10 f2) (b3 : Ab 10 f3)
    (hnext : ∀ (ln x0 x1 x2 x3 : Addr) h' tk' m' news', Fr h₀ L h' m' → News h₀ L h' news' → Sub news news' →
      m' (Str.ofString "second") = some (.ref ln) → (∀ y, y ≠ Str.ofString "second" → m' y = m y) →
      (ln, tup [.ref x0, .ref x1, .ref x2, .ref x3]) ∈ news' → DecAt w news' x0 (min f0 f2) 2 → DecAt w news' x1 (min f1 f3) 2 → DecAt w news' x2 (max f0 f2) 2 → DecAt w news' x3 (max f1 f3) 2 →
      wpAny (model PySem.Challenge.rw_nn0204_01.row.prog w) (callerA.deeper (envOfC (Str.ofString "law") lawScope L fa cdA)) (execs (lawStmts.drop 9) (envOfC (Str.ofString "law") lawScope L fa cdA)) Q E { s with heap := h', toks := tk' }) :
    wpAny (model PySem.Challenge.rw_nn0204_01.row.prog w) (callerA.deeper (envOfC (Str.ofString "law") lawScope L fa cdA)) (execs (lawStmts.drop 8) (envOfC (Str.ofString "law") lawScope L fa cdA)) Q E s := by
  w_on
  revert X; k_fill; intro X
  have F := Fr_named F hm
  have e0 : lawStmts.drop 8 = _ :: lawStmts.drop 9 := id rfl
  rw [e0]
  clear e0
  generalize lawStmts.drop 9 = R5 at hnext ⊢
  rw [show lawScope = Scope.mk _ _ _ _ _ from rfl] at hnext ⊢
  have b0' := b0.le (k := 62)
  have b1' := b1.le (k := 62)
  have b2' := b2.le (k := 62)
  have b3' := b3.le (k := 62)
  repeat ((fail_if_success (k_here; (with_reducible show wpAny _ _ (call (Value.ref 255) _) _ _ _))); (first | (k_unfold; (try dsimp only)) | (k_end; wrow_close) | walk1 | (dsimp only; walk1)))
  k_here
  refine' c_boxArr (sub := []) (w0 := f0) (w1 := f1) (w2 := f2) (w3 := f3) (k := 2) ?C ?hk (.head _) ?m0 ?m1 ?m2 ?m3 b0' b1' b2' b3' ?_
  case C => exact ⟨by k_asm, by k_asm, by k_asm, by k_asm, by k_asm, by first | exact rfl | assumption, by ktr_room⟩
  case hk => omega
  case m0 => exact ⟨_, _, _, _, _, by k_mem, by k_mem⟩
  case m1 => exact ⟨_, _, _, _, _, by k_mem, by k_mem⟩
  case m2 => exact ⟨_, _, _, _, _, by k_mem, by k_mem⟩
  case m3 => exact ⟨_, _, _, _, _, by k_mem, by k_mem⟩
  k_whole
  intro D' a' b' c' d' h' tk' news' F' N' sub' m' ma' mb' mc' md'
  try k_sweep
  walk1
  rename News h₀ L _ _ => kN
  rename Fr h₀ L _ _ => kF
  refine' hnext _ _ _ _ _ _ _ _ _ kF kN (fun p hp => sub' p (by repeat (first | exact hp | refine List.mem_cons_of_mem _ ?_))) ?a ?b m' ma' mb' mc' md'
  case a => exact rfl
  case b =>
    intro y hy
    simp only [hy, if_false]
    split
    · rename_i q; rw [q, hm]
    · rfl
end
-- P28c1e
section
variable {w : World} {fa : Addr} {cdA : Value} {h₀ : Heap} {L : Addr} {m : Str → Option Value} {s : Shared} {mean : ExcName → Option Value} {mg mb : Str → Option Value} {Q : Flow → Shared → Prop} {E : Value → Shared → Prop} {news : Led}
theorem law_c1e {l4 : Addr} {f0 f1 f2 f3 : Int} {t0 t1 t2 t3 : Tok} {n0 : Nat} (B : Below callerA h₀ [] h₀) (F : Fr h₀ L s.heap m) (X : (hd.heap_39 w.params).In h₀) (N : News h₀ L s.heap news)
    (T : Top hd.view_39 (looseW hd.view_39 [Str.ofString "PaperError"]) mean mg mb h₀)
    (hm : m (Str.ofString "fours") = some (.ref l4)) (m4 : (l4, listOf [.int f0 t0, .int f1 t1, .int f2 t2, .int f3 t3].toArray n0) ∈ news)
    (hnext : ∀ (sd : Addr) (u0 u1 u2 u3 : Tok) h' tk' m' news', Fr h₀ L h' m' → News h₀ L h' news' → Sub news news' → m' (Str.ofString "others") = some (.ref sd) → (∀ y, y ≠ Str.ofString "others" → m' y = m y) → (sd, tup [.int (min f0 f2) u0, .int (min f1 f3) u1, .int (max f0 f2) u2, .int (max f1 f3) u3]) ∈ news' →
      wpAny (model PySem.Challenge.rw_nn0204_01.row.prog w) (callerA.deeper (envOfC (Str.ofString "law") lawScope L fa cdA)) (execs (lawStmts.drop 10) (envOfC (Str.ofString "law") lawScope L fa cdA)) Q E { s with heap := h', toks := tk' }) :
    wpAny (model PySem.Challenge.rw_nn0204_01.row.prog w) (callerA.deeper (envOfC (Str.ofString "law") lawScope L fa cdA)) (execs (lawStmts.drop 9) (envOfC (Str.ofString "law") lawScope L fa cdA)) Q E s := by
  w_on
  revert X; k_fill; intro X
  have F := Fr_cast F (named_eq rfl hm)
  have e0 : lawStmts.drop 9 = _ :: lawStmts.drop 10 := id rfl
  rw [e0]
  clear e0
  generalize lawStmts.drop 10 = R5 at hnext ⊢
  rw [show lawScope = Scope.mk _ _ _ _ _ from rfl] at hnext ⊢
  repeat (first | (k_unfold; (try dsimp only)) | (k_end; wrow_close) | walk1 | (dsimp only; walk1))
  rename News h₀ L _ _ => kN
  rename Fr h₀ L _ _ => kF
  refine' hnext _ _ _ _ _ _ _ _ _ kF kN (by intro p hp; repeat (first | exact hp | refine List.mem_cons_of_mem _ ?_)) ?a ?b (.head _)
  case a => exact rfl
  case b =>
    intro y hy
    simp only [hy, if_false]
    split
    · rename_i q; rw [q, hm]
    · rfl
end
-- P28c2a
section
variable {w : World} {fa : Addr} {cdA : Value} {h₀ : Heap} {L : Addr} {m : Str → Option Value} {s : Shared} {mean : ExcName → Option Value} {mg mb : Str → Option Value} {Q : Flow → Shared → Prop} {E : Value → Shared → Prop} {news : Led}
theorem law_c2a {d : LD} (B : Below callerA h₀ [] h₀) (F : Fr h₀ L s.heap m) (X : (hd.heap_39 w.params).In h₀) (N : News h₀ L s.heap news)
    (T : Top hd.view_39 (looseW hd.view_39 [Str.ofString "PaperError"]) mean mg mb h₀)
    (f : LF w L d news) (lm : LM d m)
    (hnext : ∀ h' tk', Fr h₀ L h' m → News h₀ L h' news → 
      wpAny (model PySem.Challenge.rw_nn0204_01.row.prog w) (callerA.deeper (envOfC (Str.ofString "law") lawScope L fa cdA)) (execs (lawStmts.drop 11) (envOfC (Str.ofString "law") lawScope L fa cdA)) Q E { s with heap := h', toks := tk' }) :
    wpAny (model PySem.Challenge.rw_nn0204_01.row.prog w) (callerA.deeper (envOfC (Str.ofString "law") lawScope L fa cdA)) (execs (lawStmts.drop 10) (envOfC (Str.ofString "law") lawScope L fa cdA)) Q E s := by
  w_on
  revert X; k_fill; intro X
  have F := Fr_cast F (named_eq (named_eq (named_eq (named_eq rfl lm.frame) lm.sides) lm.second) lm.others)
  have e0 : lawStmts.drop 10 = _ :: lawStmts.drop 11 := id rfl
  rw [e0]
  clear e0
  generalize lawStmts.drop 11 = R5 at hnext ⊢
  rw [show lawScope = Scope.mk _ _ _ _ _ from rfl] at hnext ⊢
  obtain ⟨u0, u1, u2, u3, ms⟩ := f.sides
  obtain ⟨u4, u5, u6, u7, mo⟩ := f.others
  have mf := f.frame
  have ma := f.fa
  have mb' := f.fb
  have mc := f.fc
  have md := f.fd
  have mg' := f.second
  have na := f.ga
  have nb := f.gb
  have nc := f.gc
  have nd := f.gd
  repeat (first | (k_unfold; (try dsimp only)) | (k_end; wrow_close) | walk1 | (dsimp only; walk1))
  rename News h₀ L _ _ => kN
  rename Fr h₀ L _ _ => kF
  exact hnext _ _ (Fr_cast kF (named_eq (named_eq (named_eq (named_eq rfl lm.frame) lm.sides) lm.second) lm.others).symm) kN
end
-- P28c2b
section
variable {w : World} {fa : Addr} {cdA : Value} {h₀ : Heap} {L : Addr} {m : Str → Option Value} {s : Shared} {mean : ExcName → Option Value} {mg mb : Str → Option Value} {Q : Flow → Shared → Prop} {E : Value → Shared → Prop} {news : Led}
theorem law_c2b {d : LD} (B : Below callerA h₀ [] h₀) (F : Fr h₀ L s.heap m) (X : (hd.heap_39 w.params).In h₀) (N : News h₀ L s.heap news)
    (T : Top hd.view_39 (looseW hd.view_39 [Str.ofString "PaperError"]) mean mg mb h₀)
    (f : LF w L d news) (b : LB d) (lm : LM d m)
    (hnext : ∀ h' tk' news', Fr h₀ L h' m → News h₀ L h' news' → Sub news news' → 
      wpAny (model PySem.Challenge.rw_nn0204_01.row.prog w) (callerA.deeper (envOfC (Str.ofString "law") lawScope L fa cdA)) (execs (lawStmts.drop 12) (envOfC (Str.ofString "law") lawScope L fa cdA)) Q E { s with heap := h', toks := tk' }) :
    wpAny (model PySem.Challenge.rw_nn0204_01.row.prog w) (callerA.deeper (envOfC (Str.ofString "law") lawScope L fa cdA)) (execs (lawStmts.drop 11) (envOfC (Str.ofString "law") lawScope L fa cdA)) Q E s := by
  w_on
  revert X; k_fill; intro X
  have F := Fr_cast F (named_eq (named_eq rfl lm.frame) lm.sides)
  have e0 : lawStmts.drop 11 = _ :: lawStmts.drop 12 := id rfl
  rw [e0]
  clear e0
  generalize lawStmts.drop 12 = R5 at hnext ⊢
  rw [show lawScope = Scope.mk _ _ _ _ _ from rfl] at hnext ⊢
  obtain ⟨u0, u1, u2, u3, ms⟩ := f.sides
  have mf := f.frame
  have ma := f.fa
  have mb' := f.fb
  have mc := f.fc
  have md := f.fd
  have b0 : Ab 62 (min d.f0 d.f2) := (b.f0.min b.f2).le
  have b1 : Ab 62 (min d.f1 d.f3) := (b.f1.min b.f3).le
  have b2 : Ab 62 (max d.f0 d.f2) := (b.f0.max b.f2).le
  have b3 : Ab 62 (max d.f1 d.f3) := (b.f1.max b.f3).le
  iterate 3 (first | (k_unfold; (try dsimp only)) | (k_end; wrow_close) | walk1 | (dsimp only; walk1))
  k_here
  k_dflt (refine ListComp_T (F₀ := by k_asm) (by with_unfolding_all rfl) (by decide) (by with_unfolding_all rfl) (by decide) (by rfl) ?_)
  iterate 8 (first | (k_unfold; (try dsimp only)) | (k_end; wrow_close) | walk1 | (dsimp only; walk1))
  rename_i sub1 mD mx my
  refine DecAt.op mx ?_; intro d1 q1 q2 q3 q4 mx1 mx2
  refine DecAt.op my ?_; intro d2 r1 r2 r3 r4 my1 my2
  refine SrcT.led (by rfl) (by k_asm) (by k_asm) (by k_mem) (by exact Nat.le_of_ble_eq_true rfl) ?_
  intro g'
  lcg_lit
  repeat (first | (k_unfold; (try dsimp only)) | (k_end; wrow_close) | walk1 | (dsimp only; walk1))
  rename News h₀ L _ _ => kN
  rename Fr h₀ L _ _ => kF
  exact hnext _ _ _ (Fr_cast kF (named_eq (named_eq rfl lm.frame) lm.sides).symm) kN (by intro p hp; have hp := sub1 p hp; repeat (first | exact hp | refine List.mem_cons_of_mem _ ?_))
end
-- P28c2c
section
variable {w : World} {fa : Addr} {cdA : Value} {h₀ : Heap} {L : Addr} {m : Str → Option Value} {s : Shared} {mean : ExcName → Option Value} {mg mb : Str → Option Value} {Q : Flow → Shared → Prop} {E : Value → Shared → Prop} {news : Led}
theorem law_c2c {d : LD} (B : Below callerA h₀ [] h₀) (F : Fr h₀ L s.heap m) (X : (hd.heap_39 w.params).In h₀) (N : News h₀ L s.heap news)
    (T : Top hd.view_39 (looseW hd.view_39 [Str.ofString "PaperError"]) mean mg mb h₀)
    (f : LF w L d news) (lm : LM d m)
    (hnext : ∀ (co p0 p1 p2 p3 : Addr) (u0 u1 u2 u3 v0 v1 v2 v3 : Tok) (n : Nat) h' tk' m' news', Fr h₀ L h' m' → News h₀ L h' news' → Sub news news' → m' (Str.ofString "corners") = some (.ref co) → (∀ y, y ≠ Str.ofString "corners" → m' y = m y) → (co, listOf [.ref p0, .ref p1, .ref p2, .ref p3].toArray n) ∈ news' → (p0, tup [.int (min d.f0 d.f2) u0, .int (min d.f1 d.f3) v0]) ∈ news' → (p1, tup [.int (max d.f0 d.f2) u1, .int (min d.f1 d.f3) v1]) ∈ news' →
      (p2, tup [.int (max d.f0 d.f2) u2, .int (max d.f1 d.f3) v2]) ∈ news' → (p3, tup [.int (min d.f0 d.f2) u3, .int (max d.f1 d.f3) v3]) ∈ news' →
      wpAny (model PySem.Challenge.rw_nn0204_01.row.prog w) (callerA.deeper (envOfC (Str.ofString "law") lawScope L fa cdA)) (execs (lawStmts.drop 13) (envOfC (Str.ofString "law") lawScope L fa cdA)) Q E { s with heap := h', toks := tk' }) :
    wpAny (model PySem.Challenge.rw_nn0204_01.row.prog w) (callerA.deeper (envOfC (Str.ofString "law") lawScope L fa cdA)) (execs (lawStmts.drop 12) (envOfC (Str.ofString "law") lawScope L fa cdA)) Q E s := by
  w_on
  revert X; k_fill; intro X
  have F := Fr_cast F (named_eq rfl lm.sides)
  have e0 : lawStmts.drop 12 = _ :: lawStmts.drop 13 := id rfl
  rw [e0]
  clear e0
  generalize lawStmts.drop 13 = R5 at hnext ⊢
  rw [show lawScope = Scope.mk _ _ _ _ _ from rfl] at hnext ⊢
  obtain ⟨w0, w1, w2, w3, ms⟩ := f.sides
  repeat (first | (k_unfold; (try dsimp only)) | (k_end; wrow_close) | walk1 | (dsimp only; walk1))
  rename News h₀ L _ _ => kN
  rename Fr h₀ L _ _ => kF
  refine' hnext _ _ _ _ _ _ _ _ _ _ _ _ _ _ _ _ _ _ kF kN (by intro p hp; repeat (first | exact hp | refine List.mem_cons_of_mem _ ?_)) ?a ?b (by k_mem) (by k_mem) (by k_mem) (by k_mem) (by k_mem)
  case a => exact rfl
  case b =>
    intro y hy
    simp only [hy, if_false]
    split
    · rename_i q; rw [q, lm.sides]
    · rfl
end
-- P28c2e
section
variable {w : World} {fa : Addr} {cdA : Value} {h₀ : Heap} {L : Addr} {m : Str → Option Value} {s : Shared} {mean : ExcName → Option Value} {mg mb : Str → Option Value} {Q : Flow → Shared → Prop} {E : Value → Shared → Prop} {news : Led}
theorem law_c2e {d : LD} (B : Below callerA h₀ [] h₀) (F : Fr h₀ L s.heap m) (X : (hd.heap_39 w.params).In h₀) (N : News h₀ L s.heap news)
    (T : Top hd.view_39 (looseW hd.view_39 [Str.ofString "PaperError"]) mean mg mb h₀)
    (f : LF w L d news) (b : LB d) (lm : LM d m)
    (hnext : ∀ h' tk' news', Fr h₀ L h' m → News h₀ L h' news' → Sub news news' → 
      wpAny (model PySem.Challenge.rw_nn0204_01.row.prog w) (callerA.deeper (envOfC (Str.ofString "law") lawScope L fa cdA)) (execs (lawStmts.drop 15) (envOfC (Str.ofString "law") lawScope L fa cdA)) Q E { s with heap := h', toks := tk' }) :
    wpAny (model PySem.Challenge.rw_nn0204_01.row.prog w) (callerA.deeper (envOfC (Str.ofString "law") lawScope L fa cdA)) (execs (lawStmts.drop 14) (envOfC (Str.ofString "law") lawScope L fa cdA)) Q E s := by
  w_on
  revert X; k_fill; intro X
  have F := Fr_cast F (named_eq (named_eq (named_eq (named_eq rfl lm.frame) lm.sides) lm.second) lm.others)
  have e0 : lawStmts.drop 14 = _ :: lawStmts.drop 15 := id rfl
  rw [e0]
  clear e0
  generalize lawStmts.drop 15 = R5 at hnext ⊢
  rw [show lawScope = Scope.mk _ _ _ _ _ from rfl] at hnext ⊢
  obtain ⟨u0, u1, u2, u3, ms⟩ := f.sides
  obtain ⟨u4, u5, u6, u7, mo⟩ := f.others
  have mf := f.frame
  have ma := f.fa
  have mb' := f.fb
  have mc := f.fc
  have md := f.fd
  have mg' := f.second
  have na := f.ga
  have nb := f.gb
  have nc := f.gc
  have nd := f.gd
  have b0 : Ab 62 (min d.f0 d.f2) := (b.f0.min b.f2).le
  have b1 : Ab 62 (min d.f1 d.f3) := (b.f1.min b.f3).le
  have b2 : Ab 62 (max d.f0 d.f2) := (b.f0.max b.f2).le
  have b3 : Ab 62 (max d.f1 d.f3) := (b.f1.max b.f3).le
  have e0 : Ab 62 (min d.g0 d.g2) := (b.g0.min b.g2).le
  have e1 : Ab 62 (min d.g1 d.g3) := (b.g1.min b.g3).le
  have e2 : Ab 62 (max d.g0 d.g2) := (b.g0.max b.g2).le
  have e3 : Ab 62 (max d.g1 d.g3) := (b.g1.max b.g3).le
  repeat (first | (k_unfold; (try dsimp only)) | (k_end; wrow_close) | walk1 | (dsimp only; walk1))
  rename News h₀ L _ _ => kN
  rename Fr h₀ L _ _ => kF
  exact hnext _ _ _ (Fr_cast kF (named_eq (named_eq (named_eq (named_eq rfl lm.frame) lm.sides) lm.second) lm.others).symm) kN (by intro p hp; repeat (first | exact hp | exact Sub.mem (by assumption) hp | refine Sub.mem (by assumption) ?_))
end
-- P28c3a
/-- where the box goes -/
structure LR (w : World) (d : LD) (news : Led) (ar x y z u : Addr) : Prop where
  box : (ar, tup [.ref x, .ref y, .ref z, .ref u]) ∈ news
  x0 : DecAt w news x (lmin (d.a0 * min d.f0 d.f2 + d.a2 * min d.f1 d.f3 + d.a4 * 100) [d.a0 * max d.f0 d.f2 + d.a2 * min d.f1 d.f3 + d.a4 * 100, d.a0 * max d.f0 d.f2 + d.a2 * max d.f1 d.f3 + d.a4 * 100, d.a0 * min d.f0 d.f2 + d.a2 * max d.f1 d.f3 + d.a4 * 100]) 4
  y0 : DecAt w news y (lmin (d.a1 * min d.f0 d.f2 + d.a3 * min d.f1 d.f3 + d.a5 * 100) [d.a1 * max d.f0 d.f2 + d.a3 * min d.f1 d.f3 + d.a5 * 100, d.a1 * max d.f0 d.f2 + d.a3 * max d.f1 d.f3 + d.a5 * 100, d.a1 * min d.f0 d.f2 + d.a3 * max d.f1 d.f3 + d.a5 * 100]) 4
  x1 : DecAt w news z (lmax (d.a0 * min d.f0 d.f2 + d.a2 * min d.f1 d.f3 + d.a4 * 100) [d.a0 * max d.f0 d.f2 + d.a2 * min d.f1 d.f3 + d.a4 * 100, d.a0 * max d.f0 d.f2 + d.a2 * max d.f1 d.f3 + d.a4 * 100, d.a0 * min d.f0 d.f2 + d.a2 * max d.f1 d.f3 + d.a4 * 100]) 4
  y1 : DecAt w news u (lmax (d.a1 * min d.f0 d.f2 + d.a3 * min d.f1 d.f3 + d.a5 * 100) [d.a1 * max d.f0 d.f2 + d.a3 * min d.f1 d.f3 + d.a5 * 100, d.a1 * max d.f0 d.f2 + d.a3 * max d.f1 d.f3 + d.a5 * 100, d.a1 * min d.f0 d.f2 + d.a3 * max d.f1 d.f3 + d.a5 * 100]) 4
theorem LR.mono {w : World} {d : LD} {news news' : Led} {ar x y z u : Addr} (r : LR w d news ar x y z u) (s : Sub news news') : LR w d news' ar x y z u := ⟨s _ r.box, r.x0.mono s, r.y0.mono s, r.x1.mono s, r.y1.mono s⟩
section
variable {w : World} {fa : Addr} {cdA : Value} {h₀ : Heap} {L : Addr} {m : Str → Option Value} {s : Shared} {mean : ExcName → Option Value} {mg mb : Str → Option Value} {Q : Flow → Shared → Prop} {E : Value → Shared → Prop} {news : Led}
theorem law_c3a {d : LD} (B : Below callerA h₀ [] h₀) (F : Fr h₀ L s.heap m) (X : (hd.heap_39 w.params).In h₀) (N : News h₀ L s.heap news)
    (T : Top hd.view_39 (looseW hd.view_39 [Str.ofString "PaperError"]) mean mg mb h₀)
    (f : LF w L d news) (b : LB d) (lm : LM d m)
    (hnext : ∀ (ar ha hb hc hd' : Addr) h' tk' m' news', Fr h₀ L h' m' → News h₀ L h' news' → Sub news news' → m' (Str.ofString "around") = some (.ref ar) → (∀ y, y ≠ Str.ofString "around" → m' y = m y) → LR w d news' ar ha hb hc hd' → 
      wpAny (model PySem.Challenge.rw_nn0204_01.row.prog w) (callerA.deeper (envOfC (Str.ofString "law") lawScope L fa cdA)) (execs (lawStmts.drop 16) (envOfC (Str.ofString "law") lawScope L fa cdA)) Q E { s with heap := h', toks := tk' }) :
    wpAny (model PySem.Challenge.rw_nn0204_01.row.prog w) (callerA.deeper (envOfC (Str.ofString "law") lawScope L fa cdA)) (execs (lawStmts.drop 15) (envOfC (Str.ofString "law") lawScope L fa cdA)) Q E s := by
  w_on
  revert X; k_fill; intro X
  have F := Fr_cast F (named_eq (named_eq rfl lm.frame) lm.m_)
  have e0 : lawStmts.drop 15 = _ :: lawStmts.drop 16 := id rfl
  rw [e0]
  clear e0
  generalize lawStmts.drop 16 = R5 at hnext ⊢
  rw [show lawScope = Scope.mk _ _ _ _ _ from rfl] at hnext ⊢
  have mf := f.frame
  have ma := f.fa
  have mb' := f.fb
  have mc := f.fc
  have md := f.fd
  have mM := f.mat
  have b0 : Ab 24 (min d.f0 d.f2) := (b.f0.min b.f2).le
  have b1 : Ab 24 (min d.f1 d.f3) := (b.f1.min b.f3).le
  have b2 : Ab 24 (max d.f0 d.f2) := (b.f0.max b.f2).le
  have b3 : Ab 24 (max d.f1 d.f3) := (b.f1.max b.f3).le
  have c0 : Ab 24 d.a0 := b.a0.le
  have c1 : Ab 24 d.a1 := b.a1.le
  have c2 : Ab 24 d.a2 := b.a2.le
  have c3 : Ab 24 d.a3 := b.a3.le
  have c4 : Ab 24 d.a4 := b.a4.le
  have c5 : Ab 24 d.a5 := b.a5.le
  repeat (first | (k_unfold; (try dsimp only)) | (k_end; wrow_close) | walk1 | (dsimp only; walk1))
  rename News h₀ L _ _ => kN
  rename Fr h₀ L _ _ => kF
  rename Sub news _ => sub1
  refine' hnext _ _ _ _ _ _ _ _ _ kF kN sub1 ?a ?b ⟨by assumption, by assumption, by assumption, by assumption, by assumption⟩
  case a => exact rfl
  case b =>
    intro y hy
    simp only [hy, if_false]
    exact congrFun (named_eq (named_eq rfl lm.frame) lm.m_) y
end
-- P28c2d
/-- a pair of numbers as the pair of what they tell -/
def toldD (q : Int × Int) : Dat := .tuple [.tuple [.int (nmT q.1 2), .int (nmP q.1 2)], .tuple [.int (nmT q.2 2), .int (nmP q.2 2)]]
section
variable {h₀ h' : Heap} {L I C D a a2 a3 : Addr} {m : Str → Option Value} {s₁ : Shared} {oI oC oD o o2 o3 : Obj} {S : Led → Prop} {R : Value → Led → Prop} {y : Value} {tk : Nat} {rest : Led}
theorem comp_end3 (F : Fr h₀ L h' m) (N : News h₀ L h' ((a, o) :: (a2, o2) :: (a3, o3) :: (I, oI) :: (C, oC) :: (D, oD) :: rest)) (off : LCg.Off3 I C D rest) (n1 : @LT.lt Nat _ I a3) (n2 : @LT.lt Nat _ C a3) (n3 : @LT.lt Nat _ D a3) (n4 : @LT.lt Nat _ a3 a2) (n5 : @LT.lt Nat _ a2 a)
    (hS : S ((a, o) :: (a2, o2) :: (a3, o3) :: rest)) (r : R y ((a, o) :: (a2, o2) :: (a3, o3) :: rest)) :
    LCg.CompEnd h₀ L m s₁ I oI C oC D oD S R y { s₁ with heap := h', toks := tk } := LCg.CompEnd.intro F N ((a, o) :: (a2, o2) :: (a3, o3) :: rest) (by
      intro p hp
      simp only [List.mem_cons] at hp ⊢
      rcases hp with h | h | h | h | h | h | h <;> simp only [h, true_or, or_true])
      ⟨⟨Nat.ne_of_gt (Nat.lt_trans n1 (Nat.lt_trans n4 n5)), Nat.ne_of_gt (Nat.lt_trans n2 (Nat.lt_trans n4 n5)), Nat.ne_of_gt (Nat.lt_trans n3 (Nat.lt_trans n4 n5))⟩,
       ⟨Nat.ne_of_gt (Nat.lt_trans n1 n4), Nat.ne_of_gt (Nat.lt_trans n2 n4), Nat.ne_of_gt (Nat.lt_trans n3 n4)⟩, ⟨Nat.ne_of_gt n1, Nat.ne_of_gt n2, Nat.ne_of_gt n3⟩, off⟩ hS r
end
section
variable {w : World} {fa : Addr} {cdA : Value} {h₀ : Heap} {L : Addr} {m : Str → Option Value} {s : Shared} {mean : ExcName → Option Value} {mg mb : Str → Option Value} {Q : Flow → Shared → Prop} {E : Value → Shared → Prop} {news : Led}
theorem law_c2d {d : LD} {co p0 p1 p2 p3 : Addr} {u0 u1 u2 u3 v0 v1 v2 v3 : Tok} {n : Nat} (B : Below callerA h₀ [] h₀) (F : Fr h₀ L s.heap m) (X : (hd.heap_39 w.params).In h₀) (N : News h₀ L s.heap news)
    (T : Top hd.view_39 (looseW hd.view_39 [Str.ofString "PaperError"]) mean mg mb h₀)
    (f : LF w L d news) (b : LB d) (lm : LM d m) (hco : m (Str.ofString "corners") = some (.ref co)) (mco : (co, listOf [.ref p0, .ref p1, .ref p2, .ref p3].toArray n) ∈ news) (mp0 : (p0, tup [.int (min d.f0 d.f2) u0, .int (min d.f1 d.f3) v0]) ∈ news) (mp1 : (p1, tup [.int (max d.f0 d.f2) u1, .int (min d.f1 d.f3) v1]) ∈ news)
    (mp2 : (p2, tup [.int (max d.f0 d.f2) u2, .int (max d.f1 d.f3) v2]) ∈ news) (mp3 : (p3, tup [.int (min d.f0 d.f2) u3, .int (max d.f1 d.f3) v3]) ∈ news)
    (hnext : ∀ h' tk' news', Fr h₀ L h' m → News h₀ L h' news' → Sub news news' → 
      wpAny (model PySem.Challenge.rw_nn0204_01.row.prog w) (callerA.deeper (envOfC (Str.ofString "law") lawScope L fa cdA)) (execs (lawStmts.drop 14) (envOfC (Str.ofString "law") lawScope L fa cdA)) Q E { s with heap := h', toks := tk' }) :
    wpAny (model PySem.Challenge.rw_nn0204_01.row.prog w) (callerA.deeper (envOfC (Str.ofString "law") lawScope L fa cdA)) (execs (lawStmts.drop 13) (envOfC (Str.ofString "law") lawScope L fa cdA)) Q E s := by
  w_on
  revert X; k_fill; intro X
  have F := Fr_cast F (named_eq (named_eq rfl lm.frame) hco)
  have e0 : lawStmts.drop 13 = _ :: lawStmts.drop 14 := id rfl
  rw [e0]
  clear e0
  generalize lawStmts.drop 14 = R5 at hnext ⊢
  rw [show lawScope = Scope.mk _ _ _ _ _ from rfl] at hnext ⊢
  have mf := f.frame
  have ma := f.fa
  have mb' := f.fb
  have mc := f.fc
  have md := f.fd
  iterate 3 (first | (k_unfold; (try dsimp only)) | (k_end; wrow_close) | walk1 | (dsimp only; walk1))
  k_here; lcp_look; lcg_calm
  k_dflt (refine LCp.ListComp_P (F₀ := by k_asm) (by with_unfolding_all rfl) (by decide) (by rfl) (by decide) (by rfl) (by rfl) (by decide) ?_)
  iterate 9 (first | (k_unfold; (try dsimp only)) | (k_end; wrow_close) | walk1 | (dsimp only; walk1))
  rename_i cO vs t0' t1' t2' t3' h1 tk1 nw hvs hsz F1 N1 sub1 ml mt3 mt2 mt1 mt0 g1
  have ma1 := ma.mono sub1
  have mb1 := mb'.mono sub1
  have mc1 := mc.mono sub1
  have md1 := md.mono sub1
  have h02 : (0 : Int) ≤ 2 := by decide
  have hlen : vs.toArray.size = 4 := by rw [hvs]; rfl
  have hit : ∀ (i : Nat) (v : Value), vs.toArray[i]? = some v → ∃ (t x y : Addr) (vx vy : Int), v = .ref t ∧ (t, tup [.ref x, .ref y]) ∈ nw ∧ DecAt w nw x vx 2 ∧ DecAt w nw y vy 2 ∧ [(min d.f0 d.f2, min d.f1 d.f3), (max d.f0 d.f2, min d.f1 d.f3), (max d.f0 d.f2, max d.f1 d.f3), (min d.f0 d.f2, max d.f1 d.f3)][i]? = some (vx, vy) := by
    intro i v h
    rw [hvs, List.getElem?_toArray] at h
    rcases i with _ | _ | _ | _ | i
    · exact ⟨_, _, _, _, _, (Option.some.inj h).symm, mt0, ma1, mb1, rfl⟩
    · exact ⟨_, _, _, _, _, (Option.some.inj h).symm, mt1, mc1, mb1, rfl⟩
    · exact ⟨_, _, _, _, _, (Option.some.inj h).symm, mt2, mc1, md1, rfl⟩
    · exact ⟨_, _, _, _, _, (Option.some.inj h).symm, mt3, ma1, md1, rfl⟩
    · cases h
  have hit2 : ∀ (i : Nat) (v : Value), [Value.ref p0, .ref p1, .ref p2, .ref p3].toArray[i]? = some v → ∃ (t : Addr) (vx vy : Int) (ux uy : Tok), v = .ref t ∧ (t, tup [.int vx ux, .int vy uy]) ∈ news ∧ [(min d.f0 d.f2, min d.f1 d.f3), (max d.f0 d.f2, min d.f1 d.f3), (max d.f0 d.f2, max d.f1 d.f3), (min d.f0 d.f2, max d.f1 d.f3)][i]? = some (vx, vy) := by
    intro i v h
    rw [List.getElem?_toArray] at h
    rcases i with _ | _ | _ | _ | i
    · exact ⟨_, _, _, _, _, (Option.some.inj h).symm, mp0, rfl⟩
    · exact ⟨_, _, _, _, _, (Option.some.inj h).symm, mp1, rfl⟩
    · exact ⟨_, _, _, _, _, (Option.some.inj h).symm, mp2, rfl⟩
    · exact ⟨_, _, _, _, _, (Option.some.inj h).symm, mp3, rfl⟩
    · cases h
  generalize hpts : [(min d.f0 d.f2, min d.f1 d.f3), (max d.f0 d.f2, min d.f1 d.f3), (max d.f0 d.f2, max d.f1 d.f3), (min d.f0 d.f2, max d.f1 d.f3)] = pts at hit hit2
  try dsimp only
  refine compRestP_ind (fun i ys nx => Sub nw nx ∧ DatAll nx ys ((pts.take i).map toldD)) ?_ ?_ _ 0 [] _ (Nat.zero_add _) ⟨fun _ h => h, DatAll.nil⟩
  · rintro i ys nx v hi hP ⟨hs, hys⟩
    obtain ⟨t, x, y, vx, vy, rfl, ht, hx, hy, hc⟩ := hit i v hP
    refine ⟨t, _, .ref x, .ref y, _, rfl, hs _ ht, rfl, rfl, ?_⟩
    intro I oI C oC D m₂ h tk E' hC hmx hmy F2 N2 off ne
    obtain ⟨d1, q1, q2, q3, q4, hx1, hx2⟩ := hx.mono hs
    obtain ⟨d2, r1, r2, r3, r4, hy1, hy2⟩ := hy.mono hs
    iterate 18 (first | (k_unfold; (try dsimp only)) | (k_end; wrow_close) | walk1 | (dsimp only; walk1))
    try k_unfold
    try dsimp only
    rename News h₀ L _ _ => kN
    rename Fr h₀ L _ _ => kF
    refine comp_end3 kF kN off (by kcf_all) (by kcf_all) (by kcf_all) (by kcf_all) (by kcf_all) (.inr ⟨_, .tail _ (.tail _ (.tail _ (hs _ ml))), rfl, _, rfl⟩) ⟨fun p hp => .tail _ (.tail _ (.tail _ (hs p hp))), ?_⟩
    rw [List.take_add_one, hc, List.map_append]
    exact (hys.mono fun p hp => .tail _ (.tail _ (.tail _ hp))).append (.one (.tuple (.head _) (.cons (.tuple (.tail _ (.tail _ (.head _))) (.cons (.int _ _) (.cons (.int _ _) .nil))) (.cons (.tuple (.tail _ (.head _)) (.cons (.int _ _) (.cons (.int _ _) .nil))) .nil))))
  rintro ys nx ⟨hs, hys⟩
  rw [hlen] at hys
  walk1
  rename_i D1 h2 tk2 F3 N3 o3
  have mco2 : (co, listOf [Value.ref p0, .ref p1, .ref p2, .ref p3].toArray n) ∈ (D1, LCg.lst ys) :: nx := .tail _ (hs _ (sub1 _ mco))
  show wpAny _ _ _ _ _ _
  k_here; lcp_look; lcg_calm
  k_dflt (refine LCp.ListComp_P (F₀ := by k_asm) (by with_unfolding_all rfl) (by decide) (by rfl) (by decide) (by rfl) (by rfl) (by decide) ?_)
  walk1
  refine LCp.SrcLP.ledger (by rfl) F3 N3 mco2 (by exact Nat.le_of_ble_eq_true rfl) ?_
  intro g2
  try dsimp only
  refine compRestP_ind (fun i ys2 nx2 => Sub ((D1, LCg.lst ys) :: nx) nx2 ∧ DatAll nx2 ys2 ((pts.take i).map toldD)) ?_ ?_ _ 0 [] _ (Nat.zero_add _) ⟨fun _ h => h, DatAll.nil⟩
  · rintro i ys2 nx2 v hi hP ⟨hs2, hys2⟩
    obtain ⟨t, vx, vy, ux, uy, rfl, ht, hc⟩ := hit2 i v hP
    refine ⟨t, _, .int vx ux, .int vy uy, _, rfl, hs2 _ (.tail _ (hs _ (sub1 _ ht))), rfl, rfl, ?_⟩
    intro I oI C oC D m₂ h tk E' hC hmx hmy F2 N2 off ne
    iterate 28 (first | (k_unfold; (try dsimp only)) | (k_end; wrow_close) | walk1 | (dsimp only; walk1))
    try k_unfold
    try dsimp only
    rename News h₀ L _ _ => kN
    rename Fr h₀ L _ _ => kF
    refine comp_end3 kF kN off (by kcf_all) (by kcf_all) (by kcf_all) (by kcf_all) (by kcf_all) (.inr ⟨_, .tail _ (.tail _ (.tail _ (hs2 _ mco2))), rfl, _, rfl⟩) ⟨fun p hp => .tail _ (.tail _ (.tail _ (hs2 p hp))), ?_⟩
    rw [List.take_add_one, hc, List.map_append]
    exact (hys2.mono fun p hp => .tail _ (.tail _ (.tail _ hp))).append (.one (.tuple (.head _) (.cons (.tuple (.tail _ (.tail _ (.head _))) (.cons (.int _ _) (.cons (.int _ _) .nil))) (.cons (.tuple (.tail _ (.head _)) (.cons (.int _ _) (.cons (.int _ _) .nil))) .nil))))
  rintro ys2 nx2 ⟨hs2, hys2⟩
  have e4 : [Value.ref p0, .ref p1, .ref p2, .ref p3].toArray.size = 4 := rfl
  rw [e4] at hys2
  walk1
  rename_i D2 h3 tk3 F4 N4 o4
  have hok : ∀ q ∈ (pts.take 4).map toldD, kqdOk 8 q = true := by
    intro q hq
    obtain ⟨x, _, rfl⟩ := List.mem_map.mp hq
    rfl
  show wpAny _ _ _ _ _ _
  refine kqd_ne N4 (.tail _ (hs2 _ (.head _))) rfl rfl hys (fun p hp => .tail _ (hs2 _ (.tail _ hp))) (.head _) rfl rfl hys2 (fun p hp => .tail _ hp) hok hok (by first | units_room | exact Nat.le_of_ble_eq_true rfl) ?_
  simp only [decide_true, Bool.not_true]
  repeat (first | (k_unfold; (try dsimp only)) | (k_end; wrow_close) | walk1 | (dsimp only; walk1))
  exact hnext _ _ _ (Fr_cast F4 (named_eq (named_eq rfl lm.frame) hco).symm) N4 (fun p hp => .tail _ (hs2 _ (.tail _ (hs _ (sub1 _ hp)))))
end
-- P28c3b
/-- where a point goes -/
def goesI (d : LD) (q : Int × Int) : Int × Int := (d.a0 * q.1 + d.a2 * q.2 + 100 * d.a4, d.a1 * q.1 + d.a3 * q.2 + 100 * d.a5)
/-- a pair of ints of the ledger -/
def PairAt (news : Led) (v : Value) (q : Int × Int) : Prop := ∃ t u0 u1, v = .ref t ∧ (t, tup [.int q.1 u0, .int q.2 u1]) ∈ news
theorem PairAt.mono {news news' : Led} {v : Value} {q : Int × Int} (h : PairAt news v q) (s : Sub news news') : PairAt news' v q := let ⟨t, u0, u1, e, hm⟩ := h; ⟨t, u0, u1, e, s _ hm⟩
/-- a list's items, pairs of ints all -/
def PairsAt (news : Led) : List Value → List (Int × Int) → Prop
  | [], [] => True
  | v :: vs, q :: qs => PairAt news v q ∧ PairsAt news vs qs
  | _, _ => False
theorem PairsAt.mono {news news' : Led} (s : Sub news news') : ∀ {vs : List Value} {qs : List (Int × Int)}, PairsAt news vs qs → PairsAt news' vs qs
  | [], [], _ => trivial
  | _ :: _, _ :: _, h => ⟨h.1.mono s, PairsAt.mono s h.2⟩
  | [], _ :: _, h => h.elim
  | _ :: _, [], h => h.elim
theorem PairsAt.snoc {news : Led} {v : Value} {q : Int × Int} (hv : PairAt news v q) : ∀ {vs : List Value} {qs : List (Int × Int)}, PairsAt news vs qs → PairsAt news (vs ++ [v]) (qs ++ [q])
  | [], [], _ => ⟨hv, trivial⟩
  | _ :: _, _ :: _, h => ⟨h.1, PairsAt.snoc hv h.2⟩
  | [], _ :: _, h => h.elim
  | _ :: _, [], h => h.elim
theorem PairsAt.length {news : Led} : ∀ {vs : List Value} {qs : List (Int × Int)}, PairsAt news vs qs → vs.length = qs.length
  | [], [], _ => rfl
  | _ :: _, _ :: _, h => by simp [PairsAt.length h.2]
  | [], _ :: _, h => h.elim
  | _ :: _, [], h => h.elim
theorem PairsAt.at {news : Led} : ∀ {vs : List Value} {qs : List (Int × Int)} {i : Nat} {v : Value}, PairsAt news vs qs → vs[i]? = some v → ∃ q, qs[i]? = some q ∧ PairAt news v q
  | [], [], _, _, _, h => by simp at h
  | _ :: _, q :: _, 0, _, hp, h => ⟨q, rfl, by simp at h; subst h; exact hp.1⟩
  | _ :: _, _ :: _, i + 1, _, hp, h => PairsAt.at (i := i) hp.2 h
  | [], _ :: _, _, _, hp, _ => hp.elim
  | _ :: _, [], _, _, hp, _ => hp.elim
section
variable {w : World} {fa : Addr} {cdA : Value} {h₀ : Heap} {L : Addr} {m : Str → Option Value} {s : Shared} {mean : ExcName → Option Value} {mg mb : Str → Option Value} {Q : Flow → Shared → Prop} {E : Value → Shared → Prop} {news : Led}
theorem law_c3b {d : LD} {co p0 p1 p2 p3 : Addr} {u0 u1 u2 u3 v0 v1 v2 v3 : Tok} {n : Nat} (B : Below callerA h₀ [] h₀) (F : Fr h₀ L s.heap m) (X : (hd.heap_39 w.params).In h₀) (N : News h₀ L s.heap news)
    (T : Top hd.view_39 (looseW hd.view_39 [Str.ofString "PaperError"]) mean mg mb h₀)
    (f : LF w L d news) (b : LB d) (hco : m (Str.ofString "corners") = some (.ref co)) (mco : (co, listOf [.ref p0, .ref p1, .ref p2, .ref p3].toArray n) ∈ news) (mp0 : (p0, tup [.int (min d.f0 d.f2) u0, .int (min d.f1 d.f3) v0]) ∈ news) (mp1 : (p1, tup [.int (max d.f0 d.f2) u1, .int (min d.f1 d.f3) v1]) ∈ news)
    (mp2 : (p2, tup [.int (max d.f0 d.f2) u2, .int (max d.f1 d.f3) v2]) ∈ news) (mp3 : (p3, tup [.int (min d.f0 d.f2) u3, .int (max d.f1 d.f3) v3]) ∈ news)
    (hnext : ∀ (go : Addr) (vs : List Value) (n' : Nat) h' tk' m' news', Fr h₀ L h' m' → News h₀ L h' news' → Sub news news' → m' (Str.ofString "gone") = some (.ref go) → (∀ y, y ≠ Str.ofString "gone" → m' y = m y) → (go, listOf vs.toArray n') ∈ news' → PairsAt news' vs ([(min d.f0 d.f2, min d.f1 d.f3), (max d.f0 d.f2, min d.f1 d.f3), (max d.f0 d.f2, max d.f1 d.f3), (min d.f0 d.f2, max d.f1 d.f3)].map (goesI d)) →
      wpAny (model PySem.Challenge.rw_nn0204_01.row.prog w) (callerA.deeper (envOfC (Str.ofString "law") lawScope L fa cdA)) (execs (lawStmts.drop 17) (envOfC (Str.ofString "law") lawScope L fa cdA)) Q E { s with heap := h', toks := tk' }) :
    wpAny (model PySem.Challenge.rw_nn0204_01.row.prog w) (callerA.deeper (envOfC (Str.ofString "law") lawScope L fa cdA)) (execs (lawStmts.drop 16) (envOfC (Str.ofString "law") lawScope L fa cdA)) Q E s := by
  w_on
  revert X; k_fill; intro X
  have F := Fr_cast F (named_eq rfl hco)
  have e0 : lawStmts.drop 16 = _ :: lawStmts.drop 17 := id rfl
  rw [e0]
  clear e0
  generalize lawStmts.drop 17 = R5 at hnext ⊢
  rw [show lawScope = Scope.mk _ _ _ _ _ from rfl] at hnext ⊢
  have c0 : Ab 24 d.a0 := b.a0.le
  have c1 : Ab 24 d.a1 := b.a1.le
  have c2 : Ab 24 d.a2 := b.a2.le
  have c3 : Ab 24 d.a3 := b.a3.le
  have c4 : Ab 24 d.a4 := b.a4.le
  have c5 : Ab 24 d.a5 := b.a5.le
  obtain ⟨s0, s1, s2, s3, s4, s5, n6, m6⟩ := f.six
  obtain ⟨oc, moc, doc⟩ := f.cell
  have hit2 : ∀ (i : Nat) (v : Value), [Value.ref p0, .ref p1, .ref p2, .ref p3].toArray[i]? = some v → ∃ (t : Addr) (vx vy : Int) (ux uy : Tok), v = .ref t ∧ (t, tup [.int vx ux, .int vy uy]) ∈ news ∧ [(min d.f0 d.f2, min d.f1 d.f3), (max d.f0 d.f2, min d.f1 d.f3), (max d.f0 d.f2, max d.f1 d.f3), (min d.f0 d.f2, max d.f1 d.f3)][i]? = some (vx, vy) := by
    intro i v h
    rw [List.getElem?_toArray] at h
    rcases i with _ | _ | _ | _ | i
    · exact ⟨_, _, _, _, _, (Option.some.inj h).symm, mp0, rfl⟩
    · exact ⟨_, _, _, _, _, (Option.some.inj h).symm, mp1, rfl⟩
    · exact ⟨_, _, _, _, _, (Option.some.inj h).symm, mp2, rfl⟩
    · exact ⟨_, _, _, _, _, (Option.some.inj h).symm, mp3, rfl⟩
    · cases h
  generalize hpts : [(min d.f0 d.f2, min d.f1 d.f3), (max d.f0 d.f2, min d.f1 d.f3), (max d.f0 d.f2, max d.f1 d.f3), (min d.f0 d.f2, max d.f1 d.f3)] = pts at hit2 hnext
  have hlen : pts.length = 4 := by rw [← hpts]; rfl
  iterate 1 (first | (k_unfold; (try dsimp only)) | (k_end; wrow_close) | walk1 | (dsimp only; walk1))
  k_here; lcp_look; lcg_calm
  k_dflt (refine LCp.Assign_ListComp_P (F₀ := by k_asm) (by rfl) (by with_unfolding_all rfl) (by with_unfolding_all rfl) (by decide) (by rfl) (by decide) (by rfl) (by rfl) (by decide) (by rfl) (by rfl) ?_)
  walk1
  refine LCp.SrcLP.ledger (by rfl) F N mco (by exact Nat.le_of_ble_eq_true rfl) ?_
  intro g2
  try dsimp only
  refine compRestP_ind (fun i ys nx => Sub news nx ∧ PairsAt nx ys ((pts.take i).map (goesI d))) ?_ ?_ _ 0 [] _ (Nat.zero_add _) ⟨fun _ h => h, trivial⟩
  · rintro i ys nx v hi hP ⟨hs, hys⟩
    obtain ⟨t, vx, vy, ux, uy, rfl, ht, hc⟩ := hit2 i v hP
    refine ⟨t, _, .int vx ux, .int vy uy, _, rfl, hs _ ht, rfl, rfl, ?_⟩
    intro I oI C oC D m₂ h tk E' hC hmx hmy F2 N2 off ne
    have m6 := hs _ m6
    have moc := hs _ moc
    iterate 13 (first | (k_unfold; (try dsimp only)) | (k_end; wrow_close) | walk1 | (dsimp only; walk1))
    try k_unfold
    try dsimp only
    rename News h₀ L _ _ => kN
    rename Fr h₀ L _ _ => kF
    refine comp_end1 kF kN off (by kcf_all) (by kcf_all) (by kcf_all) (.inr ⟨_, .tail _ (hs _ mco), rfl, _, rfl⟩) ⟨fun p hp => .tail _ (hs p hp), ?_⟩
    rw [List.take_add_one, hc, List.map_append]
    show PairsAt (_ :: nx) (ys ++ [_]) (_ ++ [goesI d (vx, vy)])
    refine' PairsAt.snoc ⟨_, ?u, ?v, rfl, ?hm⟩ (hys.mono fun p hp => .tail _ hp)
    case hm => exact List.Mem.head _
  rintro ys nx ⟨hs, hys⟩
  have e4 : [Value.ref p0, .ref p1, .ref p2, .ref p3].toArray.size = pts.length := hlen.symm
  rw [e4, List.take_length] at hys
  walk1
  rename_i D1 h3 tk3 F4 N4 o4
  refine' hnext D1 ys _ _ _ _ _ F4 N4 (fun p hp => .tail _ (hs _ hp)) ?a ?b (.head _) (hys.mono fun p hp => .tail _ hp)
  case a => exact rfl
  case b =>
    intro y hy
    simp only [hy, if_false]
    exact congrFun (named_eq rfl hco) y
end
-- P28c3c
section
variable {prog : Program} {w : World} {A : Around} {E : Value → Shared → Prop} {s : Shared} {h₀ : Heap} {L l : Addr} {m : Str → Option Value} {news : Led} {vs : List Value} {n0 : Int} {ns : List Int} {n : Nat} {Q : Value → Shared → Prop}
theorem lmin_is {M a : Int} : ∀ {l : List Int}, M ∈ a :: l → (∀ x ∈ a :: l, M ≤ x) → M = lmin a l
  | [], h, _ => List.mem_singleton.mp h
  | b :: l, h, g => by
    show M = lmin (min a b) l
    refine lmin_is ?_ ?_
    · rcases List.mem_cons.mp h with e | h
      · have := g b (.tail _ (.head _))
        rw [show min a b = M by omega]; exact .head _
      · rcases List.mem_cons.mp h with e | h
        · have := g a (.head _)
          rw [show min a b = M by omega]; exact .head _
        · exact .tail _ h
    · intro x hx
      rcases List.mem_cons.mp hx with e | hx
      · have h1 := g a (.head _)
        have h2 := g b (.tail _ (.head _))
        omega
      · exact g x (.tail _ (.tail _ hx))
theorem lmax_is {M a : Int} : ∀ {l : List Int}, M ∈ a :: l → (∀ x ∈ a :: l, x ≤ M) → M = lmax a l
  | [], h, _ => List.mem_singleton.mp h
  | b :: l, h, g => by
    show M = lmax (max a b) l
    refine lmax_is ?_ ?_
    · rcases List.mem_cons.mp h with e | h
      · have := g b (.tail _ (.head _))
        rw [show max a b = M by omega]; exact .head _
      · rcases List.mem_cons.mp h with e | h
        · have := g a (.head _)
          rw [show max a b = M by omega]; exact .head _
        · exact .tail _ h
    · intro x hx
      rcases List.mem_cons.mp hx with e | hx
      · have h1 := g a (.head _)
        have h2 := g b (.tail _ (.head _))
        omega
      · exact g x (.tail _ (.tail _ hx))
theorem min_led (hh : A.handled = none) (F : Fr h₀ L s.heap m) (N : News h₀ L s.heap news) (ml : (l, listOf vs.toArray n) ∈ news) (hi : IntsAre vs (n0 :: ns))
    (h : Ret (∀ t h' tk, Fr h₀ L h' m → News h₀ L h' news → Q (.int (lmin n0 ns) t) { s with heap := h', toks := tk })) : wpAny (model prog w) A (call (.builtin "min") [.ref l]) Q E s :=
  kso_min F N (led_list N ml) hi (Nat.zero_lt_succ _) hh fun h' M t tk F' N' a b => by rw [lmin_is a b]; exact h t h' tk F' N'
theorem max_led (hh : A.handled = none) (F : Fr h₀ L s.heap m) (N : News h₀ L s.heap news) (ml : (l, listOf vs.toArray n) ∈ news) (hi : IntsAre vs (n0 :: ns))
    (h : Ret (∀ t h' tk, Fr h₀ L h' m → News h₀ L h' news → Q (.int (lmax n0 ns) t) { s with heap := h', toks := tk })) : wpAny (model prog w) A (call (.builtin "max") [.ref l]) Q E s :=
  kso_max F N (led_list N ml) hi (Nat.zero_lt_succ _) hh fun h' M t tk F' N' a b => by rw [lmax_is a b]; exact h t h' tk F' N'
end
section
variable {w : World} {fa : Addr} {cdA : Value} {h₀ : Heap} {L : Addr} {m : Str → Option Value} {s : Shared} {mean : ExcName → Option Value} {mg mb : Str → Option Value} {Q : Flow → Shared → Prop} {E : Value → Shared → Prop} {news : Led}
theorem law_c3c {go : Addr} {vs : List Value} {qs : List (Int × Int)} {n : Nat} (B : Below callerA h₀ [] h₀) (F : Fr h₀ L s.heap m) (X : (hd.heap_39 w.params).In h₀) (N : News h₀ L s.heap news)
    (T : Top hd.view_39 (looseW hd.view_39 [Str.ofString "PaperError"]) mean mg mb h₀)
    (hgo : m (Str.ofString "gone") = some (.ref go)) (mgo : (go, listOf vs.toArray n) ∈ news) (hps : PairsAt news vs qs) (hlt : qs.length ≤ 64)
    (hnext : ∀ (ac : Addr) (us : List Value) (n' : Nat) h' tk' m' news', Fr h₀ L h' m' → News h₀ L h' news' → Sub news news' → m' (Str.ofString "across") = some (.ref ac) → (∀ y, y ≠ Str.ofString "across" → m' y = m y) → (ac, listOf us.toArray n') ∈ news' → IntsAre us (qs.map (·.1)) →
      wpAny (model PySem.Challenge.rw_nn0204_01.row.prog w) (callerA.deeper (envOfC (Str.ofString "law") lawScope L fa cdA)) (execs (lawStmts.drop 18) (envOfC (Str.ofString "law") lawScope L fa cdA)) Q E { s with heap := h', toks := tk' }) :
    wpAny (model PySem.Challenge.rw_nn0204_01.row.prog w) (callerA.deeper (envOfC (Str.ofString "law") lawScope L fa cdA)) (execs (lawStmts.drop 17) (envOfC (Str.ofString "law") lawScope L fa cdA)) Q E s := by
  w_on
  revert X; k_fill; intro X
  have F := Fr_cast F (named_eq rfl hgo)
  have e0 : lawStmts.drop 17 = _ :: lawStmts.drop 18 := id rfl
  rw [e0]
  clear e0
  generalize lawStmts.drop 18 = R5 at hnext ⊢
  rw [show lawScope = Scope.mk _ _ _ _ _ from rfl] at hnext ⊢
  have hl := hps.length
  have hsz : vs.toArray.size ≤ sizeLine := by rw [List.size_toArray, hl, sizeLine_eq]; omega
  iterate 1 (first | (k_unfold; (try dsimp only)) | (k_end; wrow_close) | walk1 | (dsimp only; walk1))
  k_here; lcg_look; lcg_calm
  k_dflt (refine LCg.Assign_ListComp_U (F₀ := by k_asm) (by rfl) (by with_unfolding_all rfl) (by rfl) (by decide) (by rfl) (by decide) (by rfl) (by rfl) (by rfl) ?_)
  walk1
  refine LCg.CompSrc.ledger (by rfl) F N mgo hsz ?_
  intro g2
  try dsimp only
  refine compRest_ind (fun i ys nx => news = nx ∧ IntsAre ys ((qs.take i).map (·.1))) ?_ ?_ _ 0 [] _ (Nat.zero_add _) ⟨rfl, .nil⟩
  · rintro i ys nx v I oI C oC D m₂ h tk E' hi hP ⟨rfl, hys⟩ hC hx F2 N2 off ne
    rw [List.getElem?_toArray] at hP
    obtain ⟨q, hq, t, w0, w1, rfl, ht⟩ := hps.at hP
    iterate 4 (first | (k_unfold; (try dsimp only)) | (k_end; wrow_close) | walk1 | (dsimp only; walk1))
    try k_unfold
    try dsimp only
    rename News h₀ L _ _ => kN
    rename Fr h₀ L _ _ => kF
    refine comp_end0 kF kN off (.inr ⟨_, mgo, rfl, _, rfl⟩) ⟨rfl, ?_⟩
    rw [List.take_add_one, hq, List.map_append]
    exact ints_snoc hys _ _
  rintro ys nx ⟨e1, hys⟩
  subst e1
  have e4 : vs.toArray.size = qs.length := by rw [List.size_toArray, hl]
  rw [e4, List.take_length] at hys
  walk1
  rename_i D1 h3 tk3 F4 N4 o4
  refine' hnext D1 ys _ _ _ _ _ F4 N4 (fun p hp => .tail _ hp) ?a ?b (.head _) hys
  case a => exact rfl
  case b =>
    intro y hy
    simp only [hy, if_false]
    exact congrFun (named_eq rfl hgo) y
end
section
variable {w : World} {fa : Addr} {cdA : Value} {h₀ : Heap} {L : Addr} {m : Str → Option Value} {s : Shared} {mean : ExcName → Option Value} {mg mb : Str → Option Value} {Q : Flow → Shared → Prop} {E : Value → Shared → Prop} {news : Led}
theorem law_c3d {go : Addr} {vs : List Value} {qs : List (Int × Int)} {n : Nat} (B : Below callerA h₀ [] h₀) (F : Fr h₀ L s.heap m) (X : (hd.heap_39 w.params).In h₀) (N : News h₀ L s.heap news)
    (T : Top hd.view_39 (looseW hd.view_39 [Str.ofString "PaperError"]) mean mg mb h₀)
    (hgo : m (Str.ofString "gone") = some (.ref go)) (mgo : (go, listOf vs.toArray n) ∈ news) (hps : PairsAt news vs qs) (hlt : qs.length ≤ 64)
    (hnext : ∀ (ac : Addr) (us : List Value) (n' : Nat) h' tk' m' news', Fr h₀ L h' m' → News h₀ L h' news' → Sub news news' → m' (Str.ofString "upward") = some (.ref ac) → (∀ y, y ≠ Str.ofString "upward" → m' y = m y) → (ac, listOf us.toArray n') ∈ news' → IntsAre us (qs.map (·.2)) →
      wpAny (model PySem.Challenge.rw_nn0204_01.row.prog w) (callerA.deeper (envOfC (Str.ofString "law") lawScope L fa cdA)) (execs (lawStmts.drop 19) (envOfC (Str.ofString "law") lawScope L fa cdA)) Q E { s with heap := h', toks := tk' }) :
    wpAny (model PySem.Challenge.rw_nn0204_01.row.prog w) (callerA.deeper (envOfC (Str.ofString "law") lawScope L fa cdA)) (execs (lawStmts.drop 18) (envOfC (Str.ofString "law") lawScope L fa cdA)) Q E s := by
  w_on
  revert X; k_fill; intro X
  have F := Fr_cast F (named_eq rfl hgo)
  have e0 : lawStmts.drop 18 = _ :: lawStmts.drop 19 := id rfl
  rw [e0]
  clear e0
  generalize lawStmts.drop 19 = R5 at hnext ⊢
  rw [show lawScope = Scope.mk _ _ _ _ _ from rfl] at hnext ⊢
  have hl := hps.length
  have hsz : vs.toArray.size ≤ sizeLine := by rw [List.size_toArray, hl, sizeLine_eq]; omega
  iterate 1 (first | (k_unfold; (try dsimp only)) | (k_end; wrow_close) | walk1 | (dsimp only; walk1))
  k_here; lcg_look; lcg_calm
  k_dflt (refine LCg.Assign_ListComp_U (F₀ := by k_asm) (by rfl) (by with_unfolding_all rfl) (by rfl) (by decide) (by rfl) (by decide) (by rfl) (by rfl) (by rfl) ?_)
  walk1
  refine LCg.CompSrc.ledger (by rfl) F N mgo hsz ?_
  intro g2
  try dsimp only
  refine compRest_ind (fun i ys nx => news = nx ∧ IntsAre ys ((qs.take i).map (·.2))) ?_ ?_ _ 0 [] _ (Nat.zero_add _) ⟨rfl, .nil⟩
  · rintro i ys nx v I oI C oC D m₂ h tk E' hi hP ⟨rfl, hys⟩ hC hx F2 N2 off ne
    rw [List.getElem?_toArray] at hP
    obtain ⟨q, hq, t, w0, w1, rfl, ht⟩ := hps.at hP
    iterate 4 (first | (k_unfold; (try dsimp only)) | (k_end; wrow_close) | walk1 | (dsimp only; walk1))
    try k_unfold
    try dsimp only
    rename News h₀ L _ _ => kN
    rename Fr h₀ L _ _ => kF
    refine comp_end0 kF kN off (.inr ⟨_, mgo, rfl, _, rfl⟩) ⟨rfl, ?_⟩
    rw [List.take_add_one, hq, List.map_append]
    exact ints_snoc hys _ _
  rintro ys nx ⟨e1, hys⟩
  subst e1
  have e4 : vs.toArray.size = qs.length := by rw [List.size_toArray, hl]
  rw [e4, List.take_length] at hys
  walk1
  rename_i D1 h3 tk3 F4 N4 o4
  refine' hnext D1 ys _ _ _ _ _ F4 N4 (fun p hp => .tail _ hp) ?a ?b (.head _) hys
  case a => exact rfl
  case b =>
    intro y hy
    simp only [hy, if_false]
    exact congrFun (named_eq rfl hgo) y
end
-- P28c3e
local macro_rules | `(tactic| walk_at "call builtin:min") => `(tactic| ((with_reducible show wpAny _ _ (call (Value.builtin _) [Value.ref _]) _ _ _); k_dflt (refine' min_led _ _ _ _ _ _; keq_rows)))
local macro_rules | `(tactic| walk_at "call builtin:max") => `(tactic| ((with_reducible show wpAny _ _ (call (Value.builtin _) [Value.ref _]) _ _ _); k_dflt (refine' max_led _ _ _ _ _ _; keq_rows)))
section
variable {w : World} {fa : Addr} {cdA : Value} {h₀ : Heap} {L : Addr} {m : Str → Option Value} {s : Shared} {mean : ExcName → Option Value} {mg mb : Str → Option Value} {Q : Flow → Shared → Prop} {E : Value → Shared → Prop} {news : Led}
theorem law_c3e {ac up : Addr} {us vs : List Value} {x0 y0 : Int} {xs ys : List Int} {n n2 : Nat} (B : Below callerA h₀ [] h₀) (F : Fr h₀ L s.heap m) (X : (hd.heap_39 w.params).In h₀) (N : News h₀ L s.heap news)
    (T : Top hd.view_39 (looseW hd.view_39 [Str.ofString "PaperError"]) mean mg mb h₀)
    (hac : m (Str.ofString "across") = some (.ref ac)) (hup : m (Str.ofString "upward") = some (.ref up)) (mac : (ac, listOf us.toArray n) ∈ news) (mup : (up, listOf vs.toArray n2) ∈ news) (ix : IntsAre us (x0 :: xs)) (iy : IntsAre vs (y0 :: ys))
    (hnext : ∀ (du : Addr) (t0 t1 t2 t3 : Tok) h' tk' m' news', Fr h₀ L h' m' → News h₀ L h' news' → Sub news news' → m' (Str.ofString "due") = some (.ref du) → (∀ y, y ≠ Str.ofString "due" → m' y = m y) → (du, tup [.int (lmin x0 xs) t0, .int (lmin y0 ys) t1, .int (lmax x0 xs) t2, .int (lmax y0 ys) t3]) ∈ news' →
      wpAny (model PySem.Challenge.rw_nn0204_01.row.prog w) (callerA.deeper (envOfC (Str.ofString "law") lawScope L fa cdA)) (execs (lawStmts.drop 20) (envOfC (Str.ofString "law") lawScope L fa cdA)) Q E { s with heap := h', toks := tk' }) :
    wpAny (model PySem.Challenge.rw_nn0204_01.row.prog w) (callerA.deeper (envOfC (Str.ofString "law") lawScope L fa cdA)) (execs (lawStmts.drop 19) (envOfC (Str.ofString "law") lawScope L fa cdA)) Q E s := by
  w_on
  revert X; k_fill; intro X
  have F := Fr_cast F (named_eq (named_eq rfl hac) hup)
  have e0 : lawStmts.drop 19 = _ :: lawStmts.drop 20 := id rfl
  rw [e0]
  clear e0
  generalize lawStmts.drop 20 = R5 at hnext ⊢
  rw [show lawScope = Scope.mk _ _ _ _ _ from rfl] at hnext ⊢
  repeat (first | (k_unfold; (try dsimp only)) | (k_end; wrow_close) | walk1 | (dsimp only; walk1))
  rename News h₀ L _ _ => kN
  rename Fr h₀ L _ _ => kF
  refine' hnext _ _ _ _ _ _ _ _ _ kF kN (fun p hp => .tail _ hp) ?a ?b (.head _)
  case a => exact rfl
  case b =>
    intro y hy
    simp only [hy, if_false]
    exact congrFun (named_eq (named_eq rfl hac) hup) y
end
section
variable {w : World} {fa : Addr} {cdA : Value} {h₀ : Heap} {L : Addr} {m : Str → Option Value} {s : Shared} {mean : ExcName → Option Value} {mg mb : Str → Option Value} {Q : Flow → Shared → Prop} {E : Value → Shared → Prop} {news : Led}
theorem law_c3f {ar du ha hb hc hd' : Addr} {X0 Y0 X1 Y1 : Int} {t0 t1 t2 t3 : Tok} (B : Below callerA h₀ [] h₀) (F : Fr h₀ L s.heap m) (X : (hd.heap_39 w.params).In h₀) (N : News h₀ L s.heap news)
    (T : Top hd.view_39 (looseW hd.view_39 [Str.ofString "PaperError"]) mean mg mb h₀)
    (har : m (Str.ofString "around") = some (.ref ar)) (hdu : m (Str.ofString "due") = some (.ref du)) (mar : (ar, tup [.ref ha, .ref hb, .ref hc, .ref hd']) ∈ news) (mdu : (du, tup [.int X0 t0, .int Y0 t1, .int X1 t2, .int Y1 t3]) ∈ news)
    (da : DecAt w news ha X0 4) (db : DecAt w news hb Y0 4) (dc : DecAt w news hc X1 4) (dd : DecAt w news hd' Y1 4)
    (hnext : ∀ h' tk', Fr h₀ L h' m → News h₀ L h' news → 
      wpAny (model PySem.Challenge.rw_nn0204_01.row.prog w) (callerA.deeper (envOfC (Str.ofString "law") lawScope L fa cdA)) (execs (lawStmts.drop 21) (envOfC (Str.ofString "law") lawScope L fa cdA)) Q E { s with heap := h', toks := tk' }) :
    wpAny (model PySem.Challenge.rw_nn0204_01.row.prog w) (callerA.deeper (envOfC (Str.ofString "law") lawScope L fa cdA)) (execs (lawStmts.drop 20) (envOfC (Str.ofString "law") lawScope L fa cdA)) Q E s := by
  w_on
  revert X; k_fill; intro X
  have F := Fr_cast F (named_eq (named_eq rfl har) hdu)
  have e0 : lawStmts.drop 20 = _ :: lawStmts.drop 21 := id rfl
  rw [e0]
  clear e0
  generalize lawStmts.drop 21 = R5 at hnext ⊢
  rw [show lawScope = Scope.mk _ _ _ _ _ from rfl] at hnext ⊢
  repeat (first | (k_unfold; (try dsimp only)) | (k_end; wrow_close) | walk1 | (dsimp only; walk1))
  rename News h₀ L _ _ => kN
  rename Fr h₀ L _ _ => kF
  exact hnext _ _ (Fr_cast kF (named_eq (named_eq rfl har) hdu).symm) kN
end
-- P28c4a
theorem PairsAt.snoc2 {news : Led} {v u : Value} {q r : Int × Int} {vs : List Value} {qs : List (Int × Int)} (h : PairsAt news vs qs) (hv : PairAt news v q) (hu : PairAt news u r) : PairsAt news (vs ++ [v, u]) (qs ++ [q, r]) := by
  have e1 : vs ++ [v, u] = (vs ++ [v]) ++ [u] := by simp
  have e2 : qs ++ [q, r] = (qs ++ [q]) ++ [r] := by simp
  rw [e1, e2]
  exact PairsAt.snoc hu (PairsAt.snoc hv h)
section
variable {w : World} {fa : Addr} {cdA : Value} {h₀ : Heap} {L : Addr} {m : Str → Option Value} {s : Shared} {mean : ExcName → Option Value} {mg mb : Str → Option Value} {Q : Flow → Shared → Prop} {E : Value → Shared → Prop} {news : Led}
theorem law_c4a {d : LD} {co p0 p1 p2 p3 : Addr} {u0 u1 u2 u3 v0 v1 v2 v3 : Tok} {n : Nat} (B : Below callerA h₀ [] h₀) (F : Fr h₀ L s.heap m) (X : (hd.heap_39 w.params).In h₀) (N : News h₀ L s.heap news)
    (T : Top hd.view_39 (looseW hd.view_39 [Str.ofString "PaperError"]) mean mg mb h₀)
    (f : LF w L d news) (b : LB d) (lm : LM d m) (hco : m (Str.ofString "corners") = some (.ref co)) (mco : (co, listOf [.ref p0, .ref p1, .ref p2, .ref p3].toArray n) ∈ news) (mp0 : (p0, tup [.int (min d.f0 d.f2) u0, .int (min d.f1 d.f3) v0]) ∈ news) (mp1 : (p1, tup [.int (max d.f0 d.f2) u1, .int (min d.f1 d.f3) v1]) ∈ news)
    (mp2 : (p2, tup [.int (max d.f0 d.f2) u2, .int (max d.f1 d.f3) v2]) ∈ news) (mp3 : (p3, tup [.int (min d.f0 d.f2) u3, .int (max d.f1 d.f3) v3]) ∈ news)
    (hnext : ∀ (po : Addr) (vs : List Value) (n' : Nat) h' tk' m' news', Fr h₀ L h' m' → News h₀ L h' news' → Sub news news' → m' (Str.ofString "points") = some (.ref po) → (∀ y, y ≠ Str.ofString "points" → m' y = m y) → (po, listOf vs.toArray n') ∈ news' → PairsAt news' vs ([(min d.f0 d.f2, min d.f1 d.f3), (max d.f0 d.f2, min d.f1 d.f3), (max d.f0 d.f2, max d.f1 d.f3), (min d.f0 d.f2, max d.f1 d.f3)] ++ [(min d.f0 d.f2 - 1, min d.f1 d.f3), (max d.f0 d.f2, max d.f1 d.f3 + 1)]) →
      wpAny (model PySem.Challenge.rw_nn0204_01.row.prog w) (callerA.deeper (envOfC (Str.ofString "law") lawScope L fa cdA)) (execs (lawStmts.drop 22) (envOfC (Str.ofString "law") lawScope L fa cdA)) Q E { s with heap := h', toks := tk' }) :
    wpAny (model PySem.Challenge.rw_nn0204_01.row.prog w) (callerA.deeper (envOfC (Str.ofString "law") lawScope L fa cdA)) (execs (lawStmts.drop 21) (envOfC (Str.ofString "law") lawScope L fa cdA)) Q E s := by
  w_on
  revert X; k_fill; intro X
  have F := Fr_cast F (named_eq (named_eq rfl hco) lm.sides)
  have e0 : lawStmts.drop 21 = _ :: lawStmts.drop 22 := id rfl
  rw [e0]
  clear e0
  generalize lawStmts.drop 22 = R5 at hnext ⊢
  rw [show lawScope = Scope.mk _ _ _ _ _ from rfl] at hnext ⊢
  obtain ⟨s0, s1, s2, s3, ms⟩ := f.sides
  have hit2 : ∀ (i : Nat) (v : Value), [Value.ref p0, .ref p1, .ref p2, .ref p3].toArray[i]? = some v → ∃ (t : Addr) (vx vy : Int) (ux uy : Tok), v = .ref t ∧ (t, tup [.int vx ux, .int vy uy]) ∈ news ∧ [(min d.f0 d.f2, min d.f1 d.f3), (max d.f0 d.f2, min d.f1 d.f3), (max d.f0 d.f2, max d.f1 d.f3), (min d.f0 d.f2, max d.f1 d.f3)][i]? = some (vx, vy) := by
    intro i v h
    rw [List.getElem?_toArray] at h
    rcases i with _ | _ | _ | _ | i
    · exact ⟨_, _, _, _, _, (Option.some.inj h).symm, mp0, rfl⟩
    · exact ⟨_, _, _, _, _, (Option.some.inj h).symm, mp1, rfl⟩
    · exact ⟨_, _, _, _, _, (Option.some.inj h).symm, mp2, rfl⟩
    · exact ⟨_, _, _, _, _, (Option.some.inj h).symm, mp3, rfl⟩
    · cases h
  generalize hpts : [(min d.f0 d.f2, min d.f1 d.f3), (max d.f0 d.f2, min d.f1 d.f3), (max d.f0 d.f2, max d.f1 d.f3), (min d.f0 d.f2, max d.f1 d.f3)] = pts at hit2 hnext
  have hlen : pts.length = 4 := by rw [← hpts]; rfl
  iterate 3 (first | (k_unfold; (try dsimp only)) | (k_end; wrow_close) | walk1 | (dsimp only; walk1))
  k_here; lcp_look; lcg_calm
  k_dflt (refine LCp.ListComp_P (F₀ := by k_asm) (by with_unfolding_all rfl) (by decide) (by rfl) (by decide) (by rfl) (by rfl) (by decide) ?_)
  walk1
  refine LCp.SrcLP.ledger (by rfl) F N mco (by exact Nat.le_of_ble_eq_true rfl) ?_
  intro g2
  try dsimp only
  refine compRestP_ind (fun i ys nx => Sub news nx ∧ PairsAt nx ys (pts.take i)) ?_ ?_ _ 0 [] _ (Nat.zero_add _) ⟨fun _ h => h, trivial⟩
  · rintro i ys nx v hi hP ⟨hs, hys⟩
    obtain ⟨t, vx, vy, ux, uy, rfl, ht, hc⟩ := hit2 i v hP
    refine ⟨t, _, .int vx ux, .int vy uy, _, rfl, hs _ ht, rfl, rfl, ?_⟩
    intro I oI C oC D m₂ h tk E' hC hmx hmy F2 N2 off ne
    iterate 7 (first | (k_unfold; (try dsimp only)) | (k_end; wrow_close) | walk1 | (dsimp only; walk1))
    try k_unfold
    try dsimp only
    rename News h₀ L _ _ => kN
    rename Fr h₀ L _ _ => kF
    refine comp_end1 kF kN off (by kcf_all) (by kcf_all) (by kcf_all) (.inr ⟨_, .tail _ (hs _ mco), rfl, _, rfl⟩) ⟨fun p hp => .tail _ (hs p hp), ?_⟩
    rw [List.take_add_one, hc]
    exact PairsAt.snoc (q := (vx, vy)) ⟨_, _, _, rfl, .head _⟩ (hys.mono fun p hp => .tail _ hp)
  rintro ys nx ⟨hs, hys⟩
  have e4 : [Value.ref p0, .ref p1, .ref p2, .ref p3].toArray.size = pts.length := hlen.symm
  rw [e4, List.take_length] at hys
  walk1
  rename_i D1 h3 tk3 F4 N4 o4
  have ms := hs _ ms
  repeat (first | (k_unfold; (try dsimp only)) | (k_end; wrow_close) | walk1 | (dsimp only; walk1))
  rename News h₀ L _ _ => kN
  rename Fr h₀ L _ _ => kF
  dsimp only at kN kF ⊢
  refine add_lists kF kN (vs := ys) (led_list kN (.tail _ (.tail _ (.tail _ (.head _))))) (led_list kN (.head _)) (fun h' F' N' => ?_) ?hz
  case hz =>
    have e := hys.length
    rw [sizeLine_eq, e, hlen]
    exact (show 4 + 2 ≤ 16777216 by decide)
  try dsimp only
  walk1
  rename News h₀ L _ _ => kN2
  rename Fr h₀ L _ _ => kF2
  refine' hnext _ _ _ _ _ _ _ kF2 kN2 (fun p hp => .tail _ (.tail _ (.tail _ (.tail _ (.tail _ (hs _ hp)))))) ?a ?b (.head _) (PairsAt.snoc2 (hys.mono fun p hp => .tail _ (.tail _ (.tail _ (.tail _ (.tail _ hp))))) ⟨_, _, _, rfl, .tail _ (.tail _ (.tail _ (.head _)))⟩ ⟨_, _, _, rfl, .tail _ (.tail _ (.head _))⟩)
  case a => exact rfl
  case b =>
    intro y hy
    simp only [hy, if_false]
    exact congrFun (named_eq (named_eq rfl hco) lm.sides) y
end
-- P28keep
/-- no list that begins with a reference and has not four items: neither the pen's nor the points' -/
def NP (o : Obj) : Prop := ∀ its n, o = listOf its n → its.size = 4 ∨ its.size = 0 ∨ ∃ v t, its[0]? = some (Value.int v t)
theorem NP.inst {C dx : Addr} : NP (instObj C dx) := fun its n h => by have := congrArg Obj.cls h; cases this
theorem NP.dict {es : List DictEntry} {k : Nat} : NP (dictOf es k) := fun its n h => by have := congrArg Obj.data h; cases this
theorem NP.tuple {vs : List Value} : NP (tup vs) := fun its n h => by have := congrArg Obj.cls h; simp at this
theorem NP.cell {o : Obj} {v : Option Value} (e : o.data = .cell v) : NP o := fun its n h => by have := congrArg Obj.data h; rw [e] at this; cases this
theorem NP.list {vs : List Value} {k : Nat} (h : vs.length = 4 ∨ vs.length = 0 ∨ ∃ v t, vs[0]? = some (Value.int v t)) : NP (listOf vs.toArray k) := fun its n e => by
  have := congrArg Obj.data e
  injection this with e1
  subst e1
  simpa using h
theorem NP.ints {vs : List Value} {ns : List Int} {k : Nat} (h : IntsAre vs ns) : NP (listOf vs.toArray k) := by
  cases h with
  | nil => exact NP.list (.inr (.inl rfl))
  | cons n t r => exact NP.list (.inr (.inr ⟨_, _, rfl⟩))
theorem NP.ne_pen {o oP : Obj} {cl : Addr} {n : Nat} {b : Int} (h : NP o) (hp : PenAt cl n b oP) : o ≠ oP := by
  rintro rfl
  obtain ⟨a, r, ts, tr, rfl, _, _, _⟩ := hp
  rcases h _ _ rfl with h | h | ⟨v, t, h⟩
  · simp at h
  · simp at h
  · simp at h
theorem NP.ne_pts {o : Obj} {vs : List Value} {n : Nat} {news : Led} {qs : List (Int × Int)} (h : NP o) (hp : PairsAt news vs qs) (hq : qs.length = 6) : o ≠ listOf vs.toArray n := by
  rintro rfl
  have hl := hp.length
  rcases h _ _ rfl with h | h | ⟨v, t, h⟩
  · simp [hl, hq] at h
  · simp at h; subst h; simp at hl; omega
  · rw [List.getElem?_toArray] at h
    obtain ⟨q, _, t', u0, u1, e, _⟩ := hp.at h
    cases e
/-- what the ledger keeps besides two of its entries -/
structure Keeps (news nw : Led) : Prop where
  k : ∀ x o, (x, o) ∈ news → NP o → (x, o) ∈ nw
theorem DecAt.keep {w : World} {news nw : Led} {x : Addr} {v : Int} {k : Nat} (h : DecAt w news x v k) (K : Keeps news nw) : DecAt w nw x v k :=
  let ⟨d, u, a, b, v, h1, h2⟩ := h; ⟨d, u, a, b, v, K.k _ _ h1 .inst, K.k _ _ h2 .dict⟩
theorem MatAt.keep {w : World} {news nw : Led} {M : Addr} {a b c d e f : Int} {k : Nat} (h : MatAt w news M a b c d e f k) (K : Keeps news nw) : MatAt w nw M a b c d e f k :=
  let ⟨d, x0, x1, x2, x3, x4, x5, t0, t1, t2, t3, t4, t5, h1, h2, a, b, c, e, f, g⟩ := h
  ⟨d, x0, x1, x2, x3, x4, x5, t0, t1, t2, t3, t4, t5, K.k _ _ h1 .inst, K.k _ _ h2 .dict, a.keep K, b.keep K, c.keep K, e.keep K, f.keep K, g.keep K⟩
theorem LF.keep {w : World} {L : Addr} {d : LD} {news nw : Led} (x : LF w L d news) (K : Keeps news nw) : LF w L d nw where
  cells := let ⟨vs, ns, n2, h1, h2, h3⟩ := x.cells; ⟨vs, ns, n2, K.k _ _ h1 (.ints h2), h2, h3⟩
  six := let ⟨t0, t1, t2, t3, t4, t5, n, h⟩ := x.six; ⟨t0, t1, t2, t3, t4, t5, n, K.k _ _ h (.list (.inr (.inr ⟨_, _, rfl⟩)))⟩
  cell := let ⟨o, h, e⟩ := x.cell; ⟨o, K.k _ _ h (.cell e), e⟩
  mat := x.mat.keep K
  nums := let ⟨n, h⟩ := x.nums; ⟨n, K.k _ _ h (.list (.inl rfl))⟩
  num0 := x.num0.keep K
  num1 := x.num1.keep K
  num2 := x.num2.keep K
  num3 := x.num3.keep K
  frame := K.k _ _ x.frame .tuple
  fa := x.fa.keep K
  fb := x.fb.keep K
  fc := x.fc.keep K
  fd := x.fd.keep K
  sides := let ⟨u0, u1, u2, u3, h⟩ := x.sides; ⟨u0, u1, u2, u3, K.k _ _ h .tuple⟩
  second := K.k _ _ x.second .tuple
  ga := x.ga.keep K
  gb := x.gb.keep K
  gc := x.gc.keep K
  gd := x.gd.keep K
  others := let ⟨u0, u1, u2, u3, h⟩ := x.others; ⟨u0, u1, u2, u3, K.k _ _ h .tuple⟩
theorem LR.keep {w : World} {d : LD} {news nw : Led} {ar x y z u : Addr} (r : LR w d news ar x y z u) (K : Keeps news nw) : LR w d nw ar x y z u :=
  ⟨K.k _ _ r.box .tuple, r.x0.keep K, r.y0.keep K, r.x1.keep K, r.y1.keep K⟩
theorem PairsAt.keep {news nw : Led} (K : Keeps news nw) : ∀ {vs : List Value} {qs : List (Int × Int)}, PairsAt news vs qs → PairsAt nw vs qs
  | [], [], _ => trivial
  | _ :: _, _ :: _, h => ⟨let ⟨t, u0, u1, e, hm⟩ := h.1; ⟨t, u0, u1, e, K.k _ _ hm .tuple⟩, PairsAt.keep K h.2⟩
  | [], _ :: _, h => h.elim
  | _ :: _, [], h => h.elim
/-- the pen and the points taken out of the ledger -/
theorem led_split {h₀ h : Heap} {L P po cl : Addr} {o : Obj} {n k : Nat} {b : Int} {vs : List Value} {qs : List (Int × Int)} {news : Led} (N : News h₀ L h news) (mP : (P, o) ∈ news) (hp : PenAt cl n b o) (mL : (po, listOf vs.toArray k) ∈ news) (hps : PairsAt news vs qs) (hq : qs.length = 6) :
    ∃ nw, News h₀ L h ((P, o) :: (po, listOf vs.toArray k) :: nw) ∧ (∀ p ∈ nw, p.1 ≠ P) ∧ (∀ p ∈ nw, p.1 ≠ po) ∧ po ≠ P ∧ Keeps news nw := by
  refine ⟨news.filter (fun p => !decide (p.1 = P) && !decide (p.1 = po)), ?_, ?_, ?_, ?_, ⟨?_⟩⟩
  · intro p hp
    rcases List.mem_cons.mp hp with rfl | hp
    · exact N _ mP
    · rcases List.mem_cons.mp hp with rfl | hp
      · exact N _ mL
      · exact N _ (List.mem_filter.mp hp).1
  · intro p hp; have := (List.mem_filter.mp hp).2; simp at this; exact this.1
  · intro p hp; have := (List.mem_filter.mp hp).2; simp at this; exact this.2
  · intro e
    have h1 := (N _ mP).1
    have h2 := (N _ mL).1
    rw [show (po, listOf vs.toArray k).1 = P from e, h1] at h2
    have e2 : o = listOf vs.toArray k := Option.some.inj h2
    obtain ⟨a, r, ts, tr, e3, _, _, _⟩ := hp
    rw [e3] at e2
    have := congrArg Obj.data e2
    injection this with e4
    have hl := hps.length
    have := congrArg Array.size e4
    simp at this
    omega
  · intro x o1 hm hn
    refine List.mem_filter.mpr ⟨hm, ?_⟩
    have h0 := (N _ hm).1
    have a1 : x ≠ P := fun e => hn.ne_pen hp (by have h1 := (N _ mP).1; rw [← e] at h1; exact Option.some.inj (h0.symm.trans h1))
    have a2 : x ≠ po := fun e => hn.ne_pts hps hq (by have h1 := (N _ mL).1; rw [← e] at h1; exact Option.some.inj (h0.symm.trans h1))
    simp [a1, a2]
-- P28c4b
local macro_rules | `(tactic| k_all) => `(tactic| (with_reducible assumption))
local macro_rules | `(tactic| walk_at "call builtin:list.append") => `(tactic| (k_here; k_dflt (refine' append_K ?k1 ?k2 ?k3 ?_ ?z; (case k1 => k_asm); (case k2 => k_asm); (case k3 => k_upd); (case z => first | assumption | (rw [Array.size_push]; assumption)); k_whole); intro h' F' N'; (try k_sweep)))
theorem side_ok {x y : Int} (hx : Ab 10 x) (hy : Ab 10 y) : 0 < max x y - min x y + 1 ∧ max x y - min x y + 1 ≤ 1000000 := by
  unfold Ab at hx hy
  rcases Int.le_total x y with h | h
  · rw [Int.max_eq_right h, Int.min_eq_left h]; omega
  · rw [Int.max_eq_left h, Int.min_eq_right h]; omega
theorem LM.keep {d : LD} {m m' : Str → Option Value} (x : LM d m) (h : ∀ y, y ≠ Str.ofString "turn" → y ≠ Str.ofString "x" → y ≠ Str.ofString "y" → m' y = m y) : LM d m' where
  pen := (h _ (by decide) (by decide) (by decide)).trans x.pen
  m_ := (h _ (by decide) (by decide) (by decide)).trans x.m_
  numbers := (h _ (by decide) (by decide) (by decide)).trans x.numbers
  frame := (h _ (by decide) (by decide) (by decide)).trans x.frame
  sides := (h _ (by decide) (by decide) (by decide)).trans x.sides
  second := (h _ (by decide) (by decide) (by decide)).trans x.second
  others := (h _ (by decide) (by decide) (by decide)).trans x.others
/-- the turns' invariant -/
def J4 (d : LD) (po : Addr) (nw : Led) (m : Str → Option Value) (i : Nat) (m₁ : Str → Option Value) (nx : Led) : Prop :=
  ∃ o vs qs n rest, nx = (d.P, o) :: (po, listOf vs.toArray n) :: rest ∧ Sub nw rest ∧ (∀ p ∈ rest, p.1 ≠ d.P) ∧ (∀ p ∈ rest, p.1 ≠ po) ∧ PenAt d.cl 0 (100 + 4 * (i : Int)) o ∧ PairsAt rest vs qs ∧ qs.length = 6 + 2 * i ∧ (∀ q ∈ qs, Ab 12 q.1 ∧ Ab 12 q.2) ∧ ∀ y, y ≠ Str.ofString "turn" → y ≠ Str.ofString "x" → y ≠ Str.ofString "y" → m₁ y = m y
theorem ab_side {l r t : Int} (h0 : 0 ≤ t) (h1 : t < r - l + 1) (hl : Ab 10 l) (hr : Ab 10 r) : Ab 12 (l + t) := by
  unfold Ab at *; omega
theorem ab_free {t : Int} (h0 : 0 ≤ t) (h1 : t < 2000) : Ab 12 (t - 1000) := by unfold Ab; omega
theorem PairsAt.snoc2' {news : Led} {v u : Value} {q r : Int × Int} {vs : List Value} {qs : List (Int × Int)} (h : PairsAt news vs qs) (hv : PairAt news v q) (hu : PairAt news u r) : PairsAt news (vs ++ [v, u]) (qs ++ [q, r]) := by
  have e1 : vs ++ [v, u] = (vs ++ [v]) ++ [u] := by simp
  have e2 : qs ++ [q, r] = (qs ++ [q]) ++ [r] := by simp
  rw [e1, e2]
  exact PairsAt.snoc hu (PairsAt.snoc hv h)
theorem c4_fin {h₀ h' : Heap} {L I T1 T2 po : Addr} {d : LD} {m m2 : Str → Option Value} {s₁ : Shared} {oI o' : Obj} {nw rest : Led} {vs : List Value} {qs : List (Int × Int)} {lo bo ro to c a e g bb : Int} {t0 t1 t2 t3 : Tok} {i n tk : Nat}
    (kF : Fr h₀ L h' m2) (kN : News h₀ L h' ((T2, tup [.int (e - 1000) t2, .int (g - 1000) t3]) :: (T1, tup [.int (lo + c) t0, .int (bo + a) t1]) :: (I, oI) :: (d.P, o') :: (po, listOf ((vs.toArray.push (.ref T1)).push (.ref T2)) n) :: rest))
    (c0 : 0 ≤ c) (c1 : c < ro - lo + 1) (a0 : 0 ≤ a) (a1 : a < to - bo + 1) (e0 : 0 ≤ e) (e1 : e < 2000) (g0 : 0 ≤ g) (g1 : g < 2000) (b0 : Ab 10 lo) (b1 : Ab 10 ro) (b2 : Ab 10 bo) (b3 : Ab 10 to)
    (hp : PenAt d.cl 0 bb o') (hbb : bb ≤ 100 + 4 * ((i + 1 : Nat) : Int)) (hq : PairsAt rest vs qs) (hl : qs.length = 6 + 2 * i) (hb : ∀ q ∈ qs, Ab 12 q.1 ∧ Ab 12 q.2)
    (hs : Sub nw rest) (hP : ∀ p ∈ rest, p.1 ≠ d.P) (hL : ∀ p ∈ rest, p.1 ≠ po) (hI : ∀ p ∈ rest, p.1 ≠ I) (n1 : @Ne Nat d.P I) (n2 : @Ne Nat po I) (n3 : @LT.lt Nat _ I T1) (n4 : @LT.lt Nat _ d.P T1) (n5 : @LT.lt Nat _ po T1) (n6 : @LT.lt Nat _ T1 T2)
    (hm : ∀ y, y ≠ Str.ofString "turn" → y ≠ Str.ofString "x" → y ≠ Str.ofString "y" → m2 y = m y) : UnrEnd h₀ L s₁ I oI (J4 d po nw m (i + 1)) { s₁ with heap := h', toks := tk } := by
  have ev : (vs.toArray.push (Value.ref T1)).push (Value.ref T2) = (vs ++ [Value.ref T1, Value.ref T2]).toArray := by simp
  rw [ev] at kN
  refine UnrEnd.intro kF kN ((d.P, o') :: (po, listOf (vs ++ [Value.ref T1, Value.ref T2]).toArray n) :: (T2, tup [.int (e - 1000) t2, .int (g - 1000) t3]) :: (T1, tup [.int (lo + c) t0, .int (bo + a) t1]) :: rest) ?_ ?_
    ⟨o', vs ++ [Value.ref T1, Value.ref T2], qs ++ [(lo + c, bo + a), (e - 1000, g - 1000)], n, (T2, tup [.int (e - 1000) t2, .int (g - 1000) t3]) :: (T1, tup [.int (lo + c) t0, .int (bo + a) t1]) :: rest, rfl, fun p hp => .tail _ (.tail _ (hs p hp)), ?_, ?_, hp.le hbb,
      (hq.mono fun p hp => .tail _ (.tail _ hp)).snoc2' ⟨T1, t0, t1, rfl, .tail _ (.head _)⟩ ⟨T2, t2, t3, rfl, .head _⟩, ?_, ?_, hm⟩
  · intro p hp
    simp only [List.mem_cons] at hp ⊢
    rcases hp with h | h | h | h | h | h <;> simp only [h, true_or, or_true]
  · intro p hp
    simp only [List.mem_cons] at hp
    rcases hp with rfl | rfl | rfl | rfl | hp
    · exact n1
    · exact n2
    · exact Nat.ne_of_gt (Nat.lt_trans n3 n6)
    · exact Nat.ne_of_gt n3
    · exact hI p hp
  · intro p hp
    simp only [List.mem_cons] at hp
    rcases hp with rfl | rfl | hp
    · exact Nat.ne_of_gt (Nat.lt_trans n4 n6)
    · exact Nat.ne_of_gt n4
    · exact hP p hp
  · intro p hp
    simp only [List.mem_cons] at hp
    rcases hp with rfl | rfl | hp
    · exact Nat.ne_of_gt (Nat.lt_trans n5 n6)
    · exact Nat.ne_of_gt n5
    · exact hL p hp
  · rw [List.length_append, hl]; show 6 + 2 * i + 2 = _; omega
  · intro q hq
    rcases List.mem_append.mp hq with hq | hq
    · exact hb q hq
    · rcases List.mem_cons.mp hq with rfl | hq
      · exact ⟨ab_side c0 c1 b0 b1, ab_side a0 a1 b2 b3⟩
      · rw [List.mem_singleton.mp hq]
        exact ⟨ab_free e0 e1, ab_free g0 g1⟩
section
variable {w : World} {fa : Addr} {cdA : Value} {h₀ : Heap} {L : Addr} {m : Str → Option Value} {s : Shared} {mean : ExcName → Option Value} {mg mb : Str → Option Value} {Q : Flow → Shared → Prop} {E : Value → Shared → Prop} {news : Led}
theorem law_c4b {d : LD} {po ar x y z u : Addr} {vs : List Value} {qs : List (Int × Int)} {n : Nat} {o : Obj} (B : Below callerA h₀ [] h₀) (F : Fr h₀ L s.heap m) (X : (hd.heap_39 w.params).In h₀) (N : News h₀ L s.heap news)
    (T : Top hd.view_39 (looseW hd.view_39 [Str.ofString "PaperError"]) mean mg mb h₀)
    (hE : PassesOwn (model PySem.Challenge.rw_nn0204_01.row.prog w) (callerA.deeper (envOfC (Str.ofString "law") lawScope L fa cdA)) (envOfC (Str.ofString "law") lawScope L fa cdA) E)
    (f : LF w L d news) (b : LB d) (lm : LM d m) (r : LR w d news ar x y z u) (mP : (d.P, o) ∈ news) (hpen : PenAt d.cl 0 100 o)
    (hpo : m (Str.ofString "points") = some (.ref po)) (mpo : (po, listOf vs.toArray n) ∈ news) (hps : PairsAt news vs qs) (hq6 : qs.length = 6) (hqb : ∀ q ∈ qs, Ab 12 q.1 ∧ Ab 12 q.2)
    (hnext : ∀ (vs' : List Value) (qs' : List (Int × Int)) (n' : Nat) h' tk' m' news', Fr h₀ L h' m' → News h₀ L h' news' → LF w L d news' → LR w d news' ar x y z u → (∀ y, y ≠ Str.ofString "turn" → y ≠ Str.ofString "x" → y ≠ Str.ofString "y" → m' y = m y) → (po, listOf vs'.toArray n') ∈ news' → PairsAt news' vs' qs' → qs'.length = 12 → (∀ q ∈ qs', Ab 12 q.1 ∧ Ab 12 q.2) →
      wpAny (model PySem.Challenge.rw_nn0204_01.row.prog w) (callerA.deeper (envOfC (Str.ofString "law") lawScope L fa cdA)) (execs (lawStmts.drop 23) (envOfC (Str.ofString "law") lawScope L fa cdA)) Q E { s with heap := h', toks := tk' }) :
    wpAny (model PySem.Challenge.rw_nn0204_01.row.prog w) (callerA.deeper (envOfC (Str.ofString "law") lawScope L fa cdA)) (execs (lawStmts.drop 22) (envOfC (Str.ofString "law") lawScope L fa cdA)) Q E s := by
  w_on
  revert X; k_fill; intro X
  
  have e0 : lawStmts.drop 22 = _ :: lawStmts.drop 23 := id rfl
  rw [e0]
  clear e0
  generalize lawStmts.drop 23 = R5 at hnext ⊢
  rw [show lawScope = Scope.mk _ _ _ _ _ from rfl] at hE hnext ⊢
  obtain ⟨nw, N1, hP, hL, hne, K⟩ := led_split N mP hpen mpo hps hq6
  have f1 := f.keep K
  have r1 := r.keep K
  have p1 := hps.keep K
  clear N mP mpo
  clear hps
  iterate 1 (first | (k_unfold; (try dsimp only)) | (k_end; wrow_close) | walk1 | (dsimp only; walk1))
  with_unfolding_all refine' For_invVF (hE := hE) F ?k1 ?k2 ?_
  case k1 => exact rfl
  case k2 => exact rfl
  iterate 7 (first | (k_unfold; (try dsimp only)) | (k_end; wrow_close) | walk1 | (dsimp only; walk1))
  rename_i h1 tk1 ta ua va hR F1 N2 hk
  dsimp only at hR
  try dsimp only
  obtain ⟨lo, bo, ro, to, u0, u1, u2, u3, ms, g1, g2, g3, g4, a1, a2, a3, a4⟩ : ∃ (lo bo ro to : Int) (u0 u1 u2 u3 : Tok), (d.sd, tup [.int lo u0, .int bo u1, .int ro u2, .int to u3]) ∈ nw ∧ 0 < ro - lo + 1 ∧ ro - lo + 1 ≤ 1000000 ∧ 0 < to - bo + 1 ∧ to - bo + 1 ≤ 1000000 ∧ Ab 10 lo ∧ Ab 10 ro ∧ Ab 10 bo ∧ Ab 10 to := by
    obtain ⟨u0, u1, u2, u3, ms⟩ := f1.sides
    exact ⟨_, _, _, _, u0, u1, u2, u3, ms, (side_ok b.f0 b.f2).1, (side_ok b.f0 b.f2).2, (side_ok b.f1 b.f3).1, (side_ok b.f1 b.f3).2, b.f0.min b.f2, b.f0.max b.f2, b.f1.min b.f3, b.f1.max b.f3⟩
  refine range_led (n := 3) (J4 d po nw m)
    rfl hR (by decide) (by rfl) F1 N2 ⟨o, vs, qs, n, nw, rfl, fun _ h => h, hP, hL, hpen.le (by decide), p1, hq6, hqb, fun _ _ _ _ => rfl⟩ ?_ ?_
  · rintro i t m₁ nx h tk I oI hi ⟨o, vs, qs, n, rest, rfl, hs, hP, hL, hp, hq, hl, hb, hm⟩ hI F3 N3
    have hIP : @Ne Nat d.P I := hI _ (.head _)
    have hIL : @Ne Nat po I := hI _ (.tail _ (.head _))
    have hne' : @Ne Nat po d.P := hne
    have hIr : ∀ p ∈ rest, p.1 ≠ I := fun p hp => hI p (.tail _ (.tail _ hp))
    have ms := hs _ ms
    have mc := f1.cells.mono hs
    have F3 := Fr_cast F3 (named_eq (named_eq (named_eq rfl (x := Str.ofString "sides") (v := .ref d.sd) (by rw [if_neg (by decide)]; exact (hm _ (by decide) (by decide) (by decide)).trans lm.sides)) (x := Str.ofString "pen") (v := .ref d.P) (by rw [if_neg (by decide)]; exact (hm _ (by decide) (by decide) (by decide)).trans lm.pen)) (x := Str.ofString "points") (v := .ref po) (by rw [if_neg (by decide)]; exact (hm _ (by decide) (by decide) (by decide)).trans hpo))
    have hsz : vs.toArray.size ≤ sizeLine := by rw [List.size_toArray, hq.length, hl, sizeLine_eq]; omega
    have hsz1 : vs.toArray.size + 1 ≤ sizeLine := by rw [List.size_toArray, hq.length, hl, sizeLine_eq]; omega
    clear N2 hR hk
    iterate 122 (first | (k_unfold; (try dsimp only)) | (k_end; wrow_close) | walk1 | (dsimp only; walk1))
    rename News h₀ _ _ _ => kN
    rename Fr h₀ _ _ _ => kF
    show UnrEnd _ _ _ _ _ _ _
    refine c4_fin (lo := lo) (bo := bo) (ro := ro) (to := to) (vs := vs) (qs := qs) kF kN (by assumption) (by assumption) (by assumption) (by assumption) (by assumption) (by assumption) (by assumption) (by assumption) a1 a2 a3 a4 (by assumption) (by omega) hq hl hb hs hP hL hIr hIP hIL (by omega) (by omega) (by omega) (by omega) ?_
    intro y h1 h2 h3
    simp only [h1, h2, h3, if_false]
    split
    · rename_i q; rw [q]; exact hpo.symm
    · split
      · rename_i q; rw [q]; exact lm.pen.symm
      · split
        · rename_i q; rw [q]; exact lm.sides.symm
        · exact hm y h1 h2 h3
  · rintro m₁ nx h tk ⟨o, vs, qs, n, rest, rfl, hs, hP, hL, hp, hq, hl, hb, hm⟩ F4 N4
    exact hnext vs qs n h tk m₁ _ F4 N4 (f1.mono fun p hp => .tail _ (.tail _ (hs p hp))) (r1.mono fun p hp => .tail _ (.tail _ (hs p hp))) hm (.tail _ (.head _)) (hq.mono fun p hp => .tail _ (.tail _ hp)) hl hb
end
-- P28f
/-- the body of the law's loop over the points -/
def forStmts : List Stmt := match lawStmts.drop 23 with
  | .For _ _ b _ _ :: _ => b
  | _ => []
-- P28c5a
section
variable {w : World} {fa : Addr} {cdA : Value} {h₀ : Heap} {L : Addr} {m : Str → Option Value} {s : Shared} {mean : ExcName → Option Value} {mg mb : Str → Option Value} {Q : Flow → Shared → Prop} {E : Value → Shared → Prop} {news : Led}
theorem law_c5a {sd : Addr} {lo bo ro to vx vy : Int} {u0 u1 u2 u3 tx ty : Tok} (B : Below callerA h₀ [] h₀) (F : Fr h₀ L s.heap m) (X : (hd.heap_39 w.params).In h₀) (N : News h₀ L s.heap news)
    (T : Top hd.view_39 (looseW hd.view_39 [Str.ofString "PaperError"]) mean mg mb h₀)
    (hx : m (Str.ofString "x") = some (.int vx tx)) (hy : m (Str.ofString "y") = some (.int vy ty)) (hsd : m (Str.ofString "sides") = some (.ref sd)) (ms : (sd, tup [.int lo u0, .int bo u1, .int ro u2, .int to u3]) ∈ news)
    (hnext : ∀ h' tk' m', Fr h₀ L h' m' → News h₀ L h' news → m' (Str.ofString "is_within") = some (.bool (decide (lo ≤ vx ∧ vx ≤ ro ∧ bo ≤ vy ∧ vy ≤ to))) → (∀ z, z ≠ Str.ofString "is_within" → m' z = m z) →
      wpAny (model PySem.Challenge.rw_nn0204_01.row.prog w) (callerA.deeper (envOfC (Str.ofString "law") lawScope L fa cdA)) (execs (forStmts.drop 1) (envOfC (Str.ofString "law") lawScope L fa cdA)) Q E { s with heap := h', toks := tk' }) :
    wpAny (model PySem.Challenge.rw_nn0204_01.row.prog w) (callerA.deeper (envOfC (Str.ofString "law") lawScope L fa cdA)) (execs (forStmts.drop 0) (envOfC (Str.ofString "law") lawScope L fa cdA)) Q E s := by
  w_on
  revert X; k_fill; intro X
  have F := Fr_cast F (named_eq (named_eq (named_eq rfl hx) hy) hsd)
  have e0 : forStmts.drop 0 = _ :: forStmts.drop 1 := id rfl
  rw [e0]
  clear e0
  generalize forStmts.drop 1 = R5 at hnext ⊢
  rw [show lawScope = Scope.mk _ _ _ _ _ from rfl] at hnext ⊢
  repeat' (first | (k_unfold; (try dsimp only)) | (k_end; wrow_close) | walk1 | (dsimp only; walk1))
  all_goals rename News h₀ L _ _ => kN
  all_goals rename Fr h₀ L _ _ => kF
  all_goals refine' hnext _ _ _ kF kN (congrArg (fun b => some (Value.bool b)) (decide_eq_decide.mpr (by omega))) ?_
  all_goals
    intro z hz
    simp only [hz, if_false]
    exact congrFun (named_eq (named_eq (named_eq rfl hx) hy) hsd) z
end
-- P28c5b
section
variable {w : World} {fa : Addr} {cdA : Value} {h₀ : Heap} {L : Addr} {m : Str → Option Value} {s : Shared} {mean : ExcName → Option Value} {mg mb : Str → Option Value} {Q : Flow → Shared → Prop} {E : Value → Shared → Prop} {news : Led}
theorem law_c5b {d : LD} {vx vy : Int} {tx ty : Tok} (B : Below callerA h₀ [] h₀) (F : Fr h₀ L s.heap m) (X : (hd.heap_39 w.params).In h₀) (N : News h₀ L s.heap news)
    (T : Top hd.view_39 (looseW hd.view_39 [Str.ofString "PaperError"]) mean mg mb h₀)
    (f : LF w L d news) (b : LB d) (lm : LM d m) (hx : m (Str.ofString "x") = some (.int vx tx)) (hy : m (Str.ofString "y") = some (.int vy ty)) (bx : Ab 12 vx) (by' : Ab 12 vy) (hw : m (Str.ofString "is_within") = some (.bool (decide (min d.f0 d.f2 ≤ vx ∧ vx ≤ max d.f0 d.f2 ∧ min d.f1 d.f3 ≤ vy ∧ vy ≤ max d.f1 d.f3))))
    (hnext : ∀ h' tk' news', Fr h₀ L h' m → News h₀ L h' news' → Sub news news' → 
      wpAny (model PySem.Challenge.rw_nn0204_01.row.prog w) (callerA.deeper (envOfC (Str.ofString "law") lawScope L fa cdA)) (execs (forStmts.drop 2) (envOfC (Str.ofString "law") lawScope L fa cdA)) Q E { s with heap := h', toks := tk' }) :
    wpAny (model PySem.Challenge.rw_nn0204_01.row.prog w) (callerA.deeper (envOfC (Str.ofString "law") lawScope L fa cdA)) (execs (forStmts.drop 1) (envOfC (Str.ofString "law") lawScope L fa cdA)) Q E s := by
  w_on
  revert X; k_fill; intro X
  have F := Fr_cast F (named_eq (named_eq (named_eq (named_eq rfl hx) hy) lm.frame) hw)
  have e0 : forStmts.drop 1 = _ :: forStmts.drop 2 := id rfl
  rw [e0]
  clear e0
  generalize forStmts.drop 2 = R5 at hnext ⊢
  rw [show lawScope = Scope.mk _ _ _ _ _ from rfl] at hnext ⊢
  have mf := f.frame
  have ma := f.fa
  have mb' := f.fb
  have mc := f.fc
  have md := f.fd
  have b0 : Ab 62 (min d.f0 d.f2) := (b.f0.min b.f2).le
  have b1 : Ab 62 (min d.f1 d.f3) := (b.f1.min b.f3).le
  have b2 : Ab 62 (max d.f0 d.f2) := (b.f0.max b.f2).le
  have b3 : Ab 62 (max d.f1 d.f3) := (b.f1.max b.f3).le
  have bx62 : Ab 62 vx := bx.le
  have by62 : Ab 62 vy := by'.le
  iterate 36 (first | (k_unfold; (try dsimp only)) | (k_end; wrow_close) | walk1 | (dsimp only; walk1))
  rw [if_neg (by simp)]
  repeat (first | (k_unfold; (try dsimp only)) | (k_end; wrow_close) | walk1 | (dsimp only; walk1))
  rename News h₀ L _ _ => kN
  rename Fr h₀ L _ _ => kF
  exact hnext _ _ _ (Fr_cast kF (named_eq (named_eq (named_eq (named_eq rfl hx) hy) lm.frame) hw).symm) kN (fun p hp => .tail _ (.tail _ (.tail _ (.tail _ hp))))
end
-- P28c5c
section
variable {w : World} {fa : Addr} {cdA : Value} {h₀ : Heap} {L : Addr} {m : Str → Option Value} {s : Shared} {mean : ExcName → Option Value} {mg mb : Str → Option Value} {Q : Flow → Shared → Prop} {E : Value → Shared → Prop} {news : Led}
theorem law_c5c {d : LD} {vx vy : Int} {tx ty : Tok} (B : Below callerA h₀ [] h₀) (F : Fr h₀ L s.heap m) (X : (hd.heap_39 w.params).In h₀) (N : News h₀ L s.heap news)
    (T : Top hd.view_39 (looseW hd.view_39 [Str.ofString "PaperError"]) mean mg mb h₀)
    (f : LF w L d news) (b : LB d) (lm : LM d m) (hx : m (Str.ofString "x") = some (.int vx tx)) (hy : m (Str.ofString "y") = some (.int vy ty)) (bx : Ab 12 vx) (by' : Ab 12 vy)
    (hnext : ∀ (rr uu : Addr) h' tk' m' news', Fr h₀ L h' m' → News h₀ L h' news' → Sub news news' → m' (Str.ofString "right") = some (.ref rr) → m' (Str.ofString "up") = some (.ref uu) → (∀ z, z ≠ Str.ofString "right" → z ≠ Str.ofString "up" → m' z = m z) → DecAt w news' rr (d.a0 * vx + d.a2 * vy + d.a4 * 100) 4 → DecAt w news' uu (d.a1 * vx + d.a3 * vy + d.a5 * 100) 4 →
      wpAny (model PySem.Challenge.rw_nn0204_01.row.prog w) (callerA.deeper (envOfC (Str.ofString "law") lawScope L fa cdA)) (execs (forStmts.drop 3) (envOfC (Str.ofString "law") lawScope L fa cdA)) Q E { s with heap := h', toks := tk' }) :
    wpAny (model PySem.Challenge.rw_nn0204_01.row.prog w) (callerA.deeper (envOfC (Str.ofString "law") lawScope L fa cdA)) (execs (forStmts.drop 2) (envOfC (Str.ofString "law") lawScope L fa cdA)) Q E s := by
  w_on
  revert X; k_fill; intro X
  have F := Fr_cast F (named_eq (named_eq (named_eq rfl hx) hy) lm.m_)
  have e0 : forStmts.drop 2 = _ :: forStmts.drop 3 := id rfl
  rw [e0]
  clear e0
  generalize forStmts.drop 3 = R5 at hnext ⊢
  rw [show lawScope = Scope.mk _ _ _ _ _ from rfl] at hnext ⊢
  have c0 : Ab 24 d.a0 := b.a0.le
  have c1 : Ab 24 d.a1 := b.a1.le
  have c2 : Ab 24 d.a2 := b.a2.le
  have c3 : Ab 24 d.a3 := b.a3.le
  have c4 : Ab 24 d.a4 := b.a4.le
  have c5 : Ab 24 d.a5 := b.a5.le
  have bx62 : Ab 62 vx := bx.le
  have by62 : Ab 62 vy := by'.le
  have bx24 : Ab 24 vx := bx.le
  have by24 : Ab 24 vy := by'.le
  have mM := f.mat
  obtain ⟨dM, x0, x1, x2, x3, x4, x5, t0, t1, t2, t3, t4, t5, hM, hD, n0, n1, n2, n3, n4, n5⟩ := id mM
  clear n0 n1 n2 n3 n4 n5
  repeat (first | (k_unfold; (try dsimp only)) | (k_end; wrow_close) | walk1 | (dsimp only; walk1))
  rename News h₀ L _ _ => kN
  rename Fr h₀ L _ _ => kF
  refine' hnext _ _ _ _ _ _ kF kN (fun p hp => List.mem_append_right _ (.tail _ (.tail _ (.tail _ (.tail _ hp))))) ?a ?b ?c (DecAt.mono (by assumption) (fun p hp => List.mem_append_left _ hp)) (DecAt.mono (by assumption) (fun p hp => List.mem_append_left _ hp))
  case a => exact rfl
  case b => exact rfl
  case c =>
    intro z h1 h2
    simp only [h1, h2, if_false]
    exact congrFun (named_eq (named_eq (named_eq rfl hx) hy) lm.m_) z
end
-- P28c5d
theorem ab_go {a x c y e : Int} (h1 : Ab 24 a) (h2 : Ab 24 x) (h3 : Ab 24 c) (h4 : Ab 24 y) (h5 : Ab 24 e) : Ab 62 (a * x + c * y + e * 100) := abs3 h1 h2 h3 h4 h5
theorem ab_lmin {x y z u : Int} (h1 : Ab 62 x) (h2 : Ab 62 y) (h3 : Ab 62 z) (h4 : Ab 62 u) : Ab 62 (lmin x [y, z, u]) := ((h1.min h2).min h3).min h4
theorem ab_lmax {x y z u : Int} (h1 : Ab 62 x) (h2 : Ab 62 y) (h3 : Ab 62 z) (h4 : Ab 62 u) : Ab 62 (lmax x [y, z, u]) := ((h1.max h2).max h3).max h4
section
variable {w : World} {fa : Addr} {cdA : Value} {h₀ : Heap} {L : Addr} {m : Str → Option Value} {s : Shared} {mean : ExcName → Option Value} {mg mb : Str → Option Value} {Q : Flow → Shared → Prop} {E : Value → Shared → Prop} {news : Led}
theorem law_c5d {d : LD} {ar ha hb hc hd' rr uu : Addr} {vx vy : Int} (B : Below callerA h₀ [] h₀) (F : Fr h₀ L s.heap m) (X : (hd.heap_39 w.params).In h₀) (N : News h₀ L s.heap news)
    (T : Top hd.view_39 (looseW hd.view_39 [Str.ofString "PaperError"]) mean mg mb h₀)
    (f : LF w L d news) (b : LB d) (lm : LM d m) (r : LR w d news ar ha hb hc hd') (bx : Ab 12 vx) (by' : Ab 12 vy) (har : m (Str.ofString "around") = some (.ref ar)) (hr : m (Str.ofString "right") = some (.ref rr)) (hu : m (Str.ofString "up") = some (.ref uu)) (hw : m (Str.ofString "is_within") = some (.bool (decide (min d.f0 d.f2 ≤ vx ∧ vx ≤ max d.f0 d.f2 ∧ min d.f1 d.f3 ≤ vy ∧ vy ≤ max d.f1 d.f3))))
    (dr : DecAt w news rr (d.a0 * vx + d.a2 * vy + d.a4 * 100) 4) (du : DecAt w news uu (d.a1 * vx + d.a3 * vy + d.a5 * 100) 4)
    (hnext : ∀ h' tk', Fr h₀ L h' m → News h₀ L h' news → 
      wpAny (model PySem.Challenge.rw_nn0204_01.row.prog w) (callerA.deeper (envOfC (Str.ofString "law") lawScope L fa cdA)) (execs (forStmts.drop 4) (envOfC (Str.ofString "law") lawScope L fa cdA)) Q E { s with heap := h', toks := tk' }) :
    wpAny (model PySem.Challenge.rw_nn0204_01.row.prog w) (callerA.deeper (envOfC (Str.ofString "law") lawScope L fa cdA)) (execs (forStmts.drop 3) (envOfC (Str.ofString "law") lawScope L fa cdA)) Q E s := by
  w_on
  revert X; k_fill; intro X
  
  have e0 : forStmts.drop 3 = _ :: forStmts.drop 4 := id rfl
  rw [e0]
  clear e0
  generalize forStmts.drop 4 = R5 at hnext ⊢
  rw [show lawScope = Scope.mk _ _ _ _ _ from rfl] at hnext ⊢
  have c0 : Ab 24 d.a0 := b.a0.le
  have c1 : Ab 24 d.a1 := b.a1.le
  have c2 : Ab 24 d.a2 := b.a2.le
  have c3 : Ab 24 d.a3 := b.a3.le
  have c4 : Ab 24 d.a4 := b.a4.le
  have c5 : Ab 24 d.a5 := b.a5.le
  have bx24 : Ab 24 vx := bx.le
  have by24 : Ab 24 vy := by'.le
  have g0 : Ab 24 (min d.f0 d.f2) := (b.f0.min b.f2).le
  have g1 : Ab 24 (min d.f1 d.f3) := (b.f1.min b.f3).le
  have g2 : Ab 24 (max d.f0 d.f2) := (b.f0.max b.f2).le
  have g3 : Ab 24 (max d.f1 d.f3) := (b.f1.max b.f3).le
  have B0 := ab_lmin (ab_go c0 g0 c2 g1 c4) (ab_go c0 g2 c2 g1 c4) (ab_go c0 g2 c2 g3 c4) (ab_go c0 g0 c2 g3 c4)
  have B1 := ab_lmin (ab_go c1 g0 c3 g1 c5) (ab_go c1 g2 c3 g1 c5) (ab_go c1 g2 c3 g3 c5) (ab_go c1 g0 c3 g3 c5)
  have B2 := ab_lmax (ab_go c0 g0 c2 g1 c4) (ab_go c0 g2 c2 g1 c4) (ab_go c0 g2 c2 g3 c4) (ab_go c0 g0 c2 g3 c4)
  have B3 := ab_lmax (ab_go c1 g0 c3 g1 c5) (ab_go c1 g2 c3 g1 c5) (ab_go c1 g2 c3 g3 c5) (ab_go c1 g0 c3 g3 c5)
  have B4 := ab_go c0 bx24 c2 by24 c4
  have B5 := ab_go c1 bx24 c3 by24 c5
  by_cases hwin : (min d.f0 d.f2 ≤ vx ∧ vx ≤ max d.f0 d.f2 ∧ min d.f1 d.f3 ≤ vy ∧ vy ≤ max d.f1 d.f3)
  · rw [decide_eq_true hwin] at hw
    have F := Fr_cast F (named_eq (named_eq (named_eq (named_eq rfl har) hr) hu) hw)
    have i1 := hull_in (a := d.a0) (c := d.a2) (e := d.a4 * 100) hwin.1 hwin.2.1 hwin.2.2.1 hwin.2.2.2
    have i2 := hull_in (a := d.a1) (c := d.a3) (e := d.a5 * 100) hwin.1 hwin.2.1 hwin.2.2.1 hwin.2.2.2
    iterate 21 (first | (k_unfold; (try dsimp only)) | (k_end; wrow_close) | walk1 | (dsimp only; walk1))
    k_here
    refine' c_inBox (k := 4) ?C r.box (by omega) r.x0 r.y0 r.x1 r.y1 dr du B0 B1 B2 B3 B4 B5 ?_
    case C => exact ⟨by k_asm, by k_asm, by k_asm, by k_asm, by k_asm, by first | exact rfl | assumption, by ktr_room⟩
    k_whole
    intro h' tk' F' N'
    rw [decide_eq_true (show _ ∧ _ ∧ _ ∧ _ from ⟨i1.1, i1.2, i2.1, i2.2⟩)]
    repeat (first | (k_unfold; (try dsimp only)) | (k_end; wrow_close) | walk1 | (dsimp only; walk1))
    rename News h₀ L _ _ => kN
    rename Fr h₀ L _ _ => kF
    exact hnext _ _ (Fr_cast kF (named_eq (named_eq (named_eq (named_eq rfl har) hr) hu) hw).symm) kN
  · rw [decide_eq_false hwin] at hw
    have F := Fr_cast F (named_eq (named_eq (named_eq (named_eq rfl har) hr) hu) hw)
    repeat (first | (k_unfold; (try dsimp only)) | (k_end; wrow_close) | walk1 | (dsimp only; walk1))
    rename News h₀ L _ _ => kN
    rename Fr h₀ L _ _ => kF
    exact hnext _ _ (Fr_cast kF (named_eq (named_eq (named_eq (named_eq rfl har) hr) hu) hw).symm) kN
end
-- P28c5e
section
variable {w : World} {fa : Addr} {cdA : Value} {h₀ : Heap} {L : Addr} {m : Str → Option Value} {s : Shared} {mean : ExcName → Option Value} {mg mb : Str → Option Value} {Q : Flow → Shared → Prop} {E : Value → Shared → Prop} {news : Led}
theorem law_c5e {d : LD} {ar ha hb hc hd' rr uu : Addr} {vx vy : Int} (B : Below callerA h₀ [] h₀) (F : Fr h₀ L s.heap m) (X : (hd.heap_39 w.params).In h₀) (N : News h₀ L s.heap news)
    (T : Top hd.view_39 (looseW hd.view_39 [Str.ofString "PaperError"]) mean mg mb h₀)
    (f : LF w L d news) (b : LB d) (lm : LM d m) (r : LR w d news ar ha hb hc hd') (bx : Ab 12 vx) (by' : Ab 12 vy) (har : m (Str.ofString "around") = some (.ref ar)) (hr : m (Str.ofString "right") = some (.ref rr)) (hu : m (Str.ofString "up") = some (.ref uu)) (hw : m (Str.ofString "is_within") = some (.bool (decide (min d.f0 d.f2 ≤ vx ∧ vx ≤ max d.f0 d.f2 ∧ min d.f1 d.f3 ≤ vy ∧ vy ≤ max d.f1 d.f3))))
    (dr : DecAt w news rr (d.a0 * vx + d.a2 * vy + d.a4 * 100) 4) (du : DecAt w news uu (d.a1 * vx + d.a3 * vy + d.a5 * 100) 4)
    (hnext : ∀ h' tk', Fr h₀ L h' m → News h₀ L h' news → 
      wpAny (model PySem.Challenge.rw_nn0204_01.row.prog w) (callerA.deeper (envOfC (Str.ofString "law") lawScope L fa cdA)) (execs (forStmts.drop 5) (envOfC (Str.ofString "law") lawScope L fa cdA)) Q E { s with heap := h', toks := tk' }) :
    wpAny (model PySem.Challenge.rw_nn0204_01.row.prog w) (callerA.deeper (envOfC (Str.ofString "law") lawScope L fa cdA)) (execs (forStmts.drop 4) (envOfC (Str.ofString "law") lawScope L fa cdA)) Q E s := by
  w_on
  revert X; k_fill; intro X
  
  have e0 : forStmts.drop 4 = _ :: forStmts.drop 5 := id rfl
  rw [e0]
  clear e0
  generalize forStmts.drop 5 = R5 at hnext ⊢
  rw [show lawScope = Scope.mk _ _ _ _ _ from rfl] at hnext ⊢
  have c0 : Ab 24 d.a0 := b.a0.le
  have c1 : Ab 24 d.a1 := b.a1.le
  have c2 : Ab 24 d.a2 := b.a2.le
  have c3 : Ab 24 d.a3 := b.a3.le
  have c4 : Ab 24 d.a4 := b.a4.le
  have c5 : Ab 24 d.a5 := b.a5.le
  have bx24 : Ab 24 vx := bx.le
  have by24 : Ab 24 vy := by'.le
  have g0 : Ab 24 (min d.f0 d.f2) := (b.f0.min b.f2).le
  have g1 : Ab 24 (min d.f1 d.f3) := (b.f1.min b.f3).le
  have g2 : Ab 24 (max d.f0 d.f2) := (b.f0.max b.f2).le
  have g3 : Ab 24 (max d.f1 d.f3) := (b.f1.max b.f3).le
  have B0 := ab_lmin (ab_go c0 g0 c2 g1 c4) (ab_go c0 g2 c2 g1 c4) (ab_go c0 g2 c2 g3 c4) (ab_go c0 g0 c2 g3 c4)
  have B1 := ab_lmin (ab_go c1 g0 c3 g1 c5) (ab_go c1 g2 c3 g1 c5) (ab_go c1 g2 c3 g3 c5) (ab_go c1 g0 c3 g3 c5)
  have B2 := ab_lmax (ab_go c0 g0 c2 g1 c4) (ab_go c0 g2 c2 g1 c4) (ab_go c0 g2 c2 g3 c4) (ab_go c0 g0 c2 g3 c4)
  have B3 := ab_lmax (ab_go c1 g0 c3 g1 c5) (ab_go c1 g2 c3 g1 c5) (ab_go c1 g2 c3 g3 c5) (ab_go c1 g0 c3 g3 c5)
  have B4 := ab_go c0 bx24 c2 by24 c4
  have B5 := ab_go c1 bx24 c3 by24 c5
  obtain ⟨s0, s1, s2, s3, s4, s5, n6, m6⟩ := f.six
  obtain ⟨oc, moc, doc⟩ := f.cell
  by_cases hwin : (min d.f0 d.f2 ≤ vx ∧ vx ≤ max d.f0 d.f2 ∧ min d.f1 d.f3 ≤ vy ∧ vy ≤ max d.f1 d.f3)
  · rw [decide_eq_true hwin] at hw
    have F := Fr_cast F (named_eq (named_eq (named_eq (named_eq (named_eq rfl har) hr) hu) hw) lm.m_)
    repeat (first | (k_unfold; (try dsimp only)) | (k_end; wrow_close) | walk1 | (dsimp only; walk1))
    rename News h₀ L _ _ => kN
    rename Fr h₀ L _ _ => kF
    exact hnext _ _ (Fr_cast kF (named_eq (named_eq (named_eq (named_eq (named_eq rfl har) hr) hu) hw) lm.m_).symm) kN
  · rw [decide_eq_false hwin] at hw
    have F := Fr_cast F (named_eq (named_eq (named_eq (named_eq (named_eq rfl har) hr) hu) hw) lm.m_)
    have mM := f.mat
    iterate 18 (first | (k_unfold; (try dsimp only)) | (k_end; wrow_close) | walk1 | (dsimp only; walk1))
    by_cases hst : (d.a1 = 0 ∧ d.a2 = 0) ∨ (d.a0 = 0 ∧ d.a3 = 0)
    · rw [decide_eq_true hst]
      iterate 41 (first | (k_unfold; (try dsimp only)) | (k_end; wrow_close) | walk1 | (dsimp only; walk1))
      · rename (¬ _) => hne
        k_here
        refine' c_inBox (k := 4) ?C r.box (by omega) r.x0 r.y0 r.x1 r.y1 dr du B0 B1 B2 B3 B4 B5 ?_
        case C => exact ⟨by k_asm, by k_asm, by k_asm, by k_asm, by k_asm, by first | exact rfl | assumption, by ktr_room⟩
        k_whole
        intro h' tk' F' N'
        rw [decide_eq_false (fun q => hwin (straight_out hst (by first | exact hne | exact fun e => hne e | omega) (by omega) (by omega) q.1 q.2.1 q.2.2.1 q.2.2.2))]
        repeat (first | (k_unfold; (try dsimp only)) | (k_end; wrow_close) | walk1 | (dsimp only; walk1))
        rename News h₀ L _ _ => kN
        rename Fr h₀ L _ _ => kF
        exact hnext _ _ (Fr_cast kF (named_eq (named_eq (named_eq (named_eq (named_eq rfl har) hr) hu) hw) lm.m_).symm) kN
      · repeat (first | (k_unfold; (try dsimp only)) | (k_end; wrow_close) | walk1 | (dsimp only; walk1))
        rename News h₀ L _ _ => kN
        rename Fr h₀ L _ _ => kF
        exact hnext _ _ (Fr_cast kF (named_eq (named_eq (named_eq (named_eq (named_eq rfl har) hr) hu) hw) lm.m_).symm) kN
    · rw [decide_eq_false hst]
      repeat (first | (k_unfold; (try dsimp only)) | (k_end; wrow_close) | walk1 | (dsimp only; walk1))
      rename News h₀ L _ _ => kN
      rename Fr h₀ L _ _ => kF
      exact hnext _ _ (Fr_cast kF (named_eq (named_eq (named_eq (named_eq (named_eq rfl har) hr) hu) hw) lm.m_).symm) kN
end
-- P28c5
/-- a name that the loops do not store -/
def Oth (y : Str) : Prop := y ≠ Str.ofString "turn" ∧ y ≠ Str.ofString "x" ∧ y ≠ Str.ofString "y" ∧ y ≠ Str.ofString "is_within" ∧ y ≠ Str.ofString "right" ∧ y ≠ Str.ofString "up"
theorem LM.same {d : LD} {m m' : Str → Option Value} (x : LM d m) (h : ∀ y, Oth y → m' y = m y) : LM d m' where
  pen := (h _ (by unfold Oth; decide)).trans x.pen
  m_ := (h _ (by unfold Oth; decide)).trans x.m_
  numbers := (h _ (by unfold Oth; decide)).trans x.numbers
  frame := (h _ (by unfold Oth; decide)).trans x.frame
  sides := (h _ (by unfold Oth; decide)).trans x.sides
  second := (h _ (by unfold Oth; decide)).trans x.second
  others := (h _ (by unfold Oth; decide)).trans x.others
section
variable {w : World} {fa : Addr} {cdA : Value} {h₀ : Heap} {L : Addr} {m : Str → Option Value} {s : Shared} {mean : ExcName → Option Value} {mg mb : Str → Option Value} {Q : Flow → Shared → Prop} {E : Value → Shared → Prop} {news : Led}
theorem law_c5t {d : LD} {ar ha hb hc hd' : Addr} {vx vy : Int} {tx ty : Tok} (B : Below callerA h₀ [] h₀) (F : Fr h₀ L s.heap m) (X : (hd.heap_39 w.params).In h₀) (N : News h₀ L s.heap news)
    (T : Top hd.view_39 (looseW hd.view_39 [Str.ofString "PaperError"]) mean mg mb h₀)
    (f : LF w L d news) (b : LB d) (lm : LM d m) (r : LR w d news ar ha hb hc hd') (har : m (Str.ofString "around") = some (.ref ar)) (hx : m (Str.ofString "x") = some (.int vx tx)) (hy : m (Str.ofString "y") = some (.int vy ty)) (bx : Ab 12 vx) (by' : Ab 12 vy)
    (hnext : ∀ h' tk' m' news', Fr h₀ L h' m' → News h₀ L h' news' → Sub news news' → (∀ z, Oth z → m' z = m z) →
      wpAny (model PySem.Challenge.rw_nn0204_01.row.prog w) (callerA.deeper (envOfC (Str.ofString "law") lawScope L fa cdA)) (execs (forStmts.drop 5) (envOfC (Str.ofString "law") lawScope L fa cdA)) Q E { s with heap := h', toks := tk' }) :
    wpAny (model PySem.Challenge.rw_nn0204_01.row.prog w) (callerA.deeper (envOfC (Str.ofString "law") lawScope L fa cdA)) (execs (forStmts.drop 0) (envOfC (Str.ofString "law") lawScope L fa cdA)) Q E s := by
  obtain ⟨u0, u1, u2, u3, ms⟩ := f.sides
  refine law_c5a B F X N T hx hy lm.sides ms ?_
  intro h1 tk1 m1 F1 N1 hw hm1
  have o1 : ∀ z, Oth z → m1 z = m z := fun z hz => hm1 z hz.2.2.2.1
  refine law_c5b B F1 X N1 T f b (lm.same o1) ((hm1 _ (by decide)).trans hx) ((hm1 _ (by decide)).trans hy) bx by' hw ?_
  intro h2 tk2 n2 F2 N2 s2
  refine law_c5c B F2 X N2 T (f.mono s2) b (lm.same o1) ((hm1 _ (by decide)).trans hx) ((hm1 _ (by decide)).trans hy) bx by' ?_
  intro rr uu h3 tk3 m3 n3 F3 N3 s3 hr hu hm3 dr du
  have o3 : ∀ z, Oth z → m3 z = m z := fun z hz => (hm3 z hz.2.2.2.2.1 hz.2.2.2.2.2).trans (o1 z hz)
  have s23 : Sub news n3 := fun p hp => s3 p (s2 p hp)
  have hw3 := (hm3 (Str.ofString "is_within") (by decide) (by decide)).trans hw
  have har3 := (o3 (Str.ofString "around") (by unfold Oth; decide)).trans har
  refine law_c5d B F3 X N3 T (f.mono s23) b (lm.same o3) (r.mono s23) bx by' har3 hr hu hw3 dr du ?_
  intro h4 tk4 F4 N4
  refine law_c5e B F4 X N4 T (f.mono s23) b (lm.same o3) (r.mono s23) bx by' har3 hr hu hw3 dr du ?_
  intro h5 tk5 F5 N5
  exact hnext h5 tk5 m3 n3 F5 N5 s23 o3
end
section
variable {w : World} {fa : Addr} {cdA : Value} {h₀ : Heap} {L : Addr} {m : Str → Option Value} {s : Shared} {mean : ExcName → Option Value} {mg mb : Str → Option Value} {Q : Flow → Shared → Prop} {E : Value → Shared → Prop} {news : Led}
theorem law_c5 {d : LD} {po ar ha hb hc hd' : Addr} {vs : List Value} {qs : List (Int × Int)} {n : Nat} (B : Below callerA h₀ [] h₀) (F : Fr h₀ L s.heap m) (X : (hd.heap_39 w.params).In h₀) (N : News h₀ L s.heap news)
    (T : Top hd.view_39 (looseW hd.view_39 [Str.ofString "PaperError"]) mean mg mb h₀)
    (hE : PassesOwn (model PySem.Challenge.rw_nn0204_01.row.prog w) (callerA.deeper (envOfC (Str.ofString "law") lawScope L fa cdA)) (envOfC (Str.ofString "law") lawScope L fa cdA) E)
    (f : LF w L d news) (b : LB d) (lm : LM d m) (r : LR w d news ar ha hb hc hd') (har : m (Str.ofString "around") = some (.ref ar)) (hpo : m (Str.ofString "points") = some (.ref po)) (mpo : (po, listOf vs.toArray n) ∈ news) (hps : PairsAt news vs qs) (hqb : ∀ q ∈ qs, Ab 12 q.1 ∧ Ab 12 q.2)
    (hnext : ∀ h' tk' m', Fr h₀ L h' m' → News h₀ L h' news → (∀ z, Oth z → m' z = m z) → 
      wpAny (model PySem.Challenge.rw_nn0204_01.row.prog w) (callerA.deeper (envOfC (Str.ofString "law") lawScope L fa cdA)) (execs (lawStmts.drop 24) (envOfC (Str.ofString "law") lawScope L fa cdA)) Q E { s with heap := h', toks := tk' }) :
    wpAny (model PySem.Challenge.rw_nn0204_01.row.prog w) (callerA.deeper (envOfC (Str.ofString "law") lawScope L fa cdA)) (execs (lawStmts.drop 23) (envOfC (Str.ofString "law") lawScope L fa cdA)) Q E s := by
  w_on
  revert X; k_fill; intro X
  have F := Fr_cast F (named_eq rfl hpo)
  have turnBody := fun (m : Str → Option Value) (s : Shared) (news : Led) (Q : Flow → Shared → Prop) (E : Value → Shared → Prop) (vx vy : Int) (tx ty : Tok) => @law_c5t w fa cdA h₀ L m s mean mg mb Q E news d ar ha hb hc hd' vx vy tx ty
  have e0 : lawStmts.drop 23 = Stmt.For _ _ forStmts [] _ :: lawStmts.drop 24 := id rfl
  rw [e0]
  clear e0
  generalize lawStmts.drop 24 = R5 at hnext ⊢
  rw [show lawScope = Scope.mk _ _ _ _ _ from rfl] at turnBody hE hnext ⊢
  iterate 1 (first | (k_unfold; (try dsimp only)) | (k_end; wrow_close) | walk1 | (dsimp only; walk1))
  with_unfolding_all refine' For_turns (hE := hE) F ?_
  walk1
  refine turns_led (fun i m₁ => ∀ z, Oth z → m₁ z = m z) rfl mpo F N ?hj ?turn ?done
  case hj =>
    intro z hz
    exact congrFun (named_eq rfl hpo) z
  case done =>
    intro m₁ h tk hJ F4 N4
    exact hnext h tk m₁ F4 N4 hJ
  case turn =>
    intro i v m₁ h tk nx hv hJ F2 N2 hs
    obtain ⟨q, hq, t, ux, uy, rfl, ht⟩ := hps.at hv
    have ht := hs _ ht
    iterate 8 (first | (k_unfold; (try dsimp only)) | (k_end; wrow_close) | walk1 | (dsimp only; walk1))
    rename News h₀ L _ _ => kN
    rename Fr h₀ L _ _ => kF
    have o2 : ∀ z, Oth z → (fun y => if y = Str.ofString "y" then some (Value.int q.2 uy) else if y = Str.ofString "x" then some (Value.int q.1 ux) else m₁ y) z = m z := by
      intro z hz
      simp only [hz.2.1, hz.2.2.1, if_false]
      exact hJ z hz
    have hqq := hqb q (List.mem_of_getElem? hq)
    refine turnBody _ _ _ _ _ q.1 q.2 ux uy B kF X kN T (f.mono hs) b (lm.same o2) (r.mono hs) ((o2 _ (by unfold Oth; decide)).trans har) rfl rfl hqq.1 hqq.2 ?_
    intro h5 tk5 m5 n5 F5 N5 s5 o5
    exact wpAny_execs_nil (InvEnd.intro F5 N5 s5 (fun z hz => (o5 z hz).trans (o2 z hz)))
end
-- P28c6a
section
variable {h₀ h' : Heap} {L I C D a a2 a3 a4 a5 : Addr} {m : Str → Option Value} {s₁ : Shared} {oI oC oD o o2 o3 o4 o5 : Obj} {S : Led → Prop} {R : Value → Led → Prop} {y : Value} {tk : Nat} {rest : Led}
theorem comp_end5 (F : Fr h₀ L h' m) (N : News h₀ L h' ((a, o) :: (a2, o2) :: (a3, o3) :: (a4, o4) :: (a5, o5) :: (I, oI) :: (C, oC) :: (D, oD) :: rest)) (off : LCg.Off3 I C D rest) (n1 : @LT.lt Nat _ I a5) (n2 : @LT.lt Nat _ C a5) (n3 : @LT.lt Nat _ D a5) (n4 : @LT.lt Nat _ a5 a4) (n5 : @LT.lt Nat _ a5 a3) (n6 : @LT.lt Nat _ a5 a2) (n7 : @LT.lt Nat _ a5 a)
    (hS : S ((a, o) :: (a2, o2) :: (a3, o3) :: (a4, o4) :: (a5, o5) :: rest)) (r : R y ((a, o) :: (a2, o2) :: (a3, o3) :: (a4, o4) :: (a5, o5) :: rest)) :
    LCg.CompEnd h₀ L m s₁ I oI C oC D oD S R y { s₁ with heap := h', toks := tk } := LCg.CompEnd.intro F N ((a, o) :: (a2, o2) :: (a3, o3) :: (a4, o4) :: (a5, o5) :: rest) (by
      intro p hp
      simp only [List.mem_cons] at hp ⊢
      rcases hp with h | h | h | h | h | h | h | h | h <;> simp only [h, true_or, or_true])
      ⟨⟨Nat.ne_of_gt (Nat.lt_trans n1 n7), Nat.ne_of_gt (Nat.lt_trans n2 n7), Nat.ne_of_gt (Nat.lt_trans n3 n7)⟩,
       ⟨Nat.ne_of_gt (Nat.lt_trans n1 n6), Nat.ne_of_gt (Nat.lt_trans n2 n6), Nat.ne_of_gt (Nat.lt_trans n3 n6)⟩,
       ⟨Nat.ne_of_gt (Nat.lt_trans n1 n5), Nat.ne_of_gt (Nat.lt_trans n2 n5), Nat.ne_of_gt (Nat.lt_trans n3 n5)⟩,
       ⟨Nat.ne_of_gt (Nat.lt_trans n1 n4), Nat.ne_of_gt (Nat.lt_trans n2 n4), Nat.ne_of_gt (Nat.lt_trans n3 n4)⟩, ⟨Nat.ne_of_gt n1, Nat.ne_of_gt n2, Nat.ne_of_gt n3⟩, off⟩ hS r
theorem dec_end {w : World} {x1 x2 d1 d2 : Addr} {va vb : Int} {q1 q2 q3 q4 r1 r2 r3 r4 : Tok} (F : Fr h₀ L h' m) (N : News h₀ L h' ((a, tup [.ref x1, .ref x2]) :: (x2, instObj 143 d2) :: (d2, decO w vb 2 r1 r2 r3 r4) :: (x1, instObj 143 d1) :: (d1, decO w va 2 q1 q2 q3 q4) :: (I, oI) :: (C, oC) :: (D, oD) :: rest)) (off : LCg.Off3 I C D rest) (n1 : @LT.lt Nat _ I d1) (n2 : @LT.lt Nat _ C d1) (n3 : @LT.lt Nat _ D d1) (n4 : @LT.lt Nat _ d1 x1) (n5 : @LT.lt Nat _ d1 d2) (n6 : @LT.lt Nat _ d1 x2) (n7 : @LT.lt Nat _ d1 a)
    (hS : S ((a, tup [.ref x1, .ref x2]) :: (x2, instObj 143 d2) :: (d2, decO w vb 2 r1 r2 r3 r4) :: (x1, instObj 143 d1) :: (d1, decO w va 2 q1 q2 q3 q4) :: rest))
    (r : ∀ nx' (p : Pt), p.1 = a → p.2.1.2 = va → p.2.2.2 = vb → PtAt w nx' 2 p → Sub rest nx' → R (.ref a) nx') :
    LCg.CompEnd h₀ L m s₁ I oI C oC D oD S R (.ref a) { s₁ with heap := h', toks := tk } :=
  comp_end5 F N off n1 n2 n3 n4 n5 n6 n7 hS (r _ (a, (x1, va), (x2, vb)) rfl rfl rfl ⟨.head _, ⟨_, _, _, _, _, .tail _ (.tail _ (.tail _ (.head _))), .tail _ (.tail _ (.tail _ (.tail _ (.head _))))⟩, ⟨_, _, _, _, _, .tail _ (.head _), .tail _ (.tail _ (.head _))⟩⟩ (fun p hp => .tail _ (.tail _ (.tail _ (.tail _ (.tail _ hp))))))
end
section
variable {w : World} {fa : Addr} {cdA : Value} {h₀ : Heap} {L : Addr} {m : Str → Option Value} {s : Shared} {mean : ExcName → Option Value} {mg mb : Str → Option Value} {Q : Flow → Shared → Prop} {E : Value → Shared → Prop} {news : Led}
theorem law_c6a {po : Addr} {vs : List Value} {q0 : Int × Int} {qr : List (Int × Int)} {n : Nat} (B : Below callerA h₀ [] h₀) (F : Fr h₀ L s.heap m) (X : (hd.heap_39 w.params).In h₀) (N : News h₀ L s.heap news)
    (T : Top hd.view_39 (looseW hd.view_39 [Str.ofString "PaperError"]) mean mg mb h₀)
    (hpo : m (Str.ofString "points") = some (.ref po)) (mpo : (po, listOf vs.toArray n) ∈ news) (hps : PairsAt news vs (q0 :: qr)) (hlt : (q0 :: qr).length ≤ 64) (hqb : ∀ q ∈ q0 :: qr, Ab 12 q.1 ∧ Ab 12 q.2)
    (hnext : ∀ (lb a b c d : Addr) h' tk' m' news', Fr h₀ L h' m' → News h₀ L h' news' → Sub news news' → m' (Str.ofString "least_box") = some (.ref lb) → (∀ y, y ≠ Str.ofString "least_box" → m' y = m y) → (lb, tup [.ref a, .ref b, .ref c, .ref d]) ∈ news' → DecAt w news' a (lmin q0.1 (qr.map (·.1))) 2 → DecAt w news' b (lmin q0.2 (qr.map (·.2))) 2 → DecAt w news' c (lmax q0.1 (qr.map (·.1))) 2 → DecAt w news' d (lmax q0.2 (qr.map (·.2))) 2 →
      wpAny (model PySem.Challenge.rw_nn0204_01.row.prog w) (callerA.deeper (envOfC (Str.ofString "law") lawScope L fa cdA)) (execs (lawStmts.drop 25) (envOfC (Str.ofString "law") lawScope L fa cdA)) Q E { s with heap := h', toks := tk' }) :
    wpAny (model PySem.Challenge.rw_nn0204_01.row.prog w) (callerA.deeper (envOfC (Str.ofString "law") lawScope L fa cdA)) (execs (lawStmts.drop 24) (envOfC (Str.ofString "law") lawScope L fa cdA)) Q E s := by
  w_on
  revert X; k_fill; intro X
  have F := Fr_cast F (named_eq rfl hpo)
  have e0 : lawStmts.drop 24 = _ :: lawStmts.drop 25 := id rfl
  rw [e0]
  clear e0
  generalize lawStmts.drop 25 = R5 at hnext ⊢
  rw [show lawScope = Scope.mk _ _ _ _ _ from rfl] at hnext ⊢
  have hl := hps.length
  have hsz : vs.toArray.size ≤ sizeLine := by rw [List.size_toArray, hl, sizeLine_eq]; omega
  iterate 6 (first | (k_unfold; (try dsimp only)) | (k_end; wrow_close) | walk1 | (dsimp only; walk1))
  k_here; lcp_look; lcg_calm
  k_dflt (refine LCp.ListComp_P (F₀ := by k_asm) (by with_unfolding_all rfl) (by decide) (by rfl) (by decide) (by rfl) (by rfl) (by decide) ?_)
  walk1
  refine LCp.SrcLP.ledger (by rfl) F N mpo hsz ?_
  intro g2
  try dsimp only
  refine compRestP_ind (fun i ys nx => Sub news nx ∧ ∃ ps : List Pt, ys = ps.map (fun p => Value.ref p.1) ∧ (∀ p ∈ ps, PtAt w nx 2 p) ∧ ps.map (fun p => (p.2.1.2, p.2.2.2)) = (q0 :: qr).take i) ?_ ?_ _ 0 [] _ (Nat.zero_add _) ⟨fun _ h => h, [], rfl, (fun _ h => nomatch h), rfl⟩
  · rintro i ys nx v hi hP ⟨hs, ps, hys, hps2, hval⟩
    rw [List.getElem?_toArray] at hP
    obtain ⟨q, hq, t, ux, uy, rfl, ht⟩ := hps.at hP
    have hqq := hqb q (List.mem_of_getElem? hq)
    have bx62 : Ab 62 q.1 := hqq.1.le
    have by62 : Ab 62 q.2 := hqq.2.le
    refine ⟨t, _, .int q.1 ux, .int q.2 uy, _, rfl, hs _ ht, rfl, rfl, ?_⟩
    intro I oI C oC D m₂ h tk E' hC hmx hmy F2 N2 off ne
    repeat (first | (k_unfold; (try dsimp only)) | (k_end; wrow_close) | walk1 | (dsimp only; walk1))
    try k_unfold
    try dsimp only
    rename News h₀ L _ _ => kN
    rename Fr h₀ L _ _ => kF
    refine dec_end kF kN off (by omega) (by omega) (by omega) (by omega) (by omega) (by omega) (by omega) (.inr ⟨_, .tail _ (.tail _ (.tail _ (.tail _ (.tail _ (hs _ mpo))))), rfl, _, rfl⟩) ?_
    intro nx' p e1 e2 e3 hp hs'
    refine ⟨fun p hp => hs' p (hs p hp), ps ++ [p], ?_, ?_, ?_⟩
    · rw [hys, List.map_append, ← e1]; rfl
    · intro p' hp'
      rcases List.mem_append.mp hp' with hp' | hp'
      · exact (hps2 p' hp').mono hs'
      · rw [List.mem_singleton.mp hp']; exact hp
    · rw [List.map_append, hval, List.take_add_one, hq]
      show _ ++ [(p.2.1.2, p.2.2.2)] = _ ++ [q]
      rw [e2, e3]
  rintro ys nx ⟨hs, ps, hys, hps2, hval⟩
  rw [List.size_toArray, hl, List.take_length] at hval
  obtain ⟨p0, pr, rfl⟩ : ∃ p0 pr, ps = p0 :: pr := by
    cases ps with
    | nil => cases hval
    | cons p0 pr => exact ⟨_, _, rfl⟩
  have hpl : pr.length ≤ 64 := by
    have := congrArg List.length hval
    simp only [List.length_map, List.length_cons] at this hlt
    omega
  simp only [List.map_cons, List.cons.injEq] at hval
  obtain ⟨v0, v1⟩ := hval
  subst v0
  walk1
  rename_i D1 h2 tk2 F3 N3 o3
  iterate 2 (first | (k_unfold; (try dsimp only)) | (k_end; wrow_close) | walk1 | (dsimp only; walk1))
  k_here
  k_dflt (refine' c_boxOf (p0 := p0) (ps := pr) (k := 2) ?C (by decide) (List.mem_cons_self ..) hys (by omega) ?mi ?bi ?_)
  case C => exact ⟨by k_asm, by k_asm, by k_asm, by k_asm, by k_asm, by first | exact rfl | assumption, by ktr_room⟩
  case mi => exact fun p hp => (hps2 p hp).mono fun q hq => .tail _ hq
  case bi =>
    intro p hp
    have hm : (p.2.1.2, p.2.2.2) ∈ (p0.2.1.2, p0.2.2.2) :: qr := by
      rw [← v1]
      show _ ∈ List.map (fun p : Pt => (p.2.1.2, p.2.2.2)) (p0 :: pr)
      exact List.mem_map.mpr ⟨p, hp, rfl⟩
    have := hqb _ hm
    exact ⟨this.1.le (k := 62), this.2.le (k := 62)⟩
  k_whole
  intro D' a' b' c' d' h' tk' F' N' l1 ma' mb2 mc' md'
  have x1 : (pr.map (·.2.1)).map (·.2) = qr.map (·.1) := by rw [← v1]; simp
  have x2 : (pr.map (·.2.2)).map (·.2) = qr.map (·.2) := by rw [← v1]; simp
  rw [x1] at ma' mc'
  rw [x2] at mb2 md'
  try dsimp only
  walk1
  rename News h₀ L _ _ => kN2
  rename Fr h₀ L _ _ => kF2
  refine' hnext D' a' b' c' d' _ _ _ _ kF2 kN2 (fun p hp => .tail _ (.tail _ (hs _ hp))) ?a ?b (.head _) ma'.cons mb2.cons mc'.cons md'.cons
  case a => exact rfl
  case b =>
    intro y hy
    simp only [hy, if_false]
    exact congrFun (named_eq rfl hpo) y
end
-- P28c6b
section
variable {w : World} {fa : Addr} {cdA : Value} {h₀ : Heap} {L : Addr} {m : Str → Option Value} {s : Shared} {mean : ExcName → Option Value} {mg mb : Str → Option Value} {Q : Flow → Shared → Prop} {E : Value → Shared → Prop} {news : Led}
theorem law_c6b {go : Addr} {vs : List Value} {qs : List (Int × Int)} {n : Nat} (B : Below callerA h₀ [] h₀) (F : Fr h₀ L s.heap m) (X : (hd.heap_39 w.params).In h₀) (N : News h₀ L s.heap news)
    (T : Top hd.view_39 (looseW hd.view_39 [Str.ofString "PaperError"]) mean mg mb h₀)
    (hgo : m (Str.ofString "points") = some (.ref go)) (mgo : (go, listOf vs.toArray n) ∈ news) (hps : PairsAt news vs qs) (hlt : qs.length ≤ 64)
    (hnext : ∀ (ac : Addr) (us : List Value) (n' : Nat) h' tk' m' news', Fr h₀ L h' m' → News h₀ L h' news' → Sub news news' → m' (Str.ofString "across") = some (.ref ac) → (∀ y, y ≠ Str.ofString "across" → m' y = m y) → (ac, listOf us.toArray n') ∈ news' → IntsAre us (qs.map (·.1)) →
      wpAny (model PySem.Challenge.rw_nn0204_01.row.prog w) (callerA.deeper (envOfC (Str.ofString "law") lawScope L fa cdA)) (execs (lawStmts.drop 26) (envOfC (Str.ofString "law") lawScope L fa cdA)) Q E { s with heap := h', toks := tk' }) :
    wpAny (model PySem.Challenge.rw_nn0204_01.row.prog w) (callerA.deeper (envOfC (Str.ofString "law") lawScope L fa cdA)) (execs (lawStmts.drop 25) (envOfC (Str.ofString "law") lawScope L fa cdA)) Q E s := by
  w_on
  revert X; k_fill; intro X
  have F := Fr_cast F (named_eq rfl hgo)
  have e0 : lawStmts.drop 25 = _ :: lawStmts.drop 26 := id rfl
  rw [e0]
  clear e0
  generalize lawStmts.drop 26 = R5 at hnext ⊢
  rw [show lawScope = Scope.mk _ _ _ _ _ from rfl] at hnext ⊢
  have hl := hps.length
  have hsz : vs.toArray.size ≤ sizeLine := by rw [List.size_toArray, hl, sizeLine_eq]; omega
  iterate 1 (first | (k_unfold; (try dsimp only)) | (k_end; wrow_close) | walk1 | (dsimp only; walk1))
  k_here; lcg_look; lcg_calm
  k_dflt (refine LCg.Assign_ListComp_U (F₀ := by k_asm) (by rfl) (by with_unfolding_all rfl) (by rfl) (by decide) (by rfl) (by decide) (by rfl) (by rfl) (by rfl) ?_)
  walk1
  refine LCg.CompSrc.ledger (by rfl) F N mgo hsz ?_
  intro g2
  try dsimp only
  refine compRest_ind (fun i ys nx => news = nx ∧ IntsAre ys ((qs.take i).map (·.1))) ?_ ?_ _ 0 [] _ (Nat.zero_add _) ⟨rfl, .nil⟩
  · rintro i ys nx v I oI C oC D m₂ h tk E' hi hP ⟨rfl, hys⟩ hC hx F2 N2 off ne
    rw [List.getElem?_toArray] at hP
    obtain ⟨q, hq, t, w0, w1, rfl, ht⟩ := hps.at hP
    iterate 4 (first | (k_unfold; (try dsimp only)) | (k_end; wrow_close) | walk1 | (dsimp only; walk1))
    try k_unfold
    try dsimp only
    rename News h₀ L _ _ => kN
    rename Fr h₀ L _ _ => kF
    refine comp_end0 kF kN off (.inr ⟨_, mgo, rfl, _, rfl⟩) ⟨rfl, ?_⟩
    rw [List.take_add_one, hq, List.map_append]
    exact ints_snoc hys _ _
  rintro ys nx ⟨e1, hys⟩
  subst e1
  have e4 : vs.toArray.size = qs.length := by rw [List.size_toArray, hl]
  rw [e4, List.take_length] at hys
  walk1
  rename_i D1 h3 tk3 F4 N4 o4
  refine' hnext D1 ys _ _ _ _ _ F4 N4 (fun p hp => .tail _ hp) ?a ?b (.head _) hys
  case a => exact rfl
  case b =>
    intro y hy
    simp only [hy, if_false]
    exact congrFun (named_eq rfl hgo) y
end
section
variable {w : World} {fa : Addr} {cdA : Value} {h₀ : Heap} {L : Addr} {m : Str → Option Value} {s : Shared} {mean : ExcName → Option Value} {mg mb : Str → Option Value} {Q : Flow → Shared → Prop} {E : Value → Shared → Prop} {news : Led}
theorem law_c6c {go : Addr} {vs : List Value} {qs : List (Int × Int)} {n : Nat} (B : Below callerA h₀ [] h₀) (F : Fr h₀ L s.heap m) (X : (hd.heap_39 w.params).In h₀) (N : News h₀ L s.heap news)
    (T : Top hd.view_39 (looseW hd.view_39 [Str.ofString "PaperError"]) mean mg mb h₀)
    (hgo : m (Str.ofString "points") = some (.ref go)) (mgo : (go, listOf vs.toArray n) ∈ news) (hps : PairsAt news vs qs) (hlt : qs.length ≤ 64)
    (hnext : ∀ (ac : Addr) (us : List Value) (n' : Nat) h' tk' m' news', Fr h₀ L h' m' → News h₀ L h' news' → Sub news news' → m' (Str.ofString "upward") = some (.ref ac) → (∀ y, y ≠ Str.ofString "upward" → m' y = m y) → (ac, listOf us.toArray n') ∈ news' → IntsAre us (qs.map (·.2)) →
      wpAny (model PySem.Challenge.rw_nn0204_01.row.prog w) (callerA.deeper (envOfC (Str.ofString "law") lawScope L fa cdA)) (execs (lawStmts.drop 27) (envOfC (Str.ofString "law") lawScope L fa cdA)) Q E { s with heap := h', toks := tk' }) :
    wpAny (model PySem.Challenge.rw_nn0204_01.row.prog w) (callerA.deeper (envOfC (Str.ofString "law") lawScope L fa cdA)) (execs (lawStmts.drop 26) (envOfC (Str.ofString "law") lawScope L fa cdA)) Q E s := by
  w_on
  revert X; k_fill; intro X
  have F := Fr_cast F (named_eq rfl hgo)
  have e0 : lawStmts.drop 26 = _ :: lawStmts.drop 27 := id rfl
  rw [e0]
  clear e0
  generalize lawStmts.drop 27 = R5 at hnext ⊢
  rw [show lawScope = Scope.mk _ _ _ _ _ from rfl] at hnext ⊢
  have hl := hps.length
  have hsz : vs.toArray.size ≤ sizeLine := by rw [List.size_toArray, hl, sizeLine_eq]; omega
  iterate 1 (first | (k_unfold; (try dsimp only)) | (k_end; wrow_close) | walk1 | (dsimp only; walk1))
  k_here; lcg_look; lcg_calm
  k_dflt (refine LCg.Assign_ListComp_U (F₀ := by k_asm) (by rfl) (by with_unfolding_all rfl) (by rfl) (by decide) (by rfl) (by decide) (by rfl) (by rfl) (by rfl) ?_)
  walk1
  refine LCg.CompSrc.ledger (by rfl) F N mgo hsz ?_
  intro g2
  try dsimp only
  refine compRest_ind (fun i ys nx => news = nx ∧ IntsAre ys ((qs.take i).map (·.2))) ?_ ?_ _ 0 [] _ (Nat.zero_add _) ⟨rfl, .nil⟩
  · rintro i ys nx v I oI C oC D m₂ h tk E' hi hP ⟨rfl, hys⟩ hC hx F2 N2 off ne
    rw [List.getElem?_toArray] at hP
    obtain ⟨q, hq, t, w0, w1, rfl, ht⟩ := hps.at hP
    iterate 4 (first | (k_unfold; (try dsimp only)) | (k_end; wrow_close) | walk1 | (dsimp only; walk1))
    try k_unfold
    try dsimp only
    rename News h₀ L _ _ => kN
    rename Fr h₀ L _ _ => kF
    refine comp_end0 kF kN off (.inr ⟨_, mgo, rfl, _, rfl⟩) ⟨rfl, ?_⟩
    rw [List.take_add_one, hq, List.map_append]
    exact ints_snoc hys _ _
  rintro ys nx ⟨e1, hys⟩
  subst e1
  have e4 : vs.toArray.size = qs.length := by rw [List.size_toArray, hl]
  rw [e4, List.take_length] at hys
  walk1
  rename_i D1 h3 tk3 F4 N4 o4
  refine' hnext D1 ys _ _ _ _ _ F4 N4 (fun p hp => .tail _ hp) ?a ?b (.head _) hys
  case a => exact rfl
  case b =>
    intro y hy
    simp only [hy, if_false]
    exact congrFun (named_eq rfl hgo) y
end
-- P28c6d
section
variable {w : World} {fa : Addr} {cdA : Value} {h₀ : Heap} {L : Addr} {m : Str → Option Value} {s : Shared} {mean : ExcName → Option Value} {mg mb : Str → Option Value} {Q : Flow → Shared → Prop} {E : Value → Shared → Prop} {news : Led}
theorem law_c6d {lb ac up a b c d : Addr} {us vs : List Value} {x0 y0 : Int} {xs ys : List Int} {n n2 : Nat} (B : Below callerA h₀ [] h₀) (F : Fr h₀ L s.heap m) (X : (hd.heap_39 w.params).In h₀) (N : News h₀ L s.heap news)
    (T : Top hd.view_39 (looseW hd.view_39 [Str.ofString "PaperError"]) mean mg mb h₀)
    (hlb : m (Str.ofString "least_box") = some (.ref lb)) (hac : m (Str.ofString "across") = some (.ref ac)) (hup : m (Str.ofString "upward") = some (.ref up)) (mac : (ac, listOf us.toArray n) ∈ news) (mup : (up, listOf vs.toArray n2) ∈ news) (ix : IntsAre us (x0 :: xs)) (iy : IntsAre vs (y0 :: ys))
    (mlb : (lb, tup [.ref a, .ref b, .ref c, .ref d]) ∈ news) (da : DecAt w news a (lmin x0 xs) 2) (db : DecAt w news b (lmin y0 ys) 2) (dc : DecAt w news c (lmax x0 xs) 2) (dd : DecAt w news d (lmax y0 ys) 2)
    (hnext : ∀ h' tk' news', Fr h₀ L h' m → News h₀ L h' news' → Sub news news' → 
      wpAny (model PySem.Challenge.rw_nn0204_01.row.prog w) (callerA.deeper (envOfC (Str.ofString "law") lawScope L fa cdA)) (execs (lawStmts.drop 28) (envOfC (Str.ofString "law") lawScope L fa cdA)) Q E { s with heap := h', toks := tk' }) :
    wpAny (model PySem.Challenge.rw_nn0204_01.row.prog w) (callerA.deeper (envOfC (Str.ofString "law") lawScope L fa cdA)) (execs (lawStmts.drop 27) (envOfC (Str.ofString "law") lawScope L fa cdA)) Q E s := by
  w_on
  revert X; k_fill; intro X
  have F := Fr_cast F (named_eq (named_eq (named_eq rfl hlb) hac) hup)
  have e0 : lawStmts.drop 27 = _ :: lawStmts.drop 28 := id rfl
  rw [e0]
  clear e0
  generalize lawStmts.drop 28 = R5 at hnext ⊢
  rw [show lawScope = Scope.mk _ _ _ _ _ from rfl] at hnext ⊢
  repeat (first | (k_unfold; (try dsimp only)) | (k_end; wrow_close) | walk1 | (dsimp only; walk1))
  rename News h₀ L _ _ => kN
  rename Fr h₀ L _ _ => kF
  exact hnext _ _ _ (Fr_cast kF (named_eq (named_eq (named_eq rfl hlb) hac) hup).symm) kN (fun p hp => .tail _ hp)
end
local macro_rules | `(tactic| walk_at "call ref") => `(tactic| ((with_reducible show wpAny _ _ (call (Value.ref 357) [Value.int 1 _, Value.none]) _ _ _); k_dflt (refine' c_refN _ _; keq_rows)))
local macro_rules | `(tactic| walk_at "call ref") => `(tactic| ((with_reducible show wpAny _ _ (call (Value.ref 357) [Value.int 1 _, _]) _ _ _); k_dflt (refine' c_refL _ _ _ _ _; keq_rows)))
local macro_rules | `(tactic| walk_at "call ref") => `(tactic| ((with_reducible show wpAny _ _ (call (Value.ref 357) [Value.int 1 _, _]) _ _ _); k_dflt (refine' c_refT _ _ _; keq_rows)))
local macro_rules | `(tactic| walk_at "call ref") => `(tactic| ((with_reducible show wpAny _ _ (call (Value.ref 357) [Value.int 1 _, _]) _ _ _); k_dflt (refine' c_refV _ _ _ _ _ _ _ _ _ _; keq_rows)))
local macro_rules | `(tactic| walk_at "call ref") => `(tactic| ((with_reducible show wpAny _ _ (call (Value.ref 357) [Value.int 0 _, _]) _ _ _); k_dflt (refine' c_ref0 _ _ _; keq_rows)))
-- P28c7a
/-- the body of the law's loop over the wrong arrays -/
def wrongStmts : List Stmt := match lawStmts.drop 28 with
  | .For _ _ b _ _ :: _ => b
  | _ => []
section
variable {w : World} {fa : Addr} {cdA : Value} {h₀ : Heap} {L : Addr} {m : Str → Option Value} {s : Shared} {mean : ExcName → Option Value} {mg mb : Str → Option Value} {Q : Flow → Shared → Prop} {E : Value → Shared → Prop} {news : Led}
theorem law_c7t {v : Value} (B : Below callerA h₀ [] h₀) (F : Fr h₀ L s.heap m) (X : (hd.heap_39 w.params).In h₀) (N : News h₀ L s.heap news)
    (T : Top hd.view_39 (looseW hd.view_39 [Str.ofString "PaperError"]) mean mg mb h₀)
    (hv : m (Str.ofString "wrong") = some v) (hs : v = .none ∨ ∃ a, v = .ref a) (hc : ∀ (s' : Shared) (m' : Str → Option Value) (tw : Tok) (Q' E' : Value → Shared → Prop), Fr h₀ L s'.heap m' → News h₀ L s'.heap news → (∀ h' tk', Fr h₀ L h' m' → News h₀ L h' news → Q' (.bool true) { s' with heap := h', toks := tk' }) →
      wpAny (model PySem.Challenge.rw_nn0204_01.row.prog w) (callerA.deeper (envOfC (Str.ofString "law") lawScope L fa cdA)) (call (.ref 357) [.int 1 tw, v]) Q' E' s')
    (hnext : ∀ h' tk', Fr h₀ L h' m → News h₀ L h' news → 
      wpAny (model PySem.Challenge.rw_nn0204_01.row.prog w) (callerA.deeper (envOfC (Str.ofString "law") lawScope L fa cdA)) (execs (wrongStmts.drop 1) (envOfC (Str.ofString "law") lawScope L fa cdA)) Q E { s with heap := h', toks := tk' }) :
    wpAny (model PySem.Challenge.rw_nn0204_01.row.prog w) (callerA.deeper (envOfC (Str.ofString "law") lawScope L fa cdA)) (execs (wrongStmts.drop 0) (envOfC (Str.ofString "law") lawScope L fa cdA)) Q E s := by
  w_on
  revert X; k_fill; intro X
  have F := Fr_cast F (named_eq rfl hv)
  have e0 : wrongStmts.drop 0 = _ :: wrongStmts.drop 1 := id rfl
  rw [e0]
  clear e0
  generalize wrongStmts.drop 1 = R5 at hnext ⊢
  rw [show lawScope = Scope.mk _ _ _ _ _ from rfl] at hc hnext ⊢
  rcases hs with rfl | ⟨a, rfl⟩
  · iterate 13 (first | (k_unfold; (try dsimp only)) | (k_end; wrow_close) | walk1 | (dsimp only; walk1))
    refine hc _ _ _ _ _ F N ?_
    intro h' tk' F' N'
    try dsimp only
    repeat (first | (k_unfold; (try dsimp only)) | (k_end; wrow_close) | walk1 | (dsimp only; walk1))
    rename News h₀ L _ _ => kN
    rename Fr h₀ L _ _ => kF
    exact hnext _ _ (Fr_cast kF (named_eq rfl hv).symm) kN
  · iterate 13 (first | (k_unfold; (try dsimp only)) | (k_end; wrow_close) | walk1 | (dsimp only; walk1))
    refine hc _ _ _ _ _ F N ?_
    intro h' tk' F' N'
    try dsimp only
    repeat (first | (k_unfold; (try dsimp only)) | (k_end; wrow_close) | walk1 | (dsimp only; walk1))
    rename News h₀ L _ _ => kN
    rename Fr h₀ L _ _ => kF
    exact hnext _ _ (Fr_cast kF (named_eq rfl hv).symm) kN
end
-- P28c7w
theorem sub_of {h₀ h : Heap} {L : Addr} {l news : Led} (_N : News h₀ L h l) (hs : ∀ p ∈ news, p ∈ l) : ∀ p ∈ news, p ∈ l := hs
section
variable {w : World} {fa : Addr} {cdA : Value} {h₀ : Heap} {L : Addr} {m : Str → Option Value} {s : Shared} {mean : ExcName → Option Value} {mg mb : Str → Option Value} {Q : Flow → Shared → Prop} {E : Value → Shared → Prop} {news : Led}
theorem law_c7w {d : LD} {nx : Led} {w0 w1 w2 w3 w4 : Addr} {t1 : Tok} {k0 k1 k2 k3 : Nat} (B : Below callerA h₀ [] h₀) (X : (hd.heap_39 w.params).In h₀)
    (T : Top hd.view_39 (looseW hd.view_39 [Str.ofString "PaperError"]) mean mg mb h₀) (f : LF w L d news) (b : LB d) (hs : Sub news nx)
    (m0 : (w0, listOf [.ref d.n0, .ref d.n1, .ref d.n2].toArray k0) ∈ nx) (m1 : (w1, listOf [.ref d.n0, .ref d.n1, .ref d.n2, .ref d.n3, .int 1 t1].toArray k1) ∈ nx)
    (m2 : (w2, listOf [.ref d.n0, .ref d.n1, .ref d.n2, .none].toArray k2) ∈ nx) (m3 : (w3, listOf [.ref d.n0, .ref d.n1, .ref d.n2, .bool false].toArray k3) ∈ nx) (m4 : (w4, tup [.ref d.n0, .ref d.n1, .ref d.n2, .ref d.n3]) ∈ nx) :
    ∀ v ∈ [Value.ref w0, .ref w1, .ref w2, .ref w3, .ref w4, .none], (v = .none ∨ ∃ a, v = .ref a) ∧ ∀ (s' : Shared) (m' : Str → Option Value) (tw : Tok) (Q' E' : Value → Shared → Prop), Fr h₀ L s'.heap m' → News h₀ L s'.heap nx → (∀ h' tk', Fr h₀ L h' m' → News h₀ L h' nx → Q' (.bool true) { s' with heap := h', toks := tk' }) →
      wpAny (model PySem.Challenge.rw_nn0204_01.row.prog w) (callerA.deeper (envOfC (Str.ofString "law") lawScope L fa cdA)) (call (.ref 357) [.int 1 tw, v]) Q' E' s' := by
  intro v hv
  simp only [List.mem_cons, List.not_mem_nil, or_false] at hv
  rw [show lawScope = Scope.mk _ _ _ _ _ from rfl]
  rcases hv with rfl | rfl | rfl | rfl | rfl | rfl
  · refine ⟨.inr ⟨_, rfl⟩, fun s' m' tw Q' E' F' N' hq => ?_⟩
    refine' c_refL ?C m0 (by simp) (by simp) hq
    case C => exact ⟨B, F', X, N', T, by first | exact rfl | assumption, by ktr_room⟩
  · refine ⟨.inr ⟨_, rfl⟩, fun s' m' tw Q' E' F' N' hq => ?_⟩
    refine' c_refL ?C m1 (by simp) (by simp) hq
    case C => exact ⟨B, F', X, N', T, by first | exact rfl | assumption, by ktr_room⟩
  · refine ⟨.inr ⟨_, rfl⟩, fun s' m' tw Q' E' F' N' hq => ?_⟩
    refine' c_refV (k := 2) ?C m2 (by decide) (f.num0.mono hs) (f.num1.mono hs) (f.num2.mono hs) b.f0.le b.f2.le (.inl rfl) hq
    case C => exact ⟨B, F', X, N', T, by first | exact rfl | assumption, by ktr_room⟩
  · refine ⟨.inr ⟨_, rfl⟩, fun s' m' tw Q' E' F' N' hq => ?_⟩
    refine' c_refV (k := 2) ?C m3 (by decide) (f.num0.mono hs) (f.num1.mono hs) (f.num2.mono hs) b.f0.le b.f2.le (.inr rfl) hq
    case C => exact ⟨B, F', X, N', T, by first | exact rfl | assumption, by ktr_room⟩
  · refine ⟨.inr ⟨_, rfl⟩, fun s' m' tw Q' E' F' N' hq => ?_⟩
    refine' c_refT ?C m4 hq
    case C => exact ⟨B, F', X, N', T, by first | exact rfl | assumption, by ktr_room⟩
  · refine ⟨.inl rfl, fun s' m' tw Q' E' F' N' hq => ?_⟩
    refine' c_refN ?C hq
    case C => exact ⟨B, F', X, N', T, by first | exact rfl | assumption, by ktr_room⟩
end
-- P28c7b
section
variable {w : World} {fa : Addr} {cdA : Value} {h₀ : Heap} {L : Addr} {m : Str → Option Value} {s : Shared} {mean : ExcName → Option Value} {mg mb : Str → Option Value} {Q : Flow → Shared → Prop} {E : Value → Shared → Prop} {news : Led}
theorem law_c7a {d : LD} (B : Below callerA h₀ [] h₀) (F : Fr h₀ L s.heap m) (X : (hd.heap_39 w.params).In h₀) (N : News h₀ L s.heap news)
    (T : Top hd.view_39 (looseW hd.view_39 [Str.ofString "PaperError"]) mean mg mb h₀)
    (hE : PassesOwn (model PySem.Challenge.rw_nn0204_01.row.prog w) (callerA.deeper (envOfC (Str.ofString "law") lawScope L fa cdA)) (envOfC (Str.ofString "law") lawScope L fa cdA) E)
    (f : LF w L d news) (b : LB d) (lm : LM d m)
    (hnext : ∀ h' tk' m' news', Fr h₀ L h' m' → News h₀ L h' news' → 
      wpAny (model PySem.Challenge.rw_nn0204_01.row.prog w) (callerA.deeper (envOfC (Str.ofString "law") lawScope L fa cdA)) (execs (lawStmts.drop 29) (envOfC (Str.ofString "law") lawScope L fa cdA)) Q E { s with heap := h', toks := tk' }) :
    wpAny (model PySem.Challenge.rw_nn0204_01.row.prog w) (callerA.deeper (envOfC (Str.ofString "law") lawScope L fa cdA)) (execs (lawStmts.drop 28) (envOfC (Str.ofString "law") lawScope L fa cdA)) Q E s := by
  w_on
  revert X; k_fill; intro X
  have F := Fr_cast F (named_eq rfl lm.numbers)
  have turnBody := fun (m : Str → Option Value) (s : Shared) (news : Led) (Q : Flow → Shared → Prop) (E : Value → Shared → Prop) (v : Value) => @law_c7t w fa cdA h₀ L m s mean mg mb Q E news v
  have hall := fun (nx : Led) {w0 w1 w2 w3 w4 : Addr} {t1 : Tok} {k0 k1 k2 k3 : Nat} => @law_c7w w fa cdA h₀ L mean mg mb news d nx w0 w1 w2 w3 w4 t1 k0 k1 k2 k3
  have e0 : lawStmts.drop 28 = Stmt.For _ _ wrongStmts [] _ :: lawStmts.drop 29 := id rfl
  rw [e0]
  clear e0
  generalize lawStmts.drop 29 = R5 at hnext ⊢
  rw [show lawScope = Scope.mk _ _ _ _ _ from rfl] at turnBody hall hE hnext ⊢
  obtain ⟨n, mnum⟩ := f.nums
  iterate 1 (first | (k_unfold; (try dsimp only)) | (k_end; wrow_close) | walk1 | (dsimp only; walk1))
  with_unfolding_all refine' For_invVF (hE := hE) F ?k1 ?k2 ?_
  case k1 => exact rfl
  case k2 => exact rfl
  iterate 63 (first | (k_unfold; (try dsimp only)) | (k_end; wrow_close) | walk1 | (dsimp only; walk1))
  rename News h₀ L _ _ => kN
  rename Fr h₀ L _ _ => kF
  have hsub0 := sub_of (news := news) kN (by intro p hp; repeat (first | exact hp | refine List.mem_cons_of_mem _ ?_))
  refine iter_led (fun _ m₁ => ∀ z, z ≠ Str.ofString "wrong" → m₁ z = m z) rfl (.head _) kF kN ?hj ?turn ?done
  case hj =>
    intro z hz
    exact congrFun (named_eq rfl lm.numbers) z
  case done =>
    intro m₁ h tk hJ F4 N4
    exact hnext h tk m₁ _ F4 N4
  case turn =>
    intro i v m₁ h tk own hv hJ F2 N2
    have hw := hall _ B X T f b (fun p hp => List.mem_append_right own (hsub0 p hp)) (List.mem_append_right own (.tail _ (.tail _ (.tail _ (.tail _ (.tail _ (.tail _ (.tail _ (.tail _ (.tail _ (.tail _ (.head _)))))))))))) (List.mem_append_right own (.tail _ (.tail _ (.tail _ (.tail _ (.tail _ (.tail _ (.tail _ (.tail _ (.head _)))))))))) (List.mem_append_right own (.tail _ (.tail _ (.tail _ (.tail _ (.tail _ (.head _))))))) (List.mem_append_right own (.tail _ (.tail _ (.head _)))) (List.mem_append_right own (.tail _ (.head _))) v (List.mem_of_getElem? hv)
    refine turnBody _ _ _ _ _ v B F2 X N2 T (if_pos rfl) hw.1 hw.2 ?_
    intro h' tk' F5 N5
    exact wpAny_execs_nil (InvEnd.intro F5 N5 (fun p hp => hp) (fun z hz => by simp only [hz, if_false]; exact hJ z hz))
end
-- P28bx
local macro_rules | `(tactic| walk_at "call ref") => `(tactic| (with_reducible refine atC 175 ?_; k_dflt (refine' c_leastI _ _ _; keq_rows)))
local macro_rules | `(tactic| walk_at "call ref") => `(tactic| (with_reducible refine atC 182 ?_; k_dflt (refine' c_greatI _ _ _; keq_rows)))
section
variable {w : World} {dp un : Nat} {gd : Option (List Code)} {cn : Str} {cs : Scope} {ca : Addr} {ccd : Value} {cl : List (Str × Addr)} {A₀ : Around} {outer : List Env} {base h₀ : Heap} {L : Addr} {m : Str → Option Value} {s : Shared} {news : Led} {mean : ExcName → Option Value} {mg mb : Str → Option Value} {Q E : Value → Shared → Prop}

/-- box_of of one point of ints -/
theorem c_boxI {l t : Addr} {x y : Int} {tx ty : Tok} {n : Nat} (C : Cx w dp cs outer A₀ base h₀ L m s news mean mg mb 20)
    (ml : (l, listOf [.ref t].toArray n) ∈ news) (mt : (t, tup [.int x tx, .int y ty]) ∈ news)
    (hret : ∀ D a b c d h' tk' news', Fr h₀ L h' m → News h₀ L h' news' → (D, tup [.ref a, .ref b, .ref c, .ref d]) ∈ news' → DecAt w news' a x 0 → DecAt w news' b y 0 → DecAt w news' c x 0 → DecAt w news' d y 0 → Q (.ref D) { s with heap := h', toks := tk' }) :
    wpAny (model PySem.Challenge.rw_nn0204_01.row.prog w) (ktrTop dp un gd cn cs L ca ccd cl outer) (call (.ref 248) [.ref l]) Q E s := by
  obtain ⟨B, F, X, N, T, hk, hd⟩ := C
  w_on
  revert X; k_fill; intro X
  refine wpAny_call ?_
  ktr_call [(Str.ofString "points", .ref l)] 1
  k_steps
  exact hret _ _ _ _ _ _ _ _ (by assumption) (by assumption) (.head _) (by k_mem) (by k_mem) (by k_mem) (by k_mem)
end
-- P28c7c
section
variable {w : World} {fa : Addr} {cdA : Value} {h₀ : Heap} {L : Addr} {m : Str → Option Value} {s : Shared} {mean : ExcName → Option Value} {mg mb : Str → Option Value} {Q : Flow → Shared → Prop} {E : Value → Shared → Prop} {news : Led}
theorem law_c7c  (B : Below callerA h₀ [] h₀) (F : Fr h₀ L s.heap m) (X : (hd.heap_39 w.params).In h₀) (N : News h₀ L s.heap news)
    (T : Top hd.view_39 (looseW hd.view_39 [Str.ofString "PaperError"]) mean mg mb h₀)
    
    (hnext : ∀ h' tk' m' news', Fr h₀ L h' m' → News h₀ L h' news' → Q (.ret (.bool true)) { s with heap := h', toks := tk' }) :
    wpAny (model PySem.Challenge.rw_nn0204_01.row.prog w) (callerA.deeper (envOfC (Str.ofString "law") lawScope L fa cdA)) (execs (lawStmts.drop 29) (envOfC (Str.ofString "law") lawScope L fa cdA)) Q E s := by
  w_on
  revert X; k_fill; intro X
  
  have e0 : lawStmts.drop 29 = _ :: lawStmts.drop 30 := id rfl
  rw [e0]
  clear e0
  generalize lawStmts.drop 30 = R5
  rw [show lawScope = Scope.mk _ _ _ _ _ from rfl]
  iterate 14 (first | (k_unfold; (try dsimp only)) | (k_end; wrow_close) | walk1 | (dsimp only; walk1))
  k_here
  refine' c_ref0 ?C (.head _) ?_
  case C => exact ⟨by k_asm, by k_asm, by k_asm, by k_asm, by k_asm, by first | exact rfl | assumption, by ktr_room⟩
  k_whole
  intro h' tk' F' N'
  try dsimp only
  iterate 24 (first | (k_unfold; (try dsimp only)) | (k_end; wrow_close) | walk1 | (dsimp only; walk1))
  k_here
  refine' c_boxI ?C (.head _) (.tail _ (.head _)) ?_
  case C => exact ⟨by k_asm, by k_asm, by k_asm, by k_asm, by k_asm, by first | exact rfl | assumption, by ktr_room⟩
  k_whole
  intro D' a' b' c' d' h' tk' news' F' N' mD ma mb' mc md
  try dsimp only
  iterate 17 (first | (k_unfold; (try dsimp only)) | (k_end; wrow_close) | walk1 | (dsimp only; walk1))
  rename News h₀ L _ _ => kN
  rename Fr h₀ L _ _ => kF
  exact hnext _ _ _ _ kF kN
end
-- P29all
theorem LM.but {d : LD} {m m' : Str → Option Value} {a : Str} (x : LM d m) (h : ∀ y, y ≠ a → m' y = m y)
    (ha : Str.ofString "pen" ≠ a ∧ Str.ofString "m" ≠ a ∧ Str.ofString "numbers" ≠ a ∧ Str.ofString "frame" ≠ a ∧ Str.ofString "sides" ≠ a ∧ Str.ofString "second" ≠ a ∧ Str.ofString "others" ≠ a) : LM d m' where
  pen := (h _ ha.1).trans x.pen
  m_ := (h _ ha.2.1).trans x.m_
  numbers := (h _ ha.2.2.1).trans x.numbers
  frame := (h _ ha.2.2.2.1).trans x.frame
  sides := (h _ ha.2.2.2.2.1).trans x.sides
  second := (h _ ha.2.2.2.2.2.1).trans x.second
  others := (h _ ha.2.2.2.2.2.2).trans x.others
theorem ab_pts {d : LD} (b : LB d) : ∀ q ∈ ([(min d.f0 d.f2, min d.f1 d.f3), (max d.f0 d.f2, min d.f1 d.f3), (max d.f0 d.f2, max d.f1 d.f3), (min d.f0 d.f2, max d.f1 d.f3)] ++ [(min d.f0 d.f2 - 1, min d.f1 d.f3), (max d.f0 d.f2, max d.f1 d.f3 + 1)]), Ab 12 q.1 ∧ Ab 12 q.2 := by
  have b0 := b.f0
  have b1 := b.f1
  have b2 := b.f2
  have b3 := b.f3
  have c0 : Ab 12 (min d.f0 d.f2) := (b0.min b2).le
  have c1 : Ab 12 (min d.f1 d.f3) := (b1.min b3).le
  have c2 : Ab 12 (max d.f0 d.f2) := (b0.max b2).le
  have c3 : Ab 12 (max d.f1 d.f3) := (b1.max b3).le
  have c4 : Ab 12 (min d.f0 d.f2 - 1) := by have := (b0.min b2).out; unfold Ab; omega
  have c5 : Ab 12 (max d.f1 d.f3 + 1) := by have := (b1.max b3).out; unfold Ab; omega
  intro q hq
  simp only [List.cons_append, List.nil_append, List.mem_cons, List.not_mem_nil, or_false] at hq
  rcases hq with rfl | rfl | rfl | rfl | rfl | rfl
  · exact ⟨c0, c1⟩
  · exact ⟨c2, c1⟩
  · exact ⟨c2, c3⟩
  · exact ⟨c0, c3⟩
  · exact ⟨c4, c1⟩
  · exact ⟨c2, c5⟩
section
variable {w : World} {fa : Addr} {cdA : Value} {h₀ : Heap} {L : Addr} {m : Str → Option Value} {s : Shared} {mean : ExcName → Option Value} {mg mb : Str → Option Value} {Q : Flow → Shared → Prop} {E : Value → Shared → Prop}
theorem law_c1 {a : Addr} {vs : List Value} {ns : List Int} {oc : Obj} {v₀ : Option Value} (B : Below callerA h₀ [] h₀) (F : Fr h₀ L s.heap m) (X : (hd.heap_39 w.params).In h₀) (N : News h₀ L s.heap [(L + 1, oc)])
    (T : Top hd.view_39 (looseW hd.view_39 [Str.ofString "PaperError"]) mean mg mb h₀) (hoc : oc.data = .cell v₀) (hm : m (Str.ofString "script") = some (.ref a)) (hL : h₀.IsList a vs.toArray) (hI : IntsAre vs ns) (hlen : ns.length ≤ 63)
    (hnext : ∀ (d : LD) h' tk' m' news' o, Fr h₀ L h' m' → News h₀ L h' news' → LF w L d news' → LB d → LM d m' → (d.P, o) ∈ news' → PenAt d.cl 0 100 o →
      wpAny (model PySem.Challenge.rw_nn0204_01.row.prog w) (callerA.deeper (envOfC (Str.ofString "law") lawScope L fa cdA)) (execs (lawStmts.drop 10) (envOfC (Str.ofString "law") lawScope L fa cdA)) Q E { s with heap := h', toks := tk' }) :
    wpAny (model PySem.Challenge.rw_nn0204_01.row.prog w) (callerA.deeper (envOfC (Str.ofString "law") lawScope L fa cdA)) (execs (lawStmts.drop 0) (envOfC (Str.ofString "law") lawScope L fa cdA)) Q E s := by
  refine law_c1a B F X N T hoc hm hL hI hlen ?_
  intro P cl l4 l4' sx M f0 f1 f2 f3 g0 g1 g2 g3 a0 a1 a2 a3 a4 a5 t0 t1 t2 t3 u0 u1 u2 u3 v0 v1 v2 v3 v4 v5 n0 n1 n2 h1 tk1 m1 nw1 o oc' F1 N1 bf0 bf1 bf2 bf3 bg0 bg1 bg2 bg3 ba0 ba1 ba2 ba3 ba4 ba5 hpen hfour hfours hmm hcl m4 m4' msx mcell dcell mM mP hP
  refine law_c1b B F1 X N1 T hfour m4 bf0 bf1 bf2 bf3 ?_
  intro ln x0 x1 x2 x3 n3 h2 tk2 m2 nw2 F2 N2 s2 hnum hm2 mln d0 d1 d2 d3
  refine law_c1c B F2 X N2 T ((hm2 _ (by decide)).trans hfour) hnum (s2 _ m4) mln d0 d1 d2 d3 bf0 bf1 bf2 bf3 ?_
  intro fr ya yb yc yd sd w0 w1 w2 w3 h3 tk3 m3 nw3 F3 N3 s3 hfr hsd hm3 mfr e0 e1 e2 e3 msd
  have hfours3 := (hm3 (Str.ofString "fours") (by decide) (by decide)).trans ((hm2 _ (by decide)).trans hfours)
  refine law_c1d B F3 X N3 T hfours3 (s3 _ (s2 _ m4')) bg0 bg1 bg2 bg3 ?_
  intro se ga gb gc gd h4 tk4 m4_ nw4 F4 N4 s4 hse hm4 mse j0 j1 j2 j3
  refine law_c1e B F4 X N4 T ((hm4 _ (by decide)).trans hfours3) (s4 _ (s3 _ (s2 _ m4'))) ?_
  intro ot z0 z1 z2 z3 h5 tk5 m5 nw5 F5 N5 s5 hot hm5 mot
  have s15 : Sub nw1 nw5 := fun p hp => s5 p (s4 p (s3 p (s2 p hp)))
  have s25 : Sub nw2 nw5 := fun p hp => s5 p (s4 p (s3 p hp))
  have s35 : Sub nw3 nw5 := fun p hp => s5 p (s4 p hp)
  refine hnext ⟨P, cl, sx, ln, fr, sd, se, ot, M, x0, x1, x2, x3, ya, yb, yc, yd, ga, gb, gc, gd, a0, a1, a2, a3, a4, a5, f0, f1, f2, f3, g0, g1, g2, g3⟩ h5 tk5 m5 nw5 o F5 N5 ?lf ?lb ?lm (s15 _ mP) hP
  case lf => exact {
    cells := hcl.mono s15
    six := ⟨v0, v1, v2, v3, v4, v5, n2, s15 _ msx⟩
    cell := ⟨oc', s15 _ mcell, dcell⟩
    mat := mM.mono s15
    nums := ⟨n3, s25 _ mln⟩
    num0 := d0.mono s25
    num1 := d1.mono s25
    num2 := d2.mono s25
    num3 := d3.mono s25
    frame := s35 _ mfr
    fa := e0.mono s35
    fb := e1.mono s35
    fc := e2.mono s35
    fd := e3.mono s35
    sides := ⟨w0, w1, w2, w3, s35 _ msd⟩
    second := s5 _ mse
    ga := j0.mono s5
    gb := j1.mono s5
    gc := j2.mono s5
    gd := j3.mono s5
    others := ⟨z0, z1, z2, z3, mot⟩ }
  case lb => exact ⟨ba0, ba1, ba2, ba3, ba4, ba5, bf0, bf1, bf2, bf3, bg0, bg1, bg2, bg3⟩
  case lm => exact {
    pen := (hm5 _ (by decide)).trans ((hm4 _ (by decide)).trans ((hm3 _ (by decide) (by decide)).trans ((hm2 _ (by decide)).trans hpen)))
    m_ := (hm5 _ (by decide)).trans ((hm4 _ (by decide)).trans ((hm3 _ (by decide) (by decide)).trans ((hm2 _ (by decide)).trans hmm)))
    numbers := (hm5 _ (by decide)).trans ((hm4 _ (by decide)).trans ((hm3 _ (by decide) (by decide)).trans hnum))
    frame := (hm5 _ (by decide)).trans ((hm4 _ (by decide)).trans hfr)
    sides := (hm5 _ (by decide)).trans ((hm4 _ (by decide)).trans hsd)
    second := (hm5 _ (by decide)).trans hse
    others := hot }
end
section
variable {w : World} {fa : Addr} {cdA : Value} {h₀ : Heap} {L : Addr} {m : Str → Option Value} {s : Shared} {mean : ExcName → Option Value} {mg mb : Str → Option Value} {Q : Flow → Shared → Prop} {E : Value → Shared → Prop} {news : Led}
theorem law_rest {d : LD} {o : Obj} (B : Below callerA h₀ [] h₀) (F : Fr h₀ L s.heap m) (X : (hd.heap_39 w.params).In h₀) (N : News h₀ L s.heap news)
    (T : Top hd.view_39 (looseW hd.view_39 [Str.ofString "PaperError"]) mean mg mb h₀)
    (hE : PassesOwn (model PySem.Challenge.rw_nn0204_01.row.prog w) (callerA.deeper (envOfC (Str.ofString "law") lawScope L fa cdA)) (envOfC (Str.ofString "law") lawScope L fa cdA) E)
    (f : LF w L d news) (b : LB d) (lm : LM d m) (mP : (d.P, o) ∈ news) (hP : PenAt d.cl 0 100 o)
    (hnext : ∀ h' tk' m' news', Fr h₀ L h' m' → News h₀ L h' news' → Q (.ret (.bool true)) { s with heap := h', toks := tk' }) :
    wpAny (model PySem.Challenge.rw_nn0204_01.row.prog w) (callerA.deeper (envOfC (Str.ofString "law") lawScope L fa cdA)) (execs (lawStmts.drop 10) (envOfC (Str.ofString "law") lawScope L fa cdA)) Q E s := by
  refine law_c2a B F X N T f lm ?_
  intro h1 tk1 F1 N1
  refine law_c2b B F1 X N1 T f b lm ?_
  intro h2 tk2 nw2 F2 N2 s2
  refine law_c2c B F2 X N2 T (f.mono s2) lm ?_
  intro co p0 p1 p2 p3 u0 u1 u2 u3 v0 v1 v2 v3 n3 h3 tk3 m3 nw3 F3 N3 s3 hco hm3 mco mp0 mp1 mp2 mp3
  have t3 : Sub news nw3 := fun p hp => s3 p (s2 p hp)
  have lm3 := lm.but hm3 (by decide)
  refine law_c2d B F3 X N3 T (f.mono t3) b lm3 hco mco mp0 mp1 mp2 mp3 ?_
  intro h4 tk4 nw4 F4 N4 s4
  have t4 : Sub news nw4 := fun p hp => s4 p (t3 p hp)
  refine law_c2e B F4 X N4 T (f.mono t4) b lm3 ?_
  intro h5 tk5 nw5 F5 N5 s5
  have t5 : Sub news nw5 := fun p hp => s5 p (t4 p hp)
  refine law_c3a B F5 X N5 T (f.mono t5) b lm3 ?_
  intro ar ya yb yc yd h6 tk6 m6 nw6 F6 N6 s6 har hm6 r6
  have t6 : Sub news nw6 := fun p hp => s6 p (t5 p hp)
  have t36 : Sub nw3 nw6 := fun p hp => s6 p (s5 p (s4 p hp))
  have lm6 := lm3.but hm6 (by decide)
  have hco6 := (hm6 (Str.ofString "corners") (by decide)).trans hco
  refine law_c3b B F6 X N6 T (f.mono t6) b hco6 (t36 _ mco) (t36 _ mp0) (t36 _ mp1) (t36 _ mp2) (t36 _ mp3) ?_
  intro go vs n7 h7 tk7 m7 nw7 F7 N7 s7 hgo hm7 mgo pgo
  have hlen : ([(min d.f0 d.f2, min d.f1 d.f3), (max d.f0 d.f2, min d.f1 d.f3), (max d.f0 d.f2, max d.f1 d.f3), (min d.f0 d.f2, max d.f1 d.f3)].map (goesI d)).length ≤ 64 := by simp
  refine law_c3c B F7 X N7 T hgo mgo pgo hlen ?_
  intro ac us n8 h8 tk8 m8 nw8 F8 N8 s8 hac hm8 mac iac
  refine law_c3d B F8 X N8 T ((hm8 _ (by decide)).trans hgo) (s8 _ mgo) (pgo.mono s8) hlen ?_
  intro up us2 n9 h9 tk9 m9 nw9 F9 N9 s9 hup hm9 mup iup
  refine law_c3e B F9 X N9 T ((hm9 _ (by decide)).trans hac) hup (s9 _ mac) mup iac iup ?_
  intro du t0 t1 t2 t3' h10 tk10 m10 nw10 F10 N10 s10 hdu hm10 mdu
  have t610 : Sub nw6 nw10 := fun p hp => s10 p (s9 p (s8 p (s7 p hp)))
  have r10 := r6.mono t610
  have har10 := (hm10 (Str.ofString "around") (by decide)).trans ((hm9 _ (by decide)).trans ((hm8 _ (by decide)).trans ((hm7 _ (by decide)).trans har)))
  have hco10 := (hm10 (Str.ofString "corners") (by decide)).trans ((hm9 _ (by decide)).trans ((hm8 _ (by decide)).trans ((hm7 _ (by decide)).trans hco6)))
  have lm10 := (((lm6.but hm7 (by decide)).but hm8 (by decide)).but hm9 (by decide)).but hm10 (by decide)
  have q0 := r10.x0
  have q1 := r10.y0
  have q2 := r10.x1
  have q3 := r10.y1
  rw [Int.mul_comm d.a4 100] at q0 q2
  rw [Int.mul_comm d.a5 100] at q1 q3
  refine law_c3f B F10 X N10 T har10 hdu r10.box mdu q0 q1 q2 q3 ?_
  intro h11 tk11 F11 N11
  have t10 : Sub news nw10 := fun p hp => t610 p (t6 p hp)
  have t310 : Sub nw3 nw10 := fun p hp => t610 p (t36 p hp)
  refine law_c4a B F11 X N11 T (f.mono t10) b lm10 hco10 (t310 _ mco) (t310 _ mp0) (t310 _ mp1) (t310 _ mp2) (t310 _ mp3) ?_
  intro po ws n12 h12 tk12 m12 nw12 F12 N12 s12 hpo hm12 mpo pps
  have t12 : Sub news nw12 := fun p hp => s12 p (t10 p hp)
  have lm12 := lm10.but hm12 (by decide)
  have har12 := (hm12 (Str.ofString "around") (by decide)).trans har10
  refine law_c4b B F12 X N12 T hE (f.mono t12) b lm12 (r10.mono s12) (t12 _ mP) hP hpo mpo pps rfl (ab_pts b) ?_
  intro ws2 qs2 n13 h13 tk13 m13 nw13 F13 N13 f13 r13 hm13 mpo13 pps13 hq12 hqb13
  have lm13 := lm12.keep hm13
  have har13 := (hm13 (Str.ofString "around") (by decide) (by decide) (by decide)).trans har12
  have hpo13 := (hm13 (Str.ofString "points") (by decide) (by decide) (by decide)).trans hpo
  refine law_c5 B F13 X N13 T hE f13 b lm13 r13 har13 hpo13 mpo13 pps13 hqb13 ?_
  intro h14 tk14 m14 F14 N14 hm14
  have lm14 := lm13.same hm14
  have hpo14 := (hm14 (Str.ofString "points") (by unfold Oth; decide)).trans hpo13
  obtain ⟨q0, qr, rfl⟩ : ∃ q0 qr, qs2 = q0 :: qr := by
    cases qs2 with
    | nil => cases hq12
    | cons q0 qr => exact ⟨_, _, rfl⟩
  have hl64 : (q0 :: qr).length ≤ 64 := by rw [hq12]; decide
  refine law_c6a B F14 X N14 T hpo14 mpo13 pps13 hl64 hqb13 ?_
  intro lb z0 z1 z2 z3 h15 tk15 m15 nw15 F15 N15 s15 hlb hm15 mlb da db dc dd
  have hpo15 := (hm15 (Str.ofString "points") (by decide)).trans hpo14
  refine law_c6b B F15 X N15 T hpo15 (s15 _ mpo13) (pps13.mono s15) hl64 ?_
  intro ac2 us3 n16 h16 tk16 m16 nw16 F16 N16 s16 hac2 hm16 mac2 iac2
  refine law_c6c B F16 X N16 T ((hm16 _ (by decide)).trans hpo15) (s16 _ (s15 _ mpo13)) ((pps13.mono s15).mono s16) hl64 ?_
  intro up2 us4 n17 h17 tk17 m17 nw17 F17 N17 s17 hup2 hm17 mup2 iup2
  have t17 : Sub nw15 nw17 := fun p hp => s17 p (s16 p hp)
  have lm17 := ((lm14.but hm15 (by decide)).but hm16 (by decide)).but hm17 (by decide)
  refine law_c6d B F17 X N17 T ((hm17 _ (by decide)).trans ((hm16 _ (by decide)).trans hlb)) ((hm17 _ (by decide)).trans hac2) hup2 (s17 _ mac2) mup2 iac2 iup2 (t17 _ mlb) (da.mono t17) (db.mono t17) (dc.mono t17) (dd.mono t17) ?_
  intro h18 tk18 nw18 F18 N18 s18
  have t18 : Sub nw13 nw18 := fun p hp => s18 p (t17 p (s15 p hp))
  refine law_c7a B F18 X N18 T hE (f13.mono t18) b lm17 ?_
  intro h19 tk19 m19 nw19 F19 N19
  refine law_c7c B F19 X N19 T ?_
  intro h20 tk20 m20 nw20 F20 N20
  exact hnext h20 tk20 m20 nw20 F20 N20
end
section
variable {w : World} {fa : Addr} {cdA : Value} {h₀ : Heap} {L : Addr} {m : Str → Option Value} {s : Shared} {mean : ExcName → Option Value} {mg mb : Str → Option Value} {Q : Flow → Shared → Prop} {E : Value → Shared → Prop}
/-- the law's body, all of it -/
theorem law_all {a : Addr} {vs : List Value} {ns : List Int} {oc : Obj} {v₀ : Option Value} (B : Below callerA h₀ [] h₀) (F : Fr h₀ L s.heap m) (X : (hd.heap_39 w.params).In h₀) (N : News h₀ L s.heap [(L + 1, oc)])
    (T : Top hd.view_39 (looseW hd.view_39 [Str.ofString "PaperError"]) mean mg mb h₀) (hoc : oc.data = .cell v₀) (hm : m (Str.ofString "script") = some (.ref a)) (hL : h₀.IsList a vs.toArray) (hI : IntsAre vs ns) (hlen : ns.length ≤ 63)
    (hE : PassesOwn (model PySem.Challenge.rw_nn0204_01.row.prog w) (callerA.deeper (envOfC (Str.ofString "law") lawScope L fa cdA)) (envOfC (Str.ofString "law") lawScope L fa cdA) E)
    (hnext : ∀ h' tk' m' news', Fr h₀ L h' m' → News h₀ L h' news' → Q (.ret (.bool true)) { s with heap := h', toks := tk' }) :
    wpAny (model PySem.Challenge.rw_nn0204_01.row.prog w) (callerA.deeper (envOfC (Str.ofString "law") lawScope L fa cdA)) (execs (lawStmts.drop 0) (envOfC (Str.ofString "law") lawScope L fa cdA)) Q E s := by
  refine law_c1 B F X N T hoc hm hL hI hlen ?_
  intro d h1 tk1 m1 nw1 o F1 N1 f b lm mP hP
  refine law_rest B F1 X N1 T hE f b lm mP hP ?_
  intro h2 tk2 m2 nw2 F2 N2
  exact hnext h2 tk2 m2 nw2 F2 N2
end
-- P30fin
local macro_rules | `(tactic| k_qdec) => `(tactic| decide +kernel)
theorem law_holds : PySem.Challenge.rw_nn0204_01.Holds := hd (by
  (k_go0; (all_goals try k_fold))
  refine' law_all ?B ?F ?X ?N ?T ?hoc ?hm ?hL ?hI ?hlen ?hE ?hnext
  case B => k_asm
  case F => k_asm
  case X => k_asm
  case N => k_asm
  case T => k_asm
  case hI => assumption
  case hL => assumption
  case hlen => omega
  case hE => first | passes_own | with_unfolding_all passes_own
  case hm => first | exact rfl | (simp only [bindL]; rfl)
  case hoc => first | assumption | exact rfl
  case hnext =>
    intro h' tk' m' news' F' N'
    k_unfold
    wrow_close)
end Mine

theorem PySem.Challenge.cw_nn0204_01_holds : PySem.Challenge.rw_nn0204_01.Holds :=
  Mine.law_holds
