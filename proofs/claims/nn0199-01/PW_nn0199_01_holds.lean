import PyProof.Rows.All
import Wide.All
import OpenK.AllK
import Wide.FinOn
import PySem.Challenge.RW_nn0199_01
open PySem PySem.W PyProof.Rows
set_option Elab.async false
set_option linter.all false
set_option linter.unusedVariables false
set_option linter.unusedSimpArgs false
set_option linter.unnecessarySimpa false
set_option maxRecDepth 100000
set_option exponentiation.threshold 10000
namespace Mine
section
set_option maxHeartbeats 8000000
/-- the law is well said -/
theorem hd.said : PySem.Challenge.rw_nn0199_01.wellSaid = true := by
  unfold OpenLaw.wellSaid OpenRow.wellSaid OpenRow.partSaid looksOpen
  simp -failIfUnchanged -implicitDefEqProofs only [Bool.and_eq_true]
  and_intros
  all_goals (try rewrite [PySem.W.Fast.te8326940854005059898])
  all_goals (try rewrite [PySem.W.Fast.te17119622794617984870])
  all_goals (try rewrite [PySem.W.Fast.te8179353310426384613])
  all_goals (try rewrite [PySem.W.Fast.te9558739934217749035])
  all_goals (try rewrite [PySem.W.Fast.te16286561074155671207])
  all_goals (try rewrite [PySem.W.Fast.te10501279942588096481])
  all_goals (try rewrite [PySem.W.Fast.te11788848310118352699])
  all_goals (try rewrite [PySem.W.Fast.te12862048085361865435])
  all_goals (try rewrite [PySem.W.Fast.te8377067652309620493])
  all_goals (try rewrite [PySem.W.Fast.te18344453789297297638])
  all_goals (try rewrite [PySem.W.Fast.te14412699480532031325])
  all_goals (try rewrite [PySem.W.Fast.te6984425678791042302])
  all_goals (try rewrite [PySem.W.Fast.te797321630700447069])
  all_goals (try rewrite [PySem.W.Fast.te10792542408131684335])
  all_goals (try rewrite [PySem.W.Fast.te13343964577679436407])
  all_goals (try rewrite [PySem.W.Fast.te9807087744658564304])
  all_goals (try rewrite [PySem.W.Fast.te12749700546528644094])
  all_goals (try rewrite [PySem.W.Fast.te5923862056798008813])
  all_goals (try rewrite [PySem.W.Fast.te13582783067957832011])
  all_goals decide +kernel
/-- the cells of the top -/
structure hd.Cut where
  c0 : Stmt
  c1 : Stmt
  c2 : Stmt
  c3 : Stmt
  c4 : Stmt
  c5 : Stmt
  c6 : Stmt
  c7 : Stmt
  c8 : Stmt
  c9 : Stmt
  c10 : Stmt
  c11 : Stmt
  c12 : Stmt
  c13 : Stmt
  c14 : Stmt
  c15 : Stmt
  c16 : Stmt
  c17 : Stmt
  c18 : Stmt
  c19 : Stmt
  c20 : Stmt
  c21 : Stmt
  c22 : Stmt
  c23 : Stmt
  c24 : Stmt
  c25 : Stmt
  c26 : Stmt
  c27 : Stmt
  c28 : Stmt
  c29 : Stmt
  c30 : Stmt
  c31 : Stmt
  ok : PySem.Challenge.pw_nn0199_01.main.body = [c0, c1, c2, c3, c4, c5, c6, c7, c8, c9, c10, c11, c12, c13, c14, c15, c16, c17, c18, c19, c20, c21, c22, c23, c24, c25, c26, c27, c28, c29, c30, c31]
noncomputable def hd.cut : hd.Cut := ⟨_, _, _, _, _, _, _, _, _, _, _, _, _, _, _, _, _, _, _, _, _, _, _, _, _, _, _, _, _, _, _, _, rfl⟩
/-- a def of the top -/
structure hd.FD (t : Stmt) where
  n : Str
  a : Arguments
  b : List Stmt
  d : List PySem.Expr
  r : Option PySem.Expr
  tp : List TypeParam
  s : Scope
  ts : Option Scope
  bi : Str
  po : Pos
  ok : t = .FunctionDef n a b d r tp s ts bi po
structure hd.CD1 where
  n : Str
  bs : List PySem.Expr
  kw : List Keyword
  d : List PySem.Expr
  tp : List TypeParam
  s : Scope
  ts : Option Scope
  bi : Str
  sa : List Str
  po : Pos
  x0 : Stmt
  x1 : Stmt
  ok : hd.cut.c1 = .ClassDef n bs kw [x0, x1] d tp s ts bi sa po
noncomputable def hd.cls1 : hd.CD1 := ⟨_, _, _, _, _, _, _, _, _, _, _, _, rfl⟩
structure hd.CD3 where
  n : Str
  bs : List PySem.Expr
  kw : List Keyword
  d : List PySem.Expr
  tp : List TypeParam
  s : Scope
  ts : Option Scope
  bi : Str
  sa : List Str
  po : Pos
  x0 : Stmt
  x1 : Stmt
  x2 : Stmt
  x3 : Stmt
  x4 : Stmt
  x5 : Stmt
  x6 : Stmt
  x7 : Stmt
  x8 : Stmt
  x9 : Stmt
  x10 : Stmt
  x11 : Stmt
  ok : hd.cut.c3 = .ClassDef n bs kw [x0, x1, x2, x3, x4, x5, x6, x7, x8, x9, x10, x11] d tp s ts bi sa po
noncomputable def hd.cls3 : hd.CD3 := ⟨_, _, _, _, _, _, _, _, _, _, _, _, _, _, _, _, _, _, _, _, _, _, rfl⟩
noncomputable def hd.m1x0 : hd.FD hd.cls1.x0 := ⟨_, _, _, _, _, _, _, _, _, _, rfl⟩
noncomputable def hd.m1x1 : hd.FD hd.cls1.x1 := ⟨_, _, _, _, _, _, _, _, _, _, rfl⟩
noncomputable def hd.m3x0 : hd.FD hd.cls3.x0 := ⟨_, _, _, _, _, _, _, _, _, _, rfl⟩
noncomputable def hd.m3x1 : hd.FD hd.cls3.x1 := ⟨_, _, _, _, _, _, _, _, _, _, rfl⟩
noncomputable def hd.m3x2 : hd.FD hd.cls3.x2 := ⟨_, _, _, _, _, _, _, _, _, _, rfl⟩
noncomputable def hd.m3x3 : hd.FD hd.cls3.x3 := ⟨_, _, _, _, _, _, _, _, _, _, rfl⟩
noncomputable def hd.m3x4 : hd.FD hd.cls3.x4 := ⟨_, _, _, _, _, _, _, _, _, _, rfl⟩
noncomputable def hd.m3x5 : hd.FD hd.cls3.x5 := ⟨_, _, _, _, _, _, _, _, _, _, rfl⟩
noncomputable def hd.m3x6 : hd.FD hd.cls3.x6 := ⟨_, _, _, _, _, _, _, _, _, _, rfl⟩
noncomputable def hd.m3x7 : hd.FD hd.cls3.x7 := ⟨_, _, _, _, _, _, _, _, _, _, rfl⟩
noncomputable def hd.m3x8 : hd.FD hd.cls3.x8 := ⟨_, _, _, _, _, _, _, _, _, _, rfl⟩
noncomputable def hd.m3x9 : hd.FD hd.cls3.x9 := ⟨_, _, _, _, _, _, _, _, _, _, rfl⟩
noncomputable def hd.m3x10 : hd.FD hd.cls3.x10 := ⟨_, _, _, _, _, _, _, _, _, _, rfl⟩
noncomputable def hd.m3x11 : hd.FD hd.cls3.x11 := ⟨_, _, _, _, _, _, _, _, _, _, rfl⟩
noncomputable def hd.f4 : hd.FD hd.cut.c4 := ⟨_, _, _, _, _, _, _, _, _, _, rfl⟩
noncomputable def hd.f5 : hd.FD hd.cut.c5 := ⟨_, _, _, _, _, _, _, _, _, _, rfl⟩
noncomputable def hd.f6 : hd.FD hd.cut.c6 := ⟨_, _, _, _, _, _, _, _, _, _, rfl⟩
noncomputable def hd.f7 : hd.FD hd.cut.c7 := ⟨_, _, _, _, _, _, _, _, _, _, rfl⟩
noncomputable def hd.f8 : hd.FD hd.cut.c8 := ⟨_, _, _, _, _, _, _, _, _, _, rfl⟩
noncomputable def hd.f9 : hd.FD hd.cut.c9 := ⟨_, _, _, _, _, _, _, _, _, _, rfl⟩
noncomputable def hd.f10 : hd.FD hd.cut.c10 := ⟨_, _, _, _, _, _, _, _, _, _, rfl⟩
noncomputable def hd.f11 : hd.FD hd.cut.c11 := ⟨_, _, _, _, _, _, _, _, _, _, rfl⟩
noncomputable def hd.f12 : hd.FD hd.cut.c12 := ⟨_, _, _, _, _, _, _, _, _, _, rfl⟩
noncomputable def hd.f13 : hd.FD hd.cut.c13 := ⟨_, _, _, _, _, _, _, _, _, _, rfl⟩
noncomputable def hd.f14 : hd.FD hd.cut.c14 := ⟨_, _, _, _, _, _, _, _, _, _, rfl⟩
noncomputable def hd.f15 : hd.FD hd.cut.c15 := ⟨_, _, _, _, _, _, _, _, _, _, rfl⟩
noncomputable def hd.f16 : hd.FD hd.cut.c16 := ⟨_, _, _, _, _, _, _, _, _, _, rfl⟩
noncomputable def hd.f17 : hd.FD hd.cut.c17 := ⟨_, _, _, _, _, _, _, _, _, _, rfl⟩
noncomputable def hd.f18 : hd.FD hd.cut.c18 := ⟨_, _, _, _, _, _, _, _, _, _, rfl⟩
noncomputable def hd.f21 : hd.FD hd.cut.c21 := ⟨_, _, _, _, _, _, _, _, _, _, rfl⟩
noncomputable def hd.f22 : hd.FD hd.cut.c22 := ⟨_, _, _, _, _, _, _, _, _, _, rfl⟩
noncomputable def hd.f23 : hd.FD hd.cut.c23 := ⟨_, _, _, _, _, _, _, _, _, _, rfl⟩
noncomputable def hd.f24 : hd.FD hd.cut.c24 := ⟨_, _, _, _, _, _, _, _, _, _, rfl⟩
noncomputable def hd.f25 : hd.FD hd.cut.c25 := ⟨_, _, _, _, _, _, _, _, _, _, rfl⟩
noncomputable def hd.f26 : hd.FD hd.cut.c26 := ⟨_, _, _, _, _, _, _, _, _, _, rfl⟩
noncomputable def hd.f27 : hd.FD hd.cut.c27 := ⟨_, _, _, _, _, _, _, _, _, _, rfl⟩
noncomputable def hd.f28 : hd.FD hd.cut.c28 := ⟨_, _, _, _, _, _, _, _, _, _, rfl⟩
noncomputable def hd.f29 : hd.FD hd.cut.c29 := ⟨_, _, _, _, _, _, _, _, _, _, rfl⟩
noncomputable def hd.f30 : hd.FD hd.cut.c30 := ⟨_, _, _, _, _, _, _, _, _, _, rfl⟩
noncomputable def hd.f31 : hd.FD hd.cut.c31 := ⟨_, _, _, _, _, _, _, _, _, _, rfl⟩
/-- the heap that the top leaves, as far as the law can come: its defs named by their places in the text -/
noncomputable def hd.heapAt : Params → Frag :=
  fun P => [(2, { cls := Value.none, data := Data.dict #[{ hash := PyData.keyHash P (Str.ofString "type.__subclasses__.Exception.0"), key := Value.str (Str.ofString "type.__subclasses__.Exception.0") 225, val := Value.int 39 0 },
      { hash := PyData.keyHash P (Str.ofString "type.__subclasses__.Exception.n"), key := Value.str (Str.ofString "type.__subclasses__.Exception.n") 226, val := Value.int 1 0 }] 2 }),
    (3, { cls := Value.type "dict", data := Data.dict #[{ hash := PyData.keyHash P (Str.ofString "__name__"), key := Value.str (Str.ofString "__name__") 165, val := Value.str (Str.ofString "law_nn0199_01") 477 },
      { hash := PyData.keyHash P (Str.ofString "__doc__"), key := Value.str (Str.ofString "__doc__") 166, val := Value.none },
      { hash := PyData.keyHash P (Str.ofString "__package__"), key := Value.str (Str.ofString "__package__") 167, val := Value.none },
      { hash := PyData.keyHash P (Str.ofString "__loader__"), key := Value.str (Str.ofString "__loader__") 168, val := Value.builtin "__main__.__loader__#opaque" },
      { hash := PyData.keyHash P (Str.ofString "__spec__"), key := Value.str (Str.ofString "__spec__") 169, val := Value.none },
      { hash := PyData.keyHash P (Str.ofString "__annotations__"), key := Value.str (Str.ofString "__annotations__") 170, val := Value.ref 6 },
      { hash := PyData.keyHash P (Str.ofString "__builtins__"), key := Value.str (Str.ofString "__builtins__") 171, val := Value.ref 4 },
      { hash := PyData.keyHash P (Str.ofString "__file__"), key := Value.str (Str.ofString "__file__") 173, val := Value.str (Str.ofString "/claim/cut.py") 172 },
      { hash := PyData.keyHash P (Str.ofString "__cached__"), key := Value.str (Str.ofString "__cached__") 174, val := Value.none },
      { hash := PyData.keyHash P (Str.ofString "PaperError"), key := Value.str (Str.ofString "PaperError") 228, val := Value.ref 39 },
      { hash := PyData.keyHash P (Str.ofString "Decimal"), key := Value.str (Str.ofString "Decimal") 355, val := Value.ref 136 },
      { hash := PyData.keyHash P (Str.ofString "sign_text"), key := Value.str (Str.ofString "sign_text") 362, val := Value.ref 147 },
      { hash := PyData.keyHash P (Str.ofString "sign_of"), key := Value.str (Str.ofString "sign_of") 369, val := Value.ref 154 },
      { hash := PyData.keyHash P (Str.ofString "rounded_quotient"), key := Value.str (Str.ofString "rounded_quotient") 378, val := Value.ref 161 },
      { hash := PyData.keyHash P (Str.ofString "decimal_of"), key := Value.str (Str.ofString "decimal_of") 385, val := Value.ref 168 },
      { hash := PyData.keyHash P (Str.ofString "at_one_scale"), key := Value.str (Str.ofString "at_one_scale") 396, val := Value.ref 175 },
      { hash := PyData.keyHash P (Str.ofString "tops_of"), key := Value.str (Str.ofString "tops_of") 402, val := Value.ref 180 },
      { hash := PyData.keyHash P (Str.ofString "halved"), key := Value.str (Str.ofString "halved") 409, val := Value.ref 187 },
      { hash := PyData.keyHash P (Str.ofString "middle_of"), key := Value.str (Str.ofString "middle_of") 417, val := Value.ref 194 },
      { hash := PyData.keyHash P (Str.ofString "sum_of"), key := Value.str (Str.ofString "sum_of") 426, val := Value.ref 201 },
      { hash := PyData.keyHash P (Str.ofString "same_number"), key := Value.str (Str.ofString "same_number") 434, val := Value.ref 208 },
      { hash := PyData.keyHash P (Str.ofString "least"), key := Value.str (Str.ofString "least") 443, val := Value.ref 215 },
      { hash := PyData.keyHash P (Str.ofString "greatest"), key := Value.str (Str.ofString "greatest") 452, val := Value.ref 222 },
      { hash := PyData.keyHash P (Str.ofString "clamped"), key := Value.str (Str.ofString "clamped") 461, val := Value.ref 229 },
      { hash := PyData.keyHash P (Str.ofString "ceiling"), key := Value.str (Str.ofString "ceiling") 468, val := Value.ref 236 },
      { hash := PyData.keyHash P (Str.ofString "absolute"), key := Value.str (Str.ofString "absolute") 476, val := Value.ref 243 },
      { hash := PyData.keyHash P (Str.ofString "_law_scale"), key := Value.str (Str.ofString "_law_scale") 480, val := Value.int 40 479 },
      { hash := PyData.keyHash P (Str.ofString "_law_pen"), key := Value.str (Str.ofString "_law_pen") 486, val := Value.ref 248 },
      { hash := PyData.keyHash P (Str.ofString "_law_draw"), key := Value.str (Str.ofString "_law_draw") 499, val := Value.ref 255 },
      { hash := PyData.keyHash P (Str.ofString "_law_pair"), key := Value.str (Str.ofString "_law_pair") 508, val := Value.ref 262 },
      { hash := PyData.keyHash P (Str.ofString "_law_told"), key := Value.str (Str.ofString "_law_told") 519, val := Value.ref 269 },
      { hash := PyData.keyHash P (Str.ofString "_law_text"), key := Value.str (Str.ofString "_law_text") 531, val := Value.ref 276 },
      { hash := PyData.keyHash P (Str.ofString "_law_rounded"), key := Value.str (Str.ofString "_law_rounded") 542, val := Value.ref 283 },
      { hash := PyData.keyHash P (Str.ofString "_law_refused"), key := Value.str (Str.ofString "_law_refused") 551, val := Value.ref 290 },
      { hash := PyData.keyHash P (Str.ofString "_law_one_told"), key := Value.str (Str.ofString "_law_one_told") 565, val := Value.ref 297 },
      { hash := PyData.keyHash P (Str.ofString "_law_two_told"), key := Value.str (Str.ofString "_law_two_told") 577, val := Value.ref 304 },
      { hash := PyData.keyHash P (Str.ofString "_law_some_told"), key := Value.str (Str.ofString "_law_some_told") 583, val := Value.ref 309 },
      { hash := PyData.keyHash P (Str.ofString "law"), key := Value.str (Str.ofString "law") 589, val := Value.ref 314 }] 38 }),
    (15, { cls := Value.type "tuple", data := Data.seq #[Value.type "Exception"] }),
    (22, { cls := Value.type "tuple", data := Data.seq #[Value.int (-1) 202] }),
    (23, { cls := Value.type "tuple", data := Data.seq #[] }),
    (25, { cls := Value.type "tuple", data := Data.seq #[Value.str (Str.ofString "self") 206, Value.str (Str.ofString "what") 207, Value.str (Str.ofString "at") 208] }),
    (26, { cls := Value.type "tuple", data := Data.seq #[] }),
    (28, { cls := Value.type "code", data := Data.fields #[Value.str (Str.ofString "__init__") 203, Value.str (Str.ofString "PaperError.__init__") 204, Value.str (Str.ofString "/claim/cut.py") 205, Value.int 4 0, Value.int 3 0, Value.int 0 0, Value.int 0 0, Value.int 3 0, Value.ref 23, Value.bool true, Value.int 181 0, Value.ref 24, Value.none, Value.ref 25, Value.ref 26, Value.ref 27, Value.int 209 0, Value.int 4 0, Value.str (Str.ofString "/claim/cut.py") 210] }),
    (29, { cls := Value.type "function", data := Data.func { name := Str.ofString "__init__", qualname := Str.ofString "PaperError.__init__", params := hd.m1x0.a, body := FuncBody.stmts hd.m1x0.b, scope := hd.m1x0.s, globals := 3, closure := [], defaults := Value.ref 22, kwdefaults := Value.none, pyModule := Value.str (Str.ofString "paperhold.errors") 187, code := Value.ref 28 } }),
    (30, { cls := Value.type "tuple", data := Data.seq #[] }),
    (32, { cls := Value.type "tuple", data := Data.seq #[Value.str (Str.ofString "self") 215] }),
    (33, { cls := Value.type "tuple", data := Data.seq #[] }),
    (35, { cls := Value.type "code", data := Data.fields #[Value.str (Str.ofString "told") 212, Value.str (Str.ofString "PaperError.told") 213, Value.str (Str.ofString "/claim/cut.py") 214, Value.int 9 0, Value.int 1 0, Value.int 0 0, Value.int 0 0, Value.int 3 0, Value.ref 30, Value.bool true, Value.int 181 0, Value.ref 31, Value.none, Value.ref 32, Value.ref 33, Value.ref 34, Value.int 216 0, Value.int 9 0, Value.str (Str.ofString "/claim/cut.py") 217] }),
    (36, { cls := Value.type "function", data := Data.func { name := Str.ofString "told", qualname := Str.ofString "PaperError.told", params := hd.m1x1.a, body := FuncBody.stmts hd.m1x1.b, scope := hd.m1x1.s, globals := 3, closure := [], defaults := Value.none, kwdefaults := Value.none, pyModule := Value.str (Str.ofString "paperhold.errors") 187, code := Value.ref 35 } }),
    (37, { cls := Value.type "tuple", data := Data.seq #[Value.str (Str.ofString "at") 219, Value.str (Str.ofString "what") 220] }),
    (38, { cls := Value.type "dict", data := Data.dict #[{ hash := PyData.keyHash P (Str.ofString "__module__"), key := Value.str (Str.ofString "__module__") 196, val := Value.str (Str.ofString "paperhold.errors") 187 },
      { hash := PyData.keyHash P (Str.ofString "__firstlineno__"), key := Value.str (Str.ofString "__firstlineno__") 200, val := Value.int 2 199 },
      { hash := PyData.keyHash P (Str.ofString "__init__"), key := Value.str (Str.ofString "__init__") 211, val := Value.ref 29 },
      { hash := PyData.keyHash P (Str.ofString "told"), key := Value.str (Str.ofString "told") 218, val := Value.ref 36 },
      { hash := PyData.keyHash P (Str.ofString "__static_attributes__"), key := Value.str (Str.ofString "__static_attributes__") 221, val := Value.ref 37 },
      { hash := PyData.keyHash P (Str.ofString "__weakref__"), key := Value.str (Str.ofString "__weakref__") 223, val := Value.ref 40 },
      { hash := PyData.keyHash P (Str.ofString "__doc__"), key := Value.str (Str.ofString "__doc__") 224, val := Value.none }] 3 }),
    (39, { cls := Value.type "type", data := Data.cls { name := Str.ofString "PaperError", bases := [Value.type "Exception"], mro := [Value.ref 39, Value.type "Exception", Value.type "BaseException", Value.type "object"], ns := 38, qualname := Str.ofString "PaperError" }, slots := #[some (Value.ref 15), none, some (Value.str (Str.ofString "PaperError") 189), some (Value.str (Str.ofString "PaperError") 197), some (Value.builtin "Exception.__new__"), some (Value.bool true)] }),
    (40, { cls := Value.type "getset_descriptor", data := Data.fields #[Value.str (Str.ofString "__weakref__") 222, Value.ref 39, Value.builtin "ExceptionGroup.__weakref__", Value.none] }),
    (50, { cls := Value.type "tuple", data := Data.seq #[] }),
    (52, { cls := Value.type "tuple", data := Data.seq #[Value.str (Str.ofString "self") 246, Value.str (Str.ofString "top") 247, Value.str (Str.ofString "places") 248] }),
    (53, { cls := Value.type "tuple", data := Data.seq #[] }),
    (55, { cls := Value.type "code", data := Data.fields #[Value.str (Str.ofString "__init__") 243, Value.str (Str.ofString "Decimal.__init__") 244, Value.str (Str.ofString "/claim/cut.py") 245, Value.int 14 0, Value.int 3 0, Value.int 0 0, Value.int 0 0, Value.int 3 0, Value.ref 50, Value.bool true, Value.int 181 0, Value.ref 51, Value.none, Value.ref 52, Value.ref 53, Value.ref 54, Value.int 249 0, Value.int 14 0, Value.str (Str.ofString "/claim/cut.py") 250] }),
    (56, { cls := Value.type "function", data := Data.func { name := Str.ofString "__init__", qualname := Str.ofString "Decimal.__init__", params := hd.m3x0.a, body := FuncBody.stmts hd.m3x0.b, scope := hd.m3x0.s, globals := 3, closure := [], defaults := Value.none, kwdefaults := Value.none, pyModule := Value.str (Str.ofString "paperhold.decimals") 229, code := Value.ref 55 } }),
    (57, { cls := Value.type "tuple", data := Data.seq #[] }),
    (59, { cls := Value.type "tuple", data := Data.seq #[Value.str (Str.ofString "self") 255, Value.str (Str.ofString "other") 256, Value.str (Str.ofString "one") 257, Value.str (Str.ofString "two") 258, Value.str (Str.ofString "places") 259] }),
    (60, { cls := Value.type "tuple", data := Data.seq #[] }),
    (62, { cls := Value.type "code", data := Data.fields #[Value.str (Str.ofString "plus") 252, Value.str (Str.ofString "Decimal.plus") 253, Value.str (Str.ofString "/claim/cut.py") 254, Value.int 21 0, Value.int 2 0, Value.int 0 0, Value.int 0 0, Value.int 3 0, Value.ref 57, Value.bool true, Value.int 181 0, Value.ref 58, Value.none, Value.ref 59, Value.ref 60, Value.ref 61, Value.int 260 0, Value.int 21 0, Value.str (Str.ofString "/claim/cut.py") 261] }),
    (63, { cls := Value.type "function", data := Data.func { name := Str.ofString "plus", qualname := Str.ofString "Decimal.plus", params := hd.m3x1.a, body := FuncBody.stmts hd.m3x1.b, scope := hd.m3x1.s, globals := 3, closure := [], defaults := Value.none, kwdefaults := Value.none, pyModule := Value.str (Str.ofString "paperhold.decimals") 229, code := Value.ref 62 } }),
    (64, { cls := Value.type "tuple", data := Data.seq #[] }),
    (66, { cls := Value.type "tuple", data := Data.seq #[Value.str (Str.ofString "self") 266, Value.str (Str.ofString "other") 267, Value.str (Str.ofString "one") 268, Value.str (Str.ofString "two") 269, Value.str (Str.ofString "places") 270] }),
    (67, { cls := Value.type "tuple", data := Data.seq #[] }),
    (69, { cls := Value.type "code", data := Data.fields #[Value.str (Str.ofString "minus") 263, Value.str (Str.ofString "Decimal.minus") 264, Value.str (Str.ofString "/claim/cut.py") 265, Value.int 25 0, Value.int 2 0, Value.int 0 0, Value.int 0 0, Value.int 3 0, Value.ref 64, Value.bool true, Value.int 181 0, Value.ref 65, Value.none, Value.ref 66, Value.ref 67, Value.ref 68, Value.int 271 0, Value.int 25 0, Value.str (Str.ofString "/claim/cut.py") 272] }),
    (70, { cls := Value.type "function", data := Data.func { name := Str.ofString "minus", qualname := Str.ofString "Decimal.minus", params := hd.m3x2.a, body := FuncBody.stmts hd.m3x2.b, scope := hd.m3x2.s, globals := 3, closure := [], defaults := Value.none, kwdefaults := Value.none, pyModule := Value.str (Str.ofString "paperhold.decimals") 229, code := Value.ref 69 } }),
    (71, { cls := Value.type "tuple", data := Data.seq #[] }),
    (73, { cls := Value.type "tuple", data := Data.seq #[Value.str (Str.ofString "self") 277, Value.str (Str.ofString "other") 278, Value.str (Str.ofString "factor") 279] }),
    (74, { cls := Value.type "tuple", data := Data.seq #[] }),
    (76, { cls := Value.type "code", data := Data.fields #[Value.str (Str.ofString "times") 274, Value.str (Str.ofString "Decimal.times") 275, Value.str (Str.ofString "/claim/cut.py") 276, Value.int 29 0, Value.int 2 0, Value.int 0 0, Value.int 0 0, Value.int 3 0, Value.ref 71, Value.bool true, Value.int 181 0, Value.ref 72, Value.none, Value.ref 73, Value.ref 74, Value.ref 75, Value.int 280 0, Value.int 29 0, Value.str (Str.ofString "/claim/cut.py") 281] }),
    (77, { cls := Value.type "function", data := Data.func { name := Str.ofString "times", qualname := Str.ofString "Decimal.times", params := hd.m3x3.a, body := FuncBody.stmts hd.m3x3.b, scope := hd.m3x3.s, globals := 3, closure := [], defaults := Value.none, kwdefaults := Value.none, pyModule := Value.str (Str.ofString "paperhold.decimals") 229, code := Value.ref 76 } }),
    (78, { cls := Value.type "tuple", data := Data.seq #[] }),
    (80, { cls := Value.type "tuple", data := Data.seq #[Value.str (Str.ofString "self") 286] }),
    (81, { cls := Value.type "tuple", data := Data.seq #[] }),
    (83, { cls := Value.type "code", data := Data.fields #[Value.str (Str.ofString "negated") 283, Value.str (Str.ofString "Decimal.negated") 284, Value.str (Str.ofString "/claim/cut.py") 285, Value.int 33 0, Value.int 1 0, Value.int 0 0, Value.int 0 0, Value.int 3 0, Value.ref 78, Value.bool true, Value.int 181 0, Value.ref 79, Value.none, Value.ref 80, Value.ref 81, Value.ref 82, Value.int 287 0, Value.int 33 0, Value.str (Str.ofString "/claim/cut.py") 288] }),
    (84, { cls := Value.type "function", data := Data.func { name := Str.ofString "negated", qualname := Str.ofString "Decimal.negated", params := hd.m3x4.a, body := FuncBody.stmts hd.m3x4.b, scope := hd.m3x4.s, globals := 3, closure := [], defaults := Value.none, kwdefaults := Value.none, pyModule := Value.str (Str.ofString "paperhold.decimals") 229, code := Value.ref 83 } }),
    (85, { cls := Value.type "tuple", data := Data.seq #[] }),
    (87, { cls := Value.type "tuple", data := Data.seq #[Value.str (Str.ofString "self") 293, Value.str (Str.ofString "other") 294, Value.str (Str.ofString "one") 295, Value.str (Str.ofString "two") 296, Value.str (Str.ofString "places") 297] }),
    (88, { cls := Value.type "tuple", data := Data.seq #[] }),
    (90, { cls := Value.type "code", data := Data.fields #[Value.str (Str.ofString "compared") 290, Value.str (Str.ofString "Decimal.compared") 291, Value.str (Str.ofString "/claim/cut.py") 292, Value.int 36 0, Value.int 2 0, Value.int 0 0, Value.int 0 0, Value.int 3 0, Value.ref 85, Value.bool true, Value.int 181 0, Value.ref 86, Value.none, Value.ref 87, Value.ref 88, Value.ref 89, Value.int 298 0, Value.int 36 0, Value.str (Str.ofString "/claim/cut.py") 299] }),
    (91, { cls := Value.type "function", data := Data.func { name := Str.ofString "compared", qualname := Str.ofString "Decimal.compared", params := hd.m3x5.a, body := FuncBody.stmts hd.m3x5.b, scope := hd.m3x5.s, globals := 3, closure := [], defaults := Value.none, kwdefaults := Value.none, pyModule := Value.str (Str.ofString "paperhold.decimals") 229, code := Value.ref 90 } }),
    (92, { cls := Value.type "tuple", data := Data.seq #[] }),
    (94, { cls := Value.type "tuple", data := Data.seq #[Value.str (Str.ofString "self") 304] }),
    (95, { cls := Value.type "tuple", data := Data.seq #[] }),
    (97, { cls := Value.type "code", data := Data.fields #[Value.str (Str.ofString "is_whole") 301, Value.str (Str.ofString "Decimal.is_whole") 302, Value.str (Str.ofString "/claim/cut.py") 303, Value.int 40 0, Value.int 1 0, Value.int 0 0, Value.int 0 0, Value.int 3 0, Value.ref 92, Value.bool true, Value.int 181 0, Value.ref 93, Value.none, Value.ref 94, Value.ref 95, Value.ref 96, Value.int 305 0, Value.int 40 0, Value.str (Str.ofString "/claim/cut.py") 306] }),
    (98, { cls := Value.type "function", data := Data.func { name := Str.ofString "is_whole", qualname := Str.ofString "Decimal.is_whole", params := hd.m3x6.a, body := FuncBody.stmts hd.m3x6.b, scope := hd.m3x6.s, globals := 3, closure := [], defaults := Value.none, kwdefaults := Value.none, pyModule := Value.str (Str.ofString "paperhold.decimals") 229, code := Value.ref 97 } }),
    (99, { cls := Value.type "tuple", data := Data.seq #[] }),
    (101, { cls := Value.type "tuple", data := Data.seq #[Value.str (Str.ofString "self") 311] }),
    (102, { cls := Value.type "tuple", data := Data.seq #[] }),
    (104, { cls := Value.type "code", data := Data.fields #[Value.str (Str.ofString "floor") 308, Value.str (Str.ofString "Decimal.floor") 309, Value.str (Str.ofString "/claim/cut.py") 310, Value.int 43 0, Value.int 1 0, Value.int 0 0, Value.int 0 0, Value.int 3 0, Value.ref 99, Value.bool true, Value.int 181 0, Value.ref 100, Value.none, Value.ref 101, Value.ref 102, Value.ref 103, Value.int 312 0, Value.int 43 0, Value.str (Str.ofString "/claim/cut.py") 313] }),
    (105, { cls := Value.type "function", data := Data.func { name := Str.ofString "floor", qualname := Str.ofString "Decimal.floor", params := hd.m3x7.a, body := FuncBody.stmts hd.m3x7.b, scope := hd.m3x7.s, globals := 3, closure := [], defaults := Value.none, kwdefaults := Value.none, pyModule := Value.str (Str.ofString "paperhold.decimals") 229, code := Value.ref 104 } }),
    (106, { cls := Value.type "tuple", data := Data.seq #[] }),
    (108, { cls := Value.type "tuple", data := Data.seq #[Value.str (Str.ofString "self") 318, Value.str (Str.ofString "places") 319] }),
    (109, { cls := Value.type "tuple", data := Data.seq #[] }),
    (111, { cls := Value.type "code", data := Data.fields #[Value.str (Str.ofString "rounded") 315, Value.str (Str.ofString "Decimal.rounded") 316, Value.str (Str.ofString "/claim/cut.py") 317, Value.int 46 0, Value.int 2 0, Value.int 0 0, Value.int 0 0, Value.int 3 0, Value.ref 106, Value.bool true, Value.int 181 0, Value.ref 107, Value.none, Value.ref 108, Value.ref 109, Value.ref 110, Value.int 320 0, Value.int 46 0, Value.str (Str.ofString "/claim/cut.py") 321] }),
    (112, { cls := Value.type "function", data := Data.func { name := Str.ofString "rounded", qualname := Str.ofString "Decimal.rounded", params := hd.m3x8.a, body := FuncBody.stmts hd.m3x8.b, scope := hd.m3x8.s, globals := 3, closure := [], defaults := Value.none, kwdefaults := Value.none, pyModule := Value.str (Str.ofString "paperhold.decimals") 229, code := Value.ref 111 } }),
    (113, { cls := Value.type "tuple", data := Data.seq #[] }),
    (115, { cls := Value.type "tuple", data := Data.seq #[Value.str (Str.ofString "self") 326] }),
    (116, { cls := Value.type "tuple", data := Data.seq #[] }),
    (118, { cls := Value.type "code", data := Data.fields #[Value.str (Str.ofString "told") 323, Value.str (Str.ofString "Decimal.told") 324, Value.str (Str.ofString "/claim/cut.py") 325, Value.int 51 0, Value.int 1 0, Value.int 0 0, Value.int 0 0, Value.int 3 0, Value.ref 113, Value.bool true, Value.int 181 0, Value.ref 114, Value.none, Value.ref 115, Value.ref 116, Value.ref 117, Value.int 327 0, Value.int 51 0, Value.str (Str.ofString "/claim/cut.py") 328] }),
    (119, { cls := Value.type "function", data := Data.func { name := Str.ofString "told", qualname := Str.ofString "Decimal.told", params := hd.m3x9.a, body := FuncBody.stmts hd.m3x9.b, scope := hd.m3x9.s, globals := 3, closure := [], defaults := Value.none, kwdefaults := Value.none, pyModule := Value.str (Str.ofString "paperhold.decimals") 229, code := Value.ref 118 } }),
    (120, { cls := Value.type "tuple", data := Data.seq #[] }),
    (122, { cls := Value.type "tuple", data := Data.seq #[Value.str (Str.ofString "self") 333, Value.str (Str.ofString "numerals") 334] }),
    (123, { cls := Value.type "tuple", data := Data.seq #[] }),
    (125, { cls := Value.type "code", data := Data.fields #[Value.str (Str.ofString "text") 330, Value.str (Str.ofString "Decimal.text") 331, Value.str (Str.ofString "/claim/cut.py") 332, Value.int 54 0, Value.int 1 0, Value.int 0 0, Value.int 0 0, Value.int 3 0, Value.ref 120, Value.bool true, Value.int 181 0, Value.ref 121, Value.none, Value.ref 122, Value.ref 123, Value.ref 124, Value.int 335 0, Value.int 54 0, Value.str (Str.ofString "/claim/cut.py") 336] }),
    (126, { cls := Value.type "function", data := Data.func { name := Str.ofString "text", qualname := Str.ofString "Decimal.text", params := hd.m3x10.a, body := FuncBody.stmts hd.m3x10.b, scope := hd.m3x10.s, globals := 3, closure := [], defaults := Value.none, kwdefaults := Value.none, pyModule := Value.str (Str.ofString "paperhold.decimals") 229, code := Value.ref 125 } }),
    (127, { cls := Value.type "tuple", data := Data.seq #[] }),
    (129, { cls := Value.type "tuple", data := Data.seq #[Value.str (Str.ofString "self") 341, Value.str (Str.ofString "numerals") 342] }),
    (130, { cls := Value.type "tuple", data := Data.seq #[] }),
    (132, { cls := Value.type "code", data := Data.fields #[Value.str (Str.ofString "least_text") 338, Value.str (Str.ofString "Decimal.least_text") 339, Value.str (Str.ofString "/claim/cut.py") 340, Value.int 61 0, Value.int 1 0, Value.int 0 0, Value.int 0 0, Value.int 3 0, Value.ref 127, Value.bool true, Value.int 181 0, Value.ref 128, Value.none, Value.ref 129, Value.ref 130, Value.ref 131, Value.int 343 0, Value.int 61 0, Value.str (Str.ofString "/claim/cut.py") 344] }),
    (133, { cls := Value.type "function", data := Data.func { name := Str.ofString "least_text", qualname := Str.ofString "Decimal.least_text", params := hd.m3x11.a, body := FuncBody.stmts hd.m3x11.b, scope := hd.m3x11.s, globals := 3, closure := [], defaults := Value.none, kwdefaults := Value.none, pyModule := Value.str (Str.ofString "paperhold.decimals") 229, code := Value.ref 132 } }),
    (134, { cls := Value.type "tuple", data := Data.seq #[Value.str (Str.ofString "places") 346, Value.str (Str.ofString "top") 347] }),
    (135, { cls := Value.type "dict", data := Data.dict #[{ hash := PyData.keyHash P (Str.ofString "__module__"), key := Value.str (Str.ofString "__module__") 238, val := Value.str (Str.ofString "paperhold.decimals") 229 },
      { hash := PyData.keyHash P (Str.ofString "__firstlineno__"), key := Value.str (Str.ofString "__firstlineno__") 242, val := Value.int 12 241 },
      { hash := PyData.keyHash P (Str.ofString "__init__"), key := Value.str (Str.ofString "__init__") 251, val := Value.ref 56 },
      { hash := PyData.keyHash P (Str.ofString "plus"), key := Value.str (Str.ofString "plus") 262, val := Value.ref 63 },
      { hash := PyData.keyHash P (Str.ofString "minus"), key := Value.str (Str.ofString "minus") 273, val := Value.ref 70 },
      { hash := PyData.keyHash P (Str.ofString "times"), key := Value.str (Str.ofString "times") 282, val := Value.ref 77 },
      { hash := PyData.keyHash P (Str.ofString "negated"), key := Value.str (Str.ofString "negated") 289, val := Value.ref 84 },
      { hash := PyData.keyHash P (Str.ofString "compared"), key := Value.str (Str.ofString "compared") 300, val := Value.ref 91 },
      { hash := PyData.keyHash P (Str.ofString "is_whole"), key := Value.str (Str.ofString "is_whole") 307, val := Value.ref 98 },
      { hash := PyData.keyHash P (Str.ofString "floor"), key := Value.str (Str.ofString "floor") 314, val := Value.ref 105 },
      { hash := PyData.keyHash P (Str.ofString "rounded"), key := Value.str (Str.ofString "rounded") 322, val := Value.ref 112 },
      { hash := PyData.keyHash P (Str.ofString "told"), key := Value.str (Str.ofString "told") 329, val := Value.ref 119 },
      { hash := PyData.keyHash P (Str.ofString "text"), key := Value.str (Str.ofString "text") 337, val := Value.ref 126 },
      { hash := PyData.keyHash P (Str.ofString "least_text"), key := Value.str (Str.ofString "least_text") 345, val := Value.ref 133 },
      { hash := PyData.keyHash P (Str.ofString "__static_attributes__"), key := Value.str (Str.ofString "__static_attributes__") 348, val := Value.ref 134 },
      { hash := PyData.keyHash P (Str.ofString "__dict__"), key := Value.str (Str.ofString "__dict__") 350, val := Value.ref 137 },
      { hash := PyData.keyHash P (Str.ofString "__weakref__"), key := Value.str (Str.ofString "__weakref__") 352, val := Value.ref 138 },
      { hash := PyData.keyHash P (Str.ofString "__doc__"), key := Value.str (Str.ofString "__doc__") 353, val := Value.none }] 4 }),
    (136, { cls := Value.type "type", data := Data.cls { name := Str.ofString "Decimal", bases := [Value.type "object"], mro := [Value.ref 136, Value.type "object"], ns := 135, qualname := Str.ofString "Decimal" }, slots := #[none, none, some (Value.str (Str.ofString "Decimal") 231), some (Value.str (Str.ofString "Decimal") 239), some (Value.builtin "object.__new__"), some (Value.bool true)] }),
    (137, { cls := Value.type "getset_descriptor", data := Data.fields #[Value.str (Str.ofString "__dict__") 349, Value.ref 136, Value.builtin "function.__dict__", Value.builtin "function.__dict__#set"] }),
    (138, { cls := Value.type "getset_descriptor", data := Data.fields #[Value.str (Str.ofString "__weakref__") 351, Value.ref 136, Value.builtin "ExceptionGroup.__weakref__", Value.none] }),
    (141, { cls := Value.type "tuple", data := Data.seq #[] }),
    (143, { cls := Value.type "tuple", data := Data.seq #[Value.str (Str.ofString "number") 359] }),
    (144, { cls := Value.type "tuple", data := Data.seq #[] }),
    (146, { cls := Value.type "code", data := Data.fields #[Value.str (Str.ofString "sign_text") 356, Value.str (Str.ofString "sign_text") 357, Value.str (Str.ofString "/claim/cut.py") 358, Value.int 66 0, Value.int 1 0, Value.int 0 0, Value.int 0 0, Value.int 3 0, Value.ref 141, Value.bool true, Value.int 181 0, Value.ref 142, Value.none, Value.ref 143, Value.ref 144, Value.ref 145, Value.int 360 0, Value.int 66 0, Value.str (Str.ofString "/claim/cut.py") 361] }),
    (147, { cls := Value.type "function", data := Data.func { name := Str.ofString "sign_text", qualname := Str.ofString "sign_text", params := hd.f4.a, body := FuncBody.stmts hd.f4.b, scope := hd.f4.s, globals := 3, closure := [], defaults := Value.none, kwdefaults := Value.none, pyModule := Value.str (Str.ofString "paperhold.decimals") 229, code := Value.ref 146 } }),
    (148, { cls := Value.type "tuple", data := Data.seq #[] }),
    (150, { cls := Value.type "tuple", data := Data.seq #[Value.str (Str.ofString "number") 366] }),
    (151, { cls := Value.type "tuple", data := Data.seq #[] }),
    (153, { cls := Value.type "code", data := Data.fields #[Value.str (Str.ofString "sign_of") 363, Value.str (Str.ofString "sign_of") 364, Value.str (Str.ofString "/claim/cut.py") 365, Value.int 68 0, Value.int 1 0, Value.int 0 0, Value.int 0 0, Value.int 3 0, Value.ref 148, Value.bool true, Value.int 181 0, Value.ref 149, Value.none, Value.ref 150, Value.ref 151, Value.ref 152, Value.int 367 0, Value.int 68 0, Value.str (Str.ofString "/claim/cut.py") 368] }),
    (154, { cls := Value.type "function", data := Data.func { name := Str.ofString "sign_of", qualname := Str.ofString "sign_of", params := hd.f5.a, body := FuncBody.stmts hd.f5.b, scope := hd.f5.s, globals := 3, closure := [], defaults := Value.none, kwdefaults := Value.none, pyModule := Value.str (Str.ofString "paperhold.decimals") 229, code := Value.ref 153 } }),
    (155, { cls := Value.type "tuple", data := Data.seq #[] }),
    (157, { cls := Value.type "tuple", data := Data.seq #[Value.str (Str.ofString "top") 373, Value.str (Str.ofString "below") 374, Value.str (Str.ofString "size") 375] }),
    (158, { cls := Value.type "tuple", data := Data.seq #[] }),
    (160, { cls := Value.type "code", data := Data.fields #[Value.str (Str.ofString "rounded_quotient") 370, Value.str (Str.ofString "rounded_quotient") 371, Value.str (Str.ofString "/claim/cut.py") 372, Value.int 72 0, Value.int 2 0, Value.int 0 0, Value.int 0 0, Value.int 3 0, Value.ref 155, Value.bool true, Value.int 181 0, Value.ref 156, Value.none, Value.ref 157, Value.ref 158, Value.ref 159, Value.int 376 0, Value.int 72 0, Value.str (Str.ofString "/claim/cut.py") 377] }),
    (161, { cls := Value.type "function", data := Data.func { name := Str.ofString "rounded_quotient", qualname := Str.ofString "rounded_quotient", params := hd.f6.a, body := FuncBody.stmts hd.f6.b, scope := hd.f6.s, globals := 3, closure := [], defaults := Value.none, kwdefaults := Value.none, pyModule := Value.str (Str.ofString "paperhold.decimals") 229, code := Value.ref 160 } }),
    (162, { cls := Value.type "tuple", data := Data.seq #[] }),
    (164, { cls := Value.type "tuple", data := Data.seq #[Value.str (Str.ofString "value") 382] }),
    (165, { cls := Value.type "tuple", data := Data.seq #[] }),
    (167, { cls := Value.type "code", data := Data.fields #[Value.str (Str.ofString "decimal_of") 379, Value.str (Str.ofString "decimal_of") 380, Value.str (Str.ofString "/claim/cut.py") 381, Value.int 75 0, Value.int 1 0, Value.int 0 0, Value.int 0 0, Value.int 3 0, Value.ref 162, Value.bool true, Value.int 181 0, Value.ref 163, Value.none, Value.ref 164, Value.ref 165, Value.ref 166, Value.int 383 0, Value.int 75 0, Value.str (Str.ofString "/claim/cut.py") 384] }),
    (168, { cls := Value.type "function", data := Data.func { name := Str.ofString "decimal_of", qualname := Str.ofString "decimal_of", params := hd.f7.a, body := FuncBody.stmts hd.f7.b, scope := hd.f7.s, globals := 3, closure := [], defaults := Value.none, kwdefaults := Value.none, pyModule := Value.str (Str.ofString "paperhold.decimals") 229, code := Value.ref 167 } }),
    (169, { cls := Value.type "tuple", data := Data.seq #[] }),
    (171, { cls := Value.type "tuple", data := Data.seq #[Value.str (Str.ofString "one") 389, Value.str (Str.ofString "other") 390, Value.str (Str.ofString "first") 391, Value.str (Str.ofString "second") 392, Value.str (Str.ofString "places") 393] }),
    (172, { cls := Value.type "tuple", data := Data.seq #[] }),
    (174, { cls := Value.type "code", data := Data.fields #[Value.str (Str.ofString "at_one_scale") 386, Value.str (Str.ofString "at_one_scale") 387, Value.str (Str.ofString "/claim/cut.py") 388, Value.int 81 0, Value.int 2 0, Value.int 0 0, Value.int 0 0, Value.int 3 0, Value.ref 169, Value.bool true, Value.int 181 0, Value.ref 170, Value.none, Value.ref 171, Value.ref 172, Value.ref 173, Value.int 394 0, Value.int 81 0, Value.str (Str.ofString "/claim/cut.py") 395] }),
    (175, { cls := Value.type "function", data := Data.func { name := Str.ofString "at_one_scale", qualname := Str.ofString "at_one_scale", params := hd.f8.a, body := FuncBody.stmts hd.f8.b, scope := hd.f8.s, globals := 3, closure := [], defaults := Value.none, kwdefaults := Value.none, pyModule := Value.str (Str.ofString "paperhold.decimals") 229, code := Value.ref 174 } }),
    (176, { cls := Value.type "tuple", data := Data.seq #[] }),
    (179, { cls := Value.type "code", data := Data.fields #[Value.str (Str.ofString "tops_of") 397, Value.str (Str.ofString "tops_of") 398, Value.str (Str.ofString "/claim/cut.py") 399, Value.int 86 0, Value.int 1 0, Value.int 0 0, Value.int 0 0, Value.int 3 0, Value.ref 176, Value.bool true, Value.int 181 0, Value.ref 177, Value.none, Value.none, Value.none, Value.ref 178, Value.int 400 0, Value.int 86 0, Value.str (Str.ofString "/claim/cut.py") 401] }),
    (180, { cls := Value.type "function", data := Data.func { name := Str.ofString "tops_of", qualname := Str.ofString "tops_of", params := hd.f9.a, body := FuncBody.stmts hd.f9.b, scope := hd.f9.s, globals := 3, closure := [], defaults := Value.none, kwdefaults := Value.none, pyModule := Value.str (Str.ofString "paperhold.decimals") 229, code := Value.ref 179 } }),
    (181, { cls := Value.type "tuple", data := Data.seq #[] }),
    (183, { cls := Value.type "tuple", data := Data.seq #[Value.str (Str.ofString "value") 406] }),
    (184, { cls := Value.type "tuple", data := Data.seq #[] }),
    (186, { cls := Value.type "code", data := Data.fields #[Value.str (Str.ofString "halved") 403, Value.str (Str.ofString "halved") 404, Value.str (Str.ofString "/claim/cut.py") 405, Value.int 91 0, Value.int 1 0, Value.int 0 0, Value.int 0 0, Value.int 3 0, Value.ref 181, Value.bool true, Value.int 181 0, Value.ref 182, Value.none, Value.ref 183, Value.ref 184, Value.ref 185, Value.int 407 0, Value.int 91 0, Value.str (Str.ofString "/claim/cut.py") 408] }),
    (187, { cls := Value.type "function", data := Data.func { name := Str.ofString "halved", qualname := Str.ofString "halved", params := hd.f10.a, body := FuncBody.stmts hd.f10.b, scope := hd.f10.s, globals := 3, closure := [], defaults := Value.none, kwdefaults := Value.none, pyModule := Value.str (Str.ofString "paperhold.decimals") 229, code := Value.ref 186 } }),
    (188, { cls := Value.type "tuple", data := Data.seq #[] }),
    (190, { cls := Value.type "tuple", data := Data.seq #[Value.str (Str.ofString "one") 413, Value.str (Str.ofString "other") 414] }),
    (191, { cls := Value.type "tuple", data := Data.seq #[] }),
    (193, { cls := Value.type "code", data := Data.fields #[Value.str (Str.ofString "middle_of") 410, Value.str (Str.ofString "middle_of") 411, Value.str (Str.ofString "/claim/cut.py") 412, Value.int 93 0, Value.int 2 0, Value.int 0 0, Value.int 0 0, Value.int 3 0, Value.ref 188, Value.bool true, Value.int 181 0, Value.ref 189, Value.none, Value.ref 190, Value.ref 191, Value.ref 192, Value.int 415 0, Value.int 93 0, Value.str (Str.ofString "/claim/cut.py") 416] }),
    (194, { cls := Value.type "function", data := Data.func { name := Str.ofString "middle_of", qualname := Str.ofString "middle_of", params := hd.f11.a, body := FuncBody.stmts hd.f11.b, scope := hd.f11.s, globals := 3, closure := [], defaults := Value.none, kwdefaults := Value.none, pyModule := Value.str (Str.ofString "paperhold.decimals") 229, code := Value.ref 193 } }),
    (195, { cls := Value.type "tuple", data := Data.seq #[] }),
    (197, { cls := Value.type "tuple", data := Data.seq #[Value.str (Str.ofString "values") 421, Value.str (Str.ofString "tops") 422, Value.str (Str.ofString "places") 423] }),
    (198, { cls := Value.type "tuple", data := Data.seq #[] }),
    (200, { cls := Value.type "code", data := Data.fields #[Value.str (Str.ofString "sum_of") 418, Value.str (Str.ofString "sum_of") 419, Value.str (Str.ofString "/claim/cut.py") 420, Value.int 95 0, Value.int 1 0, Value.int 0 0, Value.int 0 0, Value.int 3 0, Value.ref 195, Value.bool true, Value.int 181 0, Value.ref 196, Value.none, Value.ref 197, Value.ref 198, Value.ref 199, Value.int 424 0, Value.int 95 0, Value.str (Str.ofString "/claim/cut.py") 425] }),
    (201, { cls := Value.type "function", data := Data.func { name := Str.ofString "sum_of", qualname := Str.ofString "sum_of", params := hd.f12.a, body := FuncBody.stmts hd.f12.b, scope := hd.f12.s, globals := 3, closure := [], defaults := Value.none, kwdefaults := Value.none, pyModule := Value.str (Str.ofString "paperhold.decimals") 229, code := Value.ref 200 } }),
    (202, { cls := Value.type "tuple", data := Data.seq #[] }),
    (204, { cls := Value.type "tuple", data := Data.seq #[Value.str (Str.ofString "one") 430, Value.str (Str.ofString "other") 431] }),
    (205, { cls := Value.type "tuple", data := Data.seq #[] }),
    (207, { cls := Value.type "code", data := Data.fields #[Value.str (Str.ofString "same_number") 427, Value.str (Str.ofString "same_number") 428, Value.str (Str.ofString "/claim/cut.py") 429, Value.int 98 0, Value.int 2 0, Value.int 0 0, Value.int 0 0, Value.int 3 0, Value.ref 202, Value.bool true, Value.int 181 0, Value.ref 203, Value.none, Value.ref 204, Value.ref 205, Value.ref 206, Value.int 432 0, Value.int 98 0, Value.str (Str.ofString "/claim/cut.py") 433] }),
    (208, { cls := Value.type "function", data := Data.func { name := Str.ofString "same_number", qualname := Str.ofString "same_number", params := hd.f13.a, body := FuncBody.stmts hd.f13.b, scope := hd.f13.s, globals := 3, closure := [], defaults := Value.none, kwdefaults := Value.none, pyModule := Value.str (Str.ofString "paperhold.decimals") 229, code := Value.ref 207 } }),
    (209, { cls := Value.type "tuple", data := Data.seq #[] }),
    (211, { cls := Value.type "tuple", data := Data.seq #[Value.str (Str.ofString "values") 438, Value.str (Str.ofString "best") 439, Value.str (Str.ofString "value") 440] }),
    (212, { cls := Value.type "tuple", data := Data.seq #[] }),
    (214, { cls := Value.type "code", data := Data.fields #[Value.str (Str.ofString "least") 435, Value.str (Str.ofString "least") 436, Value.str (Str.ofString "/claim/cut.py") 437, Value.int 100 0, Value.int 1 0, Value.int 0 0, Value.int 0 0, Value.int 3 0, Value.ref 209, Value.bool true, Value.int 181 0, Value.ref 210, Value.none, Value.ref 211, Value.ref 212, Value.ref 213, Value.int 441 0, Value.int 100 0, Value.str (Str.ofString "/claim/cut.py") 442] }),
    (215, { cls := Value.type "function", data := Data.func { name := Str.ofString "least", qualname := Str.ofString "least", params := hd.f14.a, body := FuncBody.stmts hd.f14.b, scope := hd.f14.s, globals := 3, closure := [], defaults := Value.none, kwdefaults := Value.none, pyModule := Value.str (Str.ofString "paperhold.decimals") 229, code := Value.ref 214 } }),
    (216, { cls := Value.type "tuple", data := Data.seq #[] }),
    (218, { cls := Value.type "tuple", data := Data.seq #[Value.str (Str.ofString "values") 447, Value.str (Str.ofString "best") 448, Value.str (Str.ofString "value") 449] }),
    (219, { cls := Value.type "tuple", data := Data.seq #[] }),
    (221, { cls := Value.type "code", data := Data.fields #[Value.str (Str.ofString "greatest") 444, Value.str (Str.ofString "greatest") 445, Value.str (Str.ofString "/claim/cut.py") 446, Value.int 108 0, Value.int 1 0, Value.int 0 0, Value.int 0 0, Value.int 3 0, Value.ref 216, Value.bool true, Value.int 181 0, Value.ref 217, Value.none, Value.ref 218, Value.ref 219, Value.ref 220, Value.int 450 0, Value.int 108 0, Value.str (Str.ofString "/claim/cut.py") 451] }),
    (222, { cls := Value.type "function", data := Data.func { name := Str.ofString "greatest", qualname := Str.ofString "greatest", params := hd.f15.a, body := FuncBody.stmts hd.f15.b, scope := hd.f15.s, globals := 3, closure := [], defaults := Value.none, kwdefaults := Value.none, pyModule := Value.str (Str.ofString "paperhold.decimals") 229, code := Value.ref 221 } }),
    (223, { cls := Value.type "tuple", data := Data.seq #[] }),
    (225, { cls := Value.type "tuple", data := Data.seq #[Value.str (Str.ofString "value") 456, Value.str (Str.ofString "low") 457, Value.str (Str.ofString "high") 458] }),
    (226, { cls := Value.type "tuple", data := Data.seq #[] }),
    (228, { cls := Value.type "code", data := Data.fields #[Value.str (Str.ofString "clamped") 453, Value.str (Str.ofString "clamped") 454, Value.str (Str.ofString "/claim/cut.py") 455, Value.int 116 0, Value.int 3 0, Value.int 0 0, Value.int 0 0, Value.int 3 0, Value.ref 223, Value.bool true, Value.int 181 0, Value.ref 224, Value.none, Value.ref 225, Value.ref 226, Value.ref 227, Value.int 459 0, Value.int 116 0, Value.str (Str.ofString "/claim/cut.py") 460] }),
    (229, { cls := Value.type "function", data := Data.func { name := Str.ofString "clamped", qualname := Str.ofString "clamped", params := hd.f16.a, body := FuncBody.stmts hd.f16.b, scope := hd.f16.s, globals := 3, closure := [], defaults := Value.none, kwdefaults := Value.none, pyModule := Value.str (Str.ofString "paperhold.decimals") 229, code := Value.ref 228 } }),
    (230, { cls := Value.type "tuple", data := Data.seq #[] }),
    (232, { cls := Value.type "tuple", data := Data.seq #[Value.str (Str.ofString "value") 465] }),
    (233, { cls := Value.type "tuple", data := Data.seq #[] }),
    (235, { cls := Value.type "code", data := Data.fields #[Value.str (Str.ofString "ceiling") 462, Value.str (Str.ofString "ceiling") 463, Value.str (Str.ofString "/claim/cut.py") 464, Value.int 120 0, Value.int 1 0, Value.int 0 0, Value.int 0 0, Value.int 3 0, Value.ref 230, Value.bool true, Value.int 181 0, Value.ref 231, Value.none, Value.ref 232, Value.ref 233, Value.ref 234, Value.int 466 0, Value.int 120 0, Value.str (Str.ofString "/claim/cut.py") 467] }),
    (236, { cls := Value.type "function", data := Data.func { name := Str.ofString "ceiling", qualname := Str.ofString "ceiling", params := hd.f17.a, body := FuncBody.stmts hd.f17.b, scope := hd.f17.s, globals := 3, closure := [], defaults := Value.none, kwdefaults := Value.none, pyModule := Value.str (Str.ofString "paperhold.decimals") 229, code := Value.ref 235 } }),
    (237, { cls := Value.type "tuple", data := Data.seq #[] }),
    (239, { cls := Value.type "tuple", data := Data.seq #[Value.str (Str.ofString "value") 472, Value.str (Str.ofString "number") 473] }),
    (240, { cls := Value.type "tuple", data := Data.seq #[] }),
    (242, { cls := Value.type "code", data := Data.fields #[Value.str (Str.ofString "absolute") 469, Value.str (Str.ofString "absolute") 470, Value.str (Str.ofString "/claim/cut.py") 471, Value.int 122 0, Value.int 1 0, Value.int 0 0, Value.int 0 0, Value.int 3 0, Value.ref 237, Value.bool true, Value.int 181 0, Value.ref 238, Value.none, Value.ref 239, Value.ref 240, Value.ref 241, Value.int 474 0, Value.int 122 0, Value.str (Str.ofString "/claim/cut.py") 475] }),
    (243, { cls := Value.type "function", data := Data.func { name := Str.ofString "absolute", qualname := Str.ofString "absolute", params := hd.f18.a, body := FuncBody.stmts hd.f18.b, scope := hd.f18.s, globals := 3, closure := [], defaults := Value.none, kwdefaults := Value.none, pyModule := Value.str (Str.ofString "paperhold.decimals") 229, code := Value.ref 242 } }),
    (244, { cls := Value.type "tuple", data := Data.seq #[] }),
    (247, { cls := Value.type "code", data := Data.fields #[Value.str (Str.ofString "_law_pen") 481, Value.str (Str.ofString "_law_pen") 482, Value.str (Str.ofString "/claim/cut.py") 483, Value.int 127 0, Value.int 1 0, Value.int 0 0, Value.int 0 0, Value.int 3 0, Value.ref 244, Value.bool true, Value.int 181 0, Value.ref 245, Value.none, Value.none, Value.none, Value.ref 246, Value.int 484 0, Value.int 127 0, Value.str (Str.ofString "/claim/cut.py") 485] }),
    (248, { cls := Value.type "function", data := Data.func { name := Str.ofString "_law_pen", qualname := Str.ofString "_law_pen", params := hd.f21.a, body := FuncBody.stmts hd.f21.b, scope := hd.f21.s, globals := 3, closure := [], defaults := Value.none, kwdefaults := Value.none, pyModule := Value.str (Str.ofString "law_nn0199_01") 477, code := Value.ref 247 } }),
    (249, { cls := Value.type "tuple", data := Data.seq #[] }),
    (251, { cls := Value.type "tuple", data := Data.seq #[Value.str (Str.ofString "pen") 490, Value.str (Str.ofString "many") 491, Value.str (Str.ofString "digit") 492, Value.str (Str.ofString "spot") 493, Value.str (Str.ofString "cell") 494, Value.str (Str.ofString "great") 495, Value.str (Str.ofString "churned") 496] }),
    (252, { cls := Value.type "tuple", data := Data.seq #[] }),
    (254, { cls := Value.type "code", data := Data.fields #[Value.str (Str.ofString "_law_draw") 487, Value.str (Str.ofString "_law_draw") 488, Value.str (Str.ofString "/claim/cut.py") 489, Value.int 129 0, Value.int 2 0, Value.int 0 0, Value.int 0 0, Value.int 3 0, Value.ref 249, Value.bool true, Value.int 181 0, Value.ref 250, Value.none, Value.ref 251, Value.ref 252, Value.ref 253, Value.int 497 0, Value.int 129 0, Value.str (Str.ofString "/claim/cut.py") 498] }),
    (255, { cls := Value.type "function", data := Data.func { name := Str.ofString "_law_draw", qualname := Str.ofString "_law_draw", params := hd.f22.a, body := FuncBody.stmts hd.f22.b, scope := hd.f22.s, globals := 3, closure := [], defaults := Value.none, kwdefaults := Value.none, pyModule := Value.str (Str.ofString "law_nn0199_01") 477, code := Value.ref 254 } }),
    (256, { cls := Value.type "tuple", data := Data.seq #[] }),
    (258, { cls := Value.type "tuple", data := Data.seq #[Value.str (Str.ofString "pen") 503, Value.str (Str.ofString "way") 504, Value.str (Str.ofString "sign") 505] }),
    (259, { cls := Value.type "tuple", data := Data.seq #[] }),
    (261, { cls := Value.type "code", data := Data.fields #[Value.str (Str.ofString "_law_pair") 500, Value.str (Str.ofString "_law_pair") 501, Value.str (Str.ofString "/claim/cut.py") 502, Value.int 146 0, Value.int 1 0, Value.int 0 0, Value.int 0 0, Value.int 3 0, Value.ref 256, Value.bool true, Value.int 181 0, Value.ref 257, Value.none, Value.ref 258, Value.ref 259, Value.ref 260, Value.int 506 0, Value.int 146 0, Value.str (Str.ofString "/claim/cut.py") 507] }),
    (262, { cls := Value.type "function", data := Data.func { name := Str.ofString "_law_pair", qualname := Str.ofString "_law_pair", params := hd.f23.a, body := FuncBody.stmts hd.f23.b, scope := hd.f23.s, globals := 3, closure := [], defaults := Value.none, kwdefaults := Value.none, pyModule := Value.str (Str.ofString "law_nn0199_01") 477, code := Value.ref 261 } }),
    (263, { cls := Value.type "tuple", data := Data.seq #[] }),
    (265, { cls := Value.type "tuple", data := Data.seq #[Value.str (Str.ofString "worth") 512, Value.str (Str.ofString "scale") 513, Value.str (Str.ofString "numerals") 514, Value.str (Str.ofString "places") 515, Value.str (Str.ofString "figure") 516] }),
    (266, { cls := Value.type "tuple", data := Data.seq #[] }),
    (268, { cls := Value.type "code", data := Data.fields #[Value.str (Str.ofString "_law_told") 509, Value.str (Str.ofString "_law_told") 510, Value.str (Str.ofString "/claim/cut.py") 511, Value.int 158 0, Value.int 2 0, Value.int 0 0, Value.int 0 0, Value.int 3 0, Value.ref 263, Value.bool true, Value.int 181 0, Value.ref 264, Value.none, Value.ref 265, Value.ref 266, Value.ref 267, Value.int 517 0, Value.int 158 0, Value.str (Str.ofString "/claim/cut.py") 518] }),
    (269, { cls := Value.type "function", data := Data.func { name := Str.ofString "_law_told", qualname := Str.ofString "_law_told", params := hd.f24.a, body := FuncBody.stmts hd.f24.b, scope := hd.f24.s, globals := 3, closure := [], defaults := Value.none, kwdefaults := Value.none, pyModule := Value.str (Str.ofString "law_nn0199_01") 477, code := Value.ref 268 } }),
    (270, { cls := Value.type "tuple", data := Data.seq #[] }),
    (272, { cls := Value.type "tuple", data := Data.seq #[Value.str (Str.ofString "worth") 523, Value.str (Str.ofString "scale") 524, Value.str (Str.ofString "is_least") 525, Value.str (Str.ofString "numerals") 526, Value.str (Str.ofString "whole") 527, Value.str (Str.ofString "rest") 528] }),
    (273, { cls := Value.type "tuple", data := Data.seq #[] }),
    (275, { cls := Value.type "code", data := Data.fields #[Value.str (Str.ofString "_law_text") 520, Value.str (Str.ofString "_law_text") 521, Value.str (Str.ofString "/claim/cut.py") 522, Value.int 168 0, Value.int 3 0, Value.int 0 0, Value.int 0 0, Value.int 3 0, Value.ref 270, Value.bool true, Value.int 181 0, Value.ref 271, Value.none, Value.ref 272, Value.ref 273, Value.ref 274, Value.int 529 0, Value.int 168 0, Value.str (Str.ofString "/claim/cut.py") 530] }),
    (276, { cls := Value.type "function", data := Data.func { name := Str.ofString "_law_text", qualname := Str.ofString "_law_text", params := hd.f25.a, body := FuncBody.stmts hd.f25.b, scope := hd.f25.s, globals := 3, closure := [], defaults := Value.none, kwdefaults := Value.none, pyModule := Value.str (Str.ofString "law_nn0199_01") 477, code := Value.ref 275 } }),
    (277, { cls := Value.type "tuple", data := Data.seq #[] }),
    (279, { cls := Value.type "tuple", data := Data.seq #[Value.str (Str.ofString "worth") 535, Value.str (Str.ofString "scale") 536, Value.str (Str.ofString "places") 537, Value.str (Str.ofString "unit") 538, Value.str (Str.ofString "size") 539] }),
    (280, { cls := Value.type "tuple", data := Data.seq #[] }),
    (282, { cls := Value.type "code", data := Data.fields #[Value.str (Str.ofString "_law_rounded") 532, Value.str (Str.ofString "_law_rounded") 533, Value.str (Str.ofString "/claim/cut.py") 534, Value.int 178 0, Value.int 3 0, Value.int 0 0, Value.int 0 0, Value.int 3 0, Value.ref 277, Value.bool true, Value.int 181 0, Value.ref 278, Value.none, Value.ref 279, Value.ref 280, Value.ref 281, Value.int 540 0, Value.int 178 0, Value.str (Str.ofString "/claim/cut.py") 541] }),
    (283, { cls := Value.type "function", data := Data.func { name := Str.ofString "_law_rounded", qualname := Str.ofString "_law_rounded", params := hd.f26.a, body := FuncBody.stmts hd.f26.b, scope := hd.f26.s, globals := 3, closure := [], defaults := Value.none, kwdefaults := Value.none, pyModule := Value.str (Str.ofString "law_nn0199_01") 477, code := Value.ref 282 } }),
    (284, { cls := Value.type "tuple", data := Data.seq #[] }),
    (286, { cls := Value.type "tuple", data := Data.seq #[Value.str (Str.ofString "way") 546, Value.str (Str.ofString "values") 547, Value.str (Str.ofString "heard") 548] }),
    (287, { cls := Value.type "tuple", data := Data.seq #[] }),
    (289, { cls := Value.type "code", data := Data.fields #[Value.str (Str.ofString "_law_refused") 543, Value.str (Str.ofString "_law_refused") 544, Value.str (Str.ofString "/claim/cut.py") 545, Value.int 184 0, Value.int 2 0, Value.int 0 0, Value.int 0 0, Value.int 3 0, Value.ref 284, Value.bool true, Value.int 181 0, Value.ref 285, Value.none, Value.ref 286, Value.ref 287, Value.ref 288, Value.int 549 0, Value.int 184 0, Value.str (Str.ofString "/claim/cut.py") 550] }),
    (290, { cls := Value.type "function", data := Data.func { name := Str.ofString "_law_refused", qualname := Str.ofString "_law_refused", params := hd.f27.a, body := FuncBody.stmts hd.f27.b, scope := hd.f27.s, globals := 3, closure := [], defaults := Value.none, kwdefaults := Value.none, pyModule := Value.str (Str.ofString "law_nn0199_01") 477, code := Value.ref 289 } }),
    (291, { cls := Value.type "tuple", data := Data.seq #[] }),
    (293, { cls := Value.type "tuple", data := Data.seq #[Value.str (Str.ofString "pen") 555, Value.str (Str.ofString "value") 556, Value.str (Str.ofString "worth") 557, Value.str (Str.ofString "scale") 558, Value.str (Str.ofString "unit") 559, Value.str (Str.ofString "number") 560, Value.str (Str.ofString "places") 561, Value.str (Str.ofString "few") 562] }),
    (294, { cls := Value.type "tuple", data := Data.seq #[] }),
    (296, { cls := Value.type "code", data := Data.fields #[Value.str (Str.ofString "_law_one_told") 552, Value.str (Str.ofString "_law_one_told") 553, Value.str (Str.ofString "/claim/cut.py") 554, Value.int 200 0, Value.int 3 0, Value.int 0 0, Value.int 0 0, Value.int 3 0, Value.ref 291, Value.bool true, Value.int 181 0, Value.ref 292, Value.none, Value.ref 293, Value.ref 294, Value.ref 295, Value.int 563 0, Value.int 200 0, Value.str (Str.ofString "/claim/cut.py") 564] }),
    (297, { cls := Value.type "function", data := Data.func { name := Str.ofString "_law_one_told", qualname := Str.ofString "_law_one_told", params := hd.f28.a, body := FuncBody.stmts hd.f28.b, scope := hd.f28.s, globals := 3, closure := [], defaults := Value.none, kwdefaults := Value.none, pyModule := Value.str (Str.ofString "law_nn0199_01") 477, code := Value.ref 296 } }),
    (298, { cls := Value.type "tuple", data := Data.seq #[] }),
    (300, { cls := Value.type "tuple", data := Data.seq #[Value.str (Str.ofString "x") 569, Value.str (Str.ofString "y") 570, Value.str (Str.ofString "one") 571, Value.str (Str.ofString "two") 572, Value.str (Str.ofString "scale") 573, Value.str (Str.ofString "number") 574] }),
    (301, { cls := Value.type "tuple", data := Data.seq #[] }),
    (303, { cls := Value.type "code", data := Data.fields #[Value.str (Str.ofString "_law_two_told") 566, Value.str (Str.ofString "_law_two_told") 567, Value.str (Str.ofString "/claim/cut.py") 568, Value.int 217 0, Value.int 4 0, Value.int 0 0, Value.int 0 0, Value.int 3 0, Value.ref 298, Value.bool true, Value.int 181 0, Value.ref 299, Value.none, Value.ref 300, Value.ref 301, Value.ref 302, Value.int 575 0, Value.int 217 0, Value.str (Str.ofString "/claim/cut.py") 576] }),
    (304, { cls := Value.type "function", data := Data.func { name := Str.ofString "_law_two_told", qualname := Str.ofString "_law_two_told", params := hd.f29.a, body := FuncBody.stmts hd.f29.b, scope := hd.f29.s, globals := 3, closure := [], defaults := Value.none, kwdefaults := Value.none, pyModule := Value.str (Str.ofString "law_nn0199_01") 477, code := Value.ref 303 } }),
    (305, { cls := Value.type "tuple", data := Data.seq #[] }),
    (308, { cls := Value.type "code", data := Data.fields #[Value.str (Str.ofString "_law_some_told") 578, Value.str (Str.ofString "_law_some_told") 579, Value.str (Str.ofString "/claim/cut.py") 580, Value.int 227 0, Value.int 2 0, Value.int 0 0, Value.int 0 0, Value.int 3 0, Value.ref 305, Value.bool true, Value.int 181 0, Value.ref 306, Value.none, Value.none, Value.none, Value.ref 307, Value.int 581 0, Value.int 227 0, Value.str (Str.ofString "/claim/cut.py") 582] }),
    (309, { cls := Value.type "function", data := Data.func { name := Str.ofString "_law_some_told", qualname := Str.ofString "_law_some_told", params := hd.f30.a, body := FuncBody.stmts hd.f30.b, scope := hd.f30.s, globals := 3, closure := [], defaults := Value.none, kwdefaults := Value.none, pyModule := Value.str (Str.ofString "law_nn0199_01") 477, code := Value.ref 308 } }),
    (310, { cls := Value.type "tuple", data := Data.seq #[] }),
    (313, { cls := Value.type "code", data := Data.fields #[Value.str (Str.ofString "law") 584, Value.str (Str.ofString "law") 585, Value.str (Str.ofString "/claim/cut.py") 586, Value.int 237 0, Value.int 1 0, Value.int 0 0, Value.int 0 0, Value.int 3 0, Value.ref 310, Value.bool true, Value.int 181 0, Value.ref 311, Value.none, Value.none, Value.none, Value.ref 312, Value.int 587 0, Value.int 237 0, Value.str (Str.ofString "/claim/cut.py") 588] }),
    (314, { cls := Value.type "function", data := Data.func { name := Str.ofString "law", qualname := Str.ofString "law", params := hd.f31.a, body := FuncBody.stmts hd.f31.b, scope := hd.f31.s, globals := 3, closure := [], defaults := Value.none, kwdefaults := Value.none, pyModule := Value.str (Str.ofString "law_nn0199_01") 477, code := Value.ref 313 } })]
structure hd.Got (α : Type) (y : α) where
  x : α
  ok : y = x
set_option simprocs false in
noncomputable def hd.heapGot : hd.Got (Params → Frag) hd.heapAt := ⟨_, by unfold hd.heapAt; dsimp only [hd.m1x0, hd.m1x1, hd.m3x0, hd.m3x1, hd.m3x2, hd.m3x3, hd.m3x4, hd.m3x5, hd.m3x6, hd.m3x7, hd.m3x8, hd.m3x9, hd.m3x10, hd.m3x11, hd.f4, hd.f5, hd.f6, hd.f7, hd.f8, hd.f9, hd.f10, hd.f11, hd.f12, hd.f13, hd.f14, hd.f15, hd.f16, hd.f17, hd.f18, hd.f21, hd.f22, hd.f23, hd.f24, hd.f25, hd.f26, hd.f27, hd.f28, hd.f29, hd.f30, hd.f31]⟩
noncomputable def hd.heap_39 : Params → Frag := hd.heapGot.x
set_option simprocs false in
noncomputable def hd.viewGot : hd.Got (List Stmt) [hd.cut.c1, hd.cut.c3, hd.cut.c4, hd.cut.c5, hd.cut.c6, hd.cut.c7, hd.cut.c8, hd.cut.c9, hd.cut.c10, hd.cut.c11, hd.cut.c12, hd.cut.c13, hd.cut.c14, hd.cut.c15, hd.cut.c16, hd.cut.c17, hd.cut.c18, hd.cut.c20, hd.cut.c21, hd.cut.c22, hd.cut.c23, hd.cut.c24, hd.cut.c25, hd.cut.c26, hd.cut.c27, hd.cut.c28, hd.cut.c29, hd.cut.c30, hd.cut.c31] := ⟨_, by dsimp only [hd.cut]⟩
noncomputable def hd.view_39 : Program := { PySem.Challenge.rw_nn0199_01.row.toRowW.prog with main := { PySem.Challenge.rw_nn0199_01.row.toRowW.prog.main with body := hd.viewGot.x } }
def hd.places : List Addr := [2, 3, 15, 22, 23, 25, 26, 28, 29, 30, 32, 33, 35, 36, 37, 38, 39, 40, 50, 52, 53, 55, 56, 57, 59, 60, 62, 63, 64, 66, 67, 69, 70, 71, 73, 74, 76, 77, 78, 80, 81, 83, 84, 85, 87, 88, 90, 91, 92, 94, 95, 97, 98, 99, 101, 102, 104, 105, 106, 108, 109, 111, 112, 113, 115, 116, 118, 119, 120, 122, 123, 125, 126, 127, 129, 130, 132, 133, 134, 135, 136, 137, 138, 141, 143, 144, 146, 147, 148, 150, 151, 153, 154, 155, 157, 158, 160, 161, 162, 164, 165, 167, 168, 169, 171, 172, 174, 175, 176, 179, 180, 181, 183, 184, 186, 187, 188, 190, 191, 193, 194, 195, 197, 198, 200, 201, 202, 204, 205, 207, 208, 209, 211, 212, 214, 215, 216, 218, 219, 221, 222, 223, 225, 226, 228, 229, 230, 232, 233, 235, 236, 237, 239, 240, 242, 243, 244, 247, 248, 249, 251, 252, 254, 255, 256, 258, 259, 261, 262, 263, 265, 266, 268, 269, 270, 272, 273, 275, 276, 277, 279, 280, 282, 283, 284, 286, 287, 289, 290, 291, 293, 294, 296, 297, 298, 300, 301, 303, 304, 305, 308, 309, 310, 313, 314]
theorem hd.places_ok (P : Params) : hd.places = (hd.heap_39 P).map (·.1) := by kernel_rfl
/-- what the top leaves is seen at its end -/
noncomputable abbrev hd.hook : Hook := kHook hd.heap_39 hd.places hd.places_ok
noncomputable def hd.env_41 : Env := { scope := PySem.Challenge.rw_nn0199_01.row.toRowW.1.main.scope, locals := mainNs, globals := mainNs, cells := [], code := Value.ref 13, frame := some 14 }
noncomputable def hd.o_43 : Params → Obj := fun P => { cls := Value.type "tuple", data := Data.seq #[] }
noncomputable def hd.o_44 : Params → Obj := fun P => { cls := Value.none, data := Data.fields #[] }
noncomputable def hd.o_45 : Params → Obj := fun P => { cls := Value.type "code", data := Data.fields #[Value.str (Str.ofString "<module>") 182, Value.str (Str.ofString "<module>") 183, Value.str (Str.ofString "/claim/cut.py") 184, Value.int 1 0, Value.int 0 0, Value.int 0 0, Value.int 0 0, Value.int 0 0, Value.ref 11, Value.bool false, Value.int 181 0, Value.ref 12, Value.none, Value.none, Value.none, Value.none, Value.int 185 0, Value.int 1 0, Value.str (Str.ofString "/claim/cut.py") 186] }
noncomputable def hd.o_46 : Params → Obj := fun P => { cls := Value.type "frame", slots := #[some (Value.ref 13), some (Value.ref 3), some (Value.ref 3), none, some (Value.str (Str.ofString "__main__") 164), none, some (Value.ref 0)] }
noncomputable def hd.heap_46 : Params → Heap := fun P => { objs := { toList := [boot_o_0 P, boot_o_1 P, boot_o_2 P, boot_o_3 P, boot_o_4 P, boot_o_5 P, boot_o_6 P, boot_o_7 P, boot_o_8 P, boot_o_9 P, boot_o_10 P, hd.o_43 P, hd.o_44 P, hd.o_45 P, hd.o_46 P] } }
noncomputable def hd.tree_47 : Params → BT := fun P => BT.node (boot_o_0 P) (BT.node (boot_o_1 P) (BT.node (boot_o_3 P) (BT.node (boot_o_7 P) BT.nil BT.nil) (BT.node (hd.o_43 P) BT.nil BT.nil)) (BT.node (boot_o_5 P) (BT.node (boot_o_9 P) BT.nil BT.nil) (BT.node (hd.o_45 P) BT.nil BT.nil))) (BT.node (boot_o_2 P) (BT.node (boot_o_4 P) (BT.node (boot_o_8 P) BT.nil BT.nil) (BT.node (hd.o_44 P) BT.nil BT.nil)) (BT.node (boot_o_6 P) (BT.node (boot_o_10 P) BT.nil BT.nil) (BT.node (hd.o_46 P) BT.nil BT.nil)))
noncomputable def hd.o_49 : Params → Obj := fun P => { cls := Value.none, data := Data.dict #[{ hash := PyData.keyHash P (Str.ofString "type.__subclasses__.Exception.0"), key := Value.str (Str.ofString "type.__subclasses__.Exception.0") 225, val := Value.int 39 0 }, { hash := PyData.keyHash P (Str.ofString "type.__subclasses__.Exception.n"), key := Value.str (Str.ofString "type.__subclasses__.Exception.n") 226, val := Value.int 1 0 }] 2 }
noncomputable def hd.sts_49 : List Stmt := [hd.cut.c0, hd.cut.c1, hd.cut.c2]
noncomputable def hd.o_50 : Params → Obj := fun P => { cls := Value.type "dict", data := Data.dict #[{ hash := PyData.keyHash P (Str.ofString "__name__"), key := Value.str (Str.ofString "__name__") 165, val := Value.str (Str.ofString "paperhold.decimals") 229 }, { hash := PyData.keyHash P (Str.ofString "__doc__"), key := Value.str (Str.ofString "__doc__") 166, val := Value.none }, { hash := PyData.keyHash P (Str.ofString "__package__"), key := Value.str (Str.ofString "__package__") 167, val := Value.none }, { hash := PyData.keyHash P (Str.ofString "__loader__"), key := Value.str (Str.ofString "__loader__") 168, val := Value.builtin "__main__.__loader__#opaque" }, { hash := PyData.keyHash P (Str.ofString "__spec__"), key := Value.str (Str.ofString "__spec__") 169, val := Value.none }, { hash := PyData.keyHash P (Str.ofString "__annotations__"), key := Value.str (Str.ofString "__annotations__") 170, val := Value.ref 6 }, { hash := PyData.keyHash P (Str.ofString "__builtins__"), key := Value.str (Str.ofString "__builtins__") 171, val := Value.ref 4 }, { hash := PyData.keyHash P (Str.ofString "__file__"), key := Value.str (Str.ofString "__file__") 173, val := Value.str (Str.ofString "/claim/cut.py") 172 }, { hash := PyData.keyHash P (Str.ofString "__cached__"), key := Value.str (Str.ofString "__cached__") 174, val := Value.none }, { hash := PyData.keyHash P (Str.ofString "PaperError"), key := Value.str (Str.ofString "PaperError") 228, val := Value.ref 39 }] 10 }
noncomputable def hd.o_51 : Params → Obj := fun P => { cls := Value.none, data := Data.fields #[Value.int 2 0, Value.int 0 0, Value.ref 20] }
noncomputable def hd.o_52 : Params → Obj := fun P => { cls := Value.type "tuple", data := Data.seq #[Value.type "Exception"] }
noncomputable def hd.o_53 : Params → Obj := fun P => { cls := Value.type "builtin_function_or_method", data := Data.fields #[Value.builtin "type.__prepare__", Value.type "type"] }
noncomputable def hd.o_54 : Params → Obj := fun P => { cls := Value.type "dict", data := Data.dict #[{ hash := PyData.keyHash P (Str.ofString "__module__"), key := Value.str (Str.ofString "__module__") 196, val := Value.str (Str.ofString "paperhold.errors") 187 }, { hash := PyData.keyHash P (Str.ofString "__qualname__"), key := Value.str (Str.ofString "__qualname__") 198, val := Value.str (Str.ofString "PaperError") 197 }, { hash := PyData.keyHash P (Str.ofString "__firstlineno__"), key := Value.str (Str.ofString "__firstlineno__") 200, val := Value.int 2 199 }, { hash := PyData.keyHash P (Str.ofString "__init__"), key := Value.str (Str.ofString "__init__") 211, val := Value.ref 29 }, { hash := PyData.keyHash P (Str.ofString "told"), key := Value.str (Str.ofString "told") 218, val := Value.ref 36 }, { hash := PyData.keyHash P (Str.ofString "__static_attributes__"), key := Value.str (Str.ofString "__static_attributes__") 221, val := Value.ref 37 }] 6 }
noncomputable def hd.o_55 : Params → Obj := fun P => { cls := Value.type "tuple", data := Data.seq #[] }
noncomputable def hd.o_56 : Params → Obj := fun P => { cls := Value.none, data := Data.fields #[Value.int 4 0, Value.int 4 0, Value.ref 28, Value.int 9 0, Value.int 4 0, Value.ref 35] }
noncomputable def hd.o_57 : Params → Obj := fun P => { cls := Value.type "code", data := Data.fields #[Value.str (Str.ofString "PaperError") 191, Value.str (Str.ofString "PaperError") 192, Value.str (Str.ofString "/claim/cut.py") 193, Value.int 2 0, Value.int 0 0, Value.int 0 0, Value.int 0 0, Value.int 0 0, Value.ref 18, Value.bool false, Value.int 181 0, Value.ref 19, Value.none, Value.none, Value.none, Value.none, Value.int 194 0, Value.int 2 0, Value.str (Str.ofString "/claim/cut.py") 195] }
noncomputable def hd.o_58 : Params → Obj := fun P => { cls := Value.type "frame", slots := #[some (Value.ref 20), some (Value.ref 3), some (Value.ref 17), none, some (Value.str (Str.ofString "paperhold.errors") 187), none, some (Value.ref 0)] }
noncomputable def hd.o_59 : Params → Obj := fun P => { cls := Value.type "tuple", data := Data.seq #[Value.int (-1) 202] }
noncomputable def hd.o_60 : Params → Obj := fun P => { cls := Value.type "tuple", data := Data.seq #[] }
noncomputable def hd.o_61 : Params → Obj := fun P => { cls := Value.none, data := Data.fields #[] }
noncomputable def hd.o_62 : Params → Obj := fun P => { cls := Value.type "tuple", data := Data.seq #[Value.str (Str.ofString "self") 206, Value.str (Str.ofString "what") 207, Value.str (Str.ofString "at") 208] }
noncomputable def hd.o_63 : Params → Obj := fun P => { cls := Value.type "tuple", data := Data.seq #[] }
noncomputable def hd.o_64 : Params → Obj := fun P => { cls := Value.none, data := Data.func { name := Str.ofString "__init__", qualname := Str.ofString "PaperError.__init__", params := hd.m1x0.a, body := FuncBody.stmts hd.m1x0.b, scope := hd.m1x0.s, globals := 0, closure := [], defaults := Value.none, kwdefaults := Value.none } }
noncomputable def hd.o_65 : Params → Obj := fun P => { cls := Value.type "code", data := Data.fields #[Value.str (Str.ofString "__init__") 203, Value.str (Str.ofString "PaperError.__init__") 204, Value.str (Str.ofString "/claim/cut.py") 205, Value.int 4 0, Value.int 3 0, Value.int 0 0, Value.int 0 0, Value.int 3 0, Value.ref 23, Value.bool true, Value.int 181 0, Value.ref 24, Value.none, Value.ref 25, Value.ref 26, Value.ref 27, Value.int 209 0, Value.int 4 0, Value.str (Str.ofString "/claim/cut.py") 210] }
noncomputable def hd.o_66 : Params → Obj := fun P => { cls := Value.type "function", data := Data.func { name := Str.ofString "__init__", qualname := Str.ofString "PaperError.__init__", params := hd.m1x0.a, body := FuncBody.stmts hd.m1x0.b, scope := hd.m1x0.s, globals := 3, closure := [], defaults := Value.ref 22, kwdefaults := Value.none, pyModule := Value.str (Str.ofString "paperhold.errors") 187, code := Value.ref 28 } }
noncomputable def hd.o_67 : Params → Obj := fun P => { cls := Value.type "tuple", data := Data.seq #[] }
noncomputable def hd.o_68 : Params → Obj := fun P => { cls := Value.none, data := Data.fields #[] }
noncomputable def hd.o_69 : Params → Obj := fun P => { cls := Value.type "tuple", data := Data.seq #[Value.str (Str.ofString "self") 215] }
noncomputable def hd.o_70 : Params → Obj := fun P => { cls := Value.type "tuple", data := Data.seq #[] }
noncomputable def hd.o_71 : Params → Obj := fun P => { cls := Value.none, data := Data.func { name := Str.ofString "told", qualname := Str.ofString "PaperError.told", params := hd.m1x1.a, body := FuncBody.stmts hd.m1x1.b, scope := hd.m1x1.s, globals := 0, closure := [], defaults := Value.none, kwdefaults := Value.none } }
noncomputable def hd.o_72 : Params → Obj := fun P => { cls := Value.type "code", data := Data.fields #[Value.str (Str.ofString "told") 212, Value.str (Str.ofString "PaperError.told") 213, Value.str (Str.ofString "/claim/cut.py") 214, Value.int 9 0, Value.int 1 0, Value.int 0 0, Value.int 0 0, Value.int 3 0, Value.ref 30, Value.bool true, Value.int 181 0, Value.ref 31, Value.none, Value.ref 32, Value.ref 33, Value.ref 34, Value.int 216 0, Value.int 9 0, Value.str (Str.ofString "/claim/cut.py") 217] }
noncomputable def hd.o_73 : Params → Obj := fun P => { cls := Value.type "function", data := Data.func { name := Str.ofString "told", qualname := Str.ofString "PaperError.told", params := hd.m1x1.a, body := FuncBody.stmts hd.m1x1.b, scope := hd.m1x1.s, globals := 3, closure := [], defaults := Value.none, kwdefaults := Value.none, pyModule := Value.str (Str.ofString "paperhold.errors") 187, code := Value.ref 35 } }
noncomputable def hd.o_74 : Params → Obj := fun P => { cls := Value.type "tuple", data := Data.seq #[Value.str (Str.ofString "at") 219, Value.str (Str.ofString "what") 220] }
noncomputable def hd.o_75 : Params → Obj := fun P => { cls := Value.type "dict", data := Data.dict #[{ hash := PyData.keyHash P (Str.ofString "__module__"), key := Value.str (Str.ofString "__module__") 196, val := Value.str (Str.ofString "paperhold.errors") 187 }, { hash := PyData.keyHash P (Str.ofString "__firstlineno__"), key := Value.str (Str.ofString "__firstlineno__") 200, val := Value.int 2 199 }, { hash := PyData.keyHash P (Str.ofString "__init__"), key := Value.str (Str.ofString "__init__") 211, val := Value.ref 29 }, { hash := PyData.keyHash P (Str.ofString "told"), key := Value.str (Str.ofString "told") 218, val := Value.ref 36 }, { hash := PyData.keyHash P (Str.ofString "__static_attributes__"), key := Value.str (Str.ofString "__static_attributes__") 221, val := Value.ref 37 }, { hash := PyData.keyHash P (Str.ofString "__weakref__"), key := Value.str (Str.ofString "__weakref__") 223, val := Value.ref 40 }, { hash := PyData.keyHash P (Str.ofString "__doc__"), key := Value.str (Str.ofString "__doc__") 224, val := Value.none }] 3 }
noncomputable def hd.o_76 : Params → Obj := fun P => { cls := Value.type "type", data := Data.cls { name := Str.ofString "PaperError", bases := [Value.type "Exception"], mro := [Value.ref 39, Value.type "Exception", Value.type "BaseException", Value.type "object"], ns := 38, qualname := Str.ofString "PaperError" }, slots := #[some (Value.ref 15), none, some (Value.str (Str.ofString "PaperError") 189), some (Value.str (Str.ofString "PaperError") 197), some (Value.builtin "Exception.__new__"), some (Value.bool true)] }
noncomputable def hd.o_77 : Params → Obj := fun P => { cls := Value.type "getset_descriptor", data := Data.fields #[Value.str (Str.ofString "__weakref__") 222, Value.ref 39, Value.builtin "ExceptionGroup.__weakref__", Value.none] }
noncomputable def hd.o_78 : Params → Obj := fun P => { cls := Value.type "super", data := Data.fields #[Value.ref 39, Value.ref 39, Value.ref 39] }
noncomputable def hd.o_79 : Params → Obj := fun P => { cls := Value.type "builtin_function_or_method", data := Data.fields #[Value.builtin "object.__init_subclass__", Value.ref 39] }
noncomputable def hd.tree_79 : Params → BT := fun P => BT.node (boot_o_0 P) (BT.node (boot_o_1 P) (BT.node (hd.o_50 P) (BT.node (boot_o_7 P) (BT.node (hd.o_52 P) (BT.node (hd.o_68 P) BT.nil BT.nil) BT.nil) (BT.node (hd.o_60 P) (BT.node (hd.o_76 P) BT.nil BT.nil) BT.nil)) (BT.node (hd.o_43 P) (BT.node (hd.o_56 P) (BT.node (hd.o_72 P) BT.nil BT.nil) BT.nil) (BT.node (hd.o_64 P) BT.nil BT.nil))) (BT.node (boot_o_5 P) (BT.node (boot_o_9 P) (BT.node (hd.o_54 P) (BT.node (hd.o_70 P) BT.nil BT.nil) BT.nil) (BT.node (hd.o_62 P) (BT.node (hd.o_78 P) BT.nil BT.nil) BT.nil)) (BT.node (hd.o_45 P) (BT.node (hd.o_58 P) (BT.node (hd.o_74 P) BT.nil BT.nil) BT.nil) (BT.node (hd.o_66 P) BT.nil BT.nil)))) (BT.node (hd.o_49 P) (BT.node (boot_o_4 P) (BT.node (boot_o_8 P) (BT.node (hd.o_53 P) (BT.node (hd.o_69 P) BT.nil BT.nil) BT.nil) (BT.node (hd.o_61 P) (BT.node (hd.o_77 P) BT.nil BT.nil) BT.nil)) (BT.node (hd.o_51 P) (BT.node (hd.o_57 P) (BT.node (hd.o_73 P) BT.nil BT.nil) BT.nil) (BT.node (hd.o_65 P) BT.nil BT.nil))) (BT.node (boot_o_6 P) (BT.node (boot_o_10 P) (BT.node (hd.o_55 P) (BT.node (hd.o_71 P) BT.nil BT.nil) BT.nil) (BT.node (hd.o_63 P) (BT.node (hd.o_79 P) BT.nil BT.nil) BT.nil)) (BT.node (hd.o_46 P) (BT.node (hd.o_59 P) (BT.node (hd.o_75 P) BT.nil BT.nil) BT.nil) (BT.node (hd.o_67 P) BT.nil BT.nil))))
noncomputable def hd.o_80 : Params → Obj := fun P => { cls := Value.type "dict", data := Data.dict #[{ hash := PyData.keyHash P (Str.ofString "__name__"), key := Value.str (Str.ofString "__name__") 165, val := Value.str (Str.ofString "paperhold.decimals") 229 }, { hash := PyData.keyHash P (Str.ofString "__doc__"), key := Value.str (Str.ofString "__doc__") 166, val := Value.none }, { hash := PyData.keyHash P (Str.ofString "__package__"), key := Value.str (Str.ofString "__package__") 167, val := Value.none }, { hash := PyData.keyHash P (Str.ofString "__loader__"), key := Value.str (Str.ofString "__loader__") 168, val := Value.builtin "__main__.__loader__#opaque" }, { hash := PyData.keyHash P (Str.ofString "__spec__"), key := Value.str (Str.ofString "__spec__") 169, val := Value.none }, { hash := PyData.keyHash P (Str.ofString "__annotations__"), key := Value.str (Str.ofString "__annotations__") 170, val := Value.ref 6 }, { hash := PyData.keyHash P (Str.ofString "__builtins__"), key := Value.str (Str.ofString "__builtins__") 171, val := Value.ref 4 }, { hash := PyData.keyHash P (Str.ofString "__file__"), key := Value.str (Str.ofString "__file__") 173, val := Value.str (Str.ofString "/claim/cut.py") 172 }, { hash := PyData.keyHash P (Str.ofString "__cached__"), key := Value.str (Str.ofString "__cached__") 174, val := Value.none }, { hash := PyData.keyHash P (Str.ofString "PaperError"), key := Value.str (Str.ofString "PaperError") 228, val := Value.ref 39 }, { hash := PyData.keyHash P (Str.ofString "Decimal"), key := Value.str (Str.ofString "Decimal") 355, val := Value.ref 136 }] 11 }
noncomputable def hd.sts_80 : List Stmt := [hd.cut.c3]
noncomputable def hd.o_81 : Params → Obj := fun P => { cls := Value.none, data := Data.fields #[Value.int 2 0, Value.int 0 0, Value.ref 20, Value.int 12 0, Value.int 0 0, Value.ref 48] }
noncomputable def hd.o_82 : Params → Obj := fun P => { cls := Value.type "tuple", data := Data.seq #[] }
noncomputable def hd.o_83 : Params → Obj := fun P => { cls := Value.type "builtin_function_or_method", data := Data.fields #[Value.builtin "type.__prepare__", Value.type "type"] }
noncomputable def hd.o_84 : Params → Obj := fun P => { cls := Value.type "dict", data := Data.dict #[{ hash := PyData.keyHash P (Str.ofString "__module__"), key := Value.str (Str.ofString "__module__") 238, val := Value.str (Str.ofString "paperhold.decimals") 229 }, { hash := PyData.keyHash P (Str.ofString "__qualname__"), key := Value.str (Str.ofString "__qualname__") 240, val := Value.str (Str.ofString "Decimal") 239 }, { hash := PyData.keyHash P (Str.ofString "__firstlineno__"), key := Value.str (Str.ofString "__firstlineno__") 242, val := Value.int 12 241 }, { hash := PyData.keyHash P (Str.ofString "__init__"), key := Value.str (Str.ofString "__init__") 251, val := Value.ref 56 }, { hash := PyData.keyHash P (Str.ofString "plus"), key := Value.str (Str.ofString "plus") 262, val := Value.ref 63 }, { hash := PyData.keyHash P (Str.ofString "minus"), key := Value.str (Str.ofString "minus") 273, val := Value.ref 70 }, { hash := PyData.keyHash P (Str.ofString "times"), key := Value.str (Str.ofString "times") 282, val := Value.ref 77 }, { hash := PyData.keyHash P (Str.ofString "negated"), key := Value.str (Str.ofString "negated") 289, val := Value.ref 84 }, { hash := PyData.keyHash P (Str.ofString "compared"), key := Value.str (Str.ofString "compared") 300, val := Value.ref 91 }, { hash := PyData.keyHash P (Str.ofString "is_whole"), key := Value.str (Str.ofString "is_whole") 307, val := Value.ref 98 }, { hash := PyData.keyHash P (Str.ofString "floor"), key := Value.str (Str.ofString "floor") 314, val := Value.ref 105 }, { hash := PyData.keyHash P (Str.ofString "rounded"), key := Value.str (Str.ofString "rounded") 322, val := Value.ref 112 }, { hash := PyData.keyHash P (Str.ofString "told"), key := Value.str (Str.ofString "told") 329, val := Value.ref 119 }, { hash := PyData.keyHash P (Str.ofString "text"), key := Value.str (Str.ofString "text") 337, val := Value.ref 126 }, { hash := PyData.keyHash P (Str.ofString "least_text"), key := Value.str (Str.ofString "least_text") 345, val := Value.ref 133 }, { hash := PyData.keyHash P (Str.ofString "__static_attributes__"), key := Value.str (Str.ofString "__static_attributes__") 348, val := Value.ref 134 }] 16 }
noncomputable def hd.o_85 : Params → Obj := fun P => { cls := Value.type "tuple", data := Data.seq #[] }
noncomputable def hd.o_86 : Params → Obj := fun P => { cls := Value.none, data := Data.fields #[Value.int 14 0, Value.int 4 0, Value.ref 55, Value.int 21 0, Value.int 4 0, Value.ref 62, Value.int 25 0, Value.int 4 0, Value.ref 69, Value.int 29 0, Value.int 4 0, Value.ref 76, Value.int 33 0, Value.int 4 0, Value.ref 83, Value.int 36 0, Value.int 4 0, Value.ref 90, Value.int 40 0, Value.int 4 0, Value.ref 97, Value.int 43 0, Value.int 4 0, Value.ref 104, Value.int 46 0, Value.int 4 0, Value.ref 111, Value.int 51 0, Value.int 4 0, Value.ref 118, Value.int 54 0, Value.int 4 0, Value.ref 125, Value.int 61 0, Value.int 4 0, Value.ref 132] }
noncomputable def hd.o_87 : Params → Obj := fun P => { cls := Value.type "code", data := Data.fields #[Value.str (Str.ofString "Decimal") 233, Value.str (Str.ofString "Decimal") 234, Value.str (Str.ofString "/claim/cut.py") 235, Value.int 12 0, Value.int 0 0, Value.int 0 0, Value.int 0 0, Value.int 0 0, Value.ref 46, Value.bool false, Value.int 181 0, Value.ref 47, Value.none, Value.none, Value.none, Value.none, Value.int 236 0, Value.int 12 0, Value.str (Str.ofString "/claim/cut.py") 237] }
noncomputable def hd.o_88 : Params → Obj := fun P => { cls := Value.type "frame", slots := #[some (Value.ref 48), some (Value.ref 3), some (Value.ref 45), none, some (Value.str (Str.ofString "paperhold.decimals") 229), none, some (Value.ref 0)] }
noncomputable def hd.o_89 : Params → Obj := fun P => { cls := Value.type "tuple", data := Data.seq #[] }
noncomputable def hd.o_90 : Params → Obj := fun P => { cls := Value.none, data := Data.fields #[] }
noncomputable def hd.o_91 : Params → Obj := fun P => { cls := Value.type "tuple", data := Data.seq #[Value.str (Str.ofString "self") 246, Value.str (Str.ofString "top") 247, Value.str (Str.ofString "places") 248] }
noncomputable def hd.o_92 : Params → Obj := fun P => { cls := Value.type "tuple", data := Data.seq #[] }
noncomputable def hd.o_93 : Params → Obj := fun P => { cls := Value.none, data := Data.func { name := Str.ofString "__init__", qualname := Str.ofString "Decimal.__init__", params := hd.m3x0.a, body := FuncBody.stmts hd.m3x0.b, scope := hd.m3x0.s, globals := 0, closure := [], defaults := Value.none, kwdefaults := Value.none } }
noncomputable def hd.o_94 : Params → Obj := fun P => { cls := Value.type "code", data := Data.fields #[Value.str (Str.ofString "__init__") 243, Value.str (Str.ofString "Decimal.__init__") 244, Value.str (Str.ofString "/claim/cut.py") 245, Value.int 14 0, Value.int 3 0, Value.int 0 0, Value.int 0 0, Value.int 3 0, Value.ref 50, Value.bool true, Value.int 181 0, Value.ref 51, Value.none, Value.ref 52, Value.ref 53, Value.ref 54, Value.int 249 0, Value.int 14 0, Value.str (Str.ofString "/claim/cut.py") 250] }
noncomputable def hd.o_95 : Params → Obj := fun P => { cls := Value.type "function", data := Data.func { name := Str.ofString "__init__", qualname := Str.ofString "Decimal.__init__", params := hd.m3x0.a, body := FuncBody.stmts hd.m3x0.b, scope := hd.m3x0.s, globals := 3, closure := [], defaults := Value.none, kwdefaults := Value.none, pyModule := Value.str (Str.ofString "paperhold.decimals") 229, code := Value.ref 55 } }
noncomputable def hd.o_96 : Params → Obj := fun P => { cls := Value.type "tuple", data := Data.seq #[] }
noncomputable def hd.o_97 : Params → Obj := fun P => { cls := Value.none, data := Data.fields #[] }
noncomputable def hd.o_98 : Params → Obj := fun P => { cls := Value.type "tuple", data := Data.seq #[Value.str (Str.ofString "self") 255, Value.str (Str.ofString "other") 256, Value.str (Str.ofString "one") 257, Value.str (Str.ofString "two") 258, Value.str (Str.ofString "places") 259] }
noncomputable def hd.o_99 : Params → Obj := fun P => { cls := Value.type "tuple", data := Data.seq #[] }
noncomputable def hd.o_100 : Params → Obj := fun P => { cls := Value.none, data := Data.func { name := Str.ofString "plus", qualname := Str.ofString "Decimal.plus", params := hd.m3x1.a, body := FuncBody.stmts hd.m3x1.b, scope := hd.m3x1.s, globals := 0, closure := [], defaults := Value.none, kwdefaults := Value.none } }
noncomputable def hd.o_101 : Params → Obj := fun P => { cls := Value.type "code", data := Data.fields #[Value.str (Str.ofString "plus") 252, Value.str (Str.ofString "Decimal.plus") 253, Value.str (Str.ofString "/claim/cut.py") 254, Value.int 21 0, Value.int 2 0, Value.int 0 0, Value.int 0 0, Value.int 3 0, Value.ref 57, Value.bool true, Value.int 181 0, Value.ref 58, Value.none, Value.ref 59, Value.ref 60, Value.ref 61, Value.int 260 0, Value.int 21 0, Value.str (Str.ofString "/claim/cut.py") 261] }
noncomputable def hd.o_102 : Params → Obj := fun P => { cls := Value.type "function", data := Data.func { name := Str.ofString "plus", qualname := Str.ofString "Decimal.plus", params := hd.m3x1.a, body := FuncBody.stmts hd.m3x1.b, scope := hd.m3x1.s, globals := 3, closure := [], defaults := Value.none, kwdefaults := Value.none, pyModule := Value.str (Str.ofString "paperhold.decimals") 229, code := Value.ref 62 } }
noncomputable def hd.o_103 : Params → Obj := fun P => { cls := Value.type "tuple", data := Data.seq #[] }
noncomputable def hd.o_104 : Params → Obj := fun P => { cls := Value.none, data := Data.fields #[] }
noncomputable def hd.o_105 : Params → Obj := fun P => { cls := Value.type "tuple", data := Data.seq #[Value.str (Str.ofString "self") 266, Value.str (Str.ofString "other") 267, Value.str (Str.ofString "one") 268, Value.str (Str.ofString "two") 269, Value.str (Str.ofString "places") 270] }
noncomputable def hd.o_106 : Params → Obj := fun P => { cls := Value.type "tuple", data := Data.seq #[] }
noncomputable def hd.o_107 : Params → Obj := fun P => { cls := Value.none, data := Data.func { name := Str.ofString "minus", qualname := Str.ofString "Decimal.minus", params := hd.m3x2.a, body := FuncBody.stmts hd.m3x2.b, scope := hd.m3x2.s, globals := 0, closure := [], defaults := Value.none, kwdefaults := Value.none } }
noncomputable def hd.o_108 : Params → Obj := fun P => { cls := Value.type "code", data := Data.fields #[Value.str (Str.ofString "minus") 263, Value.str (Str.ofString "Decimal.minus") 264, Value.str (Str.ofString "/claim/cut.py") 265, Value.int 25 0, Value.int 2 0, Value.int 0 0, Value.int 0 0, Value.int 3 0, Value.ref 64, Value.bool true, Value.int 181 0, Value.ref 65, Value.none, Value.ref 66, Value.ref 67, Value.ref 68, Value.int 271 0, Value.int 25 0, Value.str (Str.ofString "/claim/cut.py") 272] }
noncomputable def hd.o_109 : Params → Obj := fun P => { cls := Value.type "function", data := Data.func { name := Str.ofString "minus", qualname := Str.ofString "Decimal.minus", params := hd.m3x2.a, body := FuncBody.stmts hd.m3x2.b, scope := hd.m3x2.s, globals := 3, closure := [], defaults := Value.none, kwdefaults := Value.none, pyModule := Value.str (Str.ofString "paperhold.decimals") 229, code := Value.ref 69 } }
noncomputable def hd.o_110 : Params → Obj := fun P => { cls := Value.type "tuple", data := Data.seq #[] }
noncomputable def hd.o_111 : Params → Obj := fun P => { cls := Value.none, data := Data.fields #[] }
noncomputable def hd.o_112 : Params → Obj := fun P => { cls := Value.type "tuple", data := Data.seq #[Value.str (Str.ofString "self") 277, Value.str (Str.ofString "other") 278, Value.str (Str.ofString "factor") 279] }
noncomputable def hd.o_113 : Params → Obj := fun P => { cls := Value.type "tuple", data := Data.seq #[] }
noncomputable def hd.o_114 : Params → Obj := fun P => { cls := Value.none, data := Data.func { name := Str.ofString "times", qualname := Str.ofString "Decimal.times", params := hd.m3x3.a, body := FuncBody.stmts hd.m3x3.b, scope := hd.m3x3.s, globals := 0, closure := [], defaults := Value.none, kwdefaults := Value.none } }
noncomputable def hd.o_115 : Params → Obj := fun P => { cls := Value.type "code", data := Data.fields #[Value.str (Str.ofString "times") 274, Value.str (Str.ofString "Decimal.times") 275, Value.str (Str.ofString "/claim/cut.py") 276, Value.int 29 0, Value.int 2 0, Value.int 0 0, Value.int 0 0, Value.int 3 0, Value.ref 71, Value.bool true, Value.int 181 0, Value.ref 72, Value.none, Value.ref 73, Value.ref 74, Value.ref 75, Value.int 280 0, Value.int 29 0, Value.str (Str.ofString "/claim/cut.py") 281] }
noncomputable def hd.o_116 : Params → Obj := fun P => { cls := Value.type "function", data := Data.func { name := Str.ofString "times", qualname := Str.ofString "Decimal.times", params := hd.m3x3.a, body := FuncBody.stmts hd.m3x3.b, scope := hd.m3x3.s, globals := 3, closure := [], defaults := Value.none, kwdefaults := Value.none, pyModule := Value.str (Str.ofString "paperhold.decimals") 229, code := Value.ref 76 } }
noncomputable def hd.o_117 : Params → Obj := fun P => { cls := Value.type "tuple", data := Data.seq #[] }
noncomputable def hd.o_118 : Params → Obj := fun P => { cls := Value.none, data := Data.fields #[] }
noncomputable def hd.o_119 : Params → Obj := fun P => { cls := Value.type "tuple", data := Data.seq #[Value.str (Str.ofString "self") 286] }
noncomputable def hd.o_120 : Params → Obj := fun P => { cls := Value.type "tuple", data := Data.seq #[] }
noncomputable def hd.o_121 : Params → Obj := fun P => { cls := Value.none, data := Data.func { name := Str.ofString "negated", qualname := Str.ofString "Decimal.negated", params := hd.m3x4.a, body := FuncBody.stmts hd.m3x4.b, scope := hd.m3x4.s, globals := 0, closure := [], defaults := Value.none, kwdefaults := Value.none } }
noncomputable def hd.o_122 : Params → Obj := fun P => { cls := Value.type "code", data := Data.fields #[Value.str (Str.ofString "negated") 283, Value.str (Str.ofString "Decimal.negated") 284, Value.str (Str.ofString "/claim/cut.py") 285, Value.int 33 0, Value.int 1 0, Value.int 0 0, Value.int 0 0, Value.int 3 0, Value.ref 78, Value.bool true, Value.int 181 0, Value.ref 79, Value.none, Value.ref 80, Value.ref 81, Value.ref 82, Value.int 287 0, Value.int 33 0, Value.str (Str.ofString "/claim/cut.py") 288] }
noncomputable def hd.o_123 : Params → Obj := fun P => { cls := Value.type "function", data := Data.func { name := Str.ofString "negated", qualname := Str.ofString "Decimal.negated", params := hd.m3x4.a, body := FuncBody.stmts hd.m3x4.b, scope := hd.m3x4.s, globals := 3, closure := [], defaults := Value.none, kwdefaults := Value.none, pyModule := Value.str (Str.ofString "paperhold.decimals") 229, code := Value.ref 83 } }
noncomputable def hd.o_124 : Params → Obj := fun P => { cls := Value.type "tuple", data := Data.seq #[] }
noncomputable def hd.o_125 : Params → Obj := fun P => { cls := Value.none, data := Data.fields #[] }
noncomputable def hd.o_126 : Params → Obj := fun P => { cls := Value.type "tuple", data := Data.seq #[Value.str (Str.ofString "self") 293, Value.str (Str.ofString "other") 294, Value.str (Str.ofString "one") 295, Value.str (Str.ofString "two") 296, Value.str (Str.ofString "places") 297] }
noncomputable def hd.o_127 : Params → Obj := fun P => { cls := Value.type "tuple", data := Data.seq #[] }
noncomputable def hd.o_128 : Params → Obj := fun P => { cls := Value.none, data := Data.func { name := Str.ofString "compared", qualname := Str.ofString "Decimal.compared", params := hd.m3x5.a, body := FuncBody.stmts hd.m3x5.b, scope := hd.m3x5.s, globals := 0, closure := [], defaults := Value.none, kwdefaults := Value.none } }
noncomputable def hd.o_129 : Params → Obj := fun P => { cls := Value.type "code", data := Data.fields #[Value.str (Str.ofString "compared") 290, Value.str (Str.ofString "Decimal.compared") 291, Value.str (Str.ofString "/claim/cut.py") 292, Value.int 36 0, Value.int 2 0, Value.int 0 0, Value.int 0 0, Value.int 3 0, Value.ref 85, Value.bool true, Value.int 181 0, Value.ref 86, Value.none, Value.ref 87, Value.ref 88, Value.ref 89, Value.int 298 0, Value.int 36 0, Value.str (Str.ofString "/claim/cut.py") 299] }
noncomputable def hd.o_130 : Params → Obj := fun P => { cls := Value.type "function", data := Data.func { name := Str.ofString "compared", qualname := Str.ofString "Decimal.compared", params := hd.m3x5.a, body := FuncBody.stmts hd.m3x5.b, scope := hd.m3x5.s, globals := 3, closure := [], defaults := Value.none, kwdefaults := Value.none, pyModule := Value.str (Str.ofString "paperhold.decimals") 229, code := Value.ref 90 } }
noncomputable def hd.o_131 : Params → Obj := fun P => { cls := Value.type "tuple", data := Data.seq #[] }
noncomputable def hd.o_132 : Params → Obj := fun P => { cls := Value.none, data := Data.fields #[] }
noncomputable def hd.o_133 : Params → Obj := fun P => { cls := Value.type "tuple", data := Data.seq #[Value.str (Str.ofString "self") 304] }
noncomputable def hd.o_134 : Params → Obj := fun P => { cls := Value.type "tuple", data := Data.seq #[] }
noncomputable def hd.o_135 : Params → Obj := fun P => { cls := Value.none, data := Data.func { name := Str.ofString "is_whole", qualname := Str.ofString "Decimal.is_whole", params := hd.m3x6.a, body := FuncBody.stmts hd.m3x6.b, scope := hd.m3x6.s, globals := 0, closure := [], defaults := Value.none, kwdefaults := Value.none } }
noncomputable def hd.o_136 : Params → Obj := fun P => { cls := Value.type "code", data := Data.fields #[Value.str (Str.ofString "is_whole") 301, Value.str (Str.ofString "Decimal.is_whole") 302, Value.str (Str.ofString "/claim/cut.py") 303, Value.int 40 0, Value.int 1 0, Value.int 0 0, Value.int 0 0, Value.int 3 0, Value.ref 92, Value.bool true, Value.int 181 0, Value.ref 93, Value.none, Value.ref 94, Value.ref 95, Value.ref 96, Value.int 305 0, Value.int 40 0, Value.str (Str.ofString "/claim/cut.py") 306] }
noncomputable def hd.o_137 : Params → Obj := fun P => { cls := Value.type "function", data := Data.func { name := Str.ofString "is_whole", qualname := Str.ofString "Decimal.is_whole", params := hd.m3x6.a, body := FuncBody.stmts hd.m3x6.b, scope := hd.m3x6.s, globals := 3, closure := [], defaults := Value.none, kwdefaults := Value.none, pyModule := Value.str (Str.ofString "paperhold.decimals") 229, code := Value.ref 97 } }
noncomputable def hd.o_138 : Params → Obj := fun P => { cls := Value.type "tuple", data := Data.seq #[] }
noncomputable def hd.o_139 : Params → Obj := fun P => { cls := Value.none, data := Data.fields #[] }
noncomputable def hd.o_140 : Params → Obj := fun P => { cls := Value.type "tuple", data := Data.seq #[Value.str (Str.ofString "self") 311] }
noncomputable def hd.o_141 : Params → Obj := fun P => { cls := Value.type "tuple", data := Data.seq #[] }
noncomputable def hd.o_142 : Params → Obj := fun P => { cls := Value.none, data := Data.func { name := Str.ofString "floor", qualname := Str.ofString "Decimal.floor", params := hd.m3x7.a, body := FuncBody.stmts hd.m3x7.b, scope := hd.m3x7.s, globals := 0, closure := [], defaults := Value.none, kwdefaults := Value.none } }
noncomputable def hd.o_143 : Params → Obj := fun P => { cls := Value.type "code", data := Data.fields #[Value.str (Str.ofString "floor") 308, Value.str (Str.ofString "Decimal.floor") 309, Value.str (Str.ofString "/claim/cut.py") 310, Value.int 43 0, Value.int 1 0, Value.int 0 0, Value.int 0 0, Value.int 3 0, Value.ref 99, Value.bool true, Value.int 181 0, Value.ref 100, Value.none, Value.ref 101, Value.ref 102, Value.ref 103, Value.int 312 0, Value.int 43 0, Value.str (Str.ofString "/claim/cut.py") 313] }
noncomputable def hd.o_144 : Params → Obj := fun P => { cls := Value.type "function", data := Data.func { name := Str.ofString "floor", qualname := Str.ofString "Decimal.floor", params := hd.m3x7.a, body := FuncBody.stmts hd.m3x7.b, scope := hd.m3x7.s, globals := 3, closure := [], defaults := Value.none, kwdefaults := Value.none, pyModule := Value.str (Str.ofString "paperhold.decimals") 229, code := Value.ref 104 } }
noncomputable def hd.o_145 : Params → Obj := fun P => { cls := Value.type "tuple", data := Data.seq #[] }
noncomputable def hd.o_146 : Params → Obj := fun P => { cls := Value.none, data := Data.fields #[] }
noncomputable def hd.o_147 : Params → Obj := fun P => { cls := Value.type "tuple", data := Data.seq #[Value.str (Str.ofString "self") 318, Value.str (Str.ofString "places") 319] }
noncomputable def hd.o_148 : Params → Obj := fun P => { cls := Value.type "tuple", data := Data.seq #[] }
noncomputable def hd.o_149 : Params → Obj := fun P => { cls := Value.none, data := Data.func { name := Str.ofString "rounded", qualname := Str.ofString "Decimal.rounded", params := hd.m3x8.a, body := FuncBody.stmts hd.m3x8.b, scope := hd.m3x8.s, globals := 0, closure := [], defaults := Value.none, kwdefaults := Value.none } }
noncomputable def hd.o_150 : Params → Obj := fun P => { cls := Value.type "code", data := Data.fields #[Value.str (Str.ofString "rounded") 315, Value.str (Str.ofString "Decimal.rounded") 316, Value.str (Str.ofString "/claim/cut.py") 317, Value.int 46 0, Value.int 2 0, Value.int 0 0, Value.int 0 0, Value.int 3 0, Value.ref 106, Value.bool true, Value.int 181 0, Value.ref 107, Value.none, Value.ref 108, Value.ref 109, Value.ref 110, Value.int 320 0, Value.int 46 0, Value.str (Str.ofString "/claim/cut.py") 321] }
noncomputable def hd.o_151 : Params → Obj := fun P => { cls := Value.type "function", data := Data.func { name := Str.ofString "rounded", qualname := Str.ofString "Decimal.rounded", params := hd.m3x8.a, body := FuncBody.stmts hd.m3x8.b, scope := hd.m3x8.s, globals := 3, closure := [], defaults := Value.none, kwdefaults := Value.none, pyModule := Value.str (Str.ofString "paperhold.decimals") 229, code := Value.ref 111 } }
noncomputable def hd.o_152 : Params → Obj := fun P => { cls := Value.type "tuple", data := Data.seq #[] }
noncomputable def hd.o_153 : Params → Obj := fun P => { cls := Value.none, data := Data.fields #[] }
noncomputable def hd.o_154 : Params → Obj := fun P => { cls := Value.type "tuple", data := Data.seq #[Value.str (Str.ofString "self") 326] }
noncomputable def hd.o_155 : Params → Obj := fun P => { cls := Value.type "tuple", data := Data.seq #[] }
noncomputable def hd.o_156 : Params → Obj := fun P => { cls := Value.none, data := Data.func { name := Str.ofString "told", qualname := Str.ofString "Decimal.told", params := hd.m3x9.a, body := FuncBody.stmts hd.m3x9.b, scope := hd.m3x9.s, globals := 0, closure := [], defaults := Value.none, kwdefaults := Value.none } }
noncomputable def hd.o_157 : Params → Obj := fun P => { cls := Value.type "code", data := Data.fields #[Value.str (Str.ofString "told") 323, Value.str (Str.ofString "Decimal.told") 324, Value.str (Str.ofString "/claim/cut.py") 325, Value.int 51 0, Value.int 1 0, Value.int 0 0, Value.int 0 0, Value.int 3 0, Value.ref 113, Value.bool true, Value.int 181 0, Value.ref 114, Value.none, Value.ref 115, Value.ref 116, Value.ref 117, Value.int 327 0, Value.int 51 0, Value.str (Str.ofString "/claim/cut.py") 328] }
noncomputable def hd.o_158 : Params → Obj := fun P => { cls := Value.type "function", data := Data.func { name := Str.ofString "told", qualname := Str.ofString "Decimal.told", params := hd.m3x9.a, body := FuncBody.stmts hd.m3x9.b, scope := hd.m3x9.s, globals := 3, closure := [], defaults := Value.none, kwdefaults := Value.none, pyModule := Value.str (Str.ofString "paperhold.decimals") 229, code := Value.ref 118 } }
noncomputable def hd.o_159 : Params → Obj := fun P => { cls := Value.type "tuple", data := Data.seq #[] }
noncomputable def hd.o_160 : Params → Obj := fun P => { cls := Value.none, data := Data.fields #[] }
noncomputable def hd.o_161 : Params → Obj := fun P => { cls := Value.type "tuple", data := Data.seq #[Value.str (Str.ofString "self") 333, Value.str (Str.ofString "numerals") 334] }
noncomputable def hd.o_162 : Params → Obj := fun P => { cls := Value.type "tuple", data := Data.seq #[] }
noncomputable def hd.o_163 : Params → Obj := fun P => { cls := Value.none, data := Data.func { name := Str.ofString "text", qualname := Str.ofString "Decimal.text", params := hd.m3x10.a, body := FuncBody.stmts hd.m3x10.b, scope := hd.m3x10.s, globals := 0, closure := [], defaults := Value.none, kwdefaults := Value.none } }
noncomputable def hd.o_164 : Params → Obj := fun P => { cls := Value.type "code", data := Data.fields #[Value.str (Str.ofString "text") 330, Value.str (Str.ofString "Decimal.text") 331, Value.str (Str.ofString "/claim/cut.py") 332, Value.int 54 0, Value.int 1 0, Value.int 0 0, Value.int 0 0, Value.int 3 0, Value.ref 120, Value.bool true, Value.int 181 0, Value.ref 121, Value.none, Value.ref 122, Value.ref 123, Value.ref 124, Value.int 335 0, Value.int 54 0, Value.str (Str.ofString "/claim/cut.py") 336] }
noncomputable def hd.o_165 : Params → Obj := fun P => { cls := Value.type "function", data := Data.func { name := Str.ofString "text", qualname := Str.ofString "Decimal.text", params := hd.m3x10.a, body := FuncBody.stmts hd.m3x10.b, scope := hd.m3x10.s, globals := 3, closure := [], defaults := Value.none, kwdefaults := Value.none, pyModule := Value.str (Str.ofString "paperhold.decimals") 229, code := Value.ref 125 } }
noncomputable def hd.o_166 : Params → Obj := fun P => { cls := Value.type "tuple", data := Data.seq #[] }
noncomputable def hd.o_167 : Params → Obj := fun P => { cls := Value.none, data := Data.fields #[] }
noncomputable def hd.o_168 : Params → Obj := fun P => { cls := Value.type "tuple", data := Data.seq #[Value.str (Str.ofString "self") 341, Value.str (Str.ofString "numerals") 342] }
noncomputable def hd.o_169 : Params → Obj := fun P => { cls := Value.type "tuple", data := Data.seq #[] }
noncomputable def hd.o_170 : Params → Obj := fun P => { cls := Value.none, data := Data.func { name := Str.ofString "least_text", qualname := Str.ofString "Decimal.least_text", params := hd.m3x11.a, body := FuncBody.stmts hd.m3x11.b, scope := hd.m3x11.s, globals := 0, closure := [], defaults := Value.none, kwdefaults := Value.none } }
noncomputable def hd.o_171 : Params → Obj := fun P => { cls := Value.type "code", data := Data.fields #[Value.str (Str.ofString "least_text") 338, Value.str (Str.ofString "Decimal.least_text") 339, Value.str (Str.ofString "/claim/cut.py") 340, Value.int 61 0, Value.int 1 0, Value.int 0 0, Value.int 0 0, Value.int 3 0, Value.ref 127, Value.bool true, Value.int 181 0, Value.ref 128, Value.none, Value.ref 129, Value.ref 130, Value.ref 131, Value.int 343 0, Value.int 61 0, Value.str (Str.ofString "/claim/cut.py") 344] }
noncomputable def hd.o_172 : Params → Obj := fun P => { cls := Value.type "function", data := Data.func { name := Str.ofString "least_text", qualname := Str.ofString "Decimal.least_text", params := hd.m3x11.a, body := FuncBody.stmts hd.m3x11.b, scope := hd.m3x11.s, globals := 3, closure := [], defaults := Value.none, kwdefaults := Value.none, pyModule := Value.str (Str.ofString "paperhold.decimals") 229, code := Value.ref 132 } }
noncomputable def hd.o_173 : Params → Obj := fun P => { cls := Value.type "tuple", data := Data.seq #[Value.str (Str.ofString "places") 346, Value.str (Str.ofString "top") 347] }
noncomputable def hd.o_174 : Params → Obj := fun P => { cls := Value.type "dict", data := Data.dict #[{ hash := PyData.keyHash P (Str.ofString "__module__"), key := Value.str (Str.ofString "__module__") 238, val := Value.str (Str.ofString "paperhold.decimals") 229 }, { hash := PyData.keyHash P (Str.ofString "__firstlineno__"), key := Value.str (Str.ofString "__firstlineno__") 242, val := Value.int 12 241 }, { hash := PyData.keyHash P (Str.ofString "__init__"), key := Value.str (Str.ofString "__init__") 251, val := Value.ref 56 }, { hash := PyData.keyHash P (Str.ofString "plus"), key := Value.str (Str.ofString "plus") 262, val := Value.ref 63 }, { hash := PyData.keyHash P (Str.ofString "minus"), key := Value.str (Str.ofString "minus") 273, val := Value.ref 70 }, { hash := PyData.keyHash P (Str.ofString "times"), key := Value.str (Str.ofString "times") 282, val := Value.ref 77 }, { hash := PyData.keyHash P (Str.ofString "negated"), key := Value.str (Str.ofString "negated") 289, val := Value.ref 84 }, { hash := PyData.keyHash P (Str.ofString "compared"), key := Value.str (Str.ofString "compared") 300, val := Value.ref 91 }, { hash := PyData.keyHash P (Str.ofString "is_whole"), key := Value.str (Str.ofString "is_whole") 307, val := Value.ref 98 }, { hash := PyData.keyHash P (Str.ofString "floor"), key := Value.str (Str.ofString "floor") 314, val := Value.ref 105 }, { hash := PyData.keyHash P (Str.ofString "rounded"), key := Value.str (Str.ofString "rounded") 322, val := Value.ref 112 }, { hash := PyData.keyHash P (Str.ofString "told"), key := Value.str (Str.ofString "told") 329, val := Value.ref 119 }, { hash := PyData.keyHash P (Str.ofString "text"), key := Value.str (Str.ofString "text") 337, val := Value.ref 126 }, { hash := PyData.keyHash P (Str.ofString "least_text"), key := Value.str (Str.ofString "least_text") 345, val := Value.ref 133 }, { hash := PyData.keyHash P (Str.ofString "__static_attributes__"), key := Value.str (Str.ofString "__static_attributes__") 348, val := Value.ref 134 }, { hash := PyData.keyHash P (Str.ofString "__dict__"), key := Value.str (Str.ofString "__dict__") 350, val := Value.ref 137 }, { hash := PyData.keyHash P (Str.ofString "__weakref__"), key := Value.str (Str.ofString "__weakref__") 352, val := Value.ref 138 }, { hash := PyData.keyHash P (Str.ofString "__doc__"), key := Value.str (Str.ofString "__doc__") 353, val := Value.none }] 4 }
noncomputable def hd.o_175 : Params → Obj := fun P => { cls := Value.type "type", data := Data.cls { name := Str.ofString "Decimal", bases := [Value.type "object"], mro := [Value.ref 136, Value.type "object"], ns := 135, qualname := Str.ofString "Decimal" }, slots := #[none, none, some (Value.str (Str.ofString "Decimal") 231), some (Value.str (Str.ofString "Decimal") 239), some (Value.builtin "object.__new__"), some (Value.bool true)] }
noncomputable def hd.o_176 : Params → Obj := fun P => { cls := Value.type "getset_descriptor", data := Data.fields #[Value.str (Str.ofString "__dict__") 349, Value.ref 136, Value.builtin "function.__dict__", Value.builtin "function.__dict__#set"] }
noncomputable def hd.o_177 : Params → Obj := fun P => { cls := Value.type "getset_descriptor", data := Data.fields #[Value.str (Str.ofString "__weakref__") 351, Value.ref 136, Value.builtin "ExceptionGroup.__weakref__", Value.none] }
noncomputable def hd.o_178 : Params → Obj := fun P => { cls := Value.type "super", data := Data.fields #[Value.ref 136, Value.ref 136, Value.ref 136] }
noncomputable def hd.o_179 : Params → Obj := fun P => { cls := Value.type "builtin_function_or_method", data := Data.fields #[Value.builtin "object.__init_subclass__", Value.ref 136] }
noncomputable def hd.tree_179 : Params → BT := fun P => BT.node (boot_o_0 P) (BT.node (boot_o_1 P) (BT.node (hd.o_80 P) (BT.node (boot_o_7 P) (BT.node (hd.o_52 P) (BT.node (hd.o_68 P) (BT.node (hd.o_102 P) (BT.node (hd.o_166 P) BT.nil BT.nil) BT.nil) (BT.node (hd.o_134 P) BT.nil BT.nil)) (BT.node (hd.o_86 P) (BT.node (hd.o_118 P) BT.nil BT.nil) (BT.node (hd.o_150 P) BT.nil BT.nil))) (BT.node (hd.o_60 P) (BT.node (hd.o_76 P) (BT.node (hd.o_110 P) (BT.node (hd.o_174 P) BT.nil BT.nil) BT.nil) (BT.node (hd.o_142 P) BT.nil BT.nil)) (BT.node (hd.o_94 P) (BT.node (hd.o_126 P) BT.nil BT.nil) (BT.node (hd.o_158 P) BT.nil BT.nil)))) (BT.node (hd.o_43 P) (BT.node (hd.o_56 P) (BT.node (hd.o_72 P) (BT.node (hd.o_106 P) (BT.node (hd.o_170 P) BT.nil BT.nil) BT.nil) (BT.node (hd.o_138 P) BT.nil BT.nil)) (BT.node (hd.o_90 P) (BT.node (hd.o_122 P) BT.nil BT.nil) (BT.node (hd.o_154 P) BT.nil BT.nil))) (BT.node (hd.o_64 P) (BT.node (hd.o_82 P) (BT.node (hd.o_114 P) (BT.node (hd.o_178 P) BT.nil BT.nil) BT.nil) (BT.node (hd.o_146 P) BT.nil BT.nil)) (BT.node (hd.o_98 P) (BT.node (hd.o_130 P) BT.nil BT.nil) (BT.node (hd.o_162 P) BT.nil BT.nil))))) (BT.node (boot_o_5 P) (BT.node (boot_o_9 P) (BT.node (hd.o_54 P) (BT.node (hd.o_70 P) (BT.node (hd.o_104 P) (BT.node (hd.o_168 P) BT.nil BT.nil) BT.nil) (BT.node (hd.o_136 P) BT.nil BT.nil)) (BT.node (hd.o_88 P) (BT.node (hd.o_120 P) BT.nil BT.nil) (BT.node (hd.o_152 P) BT.nil BT.nil))) (BT.node (hd.o_62 P) (BT.node (hd.o_78 P) (BT.node (hd.o_112 P) (BT.node (hd.o_176 P) BT.nil BT.nil) BT.nil) (BT.node (hd.o_144 P) BT.nil BT.nil)) (BT.node (hd.o_96 P) (BT.node (hd.o_128 P) BT.nil BT.nil) (BT.node (hd.o_160 P) BT.nil BT.nil)))) (BT.node (hd.o_45 P) (BT.node (hd.o_58 P) (BT.node (hd.o_74 P) (BT.node (hd.o_108 P) (BT.node (hd.o_172 P) BT.nil BT.nil) BT.nil) (BT.node (hd.o_140 P) BT.nil BT.nil)) (BT.node (hd.o_92 P) (BT.node (hd.o_124 P) BT.nil BT.nil) (BT.node (hd.o_156 P) BT.nil BT.nil))) (BT.node (hd.o_66 P) (BT.node (hd.o_84 P) (BT.node (hd.o_116 P) BT.nil BT.nil) (BT.node (hd.o_148 P) BT.nil BT.nil)) (BT.node (hd.o_100 P) (BT.node (hd.o_132 P) BT.nil BT.nil) (BT.node (hd.o_164 P) BT.nil BT.nil)))))) (BT.node (hd.o_49 P) (BT.node (boot_o_4 P) (BT.node (boot_o_8 P) (BT.node (hd.o_53 P) (BT.node (hd.o_69 P) (BT.node (hd.o_103 P) (BT.node (hd.o_167 P) BT.nil BT.nil) BT.nil) (BT.node (hd.o_135 P) BT.nil BT.nil)) (BT.node (hd.o_87 P) (BT.node (hd.o_119 P) BT.nil BT.nil) (BT.node (hd.o_151 P) BT.nil BT.nil))) (BT.node (hd.o_61 P) (BT.node (hd.o_77 P) (BT.node (hd.o_111 P) (BT.node (hd.o_175 P) BT.nil BT.nil) BT.nil) (BT.node (hd.o_143 P) BT.nil BT.nil)) (BT.node (hd.o_95 P) (BT.node (hd.o_127 P) BT.nil BT.nil) (BT.node (hd.o_159 P) BT.nil BT.nil)))) (BT.node (hd.o_81 P) (BT.node (hd.o_57 P) (BT.node (hd.o_73 P) (BT.node (hd.o_107 P) (BT.node (hd.o_171 P) BT.nil BT.nil) BT.nil) (BT.node (hd.o_139 P) BT.nil BT.nil)) (BT.node (hd.o_91 P) (BT.node (hd.o_123 P) BT.nil BT.nil) (BT.node (hd.o_155 P) BT.nil BT.nil))) (BT.node (hd.o_65 P) (BT.node (hd.o_83 P) (BT.node (hd.o_115 P) (BT.node (hd.o_179 P) BT.nil BT.nil) BT.nil) (BT.node (hd.o_147 P) BT.nil BT.nil)) (BT.node (hd.o_99 P) (BT.node (hd.o_131 P) BT.nil BT.nil) (BT.node (hd.o_163 P) BT.nil BT.nil))))) (BT.node (boot_o_6 P) (BT.node (boot_o_10 P) (BT.node (hd.o_55 P) (BT.node (hd.o_71 P) (BT.node (hd.o_105 P) (BT.node (hd.o_169 P) BT.nil BT.nil) BT.nil) (BT.node (hd.o_137 P) BT.nil BT.nil)) (BT.node (hd.o_89 P) (BT.node (hd.o_121 P) BT.nil BT.nil) (BT.node (hd.o_153 P) BT.nil BT.nil))) (BT.node (hd.o_63 P) (BT.node (hd.o_79 P) (BT.node (hd.o_113 P) (BT.node (hd.o_177 P) BT.nil BT.nil) BT.nil) (BT.node (hd.o_145 P) BT.nil BT.nil)) (BT.node (hd.o_97 P) (BT.node (hd.o_129 P) BT.nil BT.nil) (BT.node (hd.o_161 P) BT.nil BT.nil)))) (BT.node (hd.o_46 P) (BT.node (hd.o_59 P) (BT.node (hd.o_75 P) (BT.node (hd.o_109 P) (BT.node (hd.o_173 P) BT.nil BT.nil) BT.nil) (BT.node (hd.o_141 P) BT.nil BT.nil)) (BT.node (hd.o_93 P) (BT.node (hd.o_125 P) BT.nil BT.nil) (BT.node (hd.o_157 P) BT.nil BT.nil))) (BT.node (hd.o_67 P) (BT.node (hd.o_85 P) (BT.node (hd.o_117 P) BT.nil BT.nil) (BT.node (hd.o_149 P) BT.nil BT.nil)) (BT.node (hd.o_101 P) (BT.node (hd.o_133 P) BT.nil BT.nil) (BT.node (hd.o_165 P) BT.nil BT.nil))))))
noncomputable def hd.o_180 : Params → Obj := fun P => { cls := Value.type "dict", data := Data.dict #[{ hash := PyData.keyHash P (Str.ofString "__name__"), key := Value.str (Str.ofString "__name__") 165, val := Value.str (Str.ofString "paperhold.decimals") 229 }, { hash := PyData.keyHash P (Str.ofString "__doc__"), key := Value.str (Str.ofString "__doc__") 166, val := Value.none }, { hash := PyData.keyHash P (Str.ofString "__package__"), key := Value.str (Str.ofString "__package__") 167, val := Value.none }, { hash := PyData.keyHash P (Str.ofString "__loader__"), key := Value.str (Str.ofString "__loader__") 168, val := Value.builtin "__main__.__loader__#opaque" }, { hash := PyData.keyHash P (Str.ofString "__spec__"), key := Value.str (Str.ofString "__spec__") 169, val := Value.none }, { hash := PyData.keyHash P (Str.ofString "__annotations__"), key := Value.str (Str.ofString "__annotations__") 170, val := Value.ref 6 }, { hash := PyData.keyHash P (Str.ofString "__builtins__"), key := Value.str (Str.ofString "__builtins__") 171, val := Value.ref 4 }, { hash := PyData.keyHash P (Str.ofString "__file__"), key := Value.str (Str.ofString "__file__") 173, val := Value.str (Str.ofString "/claim/cut.py") 172 }, { hash := PyData.keyHash P (Str.ofString "__cached__"), key := Value.str (Str.ofString "__cached__") 174, val := Value.none }, { hash := PyData.keyHash P (Str.ofString "PaperError"), key := Value.str (Str.ofString "PaperError") 228, val := Value.ref 39 }, { hash := PyData.keyHash P (Str.ofString "Decimal"), key := Value.str (Str.ofString "Decimal") 355, val := Value.ref 136 }, { hash := PyData.keyHash P (Str.ofString "sign_text"), key := Value.str (Str.ofString "sign_text") 362, val := Value.ref 147 }, { hash := PyData.keyHash P (Str.ofString "sign_of"), key := Value.str (Str.ofString "sign_of") 369, val := Value.ref 154 }, { hash := PyData.keyHash P (Str.ofString "rounded_quotient"), key := Value.str (Str.ofString "rounded_quotient") 378, val := Value.ref 161 }, { hash := PyData.keyHash P (Str.ofString "decimal_of"), key := Value.str (Str.ofString "decimal_of") 385, val := Value.ref 168 }, { hash := PyData.keyHash P (Str.ofString "at_one_scale"), key := Value.str (Str.ofString "at_one_scale") 396, val := Value.ref 175 }, { hash := PyData.keyHash P (Str.ofString "tops_of"), key := Value.str (Str.ofString "tops_of") 402, val := Value.ref 180 }, { hash := PyData.keyHash P (Str.ofString "halved"), key := Value.str (Str.ofString "halved") 409, val := Value.ref 187 }, { hash := PyData.keyHash P (Str.ofString "middle_of"), key := Value.str (Str.ofString "middle_of") 417, val := Value.ref 194 }, { hash := PyData.keyHash P (Str.ofString "sum_of"), key := Value.str (Str.ofString "sum_of") 426, val := Value.ref 201 }, { hash := PyData.keyHash P (Str.ofString "same_number"), key := Value.str (Str.ofString "same_number") 434, val := Value.ref 208 }, { hash := PyData.keyHash P (Str.ofString "least"), key := Value.str (Str.ofString "least") 443, val := Value.ref 215 }, { hash := PyData.keyHash P (Str.ofString "greatest"), key := Value.str (Str.ofString "greatest") 452, val := Value.ref 222 }, { hash := PyData.keyHash P (Str.ofString "clamped"), key := Value.str (Str.ofString "clamped") 461, val := Value.ref 229 }] 24 }
noncomputable def hd.sts_180 : List Stmt := [hd.cut.c4, hd.cut.c5, hd.cut.c6, hd.cut.c7, hd.cut.c8, hd.cut.c9, hd.cut.c10, hd.cut.c11, hd.cut.c12, hd.cut.c13, hd.cut.c14, hd.cut.c15, hd.cut.c16]
noncomputable def hd.o_181 : Params → Obj := fun P => { cls := Value.none, data := Data.fields #[Value.int 2 0, Value.int 0 0, Value.ref 20, Value.int 12 0, Value.int 0 0, Value.ref 48, Value.int 66 0, Value.int 0 0, Value.ref 146, Value.int 68 0, Value.int 0 0, Value.ref 153, Value.int 72 0, Value.int 0 0, Value.ref 160, Value.int 75 0, Value.int 0 0, Value.ref 167, Value.int 81 0, Value.int 0 0, Value.ref 174, Value.int 86 0, Value.int 0 0, Value.ref 179, Value.int 91 0, Value.int 0 0, Value.ref 186, Value.int 93 0, Value.int 0 0, Value.ref 193, Value.int 95 0, Value.int 0 0, Value.ref 200, Value.int 98 0, Value.int 0 0, Value.ref 207, Value.int 100 0, Value.int 0 0, Value.ref 214, Value.int 108 0, Value.int 0 0, Value.ref 221, Value.int 116 0, Value.int 0 0, Value.ref 228] }
noncomputable def hd.o_182 : Params → Obj := fun P => { cls := Value.type "tuple", data := Data.seq #[] }
noncomputable def hd.o_183 : Params → Obj := fun P => { cls := Value.none, data := Data.fields #[] }
noncomputable def hd.o_184 : Params → Obj := fun P => { cls := Value.type "tuple", data := Data.seq #[Value.str (Str.ofString "number") 359] }
noncomputable def hd.o_185 : Params → Obj := fun P => { cls := Value.type "tuple", data := Data.seq #[] }
noncomputable def hd.o_186 : Params → Obj := fun P => { cls := Value.none, data := Data.func { name := Str.ofString "sign_text", qualname := Str.ofString "sign_text", params := hd.f4.a, body := FuncBody.stmts hd.f4.b, scope := hd.f4.s, globals := 0, closure := [], defaults := Value.none, kwdefaults := Value.none } }
noncomputable def hd.o_187 : Params → Obj := fun P => { cls := Value.type "code", data := Data.fields #[Value.str (Str.ofString "sign_text") 356, Value.str (Str.ofString "sign_text") 357, Value.str (Str.ofString "/claim/cut.py") 358, Value.int 66 0, Value.int 1 0, Value.int 0 0, Value.int 0 0, Value.int 3 0, Value.ref 141, Value.bool true, Value.int 181 0, Value.ref 142, Value.none, Value.ref 143, Value.ref 144, Value.ref 145, Value.int 360 0, Value.int 66 0, Value.str (Str.ofString "/claim/cut.py") 361] }
noncomputable def hd.o_188 : Params → Obj := fun P => { cls := Value.type "function", data := Data.func { name := Str.ofString "sign_text", qualname := Str.ofString "sign_text", params := hd.f4.a, body := FuncBody.stmts hd.f4.b, scope := hd.f4.s, globals := 3, closure := [], defaults := Value.none, kwdefaults := Value.none, pyModule := Value.str (Str.ofString "paperhold.decimals") 229, code := Value.ref 146 } }
noncomputable def hd.o_189 : Params → Obj := fun P => { cls := Value.type "tuple", data := Data.seq #[] }
noncomputable def hd.o_190 : Params → Obj := fun P => { cls := Value.none, data := Data.fields #[] }
noncomputable def hd.o_191 : Params → Obj := fun P => { cls := Value.type "tuple", data := Data.seq #[Value.str (Str.ofString "number") 366] }
noncomputable def hd.o_192 : Params → Obj := fun P => { cls := Value.type "tuple", data := Data.seq #[] }
noncomputable def hd.o_193 : Params → Obj := fun P => { cls := Value.none, data := Data.func { name := Str.ofString "sign_of", qualname := Str.ofString "sign_of", params := hd.f5.a, body := FuncBody.stmts hd.f5.b, scope := hd.f5.s, globals := 0, closure := [], defaults := Value.none, kwdefaults := Value.none } }
noncomputable def hd.o_194 : Params → Obj := fun P => { cls := Value.type "code", data := Data.fields #[Value.str (Str.ofString "sign_of") 363, Value.str (Str.ofString "sign_of") 364, Value.str (Str.ofString "/claim/cut.py") 365, Value.int 68 0, Value.int 1 0, Value.int 0 0, Value.int 0 0, Value.int 3 0, Value.ref 148, Value.bool true, Value.int 181 0, Value.ref 149, Value.none, Value.ref 150, Value.ref 151, Value.ref 152, Value.int 367 0, Value.int 68 0, Value.str (Str.ofString "/claim/cut.py") 368] }
noncomputable def hd.o_195 : Params → Obj := fun P => { cls := Value.type "function", data := Data.func { name := Str.ofString "sign_of", qualname := Str.ofString "sign_of", params := hd.f5.a, body := FuncBody.stmts hd.f5.b, scope := hd.f5.s, globals := 3, closure := [], defaults := Value.none, kwdefaults := Value.none, pyModule := Value.str (Str.ofString "paperhold.decimals") 229, code := Value.ref 153 } }
noncomputable def hd.o_196 : Params → Obj := fun P => { cls := Value.type "tuple", data := Data.seq #[] }
noncomputable def hd.o_197 : Params → Obj := fun P => { cls := Value.none, data := Data.fields #[] }
noncomputable def hd.o_198 : Params → Obj := fun P => { cls := Value.type "tuple", data := Data.seq #[Value.str (Str.ofString "top") 373, Value.str (Str.ofString "below") 374, Value.str (Str.ofString "size") 375] }
noncomputable def hd.o_199 : Params → Obj := fun P => { cls := Value.type "tuple", data := Data.seq #[] }
noncomputable def hd.o_200 : Params → Obj := fun P => { cls := Value.none, data := Data.func { name := Str.ofString "rounded_quotient", qualname := Str.ofString "rounded_quotient", params := hd.f6.a, body := FuncBody.stmts hd.f6.b, scope := hd.f6.s, globals := 0, closure := [], defaults := Value.none, kwdefaults := Value.none } }
noncomputable def hd.o_201 : Params → Obj := fun P => { cls := Value.type "code", data := Data.fields #[Value.str (Str.ofString "rounded_quotient") 370, Value.str (Str.ofString "rounded_quotient") 371, Value.str (Str.ofString "/claim/cut.py") 372, Value.int 72 0, Value.int 2 0, Value.int 0 0, Value.int 0 0, Value.int 3 0, Value.ref 155, Value.bool true, Value.int 181 0, Value.ref 156, Value.none, Value.ref 157, Value.ref 158, Value.ref 159, Value.int 376 0, Value.int 72 0, Value.str (Str.ofString "/claim/cut.py") 377] }
noncomputable def hd.o_202 : Params → Obj := fun P => { cls := Value.type "function", data := Data.func { name := Str.ofString "rounded_quotient", qualname := Str.ofString "rounded_quotient", params := hd.f6.a, body := FuncBody.stmts hd.f6.b, scope := hd.f6.s, globals := 3, closure := [], defaults := Value.none, kwdefaults := Value.none, pyModule := Value.str (Str.ofString "paperhold.decimals") 229, code := Value.ref 160 } }
noncomputable def hd.o_203 : Params → Obj := fun P => { cls := Value.type "tuple", data := Data.seq #[] }
noncomputable def hd.o_204 : Params → Obj := fun P => { cls := Value.none, data := Data.fields #[] }
noncomputable def hd.o_205 : Params → Obj := fun P => { cls := Value.type "tuple", data := Data.seq #[Value.str (Str.ofString "value") 382] }
noncomputable def hd.o_206 : Params → Obj := fun P => { cls := Value.type "tuple", data := Data.seq #[] }
noncomputable def hd.o_207 : Params → Obj := fun P => { cls := Value.none, data := Data.func { name := Str.ofString "decimal_of", qualname := Str.ofString "decimal_of", params := hd.f7.a, body := FuncBody.stmts hd.f7.b, scope := hd.f7.s, globals := 0, closure := [], defaults := Value.none, kwdefaults := Value.none } }
noncomputable def hd.o_208 : Params → Obj := fun P => { cls := Value.type "code", data := Data.fields #[Value.str (Str.ofString "decimal_of") 379, Value.str (Str.ofString "decimal_of") 380, Value.str (Str.ofString "/claim/cut.py") 381, Value.int 75 0, Value.int 1 0, Value.int 0 0, Value.int 0 0, Value.int 3 0, Value.ref 162, Value.bool true, Value.int 181 0, Value.ref 163, Value.none, Value.ref 164, Value.ref 165, Value.ref 166, Value.int 383 0, Value.int 75 0, Value.str (Str.ofString "/claim/cut.py") 384] }
noncomputable def hd.o_209 : Params → Obj := fun P => { cls := Value.type "function", data := Data.func { name := Str.ofString "decimal_of", qualname := Str.ofString "decimal_of", params := hd.f7.a, body := FuncBody.stmts hd.f7.b, scope := hd.f7.s, globals := 3, closure := [], defaults := Value.none, kwdefaults := Value.none, pyModule := Value.str (Str.ofString "paperhold.decimals") 229, code := Value.ref 167 } }
noncomputable def hd.o_210 : Params → Obj := fun P => { cls := Value.type "tuple", data := Data.seq #[] }
noncomputable def hd.o_211 : Params → Obj := fun P => { cls := Value.none, data := Data.fields #[] }
noncomputable def hd.o_212 : Params → Obj := fun P => { cls := Value.type "tuple", data := Data.seq #[Value.str (Str.ofString "one") 389, Value.str (Str.ofString "other") 390, Value.str (Str.ofString "first") 391, Value.str (Str.ofString "second") 392, Value.str (Str.ofString "places") 393] }
noncomputable def hd.o_213 : Params → Obj := fun P => { cls := Value.type "tuple", data := Data.seq #[] }
noncomputable def hd.o_214 : Params → Obj := fun P => { cls := Value.none, data := Data.func { name := Str.ofString "at_one_scale", qualname := Str.ofString "at_one_scale", params := hd.f8.a, body := FuncBody.stmts hd.f8.b, scope := hd.f8.s, globals := 0, closure := [], defaults := Value.none, kwdefaults := Value.none } }
noncomputable def hd.o_215 : Params → Obj := fun P => { cls := Value.type "code", data := Data.fields #[Value.str (Str.ofString "at_one_scale") 386, Value.str (Str.ofString "at_one_scale") 387, Value.str (Str.ofString "/claim/cut.py") 388, Value.int 81 0, Value.int 2 0, Value.int 0 0, Value.int 0 0, Value.int 3 0, Value.ref 169, Value.bool true, Value.int 181 0, Value.ref 170, Value.none, Value.ref 171, Value.ref 172, Value.ref 173, Value.int 394 0, Value.int 81 0, Value.str (Str.ofString "/claim/cut.py") 395] }
noncomputable def hd.o_216 : Params → Obj := fun P => { cls := Value.type "function", data := Data.func { name := Str.ofString "at_one_scale", qualname := Str.ofString "at_one_scale", params := hd.f8.a, body := FuncBody.stmts hd.f8.b, scope := hd.f8.s, globals := 3, closure := [], defaults := Value.none, kwdefaults := Value.none, pyModule := Value.str (Str.ofString "paperhold.decimals") 229, code := Value.ref 174 } }
noncomputable def hd.o_217 : Params → Obj := fun P => { cls := Value.type "tuple", data := Data.seq #[] }
noncomputable def hd.o_218 : Params → Obj := fun P => { cls := Value.none, data := Data.fields #[] }
noncomputable def hd.o_219 : Params → Obj := fun P => { cls := Value.none, data := Data.func { name := Str.ofString "tops_of", qualname := Str.ofString "tops_of", params := hd.f9.a, body := FuncBody.stmts hd.f9.b, scope := hd.f9.s, globals := 0, closure := [], defaults := Value.none, kwdefaults := Value.none } }
noncomputable def hd.o_220 : Params → Obj := fun P => { cls := Value.type "code", data := Data.fields #[Value.str (Str.ofString "tops_of") 397, Value.str (Str.ofString "tops_of") 398, Value.str (Str.ofString "/claim/cut.py") 399, Value.int 86 0, Value.int 1 0, Value.int 0 0, Value.int 0 0, Value.int 3 0, Value.ref 176, Value.bool true, Value.int 181 0, Value.ref 177, Value.none, Value.none, Value.none, Value.ref 178, Value.int 400 0, Value.int 86 0, Value.str (Str.ofString "/claim/cut.py") 401] }
noncomputable def hd.o_221 : Params → Obj := fun P => { cls := Value.type "function", data := Data.func { name := Str.ofString "tops_of", qualname := Str.ofString "tops_of", params := hd.f9.a, body := FuncBody.stmts hd.f9.b, scope := hd.f9.s, globals := 3, closure := [], defaults := Value.none, kwdefaults := Value.none, pyModule := Value.str (Str.ofString "paperhold.decimals") 229, code := Value.ref 179 } }
noncomputable def hd.o_222 : Params → Obj := fun P => { cls := Value.type "tuple", data := Data.seq #[] }
noncomputable def hd.o_223 : Params → Obj := fun P => { cls := Value.none, data := Data.fields #[] }
noncomputable def hd.o_224 : Params → Obj := fun P => { cls := Value.type "tuple", data := Data.seq #[Value.str (Str.ofString "value") 406] }
noncomputable def hd.o_225 : Params → Obj := fun P => { cls := Value.type "tuple", data := Data.seq #[] }
noncomputable def hd.o_226 : Params → Obj := fun P => { cls := Value.none, data := Data.func { name := Str.ofString "halved", qualname := Str.ofString "halved", params := hd.f10.a, body := FuncBody.stmts hd.f10.b, scope := hd.f10.s, globals := 0, closure := [], defaults := Value.none, kwdefaults := Value.none } }
noncomputable def hd.o_227 : Params → Obj := fun P => { cls := Value.type "code", data := Data.fields #[Value.str (Str.ofString "halved") 403, Value.str (Str.ofString "halved") 404, Value.str (Str.ofString "/claim/cut.py") 405, Value.int 91 0, Value.int 1 0, Value.int 0 0, Value.int 0 0, Value.int 3 0, Value.ref 181, Value.bool true, Value.int 181 0, Value.ref 182, Value.none, Value.ref 183, Value.ref 184, Value.ref 185, Value.int 407 0, Value.int 91 0, Value.str (Str.ofString "/claim/cut.py") 408] }
noncomputable def hd.o_228 : Params → Obj := fun P => { cls := Value.type "function", data := Data.func { name := Str.ofString "halved", qualname := Str.ofString "halved", params := hd.f10.a, body := FuncBody.stmts hd.f10.b, scope := hd.f10.s, globals := 3, closure := [], defaults := Value.none, kwdefaults := Value.none, pyModule := Value.str (Str.ofString "paperhold.decimals") 229, code := Value.ref 186 } }
noncomputable def hd.o_229 : Params → Obj := fun P => { cls := Value.type "tuple", data := Data.seq #[] }
noncomputable def hd.o_230 : Params → Obj := fun P => { cls := Value.none, data := Data.fields #[] }
noncomputable def hd.o_231 : Params → Obj := fun P => { cls := Value.type "tuple", data := Data.seq #[Value.str (Str.ofString "one") 413, Value.str (Str.ofString "other") 414] }
noncomputable def hd.o_232 : Params → Obj := fun P => { cls := Value.type "tuple", data := Data.seq #[] }
noncomputable def hd.o_233 : Params → Obj := fun P => { cls := Value.none, data := Data.func { name := Str.ofString "middle_of", qualname := Str.ofString "middle_of", params := hd.f11.a, body := FuncBody.stmts hd.f11.b, scope := hd.f11.s, globals := 0, closure := [], defaults := Value.none, kwdefaults := Value.none } }
noncomputable def hd.o_234 : Params → Obj := fun P => { cls := Value.type "code", data := Data.fields #[Value.str (Str.ofString "middle_of") 410, Value.str (Str.ofString "middle_of") 411, Value.str (Str.ofString "/claim/cut.py") 412, Value.int 93 0, Value.int 2 0, Value.int 0 0, Value.int 0 0, Value.int 3 0, Value.ref 188, Value.bool true, Value.int 181 0, Value.ref 189, Value.none, Value.ref 190, Value.ref 191, Value.ref 192, Value.int 415 0, Value.int 93 0, Value.str (Str.ofString "/claim/cut.py") 416] }
noncomputable def hd.o_235 : Params → Obj := fun P => { cls := Value.type "function", data := Data.func { name := Str.ofString "middle_of", qualname := Str.ofString "middle_of", params := hd.f11.a, body := FuncBody.stmts hd.f11.b, scope := hd.f11.s, globals := 3, closure := [], defaults := Value.none, kwdefaults := Value.none, pyModule := Value.str (Str.ofString "paperhold.decimals") 229, code := Value.ref 193 } }
noncomputable def hd.o_236 : Params → Obj := fun P => { cls := Value.type "tuple", data := Data.seq #[] }
noncomputable def hd.o_237 : Params → Obj := fun P => { cls := Value.none, data := Data.fields #[] }
noncomputable def hd.o_238 : Params → Obj := fun P => { cls := Value.type "tuple", data := Data.seq #[Value.str (Str.ofString "values") 421, Value.str (Str.ofString "tops") 422, Value.str (Str.ofString "places") 423] }
noncomputable def hd.o_239 : Params → Obj := fun P => { cls := Value.type "tuple", data := Data.seq #[] }
noncomputable def hd.o_240 : Params → Obj := fun P => { cls := Value.none, data := Data.func { name := Str.ofString "sum_of", qualname := Str.ofString "sum_of", params := hd.f12.a, body := FuncBody.stmts hd.f12.b, scope := hd.f12.s, globals := 0, closure := [], defaults := Value.none, kwdefaults := Value.none } }
noncomputable def hd.o_241 : Params → Obj := fun P => { cls := Value.type "code", data := Data.fields #[Value.str (Str.ofString "sum_of") 418, Value.str (Str.ofString "sum_of") 419, Value.str (Str.ofString "/claim/cut.py") 420, Value.int 95 0, Value.int 1 0, Value.int 0 0, Value.int 0 0, Value.int 3 0, Value.ref 195, Value.bool true, Value.int 181 0, Value.ref 196, Value.none, Value.ref 197, Value.ref 198, Value.ref 199, Value.int 424 0, Value.int 95 0, Value.str (Str.ofString "/claim/cut.py") 425] }
noncomputable def hd.o_242 : Params → Obj := fun P => { cls := Value.type "function", data := Data.func { name := Str.ofString "sum_of", qualname := Str.ofString "sum_of", params := hd.f12.a, body := FuncBody.stmts hd.f12.b, scope := hd.f12.s, globals := 3, closure := [], defaults := Value.none, kwdefaults := Value.none, pyModule := Value.str (Str.ofString "paperhold.decimals") 229, code := Value.ref 200 } }
noncomputable def hd.o_243 : Params → Obj := fun P => { cls := Value.type "tuple", data := Data.seq #[] }
noncomputable def hd.o_244 : Params → Obj := fun P => { cls := Value.none, data := Data.fields #[] }
noncomputable def hd.o_245 : Params → Obj := fun P => { cls := Value.type "tuple", data := Data.seq #[Value.str (Str.ofString "one") 430, Value.str (Str.ofString "other") 431] }
noncomputable def hd.o_246 : Params → Obj := fun P => { cls := Value.type "tuple", data := Data.seq #[] }
noncomputable def hd.o_247 : Params → Obj := fun P => { cls := Value.none, data := Data.func { name := Str.ofString "same_number", qualname := Str.ofString "same_number", params := hd.f13.a, body := FuncBody.stmts hd.f13.b, scope := hd.f13.s, globals := 0, closure := [], defaults := Value.none, kwdefaults := Value.none } }
noncomputable def hd.o_248 : Params → Obj := fun P => { cls := Value.type "code", data := Data.fields #[Value.str (Str.ofString "same_number") 427, Value.str (Str.ofString "same_number") 428, Value.str (Str.ofString "/claim/cut.py") 429, Value.int 98 0, Value.int 2 0, Value.int 0 0, Value.int 0 0, Value.int 3 0, Value.ref 202, Value.bool true, Value.int 181 0, Value.ref 203, Value.none, Value.ref 204, Value.ref 205, Value.ref 206, Value.int 432 0, Value.int 98 0, Value.str (Str.ofString "/claim/cut.py") 433] }
noncomputable def hd.o_249 : Params → Obj := fun P => { cls := Value.type "function", data := Data.func { name := Str.ofString "same_number", qualname := Str.ofString "same_number", params := hd.f13.a, body := FuncBody.stmts hd.f13.b, scope := hd.f13.s, globals := 3, closure := [], defaults := Value.none, kwdefaults := Value.none, pyModule := Value.str (Str.ofString "paperhold.decimals") 229, code := Value.ref 207 } }
noncomputable def hd.o_250 : Params → Obj := fun P => { cls := Value.type "tuple", data := Data.seq #[] }
noncomputable def hd.o_251 : Params → Obj := fun P => { cls := Value.none, data := Data.fields #[] }
noncomputable def hd.o_252 : Params → Obj := fun P => { cls := Value.type "tuple", data := Data.seq #[Value.str (Str.ofString "values") 438, Value.str (Str.ofString "best") 439, Value.str (Str.ofString "value") 440] }
noncomputable def hd.o_253 : Params → Obj := fun P => { cls := Value.type "tuple", data := Data.seq #[] }
noncomputable def hd.o_254 : Params → Obj := fun P => { cls := Value.none, data := Data.func { name := Str.ofString "least", qualname := Str.ofString "least", params := hd.f14.a, body := FuncBody.stmts hd.f14.b, scope := hd.f14.s, globals := 0, closure := [], defaults := Value.none, kwdefaults := Value.none } }
noncomputable def hd.o_255 : Params → Obj := fun P => { cls := Value.type "code", data := Data.fields #[Value.str (Str.ofString "least") 435, Value.str (Str.ofString "least") 436, Value.str (Str.ofString "/claim/cut.py") 437, Value.int 100 0, Value.int 1 0, Value.int 0 0, Value.int 0 0, Value.int 3 0, Value.ref 209, Value.bool true, Value.int 181 0, Value.ref 210, Value.none, Value.ref 211, Value.ref 212, Value.ref 213, Value.int 441 0, Value.int 100 0, Value.str (Str.ofString "/claim/cut.py") 442] }
noncomputable def hd.o_256 : Params → Obj := fun P => { cls := Value.type "function", data := Data.func { name := Str.ofString "least", qualname := Str.ofString "least", params := hd.f14.a, body := FuncBody.stmts hd.f14.b, scope := hd.f14.s, globals := 3, closure := [], defaults := Value.none, kwdefaults := Value.none, pyModule := Value.str (Str.ofString "paperhold.decimals") 229, code := Value.ref 214 } }
noncomputable def hd.o_257 : Params → Obj := fun P => { cls := Value.type "tuple", data := Data.seq #[] }
noncomputable def hd.o_258 : Params → Obj := fun P => { cls := Value.none, data := Data.fields #[] }
noncomputable def hd.o_259 : Params → Obj := fun P => { cls := Value.type "tuple", data := Data.seq #[Value.str (Str.ofString "values") 447, Value.str (Str.ofString "best") 448, Value.str (Str.ofString "value") 449] }
noncomputable def hd.o_260 : Params → Obj := fun P => { cls := Value.type "tuple", data := Data.seq #[] }
noncomputable def hd.o_261 : Params → Obj := fun P => { cls := Value.none, data := Data.func { name := Str.ofString "greatest", qualname := Str.ofString "greatest", params := hd.f15.a, body := FuncBody.stmts hd.f15.b, scope := hd.f15.s, globals := 0, closure := [], defaults := Value.none, kwdefaults := Value.none } }
noncomputable def hd.o_262 : Params → Obj := fun P => { cls := Value.type "code", data := Data.fields #[Value.str (Str.ofString "greatest") 444, Value.str (Str.ofString "greatest") 445, Value.str (Str.ofString "/claim/cut.py") 446, Value.int 108 0, Value.int 1 0, Value.int 0 0, Value.int 0 0, Value.int 3 0, Value.ref 216, Value.bool true, Value.int 181 0, Value.ref 217, Value.none, Value.ref 218, Value.ref 219, Value.ref 220, Value.int 450 0, Value.int 108 0, Value.str (Str.ofString "/claim/cut.py") 451] }
noncomputable def hd.o_263 : Params → Obj := fun P => { cls := Value.type "function", data := Data.func { name := Str.ofString "greatest", qualname := Str.ofString "greatest", params := hd.f15.a, body := FuncBody.stmts hd.f15.b, scope := hd.f15.s, globals := 3, closure := [], defaults := Value.none, kwdefaults := Value.none, pyModule := Value.str (Str.ofString "paperhold.decimals") 229, code := Value.ref 221 } }
noncomputable def hd.o_264 : Params → Obj := fun P => { cls := Value.type "tuple", data := Data.seq #[] }
noncomputable def hd.o_265 : Params → Obj := fun P => { cls := Value.none, data := Data.fields #[] }
noncomputable def hd.o_266 : Params → Obj := fun P => { cls := Value.type "tuple", data := Data.seq #[Value.str (Str.ofString "value") 456, Value.str (Str.ofString "low") 457, Value.str (Str.ofString "high") 458] }
noncomputable def hd.o_267 : Params → Obj := fun P => { cls := Value.type "tuple", data := Data.seq #[] }
noncomputable def hd.o_268 : Params → Obj := fun P => { cls := Value.none, data := Data.func { name := Str.ofString "clamped", qualname := Str.ofString "clamped", params := hd.f16.a, body := FuncBody.stmts hd.f16.b, scope := hd.f16.s, globals := 0, closure := [], defaults := Value.none, kwdefaults := Value.none } }
noncomputable def hd.o_269 : Params → Obj := fun P => { cls := Value.type "code", data := Data.fields #[Value.str (Str.ofString "clamped") 453, Value.str (Str.ofString "clamped") 454, Value.str (Str.ofString "/claim/cut.py") 455, Value.int 116 0, Value.int 3 0, Value.int 0 0, Value.int 0 0, Value.int 3 0, Value.ref 223, Value.bool true, Value.int 181 0, Value.ref 224, Value.none, Value.ref 225, Value.ref 226, Value.ref 227, Value.int 459 0, Value.int 116 0, Value.str (Str.ofString "/claim/cut.py") 460] }
noncomputable def hd.o_270 : Params → Obj := fun P => { cls := Value.type "function", data := Data.func { name := Str.ofString "clamped", qualname := Str.ofString "clamped", params := hd.f16.a, body := FuncBody.stmts hd.f16.b, scope := hd.f16.s, globals := 3, closure := [], defaults := Value.none, kwdefaults := Value.none, pyModule := Value.str (Str.ofString "paperhold.decimals") 229, code := Value.ref 228 } }
noncomputable def hd.tree_270 : Params → BT := fun P => BT.node (boot_o_0 P) (BT.node (boot_o_1 P) (BT.node (hd.o_180 P) (BT.node (boot_o_7 P) (BT.node (hd.o_52 P) (BT.node (hd.o_68 P) (BT.node (hd.o_102 P) (BT.node (hd.o_166 P) BT.nil BT.nil) (BT.node (hd.o_232 P) BT.nil BT.nil)) (BT.node (hd.o_134 P) (BT.node (hd.o_200 P) BT.nil BT.nil) (BT.node (hd.o_264 P) BT.nil BT.nil))) (BT.node (hd.o_86 P) (BT.node (hd.o_118 P) (BT.node (hd.o_184 P) BT.nil BT.nil) (BT.node (hd.o_248 P) BT.nil BT.nil)) (BT.node (hd.o_150 P) (BT.node (hd.o_216 P) BT.nil BT.nil) BT.nil))) (BT.node (hd.o_60 P) (BT.node (hd.o_76 P) (BT.node (hd.o_110 P) (BT.node (hd.o_174 P) BT.nil BT.nil) (BT.node (hd.o_240 P) BT.nil BT.nil)) (BT.node (hd.o_142 P) (BT.node (hd.o_208 P) BT.nil BT.nil) BT.nil)) (BT.node (hd.o_94 P) (BT.node (hd.o_126 P) (BT.node (hd.o_192 P) BT.nil BT.nil) (BT.node (hd.o_256 P) BT.nil BT.nil)) (BT.node (hd.o_158 P) (BT.node (hd.o_224 P) BT.nil BT.nil) BT.nil)))) (BT.node (hd.o_43 P) (BT.node (hd.o_56 P) (BT.node (hd.o_72 P) (BT.node (hd.o_106 P) (BT.node (hd.o_170 P) BT.nil BT.nil) (BT.node (hd.o_236 P) BT.nil BT.nil)) (BT.node (hd.o_138 P) (BT.node (hd.o_204 P) BT.nil BT.nil) (BT.node (hd.o_268 P) BT.nil BT.nil))) (BT.node (hd.o_90 P) (BT.node (hd.o_122 P) (BT.node (hd.o_188 P) BT.nil BT.nil) (BT.node (hd.o_252 P) BT.nil BT.nil)) (BT.node (hd.o_154 P) (BT.node (hd.o_220 P) BT.nil BT.nil) BT.nil))) (BT.node (hd.o_64 P) (BT.node (hd.o_82 P) (BT.node (hd.o_114 P) (BT.node (hd.o_178 P) BT.nil BT.nil) (BT.node (hd.o_244 P) BT.nil BT.nil)) (BT.node (hd.o_146 P) (BT.node (hd.o_212 P) BT.nil BT.nil) BT.nil)) (BT.node (hd.o_98 P) (BT.node (hd.o_130 P) (BT.node (hd.o_196 P) BT.nil BT.nil) (BT.node (hd.o_260 P) BT.nil BT.nil)) (BT.node (hd.o_162 P) (BT.node (hd.o_228 P) BT.nil BT.nil) BT.nil))))) (BT.node (boot_o_5 P) (BT.node (boot_o_9 P) (BT.node (hd.o_54 P) (BT.node (hd.o_70 P) (BT.node (hd.o_104 P) (BT.node (hd.o_168 P) BT.nil BT.nil) (BT.node (hd.o_234 P) BT.nil BT.nil)) (BT.node (hd.o_136 P) (BT.node (hd.o_202 P) BT.nil BT.nil) (BT.node (hd.o_266 P) BT.nil BT.nil))) (BT.node (hd.o_88 P) (BT.node (hd.o_120 P) (BT.node (hd.o_186 P) BT.nil BT.nil) (BT.node (hd.o_250 P) BT.nil BT.nil)) (BT.node (hd.o_152 P) (BT.node (hd.o_218 P) BT.nil BT.nil) BT.nil))) (BT.node (hd.o_62 P) (BT.node (hd.o_78 P) (BT.node (hd.o_112 P) (BT.node (hd.o_176 P) BT.nil BT.nil) (BT.node (hd.o_242 P) BT.nil BT.nil)) (BT.node (hd.o_144 P) (BT.node (hd.o_210 P) BT.nil BT.nil) BT.nil)) (BT.node (hd.o_96 P) (BT.node (hd.o_128 P) (BT.node (hd.o_194 P) BT.nil BT.nil) (BT.node (hd.o_258 P) BT.nil BT.nil)) (BT.node (hd.o_160 P) (BT.node (hd.o_226 P) BT.nil BT.nil) BT.nil)))) (BT.node (hd.o_45 P) (BT.node (hd.o_58 P) (BT.node (hd.o_74 P) (BT.node (hd.o_108 P) (BT.node (hd.o_172 P) BT.nil BT.nil) (BT.node (hd.o_238 P) BT.nil BT.nil)) (BT.node (hd.o_140 P) (BT.node (hd.o_206 P) BT.nil BT.nil) (BT.node (hd.o_270 P) BT.nil BT.nil))) (BT.node (hd.o_92 P) (BT.node (hd.o_124 P) (BT.node (hd.o_190 P) BT.nil BT.nil) (BT.node (hd.o_254 P) BT.nil BT.nil)) (BT.node (hd.o_156 P) (BT.node (hd.o_222 P) BT.nil BT.nil) BT.nil))) (BT.node (hd.o_66 P) (BT.node (hd.o_84 P) (BT.node (hd.o_116 P) (BT.node (hd.o_182 P) BT.nil BT.nil) (BT.node (hd.o_246 P) BT.nil BT.nil)) (BT.node (hd.o_148 P) (BT.node (hd.o_214 P) BT.nil BT.nil) BT.nil)) (BT.node (hd.o_100 P) (BT.node (hd.o_132 P) (BT.node (hd.o_198 P) BT.nil BT.nil) (BT.node (hd.o_262 P) BT.nil BT.nil)) (BT.node (hd.o_164 P) (BT.node (hd.o_230 P) BT.nil BT.nil) BT.nil)))))) (BT.node (hd.o_49 P) (BT.node (boot_o_4 P) (BT.node (boot_o_8 P) (BT.node (hd.o_53 P) (BT.node (hd.o_69 P) (BT.node (hd.o_103 P) (BT.node (hd.o_167 P) BT.nil BT.nil) (BT.node (hd.o_233 P) BT.nil BT.nil)) (BT.node (hd.o_135 P) (BT.node (hd.o_201 P) BT.nil BT.nil) (BT.node (hd.o_265 P) BT.nil BT.nil))) (BT.node (hd.o_87 P) (BT.node (hd.o_119 P) (BT.node (hd.o_185 P) BT.nil BT.nil) (BT.node (hd.o_249 P) BT.nil BT.nil)) (BT.node (hd.o_151 P) (BT.node (hd.o_217 P) BT.nil BT.nil) BT.nil))) (BT.node (hd.o_61 P) (BT.node (hd.o_77 P) (BT.node (hd.o_111 P) (BT.node (hd.o_175 P) BT.nil BT.nil) (BT.node (hd.o_241 P) BT.nil BT.nil)) (BT.node (hd.o_143 P) (BT.node (hd.o_209 P) BT.nil BT.nil) BT.nil)) (BT.node (hd.o_95 P) (BT.node (hd.o_127 P) (BT.node (hd.o_193 P) BT.nil BT.nil) (BT.node (hd.o_257 P) BT.nil BT.nil)) (BT.node (hd.o_159 P) (BT.node (hd.o_225 P) BT.nil BT.nil) BT.nil)))) (BT.node (hd.o_181 P) (BT.node (hd.o_57 P) (BT.node (hd.o_73 P) (BT.node (hd.o_107 P) (BT.node (hd.o_171 P) BT.nil BT.nil) (BT.node (hd.o_237 P) BT.nil BT.nil)) (BT.node (hd.o_139 P) (BT.node (hd.o_205 P) BT.nil BT.nil) (BT.node (hd.o_269 P) BT.nil BT.nil))) (BT.node (hd.o_91 P) (BT.node (hd.o_123 P) (BT.node (hd.o_189 P) BT.nil BT.nil) (BT.node (hd.o_253 P) BT.nil BT.nil)) (BT.node (hd.o_155 P) (BT.node (hd.o_221 P) BT.nil BT.nil) BT.nil))) (BT.node (hd.o_65 P) (BT.node (hd.o_83 P) (BT.node (hd.o_115 P) (BT.node (hd.o_179 P) BT.nil BT.nil) (BT.node (hd.o_245 P) BT.nil BT.nil)) (BT.node (hd.o_147 P) (BT.node (hd.o_213 P) BT.nil BT.nil) BT.nil)) (BT.node (hd.o_99 P) (BT.node (hd.o_131 P) (BT.node (hd.o_197 P) BT.nil BT.nil) (BT.node (hd.o_261 P) BT.nil BT.nil)) (BT.node (hd.o_163 P) (BT.node (hd.o_229 P) BT.nil BT.nil) BT.nil))))) (BT.node (boot_o_6 P) (BT.node (boot_o_10 P) (BT.node (hd.o_55 P) (BT.node (hd.o_71 P) (BT.node (hd.o_105 P) (BT.node (hd.o_169 P) BT.nil BT.nil) (BT.node (hd.o_235 P) BT.nil BT.nil)) (BT.node (hd.o_137 P) (BT.node (hd.o_203 P) BT.nil BT.nil) (BT.node (hd.o_267 P) BT.nil BT.nil))) (BT.node (hd.o_89 P) (BT.node (hd.o_121 P) (BT.node (hd.o_187 P) BT.nil BT.nil) (BT.node (hd.o_251 P) BT.nil BT.nil)) (BT.node (hd.o_153 P) (BT.node (hd.o_219 P) BT.nil BT.nil) BT.nil))) (BT.node (hd.o_63 P) (BT.node (hd.o_79 P) (BT.node (hd.o_113 P) (BT.node (hd.o_177 P) BT.nil BT.nil) (BT.node (hd.o_243 P) BT.nil BT.nil)) (BT.node (hd.o_145 P) (BT.node (hd.o_211 P) BT.nil BT.nil) BT.nil)) (BT.node (hd.o_97 P) (BT.node (hd.o_129 P) (BT.node (hd.o_195 P) BT.nil BT.nil) (BT.node (hd.o_259 P) BT.nil BT.nil)) (BT.node (hd.o_161 P) (BT.node (hd.o_227 P) BT.nil BT.nil) BT.nil)))) (BT.node (hd.o_46 P) (BT.node (hd.o_59 P) (BT.node (hd.o_75 P) (BT.node (hd.o_109 P) (BT.node (hd.o_173 P) BT.nil BT.nil) (BT.node (hd.o_239 P) BT.nil BT.nil)) (BT.node (hd.o_141 P) (BT.node (hd.o_207 P) BT.nil BT.nil) BT.nil)) (BT.node (hd.o_93 P) (BT.node (hd.o_125 P) (BT.node (hd.o_191 P) BT.nil BT.nil) (BT.node (hd.o_255 P) BT.nil BT.nil)) (BT.node (hd.o_157 P) (BT.node (hd.o_223 P) BT.nil BT.nil) BT.nil))) (BT.node (hd.o_67 P) (BT.node (hd.o_85 P) (BT.node (hd.o_117 P) (BT.node (hd.o_183 P) BT.nil BT.nil) (BT.node (hd.o_247 P) BT.nil BT.nil)) (BT.node (hd.o_149 P) (BT.node (hd.o_215 P) BT.nil BT.nil) BT.nil)) (BT.node (hd.o_101 P) (BT.node (hd.o_133 P) (BT.node (hd.o_199 P) BT.nil BT.nil) (BT.node (hd.o_263 P) BT.nil BT.nil)) (BT.node (hd.o_165 P) (BT.node (hd.o_231 P) BT.nil BT.nil) BT.nil))))))
noncomputable def hd.o_271 : Params → Obj := fun P => { cls := Value.type "dict", data := Data.dict #[{ hash := PyData.keyHash P (Str.ofString "__name__"), key := Value.str (Str.ofString "__name__") 165, val := Value.str (Str.ofString "law_nn0199_01") 477 }, { hash := PyData.keyHash P (Str.ofString "__doc__"), key := Value.str (Str.ofString "__doc__") 166, val := Value.none }, { hash := PyData.keyHash P (Str.ofString "__package__"), key := Value.str (Str.ofString "__package__") 167, val := Value.none }, { hash := PyData.keyHash P (Str.ofString "__loader__"), key := Value.str (Str.ofString "__loader__") 168, val := Value.builtin "__main__.__loader__#opaque" }, { hash := PyData.keyHash P (Str.ofString "__spec__"), key := Value.str (Str.ofString "__spec__") 169, val := Value.none }, { hash := PyData.keyHash P (Str.ofString "__annotations__"), key := Value.str (Str.ofString "__annotations__") 170, val := Value.ref 6 }, { hash := PyData.keyHash P (Str.ofString "__builtins__"), key := Value.str (Str.ofString "__builtins__") 171, val := Value.ref 4 }, { hash := PyData.keyHash P (Str.ofString "__file__"), key := Value.str (Str.ofString "__file__") 173, val := Value.str (Str.ofString "/claim/cut.py") 172 }, { hash := PyData.keyHash P (Str.ofString "__cached__"), key := Value.str (Str.ofString "__cached__") 174, val := Value.none }, { hash := PyData.keyHash P (Str.ofString "PaperError"), key := Value.str (Str.ofString "PaperError") 228, val := Value.ref 39 }, { hash := PyData.keyHash P (Str.ofString "Decimal"), key := Value.str (Str.ofString "Decimal") 355, val := Value.ref 136 }, { hash := PyData.keyHash P (Str.ofString "sign_text"), key := Value.str (Str.ofString "sign_text") 362, val := Value.ref 147 }, { hash := PyData.keyHash P (Str.ofString "sign_of"), key := Value.str (Str.ofString "sign_of") 369, val := Value.ref 154 }, { hash := PyData.keyHash P (Str.ofString "rounded_quotient"), key := Value.str (Str.ofString "rounded_quotient") 378, val := Value.ref 161 }, { hash := PyData.keyHash P (Str.ofString "decimal_of"), key := Value.str (Str.ofString "decimal_of") 385, val := Value.ref 168 }, { hash := PyData.keyHash P (Str.ofString "at_one_scale"), key := Value.str (Str.ofString "at_one_scale") 396, val := Value.ref 175 }, { hash := PyData.keyHash P (Str.ofString "tops_of"), key := Value.str (Str.ofString "tops_of") 402, val := Value.ref 180 }, { hash := PyData.keyHash P (Str.ofString "halved"), key := Value.str (Str.ofString "halved") 409, val := Value.ref 187 }, { hash := PyData.keyHash P (Str.ofString "middle_of"), key := Value.str (Str.ofString "middle_of") 417, val := Value.ref 194 }, { hash := PyData.keyHash P (Str.ofString "sum_of"), key := Value.str (Str.ofString "sum_of") 426, val := Value.ref 201 }, { hash := PyData.keyHash P (Str.ofString "same_number"), key := Value.str (Str.ofString "same_number") 434, val := Value.ref 208 }, { hash := PyData.keyHash P (Str.ofString "least"), key := Value.str (Str.ofString "least") 443, val := Value.ref 215 }, { hash := PyData.keyHash P (Str.ofString "greatest"), key := Value.str (Str.ofString "greatest") 452, val := Value.ref 222 }, { hash := PyData.keyHash P (Str.ofString "clamped"), key := Value.str (Str.ofString "clamped") 461, val := Value.ref 229 }, { hash := PyData.keyHash P (Str.ofString "ceiling"), key := Value.str (Str.ofString "ceiling") 468, val := Value.ref 236 }, { hash := PyData.keyHash P (Str.ofString "absolute"), key := Value.str (Str.ofString "absolute") 476, val := Value.ref 243 }, { hash := PyData.keyHash P (Str.ofString "_law_scale"), key := Value.str (Str.ofString "_law_scale") 480, val := Value.int 40 479 }, { hash := PyData.keyHash P (Str.ofString "_law_pen"), key := Value.str (Str.ofString "_law_pen") 486, val := Value.ref 248 }, { hash := PyData.keyHash P (Str.ofString "_law_draw"), key := Value.str (Str.ofString "_law_draw") 499, val := Value.ref 255 }, { hash := PyData.keyHash P (Str.ofString "_law_pair"), key := Value.str (Str.ofString "_law_pair") 508, val := Value.ref 262 }, { hash := PyData.keyHash P (Str.ofString "_law_told"), key := Value.str (Str.ofString "_law_told") 519, val := Value.ref 269 }, { hash := PyData.keyHash P (Str.ofString "_law_text"), key := Value.str (Str.ofString "_law_text") 531, val := Value.ref 276 }, { hash := PyData.keyHash P (Str.ofString "_law_rounded"), key := Value.str (Str.ofString "_law_rounded") 542, val := Value.ref 283 }, { hash := PyData.keyHash P (Str.ofString "_law_refused"), key := Value.str (Str.ofString "_law_refused") 551, val := Value.ref 290 }, { hash := PyData.keyHash P (Str.ofString "_law_one_told"), key := Value.str (Str.ofString "_law_one_told") 565, val := Value.ref 297 }, { hash := PyData.keyHash P (Str.ofString "_law_two_told"), key := Value.str (Str.ofString "_law_two_told") 577, val := Value.ref 304 }, { hash := PyData.keyHash P (Str.ofString "_law_some_told"), key := Value.str (Str.ofString "_law_some_told") 583, val := Value.ref 309 }] 37 }
noncomputable def hd.sts_271 : List Stmt := [hd.cut.c17, hd.cut.c18, hd.cut.c19, hd.cut.c20, hd.cut.c21, hd.cut.c22, hd.cut.c23, hd.cut.c24, hd.cut.c25, hd.cut.c26, hd.cut.c27, hd.cut.c28, hd.cut.c29, hd.cut.c30]
noncomputable def hd.o_272 : Params → Obj := fun P => { cls := Value.none, data := Data.fields #[Value.int 2 0, Value.int 0 0, Value.ref 20, Value.int 12 0, Value.int 0 0, Value.ref 48, Value.int 66 0, Value.int 0 0, Value.ref 146, Value.int 68 0, Value.int 0 0, Value.ref 153, Value.int 72 0, Value.int 0 0, Value.ref 160, Value.int 75 0, Value.int 0 0, Value.ref 167, Value.int 81 0, Value.int 0 0, Value.ref 174, Value.int 86 0, Value.int 0 0, Value.ref 179, Value.int 91 0, Value.int 0 0, Value.ref 186, Value.int 93 0, Value.int 0 0, Value.ref 193, Value.int 95 0, Value.int 0 0, Value.ref 200, Value.int 98 0, Value.int 0 0, Value.ref 207, Value.int 100 0, Value.int 0 0, Value.ref 214, Value.int 108 0, Value.int 0 0, Value.ref 221, Value.int 116 0, Value.int 0 0, Value.ref 228, Value.int 120 0, Value.int 0 0, Value.ref 235, Value.int 122 0, Value.int 0 0, Value.ref 242, Value.int 127 0, Value.int 0 0, Value.ref 247, Value.int 129 0, Value.int 0 0, Value.ref 254, Value.int 146 0, Value.int 0 0, Value.ref 261, Value.int 158 0, Value.int 0 0, Value.ref 268, Value.int 168 0, Value.int 0 0, Value.ref 275, Value.int 178 0, Value.int 0 0, Value.ref 282, Value.int 184 0, Value.int 0 0, Value.ref 289, Value.int 200 0, Value.int 0 0, Value.ref 296, Value.int 217 0, Value.int 0 0, Value.ref 303, Value.int 227 0, Value.int 0 0, Value.ref 308] }
noncomputable def hd.o_273 : Params → Obj := fun P => { cls := Value.type "tuple", data := Data.seq #[] }
noncomputable def hd.o_274 : Params → Obj := fun P => { cls := Value.none, data := Data.fields #[] }
noncomputable def hd.o_275 : Params → Obj := fun P => { cls := Value.type "tuple", data := Data.seq #[Value.str (Str.ofString "value") 465] }
noncomputable def hd.o_276 : Params → Obj := fun P => { cls := Value.type "tuple", data := Data.seq #[] }
noncomputable def hd.o_277 : Params → Obj := fun P => { cls := Value.none, data := Data.func { name := Str.ofString "ceiling", qualname := Str.ofString "ceiling", params := hd.f17.a, body := FuncBody.stmts hd.f17.b, scope := hd.f17.s, globals := 0, closure := [], defaults := Value.none, kwdefaults := Value.none } }
noncomputable def hd.o_278 : Params → Obj := fun P => { cls := Value.type "code", data := Data.fields #[Value.str (Str.ofString "ceiling") 462, Value.str (Str.ofString "ceiling") 463, Value.str (Str.ofString "/claim/cut.py") 464, Value.int 120 0, Value.int 1 0, Value.int 0 0, Value.int 0 0, Value.int 3 0, Value.ref 230, Value.bool true, Value.int 181 0, Value.ref 231, Value.none, Value.ref 232, Value.ref 233, Value.ref 234, Value.int 466 0, Value.int 120 0, Value.str (Str.ofString "/claim/cut.py") 467] }
noncomputable def hd.o_279 : Params → Obj := fun P => { cls := Value.type "function", data := Data.func { name := Str.ofString "ceiling", qualname := Str.ofString "ceiling", params := hd.f17.a, body := FuncBody.stmts hd.f17.b, scope := hd.f17.s, globals := 3, closure := [], defaults := Value.none, kwdefaults := Value.none, pyModule := Value.str (Str.ofString "paperhold.decimals") 229, code := Value.ref 235 } }
noncomputable def hd.o_280 : Params → Obj := fun P => { cls := Value.type "tuple", data := Data.seq #[] }
noncomputable def hd.o_281 : Params → Obj := fun P => { cls := Value.none, data := Data.fields #[] }
noncomputable def hd.o_282 : Params → Obj := fun P => { cls := Value.type "tuple", data := Data.seq #[Value.str (Str.ofString "value") 472, Value.str (Str.ofString "number") 473] }
noncomputable def hd.o_283 : Params → Obj := fun P => { cls := Value.type "tuple", data := Data.seq #[] }
noncomputable def hd.o_284 : Params → Obj := fun P => { cls := Value.none, data := Data.func { name := Str.ofString "absolute", qualname := Str.ofString "absolute", params := hd.f18.a, body := FuncBody.stmts hd.f18.b, scope := hd.f18.s, globals := 0, closure := [], defaults := Value.none, kwdefaults := Value.none } }
noncomputable def hd.o_285 : Params → Obj := fun P => { cls := Value.type "code", data := Data.fields #[Value.str (Str.ofString "absolute") 469, Value.str (Str.ofString "absolute") 470, Value.str (Str.ofString "/claim/cut.py") 471, Value.int 122 0, Value.int 1 0, Value.int 0 0, Value.int 0 0, Value.int 3 0, Value.ref 237, Value.bool true, Value.int 181 0, Value.ref 238, Value.none, Value.ref 239, Value.ref 240, Value.ref 241, Value.int 474 0, Value.int 122 0, Value.str (Str.ofString "/claim/cut.py") 475] }
noncomputable def hd.o_286 : Params → Obj := fun P => { cls := Value.type "function", data := Data.func { name := Str.ofString "absolute", qualname := Str.ofString "absolute", params := hd.f18.a, body := FuncBody.stmts hd.f18.b, scope := hd.f18.s, globals := 3, closure := [], defaults := Value.none, kwdefaults := Value.none, pyModule := Value.str (Str.ofString "paperhold.decimals") 229, code := Value.ref 242 } }
noncomputable def hd.o_287 : Params → Obj := fun P => { cls := Value.type "tuple", data := Data.seq #[] }
noncomputable def hd.o_288 : Params → Obj := fun P => { cls := Value.none, data := Data.fields #[] }
noncomputable def hd.o_289 : Params → Obj := fun P => { cls := Value.none, data := Data.func { name := Str.ofString "_law_pen", qualname := Str.ofString "_law_pen", params := hd.f21.a, body := FuncBody.stmts hd.f21.b, scope := hd.f21.s, globals := 0, closure := [], defaults := Value.none, kwdefaults := Value.none } }
noncomputable def hd.o_290 : Params → Obj := fun P => { cls := Value.type "code", data := Data.fields #[Value.str (Str.ofString "_law_pen") 481, Value.str (Str.ofString "_law_pen") 482, Value.str (Str.ofString "/claim/cut.py") 483, Value.int 127 0, Value.int 1 0, Value.int 0 0, Value.int 0 0, Value.int 3 0, Value.ref 244, Value.bool true, Value.int 181 0, Value.ref 245, Value.none, Value.none, Value.none, Value.ref 246, Value.int 484 0, Value.int 127 0, Value.str (Str.ofString "/claim/cut.py") 485] }
noncomputable def hd.o_291 : Params → Obj := fun P => { cls := Value.type "function", data := Data.func { name := Str.ofString "_law_pen", qualname := Str.ofString "_law_pen", params := hd.f21.a, body := FuncBody.stmts hd.f21.b, scope := hd.f21.s, globals := 3, closure := [], defaults := Value.none, kwdefaults := Value.none, pyModule := Value.str (Str.ofString "law_nn0199_01") 477, code := Value.ref 247 } }
noncomputable def hd.o_292 : Params → Obj := fun P => { cls := Value.type "tuple", data := Data.seq #[] }
noncomputable def hd.o_293 : Params → Obj := fun P => { cls := Value.none, data := Data.fields #[] }
noncomputable def hd.o_294 : Params → Obj := fun P => { cls := Value.type "tuple", data := Data.seq #[Value.str (Str.ofString "pen") 490, Value.str (Str.ofString "many") 491, Value.str (Str.ofString "digit") 492, Value.str (Str.ofString "spot") 493, Value.str (Str.ofString "cell") 494, Value.str (Str.ofString "great") 495, Value.str (Str.ofString "churned") 496] }
noncomputable def hd.o_295 : Params → Obj := fun P => { cls := Value.type "tuple", data := Data.seq #[] }
noncomputable def hd.o_296 : Params → Obj := fun P => { cls := Value.none, data := Data.func { name := Str.ofString "_law_draw", qualname := Str.ofString "_law_draw", params := hd.f22.a, body := FuncBody.stmts hd.f22.b, scope := hd.f22.s, globals := 0, closure := [], defaults := Value.none, kwdefaults := Value.none } }
noncomputable def hd.o_297 : Params → Obj := fun P => { cls := Value.type "code", data := Data.fields #[Value.str (Str.ofString "_law_draw") 487, Value.str (Str.ofString "_law_draw") 488, Value.str (Str.ofString "/claim/cut.py") 489, Value.int 129 0, Value.int 2 0, Value.int 0 0, Value.int 0 0, Value.int 3 0, Value.ref 249, Value.bool true, Value.int 181 0, Value.ref 250, Value.none, Value.ref 251, Value.ref 252, Value.ref 253, Value.int 497 0, Value.int 129 0, Value.str (Str.ofString "/claim/cut.py") 498] }
noncomputable def hd.o_298 : Params → Obj := fun P => { cls := Value.type "function", data := Data.func { name := Str.ofString "_law_draw", qualname := Str.ofString "_law_draw", params := hd.f22.a, body := FuncBody.stmts hd.f22.b, scope := hd.f22.s, globals := 3, closure := [], defaults := Value.none, kwdefaults := Value.none, pyModule := Value.str (Str.ofString "law_nn0199_01") 477, code := Value.ref 254 } }
noncomputable def hd.o_299 : Params → Obj := fun P => { cls := Value.type "tuple", data := Data.seq #[] }
noncomputable def hd.o_300 : Params → Obj := fun P => { cls := Value.none, data := Data.fields #[] }
noncomputable def hd.o_301 : Params → Obj := fun P => { cls := Value.type "tuple", data := Data.seq #[Value.str (Str.ofString "pen") 503, Value.str (Str.ofString "way") 504, Value.str (Str.ofString "sign") 505] }
noncomputable def hd.o_302 : Params → Obj := fun P => { cls := Value.type "tuple", data := Data.seq #[] }
noncomputable def hd.o_303 : Params → Obj := fun P => { cls := Value.none, data := Data.func { name := Str.ofString "_law_pair", qualname := Str.ofString "_law_pair", params := hd.f23.a, body := FuncBody.stmts hd.f23.b, scope := hd.f23.s, globals := 0, closure := [], defaults := Value.none, kwdefaults := Value.none } }
noncomputable def hd.o_304 : Params → Obj := fun P => { cls := Value.type "code", data := Data.fields #[Value.str (Str.ofString "_law_pair") 500, Value.str (Str.ofString "_law_pair") 501, Value.str (Str.ofString "/claim/cut.py") 502, Value.int 146 0, Value.int 1 0, Value.int 0 0, Value.int 0 0, Value.int 3 0, Value.ref 256, Value.bool true, Value.int 181 0, Value.ref 257, Value.none, Value.ref 258, Value.ref 259, Value.ref 260, Value.int 506 0, Value.int 146 0, Value.str (Str.ofString "/claim/cut.py") 507] }
noncomputable def hd.o_305 : Params → Obj := fun P => { cls := Value.type "function", data := Data.func { name := Str.ofString "_law_pair", qualname := Str.ofString "_law_pair", params := hd.f23.a, body := FuncBody.stmts hd.f23.b, scope := hd.f23.s, globals := 3, closure := [], defaults := Value.none, kwdefaults := Value.none, pyModule := Value.str (Str.ofString "law_nn0199_01") 477, code := Value.ref 261 } }
noncomputable def hd.o_306 : Params → Obj := fun P => { cls := Value.type "tuple", data := Data.seq #[] }
noncomputable def hd.o_307 : Params → Obj := fun P => { cls := Value.none, data := Data.fields #[] }
noncomputable def hd.o_308 : Params → Obj := fun P => { cls := Value.type "tuple", data := Data.seq #[Value.str (Str.ofString "worth") 512, Value.str (Str.ofString "scale") 513, Value.str (Str.ofString "numerals") 514, Value.str (Str.ofString "places") 515, Value.str (Str.ofString "figure") 516] }
noncomputable def hd.o_309 : Params → Obj := fun P => { cls := Value.type "tuple", data := Data.seq #[] }
noncomputable def hd.o_310 : Params → Obj := fun P => { cls := Value.none, data := Data.func { name := Str.ofString "_law_told", qualname := Str.ofString "_law_told", params := hd.f24.a, body := FuncBody.stmts hd.f24.b, scope := hd.f24.s, globals := 0, closure := [], defaults := Value.none, kwdefaults := Value.none } }
noncomputable def hd.o_311 : Params → Obj := fun P => { cls := Value.type "code", data := Data.fields #[Value.str (Str.ofString "_law_told") 509, Value.str (Str.ofString "_law_told") 510, Value.str (Str.ofString "/claim/cut.py") 511, Value.int 158 0, Value.int 2 0, Value.int 0 0, Value.int 0 0, Value.int 3 0, Value.ref 263, Value.bool true, Value.int 181 0, Value.ref 264, Value.none, Value.ref 265, Value.ref 266, Value.ref 267, Value.int 517 0, Value.int 158 0, Value.str (Str.ofString "/claim/cut.py") 518] }
noncomputable def hd.o_312 : Params → Obj := fun P => { cls := Value.type "function", data := Data.func { name := Str.ofString "_law_told", qualname := Str.ofString "_law_told", params := hd.f24.a, body := FuncBody.stmts hd.f24.b, scope := hd.f24.s, globals := 3, closure := [], defaults := Value.none, kwdefaults := Value.none, pyModule := Value.str (Str.ofString "law_nn0199_01") 477, code := Value.ref 268 } }
noncomputable def hd.o_313 : Params → Obj := fun P => { cls := Value.type "tuple", data := Data.seq #[] }
noncomputable def hd.o_314 : Params → Obj := fun P => { cls := Value.none, data := Data.fields #[] }
noncomputable def hd.o_315 : Params → Obj := fun P => { cls := Value.type "tuple", data := Data.seq #[Value.str (Str.ofString "worth") 523, Value.str (Str.ofString "scale") 524, Value.str (Str.ofString "is_least") 525, Value.str (Str.ofString "numerals") 526, Value.str (Str.ofString "whole") 527, Value.str (Str.ofString "rest") 528] }
noncomputable def hd.o_316 : Params → Obj := fun P => { cls := Value.type "tuple", data := Data.seq #[] }
noncomputable def hd.o_317 : Params → Obj := fun P => { cls := Value.none, data := Data.func { name := Str.ofString "_law_text", qualname := Str.ofString "_law_text", params := hd.f25.a, body := FuncBody.stmts hd.f25.b, scope := hd.f25.s, globals := 0, closure := [], defaults := Value.none, kwdefaults := Value.none } }
noncomputable def hd.o_318 : Params → Obj := fun P => { cls := Value.type "code", data := Data.fields #[Value.str (Str.ofString "_law_text") 520, Value.str (Str.ofString "_law_text") 521, Value.str (Str.ofString "/claim/cut.py") 522, Value.int 168 0, Value.int 3 0, Value.int 0 0, Value.int 0 0, Value.int 3 0, Value.ref 270, Value.bool true, Value.int 181 0, Value.ref 271, Value.none, Value.ref 272, Value.ref 273, Value.ref 274, Value.int 529 0, Value.int 168 0, Value.str (Str.ofString "/claim/cut.py") 530] }
noncomputable def hd.o_319 : Params → Obj := fun P => { cls := Value.type "function", data := Data.func { name := Str.ofString "_law_text", qualname := Str.ofString "_law_text", params := hd.f25.a, body := FuncBody.stmts hd.f25.b, scope := hd.f25.s, globals := 3, closure := [], defaults := Value.none, kwdefaults := Value.none, pyModule := Value.str (Str.ofString "law_nn0199_01") 477, code := Value.ref 275 } }
noncomputable def hd.o_320 : Params → Obj := fun P => { cls := Value.type "tuple", data := Data.seq #[] }
noncomputable def hd.o_321 : Params → Obj := fun P => { cls := Value.none, data := Data.fields #[] }
noncomputable def hd.o_322 : Params → Obj := fun P => { cls := Value.type "tuple", data := Data.seq #[Value.str (Str.ofString "worth") 535, Value.str (Str.ofString "scale") 536, Value.str (Str.ofString "places") 537, Value.str (Str.ofString "unit") 538, Value.str (Str.ofString "size") 539] }
noncomputable def hd.o_323 : Params → Obj := fun P => { cls := Value.type "tuple", data := Data.seq #[] }
noncomputable def hd.o_324 : Params → Obj := fun P => { cls := Value.none, data := Data.func { name := Str.ofString "_law_rounded", qualname := Str.ofString "_law_rounded", params := hd.f26.a, body := FuncBody.stmts hd.f26.b, scope := hd.f26.s, globals := 0, closure := [], defaults := Value.none, kwdefaults := Value.none } }
noncomputable def hd.o_325 : Params → Obj := fun P => { cls := Value.type "code", data := Data.fields #[Value.str (Str.ofString "_law_rounded") 532, Value.str (Str.ofString "_law_rounded") 533, Value.str (Str.ofString "/claim/cut.py") 534, Value.int 178 0, Value.int 3 0, Value.int 0 0, Value.int 0 0, Value.int 3 0, Value.ref 277, Value.bool true, Value.int 181 0, Value.ref 278, Value.none, Value.ref 279, Value.ref 280, Value.ref 281, Value.int 540 0, Value.int 178 0, Value.str (Str.ofString "/claim/cut.py") 541] }
noncomputable def hd.o_326 : Params → Obj := fun P => { cls := Value.type "function", data := Data.func { name := Str.ofString "_law_rounded", qualname := Str.ofString "_law_rounded", params := hd.f26.a, body := FuncBody.stmts hd.f26.b, scope := hd.f26.s, globals := 3, closure := [], defaults := Value.none, kwdefaults := Value.none, pyModule := Value.str (Str.ofString "law_nn0199_01") 477, code := Value.ref 282 } }
noncomputable def hd.o_327 : Params → Obj := fun P => { cls := Value.type "tuple", data := Data.seq #[] }
noncomputable def hd.o_328 : Params → Obj := fun P => { cls := Value.none, data := Data.fields #[] }
noncomputable def hd.o_329 : Params → Obj := fun P => { cls := Value.type "tuple", data := Data.seq #[Value.str (Str.ofString "way") 546, Value.str (Str.ofString "values") 547, Value.str (Str.ofString "heard") 548] }
noncomputable def hd.o_330 : Params → Obj := fun P => { cls := Value.type "tuple", data := Data.seq #[] }
noncomputable def hd.o_331 : Params → Obj := fun P => { cls := Value.none, data := Data.func { name := Str.ofString "_law_refused", qualname := Str.ofString "_law_refused", params := hd.f27.a, body := FuncBody.stmts hd.f27.b, scope := hd.f27.s, globals := 0, closure := [], defaults := Value.none, kwdefaults := Value.none } }
noncomputable def hd.o_332 : Params → Obj := fun P => { cls := Value.type "code", data := Data.fields #[Value.str (Str.ofString "_law_refused") 543, Value.str (Str.ofString "_law_refused") 544, Value.str (Str.ofString "/claim/cut.py") 545, Value.int 184 0, Value.int 2 0, Value.int 0 0, Value.int 0 0, Value.int 3 0, Value.ref 284, Value.bool true, Value.int 181 0, Value.ref 285, Value.none, Value.ref 286, Value.ref 287, Value.ref 288, Value.int 549 0, Value.int 184 0, Value.str (Str.ofString "/claim/cut.py") 550] }
noncomputable def hd.o_333 : Params → Obj := fun P => { cls := Value.type "function", data := Data.func { name := Str.ofString "_law_refused", qualname := Str.ofString "_law_refused", params := hd.f27.a, body := FuncBody.stmts hd.f27.b, scope := hd.f27.s, globals := 3, closure := [], defaults := Value.none, kwdefaults := Value.none, pyModule := Value.str (Str.ofString "law_nn0199_01") 477, code := Value.ref 289 } }
noncomputable def hd.o_334 : Params → Obj := fun P => { cls := Value.type "tuple", data := Data.seq #[] }
noncomputable def hd.o_335 : Params → Obj := fun P => { cls := Value.none, data := Data.fields #[] }
noncomputable def hd.o_336 : Params → Obj := fun P => { cls := Value.type "tuple", data := Data.seq #[Value.str (Str.ofString "pen") 555, Value.str (Str.ofString "value") 556, Value.str (Str.ofString "worth") 557, Value.str (Str.ofString "scale") 558, Value.str (Str.ofString "unit") 559, Value.str (Str.ofString "number") 560, Value.str (Str.ofString "places") 561, Value.str (Str.ofString "few") 562] }
noncomputable def hd.o_337 : Params → Obj := fun P => { cls := Value.type "tuple", data := Data.seq #[] }
noncomputable def hd.o_338 : Params → Obj := fun P => { cls := Value.none, data := Data.func { name := Str.ofString "_law_one_told", qualname := Str.ofString "_law_one_told", params := hd.f28.a, body := FuncBody.stmts hd.f28.b, scope := hd.f28.s, globals := 0, closure := [], defaults := Value.none, kwdefaults := Value.none } }
noncomputable def hd.o_339 : Params → Obj := fun P => { cls := Value.type "code", data := Data.fields #[Value.str (Str.ofString "_law_one_told") 552, Value.str (Str.ofString "_law_one_told") 553, Value.str (Str.ofString "/claim/cut.py") 554, Value.int 200 0, Value.int 3 0, Value.int 0 0, Value.int 0 0, Value.int 3 0, Value.ref 291, Value.bool true, Value.int 181 0, Value.ref 292, Value.none, Value.ref 293, Value.ref 294, Value.ref 295, Value.int 563 0, Value.int 200 0, Value.str (Str.ofString "/claim/cut.py") 564] }
noncomputable def hd.o_340 : Params → Obj := fun P => { cls := Value.type "function", data := Data.func { name := Str.ofString "_law_one_told", qualname := Str.ofString "_law_one_told", params := hd.f28.a, body := FuncBody.stmts hd.f28.b, scope := hd.f28.s, globals := 3, closure := [], defaults := Value.none, kwdefaults := Value.none, pyModule := Value.str (Str.ofString "law_nn0199_01") 477, code := Value.ref 296 } }
noncomputable def hd.o_341 : Params → Obj := fun P => { cls := Value.type "tuple", data := Data.seq #[] }
noncomputable def hd.o_342 : Params → Obj := fun P => { cls := Value.none, data := Data.fields #[] }
noncomputable def hd.o_343 : Params → Obj := fun P => { cls := Value.type "tuple", data := Data.seq #[Value.str (Str.ofString "x") 569, Value.str (Str.ofString "y") 570, Value.str (Str.ofString "one") 571, Value.str (Str.ofString "two") 572, Value.str (Str.ofString "scale") 573, Value.str (Str.ofString "number") 574] }
noncomputable def hd.o_344 : Params → Obj := fun P => { cls := Value.type "tuple", data := Data.seq #[] }
noncomputable def hd.o_345 : Params → Obj := fun P => { cls := Value.none, data := Data.func { name := Str.ofString "_law_two_told", qualname := Str.ofString "_law_two_told", params := hd.f29.a, body := FuncBody.stmts hd.f29.b, scope := hd.f29.s, globals := 0, closure := [], defaults := Value.none, kwdefaults := Value.none } }
noncomputable def hd.o_346 : Params → Obj := fun P => { cls := Value.type "code", data := Data.fields #[Value.str (Str.ofString "_law_two_told") 566, Value.str (Str.ofString "_law_two_told") 567, Value.str (Str.ofString "/claim/cut.py") 568, Value.int 217 0, Value.int 4 0, Value.int 0 0, Value.int 0 0, Value.int 3 0, Value.ref 298, Value.bool true, Value.int 181 0, Value.ref 299, Value.none, Value.ref 300, Value.ref 301, Value.ref 302, Value.int 575 0, Value.int 217 0, Value.str (Str.ofString "/claim/cut.py") 576] }
noncomputable def hd.o_347 : Params → Obj := fun P => { cls := Value.type "function", data := Data.func { name := Str.ofString "_law_two_told", qualname := Str.ofString "_law_two_told", params := hd.f29.a, body := FuncBody.stmts hd.f29.b, scope := hd.f29.s, globals := 3, closure := [], defaults := Value.none, kwdefaults := Value.none, pyModule := Value.str (Str.ofString "law_nn0199_01") 477, code := Value.ref 303 } }
noncomputable def hd.o_348 : Params → Obj := fun P => { cls := Value.type "tuple", data := Data.seq #[] }
noncomputable def hd.o_349 : Params → Obj := fun P => { cls := Value.none, data := Data.fields #[] }
noncomputable def hd.o_350 : Params → Obj := fun P => { cls := Value.none, data := Data.func { name := Str.ofString "_law_some_told", qualname := Str.ofString "_law_some_told", params := hd.f30.a, body := FuncBody.stmts hd.f30.b, scope := hd.f30.s, globals := 0, closure := [], defaults := Value.none, kwdefaults := Value.none } }
noncomputable def hd.o_351 : Params → Obj := fun P => { cls := Value.type "code", data := Data.fields #[Value.str (Str.ofString "_law_some_told") 578, Value.str (Str.ofString "_law_some_told") 579, Value.str (Str.ofString "/claim/cut.py") 580, Value.int 227 0, Value.int 2 0, Value.int 0 0, Value.int 0 0, Value.int 3 0, Value.ref 305, Value.bool true, Value.int 181 0, Value.ref 306, Value.none, Value.none, Value.none, Value.ref 307, Value.int 581 0, Value.int 227 0, Value.str (Str.ofString "/claim/cut.py") 582] }
noncomputable def hd.o_352 : Params → Obj := fun P => { cls := Value.type "function", data := Data.func { name := Str.ofString "_law_some_told", qualname := Str.ofString "_law_some_told", params := hd.f30.a, body := FuncBody.stmts hd.f30.b, scope := hd.f30.s, globals := 3, closure := [], defaults := Value.none, kwdefaults := Value.none, pyModule := Value.str (Str.ofString "law_nn0199_01") 477, code := Value.ref 308 } }
noncomputable def hd.tree_352 : Params → BT := fun P => BT.node (boot_o_0 P) (BT.node (boot_o_1 P) (BT.node (hd.o_271 P) (BT.node (boot_o_7 P) (BT.node (hd.o_52 P) (BT.node (hd.o_68 P) (BT.node (hd.o_102 P) (BT.node (hd.o_166 P) (BT.node (hd.o_298 P) BT.nil BT.nil) BT.nil) (BT.node (hd.o_232 P) BT.nil BT.nil)) (BT.node (hd.o_134 P) (BT.node (hd.o_200 P) (BT.node (hd.o_330 P) BT.nil BT.nil) BT.nil) (BT.node (hd.o_264 P) BT.nil BT.nil))) (BT.node (hd.o_86 P) (BT.node (hd.o_118 P) (BT.node (hd.o_184 P) (BT.node (hd.o_314 P) BT.nil BT.nil) BT.nil) (BT.node (hd.o_248 P) BT.nil BT.nil)) (BT.node (hd.o_150 P) (BT.node (hd.o_216 P) (BT.node (hd.o_346 P) BT.nil BT.nil) BT.nil) (BT.node (hd.o_282 P) BT.nil BT.nil)))) (BT.node (hd.o_60 P) (BT.node (hd.o_76 P) (BT.node (hd.o_110 P) (BT.node (hd.o_174 P) (BT.node (hd.o_306 P) BT.nil BT.nil) BT.nil) (BT.node (hd.o_240 P) BT.nil BT.nil)) (BT.node (hd.o_142 P) (BT.node (hd.o_208 P) (BT.node (hd.o_338 P) BT.nil BT.nil) BT.nil) (BT.node (hd.o_274 P) BT.nil BT.nil))) (BT.node (hd.o_94 P) (BT.node (hd.o_126 P) (BT.node (hd.o_192 P) (BT.node (hd.o_322 P) BT.nil BT.nil) BT.nil) (BT.node (hd.o_256 P) BT.nil BT.nil)) (BT.node (hd.o_158 P) (BT.node (hd.o_224 P) BT.nil BT.nil) (BT.node (hd.o_290 P) BT.nil BT.nil))))) (BT.node (hd.o_43 P) (BT.node (hd.o_56 P) (BT.node (hd.o_72 P) (BT.node (hd.o_106 P) (BT.node (hd.o_170 P) (BT.node (hd.o_302 P) BT.nil BT.nil) BT.nil) (BT.node (hd.o_236 P) BT.nil BT.nil)) (BT.node (hd.o_138 P) (BT.node (hd.o_204 P) (BT.node (hd.o_334 P) BT.nil BT.nil) BT.nil) (BT.node (hd.o_268 P) BT.nil BT.nil))) (BT.node (hd.o_90 P) (BT.node (hd.o_122 P) (BT.node (hd.o_188 P) (BT.node (hd.o_318 P) BT.nil BT.nil) BT.nil) (BT.node (hd.o_252 P) BT.nil BT.nil)) (BT.node (hd.o_154 P) (BT.node (hd.o_220 P) (BT.node (hd.o_350 P) BT.nil BT.nil) BT.nil) (BT.node (hd.o_286 P) BT.nil BT.nil)))) (BT.node (hd.o_64 P) (BT.node (hd.o_82 P) (BT.node (hd.o_114 P) (BT.node (hd.o_178 P) (BT.node (hd.o_310 P) BT.nil BT.nil) BT.nil) (BT.node (hd.o_244 P) BT.nil BT.nil)) (BT.node (hd.o_146 P) (BT.node (hd.o_212 P) (BT.node (hd.o_342 P) BT.nil BT.nil) BT.nil) (BT.node (hd.o_278 P) BT.nil BT.nil))) (BT.node (hd.o_98 P) (BT.node (hd.o_130 P) (BT.node (hd.o_196 P) (BT.node (hd.o_326 P) BT.nil BT.nil) BT.nil) (BT.node (hd.o_260 P) BT.nil BT.nil)) (BT.node (hd.o_162 P) (BT.node (hd.o_228 P) BT.nil BT.nil) (BT.node (hd.o_294 P) BT.nil BT.nil)))))) (BT.node (boot_o_5 P) (BT.node (boot_o_9 P) (BT.node (hd.o_54 P) (BT.node (hd.o_70 P) (BT.node (hd.o_104 P) (BT.node (hd.o_168 P) (BT.node (hd.o_300 P) BT.nil BT.nil) BT.nil) (BT.node (hd.o_234 P) BT.nil BT.nil)) (BT.node (hd.o_136 P) (BT.node (hd.o_202 P) (BT.node (hd.o_332 P) BT.nil BT.nil) BT.nil) (BT.node (hd.o_266 P) BT.nil BT.nil))) (BT.node (hd.o_88 P) (BT.node (hd.o_120 P) (BT.node (hd.o_186 P) (BT.node (hd.o_316 P) BT.nil BT.nil) BT.nil) (BT.node (hd.o_250 P) BT.nil BT.nil)) (BT.node (hd.o_152 P) (BT.node (hd.o_218 P) (BT.node (hd.o_348 P) BT.nil BT.nil) BT.nil) (BT.node (hd.o_284 P) BT.nil BT.nil)))) (BT.node (hd.o_62 P) (BT.node (hd.o_78 P) (BT.node (hd.o_112 P) (BT.node (hd.o_176 P) (BT.node (hd.o_308 P) BT.nil BT.nil) BT.nil) (BT.node (hd.o_242 P) BT.nil BT.nil)) (BT.node (hd.o_144 P) (BT.node (hd.o_210 P) (BT.node (hd.o_340 P) BT.nil BT.nil) BT.nil) (BT.node (hd.o_276 P) BT.nil BT.nil))) (BT.node (hd.o_96 P) (BT.node (hd.o_128 P) (BT.node (hd.o_194 P) (BT.node (hd.o_324 P) BT.nil BT.nil) BT.nil) (BT.node (hd.o_258 P) BT.nil BT.nil)) (BT.node (hd.o_160 P) (BT.node (hd.o_226 P) BT.nil BT.nil) (BT.node (hd.o_292 P) BT.nil BT.nil))))) (BT.node (hd.o_45 P) (BT.node (hd.o_58 P) (BT.node (hd.o_74 P) (BT.node (hd.o_108 P) (BT.node (hd.o_172 P) (BT.node (hd.o_304 P) BT.nil BT.nil) BT.nil) (BT.node (hd.o_238 P) BT.nil BT.nil)) (BT.node (hd.o_140 P) (BT.node (hd.o_206 P) (BT.node (hd.o_336 P) BT.nil BT.nil) BT.nil) (BT.node (hd.o_270 P) BT.nil BT.nil))) (BT.node (hd.o_92 P) (BT.node (hd.o_124 P) (BT.node (hd.o_190 P) (BT.node (hd.o_320 P) BT.nil BT.nil) BT.nil) (BT.node (hd.o_254 P) BT.nil BT.nil)) (BT.node (hd.o_156 P) (BT.node (hd.o_222 P) (BT.node (hd.o_352 P) BT.nil BT.nil) BT.nil) (BT.node (hd.o_288 P) BT.nil BT.nil)))) (BT.node (hd.o_66 P) (BT.node (hd.o_84 P) (BT.node (hd.o_116 P) (BT.node (hd.o_182 P) (BT.node (hd.o_312 P) BT.nil BT.nil) BT.nil) (BT.node (hd.o_246 P) BT.nil BT.nil)) (BT.node (hd.o_148 P) (BT.node (hd.o_214 P) (BT.node (hd.o_344 P) BT.nil BT.nil) BT.nil) (BT.node (hd.o_280 P) BT.nil BT.nil))) (BT.node (hd.o_100 P) (BT.node (hd.o_132 P) (BT.node (hd.o_198 P) (BT.node (hd.o_328 P) BT.nil BT.nil) BT.nil) (BT.node (hd.o_262 P) BT.nil BT.nil)) (BT.node (hd.o_164 P) (BT.node (hd.o_230 P) BT.nil BT.nil) (BT.node (hd.o_296 P) BT.nil BT.nil))))))) (BT.node (hd.o_49 P) (BT.node (boot_o_4 P) (BT.node (boot_o_8 P) (BT.node (hd.o_53 P) (BT.node (hd.o_69 P) (BT.node (hd.o_103 P) (BT.node (hd.o_167 P) (BT.node (hd.o_299 P) BT.nil BT.nil) BT.nil) (BT.node (hd.o_233 P) BT.nil BT.nil)) (BT.node (hd.o_135 P) (BT.node (hd.o_201 P) (BT.node (hd.o_331 P) BT.nil BT.nil) BT.nil) (BT.node (hd.o_265 P) BT.nil BT.nil))) (BT.node (hd.o_87 P) (BT.node (hd.o_119 P) (BT.node (hd.o_185 P) (BT.node (hd.o_315 P) BT.nil BT.nil) BT.nil) (BT.node (hd.o_249 P) BT.nil BT.nil)) (BT.node (hd.o_151 P) (BT.node (hd.o_217 P) (BT.node (hd.o_347 P) BT.nil BT.nil) BT.nil) (BT.node (hd.o_283 P) BT.nil BT.nil)))) (BT.node (hd.o_61 P) (BT.node (hd.o_77 P) (BT.node (hd.o_111 P) (BT.node (hd.o_175 P) (BT.node (hd.o_307 P) BT.nil BT.nil) BT.nil) (BT.node (hd.o_241 P) BT.nil BT.nil)) (BT.node (hd.o_143 P) (BT.node (hd.o_209 P) (BT.node (hd.o_339 P) BT.nil BT.nil) BT.nil) (BT.node (hd.o_275 P) BT.nil BT.nil))) (BT.node (hd.o_95 P) (BT.node (hd.o_127 P) (BT.node (hd.o_193 P) (BT.node (hd.o_323 P) BT.nil BT.nil) BT.nil) (BT.node (hd.o_257 P) BT.nil BT.nil)) (BT.node (hd.o_159 P) (BT.node (hd.o_225 P) BT.nil BT.nil) (BT.node (hd.o_291 P) BT.nil BT.nil))))) (BT.node (hd.o_272 P) (BT.node (hd.o_57 P) (BT.node (hd.o_73 P) (BT.node (hd.o_107 P) (BT.node (hd.o_171 P) (BT.node (hd.o_303 P) BT.nil BT.nil) BT.nil) (BT.node (hd.o_237 P) BT.nil BT.nil)) (BT.node (hd.o_139 P) (BT.node (hd.o_205 P) (BT.node (hd.o_335 P) BT.nil BT.nil) BT.nil) (BT.node (hd.o_269 P) BT.nil BT.nil))) (BT.node (hd.o_91 P) (BT.node (hd.o_123 P) (BT.node (hd.o_189 P) (BT.node (hd.o_319 P) BT.nil BT.nil) BT.nil) (BT.node (hd.o_253 P) BT.nil BT.nil)) (BT.node (hd.o_155 P) (BT.node (hd.o_221 P) (BT.node (hd.o_351 P) BT.nil BT.nil) BT.nil) (BT.node (hd.o_287 P) BT.nil BT.nil)))) (BT.node (hd.o_65 P) (BT.node (hd.o_83 P) (BT.node (hd.o_115 P) (BT.node (hd.o_179 P) (BT.node (hd.o_311 P) BT.nil BT.nil) BT.nil) (BT.node (hd.o_245 P) BT.nil BT.nil)) (BT.node (hd.o_147 P) (BT.node (hd.o_213 P) (BT.node (hd.o_343 P) BT.nil BT.nil) BT.nil) (BT.node (hd.o_279 P) BT.nil BT.nil))) (BT.node (hd.o_99 P) (BT.node (hd.o_131 P) (BT.node (hd.o_197 P) (BT.node (hd.o_327 P) BT.nil BT.nil) BT.nil) (BT.node (hd.o_261 P) BT.nil BT.nil)) (BT.node (hd.o_163 P) (BT.node (hd.o_229 P) BT.nil BT.nil) (BT.node (hd.o_295 P) BT.nil BT.nil)))))) (BT.node (boot_o_6 P) (BT.node (boot_o_10 P) (BT.node (hd.o_55 P) (BT.node (hd.o_71 P) (BT.node (hd.o_105 P) (BT.node (hd.o_169 P) (BT.node (hd.o_301 P) BT.nil BT.nil) BT.nil) (BT.node (hd.o_235 P) BT.nil BT.nil)) (BT.node (hd.o_137 P) (BT.node (hd.o_203 P) (BT.node (hd.o_333 P) BT.nil BT.nil) BT.nil) (BT.node (hd.o_267 P) BT.nil BT.nil))) (BT.node (hd.o_89 P) (BT.node (hd.o_121 P) (BT.node (hd.o_187 P) (BT.node (hd.o_317 P) BT.nil BT.nil) BT.nil) (BT.node (hd.o_251 P) BT.nil BT.nil)) (BT.node (hd.o_153 P) (BT.node (hd.o_219 P) (BT.node (hd.o_349 P) BT.nil BT.nil) BT.nil) (BT.node (hd.o_285 P) BT.nil BT.nil)))) (BT.node (hd.o_63 P) (BT.node (hd.o_79 P) (BT.node (hd.o_113 P) (BT.node (hd.o_177 P) (BT.node (hd.o_309 P) BT.nil BT.nil) BT.nil) (BT.node (hd.o_243 P) BT.nil BT.nil)) (BT.node (hd.o_145 P) (BT.node (hd.o_211 P) (BT.node (hd.o_341 P) BT.nil BT.nil) BT.nil) (BT.node (hd.o_277 P) BT.nil BT.nil))) (BT.node (hd.o_97 P) (BT.node (hd.o_129 P) (BT.node (hd.o_195 P) (BT.node (hd.o_325 P) BT.nil BT.nil) BT.nil) (BT.node (hd.o_259 P) BT.nil BT.nil)) (BT.node (hd.o_161 P) (BT.node (hd.o_227 P) BT.nil BT.nil) (BT.node (hd.o_293 P) BT.nil BT.nil))))) (BT.node (hd.o_46 P) (BT.node (hd.o_59 P) (BT.node (hd.o_75 P) (BT.node (hd.o_109 P) (BT.node (hd.o_173 P) (BT.node (hd.o_305 P) BT.nil BT.nil) BT.nil) (BT.node (hd.o_239 P) BT.nil BT.nil)) (BT.node (hd.o_141 P) (BT.node (hd.o_207 P) (BT.node (hd.o_337 P) BT.nil BT.nil) BT.nil) (BT.node (hd.o_273 P) BT.nil BT.nil))) (BT.node (hd.o_93 P) (BT.node (hd.o_125 P) (BT.node (hd.o_191 P) (BT.node (hd.o_321 P) BT.nil BT.nil) BT.nil) (BT.node (hd.o_255 P) BT.nil BT.nil)) (BT.node (hd.o_157 P) (BT.node (hd.o_223 P) BT.nil BT.nil) (BT.node (hd.o_289 P) BT.nil BT.nil)))) (BT.node (hd.o_67 P) (BT.node (hd.o_85 P) (BT.node (hd.o_117 P) (BT.node (hd.o_183 P) (BT.node (hd.o_313 P) BT.nil BT.nil) BT.nil) (BT.node (hd.o_247 P) BT.nil BT.nil)) (BT.node (hd.o_149 P) (BT.node (hd.o_215 P) (BT.node (hd.o_345 P) BT.nil BT.nil) BT.nil) (BT.node (hd.o_281 P) BT.nil BT.nil))) (BT.node (hd.o_101 P) (BT.node (hd.o_133 P) (BT.node (hd.o_199 P) (BT.node (hd.o_329 P) BT.nil BT.nil) BT.nil) (BT.node (hd.o_263 P) BT.nil BT.nil)) (BT.node (hd.o_165 P) (BT.node (hd.o_231 P) BT.nil BT.nil) (BT.node (hd.o_297 P) BT.nil BT.nil)))))))
noncomputable def hd.o_353 : Params → Obj := fun P => { cls := Value.type "dict", data := Data.dict #[{ hash := PyData.keyHash P (Str.ofString "__name__"), key := Value.str (Str.ofString "__name__") 165, val := Value.str (Str.ofString "law_nn0199_01") 477 }, { hash := PyData.keyHash P (Str.ofString "__doc__"), key := Value.str (Str.ofString "__doc__") 166, val := Value.none }, { hash := PyData.keyHash P (Str.ofString "__package__"), key := Value.str (Str.ofString "__package__") 167, val := Value.none }, { hash := PyData.keyHash P (Str.ofString "__loader__"), key := Value.str (Str.ofString "__loader__") 168, val := Value.builtin "__main__.__loader__#opaque" }, { hash := PyData.keyHash P (Str.ofString "__spec__"), key := Value.str (Str.ofString "__spec__") 169, val := Value.none }, { hash := PyData.keyHash P (Str.ofString "__annotations__"), key := Value.str (Str.ofString "__annotations__") 170, val := Value.ref 6 }, { hash := PyData.keyHash P (Str.ofString "__builtins__"), key := Value.str (Str.ofString "__builtins__") 171, val := Value.ref 4 }, { hash := PyData.keyHash P (Str.ofString "__file__"), key := Value.str (Str.ofString "__file__") 173, val := Value.str (Str.ofString "/claim/cut.py") 172 }, { hash := PyData.keyHash P (Str.ofString "__cached__"), key := Value.str (Str.ofString "__cached__") 174, val := Value.none }, { hash := PyData.keyHash P (Str.ofString "PaperError"), key := Value.str (Str.ofString "PaperError") 228, val := Value.ref 39 }, { hash := PyData.keyHash P (Str.ofString "Decimal"), key := Value.str (Str.ofString "Decimal") 355, val := Value.ref 136 }, { hash := PyData.keyHash P (Str.ofString "sign_text"), key := Value.str (Str.ofString "sign_text") 362, val := Value.ref 147 }, { hash := PyData.keyHash P (Str.ofString "sign_of"), key := Value.str (Str.ofString "sign_of") 369, val := Value.ref 154 }, { hash := PyData.keyHash P (Str.ofString "rounded_quotient"), key := Value.str (Str.ofString "rounded_quotient") 378, val := Value.ref 161 }, { hash := PyData.keyHash P (Str.ofString "decimal_of"), key := Value.str (Str.ofString "decimal_of") 385, val := Value.ref 168 }, { hash := PyData.keyHash P (Str.ofString "at_one_scale"), key := Value.str (Str.ofString "at_one_scale") 396, val := Value.ref 175 }, { hash := PyData.keyHash P (Str.ofString "tops_of"), key := Value.str (Str.ofString "tops_of") 402, val := Value.ref 180 }, { hash := PyData.keyHash P (Str.ofString "halved"), key := Value.str (Str.ofString "halved") 409, val := Value.ref 187 }, { hash := PyData.keyHash P (Str.ofString "middle_of"), key := Value.str (Str.ofString "middle_of") 417, val := Value.ref 194 }, { hash := PyData.keyHash P (Str.ofString "sum_of"), key := Value.str (Str.ofString "sum_of") 426, val := Value.ref 201 }, { hash := PyData.keyHash P (Str.ofString "same_number"), key := Value.str (Str.ofString "same_number") 434, val := Value.ref 208 }, { hash := PyData.keyHash P (Str.ofString "least"), key := Value.str (Str.ofString "least") 443, val := Value.ref 215 }, { hash := PyData.keyHash P (Str.ofString "greatest"), key := Value.str (Str.ofString "greatest") 452, val := Value.ref 222 }, { hash := PyData.keyHash P (Str.ofString "clamped"), key := Value.str (Str.ofString "clamped") 461, val := Value.ref 229 }, { hash := PyData.keyHash P (Str.ofString "ceiling"), key := Value.str (Str.ofString "ceiling") 468, val := Value.ref 236 }, { hash := PyData.keyHash P (Str.ofString "absolute"), key := Value.str (Str.ofString "absolute") 476, val := Value.ref 243 }, { hash := PyData.keyHash P (Str.ofString "_law_scale"), key := Value.str (Str.ofString "_law_scale") 480, val := Value.int 40 479 }, { hash := PyData.keyHash P (Str.ofString "_law_pen"), key := Value.str (Str.ofString "_law_pen") 486, val := Value.ref 248 }, { hash := PyData.keyHash P (Str.ofString "_law_draw"), key := Value.str (Str.ofString "_law_draw") 499, val := Value.ref 255 }, { hash := PyData.keyHash P (Str.ofString "_law_pair"), key := Value.str (Str.ofString "_law_pair") 508, val := Value.ref 262 }, { hash := PyData.keyHash P (Str.ofString "_law_told"), key := Value.str (Str.ofString "_law_told") 519, val := Value.ref 269 }, { hash := PyData.keyHash P (Str.ofString "_law_text"), key := Value.str (Str.ofString "_law_text") 531, val := Value.ref 276 }, { hash := PyData.keyHash P (Str.ofString "_law_rounded"), key := Value.str (Str.ofString "_law_rounded") 542, val := Value.ref 283 }, { hash := PyData.keyHash P (Str.ofString "_law_refused"), key := Value.str (Str.ofString "_law_refused") 551, val := Value.ref 290 }, { hash := PyData.keyHash P (Str.ofString "_law_one_told"), key := Value.str (Str.ofString "_law_one_told") 565, val := Value.ref 297 }, { hash := PyData.keyHash P (Str.ofString "_law_two_told"), key := Value.str (Str.ofString "_law_two_told") 577, val := Value.ref 304 }, { hash := PyData.keyHash P (Str.ofString "_law_some_told"), key := Value.str (Str.ofString "_law_some_told") 583, val := Value.ref 309 }, { hash := PyData.keyHash P (Str.ofString "law"), key := Value.str (Str.ofString "law") 589, val := Value.ref 314 }] 38 }
noncomputable def hd.sts_353 : List Stmt := [hd.cut.c31]
noncomputable def hd.o_354 : Params → Obj := fun P => { cls := Value.none, data := Data.fields #[Value.int 2 0, Value.int 0 0, Value.ref 20, Value.int 12 0, Value.int 0 0, Value.ref 48, Value.int 66 0, Value.int 0 0, Value.ref 146, Value.int 68 0, Value.int 0 0, Value.ref 153, Value.int 72 0, Value.int 0 0, Value.ref 160, Value.int 75 0, Value.int 0 0, Value.ref 167, Value.int 81 0, Value.int 0 0, Value.ref 174, Value.int 86 0, Value.int 0 0, Value.ref 179, Value.int 91 0, Value.int 0 0, Value.ref 186, Value.int 93 0, Value.int 0 0, Value.ref 193, Value.int 95 0, Value.int 0 0, Value.ref 200, Value.int 98 0, Value.int 0 0, Value.ref 207, Value.int 100 0, Value.int 0 0, Value.ref 214, Value.int 108 0, Value.int 0 0, Value.ref 221, Value.int 116 0, Value.int 0 0, Value.ref 228, Value.int 120 0, Value.int 0 0, Value.ref 235, Value.int 122 0, Value.int 0 0, Value.ref 242, Value.int 127 0, Value.int 0 0, Value.ref 247, Value.int 129 0, Value.int 0 0, Value.ref 254, Value.int 146 0, Value.int 0 0, Value.ref 261, Value.int 158 0, Value.int 0 0, Value.ref 268, Value.int 168 0, Value.int 0 0, Value.ref 275, Value.int 178 0, Value.int 0 0, Value.ref 282, Value.int 184 0, Value.int 0 0, Value.ref 289, Value.int 200 0, Value.int 0 0, Value.ref 296, Value.int 217 0, Value.int 0 0, Value.ref 303, Value.int 227 0, Value.int 0 0, Value.ref 308, Value.int 237 0, Value.int 0 0, Value.ref 313] }
noncomputable def hd.o_355 : Params → Obj := fun P => { cls := Value.type "tuple", data := Data.seq #[] }
noncomputable def hd.o_356 : Params → Obj := fun P => { cls := Value.none, data := Data.fields #[] }
noncomputable def hd.o_357 : Params → Obj := fun P => { cls := Value.none, data := Data.func { name := Str.ofString "law", qualname := Str.ofString "law", params := hd.f31.a, body := FuncBody.stmts hd.f31.b, scope := hd.f31.s, globals := 0, closure := [], defaults := Value.none, kwdefaults := Value.none } }
noncomputable def hd.o_358 : Params → Obj := fun P => { cls := Value.type "code", data := Data.fields #[Value.str (Str.ofString "law") 584, Value.str (Str.ofString "law") 585, Value.str (Str.ofString "/claim/cut.py") 586, Value.int 237 0, Value.int 1 0, Value.int 0 0, Value.int 0 0, Value.int 3 0, Value.ref 310, Value.bool true, Value.int 181 0, Value.ref 311, Value.none, Value.none, Value.none, Value.ref 312, Value.int 587 0, Value.int 237 0, Value.str (Str.ofString "/claim/cut.py") 588] }
noncomputable def hd.o_359 : Params → Obj := fun P => { cls := Value.type "function", data := Data.func { name := Str.ofString "law", qualname := Str.ofString "law", params := hd.f31.a, body := FuncBody.stmts hd.f31.b, scope := hd.f31.s, globals := 3, closure := [], defaults := Value.none, kwdefaults := Value.none, pyModule := Value.str (Str.ofString "law_nn0199_01") 477, code := Value.ref 313 } }
noncomputable def hd.tree_359 : Params → BT := fun P => BT.node (boot_o_0 P) (BT.node (boot_o_1 P) (BT.node (hd.o_353 P) (BT.node (boot_o_7 P) (BT.node (hd.o_52 P) (BT.node (hd.o_68 P) (BT.node (hd.o_102 P) (BT.node (hd.o_166 P) (BT.node (hd.o_298 P) BT.nil BT.nil) BT.nil) (BT.node (hd.o_232 P) BT.nil BT.nil)) (BT.node (hd.o_134 P) (BT.node (hd.o_200 P) (BT.node (hd.o_330 P) BT.nil BT.nil) BT.nil) (BT.node (hd.o_264 P) BT.nil BT.nil))) (BT.node (hd.o_86 P) (BT.node (hd.o_118 P) (BT.node (hd.o_184 P) (BT.node (hd.o_314 P) BT.nil BT.nil) BT.nil) (BT.node (hd.o_248 P) BT.nil BT.nil)) (BT.node (hd.o_150 P) (BT.node (hd.o_216 P) (BT.node (hd.o_346 P) BT.nil BT.nil) BT.nil) (BT.node (hd.o_282 P) BT.nil BT.nil)))) (BT.node (hd.o_60 P) (BT.node (hd.o_76 P) (BT.node (hd.o_110 P) (BT.node (hd.o_174 P) (BT.node (hd.o_306 P) BT.nil BT.nil) BT.nil) (BT.node (hd.o_240 P) BT.nil BT.nil)) (BT.node (hd.o_142 P) (BT.node (hd.o_208 P) (BT.node (hd.o_338 P) BT.nil BT.nil) BT.nil) (BT.node (hd.o_274 P) BT.nil BT.nil))) (BT.node (hd.o_94 P) (BT.node (hd.o_126 P) (BT.node (hd.o_192 P) (BT.node (hd.o_322 P) BT.nil BT.nil) BT.nil) (BT.node (hd.o_256 P) BT.nil BT.nil)) (BT.node (hd.o_158 P) (BT.node (hd.o_224 P) (BT.node (hd.o_356 P) BT.nil BT.nil) BT.nil) (BT.node (hd.o_290 P) BT.nil BT.nil))))) (BT.node (hd.o_43 P) (BT.node (hd.o_56 P) (BT.node (hd.o_72 P) (BT.node (hd.o_106 P) (BT.node (hd.o_170 P) (BT.node (hd.o_302 P) BT.nil BT.nil) BT.nil) (BT.node (hd.o_236 P) BT.nil BT.nil)) (BT.node (hd.o_138 P) (BT.node (hd.o_204 P) (BT.node (hd.o_334 P) BT.nil BT.nil) BT.nil) (BT.node (hd.o_268 P) BT.nil BT.nil))) (BT.node (hd.o_90 P) (BT.node (hd.o_122 P) (BT.node (hd.o_188 P) (BT.node (hd.o_318 P) BT.nil BT.nil) BT.nil) (BT.node (hd.o_252 P) BT.nil BT.nil)) (BT.node (hd.o_154 P) (BT.node (hd.o_220 P) (BT.node (hd.o_350 P) BT.nil BT.nil) BT.nil) (BT.node (hd.o_286 P) BT.nil BT.nil)))) (BT.node (hd.o_64 P) (BT.node (hd.o_82 P) (BT.node (hd.o_114 P) (BT.node (hd.o_178 P) (BT.node (hd.o_310 P) BT.nil BT.nil) BT.nil) (BT.node (hd.o_244 P) BT.nil BT.nil)) (BT.node (hd.o_146 P) (BT.node (hd.o_212 P) (BT.node (hd.o_342 P) BT.nil BT.nil) BT.nil) (BT.node (hd.o_278 P) BT.nil BT.nil))) (BT.node (hd.o_98 P) (BT.node (hd.o_130 P) (BT.node (hd.o_196 P) (BT.node (hd.o_326 P) BT.nil BT.nil) BT.nil) (BT.node (hd.o_260 P) BT.nil BT.nil)) (BT.node (hd.o_162 P) (BT.node (hd.o_228 P) BT.nil BT.nil) (BT.node (hd.o_294 P) BT.nil BT.nil)))))) (BT.node (boot_o_5 P) (BT.node (boot_o_9 P) (BT.node (hd.o_54 P) (BT.node (hd.o_70 P) (BT.node (hd.o_104 P) (BT.node (hd.o_168 P) (BT.node (hd.o_300 P) BT.nil BT.nil) BT.nil) (BT.node (hd.o_234 P) BT.nil BT.nil)) (BT.node (hd.o_136 P) (BT.node (hd.o_202 P) (BT.node (hd.o_332 P) BT.nil BT.nil) BT.nil) (BT.node (hd.o_266 P) BT.nil BT.nil))) (BT.node (hd.o_88 P) (BT.node (hd.o_120 P) (BT.node (hd.o_186 P) (BT.node (hd.o_316 P) BT.nil BT.nil) BT.nil) (BT.node (hd.o_250 P) BT.nil BT.nil)) (BT.node (hd.o_152 P) (BT.node (hd.o_218 P) (BT.node (hd.o_348 P) BT.nil BT.nil) BT.nil) (BT.node (hd.o_284 P) BT.nil BT.nil)))) (BT.node (hd.o_62 P) (BT.node (hd.o_78 P) (BT.node (hd.o_112 P) (BT.node (hd.o_176 P) (BT.node (hd.o_308 P) BT.nil BT.nil) BT.nil) (BT.node (hd.o_242 P) BT.nil BT.nil)) (BT.node (hd.o_144 P) (BT.node (hd.o_210 P) (BT.node (hd.o_340 P) BT.nil BT.nil) BT.nil) (BT.node (hd.o_276 P) BT.nil BT.nil))) (BT.node (hd.o_96 P) (BT.node (hd.o_128 P) (BT.node (hd.o_194 P) (BT.node (hd.o_324 P) BT.nil BT.nil) BT.nil) (BT.node (hd.o_258 P) BT.nil BT.nil)) (BT.node (hd.o_160 P) (BT.node (hd.o_226 P) (BT.node (hd.o_358 P) BT.nil BT.nil) BT.nil) (BT.node (hd.o_292 P) BT.nil BT.nil))))) (BT.node (hd.o_45 P) (BT.node (hd.o_58 P) (BT.node (hd.o_74 P) (BT.node (hd.o_108 P) (BT.node (hd.o_172 P) (BT.node (hd.o_304 P) BT.nil BT.nil) BT.nil) (BT.node (hd.o_238 P) BT.nil BT.nil)) (BT.node (hd.o_140 P) (BT.node (hd.o_206 P) (BT.node (hd.o_336 P) BT.nil BT.nil) BT.nil) (BT.node (hd.o_270 P) BT.nil BT.nil))) (BT.node (hd.o_92 P) (BT.node (hd.o_124 P) (BT.node (hd.o_190 P) (BT.node (hd.o_320 P) BT.nil BT.nil) BT.nil) (BT.node (hd.o_254 P) BT.nil BT.nil)) (BT.node (hd.o_156 P) (BT.node (hd.o_222 P) (BT.node (hd.o_352 P) BT.nil BT.nil) BT.nil) (BT.node (hd.o_288 P) BT.nil BT.nil)))) (BT.node (hd.o_66 P) (BT.node (hd.o_84 P) (BT.node (hd.o_116 P) (BT.node (hd.o_182 P) (BT.node (hd.o_312 P) BT.nil BT.nil) BT.nil) (BT.node (hd.o_246 P) BT.nil BT.nil)) (BT.node (hd.o_148 P) (BT.node (hd.o_214 P) (BT.node (hd.o_344 P) BT.nil BT.nil) BT.nil) (BT.node (hd.o_280 P) BT.nil BT.nil))) (BT.node (hd.o_100 P) (BT.node (hd.o_132 P) (BT.node (hd.o_198 P) (BT.node (hd.o_328 P) BT.nil BT.nil) BT.nil) (BT.node (hd.o_262 P) BT.nil BT.nil)) (BT.node (hd.o_164 P) (BT.node (hd.o_230 P) BT.nil BT.nil) (BT.node (hd.o_296 P) BT.nil BT.nil))))))) (BT.node (hd.o_49 P) (BT.node (boot_o_4 P) (BT.node (boot_o_8 P) (BT.node (hd.o_53 P) (BT.node (hd.o_69 P) (BT.node (hd.o_103 P) (BT.node (hd.o_167 P) (BT.node (hd.o_299 P) BT.nil BT.nil) BT.nil) (BT.node (hd.o_233 P) BT.nil BT.nil)) (BT.node (hd.o_135 P) (BT.node (hd.o_201 P) (BT.node (hd.o_331 P) BT.nil BT.nil) BT.nil) (BT.node (hd.o_265 P) BT.nil BT.nil))) (BT.node (hd.o_87 P) (BT.node (hd.o_119 P) (BT.node (hd.o_185 P) (BT.node (hd.o_315 P) BT.nil BT.nil) BT.nil) (BT.node (hd.o_249 P) BT.nil BT.nil)) (BT.node (hd.o_151 P) (BT.node (hd.o_217 P) (BT.node (hd.o_347 P) BT.nil BT.nil) BT.nil) (BT.node (hd.o_283 P) BT.nil BT.nil)))) (BT.node (hd.o_61 P) (BT.node (hd.o_77 P) (BT.node (hd.o_111 P) (BT.node (hd.o_175 P) (BT.node (hd.o_307 P) BT.nil BT.nil) BT.nil) (BT.node (hd.o_241 P) BT.nil BT.nil)) (BT.node (hd.o_143 P) (BT.node (hd.o_209 P) (BT.node (hd.o_339 P) BT.nil BT.nil) BT.nil) (BT.node (hd.o_275 P) BT.nil BT.nil))) (BT.node (hd.o_95 P) (BT.node (hd.o_127 P) (BT.node (hd.o_193 P) (BT.node (hd.o_323 P) BT.nil BT.nil) BT.nil) (BT.node (hd.o_257 P) BT.nil BT.nil)) (BT.node (hd.o_159 P) (BT.node (hd.o_225 P) (BT.node (hd.o_357 P) BT.nil BT.nil) BT.nil) (BT.node (hd.o_291 P) BT.nil BT.nil))))) (BT.node (hd.o_354 P) (BT.node (hd.o_57 P) (BT.node (hd.o_73 P) (BT.node (hd.o_107 P) (BT.node (hd.o_171 P) (BT.node (hd.o_303 P) BT.nil BT.nil) BT.nil) (BT.node (hd.o_237 P) BT.nil BT.nil)) (BT.node (hd.o_139 P) (BT.node (hd.o_205 P) (BT.node (hd.o_335 P) BT.nil BT.nil) BT.nil) (BT.node (hd.o_269 P) BT.nil BT.nil))) (BT.node (hd.o_91 P) (BT.node (hd.o_123 P) (BT.node (hd.o_189 P) (BT.node (hd.o_319 P) BT.nil BT.nil) BT.nil) (BT.node (hd.o_253 P) BT.nil BT.nil)) (BT.node (hd.o_155 P) (BT.node (hd.o_221 P) (BT.node (hd.o_351 P) BT.nil BT.nil) BT.nil) (BT.node (hd.o_287 P) BT.nil BT.nil)))) (BT.node (hd.o_65 P) (BT.node (hd.o_83 P) (BT.node (hd.o_115 P) (BT.node (hd.o_179 P) (BT.node (hd.o_311 P) BT.nil BT.nil) BT.nil) (BT.node (hd.o_245 P) BT.nil BT.nil)) (BT.node (hd.o_147 P) (BT.node (hd.o_213 P) (BT.node (hd.o_343 P) BT.nil BT.nil) BT.nil) (BT.node (hd.o_279 P) BT.nil BT.nil))) (BT.node (hd.o_99 P) (BT.node (hd.o_131 P) (BT.node (hd.o_197 P) (BT.node (hd.o_327 P) BT.nil BT.nil) BT.nil) (BT.node (hd.o_261 P) BT.nil BT.nil)) (BT.node (hd.o_163 P) (BT.node (hd.o_229 P) BT.nil BT.nil) (BT.node (hd.o_295 P) BT.nil BT.nil)))))) (BT.node (boot_o_6 P) (BT.node (boot_o_10 P) (BT.node (hd.o_55 P) (BT.node (hd.o_71 P) (BT.node (hd.o_105 P) (BT.node (hd.o_169 P) (BT.node (hd.o_301 P) BT.nil BT.nil) BT.nil) (BT.node (hd.o_235 P) BT.nil BT.nil)) (BT.node (hd.o_137 P) (BT.node (hd.o_203 P) (BT.node (hd.o_333 P) BT.nil BT.nil) BT.nil) (BT.node (hd.o_267 P) BT.nil BT.nil))) (BT.node (hd.o_89 P) (BT.node (hd.o_121 P) (BT.node (hd.o_187 P) (BT.node (hd.o_317 P) BT.nil BT.nil) BT.nil) (BT.node (hd.o_251 P) BT.nil BT.nil)) (BT.node (hd.o_153 P) (BT.node (hd.o_219 P) (BT.node (hd.o_349 P) BT.nil BT.nil) BT.nil) (BT.node (hd.o_285 P) BT.nil BT.nil)))) (BT.node (hd.o_63 P) (BT.node (hd.o_79 P) (BT.node (hd.o_113 P) (BT.node (hd.o_177 P) (BT.node (hd.o_309 P) BT.nil BT.nil) BT.nil) (BT.node (hd.o_243 P) BT.nil BT.nil)) (BT.node (hd.o_145 P) (BT.node (hd.o_211 P) (BT.node (hd.o_341 P) BT.nil BT.nil) BT.nil) (BT.node (hd.o_277 P) BT.nil BT.nil))) (BT.node (hd.o_97 P) (BT.node (hd.o_129 P) (BT.node (hd.o_195 P) (BT.node (hd.o_325 P) BT.nil BT.nil) BT.nil) (BT.node (hd.o_259 P) BT.nil BT.nil)) (BT.node (hd.o_161 P) (BT.node (hd.o_227 P) (BT.node (hd.o_359 P) BT.nil BT.nil) BT.nil) (BT.node (hd.o_293 P) BT.nil BT.nil))))) (BT.node (hd.o_46 P) (BT.node (hd.o_59 P) (BT.node (hd.o_75 P) (BT.node (hd.o_109 P) (BT.node (hd.o_173 P) (BT.node (hd.o_305 P) BT.nil BT.nil) BT.nil) (BT.node (hd.o_239 P) BT.nil BT.nil)) (BT.node (hd.o_141 P) (BT.node (hd.o_207 P) (BT.node (hd.o_337 P) BT.nil BT.nil) BT.nil) (BT.node (hd.o_273 P) BT.nil BT.nil))) (BT.node (hd.o_93 P) (BT.node (hd.o_125 P) (BT.node (hd.o_191 P) (BT.node (hd.o_321 P) BT.nil BT.nil) BT.nil) (BT.node (hd.o_255 P) BT.nil BT.nil)) (BT.node (hd.o_157 P) (BT.node (hd.o_223 P) (BT.node (hd.o_355 P) BT.nil BT.nil) BT.nil) (BT.node (hd.o_289 P) BT.nil BT.nil)))) (BT.node (hd.o_67 P) (BT.node (hd.o_85 P) (BT.node (hd.o_117 P) (BT.node (hd.o_183 P) (BT.node (hd.o_313 P) BT.nil BT.nil) BT.nil) (BT.node (hd.o_247 P) BT.nil BT.nil)) (BT.node (hd.o_149 P) (BT.node (hd.o_215 P) (BT.node (hd.o_345 P) BT.nil BT.nil) BT.nil) (BT.node (hd.o_281 P) BT.nil BT.nil))) (BT.node (hd.o_101 P) (BT.node (hd.o_133 P) (BT.node (hd.o_199 P) (BT.node (hd.o_329 P) BT.nil BT.nil) BT.nil) (BT.node (hd.o_263 P) BT.nil BT.nil)) (BT.node (hd.o_165 P) (BT.node (hd.o_231 P) BT.nil BT.nil) (BT.node (hd.o_297 P) BT.nil BT.nil)))))))
noncomputable def hd.heap_360 : Params → Heap := fun P => { objs := { toList := [boot_o_0 P, boot_o_1 P, hd.o_49 P, hd.o_353 P, boot_o_4 P, boot_o_5 P, boot_o_6 P, boot_o_7 P, boot_o_8 P, boot_o_9 P, boot_o_10 P, hd.o_43 P, hd.o_354 P, hd.o_45 P, hd.o_46 P, hd.o_52 P, hd.o_53 P, hd.o_54 P, hd.o_55 P, hd.o_56 P, hd.o_57 P, hd.o_58 P, hd.o_59 P, hd.o_60 P, hd.o_61 P, hd.o_62 P, hd.o_63 P, hd.o_64 P, hd.o_65 P, hd.o_66 P, hd.o_67 P, hd.o_68 P, hd.o_69 P, hd.o_70 P, hd.o_71 P, hd.o_72 P, hd.o_73 P, hd.o_74 P, hd.o_75 P, hd.o_76 P, hd.o_77 P, hd.o_78 P, hd.o_79 P, hd.o_82 P, hd.o_83 P, hd.o_84 P, hd.o_85 P, hd.o_86 P, hd.o_87 P, hd.o_88 P, hd.o_89 P, hd.o_90 P, hd.o_91 P, hd.o_92 P, hd.o_93 P, hd.o_94 P, hd.o_95 P, hd.o_96 P, hd.o_97 P, hd.o_98 P, hd.o_99 P, hd.o_100 P, hd.o_101 P, hd.o_102 P, hd.o_103 P, hd.o_104 P, hd.o_105 P, hd.o_106 P, hd.o_107 P, hd.o_108 P, hd.o_109 P, hd.o_110 P, hd.o_111 P, hd.o_112 P, hd.o_113 P, hd.o_114 P, hd.o_115 P, hd.o_116 P, hd.o_117 P, hd.o_118 P, hd.o_119 P, hd.o_120 P, hd.o_121 P, hd.o_122 P, hd.o_123 P, hd.o_124 P, hd.o_125 P, hd.o_126 P, hd.o_127 P, hd.o_128 P, hd.o_129 P, hd.o_130 P, hd.o_131 P, hd.o_132 P, hd.o_133 P, hd.o_134 P, hd.o_135 P, hd.o_136 P, hd.o_137 P, hd.o_138 P, hd.o_139 P, hd.o_140 P, hd.o_141 P, hd.o_142 P, hd.o_143 P, hd.o_144 P, hd.o_145 P, hd.o_146 P, hd.o_147 P, hd.o_148 P, hd.o_149 P, hd.o_150 P, hd.o_151 P, hd.o_152 P, hd.o_153 P, hd.o_154 P, hd.o_155 P, hd.o_156 P, hd.o_157 P, hd.o_158 P, hd.o_159 P, hd.o_160 P, hd.o_161 P, hd.o_162 P, hd.o_163 P, hd.o_164 P, hd.o_165 P, hd.o_166 P, hd.o_167 P, hd.o_168 P, hd.o_169 P, hd.o_170 P, hd.o_171 P, hd.o_172 P, hd.o_173 P, hd.o_174 P, hd.o_175 P, hd.o_176 P, hd.o_177 P, hd.o_178 P, hd.o_179 P, hd.o_182 P, hd.o_183 P, hd.o_184 P, hd.o_185 P, hd.o_186 P, hd.o_187 P, hd.o_188 P, hd.o_189 P, hd.o_190 P, hd.o_191 P, hd.o_192 P, hd.o_193 P, hd.o_194 P, hd.o_195 P, hd.o_196 P, hd.o_197 P, hd.o_198 P, hd.o_199 P, hd.o_200 P, hd.o_201 P, hd.o_202 P, hd.o_203 P, hd.o_204 P, hd.o_205 P, hd.o_206 P, hd.o_207 P, hd.o_208 P, hd.o_209 P, hd.o_210 P, hd.o_211 P, hd.o_212 P, hd.o_213 P, hd.o_214 P, hd.o_215 P, hd.o_216 P, hd.o_217 P, hd.o_218 P, hd.o_219 P, hd.o_220 P, hd.o_221 P, hd.o_222 P, hd.o_223 P, hd.o_224 P, hd.o_225 P, hd.o_226 P, hd.o_227 P, hd.o_228 P, hd.o_229 P, hd.o_230 P, hd.o_231 P, hd.o_232 P, hd.o_233 P, hd.o_234 P, hd.o_235 P, hd.o_236 P, hd.o_237 P, hd.o_238 P, hd.o_239 P, hd.o_240 P, hd.o_241 P, hd.o_242 P, hd.o_243 P, hd.o_244 P, hd.o_245 P, hd.o_246 P, hd.o_247 P, hd.o_248 P, hd.o_249 P, hd.o_250 P, hd.o_251 P, hd.o_252 P, hd.o_253 P, hd.o_254 P, hd.o_255 P, hd.o_256 P, hd.o_257 P, hd.o_258 P, hd.o_259 P, hd.o_260 P, hd.o_261 P, hd.o_262 P, hd.o_263 P, hd.o_264 P, hd.o_265 P, hd.o_266 P, hd.o_267 P, hd.o_268 P, hd.o_269 P, hd.o_270 P, hd.o_273 P, hd.o_274 P, hd.o_275 P, hd.o_276 P, hd.o_277 P, hd.o_278 P, hd.o_279 P, hd.o_280 P, hd.o_281 P, hd.o_282 P, hd.o_283 P, hd.o_284 P, hd.o_285 P, hd.o_286 P, hd.o_287 P, hd.o_288 P, hd.o_289 P, hd.o_290 P, hd.o_291 P, hd.o_292 P, hd.o_293 P, hd.o_294 P, hd.o_295 P, hd.o_296 P, hd.o_297 P, hd.o_298 P, hd.o_299 P, hd.o_300 P, hd.o_301 P, hd.o_302 P, hd.o_303 P, hd.o_304 P, hd.o_305 P, hd.o_306 P, hd.o_307 P, hd.o_308 P, hd.o_309 P, hd.o_310 P, hd.o_311 P, hd.o_312 P, hd.o_313 P, hd.o_314 P, hd.o_315 P, hd.o_316 P, hd.o_317 P, hd.o_318 P, hd.o_319 P, hd.o_320 P, hd.o_321 P, hd.o_322 P, hd.o_323 P, hd.o_324 P, hd.o_325 P, hd.o_326 P, hd.o_327 P, hd.o_328 P, hd.o_329 P, hd.o_330 P, hd.o_331 P, hd.o_332 P, hd.o_333 P, hd.o_334 P, hd.o_335 P, hd.o_336 P, hd.o_337 P, hd.o_338 P, hd.o_339 P, hd.o_340 P, hd.o_341 P, hd.o_342 P, hd.o_343 P, hd.o_344 P, hd.o_345 P, hd.o_346 P, hd.o_347 P, hd.o_348 P, hd.o_349 P, hd.o_350 P, hd.o_351 P, hd.o_352 P, hd.o_355 P, hd.o_356 P, hd.o_357 P, hd.o_358 P, hd.o_359 P] } }
noncomputable abbrev hd.pg : Program := PySem.Challenge.rw_nn0199_01.row.prog
abbrev hd.p0 : Pos := { line := 0, col := 0, endLine := 0, endCol := 0 }
noncomputable abbrev hd.cd : Code := Code.body (behindTheImports hd.pg) hd.env_41
noncomputable abbrev hd.at (t : Params → BT) (n k : Nat) (w : World) (os : OsState) : SharedT := { tree := t w.params, n := n, life := {}, gens := Array.mk [], drawn := {}, toks := k, os := os }
noncomputable abbrev hd.boot (w : World) (os : OsState) : Shared := ⟨boot_heap w.params, Array.mk [], boot_drawn, boot_toks, os⟩
noncomputable abbrev hd.last (w : World) (os : OsState) : Shared := ⟨hd.heap_360 w.params, Array.mk [], {}, 590, os⟩
theorem hd.opened : ∀ w : World, (fencedOpening treeTable hd.pg w 3486).map (fun s => (s.heap, s.gens, s.drawn, s.toks)) = some (boot_heap w.params, Array.mk [], boot_drawn, boot_toks) :=
  boot_open (by rfl) (by decide) fun s => rfl
theorem hd.size (w : World) : ((boot_heap w.params).isNs mainGlobals && (Array.mk [] : Array GenState).size == 0, (boot_heap w.params).objs.size, (boot_heap w.params).nsMap mainGlobals "__annotations__") = (true, 11, some (Value.ref 6)) := by kernel_rfl
theorem hd.pre (w : World) (os : OsState) : topGo treeTable hd.pg w 11 (some (.ref 6)) 12 (hd.boot w os) (topStub hd.pg) = some ((⟨hd.heap_46 w.params, Array.mk [], {}, 187, os⟩ : Shared), (⟨denote treeTable hd.cd, hd.cd, hd.p0, [topFrame hd.p0]⟩ : Thread)) := by kernel_rfl
theorem hd.blk (w : World) (os : OsState) : segRun treeTable hd.pg w 11 (some (.ref 6)) 1 1 (⟨hd.heap_46 w.params, Array.mk [], {}, 187, os⟩ : Shared) (blockOf (behindTheImports hd.pg) hd.env_41 hd.cd hd.p0 [topFrame hd.p0]) = some (.next, (hd.at hd.tree_47 15 187 w os).abs, hd.cd, hd.p0) := by kernel_rfl
theorem hd.run_49 (w : World) (os : OsState) : segRunT treeTable hd.pg w 11 (some (.ref 6)) 1 287 (hd.at hd.tree_47 15 187 w os) (piecesOf hd.sts_49 hd.env_41 hd.cd hd.p0 [topFrame hd.p0]) = some (.next, hd.at hd.tree_79 43 231 w os, hd.cd, ⟨11, 0, 11, 8⟩) := by
  rewrite [PySem.W.Fast.te10110043849684766642, PySem.W.Fast.te14364793385576792824]
  kernel_rfl
theorem hd.run_80 (w : World) (os : OsState) : segRunT treeTable hd.pg w 11 (some (.ref 6)) 1 583 (hd.at hd.tree_79 43 231 w os) (piecesOf hd.sts_80 hd.env_41 hd.cd ⟨11, 0, 11, 8⟩ [topFrame hd.p0]) = some (.next, hd.at hd.tree_179 141 356 w os, hd.cd, ⟨12, 0, 65, 67⟩) := by
  rewrite [PySem.W.Fast.te10110043849684766642, PySem.W.Fast.te14364793385576792824]
  kernel_rfl
theorem hd.run_180 (w : World) (os : OsState) : segRunT treeTable hd.pg w 11 (some (.ref 6)) 1 391 (hd.at hd.tree_179 141 356 w os) (piecesOf hd.sts_180 hd.env_41 hd.cd ⟨12, 0, 65, 67⟩ [topFrame hd.p0]) = some (.next, hd.at hd.tree_270 230 462 w os, hd.cd, ⟨116, 0, 119, 48⟩) := by
  rewrite [PySem.W.Fast.te10110043849684766642, PySem.W.Fast.te14364793385576792824]
  kernel_rfl
theorem hd.run_271 (w : World) (os : OsState) : segRunT treeTable hd.pg w 11 (some (.ref 6)) 1 397 (hd.at hd.tree_270 230 462 w os) (piecesOf hd.sts_271 hd.env_41 hd.cd ⟨116, 0, 119, 48⟩ [topFrame hd.p0]) = some (.next, hd.at hd.tree_352 310 584 w os, hd.cd, ⟨227, 0, 236, 67⟩) := by
  rewrite [PySem.W.Fast.te10110043849684766642, PySem.W.Fast.te14364793385576792824]
  kernel_rfl
theorem hd.run_353 (w : World) (os : OsState) : segRunT treeTable hd.pg w 11 (some (.ref 6)) 1 27 (hd.at hd.tree_352 310 584 w os) (piecesOf hd.sts_353 hd.env_41 hd.cd ⟨227, 0, 236, 67⟩ [topFrame hd.p0]) = some (.next, hd.at hd.tree_359 315 590 w os, hd.cd, ⟨237, 0, 269, 111⟩) := by
  rewrite [PySem.W.Fast.te10110043849684766642, PySem.W.Fast.te14364793385576792824]
  kernel_rfl
theorem hd.fin (w : World) (os : OsState) : topRun treeTable hd.pg w 11 (some (.ref 6)) 2 (hd.at hd.tree_359 315 590 w os).abs (⟨doneF .next, hd.cd, ⟨237, 0, 269, 111⟩, [topFrame hd.p0]⟩ : Thread) = some (hd.last w os) := by kernel_rfl
theorem hd.body_is : behindTheImports hd.pg = hd.sts_49 ++ (hd.sts_80 ++ (hd.sts_180 ++ (hd.sts_271 ++ (hd.sts_353 ++ [])))) := by kernel_rfl
theorem hd.ran (w : World) (os : OsState) : topRun treeTable hd.pg w 11 (some (.ref 6)) (12 + (1 + (287 + (583 + (391 + (397 + (27 + 2))))))) (hd.boot w os) (topStub hd.pg) = some (hd.last w os) := by
  refine go_top (hd.pre w os) ?_
  refine piece_block (hd.blk w os) ?_
  have key : ∀ b, b = hd.sts_49 ++ (hd.sts_80 ++ (hd.sts_180 ++ (hd.sts_271 ++ (hd.sts_353 ++ [])))) → topRun treeTable hd.pg w 11 (some (.ref 6)) (287 + (583 + (391 + (397 + (27 + 2))))) (hd.at hd.tree_47 15 187 w os).abs (restOf b hd.env_41 hd.cd hd.p0 [topFrame hd.p0]) = some (hd.last w os) := fun b hb => by
    subst hb
    exact piece_app (segRun_of (hd.run_49 w os)) (piece_app (segRun_of (hd.run_80 w os)) (piece_app (segRun_of (hd.run_180 w os)) (piece_app (segRun_of (hd.run_271 w os)) (piece_app (segRun_of (hd.run_353 w os)) (piece_nil (hd.fin w os))))))
  exact key _ hd.body_is
theorem hd.kept (w : World) (os : OsState) : (staticsOk (importedModules hd.pg.main.body) (boot_heap w.params) (hd.heap_360 w.params) && namesBound hd.pg (hd.heap_360 w.params) && gensDone (hd.last w os) && laidKept (boot_heap w.params) (hd.heap_360 w.params)) = true := by kernel_rfl
theorem hd.seenAll (w : World) (os : OsState) : openSeen hd.view_39 [Str.ofString "PaperError"] (importedModules hd.pg.main.body) (fun s => xlAt hd.view_39 [] s && recOk (RowW.records PySem.Challenge.rw_nn0199_01.row.toRowW) s) true (hd.last w os) = openGood hd.view_39 [Str.ofString "PaperError"] := by
  rewrite [PySem.W.Fast.te4187177175401517315]
  kernel_rfl
theorem hd.noted (w : World) (os : OsState) : Hook.obs hd.hook (hd.last w os) = Hook.val hd.hook w := by kernel_rfl
theorem hd.left : LeftO hd.pg hd.view_39 [Str.ofString "PaperError"] (fun s => xlAt hd.view_39 [] s && recOk (RowW.records PySem.Challenge.rw_nn0199_01.row.toRowW) s) (Hook.obs hd.hook) (Hook.val hd.hook) 3486 :=
  LeftO.of_pieces (H₀ := boot_heap) (H₁ := hd.heap_360) (gs₀ := Array.mk []) (gs₁ := Array.mk []) (d₀ := boot_drawn) (d₁ := {}) (k₀ := boot_toks) (k₁ := 590) (m₀ := 11) (ann := some (.ref 6)) (M := 12 + (1 + (287 + (583 + (391 + (397 + (27 + 2)))))))
    hd.opened hd.size hd.ran (by decide) fun w => funext fun os => looks_pair (hd.kept w os) (looks_pair (hd.seenAll w os) (hd.noted w os))
end
end Mine
open PySem.Calls PySem.Spec
namespace Mine
-- part L1
section
abbrev pw : Program := PySem.Challenge.pw_nn0199_01
noncomputable abbrev KW (w : World) : Frag := hd.heap_39 w.params
abbrev aDec : Addr := 136

/-- what is known of the whole text in a heap -/
structure Gl (w : World) (h : Heap) : Prop where
  kin : (KW w).In h
  top : ∃ lo mg mb mean, Top hd.view_39 lo mean mg mb h

def Stay (h h' : Heap) : Prop := ∀ b o, h.get? b = some o → h'.get? b = some o
theorem Stay.refl (h : Heap) : Stay h h := fun _ _ e => e
theorem Stay.trans {a b c : Heap} (x : Stay a b) (y : Stay b c) : Stay a c := fun _ _ e => y _ _ (x _ _ e)
theorem Gl.keeps {w : World} {h h' : Heap} (G : Gl w h) (k : Stay h h') : Gl w h' :=
  ⟨G.kin.keeps k, let ⟨a, b, c, d, T⟩ := G.top; ⟨a, b, c, d, T.keeps k⟩⟩
theorem Stay.size {h h' : Heap} (k : Stay h h') {a : Addr} (ha : a < h.objs.size → ∃ o, h.get? a = some o) : a < h.objs.size → a < h'.objs.size := fun hl => by
  obtain ⟨o, e⟩ := ha hl
  exact Heap.lt_size (k _ _ e)

/-- data -/
inductive D where
  | none
  | bool (b : Bool)
  | int (i : Int)
  | str (x : Str)
  | bytes (b : Array UInt8)
  | dec (t : Int) (p : Nat)
  | tup (l : List D)
  | lst (l : List D)
  | raw (v : Value)

def decObj (h1 h2 : Int) (k1 k2 u1 u2 : Tok) (t p : Int) (n : Nat) : Obj :=
  dictOf [⟨h1, .str (Str.ofString "top") k1, .int t u1⟩, ⟨h2, .str (Str.ofString "places") k2, .int p u2⟩] n
def DecAt (P : Addr → Prop) (h : Heap) (x : Addr) (t : Int) (p : Nat) : Prop :=
  ∃ dx h1 h2 k1 k2 u1 u2 n, h.get? x = some (instObj aDec dx) ∧ h.get? dx = some (decObj h1 h2 k1 k2 u1 u2 t (p : Int) n) ∧ ¬ P x ∧ ¬ P dx

mutual
inductive Rd (P : Addr → Prop) (h : Heap) : Value → D → Prop
  | none : Rd P h .none .none
  | bool (b : Bool) : Rd P h (.bool b) (.bool b)
  | int (i : Int) (t : Tok) : Rd P h (.int i t) (.int i)
  | str (x : Str) (t : Tok) : Rd P h (.str x t) (.str x)
  | bytes (b : Array UInt8) (t : Tok) : Rd P h (.bytes b t) (.bytes b)
  | dec {x : Addr} {t : Int} {p : Nat} : DecAt P h x t p → Rd P h (.ref x) (.dec t p)
  | tup {a : Addr} {vs : List Value} {ds : List D} : IsTup h a vs.toArray → ¬ P a → RdAll P h vs ds → Rd P h (.ref a) (.tup ds)
  | lst {a : Addr} {vs : List Value} {ds : List D} : h.IsList a vs.toArray → ¬ P a → RdAll P h vs ds → Rd P h (.ref a) (.lst ds)
  | raw (v : Value) : Rd P h v (.raw v)
inductive RdAll (P : Addr → Prop) (h : Heap) : List Value → List D → Prop
  | nil : RdAll P h [] []
  | cons {v : Value} {vs : List Value} {d : D} {ds : List D} : Rd P h v d → RdAll P h vs ds → RdAll P h (v :: vs) (d :: ds)
end

/-- all but what P names stays -/
def Ext (P : Addr → Prop) (h h' : Heap) : Prop := ∀ b o, ¬ P b → h.get? b = some o → h'.get? b = some o
theorem Ext.refl (P : Addr → Prop) (h : Heap) : Ext P h h := fun _ _ _ e => e
theorem Ext.trans {P : Addr → Prop} {a b c : Heap} (x : Ext P a b) (y : Ext P b c) : Ext P a c := fun _ _ n e => y _ _ n (x _ _ n e)
theorem Stay.ext {P : Addr → Prop} {a b : Heap} (x : Stay a b) : Ext P a b := fun _ _ _ e => x _ _ e
theorem DecAt.ext {P : Addr → Prop} {h h' : Heap} (k : Ext P h h') {x : Addr} {t : Int} {p : Nat} (y : DecAt P h x t p) : DecAt P h' x t p := by
  obtain ⟨dx, h1, h2, k1, k2, u1, u2, n, a, b, c, d⟩ := y
  exact ⟨dx, h1, h2, k1, k2, u1, u2, n, k _ _ c a, k _ _ d b, c, d⟩
mutual
theorem Rd.ext {P : Addr → Prop} {h h' : Heap} (k : Ext P h h') : ∀ {v : Value} {d : D}, Rd P h v d → Rd P h' v d
  | _, _, .none => .none
  | _, _, .bool b => .bool b
  | _, _, .int i t => .int i t
  | _, _, .str x t => .str x t
  | _, _, .bytes b t => .bytes b t
  | _, _, .dec y => .dec (y.ext k)
  | _, _, .tup y n r => .tup (let ⟨o, ho, z⟩ := y; ⟨o, k _ _ n ho, z⟩) n (RdAll.ext k r)
  | _, _, .lst y n r => .lst (let ⟨o, ho, z⟩ := y; ⟨o, k _ _ n ho, z⟩) n (RdAll.ext k r)
  | _, _, .raw v => .raw v
theorem RdAll.ext {P : Addr → Prop} {h h' : Heap} (k : Ext P h h') : ∀ {vs : List Value} {ds : List D}, RdAll P h vs ds → RdAll P h' vs ds
  | _, _, .nil => .nil
  | _, _, .cons y r => .cons (Rd.ext k y) (RdAll.ext k r)
end
theorem DecAt.le {P P' : Addr → Prop} {h : Heap} (k : ∀ a, (∃ o, h.get? a = some o) → P' a → P a) {x : Addr} {t : Int} {p : Nat} (y : DecAt P h x t p) : DecAt P' h x t p := by
  obtain ⟨dx, h1, h2, k1, k2, u1, u2, n, a, b, c, d⟩ := y
  exact ⟨dx, h1, h2, k1, k2, u1, u2, n, a, b, fun z => c (k _ ⟨_, a⟩ z), fun z => d (k _ ⟨_, b⟩ z)⟩
mutual
theorem Rd.le {P P' : Addr → Prop} {h : Heap} (k : ∀ a, (∃ o, h.get? a = some o) → P' a → P a) : ∀ {v : Value} {d : D}, Rd P h v d → Rd P' h v d
  | _, _, .none => .none
  | _, _, .bool b => .bool b
  | _, _, .int i t => .int i t
  | _, _, .str x t => .str x t
  | _, _, .bytes b t => .bytes b t
  | _, _, .dec y => .dec (y.le k)
  | _, _, .tup y n r => .tup y (fun z => n (k _ (let ⟨o, ho, _⟩ := y; ⟨o, ho⟩) z)) (RdAll.le k r)
  | _, _, .lst y n r => .lst y (fun z => n (k _ (let ⟨o, ho, _⟩ := y; ⟨o, ho⟩) z)) (RdAll.le k r)
  | _, _, .raw v => .raw v
theorem RdAll.le {P P' : Addr → Prop} {h : Heap} (k : ∀ a, (∃ o, h.get? a = some o) → P' a → P a) : ∀ {vs : List Value} {ds : List D}, RdAll P h vs ds → RdAll P' h vs ds
  | _, _, .nil => .nil
  | _, _, .cons y r => .cons (Rd.le k y) (RdAll.le k r)
end

/-- room -/
structure AOk (A : Around) (k : Nat) : Prop where
  hh : A.handled = none
  dp : A.depth + 2 * k + 2 ≤ 1000
  un : A.units + 12 * k + 100 ≤ 9900
theorem AOk.room {A : Around} {k : Nat} (x : AOk A k) : A.depth < recursionLimit := by have := x.dp; show A.depth < 1000; omega
theorem AOk.units {A : Around} {k : Nat} (x : AOk A k) : A.units + 64 < cLine := by have := x.un; show A.units + 64 < 9900; omega
theorem AOk.units0 {A : Around} {k : Nat} (x : AOk A k) : A.units < cLine := by have := x.un; show A.units < 9900; omega
theorem AOk.le {A : Around} {k k' : Nat} (x : AOk A k) (h : k' ≤ k) : AOk A k' := ⟨x.hh, by have := x.dp; omega, by have := x.un; omega⟩
theorem AOk.deeper {A : Around} {k : Nat} (x : AOk A (k + 1)) (env : Env) : AOk (A.deeper env) k :=
  ⟨x.hh, by have := x.dp; show A.depth + 1 + 2 * k + 2 ≤ 1000; omega, by have := x.un; show A.units + 3 + 12 * k + 100 ≤ 9900; omega⟩

abbrev NoE : Value → Shared → Prop := fun _ _ => False

/-- the contract of a call that gives back a datum and changes nothing -/
def Cl (w : World) (k : Nat) (f : Value) (ds : List D) (d : D) : Prop :=
  ∀ (A : Around) (P : Addr → Prop) (s : Shared) (vs : List Value) (Q E : Value → Shared → Prop),
    AOk A k → Gl w s.heap → (∀ a, P a → ∃ o, s.heap.get? a = some o) → RdAll P s.heap vs ds →
    (∀ v h' tk, Stay s.heap h' → Rd P h' v d → Q v { s with heap := h', toks := tk }) →
    wpAny (model pw w) A (call f vs) Q E s

structure Cx where
  w : World
  A : Around
  h₀ : Heap
  env : Env
  P : Addr → Prop
  I : Heap → Prop
  S : Addr → Prop

structure Cx.Ok (c : Cx) (k : Nat) : Prop where
  gl : Gl c.w c.h₀
  room : AOk c.A k
  fn : c.env.scope.kind = .function
  eg : c.env.globals = mainGlobals
  eb : c.env.builtins = builtinsNs
  PL : c.P c.env.locals
  Pc : ∀ x a, c.env.cells.lookup x = some a → c.P a
  hL : c.h₀.get? c.env.locals = none
  hc : ∀ x a, c.env.cells.lookup x = some a → c.h₀.get? a = none
  apart : ∀ x a, c.env.cells.lookup x = some a → a ≠ c.env.locals
  inj : ∀ x y a, c.env.cells.lookup x = some a → c.env.cells.lookup y = some a → x = y
  inv : ∀ h h', c.I h → (∀ b o, c.S b → h.get? b = some o → h'.get? b = some o) → c.I h'
  SL : ¬ c.S c.env.locals

abbrev Rho := Str → Option D
def upd (ρ : Rho) (x : Str) (d : D) : Rho := fun y => if y = x then some d else ρ y
def emp : Rho := fun _ => none

def Bound (env : Env) (m cm : Str → Option Value) (x : Str) (v : Value) : Prop :=
  (x == ("__debug__" : Str)) = false ∧
  ((env.kindOf x = some .local ∧ m x = some v) ∨ (env.kindOf x = some .cell ∧ (∃ a, env.cells.lookup x = some a) ∧ cm x = some v) ∨
   (env.kindOf x = some .free ∧ (∃ a, env.cells.lookup x = some a) ∧ cm x = some v ∧ (x == ("__classdict__" : Str)) = false))

structure Vars (c : Cx) (h : Heap) (ρ : Rho) (m cm : Str → Option Value) : Prop where
  ns : h.Ns c.env.locals m
  cell : ∀ x a, c.env.cells.lookup x = some a → h.IsCell a (cm x)
  rd : ∀ x d, ρ x = some d → ∃ v, Bound c.env m cm x v ∧ Rd c.P h v d

structure St (c : Cx) (h : Heap) (ρ : Rho) : Prop where
  keep : Stay c.h₀ h
  PB : ∀ a, c.P a → ∃ o, h.get? a = some o
  SB : ∀ a, c.S a → ∃ o, h.get? a = some o
  inv : c.I h
  vars : ∃ m cm, Vars c h ρ m cm

theorem Heap.size_of_stay {h h' : Heap} (k : Stay h h') {a : Addr} {o : Obj} (e : h.get? a = some o) : a < h'.objs.size := Heap.lt_size (k _ _ e)
end
-- part L2
section
theorem St.gl {c : Cx} {k : Nat} {h : Heap} {ρ : Rho} (o : c.Ok k) (x : St c h ρ) : Gl c.w h := o.gl.keeps x.keep
theorem St.stay {c : Cx} {k : Nat} {h h' : Heap} {ρ : Rho} (o : c.Ok k) (x : St c h ρ) (y : Stay h h') : St c h' ρ := by
  obtain ⟨m, cm, v⟩ := x.vars
  refine ⟨x.keep.trans y, fun a ha => let ⟨o, e⟩ := x.PB a ha; ⟨o, y _ _ e⟩, fun a ha => let ⟨o, e⟩ := x.SB a ha; ⟨o, y _ _ e⟩, o.inv _ _ x.inv fun b o _ e => y _ _ e, m, cm, v.ns.keeps y, fun x a e => (v.cell x a e).keeps y, fun z d e => ?_⟩
  obtain ⟨u, b, r⟩ := v.rd z d e
  exact ⟨u, b, r.ext y.ext⟩

/-- evaluation of an expression, the answer not more than described -/
def Ev (c : Cx) (ρ : Rho) (e : PySem.Expr) (Φ : D → Prop) : Prop :=
  ∀ (s : Shared) (Q : Value → Shared → Prop), St c s.heap ρ →
    (∀ v d h' tk, Φ d → St c h' ρ → Rd c.P h' v d → Ext c.P s.heap h' → Q v { s with heap := h', toks := tk }) →
    wpAny (model pw c.w) c.A (eval e c.env) Q NoE s
def Evs (c : Cx) (ρ : Rho) (es : List PySem.Expr) (pos : Pos) (Φ : List D → Prop) : Prop :=
  ∀ (s : Shared) (Q : List Value → Shared → Prop), St c s.heap ρ →
    (∀ vs ds h' tk, Φ ds → St c h' ρ → RdAll c.P h' vs ds → Ext c.P s.heap h' → Q vs { s with heap := h', toks := tk }) →
    wpAny (model pw c.w) c.A (spliced (backTo pos (starEach es c.env))) Q NoE s
/-- a test -/
def Tr (c : Cx) (ρ : Rho) (e : PySem.Expr) (Φ : Bool → Prop) : Prop :=
  ∀ (s : Shared) (Q : Bool → Shared → Prop), St c s.heap ρ →
    (∀ b h' tk, Φ b → St c h' ρ → Ext c.P s.heap h' → Q b { s with heap := h', toks := tk }) →
    wpAny (model pw c.w) c.A (isTrue e c.env (eval e c.env)) Q NoE s

theorem log2_of_bits {y : Int} {m : Nat} (hm : 0 < m) (hb : Builtin.Int.intBits y ≤ m) : y.natAbs.log2 < m := by
  have h := intBits_le_iff.mp hb
  by_cases h0 : y.natAbs = 0
  · rw [h0]; simpa using hm
  · exact (Nat.log2_lt h0).mpr h
theorem noPylong_bits {x y : Int} (hb : Builtin.Int.intBits y ≤ 8000) : Builtin.divisionGoesByPylong x y = false :=
  PyProof.noPylong_of_log2 (Nat.lt_of_lt_of_le (log2_of_bits (by decide) hb) (by decide))

abbrev is {α : Type} (d : α) : α → Prop := fun x => x = d

section
variable {c : Cx} {ρ : Rho} {k : Nat}

theorem Ev.mono {e : PySem.Expr} {Φ Ψ : D → Prop} (h : Ev c ρ e Φ) (i : ∀ d, Φ d → Ψ d) : Ev c ρ e Ψ := fun s Q hs hQ => h s Q hs fun v d h' tk x => hQ v d h' tk (i _ x)

theorem Ev.name {x : Str} {pos : Pos} {d : D} (o : c.Ok k) (hx : ρ x = some d) : Ev c ρ (.Name x pos) (is d) := by
  intro s Q hs hQ
  obtain ⟨m, cm, v⟩ := hs.vars
  obtain ⟨u, ⟨hd, b⟩, r⟩ := v.rd x d hx
  have fin : Q u s := hQ u d s.heap s.toks rfl hs r (Ext.refl _ _)
  rcases b with ⟨hk, e⟩ | ⟨hk, ⟨a, ha⟩, e⟩ | ⟨hk, ⟨a, ha⟩, e, hn⟩
  · exact wpAny_Name (wpAny_loadName_local o.fn hk v.ns e fin) hd
  · exact wpAny_Name (wpAny_loadName_cell o.fn hk ha (e ▸ v.cell x a ha) fin) hd
  · exact wpAny_Name (wpAny_loadName_free o.fn hk ha (e ▸ v.cell x a ha) fin hn) hd

/-- a name of the text's top -/
theorem Ev.global {x : Str} {pos : Pos} {v : Value} {d : D} (o : c.Ok k) (hk : c.env.kindOf x = some .globalImplicit) (e : nsIn (KW c.w) mainGlobals x = some (some v)) (hd : (x == ("__debug__" : Str)) = false)
    (r : ∀ P h, Rd P h v d) : Ev c ρ (.Name x pos) (is d) := by
  intro s Q hs hQ
  have G := hs.gl o
  obtain ⟨lo, mg, mb, mean, T⟩ := G.top
  exact Name_function_global o.fn hk (loadGlobal_global (o.eg ▸ T.g) (mg_of G.kin T.g e) (hQ v d s.heap s.toks rfl hs (r _ _) (Ext.refl _ _))) hd

theorem Ev.int {i : Int} {n : Nat} {pos : Pos} : Ev c ρ (.Constant (.int i) n pos) (is (.int i)) := by
  intro s Q hs hQ
  exact wpAny_Constant_int (hQ _ _ s.heap _ rfl hs (.int _ _) (Ext.refl _ _))
theorem Ev.str {x : Str} {n : Nat} {pos : Pos} : Ev c ρ (.Constant (.str x) n pos) (is (.str x)) := by
  intro s Q hs hQ
  exact wpAny_Constant_str (hQ _ _ s.heap _ rfl hs (.str _ _) (Ext.refl _ _))
theorem Ev.bool {b : Bool} {n : Nat} {pos : Pos} : Ev c ρ (.Constant (.bool b) n pos) (is (.bool b)) := by
  intro s Q hs hQ
  exact wpAny_Constant_bool (hQ _ _ s.heap s.toks rfl hs (.bool _) (Ext.refl _ _))
theorem Ev.none {n : Nat} {pos : Pos} : Ev c ρ (.Constant .none n pos) (is .none) := by
  intro s Q hs hQ
  exact wpAny_Constant_none (hQ _ _ s.heap s.toks rfl hs .none (Ext.refl _ _))

/-- two operands, then an operation on values that changes nothing but the tokens -/
theorem Ev.binop {l r : PySem.Expr} {op : Operator} {pos : Pos} {Φ Ψ Θ : D → Prop} (hl : Ev c ρ l Φ) (hr : Ev c ρ r Ψ)
    (ho : ∀ (a b : D), Φ a → Ψ b → ∀ (v u : Value) (s : Shared) (Q : Value → Shared → Prop), St c s.heap ρ → Rd c.P s.heap v a → Rd c.P s.heap u b →
      (∀ y d tk, Θ d → Rd c.P s.heap y d → Q y { s with toks := tk }) → wpAny (model pw c.w) c.A (binaryOp op v u) Q NoE s) : Ev c ρ (.BinOp l op r pos) Θ := by
  intro s Q hs hQ
  refine wpAny_BinOp (hl s _ hs fun v a h₁ t₁ ha s₁ ra e₁ => hr _ _ s₁ fun u b h₂ t₂ hb s₂ rb e₂ => ?_)
  exact ho a b ha hb v u _ _ s₂ (ra.ext e₂) rb fun y d tk hd hy => hQ y d h₂ tk hd s₂ hy (e₁.trans e₂)

theorem Ev.int2 {l r : PySem.Expr} {op : Operator} {pos : Pos} {x y z : Int} (hl : Ev c ρ l (is (.int x))) (hr : Ev c ρ r (is (.int y)))
    (ho : ∀ (t u : Tok) (s : Shared) (Q : Value → Shared → Prop), (∀ t' tk, Q (.int z t') { s with toks := tk }) → wpAny (model pw c.w) c.A (binaryOp op (.int x t) (.int y u)) Q NoE s) :
    Ev c ρ (.BinOp l op r pos) (is (.int z)) :=
  Ev.binop hl hr fun a b ea eb v u s Q _ ra rb hQ => by
    cases ea; cases eb; cases ra; cases rb
    exact ho _ _ _ _ fun t' tk => hQ _ _ _ rfl (.int _ _)
theorem Ev.add {l r : PySem.Expr} {pos : Pos} {x y : Int} (hl : Ev c ρ l (is (.int x))) (hr : Ev c ρ r (is (.int y))) : Ev c ρ (.BinOp l .Add r pos) (is (.int (x + y))) :=
  Ev.int2 hl hr fun _ _ _ _ h => PyProof.Rows.add_int (h _ _)
theorem Ev.sub {l r : PySem.Expr} {pos : Pos} {x y : Int} (hl : Ev c ρ l (is (.int x))) (hr : Ev c ρ r (is (.int y))) : Ev c ρ (.BinOp l .Sub r pos) (is (.int (x - y))) :=
  Ev.int2 hl hr fun _ _ _ _ h => PyProof.Rows.sub_int (h _ _)
theorem Ev.mul {l r : PySem.Expr} {pos : Pos} {x y : Int} (hl : Ev c ρ l (is (.int x))) (hr : Ev c ρ r (is (.int y))) (hm : IntMulOk x y) : Ev c ρ (.BinOp l .Mult r pos) (is (.int (x * y))) :=
  Ev.int2 hl hr fun _ _ _ _ h => PyProof.Rows.mul_int (h _ _) hm
theorem Ev.floordiv {l r : PySem.Expr} {pos : Pos} {x y : Int} (hl : Ev c ρ l (is (.int x))) (hr : Ev c ρ r (is (.int y))) (hy : y ≠ 0) (hb : Builtin.Int.intBits y ≤ 8000) : Ev c ρ (.BinOp l .FloorDiv r pos) (is (.int (x.fdiv y))) :=
  Ev.int2 hl hr fun _ _ _ _ h => PyProof.Rows.floordiv_int hy (h _ _) (.inl (noPylong_bits hb))
theorem Ev.mod {l r : PySem.Expr} {pos : Pos} {x y : Int} (hl : Ev c ρ l (is (.int x))) (hr : Ev c ρ r (is (.int y))) (hy : y ≠ 0) : Ev c ρ (.BinOp l .Mod r pos) (is (.int (x.fmod y))) :=
  Ev.int2 hl hr fun _ _ _ _ h => PyProof.Rows.mod_int hy (h _ _)
theorem Ev.pow {l r : PySem.Expr} {pos : Pos} {x y : Int} (hl : Ev c ρ l (is (.int x))) (hr : Ev c ρ r (is (.int y))) (hn : 0 ≤ y) (hsz : (Builtin.Int.intBits x : Int) * y ≤ 2 ^ 27) : Ev c ρ (.BinOp l .Pow r pos) (is (.int (x ^ y.toNat))) :=
  Ev.int2 hl hr fun _ _ _ _ h => PyProof.Rows.pow_int hn hsz (h _ _)

theorem Ev.neg {x : PySem.Expr} {pos : Pos} {i : Int} (hx : Ev c ρ x (is (.int i))) : Ev c ρ (.UnaryOp .USub x pos) (is (.int (-i))) := by
  intro s Q hs hQ
  refine wpAny_UnaryOp (hx s _ hs fun v d h₁ t₁ ed s₁ r₁ e₁ => ?_)
  cases ed; cases r₁
  exact PyProof.Rows.neg_int (hQ _ _ h₁ _ rfl s₁ (.int _ _) e₁)

theorem Ev.ifexp {t a b : PySem.Expr} {pos : Pos} {Φ : Bool → Prop} {Ψ : D → Prop} (ht : Tr c ρ t Φ) (ha : Φ true → Ev c ρ a Ψ) (hb : Φ false → Ev c ρ b Ψ) : Ev c ρ (.IfExp t a b pos) Ψ := by
  intro s Q hs hQ
  refine wpAny_IfExp (ht s _ hs fun β h₁ t₁ hβ s₁ e₁ => ?_)
  cases β with
  | true => exact ha hβ _ _ s₁ fun v d h₂ t₂ hd s₂ r₂ e₂ => hQ v d h₂ t₂ hd s₂ r₂ (e₁.trans e₂)
  | false => exact hb hβ _ _ s₁ fun v d h₂ t₂ hd s₂ r₂ e₂ => hQ v d h₂ t₂ hd s₂ r₂ (e₁.trans e₂)

theorem Evs.nil {pos : Pos} : Evs c ρ [] pos (is []) := fun s Q hs hQ => args_nil (hQ [] [] s.heap s.toks rfl hs .nil (Ext.refl _ _))
theorem Evs.cons {e : PySem.Expr} {es : List PySem.Expr} {pos : Pos} {Φ : D → Prop} {Ψ : List D → Prop} {Θ : List D → Prop} (h : Ev c ρ e Φ) (hs : Evs c ρ es pos Ψ) (i : ∀ d ds, Φ d → Ψ ds → Θ (d :: ds))
    (he : starEach (e :: es) c.env = (false, eval e c.env) :: starEach es c.env := by rfl) : Evs c ρ (e :: es) pos Θ := by
  intro s Q st hQ
  refine args_cons (h s _ st fun v d h₁ t₁ hd s₁ r₁ e₁ => hs _ _ s₁ fun vs ds h₂ t₂ hds s₂ r₂ e₂ => ?_) he
  exact hQ (v :: vs) (d :: ds) h₂ t₂ (i _ _ hd hds) s₂ (.cons (r₁.ext e₂) r₂) (e₁.trans e₂)
theorem Evs.one {e : PySem.Expr} {es : List PySem.Expr} {pos : Pos} {d : D} {ds : List D} (h : Ev c ρ e (is d)) (hs : Evs c ρ es pos (is ds))
    (he : starEach (e :: es) c.env = (false, eval e c.env) :: starEach es c.env := by rfl) : Evs c ρ (e :: es) pos (is (d :: ds)) :=
  Evs.cons h hs (fun _ _ a b => by cases a; cases b; rfl) he

theorem fresh_size {P : Addr → Prop} {h : Heap} (hp : ∀ a, P a → ∃ o, h.get? a = some o) : ¬ P h.objs.size := fun z => by
  obtain ⟨o, e⟩ := hp _ z
  exact Nat.lt_irrefl _ (Heap.lt_size e)
theorem stay_push (h : Heap) (o : Obj) : Stay h (h.push o) := fun _ _ e => Heap.get?_push_of_some _ e

theorem Ev.tuple {es : List PySem.Expr} {n : Nat} {pos : Pos} {Φ : List D → Prop} {Ψ : D → Prop} (o : c.Ok k) (h : Evs c ρ es pos Φ) (i : ∀ ds, Φ ds → ds.length ≤ 1000 ∧ Ψ (.tup ds)) : Ev c ρ (.Tuple es n pos) Ψ := by
  intro s Q hs hQ
  refine wpAny_Tuple (h s _ hs fun vs ds h₁ t₁ hd s₁ r₁ e₁ => ?_)
  have hl : vs.length = ds.length := by
    clear hd hQ h e₁ s₁
    induction vs generalizing ds with
    | nil => cases r₁; rfl
    | cons v vs ih => cases r₁ with | cons _ r => rw [List.length_cons, List.length_cons, ih _ r]
  have st := stay_push h₁ { cls := .type "tuple", data := .seq vs.toArray }
  refine ⟨by rw [hl, sizeLine_eq]; have := (i ds hd).1; omega, hQ _ (.tup ds) _ t₁ (i ds hd).2 (s₁.stay o st) (.tup ⟨_, Heap.get?_push_size _ rfl, rfl, 0, rfl⟩ (fresh_size s₁.PB) (r₁.ext st.ext)) (e₁.trans st.ext)⟩

end
end
-- part L3
section
section
variable {c : Cx} {ρ : Rho} {k : Nat}

/-- comparisons -/
theorem Ev.cmp {l r : PySem.Expr} {op : CmpOp} {pos : Pos} {a b : D} {β : Bool} (hl : Ev c ρ l (is a)) (hr : Ev c ρ r (is b))
    (ho : ∀ (v u : Value) (s : Shared) (Q : Value → Shared → Prop), Rd c.P s.heap v a → Rd c.P s.heap u b → Q (.bool β) s → wpAny (model pw c.w) c.A (compareOp op v u) Q NoE s)
    (hm : behindInMarks op r = false := by with_unfolding_all rfl) : Ev c ρ (.Compare l [op] [r] pos) (is (.bool β)) := by
  intro s Q hs hQ
  refine wpAny_Compare1 (hl s _ hs fun v a h₁ t₁ ha s₁ ra e₁ => hr _ _ s₁ fun u b h₂ t₂ hb s₂ rb e₂ => ?_) hm
  cases ha; cases hb
  exact ho v u _ _ (ra.ext e₂) rb (hQ _ _ h₂ t₂ rfl s₂ (.bool β) (e₁.trans e₂))
theorem Tr.cmp {l r : PySem.Expr} {op : CmpOp} {pos : Pos} {a b : D} {β : Bool} (hl : Ev c ρ l (is a)) (hr : Ev c ρ r (is b))
    (ho : ∀ (v u : Value) (s : Shared) (Q : Value → Shared → Prop), Rd c.P s.heap v a → Rd c.P s.heap u b → Q (.bool β) s → wpAny (model pw c.w) c.A (compareOp op v u) Q NoE s)
    (hm : behindInMarks op r = false := by with_unfolding_all rfl) : Tr c ρ (.Compare l [op] [r] pos) (is β) := by
  intro s Q hs hQ
  refine wpAny_isTrue_Compare1 (hl s _ hs fun v a h₁ t₁ ha s₁ ra e₁ => hr _ _ s₁ fun u b h₂ t₂ hb s₂ rb e₂ => ?_) hm
  cases ha; cases hb
  exact ho v u _ _ (ra.ext e₂) rb (wpAny_truthy_bool (hQ _ h₂ t₂ rfl s₂ (e₁.trans e₂)))

abbrev CmpOk (c : Cx) (op : CmpOp) (a b : D) (β : Bool) : Prop :=
  ∀ (v u : Value) (s : Shared) (Q : Value → Shared → Prop), Rd c.P s.heap v a → Rd c.P s.heap u b → Q (.bool β) s → wpAny (model pw c.w) c.A (compareOp op v u) Q NoE s
theorem CmpOk.lt {x y : Int} : CmpOk c .Lt (.int x) (.int y) (decide (x < y)) := fun _ _ _ _ a b h => by cases a; cases b; exact PyProof.Rows.lt_int h
theorem CmpOk.gt {x y : Int} : CmpOk c .Gt (.int x) (.int y) (decide (y < x)) := fun _ _ _ _ a b h => by cases a; cases b; exact PyProof.Rows.gt_int h
theorem CmpOk.le {x y : Int} : CmpOk c .LtE (.int x) (.int y) (decide (x ≤ y)) := fun _ _ _ _ a b h => by cases a; cases b; exact PyProof.Rows.le_int h
theorem CmpOk.ge {x y : Int} : CmpOk c .GtE (.int x) (.int y) (decide (y ≤ x)) := fun _ _ _ _ a b h => by cases a; cases b; exact PyProof.Rows.ge_int h
theorem CmpOk.eq {x y : Int} : CmpOk c .Eq (.int x) (.int y) (decide (x = y)) := fun _ _ _ _ a b h => by
  cases a; cases b
  exact PyProof.Rows.eq_int (by rw [show (x == y) = decide (x = y) from rfl]; exact h)
theorem CmpOk.ne {x y : Int} : CmpOk c .NotEq (.int x) (.int y) (!decide (x = y)) := fun _ _ _ _ a b h => by
  cases a; cases b
  exact PyProof.Rows.ne_int (by rw [show (x != y) = !decide (x = y) from rfl]; exact h)
theorem CmpOk.eqB {x y : Bool} : CmpOk c .Eq (.bool x) (.bool y) (x == y) := fun _ _ _ _ a b h => by cases a; cases b; exact PyProof.Rows.eq_bool h
theorem CmpOk.neB {x y : Bool} : CmpOk c .NotEq (.bool x) (.bool y) (x != y) := fun _ _ _ _ a b h => by cases a; cases b; exact PyProof.Rows.ne_bool h
theorem CmpOk.eqS {x y : Str} : CmpOk c .Eq (.str x) (.str y) (x == y) := fun _ _ _ _ a b h => by cases a; cases b; exact PyProof.Rows.eq_str h
theorem CmpOk.neS {x y : Str} : CmpOk c .NotEq (.str x) (.str y) (x != y) := fun _ _ _ _ a b h => by cases a; cases b; exact PyProof.Rows.ne_str h

/- data of ints, tuples, lists: as the library's own -/
mutual
def toPy : D → PyData
  | .int i => .int i
  | .tup l => .tuple (toPys l)
  | .lst l => .list (toPys l)
  | .bool b => .bool b
  | .str x => .str x
  | _ => .none
def toPys : List D → List PyData
  | [] => []
  | d :: ds => toPy d :: toPys ds
end
/-- ints, tuples of ints, .. at most n deep -/
def flat : Nat → D → Bool
  | _, .int _ => true
  | n + 1, .tup l => l.all (flat n)
  | n + 1, .lst l => l.all (flat n)
  | _, _ => false
mutual
theorem rd_py {P : Addr → Prop} {h : Heap} : ∀ {v : Value} {d : D} (n : Nat), Rd P h v d → flat n d = true → ∃ as, Reads h v (toPy d) as
  | _, _, _, .none, hk => by simp [flat] at hk
  | _, _, _, .bool _, hk => by simp [flat] at hk
  | _, _, _, .str _ _, hk => by simp [flat] at hk
  | _, _, _, .bytes _ _, hk => by simp [flat] at hk
  | _, _, _, .dec _, hk => by simp [flat] at hk
  | _, _, _, .raw _, hk => by simp [flat] at hk
  | _, _, _, .int i t, _ => ⟨_, by rw [toPy]; exact .int i t⟩
  | _, _, 0, .tup _ _ _, hk => by simp [flat] at hk
  | _, _, 0, .lst _ _ _, hk => by simp [flat] at hk
  | _, _, n + 1, .tup ⟨o, ho, hc, m, hd⟩ _ r, hk => by
    obtain ⟨as, q⟩ := rds_py n r (by simpa [flat] using hk)
    rw [toPy]
    exact ⟨as, reads_tuple_at ho hc hd (by simpa using q)⟩
  | _, _, n + 1, .lst ⟨o, ho, hc, m, hd⟩ _ r, hk => by
    obtain ⟨as, q⟩ := rds_py n r (by simpa [flat] using hk)
    rw [toPy]
    exact ⟨_, reads_list_at ho hc hd (by simpa using q)⟩
theorem rds_py {P : Addr → Prop} {h : Heap} : ∀ {vs : List Value} {ds : List D} (n : Nat), RdAll P h vs ds → (∀ d ∈ ds, flat n d = true) → ∃ as, ReadsAll h vs (toPys ds) as
  | _, _, _, .nil, _ => ⟨_, by rw [toPys]; exact .nil⟩
  | _, _, n, .cons hd r, hk => by
    obtain ⟨as, q⟩ := rd_py n hd (hk _ (.head _))
    obtain ⟨bs, p⟩ := rds_py n r fun d hm => hk d (.tail _ hm)
    rw [toPys]
    exact ⟨_, ReadsAll.cons q p⟩
end
theorem flat_lay : ∀ (n : Nat) (d : D), flat n d = true → (toPy d).canLay0 = true ∧ (toPy d).depth ≤ n := by
  have all : ∀ (n : Nat), (∀ d, flat n d = true → (toPy d).canLay0 = true ∧ (toPy d).depth ≤ n) → ∀ ds : List D, (∀ d ∈ ds, flat n d = true) → PyData.canLayAll0 (toPys ds) = true ∧ PyData.depthAll (toPys ds) ≤ n := by
    intro n ih ds
    induction ds with
    | nil => intro _; simp [toPys, PyData.canLayAll0, PyData.depthAll]
    | cons d ds hi =>
      intro h
      have h1 := ih d (h d (.head _))
      have h2 := hi fun e he => h e (.tail _ he)
      simp only [toPys, PyData.canLayAll0, PyData.depthAll, h1.1, h2.1, Bool.and_self, true_and]
      have a1 := h1.2
      have a2 := h2.2
      omega
  intro n
  induction n with
  | zero =>
    intro d h
    cases d <;> simp_all [flat, toPy, PyData.canLay0, PyData.depth]
  | succ n ih =>
    intro d h
    cases d with
    | int i => simp [toPy, PyData.canLay0, PyData.depth]
    | tup ds =>
      have q := all n ih ds (by simpa [flat] using h)
      have q2 := q.2
      simp only [toPy, PyData.canLay0, PyData.depth, q.1, true_and]
      omega
    | lst ds =>
      have q := all n ih ds (by simpa [flat] using h)
      have q2 := q.2
      simp only [toPy, PyData.canLay0, PyData.depth, q.1, true_and]
      omega
    | _ => simp [flat] at h
theorem flat_eqv : ∀ (n : Nat) (d e : D) (k : Nat), flat n d = true → flat k e = true → (PyData.eqv (toPy d) (toPy e) = true ↔ d = e) := by
  have all : ∀ (n : Nat), (∀ d e k, flat n d = true → flat k e = true → (PyData.eqv (toPy d) (toPy e) = true ↔ d = e)) → ∀ (k : Nat) (ds es : List D), (∀ d ∈ ds, flat n d = true) → (∀ d ∈ es, flat k d = true) →
      (PyData.eqvAll (toPys ds) (toPys es) = true ↔ ds = es) := by
    intro n ih k ds
    induction ds with
    | nil => intro es _ _; cases es <;> simp [toPys, PyData.eqvAll]
    | cons d ds hi =>
      intro es h1 h2
      cases es with
      | nil => simp [toPys, PyData.eqvAll]
      | cons e es =>
        have q1 := ih d e k (h1 d (.head _)) (h2 e (.head _))
        have q2 := hi es (fun x hx => h1 x (.tail _ hx)) fun x hx => h2 x (.tail _ hx)
        simp only [toPys, PyData.eqvAll, Bool.and_eq_true, q1, q2, List.cons.injEq]
  intro n
  induction n with
  | zero =>
    intro d e k h1 h2
    cases d <;> cases e <;> cases k <;> simp_all [flat, toPy, PyData.eqv]
  | succ n ih =>
    intro d e k h1 h2
    cases d with
    | tup ds =>
      cases e with
      | tup es =>
        cases k with
        | zero => simp [flat] at h2
        | succ k =>
          simp only [toPy, PyData.eqv, D.tup.injEq]
          exact all n ih k ds es (by simpa [flat] using h1) (by simpa [flat] using h2)
      | _ => cases k <;> simp_all [flat, toPy, PyData.eqv]
    | lst ds =>
      cases e with
      | lst es =>
        cases k with
        | zero => simp [flat] at h2
        | succ k =>
          simp only [toPy, PyData.eqv, D.lst.injEq]
          exact all n ih k ds es (by simpa [flat] using h1) (by simpa [flat] using h2)
      | _ => cases k <;> simp_all [flat, toPy, PyData.eqv]
    | _ => cases e <;> cases k <;> simp_all [flat, toPy, PyData.eqv]
open Classical in
theorem eqv_dec {a b : D} (ha : flat 8 a = true) (hb : flat 8 b = true) : PyData.eqv (toPy a) (toPy b) = decide (a = b) := by
  have q := flat_eqv 8 a b 8 ha hb
  by_cases hq : a = b
  · rw [decide_eq_true hq]; exact q.mpr hq
  · rw [decide_eq_false hq]; exact Bool.eq_false_iff.mpr fun x => hq (q.mp x)
open Classical in
theorem CmpOk.eqD {a b : D} (o : c.Ok k) (ha : flat 8 a = true) (hb : flat 8 b = true) : CmpOk c .Eq a b (decide (a = b)) := fun _ _ _ _ ra rb h => by
  obtain ⟨as, x⟩ := rd_py 8 ra ha
  obtain ⟨bs, y⟩ := rd_py 8 rb hb
  have la := flat_lay 8 a ha
  have lb := flat_lay 8 b hb
  refine eq_dataH x y ?_ ?_ o.room.units (by rw [eqv_dec ha hb]; exact h)
  · unfold SeqAt.shaped; rw [la.1, Bool.true_and]; exact decide_eq_true (Nat.le_trans la.2 (by decide))
  · unfold SeqAt.shaped; rw [lb.1, Bool.true_and]; exact decide_eq_true (Nat.le_trans lb.2 (by decide))
open Classical in
theorem CmpOk.neD {a b : D} (o : c.Ok k) (ha : flat 8 a = true) (hb : flat 8 b = true) : CmpOk c .NotEq a b (!decide (a = b)) := fun _ _ _ _ ra rb h => by
  obtain ⟨as, x⟩ := rd_py 8 ra ha
  obtain ⟨bs, y⟩ := rd_py 8 rb hb
  have la := flat_lay 8 a ha
  have lb := flat_lay 8 b hb
  refine ne_dataH x y ?_ ?_ o.room.units (by rw [eqv_dec ha hb]; exact h)
  · unfold SeqAt.shaped; rw [la.1, Bool.true_and]; exact decide_eq_true (Nat.le_trans la.2 (by decide))
  · unfold SeqAt.shaped; rw [lb.1, Bool.true_and]; exact decide_eq_true (Nat.le_trans lb.2 (by decide))

/-- tests -/
theorem Tr.value {e : PySem.Expr} {β : Bool} (h : Ev c ρ e (is (.bool β)))
    (he : isTrue e c.env (eval e c.env) = (do let v ← eval e c.env; standAt e.pos; holding [v] (truthy v)) := by rfl) : Tr c ρ e (is β) := by
  intro s Q hs hQ
  refine wpAny_isTrue_value (h s _ hs fun v d h₁ t₁ ed s₁ r₁ e₁ => ?_) he
  cases ed; cases r₁
  exact wpAny_truthy_bool (hQ _ h₁ t₁ rfl s₁ e₁)
theorem Tr.not {e : PySem.Expr} {pos : Pos} {β : Bool} (h : Tr c ρ e (is β)) : Tr c ρ (.UnaryOp .Not e pos) (is (!β)) := by
  intro s Q hs hQ
  exact wpAny_isTrue_Not (h s _ hs fun b h₁ t₁ eb s₁ e₁ => hQ _ h₁ t₁ (by rw [eb]) s₁ e₁)
theorem whole_any {M : Model} {A : Around} {E : Value → Shared → Prop} {s : Shared} {Q : Bool → Shared → Prop} {op : PySem.BoolOp} {es : List PySem.Expr} {pos : Pos} {env : Env} {w₁ w₂ : Sem Value} :
    wpAny M A (isTrue (.BoolOp op es pos) env w₁) Q E s ↔ wpAny M A (isTrue (.BoolOp op es pos) env w₂) Q E s := by rw [arm_isTrue_BoolOp, arm_isTrue_BoolOp]
theorem Tr.and_nil {pos : Pos} : Tr c ρ (.BoolOp .And [] pos) (is true) := fun s Q hs hQ => isTrue_and_nil (hQ _ s.heap s.toks rfl hs (Ext.refl _ _))
theorem Tr.or_nil {pos : Pos} : Tr c ρ (.BoolOp .Or [] pos) (is false) := fun s Q hs hQ => isTrue_or_nil (hQ _ s.heap s.toks rfl hs (Ext.refl _ _))
theorem Tr.and {e : PySem.Expr} {es : List PySem.Expr} {pos : Pos} {β γ : Bool} (h : Tr c ρ e (is β)) (i : β = true → Tr c ρ (.BoolOp .And es pos) (is γ)) : Tr c ρ (.BoolOp .And (e :: es) pos) (is (β && γ)) := by
  intro s Q hs hQ
  refine isTrue_and (h s _ hs fun b h₁ t₁ eb s₁ e₁ => ?_)
  cases eb
  cases β with
  | true => exact whole_any.mpr (i rfl _ _ s₁ fun b' h₂ t₂ e2 s₂ e₂ => hQ _ h₂ t₂ (by rw [e2]; rfl) s₂ (e₁.trans e₂))
  | false => exact hQ _ h₁ t₁ rfl s₁ e₁
theorem Tr.or {e : PySem.Expr} {es : List PySem.Expr} {pos : Pos} {β γ : Bool} (h : Tr c ρ e (is β)) (i : β = false → Tr c ρ (.BoolOp .Or es pos) (is γ)) : Tr c ρ (.BoolOp .Or (e :: es) pos) (is (β || γ)) := by
  intro s Q hs hQ
  refine isTrue_or (h s _ hs fun b h₁ t₁ eb s₁ e₁ => ?_)
  cases eb
  cases β with
  | true => exact hQ _ h₁ t₁ rfl s₁ e₁
  | false => exact whole_any.mpr (i rfl _ _ s₁ fun b' h₂ t₂ e2 s₂ e₂ => hQ _ h₂ t₂ (by rw [e2]; rfl) s₂ (e₁.trans e₂))
theorem Tr.is_of {e : PySem.Expr} {β γ : Bool} (h : Tr c ρ e (is β)) (i : β = γ) : Tr c ρ e (is γ) := i ▸ h
theorem Ev.is_of {e : PySem.Expr} {a b : D} (h : Ev c ρ e (is a)) (i : a = b) : Ev c ρ e (is b) := i ▸ h
/-- «a and b» as a value -/
theorem Ev.and2 {a b : PySem.Expr} {pos : Pos} {β γ : Bool} (ha : Ev c ρ a (is (.bool β))) (hb : β = true → Ev c ρ b (is (.bool γ))) : Ev c ρ (.BoolOp .And [a, b] pos) (is (.bool (β && γ))) := by
  intro s Q hs hQ
  refine BoolOp_and (ha s _ hs fun v d h₁ t₁ ed s₁ r₁ e₁ => ?_)
  cases ed; cases r₁
  refine wpAny_truthy_bool ?_
  cases β with
  | true => exact BoolOp_one (hb rfl _ _ s₁ fun v d h₂ t₂ ed s₂ r₂ e₂ => hQ v d h₂ t₂ (by rw [ed]; rfl) s₂ r₂ (e₁.trans e₂))
  | false => exact hQ _ _ h₁ t₁ rfl s₁ (.bool _) e₁

/-- attributes of a decimal -/
theorem dec_attr {w : World} {A : Around} {E : Value → Shared → Prop} {s : Shared} {x : Addr} {t : Int} {p : Nat} {P : Addr → Prop} {Q : Value → Shared → Prop} (G : Gl w s.heap) (y : DecAt P s.heap x t p)
    {nm : Str} {i : Int} (hi : (nm = Str.ofString "top" ∧ i = t) ∨ (nm = Str.ofString "places" ∧ i = p)) (ex : Bool)
    (hQ : ∀ u, Q (.int i u) { s with toks := s.toks + 1 }) : wpAny (model pw w) A (getAttr (.ref x) nm ex) Q E s := by
  obtain ⟨dx, h1, h2, k1, k2, u1, u2, n, a, b, _, _⟩ := y
  have I : PySem.W.InstAt s.heap x (instObj aDec dx) aDec (some (decObj h1 h2 k1 k2 u1 u2 t p n)) := ⟨a, rfl, rfl, b⟩
  rcases hi with ⟨rfl, rfl⟩ | ⟨rfl, rfl⟩
  · exact get_value (v := .int i u1) G.kin I (by kernel_rfl) (findObj_own (attr := .none) (by kernel_rfl) (by kernel_rfl) (by kernel_rfl) (by rfl)) (by rfl) (hQ u1)
  · exact get_value (v := .int (p : Int) u2) G.kin I (by kernel_rfl) (findObj_own (attr := .none) (by kernel_rfl) (by kernel_rfl) (by kernel_rfl) (by rfl)) (by rfl) (hQ u2)

theorem Ev.attr {e : PySem.Expr} {pos : Pos} {nm : Str} {t : Int} {p : Nat} {i : Int} (o : c.Ok k) (h : Ev c ρ e (is (.dec t p))) (hi : (nm = Str.ofString "top" ∧ i = t) ∨ (nm = Str.ofString "places" ∧ i = p))
    (he : eval (.Attribute e nm pos) c.env = (do
      let o ← eval e c.env
      standAt pos.atName
      let r ← holding [o] (getAttr o nm true)
      letTemporaryGo e o r
      pure r) := by with_unfolding_all rfl) : Ev c ρ (.Attribute e nm pos) (is (.int i)) := by
  intro s Q hs hQ
  refine Attribute_any_ (h s _ hs fun v d h₁ t₁ ed s₁ r₁ e₁ => ?_) he
  cases ed
  cases r₁ with
  | dec y => exact dec_attr (s₁.gl o) y hi _ fun u => hQ _ _ h₁ _ rfl s₁ (.int _ u) e₁
theorem Ev.top {e : PySem.Expr} {pos : Pos} {t : Int} {p : Nat} (o : c.Ok k) (h : Ev c ρ e (is (.dec t p)))
    (he : eval (.Attribute e (Str.ofString "top") pos) c.env = (do
      let o ← eval e c.env
      standAt pos.atName
      let r ← holding [o] (getAttr o (Str.ofString "top") true)
      letTemporaryGo e o r
      pure r) := by with_unfolding_all rfl) : Ev c ρ (.Attribute e (Str.ofString "top") pos) (is (.int t)) := Ev.attr o h (.inl ⟨rfl, rfl⟩) he
theorem Ev.places {e : PySem.Expr} {pos : Pos} {t : Int} {p : Nat} (o : c.Ok k) (h : Ev c ρ e (is (.dec t p)))
    (he : eval (.Attribute e (Str.ofString "places") pos) c.env = (do
      let o ← eval e c.env
      standAt pos.atName
      let r ← holding [o] (getAttr o (Str.ofString "places") true)
      letTemporaryGo e o r
      pure r) := by with_unfolding_all rfl) : Ev c ρ (.Attribute e (Str.ofString "places") pos) (is (.int p)) := Ev.attr o h (.inr ⟨rfl, rfl⟩) he
end
end
-- part L4
section
section
variable {c : Cx} {ρ : Rho} {k : Nat}

/-- a name that gives a fixed value: what is called -/
def Fv (c : Cx) (e : PySem.Expr) (v : Value) : Prop :=
  ∀ (ρ : Rho) (s : Shared) (Q : Value → Shared → Prop), St c s.heap ρ → Q v s → wpAny (model pw c.w) c.A (eval e c.env) Q NoE s
theorem Fv.glob {x : Str} {pos : Pos} {v : Value} (o : c.Ok k) (hk : c.env.kindOf x = some .globalImplicit) (e : nsIn (KW c.w) mainGlobals x = some (some v)) (hd : (x == ("__debug__" : Str)) = false) :
    Fv c (.Name x pos) v := fun ρ s Q hs hQ => by
  have G := hs.gl o
  obtain ⟨lo, mg, mb, mean, T⟩ := G.top
  exact Name_function_global o.fn hk (loadGlobal_global (o.eg ▸ T.g) (mg_of G.kin T.g e) hQ) hd
theorem Fv.blt {x : Str} {pos : Pos} {v : Value} (o : c.Ok k) (hk : c.env.kindOf x = some .globalImplicit) (e : nsIn (KW c.w) mainGlobals x = some .none) (hv : bootBuiltins x = some v) (hn : x ≠ "__name__") (hd : (x == ("__debug__" : Str)) = false) :
    Fv c (.Name x pos) v := fun ρ s Q hs hQ => by
  have G := hs.gl o
  obtain ⟨lo, mg, mb, mean, T⟩ := G.top
  exact Name_function_global o.fn hk (loadGlobal_builtin (o.eg ▸ T.g) (mg_none_of G.kin T.g e) (o.eb ▸ T.b) ((T.builtins x hn).trans hv) hQ) hd

theorem Cl.use {f : Value} {vs : List Value} {ds : List D} {d : D} {s : Shared} {Q : Value → Shared → Prop} (o : c.Ok k) (h : Cl c.w k f ds d) (hs : St c s.heap ρ) (r : RdAll c.P s.heap vs ds)
    (hQ : ∀ v h' tk, St c h' ρ → Rd c.P h' v d → Ext c.P s.heap h' → Q v { s with heap := h', toks := tk }) : wpAny (model pw c.w) c.A (call f vs) Q NoE s :=
  h c.A c.P s vs Q NoE o.room (hs.gl o) hs.PB r fun v h' tk st rd => hQ v h' tk (hs.stay o st) rd st.ext

theorem Ev.callB {f e : PySem.Expr} {es : List PySem.Expr} {pos : Pos} {id : String} {ds : List D} {d : D} {Φ : List D → Prop} (o : c.Ok k) (hf : Fv c f (.builtin id)) (ha : Evs c ρ (e :: es) pos (is ds)) (h : Cl c.w k (.builtin id) ds d)
    (he : eval (.Call f (e :: es) [] pos) c.env = (do callWith pos (← eval f c.env) [] (backTo pos (starEach (e :: es) c.env)) (backToKw pos (keywordEach [] c.env))) := by rfl)
    (he2 : starEach (e :: es) c.env = (false, eval e c.env) :: starEach es c.env := by rfl) (hp : (backTo pos (starEach es c.env)).any (·.1) = false := by rfl) : Ev c ρ (.Call f (e :: es) [] pos) (is d) := by
  intro s Q hs hQ
  refine Call_ (hf ρ s _ hs (PyProof.Rows.callWith_builtin1 (ha s _ hs fun vs ds' h₁ t₁ ed s₁ r₁ e₁ => ?_) he2 hp)) he
  cases ed
  exact h.use o s₁ r₁ fun v h₂ t₂ s₂ r₂ e₂ => hQ v d h₂ t₂ rfl s₂ r₂ (e₁.trans e₂)
theorem Ev.callT {f e : PySem.Expr} {es : List PySem.Expr} {pos : Pos} {T : String} {ds : List D} {d : D} (o : c.Ok k) (hf : Fv c f (.type T)) (ha : Evs c ρ (e :: es) pos (is ds)) (h : Cl c.w k (.type T) ds d)
    (he : eval (.Call f (e :: es) [] pos) c.env = (do callWith pos (← eval f c.env) [] (backTo pos (starEach (e :: es) c.env)) (backToKw pos (keywordEach [] c.env))) := by rfl)
    (he2 : starEach (e :: es) c.env = (false, eval e c.env) :: starEach es c.env := by rfl) (hp : (backTo pos (starEach es c.env)).any (·.1) = false := by rfl) : Ev c ρ (.Call f (e :: es) [] pos) (is d) := by
  intro s Q hs hQ
  refine Call_ (hf ρ s _ hs (PyProof.Rows.callWith_type1 (ha s _ hs fun vs ds' h₁ t₁ ed s₁ r₁ e₁ => ?_) he2 hp)) he
  cases ed
  exact h.use o s₁ r₁ fun v h₂ t₂ s₂ r₂ e₂ => hQ v d h₂ t₂ rfl s₂ r₂ (e₁.trans e₂)
theorem Ev.callR {f e : PySem.Expr} {es : List PySem.Expr} {pos : Pos} {a : Addr} {ds : List D} {d : D} (o : c.Ok k) (hf : Fv c f (.ref a)) (hk : keepIn (KW c.w) (.ref a) = true) (ha : Evs c ρ (e :: es) pos (is ds)) (h : Cl c.w k (.ref a) ds d)
    (he : eval (.Call f (e :: es) [] pos) c.env = (do callWith pos (← eval f c.env) [] (backTo pos (starEach (e :: es) c.env)) (backToKw pos (keywordEach [] c.env))) := by rfl)
    (he2 : starEach (e :: es) c.env = (false, eval e c.env) :: starEach es c.env := by rfl) (hp : (backTo pos (starEach es c.env)).any (·.1) = false := by rfl) : Ev c ρ (.Call f (e :: es) [] pos) (is d) := by
  intro s Q hs hQ
  refine Call_ (hf ρ s _ hs (callWith_K (hs.gl o).kin hk (ha s _ hs fun vs ds' h₁ t₁ ed s₁ r₁ e₁ => ⟨(s₁.gl o).kin, ?_⟩) he2 hp)) he
  cases ed
  exact h.use o s₁ r₁ fun v h₂ t₂ s₂ r₂ e₂ => hQ v d h₂ t₂ rfl s₂ r₂ (e₁.trans e₂)

/-- a method of a decimal -/
theorem dec_method {w : World} {A : Around} {E : Value → Shared → Prop} {s : Shared} {x : Addr} {t : Int} {p : Nat} {P : Addr → Prop} {pl : Sem Bool} {f : Addr} {nm : Str} {Q : Value × List Value → Shared → Prop} (G : Gl w s.heap) (y : DecAt P s.heap x t p)
    (hf : findIn (KW w) (.ref aDec) nm = some (some (.ref f))) (ht : typeIn (KW w) (.ref f) = some (.type "function")) (h1 : nm ≠ Str.ofString "top") (h2 : nm ≠ Str.ofString "places")
    (hQ : Q (.ref f, [.ref x]) s) : wpAny (model pw w) A (getMethod (.ref x) nm pl) Q E s := by
  obtain ⟨dx, i1, i2, k1, k2, u1, u2, n, a, b, _, _⟩ := y
  have I : PySem.W.InstAt s.heap x (instObj aDec dx) aDec (some (decObj i1 i2 k1 k2 u1 u2 t p n)) := ⟨a, rfl, rfl, b⟩
  refine method_fn G.kin I (by kernel_rfl) (by kernel_rfl) hf ht ?_ hQ
  show (lookIn nm (decObj i1 i2 k1 k2 u1 u2 t p n)).map _ = _
  have e : lookIn nm (decObj i1 i2 k1 k2 u1 u2 t p n) = some .none := by
    show getL nm [⟨i1, .str (Str.ofString "top") k1, .int t u1⟩, ⟨i2, .str (Str.ofString "places") k2, .int p u2⟩] = _
    have a1 : (Value.str (Str.ofString "top") k1).isStr nm = false := by
      show (Str.ofString "top" == nm) = false
      exact beq_eq_false_iff_ne.mpr fun e => h1 e.symm
    have a2 : (Value.str (Str.ofString "places") k2).isStr nm = false := by
      show (Str.ofString "places" == nm) = false
      exact beq_eq_false_iff_ne.mpr fun e => h2 e.symm
    have r1 : (⟨i1, .str (Str.ofString "top") k1, .int t u1⟩ : DictEntry).refKey = false := rfl
    have r2 : (⟨i2, .str (Str.ofString "places") k2, .int p u2⟩ : DictEntry).refKey = false := rfl
    simp [getL, a1, a2, r1, r2]
  rw [e]; rfl
theorem Ev.meth {ob e : PySem.Expr} {nm : Str} {apos pos : Pos} {es : List PySem.Expr} {f : Addr} {t : Int} {p : Nat} {ds : List D} {d : D} (o : c.Ok k) (hb : Ev c ρ ob (is (.dec t p)))
    (hf : findIn (KW c.w) (.ref aDec) nm = some (some (.ref f))) (ht : typeIn (KW c.w) (.ref f) = some (.type "function")) (hk : keepIn (KW c.w) (.ref f) = true) (h1 : nm ≠ Str.ofString "top") (h2 : nm ≠ Str.ofString "places")
    (ha : Evs c ρ (e :: es) pos (is ds)) (h : Cl c.w k (.ref f) (.dec t p :: ds) d) {pl : Sem Bool}
    (he : eval (.Call (.Attribute ob nm apos) (e :: es) [] pos) c.env = (do
      let ov ← eval ob c.env
      standAt apos.atName
      let (f, first) ← holding [ov] (getMethod ov nm pl)
      callWith pos f first (backTo pos (starEach (e :: es) c.env)) []) := by rfl)
    (he2 : starEach (e :: es) c.env = (false, eval e c.env) :: starEach es c.env := by rfl) (hp : (backTo pos (starEach es c.env)).any (·.1) = false := by rfl) : Ev c ρ (.Call (.Attribute ob nm apos) (e :: es) [] pos) (is d) := by
  intro s Q hs hQ
  refine MethodCall_ (hb s _ hs fun v dv h₁ t₁ ed s₁ r₁ e₁ => ?_) he
  cases ed
  cases r₁ with
  | dec y =>
    refine dec_method (s₁.gl o) y hf ht h1 h2 ?_
    refine callWith_K (s₁.gl o).kin hk (ha _ _ s₁ fun vs ds' h₂ t₂ ed s₂ r₂ e₂ => ⟨(s₂.gl o).kin, ?_⟩) he2 hp
    cases ed
    exact h.use o s₂ (.cons (.dec (y.ext e₂)) r₂) fun v h₃ t₃ s₃ r₃ e₃ => hQ v d h₃ t₃ rfl s₃ r₃ (e₁.trans (e₂.trans e₃))
theorem Ev.meth0 {ob : PySem.Expr} {nm : Str} {apos pos : Pos} {f : Addr} {t : Int} {p : Nat} {d : D} (o : c.Ok k) (hb : Ev c ρ ob (is (.dec t p)))
    (hf : findIn (KW c.w) (.ref aDec) nm = some (some (.ref f))) (ht : typeIn (KW c.w) (.ref f) = some (.type "function")) (hk : keepIn (KW c.w) (.ref f) = true) (h1 : nm ≠ Str.ofString "top") (h2 : nm ≠ Str.ofString "places")
    (h : Cl c.w k (.ref f) [.dec t p] d) {pl : Sem Bool}
    (he : eval (.Call (.Attribute ob nm apos) [] [] pos) c.env = (do
      let ov ← eval ob c.env
      standAt apos.atName
      let (f, first) ← holding [ov] (getMethod ov nm pl)
      callWith pos f first (backTo pos (starEach [] c.env)) []) := by rfl) : Ev c ρ (.Call (.Attribute ob nm apos) [] [] pos) (is d) := by
  intro s Q hs hQ
  refine MethodCall_ (hb s _ hs fun v dv h₁ t₁ ed s₁ r₁ e₁ => ?_) he
  cases ed
  cases r₁ with
  | dec y =>
    refine dec_method (s₁.gl o) y hf ht h1 h2 ?_
    refine callWith_K0 (s₁.gl o).kin hk ?_
    exact h.use o s₁ (.cons (.dec y) .nil) fun v h₃ t₃ s₃ r₃ e₃ => hQ v d h₃ t₃ rfl s₃ r₃ (e₁.trans e₃)

theorem RdAll.one {P : Addr → Prop} {h : Heap} {vs : List Value} {d : D} (r : RdAll P h vs [d]) : ∃ v, vs = [v] ∧ Rd P h v d := by
  cases r with
  | cons a r => cases r; exact ⟨_, rfl, a⟩
theorem RdAll.two {P : Addr → Prop} {h : Heap} {vs : List Value} {d e : D} (r : RdAll P h vs [d, e]) : ∃ v u, vs = [v, u] ∧ Rd P h v d ∧ Rd P h u e := by
  cases r with
  | cons a r => obtain ⟨u, rfl, b⟩ := RdAll.one r; exact ⟨_, _, rfl, a, b⟩
theorem RdAll.three {P : Addr → Prop} {h : Heap} {vs : List Value} {d e f : D} (r : RdAll P h vs [d, e, f]) : ∃ v u x, vs = [v, u, x] ∧ Rd P h v d ∧ Rd P h u e ∧ Rd P h x f := by
  cases r with
  | cons a r => obtain ⟨u, x, rfl, b, c⟩ := RdAll.two r; exact ⟨_, _, _, rfl, a, b, c⟩
theorem RdAll.four {P : Addr → Prop} {h : Heap} {vs : List Value} {d e f g : D} (r : RdAll P h vs [d, e, f, g]) : ∃ v u x y, vs = [v, u, x, y] ∧ Rd P h v d ∧ Rd P h u e ∧ Rd P h x f ∧ Rd P h y g := by
  cases r with
  | cons a r => obtain ⟨u, x, y, rfl, b, c, d⟩ := RdAll.three r; exact ⟨_, _, _, _, rfl, a, b, c, d⟩
/- built-in calls, as contracts -/
theorem Cl.abs {w : World} {i : Int} : Cl w k (.builtin "abs") [.int i] (.int (if i < 0 then -i else i)) := by
  intro A P s vs Q E ho G PB r hQ
  obtain ⟨v, rfl, a⟩ := r.one
  cases a
  exact call_abs_int fun u tk => hQ _ s.heap tk (Stay.refl _) (.int _ _)
theorem Cl.int {w : World} {i : Int} : Cl w k (.type "int") [.int i] (.int i) := by
  intro A P s vs Q E ho G PB r hQ
  obtain ⟨v, rfl, a⟩ := r.one
  cases a
  exact call_int_int (hQ _ s.heap s.toks (Stay.refl _) (.int _ _))
theorem Cl.max2 {w : World} {i j : Int} : Cl w k (.builtin "max") [.int i, .int j] (.int (max i j)) := by
  intro A P s vs Q E ho G PB r hQ
  obtain ⟨v, u, rfl, a, b⟩ := r.two
  cases a; cases b
  refine max_two_ints ho.hh fun h' tk hk => hQ _ h' tk hk ?_
  split
  · rw [show max i j = j by omega]; exact .int _ _
  · rw [show max i j = i by omega]; exact .int _ _
theorem Cl.min2 {w : World} {i j : Int} : Cl w k (.builtin "min") [.int i, .int j] (.int (min i j)) := by
  intro A P s vs Q E ho G PB r hQ
  obtain ⟨v, u, rfl, a, b⟩ := r.two
  cases a; cases b
  refine min_two_ints ho.hh fun h' tk hk => hQ _ h' tk hk ?_
  split
  · rw [show min i j = j by omega]; exact .int _ _
  · rw [show min i j = i by omega]; exact .int _ _
theorem Cl.str {w : World} {i : Int} (hb : Builtin.Int.intBits i ≤ 1900) : Cl w k (.type "str") [.int i] (.str (Str.ofString (toString i))) := by
  intro A P s vs Q E ho G PB r hQ
  obtain ⟨v, rfl, a⟩ := r.one
  cases a
  exact PySem.P.str_of_int (Nat.lt_of_lt_of_le (log2_of_bits (by decide) hb) (by decide)) (hQ _ s.heap _ (Stay.refl _) (.str _ _))
theorem Cl.lenS {w : World} {x : Str} (hx : x.length < 1000000) : Cl w k (.builtin "len") [.str x] (.int x.length) := by
  intro A P s vs Q E ho G PB r hQ
  obtain ⟨v, rfl, a⟩ := r.one
  cases a
  exact SBL.len (by omega) (hQ _ s.heap _ (Stay.refl _) (.int _ _))
theorem RdAll.length {P : Addr → Prop} {h : Heap} : ∀ {vs : List Value} {ds : List D}, RdAll P h vs ds → vs.length = ds.length
  | _, _, .nil => rfl
  | _, _, .cons _ r => by rw [List.length_cons, List.length_cons, RdAll.length r]
theorem Cl.lenL {w : World} {ds : List D} (hx : ds.length < 1000000) : Cl w k (.builtin "len") [.lst ds] (.int ds.length) := by
  intro A P s vs Q E ho G PB r hQ
  obtain ⟨v, rfl, a⟩ := r.one
  cases a with
  | lst hl hp ra =>
    refine PyProof.Rows.len_list hl (by rw [List.size_toArray, ra.length]; omega) ?_
    rw [List.size_toArray, ra.length]
    exact hQ _ s.heap _ (Stay.refl _) (.int _ _)
end
end
-- part L5
section
inductive Res where
  | next (ρ : Rho)
  | ret (d : D)
  | brk (ρ : Rho)

def Out (c : Cx) (h : Heap) : Res → Flow → Prop
  | .next ρ, f => f = .next ∧ St c h ρ
  | .ret d, f => ∃ v ρ, f = .ret v ∧ Rd c.P h v d ∧ St c h ρ
  | .brk ρ, f => f = .brk ∧ St c h ρ

/-- statements: what may come of them -/
def Ex (c : Cx) (ρ : Rho) (ss : List Stmt) (Ψ : Res → Prop) : Prop :=
  ∀ (s : Shared) (Q : Flow → Shared → Prop), St c s.heap ρ →
    (∀ r f h' tk, Ψ r → Out c h' r f → Ext c.P s.heap h' → Q f { s with heap := h', toks := tk }) →
    wpAny (model pw c.w) c.A (execs ss c.env) Q NoE s

section
variable {c : Cx} {ρ : Rho} {k : Nat}

theorem Ex.mono {ss : List Stmt} {Ψ Θ : Res → Prop} (h : Ex c ρ ss Ψ) (i : ∀ r, Ψ r → Θ r) : Ex c ρ ss Θ := fun s Q hs hQ => h s Q hs fun r f h' tk x => hQ r f h' tk (i _ x)

theorem Ex.nil {Ψ : Res → Prop} (h : Ψ (.next ρ)) : Ex c ρ [] Ψ := fun s Q hs hQ => wpAny_execs_nil (hQ (.next ρ) .next s.heap s.toks h ⟨rfl, hs⟩ (Ext.refl _ _))

theorem exec_of_execs {M : Model} {A : Around} {E : Value → Shared → Prop} {s : Shared} {st : Stmt} {env : Env} {Q : Flow → Shared → Prop} (h : wpAny M A (execs [st] env) Q E s) : wpAny M A (exec st env) Q E s := by
  have e : execs [st] env = (do match ← exec st env with | .next => pure .next | f => pure f) := rfl
  rw [e] at h
  intro Γ p hΓ
  have h2 := h Γ p hΓ
  rw [Sem.wp_bind'] at h2
  refine Sem.wp_mono _ Γ _ (fun f p' s' h' => ?_) (fun _ _ _ h' => h') p s h2
  cases f <;> exact h'
/-- one statement, then the rest -/
theorem Ex.seq {st : Stmt} {rest : List Stmt} {Ψ Θ : Res → Prop} (h : Ex c ρ [st] Ψ) (hn : ∀ ρ', Ψ (.next ρ') → Ex c ρ' rest Θ) (hr : ∀ d, Ψ (.ret d) → Θ (.ret d)) (hb : ∀ ρ', Ψ (.brk ρ') → Θ (.brk ρ')) : Ex c ρ (st :: rest) Θ := by
  intro s Q hs hQ
  have e1 : wpAny (model pw c.w) c.A (exec st c.env) (fun f s' => match f with | .next => wpAny (model pw c.w) c.A (execs rest c.env) Q NoE s' | f => Q f s') NoE s := by
    have h1 := h s (fun f s' => match f with | .next => wpAny (model pw c.w) c.A (execs rest c.env) Q NoE s' | f => Q f s') hs fun r f h' tk hΨ ho he => by
      cases r with
      | next ρ' =>
        obtain ⟨rfl, s₁⟩ := ho
        exact hn ρ' hΨ _ Q s₁ fun r f h₂ t₂ x y z => hQ r f h₂ t₂ x y (he.trans z)
      | ret d =>
        obtain ⟨v, ρ', rfl, a, b⟩ := ho
        exact hQ (.ret d) _ h' tk (hr d hΨ) ⟨v, ρ', rfl, a, b⟩ he
      | brk ρ' =>
        obtain ⟨rfl, s₁⟩ := ho
        exact hQ (.brk ρ') _ h' tk (hb ρ' hΨ) ⟨rfl, s₁⟩ he
    exact exec_of_execs h1
  exact wpAny_execs_cons e1

theorem exec_append : ∀ (a b : List Stmt) (env : Env), execs (a ++ b) env = (do match ← execs a env with | .next => execs b env | f => pure f)
  | [], b, env => by
    show execs b env = (do match ← (pure Flow.next : Sem Flow) with | .next => execs b env | f => pure f)
    rfl
  | st :: r, b, env => by
    show (do match ← exec st env with | .next => execs (r ++ b) env | f => pure f) = (do match ← (do match ← exec st env with | .next => execs r env | f => pure f) with | .next => execs b env | f => pure f)
    rw [bind_assoc]
    congr 1
    funext f
    cases f with
    | next => exact exec_append r b env
    | _ => rfl

theorem exec_if_cons (t : PySem.Expr) (b o rest : List Stmt) (pos : Pos) (env : Env) :
    execs (.If t b o pos :: rest) env = (do standAt pos; let β ← isTrue t env (eval t env); if β then execs (b ++ rest) env else execs (o ++ rest) env) := by
  show (do match ← exec (.If t b o pos) env with | .next => execs rest env | f => pure f) = _
  rw [exec_If, bind_assoc]
  congr 1
  funext _
  rw [bind_assoc]
  congr 1
  funext β
  cases β with
  | true => exact (exec_append b rest env).symm
  | false => exact (exec_append o rest env).symm
theorem Ex.cons_if {t : PySem.Expr} {b o rest : List Stmt} {pos : Pos} {Φ : Bool → Prop} {Ψ : Res → Prop} (ht : Tr c ρ t Φ) (h1 : Φ true → Ex c ρ (b ++ rest) Ψ) (h2 : Φ false → Ex c ρ (o ++ rest) Ψ) : Ex c ρ (.If t b o pos :: rest) Ψ := by
  intro s Q hs hQ
  rw [exec_if_cons]
  refine wpAny_bind (wpAny_standAt (wpAny_bind (ht s _ hs fun β h₁ t₁ hβ s₁ e₁ => ?_)))
  cases β with
  | true => exact h1 hβ _ Q s₁ fun r f h₂ t₂ x y z => hQ r f h₂ t₂ x y (e₁.trans z)
  | false => exact h2 hβ _ Q s₁ fun r f h₂ t₂ x y z => hQ r f h₂ t₂ x y (e₁.trans z)

theorem Ex.ret {e : PySem.Expr} {rest : List Stmt} {pos : Pos} {Φ : D → Prop} {Ψ : Res → Prop} (h : Ev c ρ e Φ) (i : ∀ d, Φ d → Ψ (.ret d)) : Ex c ρ (.Return (some e) pos :: rest) Ψ := by
  intro s Q hs hQ
  exact wpAny_execs_cons (wpAny_Return_some (h s _ hs fun v d h₁ t₁ hd s₁ r₁ e₁ => hQ (.ret d) (.ret v) h₁ t₁ (i d hd) ⟨v, ρ, rfl, r₁, s₁⟩ e₁))
theorem Ex.brk {rest : List Stmt} {pos : Pos} {Ψ : Res → Prop} (i : Ψ (.brk ρ)) : Ex c ρ (.Break pos :: rest) Ψ := by
  intro s Q hs hQ
  exact wpAny_execs_cons (wpAny_Break (hQ (.brk ρ) .brk s.heap s.toks i ⟨rfl, hs⟩ (Ext.refl _ _)))

theorem Ex.retD {e : PySem.Expr} {rest : List Stmt} {pos : Pos} {d : D} (h : Ev c ρ e (is d)) : Ex c ρ (.Return (some e) pos :: rest) (is (.ret d)) := Ex.ret h fun d e => by rw [e]
/-- storing into a name -/
theorem store_at {o' : c.Ok k} {x : Str} {v : Value} {d : D} {s : Shared} {Q : Unit → Shared → Prop} (hs : St c s.heap ρ) (r : Rd c.P s.heap v d) (hd : (x == ("__debug__" : Str)) = false)
    (hk : c.env.kindOf x = some .local ∨ (c.env.kindOf x = some .cell ∧ ∃ a, c.env.cells.lookup x = some a ∧ ¬ c.S a))
    (hQ : ∀ h' tk, St c h' (upd ρ x d) → Ext c.P s.heap h' → Q () { s with heap := h', toks := tk }) : wpAny (model pw c.w) c.A (storeName c.env x v) Q NoE s := by
  obtain ⟨m, cm, V⟩ := hs.vars
  rcases hk with hk | ⟨hk, a, ha, hSa⟩
  · refine wpAny_storeName_local hk V.ns (fun h' hn hsb => ?_) (by rw [o'.fn]; rfl)
    have ext : Ext c.P s.heap h' := fun b ob nb e => (hsb.2 b fun z => nb (z ▸ o'.PL)).trans e
    refine hQ h' _ ⟨fun b ob e => ?_, fun b hb => ?_, fun b hb => ?_, ?_, fun y => if y = x then some v else m y, cm, hn, fun y a e => ?_, fun y d' e => ?_⟩ ext
    · exact (hsb.2 b fun z => by rw [z, o'.hL] at e; cases e).trans (hs.keep b ob e)
    · by_cases z : b = c.env.locals
      · obtain ⟨ol, _, _, hol, _⟩ := hn
        exact ⟨ol, z ▸ hol⟩
      · obtain ⟨ob, e⟩ := hs.PB b hb
        exact ⟨ob, (hsb.2 b z).trans e⟩
    · obtain ⟨ob, e⟩ := hs.SB b hb
      exact ⟨ob, (hsb.2 b fun z => o'.SL (z ▸ hb)).trans e⟩
    · exact o'.inv _ _ hs.inv fun b ob sb e => (hsb.2 b fun z => o'.SL (z ▸ sb)).trans e
    · exact (V.cell y a e).sameBut hsb (o'.apart y a e)
    · unfold upd at e
      by_cases z : y = x
      · rw [if_pos z] at e
        cases e
        exact ⟨v, ⟨z ▸ hd, .inl ⟨z ▸ hk, by dsimp only; rw [if_pos z]⟩⟩, r.ext ext⟩
      · rw [if_neg z] at e
        obtain ⟨u, ⟨b1, b2⟩, ru⟩ := V.rd y d' e
        refine ⟨u, ⟨b1, ?_⟩, ru.ext ext⟩
        rcases b2 with ⟨q1, q2⟩ | q
        · exact .inl ⟨q1, by dsimp only; rw [if_neg z]; exact q2⟩
        · exact .inr q
  · refine wpAny_storeName_cell o'.fn hk ha (V.cell x a ha) fun h' hc hsb => ?_
    have ext : Ext c.P s.heap h' := fun b ob nb e => (hsb.2 b fun z => nb (z ▸ o'.Pc x a ha)).trans e
    refine hQ h' _ ⟨fun b ob e => ?_, fun b hb => ?_, fun b hb => ?_, ?_, m, fun y => if y = x then some v else cm y, ?_, fun y a' e => ?_, fun y d' e => ?_⟩ ext
    · exact (hsb.2 b fun z => by rw [z, o'.hc x a ha] at e; cases e).trans (hs.keep b ob e)
    · by_cases z : b = a
      · obtain ⟨oc, hoc, _⟩ := hc
        exact ⟨oc, z ▸ hoc⟩
      · obtain ⟨ob, e⟩ := hs.PB b hb
        exact ⟨ob, (hsb.2 b z).trans e⟩
    · obtain ⟨ob, e⟩ := hs.SB b hb
      exact ⟨ob, (hsb.2 b fun z => hSa (z ▸ hb)).trans e⟩
    · exact o'.inv _ _ hs.inv fun b ob sb e => (hsb.2 b fun z => hSa (z ▸ sb)).trans e
    · exact V.ns.sameBut hsb (Ne.symm (o'.apart x a ha))
    · by_cases z : y = x
      · subst z
        rw [ha] at e
        cases e
        rw [if_pos rfl]
        exact hc
      · rw [if_neg z]
        exact (V.cell y a' e).sameBut hsb fun q => z (o'.inj y x a' e (q ▸ ha))
    · unfold upd at e
      by_cases z : y = x
      · rw [if_pos z] at e
        cases e
        exact ⟨v, ⟨z ▸ hd, .inr (.inl ⟨z ▸ hk, ⟨a, z ▸ ha⟩, by dsimp only; rw [if_pos z]⟩)⟩, r.ext ext⟩
      · rw [if_neg z] at e
        obtain ⟨u, ⟨b1, b2⟩, ru⟩ := V.rd y d' e
        refine ⟨u, ⟨b1, ?_⟩, ru.ext ext⟩
        rcases b2 with q | ⟨q1, q2, q3⟩ | ⟨q1, q2, q3, q4⟩
        · exact .inl q
        · exact .inr (.inl ⟨q1, q2, by dsimp only; rw [if_neg z]; exact q3⟩)
        · exact .inr (.inr ⟨q1, q2, by dsimp only; rw [if_neg z]; exact q3, q4⟩)

theorem Ev.ifexpD {t a b : PySem.Expr} {pos : Pos} {β : Bool} {d : D} (ht : Tr c ρ t (is β)) (ha : β = true → Ev c ρ a (is d)) (hb : β = false → Ev c ρ b (is d)) : Ev c ρ (.IfExp t a b pos) (is d) :=
  Ev.ifexp ht (fun h => ha (Eq.symm h)) (fun h => hb (Eq.symm h))
theorem Ex.ifD {t : PySem.Expr} {b o rest : List Stmt} {pos : Pos} {β : Bool} {Ψ : Res → Prop} (ht : Tr c ρ t (is β)) (h1 : β = true → Ex c ρ (b ++ rest) Ψ) (h2 : β = false → Ex c ρ (o ++ rest) Ψ) : Ex c ρ (.If t b o pos :: rest) Ψ :=
  Ex.cons_if ht (fun h => h1 (Eq.symm h)) (fun h => h2 (Eq.symm h))
abbrev Stores (c : Cx) (x : Str) : Prop := (x == ("__debug__" : Str)) = false ∧ (c.env.kindOf x = some .local ∨ (c.env.kindOf x = some .cell ∧ ∃ a, c.env.cells.lookup x = some a ∧ ¬ c.S a))

theorem Ex.assign {x : Str} {pos' pos : Pos} {e : PySem.Expr} {rest : List Stmt} {Φ : D → Prop} {Ψ : Res → Prop} (o' : c.Ok k) (hx : Stores c x) (h : Ev c ρ e Φ) (i : ∀ d, Φ d → Ex c (upd ρ x d) rest Ψ)
    (hs : swapsWith e (some (.Name x pos')) pos.line c.env = pure false := by rfl) : Ex c ρ (.Assign [.Name x pos'] e pos :: rest) Ψ := by
  intro s Q st hQ
  refine wpAny_execs_cons (wpAny_Assign_Name (h s _ st fun v d h₁ t₁ hd s₁ r₁ e₁ => ?_) hs)
  refine store_at (o' := o') s₁ r₁ hx.1 hx.2 fun h₂ t₂ s₂ e₂ => ?_
  exact i d hd _ Q s₂ fun r f h₃ t₃ x y z => hQ r f h₃ t₃ x y ((e₁.trans e₂).trans z)

theorem Ex.assignD {x : Str} {pos' pos : Pos} {e : PySem.Expr} {rest : List Stmt} {d : D} {Ψ : Res → Prop} (o' : c.Ok k) (hx : Stores c x) (h : Ev c ρ e (is d)) (i : Ex c (upd ρ x d) rest Ψ)
    (hs : swapsWith e (some (.Name x pos')) pos.line c.env = pure false := by rfl) : Ex c ρ (.Assign [.Name x pos'] e pos :: rest) Ψ := Ex.assign o' hx h (fun d' e => by cases e; exact i) hs
/-- a while, by an invariant over the names and a measure -/
theorem Ex.while {t : PySem.Expr} {body rest : List Stmt} {pos : Pos} {Ψ Θ : Res → Prop} (J : Nat → Rho → Prop) (n : Nat) (hJ : J n ρ)
    (step : ∀ n ρ, J n ρ → ∃ β, Tr c ρ t (is β) ∧ (β = true → Ex c ρ body fun r => match r with | .next ρ' => ∃ m, m < n ∧ J m ρ' | .ret d => Θ (.ret d) | .brk ρ' => Ψ (.next ρ')) ∧ (β = false → Ψ (.next ρ)))
    (h : ∀ ρ', Ψ (.next ρ') → Ex c ρ' rest Θ) : Ex c ρ (.While t body [] pos :: rest) Θ := by
  intro s Q hs hQ
  refine wpAny_execs_cons (wpAny_While (codeAny_whileLoop (fun n s' => ∃ h' tk ρ', s' = { s with heap := h', toks := tk } ∧ J n ρ' ∧ St c h' ρ' ∧ Ext c.P s.heap h') ?_ n ⟨s.heap, s.toks, ρ, rfl, hJ, hs, Ext.refl _ _⟩))
  rintro n s' ⟨h', tk, ρ', rfl, hJ', st, ext⟩
  obtain ⟨β, ht, h1, h2⟩ := step n ρ' hJ'
  refine wpAny_mono (ht _ _ st fun b h₁ t₁ eb s₁ e₁ => ?_) (fun _ _ x => x) fun _ _ x => x.elim
  cases eb
  cases β with
  | true =>
    refine wpAny_mono (h1 rfl _ _ s₁ fun r f h₂ t₂ hr ho e₂ => ?_) (fun _ _ x => x) fun _ _ x => x.elim
    cases r with
    | next ρ'' =>
      obtain ⟨rfl, s₂⟩ := ho
      obtain ⟨m, hm, hJ''⟩ := hr
      exact ⟨m, hm, h₂, t₂, ρ'', rfl, hJ'', s₂, (ext.trans e₁).trans e₂⟩
    | ret d =>
      obtain ⟨v, ρ'', rfl, a, b⟩ := ho
      exact hQ (.ret d) (.ret v) h₂ t₂ hr ⟨v, ρ'', rfl, a, b⟩ ((ext.trans e₁).trans e₂)
    | brk ρ'' =>
      obtain ⟨rfl, s₂⟩ := ho
      exact h ρ'' hr _ Q s₂ fun r f h₃ t₃ x y z => hQ r f h₃ t₃ x y (((ext.trans e₁).trans e₂).trans z)
  | false =>
    refine wpAny_execs_nil ?_
    exact h ρ' (h2 rfl) _ Q s₁ fun r f h₃ t₃ x y z => hQ r f h₃ t₃ x y ((ext.trans e₁).trans z)

def bindRho : List (Str × D) → Rho → Rho
  | [], ρ => ρ
  | (x, d) :: r, ρ => bindRho r (upd ρ x d)

theorem binds_ok {P : Addr → Prop} {h : Heap} {env : Env} : ∀ (ps : List Str) (vs : List Value) (ds : List D) (ρ : Rho) (m : Str → Option Value), RdAll P h vs ds →
    (∀ p ∈ ps, env.kindOf p = some .local ∧ (p == ("__debug__" : Str)) = false) →
    (∀ x d, ρ x = some d → ∃ v, m x = some v ∧ Rd P h v d ∧ env.kindOf x = some .local ∧ (x == ("__debug__" : Str)) = false) →
    ∀ x d, bindRho (ps.zip ds) ρ x = some d → ∃ v, bindL env.kindOf (ps.zip vs) m x = some v ∧ Rd P h v d ∧ env.kindOf x = some .local ∧ (x == ("__debug__" : Str)) = false
  | [], vs, ds, ρ, m, r, hp, h0, x, d, e => by simpa [bindL, bindRho] using h0 x d (by simpa [bindRho] using e)
  | p :: ps, [], _, ρ, m, .nil, hp, h0, x, d, e => by simpa [bindL, bindRho] using h0 x d (by simpa [bindRho] using e)
  | p :: ps, v :: vs, d0 :: ds, ρ, m, .cons a r, hp, h0, x, d, e => by
    have hk := hp p (.head _)
    simp only [List.zip_cons_cons, bindRho] at e
    simp only [List.zip_cons_cons, bindL, if_pos hk.1]
    refine binds_ok ps vs ds (upd ρ p d0) _ r (fun q hq => hp q (.tail _ hq)) (fun y d' e' => ?_) x d e
    unfold upd at e'
    by_cases z : y = p
    · rw [if_pos z] at e' ⊢
      cases e'
      exact ⟨v, rfl, a, z ▸ hk.1, z ▸ hk.2⟩
    · rw [if_neg z] at e' ⊢
      exact h0 y d' e'

theorem lookup_keys {x : Str} : ∀ {l l' : List (Str × Addr)}, l.map (·.1) = l'.map (·.1) → (l.lookup x).isSome = (l'.lookup x).isSome
  | [], [], _ => rfl
  | [], _ :: _, h => by cases h
  | _ :: _, [], h => by cases h
  | (a, b) :: l, (a', b') :: l', h => by
    simp only [List.map_cons, List.cons.injEq] at h
    obtain ⟨rfl, h⟩ := h
    rw [List.lookup_cons, List.lookup_cons]
    cases hb : x == a with
    | true => rfl
    | false => exact lookup_keys h

structure KD (c : Cx) (names : List (Str × NameKind)) : Prop where
  kd : ∀ x y, names.lookup x = some y → c.env.kindOf x = some y
  cs : ∀ x, names.lookup x = some .cell → ∃ a, c.env.cells.lookup x = some a ∧ ¬ c.S a
theorem KD.st {names : List (Str × NameKind)} (K : KD c names) {x : Str} (e : names.lookup x = some .local) (hd : (x == ("__debug__" : Str)) = false) : Stores c x := ⟨hd, .inl (K.kd _ _ e)⟩
theorem KD.stC {names : List (Str × NameKind)} (K : KD c names) {x : Str} (e : names.lookup x = some .cell) (hd : (x == ("__debug__" : Str)) = false) : Stores c x := ⟨hd, .inr ⟨K.kd _ _ e, K.cs _ e⟩⟩
theorem KD.gl {names : List (Str × NameKind)} (K : KD c names) {x : Str} (e : names.lookup x = some .globalImplicit) : c.env.kindOf x = some .globalImplicit := K.kd _ _ e

/-- entering a called def -/
theorem enter {w : World} {A : Around} {R : Result → Shared → Prop} {s : Shared} {P : Addr → Prop} {h₀ : Heap} {I : Heap → Prop} {S : Addr → Prop} {f : Addr} {oc : Value} {od : Option Addr} {osl : Array (Option Value)} {fd : FuncData} {body : List Stmt} {ps : List Str} {ds : List D} {vs : List Value} {names : List (Str × NameKind)}
    (ho : (KW w).lookup f = some ⟨oc, od, .func fd, osl⟩) (hb : fd.body = .stmts body) (hcd : codeIn (KW w) fd.code fd.qualname = true) (hclo : fd.closure = []) (hg : fd.globals = mainGlobals) (hbu : fd.builtins = builtinsNs)
    (hk : fd.scope.kind = .function) (hco : fd.scope.isCoroutine = false) (hgen : fd.scope.isGenerator = false)
    (hbind : ∀ vs : List Value, vs.length = ps.length → bindArgs fd ⟨vs, []⟩ = pure (ps.zip vs)) (hlen : ps.length = ds.length)
    (hps : ∀ p ∈ ps, fd.scope.names.lookup p = some .local ∧ (p == ("__debug__" : Str)) = false) (hn : fd.scope.names = names)
    (hd : A.depth < recursionLimit) (room' : ∀ env, AOk (A.deeper env) k) (G : Gl w h₀) (sub : Stay h₀ s.heap) (PB : ∀ a, P a → ∃ o, s.heap.get? a = some o) (r : RdAll P s.heap vs ds) (inv : I s.heap)
    (SB : ∀ a, S a → ∃ o, s.heap.get? a = some o) (hI : ∀ h h', I h → (∀ b o, S b → h.get? b = some o → h'.get? b = some o) → I h')
    (h : ∀ (c : Cx), c.Ok k → KD c names → c.w = w → c.h₀ = h₀ → c.I = I → c.S = S → (∀ a, P a → c.P a) → (∀ a, c.P a → P a ∨ s.heap.objs.size ≤ a) → s.heap.objs.size ≤ c.env.locals → ∀ h₁ t₁, Stay s.heap h₁ → St c h₁ (bindRho (ps.zip ds) emp) →
      wpAny (model pw c.w) c.A (execs body c.env) (fun fl s' => R (.ok (.ret (match fl with | .ret v => v | _ => .none))) s') NoE { s with heap := h₁, toks := t₁ }) : codeAny (model pw w) A (.call (.ref f) ⟨vs, []⟩) R s := by
  have hl : vs.length = ps.length := by rw [r.length, hlen]
  have G' := G.keeps sub
  obtain ⟨lo, mg, mb, mean, T⟩ := G'.top
  refine codeAny_call_cells (fd := fd) (body := body) (binds := ps.zip vs) hd (G'.kin _ _ ho) rfl T.nolimit (codeRec_of G'.kin hcd) hb (hbind vs hl) hclo (fun x hx => .inl (hps x.1 (List.of_mem_zip hx).1).1) (fun s₁ X => ?_) hco hgen hk
  obtain ⟨h₁, t₁, rfl, stay⟩ := X.done
  have fresh : ∀ a, s.heap.objs.size ≤ a → s.heap.get? a = none := fun a ha => by
    cases e : s.heap.get? a with
    | none => rfl
    | some o' => exact absurd (Heap.lt_size e) (Nat.not_lt.mpr ha)
  have fresh0 : ∀ a, s.heap.objs.size ≤ a → h₀.get? a = none := fun a ha => by
    cases e : h₀.get? a with
    | none => rfl
    | some o' => have := sub _ _ e; rw [fresh a ha] at this; cases this
  generalize hcx : ({ w := w, A := A.deeper (callEnvC fd s.heap.objs.size f), h₀ := h₀, env := callEnvC fd s.heap.objs.size f, P := fun a => P a ∨ a = s.heap.objs.size ∨ ∃ x, (callEnvC fd s.heap.objs.size f).cells.lookup x = some a, I := I, S := S } : Cx) = c
  have cP : c.P = fun a => P a ∨ a = s.heap.objs.size ∨ ∃ x, (callEnvC fd s.heap.objs.size f).cells.lookup x = some a := by rw [← hcx]
  have PB' : ∀ a, c.P a → ∃ o, h₁.get? a = some o := fun a ha => by
    rw [cP] at ha
    rcases ha with ha | rfl | ⟨x, hx⟩
    · obtain ⟨o, e⟩ := PB a ha
      exact ⟨o, stay _ _ e⟩
    · obtain ⟨o, _, _, e, _⟩ := X.toInCall.ns
      exact ⟨o, e⟩
    · obtain ⟨o, e, _⟩ := X.cell x a hx
      exact ⟨o, e⟩
  have up : ∀ a, c.P a → P a ∨ s.heap.objs.size ≤ a := fun a ha => by
    rw [cP] at ha
    rcases ha with ha | rfl | ⟨x, hx⟩
    · exact .inl ha
    · exact .inr (Nat.le_refl _)
    · exact .inr (Nat.le_of_lt (X.above x a (mem_of_lookup hx)))
  have le : ∀ a, (∃ o, s.heap.get? a = some o) → c.P a → P a := fun a ⟨o, e⟩ ha => (up a ha).elim id fun z => absurd (Heap.lt_size e) (Nat.not_lt.mpr z)
  have ok : c.Ok k := by
    subst hcx
    exact {
      gl := G
      room := room' _
      fn := hk
      eg := hg
      eb := hbu
      PL := .inr (.inl rfl)
      Pc := fun x a hx => .inr (.inr ⟨x, hx⟩)
      hL := fresh0 _ (Nat.le_refl _)
      hc := fun x a hx => fresh0 _ (Nat.le_of_lt (X.above x a (mem_of_lookup hx)))
      apart := fun x a hx => Nat.ne_of_gt (X.above x a (mem_of_lookup hx))
      inj := fun x y a hx hy => name_of_addr X.apart (mem_of_lookup hx) (mem_of_lookup hy)
      inv := hI
      SL := fun z => by
        obtain ⟨o, e⟩ := SB _ z
        have e' : s.heap.get? s.heap.objs.size = some o := e
        rw [fresh _ (Nat.le_refl _)] at e'; cases e' }
  have st : St c h₁ (bindRho (ps.zip ds) emp) := by
    have rr := (r.le le).ext (Stay.ext (P := c.P) stay)
    subst hcx
    exact {
      keep := sub.trans stay
      PB := PB'
      SB := fun a ha => let ⟨o, e⟩ := SB a ha; ⟨o, stay _ _ e⟩
      inv := hI _ _ inv fun b o _ e => stay _ _ e
      vars := ⟨_, _, X.toInCall.ns, fun x a hx => X.cell x a hx, fun x dd e => by
        obtain ⟨v, e1, rv, e2, e3⟩ := binds_ok (P := fun a => P a ∨ a = s.heap.objs.size ∨ ∃ x, (callEnvC fd s.heap.objs.size f).cells.lookup x = some a) (h := h₁) (env := callEnvC fd s.heap.objs.size f) ps vs ds emp (fun _ => none) rr (fun p hp => hps p hp) (fun x d e => by cases e) x dd e
        exact ⟨v, ⟨e3, .inl ⟨e2, e1⟩⟩, rv⟩⟩ }
  have kd : KD c names := by
    subst hcx hn
    refine ⟨fun x y e => e, fun x e => ?_⟩
    obtain ⟨a, hx⟩ := Option.isSome_iff_exists.mp (cellsFrom_some _ (s.heap.objs.size + 1) [] (.inl e))
    refine ⟨a, hx, fun z => ?_⟩
    obtain ⟨o, e⟩ := SB _ z
    rw [fresh _ (Nat.le_of_lt (X.above x a (mem_of_lookup hx)))] at e
    cases e
  have fin := h c ok kd (by rw [← hcx]) (by rw [← hcx]) (by rw [← hcx]) (by rw [← hcx]) (fun a ha => by rw [cP]; exact .inl ha) up (by rw [← hcx]; exact Nat.le_refl _) h₁ t₁ stay st
  subst hcx
  exact wpAny_mono fin (fun fl s' x => x) fun _ _ x => x.elim

/-- how a def's contract is shown -/
theorem Cl.intro {w : World} {f : Addr} {oc : Value} {od : Option Addr} {osl : Array (Option Value)} {fd : FuncData} {body : List Stmt} {ps : List Str} {ds : List D} {d : D} {names : List (Str × NameKind)}
    (ho : (KW w).lookup f = some ⟨oc, od, .func fd, osl⟩) (hb : fd.body = .stmts body) (hcd : codeIn (KW w) fd.code fd.qualname = true) (hclo : fd.closure = []) (hg : fd.globals = mainGlobals) (hbu : fd.builtins = builtinsNs)
    (hk : fd.scope.kind = .function) (hco : fd.scope.isCoroutine = false) (hgen : fd.scope.isGenerator = false)
    (hbind : ∀ vs : List Value, vs.length = ps.length → bindArgs fd ⟨vs, []⟩ = pure (ps.zip vs)) (hlen : ps.length = ds.length)
    (hps : ∀ p ∈ ps, fd.scope.names.lookup p = some .local ∧ (p == ("__debug__" : Str)) = false) (hn : fd.scope.names = names)
    (h : ∀ (c : Cx), c.Ok k → KD c names → Ex c (bindRho (ps.zip ds) emp) body (is (.ret d))) : Cl w (k + 1) (.ref f) ds d := by
  intro A P s vs Q E room G PB r hQ
  refine wpAny_call (enter (I := fun _ => True) (S := fun _ => False) ho hb hcd hclo hg hbu hk hco hgen hbind hlen hps hn room.room (fun env => room.deeper env) G (Stay.refl _) PB r trivial (fun _ h => h.elim) (fun _ _ _ _ => trivial) fun c o K cw ch ci cs p1 p2 _ h₁ t₁ stay st => ?_)
  refine h c o K _ _ st fun r' fl h' tk hr ho' ext => ?_
  subst hr
  obtain ⟨v, ρ', rfl, rv, sv⟩ := ho'
  exact hQ v h' tk (ch ▸ sv.keep) (rv.le fun a _ ha => p1 a ha)
end
end
-- part L6
section
/-- the top and the places, without needless noughts -/
def norm : Int → Nat → Int × Nat
  | t, 0 => (t, 0)
  | t, p + 1 => if t.fmod 10 = 0 then norm (t.fdiv 10) p else (t, p + 1)

section
variable {k : Nat}
theorem aok_make {A : Around} (x : AOk A (k + 1)) (C : Addr) (vals : List Value) (env : Env) : AOk ((A.under (.builtin "type.__call__" ⟨.ref C :: vals, []⟩)).deeper env) k :=
  ⟨x.hh, by have := x.dp; show A.depth + 1 + 1 + 2 * k + 2 ≤ 1000; omega, by
    have := x.un
    have e : (Code.builtin "type.__call__" ⟨.ref C :: vals, []⟩).cUnits = 1 := rfl
    show A.units + (Code.builtin "type.__call__" ⟨.ref C :: vals, []⟩).cUnits + 3 + 12 * k + 100 ≤ 9900
    omega⟩

theorem fr_name {c : Cx} (o : c.Ok k) {m : Str → Option Value} {s : Shared} {x : Str} {v : Value} {pos : Pos} {Q : Value → Shared → Prop} (hn : s.heap.Ns c.env.locals m) (hk : c.env.kindOf x = some .local) (hv : m x = some v) (hd : (x == ("__debug__" : Str)) = false) (h : Q v s) :
    wpAny (model pw c.w) c.A (eval (.Name x pos) c.env) Q NoE s := wpAny_Name (wpAny_loadName_local o.fn hk hn hv h) hd

theorem c_dec {w : World} (t : Int) (p : Nat) : Cl w (k + 1) (.ref 136) [.int t, .int p] (.dec (norm t p).1 (norm t p).2) := by
  intro A P s vs Q E room G PB r hQ
  obtain ⟨v1, v2, rfl, a, b⟩ := r.two
  cases a with | int _ tk1 =>
  cases b with | int _ tk2 =>
  obtain ⟨hh, g, d, tk, os⟩ := s
  dsimp only at G PB r hQ ⊢
  refine wpAny_call (make_core (makes_of G.kin (by kernel_rfl)) (init := .ref 56) (looks_findIn G.kin (by kernel_rfl)) (fun self => PySem.W.bind_fn G.kin self (by kernel_rfl)) (.inl (by rfl)) ?_)
  generalize hs2 : (⟨(hh.push emptyDict).push (instObj 136 hh.objs.size), g, d, tk, os⟩ : Shared) = s2
  have e2 : s2.heap = (hh.push emptyDict).push (instObj 136 hh.objs.size) := by rw [← hs2]
  have sz : s2.heap.objs.size = hh.objs.size + 2 := by rw [e2, Heap.size_push, Heap.size_push]
  have hx : s2.heap.get? (hh.objs.size + 1) = some (instObj 136 hh.objs.size) := by
    rw [e2]
    have := Heap.get?_push_size (hh.push emptyDict) (o := instObj 136 hh.objs.size) rfl
    rwa [Heap.size_push] at this
  have hdx : s2.heap.get? hh.objs.size = some emptyDict := by
    rw [e2]
    exact Heap.get?_push_of_some _ (Heap.get?_push_size _ rfl)
  have st02 : Stay hh s2.heap := by rw [e2]; exact (stay_push _ _).trans (stay_push _ _)
  have PB2 : ∀ a, (P a ∨ a = hh.objs.size) → ∃ o, s2.heap.get? a = some o := fun a ha => by
    rcases ha with ha | rfl
    · obtain ⟨o, e⟩ := PB a ha; exact ⟨o, st02 _ _ e⟩
    · exact ⟨_, hdx⟩
  have rr : RdAll (fun a => P a ∨ a = hh.objs.size) s2.heap [.ref (hh.objs.size + 1), .int t tk1, .int p tk2] [.raw (.ref (hh.objs.size + 1)), .int t, .int p] := .cons (.raw _) (.cons (.int _ _) (.cons (.int _ _) .nil))
  refine enter (k := k) (P := fun a => P a ∨ a = hh.objs.size) (h₀ := hh) (I := fun h => h.get? (hh.objs.size + 1) = some (instObj 136 hh.objs.size) ∧ h.get? hh.objs.size = some emptyDict) (ps := [Str.ofString "self", Str.ofString "top", Str.ofString "places"])
    (ho := rfl) (hb := rfl) (hcd := by kernel_rfl) (hclo := rfl) (hg := rfl) (hbu := rfl) (hk := rfl) (hco := rfl) (hgen := rfl) (hbind := ?hbind) (hlen := rfl) (hps := by decide) (hn := rfl) ?_ (fun env => aok_make room _ _ env) G st02 PB2 rr ⟨hx, hdx⟩ (S := fun a => a = hh.objs.size + 1 ∨ a = hh.objs.size) (fun a ha => ha.elim (fun e => ⟨_, e ▸ hx⟩) fun e => ⟨_, e ▸ hdx⟩) (fun h h' hi hk' => ⟨hk' _ _ (.inl rfl) hi.1, hk' _ _ (.inr rfl) hi.2⟩) ?_
  case hbind =>
    intro vs h
    match vs, h with
    | [a, b, c], _ => rfl
  · have := room.dp
    show A.depth + 1 < 1000
    omega
  intro c o K cw ch ci cs p1 p2 lsz h₁ t₁ stay st
  dsimp only at K
  refine wpAny_execs_cons (exec_of_execs ?_)
  let Ψ : Res → Prop := fun r => ∃ ρ', r = .next ρ' ∧ ρ' (Str.ofString "self") = some (.raw (.ref (hh.objs.size + 1))) ∧ ρ' (Str.ofString "top") = some (.int (norm t p).1) ∧ ρ' (Str.ofString "places") = some (.int (norm t p).2)
  refine (Ex.while (Ψ := Ψ) (Θ := Ψ) (fun n ρ => ρ (Str.ofString "self") = some (.raw (.ref (hh.objs.size + 1))) ∧ ∃ t', ρ (Str.ofString "top") = some (.int t') ∧ ρ (Str.ofString "places") = some (.int (n : Nat)) ∧ norm t' n = norm t p) p ⟨rfl, t, rfl, rfl, rfl⟩ ?step (fun ρ' h => Ex.nil h)) _ _ st ?cont
  case step =>
    rintro n ρ ⟨hs, t', ht, hp, hn⟩
    refine ⟨decide ((0 : Int) < (n : Int)) && (decide (t'.fmod 10 = 0) && true), ?_, ?_, ?_⟩
    · exact Tr.and (Tr.cmp (Ev.name o hp) Ev.int CmpOk.gt) fun _ => Tr.and (Tr.cmp (Ev.mod (Ev.name o ht) Ev.int (by decide)) Ev.int CmpOk.eq) fun _ => Tr.and_nil
    · intro h
      simp only [Bool.and_eq_true, decide_eq_true_eq, Bool.and_true] at h
      obtain ⟨h1, h2⟩ := h
      cases n with
      | zero => simp at h1
      | succ n =>
        refine Ex.assignD o (K.st (by decide) (by decide)) (Ev.floordiv (Ev.name o ht) Ev.int (by decide) (intBits_le_iff.mpr (by decide))) ?_
        refine Ex.assignD o (K.st (by decide) (by decide)) (Ev.sub (Ev.name o (d := .int ((n + 1 : Nat) : Int)) ?_) Ev.int) ?_
        · unfold upd; rw [if_neg (by decide)]; exact hp
        refine Ex.nil ⟨n, Nat.lt_succ_self _, ?_, t'.fdiv 10, ?_, ?_, ?_⟩
        · unfold upd; rw [if_neg (by decide), if_neg (by decide)]; exact hs
        · unfold upd; rw [if_neg (by decide), if_pos rfl]
        · unfold upd; rw [if_pos rfl, show ((n + 1 : Nat) : Int) - 1 = (n : Int) by omega]
        · rw [← hn, norm, if_pos h2]
    · intro h
      have hf : norm t' n = (t', n) := by
        cases n with
        | zero => rfl
        | succ n =>
          rw [norm, if_neg]
          intro h2
          have h1 : (0 : Int) < ((n + 1 : Nat) : Int) := by omega
          simp [h2] at h
      rw [hf] at hn
      exact ⟨ρ, rfl, hs, by rw [ht, ← hn], by rw [hp, ← hn]⟩
  rintro r f h' tk' ⟨ρ', rfl, e1, e2', e3⟩ ⟨rfl, st'⟩ ext
  obtain ⟨m, cm, V⟩ := st'.vars
  have nm : ∀ x d, ρ' x = some d → c.env.kindOf x = some .local → ∃ v, m x = some v ∧ Rd c.P h' v d := fun x d e hk => by
    obtain ⟨v, ⟨_, b⟩, r⟩ := V.rd x d e
    rcases b with ⟨_, b⟩ | ⟨b, _⟩ | ⟨b, _⟩
    · exact ⟨v, b, r⟩
    · rw [hk] at b; cases b
    · rw [hk] at b; cases b
  have k1 := K.kd (Str.ofString "self") .local (by decide)
  have k2 := K.kd (Str.ofString "top") .local (by decide)
  have k3 := K.kd (Str.ofString "places") .local (by decide)
  obtain ⟨v1, m1, r1⟩ := nm _ _ e1 k1
  obtain ⟨v2, m2, r2⟩ := nm _ _ e2' k2
  obtain ⟨v3, m3, r3⟩ := nm _ _ e3 k3
  cases r1
  cases r2 with | int _ u2 =>
  cases r3 with | int _ u3 =>
  have F : Fr hh c.env.locals h' m := ⟨V.ns, ch ▸ st'.keep, by omega⟩
  have inv := st'.inv
  rw [ci] at inv
  have fr0 : ∀ a, hh.objs.size ≤ a → hh.get? a = none := fun a ha => by
    cases e : hh.get? a with
    | none => rfl
    | some o' => exact absurd (Heap.lt_size e) (Nat.not_lt.mpr ha)
  have l1 : hh.objs.size + 1 < c.env.locals := by rw [sz] at lsz; exact lsz
  have N : News hh c.env.locals h' [(hh.objs.size + 1, instObj 136 hh.objs.size), (hh.objs.size, dictOf [] 0)] := fun q hq => by
    rcases List.mem_cons.mp hq with rfl | hq
    · exact ⟨inv.1, Nat.ne_of_lt l1, fr0 _ (Nat.le_succ _)⟩
    · rw [List.mem_singleton.mp hq]
      exact ⟨inv.2, Nat.ne_of_lt (Nat.lt_of_succ_lt l1), fr0 _ (Nat.le_refl _)⟩
  have X : (KW c.w).In hh := cw ▸ G.kin
  have ne : hh.objs.size + 1 ≠ hh.objs.size := Nat.succ_ne_self _
  refine wpAny_execs_cons (plainObj_wpAny_Assign_Attribute (fr_name o F.ns k2 m2 (by decide) (fr_name o F.ns k1 m1 (by decide) ?_)))
  refine PySem.W.set_dict (K := KW c.w) (C := 136) (es := []) (n := 0) (es' := [_]) (n' := 1) F X N ⟨inv.1, rfl, rfl, inv.2⟩ rfl (by kernel_rfl) (by kernel_rfl) (by kernel_rfl) (by kernel_rfl) (by rfl) rfl (.tail ne (.head (fun _ h => nomatch h))) (by simp) fun h2 F2 N2 => ?_
  refine wpAny_execs_cons (plainObj_wpAny_Assign_Attribute (fr_name o F2.ns k3 m3 (by decide) (fr_name o F2.ns k1 m1 (by decide) ?_)))
  refine PySem.W.set_dict (K := KW c.w) (C := 136) (es' := [_, _]) (n' := 2) F2 X N2 (InstAt.of_news N2 (.head _) (.tail _ (.head _))) rfl (by kernel_rfl) (by kernel_rfl) (by kernel_rfl) (by kernel_rfl) (by rfl) rfl (.tail ne (.head (fun _ h => nomatch h))) (by simp) fun h3 F3 N3 => ?_
  refine wpAny_execs_nil ⟨rfl, ?_⟩
  subst hs2
  refine hQ _ h3 _ F3.keep (.dec ⟨hh.objs.size, _, _, _, _, _, _, _, (N3 _ (.head _)).1, (N3 _ (.tail _ (.head _))).1, ?_, ?_⟩)
  · exact fun z => by obtain ⟨o, e⟩ := PB _ z; rw [fr0 _ (Nat.le_succ _)] at e; cases e
  · exact fun z => by obtain ⟨o, e⟩ := PB _ z; rw [fr0 _ (Nat.le_refl _)] at e; cases e
end
end
-- part L7
section
section
variable {c : Cx} {ρ : Rho} {k : Nat}

/-- what a loop walks over -/
def Iter (c : Cx) (ρ : Rho) (iter : PySem.Expr) (n : Nat) (items : Nat → D) : Prop :=
  ∀ (s : Shared) (Q : Value → Shared → Prop), St c s.heap ρ →
    (∀ I fp P Stt hb h' tk, Walks pw c.w c.A I fp [I] n P Stt → Stt 0 h' → hb.get? I = none → St c hb ρ → Ext c.P s.heap hb → Stay hb h' → (∀ i h, Stt i h → ∃ o, h.get? I = some o) → (∀ b ∈ fp, ∃ o, h'.get? b = some o) → (∀ b ∈ fp, b = I ∨ (¬ c.P b ∧ b ≠ I)) → I ∈ fp →
      (∀ i v, P i v → i < n → Rd c.P hb v (items i)) → Q (.ref I) { s with heap := h', toks := tk }) →
    wpAny (model pw c.w) c.A (eval iter c.env) (fun xv s₁ => wpAny (model pw c.w) c.A (pyIter xv) Q NoE s₁) NoE s

theorem RdAll.get {P : Addr → Prop} {h : Heap} : ∀ {vs : List Value} {ds : List D} (r : RdAll P h vs ds) {i : Nat} {v : Value}, vs[i]? = some v → Rd P h v (ds.getD i .none)
  | _, _, .nil, _, _, e => by cases e
  | _, _, .cons a r, 0, _, e => by cases e; exact a
  | _, _, .cons a r, i + 1, _, e => by
    have := RdAll.get r (i := i) (by simpa using e)
    simpa using this

theorem Iter.list {iter : PySem.Expr} {ds : List D} (o : c.Ok k) (h : Ev c ρ iter (is (.lst ds))) : Iter c ρ iter ds.length (fun i => ds.getD i .none) := by
  intro s Q hs hQ
  refine h s _ hs fun v d h₁ t₁ ed s₁ r₁ e₁ => ?_
  cases ed
  cases r₁ with
  | @lst a vs _ hl hp ra =>
    refine wpAny_pyIter_list hl ?_
    have hlt : a ≠ h₁.objs.size := by obtain ⟨oo, e, _⟩ := hl; exact Nat.ne_of_lt (Heap.lt_size e)
    have W := Walks.list (prog := pw) (w := c.w) (A := c.A) o.room.hh h₁.objs.size a hlt vs.toArray
    have hlen : vs.toArray.size = ds.length := by rw [List.size_toArray, ra.length]
    rw [hlen] at W
    refine hQ h₁.objs.size _ _ _ h₁ _ t₁ W ⟨⟨_, Heap.get?_push_size _ rfl, rfl, rfl⟩, hl.push _⟩ ?_ s₁ e₁ (stay_push _ _) (fun i h y => let ⟨oo, e, _⟩ := y.1; ⟨oo, e⟩) (fun b hb => ?_) ?_ (.head _) fun i v hv _ => ra.get (by simpa using hv)
    · cases e : h₁.get? h₁.objs.size with
      | none => rfl
      | some o' => exact absurd (Heap.lt_size e) (Nat.lt_irrefl _)
    · rcases List.mem_cons.mp hb with rfl | hb
      · exact ⟨_, Heap.get?_push_size _ rfl⟩
      · rw [List.mem_singleton.mp hb]
        obtain ⟨oo, e, _⟩ := hl
        exact ⟨oo, Heap.get?_push_of_some _ e⟩
    · intro b hb
      rcases List.mem_cons.mp hb with rfl | hb
      · exact .inl rfl
      · rw [List.mem_singleton.mp hb]
        exact .inr ⟨hp, hlt⟩

def signs (x : Str) (i : Nat) : D := .str ⟨#[x.cps.getD i 0]⟩
theorem Iter.str {iter : PySem.Expr} {x : Str} (o : c.Ok k) (ha : x.cps.all (· < 128) = true) (h : Ev c ρ iter (is (.str x))) : Iter c ρ iter x.cps.size (signs x) := by
  intro s Q hs hQ
  refine h s _ hs fun v d h₁ t₁ ed s₁ r₁ e₁ => ?_
  cases ed
  cases r₁ with
  | str _ tk =>
    refine wpAny_pyIter_ascii ha ?_
    refine hQ h₁.objs.size _ _ _ h₁ _ t₁ (Walks.strAscii o.room.hh h₁.objs.size x tk) ⟨_, Heap.get?_push_size _ rfl, rfl, rfl⟩ ?_ s₁ e₁ (stay_push _ _) (fun i h y => let ⟨oo, e, _⟩ := y; ⟨oo, e⟩) (fun b hb => ⟨_, List.mem_singleton.mp hb ▸ Heap.get?_push_size _ rfl⟩) ?_ (List.mem_singleton.mpr rfl) fun i v hv hi => ?_
    · cases e : h₁.get? h₁.objs.size with
      | none => rfl
      | some o' => exact absurd (Heap.lt_size e) (Nat.lt_irrefl _)
    · intro b hb
      exact .inl (List.mem_singleton.mp hb)
    · obtain ⟨cc, u, e, rfl⟩ := hv
      have : signs x i = .str ⟨#[cc]⟩ := by
        unfold signs
        simp [Array.getD_eq_getD_getElem?, e]
      rw [this]
      exact .str _ _

/-- the look of a context while a loop is on -/
abbrev Cx.on (c : Cx) (P' : Addr → Prop) (I' : Heap → Prop) (S' : Addr → Prop) : Cx := { c with P := P', I := I', S := S' }
abbrev Cx.at (c : Cx) (I : Addr) (fp : List Addr) (S : Heap → Prop) : Cx := c.on (fun a => c.P a ∨ a = I) (fun h => c.I h ∧ S h) (fun a => c.S a ∨ a ∈ fp)

theorem St.on {I : Addr} {fp : List Addr} {hb : Heap} {S : Heap → Prop} (o : c.Ok k) (st : St c hb ρ) (hn : hb.get? I = none) {h' : Heap} (k' : Stay hb h') (hI : ∃ o, h'.get? I = some o) (hf : ∀ b ∈ fp, ∃ o, h'.get? b = some o) (hS : S h') : St (c.at I fp S) h' ρ := by
  obtain ⟨m, cm, V⟩ := st.vars
  refine ⟨st.keep.trans k', fun a ha => ?_, fun a ha => ?_, ⟨o.inv _ _ st.inv fun b ob _ e => k' b ob e, hS⟩, m, cm, V.ns.keeps k', fun x a e => (V.cell x a e).keeps k', fun x d e => ?_⟩
  · rcases ha with ha | rfl
    · obtain ⟨o, e⟩ := st.PB a ha; exact ⟨o, k' _ _ e⟩
    · exact hI
  · rcases ha with ha | ha
    · obtain ⟨o, e⟩ := st.SB a ha; exact ⟨o, k' _ _ e⟩
    · exact hf a ha
  · obtain ⟨v, b, r⟩ := V.rd x d e
    refine ⟨v, b, Rd.ext (Stay.ext k') (r.le fun a ⟨o, ho⟩ ha => ?_)⟩
    rcases ha with ha | rfl
    · exact ha
    · rw [hn] at ho; cases ho
theorem St.off {I : Addr} {fp : List Addr} {S : Heap → Prop} {h : Heap} (st : St (c.at I fp S) h ρ) : St c h ρ := by
  obtain ⟨m, cm, V⟩ := st.vars
  refine ⟨st.keep, fun a ha => st.PB a (.inl ha), fun a ha => st.SB a (.inl ha), st.inv.1, m, cm, V.ns, V.cell, fun x d e => ?_⟩
  obtain ⟨v, b, r⟩ := V.rd x d e
  exact ⟨v, b, r.le fun a _ ha => .inl ha⟩
theorem Cx.Ok.at (o : c.Ok k) {I : Addr} {S : Heap → Prop} {fp : List Addr} (hf : ∀ h h', S h → (∀ b ∈ fp, ∀ o, h.get? b = some o → h'.get? b = some o) → S h') (hL : c.env.locals ∉ fp) (hc : ∀ x a, c.env.cells.lookup x = some a → a ∉ fp) :
    (c.at I fp S).Ok k where
  gl := o.gl
  room := o.room
  fn := o.fn
  eg := o.eg
  eb := o.eb
  PL := .inl o.PL
  Pc := fun x a e => .inl (o.Pc x a e)
  hL := o.hL
  hc := o.hc
  apart := o.apart
  inj := o.inj
  inv := fun h h' hi hk => ⟨o.inv h h' hi.1 fun b ob sb e => hk b ob (.inl sb) e, hf h h' hi.2 fun b hb ob e => hk b ob (.inr hb) e⟩
  SL := fun z => z.elim o.SL hL

/-- a turn's statements are shown in a context c' of the same frame -/
def Like (c c' : Cx) : Prop := ∃ I fp S, c' = c.at I fp S ∧ ∀ x a, c.env.cells.lookup x = some a → a ∉ fp
theorem Like.kd {c' : Cx} (l : Like c c') {names : List (Str × NameKind)} (K : KD c names) : KD c' names := by obtain ⟨_, fp, _, rfl, hf⟩ := l; exact ⟨K.kd, fun x e => let ⟨a, h1, h2⟩ := K.cs x e; ⟨a, h1, fun z => z.elim h2 (hf x a h1)⟩⟩
theorem Like.I {c' : Cx} (l : Like c c') {h : Heap} (x : c'.I h) : c.I h := by obtain ⟨_, _, _, rfl, _⟩ := l; exact x.1

theorem Ex.for {x : Str} {px pos : Pos} {iter : PySem.Expr} {body rest : List Stmt} {n : Nat} {items : Nat → D} {Ψ Θ : Res → Prop} (o : c.Ok k) (hx : (x == ("__debug__" : Str)) = false) (hk : c.env.kindOf x = some .local) (hi : Iter c ρ iter n items)
    (J : Nat → Rho → Prop) (h0 : J 0 ρ)
    (step : ∀ (c' : Cx) (i : Nat) (ρ' : Rho), i < n → J i ρ' → c'.Ok k → Like c c' →
      Ex c' (upd ρ' x (items i)) body fun r => match r with | .next ρ'' => J (i + 1) ρ'' | .ret d => Θ (.ret d) | .brk ρ'' => Ψ (.next ρ''))
    (done : ∀ ρ', J n ρ' → Ψ (.next ρ')) (h : ∀ ρ', Ψ (.next ρ') → Ex c ρ' rest Θ) (hs : ∀ x, foldedSetIterable iter c.env x = pure x := by intro _; rfl) : Ex c ρ (.For (.Name x px) iter body [] pos :: rest) Θ := by
  intro s Q st hQ
  refine wpAny_execs_cons (wpAny_For (hi s _ st fun I fp P Stt hb h' tk W hst hbn sb e₁ k₁ hIo fpx hfp hIf hP => ?_) hs)
  have hI0 : c.h₀.get? I = none := by
    cases e : c.h₀.get? I with
    | none => rfl
    | some o' => rw [sb.keep _ _ e] at hbn; cases hbn
  have notP : ¬ c.P I := fun z => by obtain ⟨o', e⟩ := sb.PB _ z; rw [hbn] at e; cases e
  have notS : ¬ c.S I := fun z => by obtain ⟨o', e⟩ := sb.SB _ z; rw [hbn] at e; cases e
  have hLf : c.env.locals ∉ fp := fun z => (hfp _ z).elim (fun e => notP (e ▸ o.PL)) fun e => e.1 o.PL
  have hcf : ∀ x a, c.env.cells.lookup x = some a → a ∉ fp := fun x a e z => (hfp _ z).elim (fun e' => notP (e' ▸ o.Pc x a e)) fun e' => e'.1 (o.Pc x a e)
  have ok : ∀ i, (c.at I fp (Stt i)).Ok k := fun i => o.at (W.frame i) hLf hcf
  have wr : ∀ b, b ≠ I → b ∉ [I] := fun b hb z => hb (List.mem_singleton.mp z)
  have ext1 : ∀ {h h' : Heap}, (∀ b o, b ∉ [I] → h.get? b = some o → h'.get? b = some o) → Ext (fun a => c.P a ∨ a = I) h h' := fun hk b ob nb e => hk b ob (wr b fun z => nb (.inr z)) e
  have move : ∀ {h₂ h₃ : Heap} {ρ' : Rho} {i j : Nat}, St (c.at I fp (Stt i)) h₂ ρ' → Stt j h₃ → (∀ b o, b ∉ [I] → h₂.get? b = some o → h₃.get? b = some o) → St (c.at I fp (Stt j)) h₃ ρ' := fun {h₂ h₃ ρ' i j} s₂ hst₃ hk₃ => by
    obtain ⟨mm, cm, V⟩ := s₂.vars
    have lI : c.env.locals ≠ I := fun z => hLf (z ▸ hIf)
    have keepB : ∀ a, (∃ o, h₂.get? a = some o) → ∃ o, h₃.get? a = some o := fun a ⟨ob, e⟩ => by
      by_cases z : a = I
      · exact z ▸ hIo _ _ hst₃
      · exact ⟨ob, hk₃ _ _ (wr _ z) e⟩
    refine ⟨fun b ob e => hk₃ b ob (wr b fun z => by rw [z, hI0] at e; cases e) (s₂.keep b ob e), fun a ha => keepB a (s₂.PB a ha), fun a ha => keepB a (s₂.SB a ha), ⟨o.inv _ _ s₂.inv.1 fun b ob sb e => hk₃ b ob (wr b fun z => notS (z ▸ sb)) e, hst₃⟩, mm, cm, ?_, fun y a e => ?_, fun y d e => ?_⟩
    · exact V.ns.at' fun ob e => hk₃ _ ob (wr _ lI) e
    · obtain ⟨oc, hoc, hd⟩ := V.cell y a e
      exact ⟨oc, hk₃ _ _ (wr _ fun z => hcf y a e (z ▸ hIf)) hoc, hd⟩
    · obtain ⟨u, b, r⟩ := V.rd y d e
      exact ⟨u, b, r.ext (ext1 hk₃)⟩
  refine codeAny_forLoop (fun m s' => ∃ i h₂ t₂ ρ', s' = { s with heap := h₂, toks := t₂ } ∧ i ≤ n ∧ m = n - i ∧ J i ρ' ∧ St (c.at I fp (Stt i)) h₂ ρ' ∧ Ext (fun a => c.P a ∨ a = I) hb h₂) ?_ n
    ⟨0, h', tk, ρ, rfl, Nat.zero_le _, rfl, h0, sb.on o hbn k₁ (hIo _ _ hst) fpx hst, k₁.ext⟩
  have back : ∀ {h₂ : Heap}, Ext (fun a => c.P a ∨ a = I) hb h₂ → Ext c.P s.heap h₂ := fun {h₂} x b ob nb e => by
    have e' := e₁ b ob nb e
    exact x b ob (fun z => z.elim nb fun z => by rw [z, hbn] at e'; cases e') e'
  rintro m s' ⟨i, h₂, t₂, ρ', rfl, hin, rfl, hJ, s₂, ext⟩
  by_cases hlt : i < n
  · refine W.item i _ _ _ hlt s₂.inv.2 fun v h₃ t₃ hPv hst₃ hk₃ => ?_
    have e3 := ext1 hk₃
    have rdv : Rd (fun a => c.P a ∨ a = I) h₃ v (items i) := by
      refine Rd.ext (ext.trans e3) ((hP i v hPv hlt).le fun a ⟨o', e⟩ ha => ?_)
      rcases ha with ha | rfl
      · exact ha
      · rw [hbn] at e; cases e
    have s₃ := move s₂ hst₃ hk₃
    refine wpAny_mono (wpAny_assign_Name (store_at (o' := ok (i + 1)) (c := c.at I fp (Stt (i + 1))) s₃ rdv hx (.inl hk) (Q := fun _ s' => wpAny (model pw c.w) c.A (execs body c.env) _ _ s') fun h₄ t₄ s₄ e₄ => ?_)) (fun _ _ x => x) (fun _ _ x => x.elim)
    refine wpAny_mono (step (c.at I fp (Stt (i + 1))) i ρ' hlt hJ (ok (i + 1)) ⟨_, _, _, rfl, hcf⟩ _ _ s₄ fun r f h₅ t₅ hr ho e₅ => ?_) (fun _ _ x => x) (fun _ _ x => x.elim)
    have eall := ((ext.trans e3).trans e₄).trans e₅
    cases r with
    | next ρ'' =>
      obtain ⟨rfl, s₅⟩ := ho
      exact ⟨n - (i + 1), by omega, i + 1, h₅, t₅, ρ'', rfl, hlt, rfl, hr, s₅, eall⟩
    | ret d =>
      obtain ⟨v, ρ'', rfl, rv, s₅⟩ := ho
      exact hQ (.ret d) (.ret v) h₅ t₅ hr ⟨v, ρ'', rfl, rv.le fun a _ ha => .inl ha, s₅.off⟩ (back eall)
    | brk ρ'' =>
      obtain ⟨rfl, s₅⟩ := ho
      exact h ρ'' hr _ Q s₅.off fun r f h₃ t₃ x y z => hQ r f h₃ t₃ x y ((back eall).trans z)
  · have hin' : i = n := by omega
    subst hin'
    refine W.done _ _ _ s₂.inv.2 fun h₃ t₃ hk₃ => wpAny_execs_nil ?_
    have s₃ : St c h₃ ρ' := by
      obtain ⟨mm, cm, V⟩ := s₂.vars
      have lI : c.env.locals ≠ I := fun z => hLf (z ▸ hIf)
      refine ⟨fun b ob e => hk₃ b ob (wr b fun z => by rw [z, hI0] at e; cases e) (s₂.keep b ob e), fun a ha => ?_, fun a ha => ?_, o.inv _ _ s₂.inv.1 fun b ob sb e => hk₃ b ob (wr b fun z => notS (z ▸ sb)) e, mm, cm, ?_, fun y a e => ?_, fun y d e => ?_⟩
      · obtain ⟨ob, e⟩ := s₂.PB a (.inl ha)
        exact ⟨ob, hk₃ _ _ (wr _ fun z => notP (z ▸ ha)) e⟩
      · obtain ⟨ob, e⟩ := s₂.SB a (.inl ha)
        exact ⟨ob, hk₃ _ _ (wr _ fun z => notS (z ▸ ha)) e⟩
      · exact V.ns.at' fun ob e => hk₃ _ ob (wr _ lI) e
      · obtain ⟨oc, hoc, hd⟩ := V.cell y a e
        exact ⟨oc, hk₃ _ _ (wr _ fun z => hcf y a e (z ▸ hIf)) hoc, hd⟩
      · obtain ⟨u, b, r⟩ := V.rd y d e
        exact ⟨u, b, (r.ext (ext1 hk₃)).le fun a _ ha => .inl ha⟩
    exact h ρ' (done ρ' hJ) _ Q s₃ fun r f h₄ t₄ x y z => hQ r f h₄ t₄ x y ((back (ext.trans (ext1 hk₃))).trans z)
end
end
-- part L8
section
section
variable {c : Cx} {ρ : Rho} {k : Nat}

theorem RdAll.snoc {P : Addr → Prop} {h : Heap} {v : Value} {d : D} : ∀ {vs : List Value} {ds : List D}, RdAll P h vs ds → Rd P h v d → RdAll P h (vs ++ [v]) (ds ++ [d])
  | _, _, .nil, y => .cons y .nil
  | _, _, .cons a r, y => .cons a (RdAll.snoc r y)
/-- the context of a comprehension's element -/
abbrev Cx.comp (c : Cx) (scope : Scope) (cl : List (Str × Addr)) (C D I : Addr) (fp : List Addr) (J : Heap → Prop) : Cx :=
  { c with env := compEnvC scope cl C c.env, P := fun a => c.P a ∨ a = I ∨ a = D ∨ a = C, I := fun h => c.I h ∧ J h, S := fun a => c.S a ∨ a ∈ fp ∨ a = D ∨ a = c.env.locals ∨ ∃ x, c.env.cells.lookup x = some a }

theorem evComp {elt iter : PySem.Expr} {x : Str} {px pos : Pos} {scope : Scope} {cl : List (Str × Addr)} {n : Nat} {items g : Nat → D} {ρ' : Rho} {names' : List (Str × NameKind)}
    (o : c.Ok k) (hi : Iter c ρ iter n items) (hclos : closureFor scope c.env = pure cl) (hcell : ∀ y ∈ scope.names, y.2 ≠ .cell) (hkind : scope.kind = .function)
    (hnames : ∀ y ∈ scope.names, y.2 = .local → scope.names.lookup y.1 = some .local) (hx : scope.names.lookup x = some .local) (hxd : (x == ("__debug__" : Str)) = false)
    (hsub : ∀ y a, cl.lookup y = some a → c.env.cells.lookup y = some a)
    (hρ : ∀ y d, ρ' y = some d → ρ y = some d ∧ c.env.kindOf y = some .cell ∧ (relabel scope c.env).names.lookup y = some .cell ∧ ∃ a, cl.lookup y = some a)
    (hn' : (relabel scope c.env).names = names')
    (step : ∀ (c' : Cx) (i : Nat), i < n → c'.Ok k → c'.w = c.w → (∀ x y, names'.lookup x = some y → c'.env.kindOf x = some y) → Ev c' (upd ρ' x (items i)) elt (is (g i))) (hn : n ≤ 1000)
    (hs : ∀ x, foldedSetIterable iter c.env x = pure x := by intro _; rfl) : Ev c ρ (.ListComp elt [⟨.Name x px, iter, [], 0⟩] scope pos) (is (.lst ((List.range n).map g))) := by
  intro s Q st hQ
  refine wpAny_comprehension_free (e := .ListComp elt [⟨.Name x px, iter, [], 0⟩] scope pos) (g := ⟨.Name x px, iter, [], 0⟩) (gs := []) rfl hs hclos hkind hnames ?_
  refine hi s _ st fun I fp P Stt hb h' tk W hst hbn sb e₁ k₁ hIo fpx hfp hIf hP => ?_
  refine wpAny_newObj_type (wpAny_newFunctionEnv hcell (by intro y hy; simp at hy) (fun h₁ hns₁ hsb₁ => ?_) hkind)
  dsimp only at hns₁ hsb₁ ⊢
  generalize hH2 : h'.push { cls := .type "list", dict := none, data := .seq ([] : List Value).toArray } = H2 at hns₁ hsb₁ ⊢
  have hC : H2.objs.size = h'.objs.size + 1 := by rw [← hH2, Heap.size_push]
  have hDC : h'.objs.size ≠ H2.objs.size := by rw [hC]; exact Nat.ne_of_lt (Nat.lt_succ_self _)
  have fresh : ∀ {h : Heap} {a : Addr}, h.objs.size ≤ a → h.get? a = none := fun {h a} ha => by
    cases e : h.get? a with
    | none => rfl
    | some o' => exact absurd (Heap.lt_size e) (Nat.not_lt.mpr ha)
  have old : Stay h' h₁ := fun b ob e => hsb₁.extBut b ob (Nat.ne_of_lt (by rw [hC]; exact Nat.lt_succ_of_lt (Heap.lt_size e))) (Heap.get?_push_of_some _ (hH2 ▸ Heap.get?_push_of_some _ e))
  have hacc : h₁.PlainList h'.objs.size #[] := ⟨_, hsb₁.extBut _ _ hDC (Heap.get?_push_of_some _ (hH2 ▸ Heap.get?_push_size _ rfl))⟩
  have nD' : h'.get? h'.objs.size = none := fresh (Nat.le_refl _)
  have nC' : h'.get? H2.objs.size = none := fresh (by rw [hC]; exact Nat.le_succ _)
  generalize hDe : h'.objs.size = Da at *
  generalize hCe : H2.objs.size = Ca at *
  have k01 : Stay hb h₁ := k₁.trans old
  have nD : hb.get? Da = none := by
    cases e : hb.get? Da with
    | none => rfl
    | some o' => rw [k₁ _ _ e] at nD'; cases nD'
  have nC : hb.get? Ca = none := by
    cases e : hb.get? Ca with
    | none => rfl
    | some o' => rw [k₁ _ _ e] at nC'; cases nC'
  obtain ⟨m₀, cm₀, V₀⟩ := sb.vars
  have notP : ∀ a, hb.get? a = none → ¬ c.P a := fun a e z => by obtain ⟨o', e'⟩ := sb.PB _ z; rw [e] at e'; cases e'
  have not0 : ∀ a, hb.get? a = none → c.h₀.get? a = none := fun a e => by
    cases e' : c.h₀.get? a with
    | none => rfl
    | some o' => rw [sb.keep _ _ e'] at e; cases e
  have notS : ∀ a, hb.get? a = none → ¬ c.S a := fun a e z => by obtain ⟨o', e'⟩ := sb.SB _ z; rw [e] at e'; cases e'
  obtain ⟨oL, _, _, hoL, _⟩ := id V₀.ns
  have neL : ∀ a, hb.get? a = none → a ≠ c.env.locals := fun a e z => by rw [z, hoL] at e; cases e
  have neCell : ∀ a, hb.get? a = none → ∀ y, c.env.cells.lookup y ≠ some a := fun a e y z => by obtain ⟨ob, e', _⟩ := V₀.cell y a z; rw [e] at e'; cases e'
  have hfp2 : ∀ b ∈ fp, ∃ ob, h'.get? b = some ob := fpx
  have CfP : Ca ∉ fp := fun z => by obtain ⟨ob, e⟩ := hfp2 _ z; rw [nC'] at e; cases e
  have DfP : Da ∉ fp := fun z => by obtain ⟨ob, e⟩ := hfp2 _ z; rw [nD'] at e; cases e
  have IC : I ≠ Ca := fun z => CfP (z ▸ hIf)
  have ID : I ≠ Da := fun z => DfP (z ▸ hIf)
  have wr : ∀ b, b ≠ I → b ∉ [I] := fun b hb z => hb (List.mem_singleton.mp z)
  let cx := fun (i : Nat) (ys : Array Value) => c.comp scope cl Ca Da I fp (fun h => Stt i h ∧ h.PlainList Da ys ∧ h.Ns c.env.locals m₀ ∧ ∀ y a, c.env.cells.lookup y = some a → h.IsCell a (cm₀ y))
  have ok : ∀ i ys, (cx i ys).Ok k := fun i ys => {
    gl := o.gl
    room := o.room
    fn := hkind
    eg := o.eg
    eb := o.eb
    PL := .inr (.inr (.inr rfl))
    Pc := fun y a e => .inl (o.Pc y a (hsub y a e))
    hL := not0 _ nC
    hc := fun y a e => o.hc y a (hsub y a e)
    apart := fun y a e z => neCell _ nC y (by have q : a = Ca := z; exact q ▸ hsub y a e)
    inj := fun y z a e e' => o.inj y z a (hsub y a e) (hsub z a e')
    inv := fun h h' hi hk => by
      obtain ⟨i1, i2, i3, i4, i5⟩ := hi
      refine ⟨o.inv h h' i1 fun b ob sb e => hk b ob (.inl sb) e, W.frame i h h' i2 fun b hb ob e => hk b ob (.inr (.inl hb)) e, i3.at fun ob e => hk _ ob (.inr (.inr (.inl rfl))) e, ?_, fun y a e => ?_⟩
      · exact i4.at' fun ob e => hk _ ob (.inr (.inr (.inr (.inl rfl)))) e
      · obtain ⟨oc, hoc, hd⟩ := i5 y a e
        exact ⟨oc, hk _ _ (.inr (.inr (.inr (.inr ⟨y, e⟩)))) hoc, hd⟩
    SL := fun z => by
      rcases z with z | z | z | z | ⟨y, z⟩
      · exact notS _ nC z
      · exact CfP z
      · exact hDC z.symm
      · exact neL _ nC z
      · exact neCell _ nC y z }
  have wnotD : Da ∉ [I] := fun z => ID (List.mem_singleton.mp z).symm
  have lN : c.env.locals ≠ I := fun z => neL _ hbn z.symm
  have cI : ∀ y a, c.env.cells.lookup y = some a → a ≠ I := fun y a e z => neCell _ hbn y (z ▸ e)
  -- the state as the loop begins
  have st0 : ∀ (h : Heap) (i : Nat) (ys : Array Value) (m : Str → Option Value), Stay hb hb → h.Ns Ca m → (Ext (fun a => c.P a ∨ a = I ∨ a = Da ∨ a = Ca) hb h) → Stay c.h₀ h → (∀ a, c.P a → ∃ o, h.get? a = some o) → (∀ a, c.S a → ∃ o, h.get? a = some o) → (∀ b ∈ fp, ∃ o, h.get? b = some o) →
      c.I h → Stt i h → h.PlainList Da ys → h.Ns c.env.locals m₀ → (∀ y a, c.env.cells.lookup y = some a → h.IsCell a (cm₀ y)) → St (cx i ys) h ρ' := by
    intro h i ys m _ hn hext hkeep hPB hSB hfpe hI hS hpl hL hcl
    refine ⟨hkeep, fun a ha => ?_, fun a ha => ?_, ⟨hI, hS, hpl, hL, hcl⟩, m, cm₀, hn, fun y a e => hcl y a (hsub y a e), fun y d e => ?_⟩
    · rcases ha with ha | rfl | rfl | rfl
      · exact hPB a ha
      · exact hIo _ _ hS
      · obtain ⟨nn, e⟩ := hpl; exact ⟨_, e⟩
      · obtain ⟨ob, _, _, e, _⟩ := hn; exact ⟨ob, e⟩
    · rcases ha with ha | ha | rfl | rfl | ⟨y, ha⟩
      · exact hSB a ha
      · exact hfpe a ha
      · obtain ⟨nn, e⟩ := hpl; exact ⟨_, e⟩
      · obtain ⟨ob, _, _, e, _⟩ := hL; exact ⟨ob, e⟩
      · obtain ⟨ob, e, _⟩ := hcl y a ha; exact ⟨ob, e⟩
    · obtain ⟨e1, e2, e3, a, e4⟩ := hρ y d e
      obtain ⟨v, ⟨b1, b2⟩, r⟩ := V₀.rd y d e1
      have hcm : cm₀ y = some v := by
        rcases b2 with ⟨q, _⟩ | ⟨_, _, q⟩ | ⟨q, _⟩
        · rw [e2] at q; cases q
        · exact q
        · rw [e2] at q; cases q
      refine ⟨v, ⟨b1, .inr (.inl ⟨e3, ⟨a, e4⟩, hcm⟩)⟩, Rd.ext hext (r.le fun a ⟨o', e'⟩ ha => ?_)⟩
      rcases ha with ha | rfl | rfl | rfl
      · exact ha
      · rw [hbn] at e'; cases e'
      · rw [nD] at e'; cases e'
      · rw [nC] at e'; cases e'
  let P' : Addr → Prop := fun a => c.P a ∨ a = I ∨ a = Da ∨ a = Ca
  have fpS : ∀ {h : Heap} {i : Nat} {ys : Array Value} {r : Rho}, St (cx i ys) h r → ∀ b ∈ fp, ∃ o, h.get? b = some o := fun s b hb => s.SB b (.inr (.inl hb))
  refine codeAny_compStart_list ?loop (W.self 0 _ _ _ (W.frame 0 _ _ hst fun b _ ob e => old b ob e) ?loop)
  refine codeAny_compLoop_tests (fun m s' => ∃ i h₂ t₂ ys, s' = { s with heap := h₂, toks := t₂ } ∧ i ≤ n ∧ m = n - i ∧ St (cx i ys) h₂ ρ' ∧ Ext P' hb h₂ ∧ RdAll P' h₂ ys.toList ((List.range i).map g)) ?turn n
    ⟨0, h₁, _, #[], rfl, Nat.zero_le _, rfl, st0 h₁ 0 #[] _ (Stay.refl _) hns₁ k01.ext (sb.keep.trans k01) (fun a ha => let ⟨ob, e⟩ := sb.PB a ha; ⟨ob, k01 _ _ e⟩) (fun a ha => let ⟨ob, e⟩ := sb.SB a ha; ⟨ob, k01 _ _ e⟩) (fun b hb' => let ⟨ob, e⟩ := fpx b hb'; ⟨ob, old _ _ e⟩)
      (o.inv _ _ sb.inv fun b ob _ e => k01 _ _ e) (W.frame 0 _ _ hst fun b _ ob e => old b ob e) hacc (V₀.ns.keeps k01) (fun y a e => (V₀.cell y a e).keeps k01), k01.ext, .nil⟩
  rintro m s' ⟨i, h₂, t₂, ys, rfl, hin, rfl, s₂, ext, racc⟩
  obtain ⟨i1, i2, i3, i4, i5⟩ := s₂.inv
  obtain ⟨mC, cmC, VC⟩ := s₂.vars
  by_cases hlt : i < n
  · refine W.item i _ _ _ hlt i2 fun v h₃ t₃ hPv hst₃ hk₃ => ?_
    have e3 : Ext P' h₂ h₃ := fun b ob nb e => hk₃ b ob (wr b fun z => nb (.inr (.inl z))) e
    have keepB : ∀ a, (∃ o, h₂.get? a = some o) → ∃ o, h₃.get? a = some o := fun a ⟨ob, e⟩ => by
      by_cases z : a = I
      · exact z ▸ hIo _ _ hst₃
      · exact ⟨ob, hk₃ _ _ (wr _ z) e⟩
    have s₃ : St (cx (i + 1) ys) h₃ ρ' := st0 h₃ (i + 1) ys mC (Stay.refl _) (VC.ns.at' fun ob e => hk₃ _ ob (wr _ (Ne.symm IC)) e) (ext.trans e3) (fun b ob e => hk₃ b ob (wr b fun z => by rw [z, not0 _ hbn] at e; cases e) (s₂.keep b ob e)) (fun a ha => keepB a (s₂.PB a (.inl ha))) (fun a ha => keepB a (s₂.SB a (.inl ha))) (fun b hb' => keepB b (fpS s₂ b hb'))
      (o.inv _ _ i1 fun b ob sb' e => hk₃ b ob (wr b fun z => notS _ hbn (z ▸ sb')) e) hst₃ (i3.at fun ob e => hk₃ _ ob wnotD e) (i4.at' fun ob e => hk₃ _ ob (wr _ lN) e) (fun y a e => let ⟨oc, hoc, hd⟩ := i5 y a e; ⟨oc, hk₃ _ _ (wr _ (cI y a e)) hoc, hd⟩)
    have rdv : Rd P' h₃ v (items i) := by
      refine Rd.ext (ext.trans e3) ((hP i v hPv hlt).le fun a ⟨o', e⟩ ha => ?_)
      rcases ha with ha | rfl | rfl | rfl
      · exact ha
      · rw [hbn] at e; cases e
      · rw [nD] at e; cases e
      · rw [nC] at e; cases e
    refine wpAny_mono (wpAny_assign_Name (store_at (o' := ok (i + 1) ys) (c := cx (i + 1) ys) s₃ rdv hxd (.inl (lookup_relabel_local hx)) (Q := fun _ s' => _) fun h₄ t₄ s₄ e₄ => ?_)) (fun _ _ x => x) (fun _ _ x => x.elim)
    refine wpAny_tests_nil ?_
    rw [if_pos rfl]
    refine wpAny_mono (step (cx (i + 1) ys) i hlt (ok (i + 1) ys) rfl (fun x y e => by subst hn'; exact e) _ (fun y s' => _) s₄ fun y d h₅ t₅ hd s₅ r₅ e₅ => ?_) (fun _ _ x => x) (fun _ _ x => x.elim)
    subst hd
    obtain ⟨j1, j2, j3, j4, j5⟩ := s₅.inv
    have hsz : ys.size ≤ sizeLine := by
      have := racc.length
      simp only [List.length_map, List.length_range, Array.length_toList] at this
      rw [sizeLine_eq]
      omega
    refine wpAny_list_append_plain (hsz := hsz) j3 fun h₆ hl₆ hs₆ => ?_
    have e6 : Ext P' h₅ h₆ := fun b ob nb e => (hs₆.2 b fun z => nb (.inr (.inr (.inl z)))).trans e
    have eall : Ext P' h₂ h₆ := ((e3.trans e₄).trans e₅).trans e6
    have k6 : ∀ {b : Addr} {ob : Obj}, b ≠ Da → h₅.get? b = some ob → h₆.get? b = some ob := fun {b ob} nb e => (hs₆.2 b nb).trans e
    have ex6 : ∀ a, (∃ o, h₅.get? a = some o) → ∃ o, h₆.get? a = some o := fun a ⟨ob, e⟩ => by
      by_cases z : a = Da
      · obtain ⟨nn, e'⟩ := hl₆; exact ⟨_, z ▸ e'⟩
      · exact ⟨ob, k6 z e⟩
    obtain ⟨m5, cm5, V5⟩ := s₅.vars
    refine ⟨n - (i + 1), by omega, i + 1, h₆, t₅, ys.push y, rfl, hlt, rfl, ?_, ext.trans eall, ?_⟩
    · refine st0 h₆ (i + 1) _ m5 (Stay.refl _) (V5.ns.at' fun ob e => k6 (Ne.symm hDC) e) (ext.trans eall) (fun b ob e => k6 (fun z => by rw [z, not0 _ nD] at e; cases e) (s₅.keep b ob e)) (fun a ha => ex6 a (s₅.PB a (.inl ha))) (fun a ha => ex6 a (s₅.SB a (.inl ha))) (fun b hb' => ex6 b (fpS s₅ b hb'))
        (o.inv _ _ j1 fun b ob sb' e => k6 (fun z => notS _ nD (z ▸ sb')) e) (W.frame _ _ _ j2 fun b hb' ob e => k6 (fun z => DfP (z ▸ hb')) e) hl₆ (j4.at' fun ob e => k6 (fun z => neL _ nD z.symm) e) (fun z a e => let ⟨oc, hoc, hd⟩ := j5 z a e; ⟨oc, k6 (fun q => neCell _ nD z (q ▸ e)) hoc, hd⟩)
    · rw [List.range_succ, List.map_append, Array.toList_push]
      exact RdAll.snoc (racc.ext eall) (r₅.ext e6)
  · have hin' : i = n := by omega
    subst hin'
    refine W.done _ _ _ i2 fun h₃ t₃ hk₃ => ?_
    refine ⟨mC, VC.ns.at' fun ob e => hk₃ _ ob (wr _ (Ne.symm IC)) e, fun h₄ hs₄ => ?_⟩
    have e34 : Ext P' h₂ h₄ := fun b ob nb e => (hs₄.2 b fun z => nb (.inr (.inr (.inr z)))).trans (hk₃ b ob (wr b fun z => nb (.inr (.inl z))) e)
    have k4 : ∀ {b : Addr} {ob : Obj}, b ≠ I → b ≠ Ca → h₂.get? b = some ob → h₄.get? b = some ob := fun {b ob} n1 n2 e => (hs₄.2 b n2).trans (hk₃ b ob (wr b n1) e)
    have ex4 : ∀ a, hb.get? a ≠ Option.none → (∃ o, h₂.get? a = some o) → ∃ o, h₄.get? a = some o := fun a ha ⟨ob, e⟩ => ⟨ob, k4 (fun z => ha (z ▸ hbn)) (fun z => ha (z ▸ nC)) e⟩
    have inHb : ∀ {a : Addr}, (∃ o, hb.get? a = some o) → hb.get? a ≠ Option.none := fun ⟨ob, e⟩ z => by rw [e] at z; cases z
    have up : ∀ {v : Value} {d : D}, Rd c.P hb v d → Rd c.P h₄ v d := fun {v d} r => by
      have r' : Rd P' hb v d := r.le fun a ⟨o', e'⟩ ha => by
        rcases ha with ha | rfl | rfl | rfl
        · exact ha
        · rw [hbn] at e'; cases e'
        · rw [nD] at e'; cases e'
        · rw [nC] at e'; cases e'
      exact (r'.ext (ext.trans e34)).le fun a _ ha => .inl ha
    have st4 : St c h₄ ρ := by
      refine ⟨fun b ob e => k4 (fun z => by rw [z, not0 _ hbn] at e; cases e) (fun z => by rw [z, not0 _ nC] at e; cases e) (s₂.keep b ob e), fun a ha => ex4 a (inHb (sb.PB a ha)) (s₂.PB a (.inl ha)), fun a ha => ex4 a (inHb (sb.SB a ha)) (s₂.SB a (.inl ha)),
        o.inv _ _ i1 fun b ob sb' e => k4 (fun z => notS _ hbn (z ▸ sb')) (fun z => notS _ nC (z ▸ sb')) e, m₀, cm₀, i4.at' fun ob e => k4 lN (fun z => neL _ nC z.symm) e, fun y a e => ?_, fun y d e => ?_⟩
      · obtain ⟨oc, hoc, hd⟩ := i5 y a e
        exact ⟨oc, k4 (cI y a e) (fun q => neCell _ nC y (q ▸ e)) hoc, hd⟩
      · obtain ⟨v, b, r⟩ := V₀.rd y d e
        exact ⟨v, b, up r⟩
    have hl : h₄.IsList Da ys := by
      obtain ⟨nn, e⟩ := i3
      exact ⟨_, k4 (Ne.symm ID) hDC e, rfl, nn, rfl⟩
    refine hQ _ _ h₄ t₃ rfl st4 (.lst (vs := ys.toList) (by simpa using hl) (notP _ nD) ((racc.ext e34).le fun a _ ha => .inl ha)) fun b ob nb e => ?_
    have e' := e₁ b ob nb e
    exact (ext.trans e34) b ob (fun z => by
      rcases z with z | rfl | rfl | rfl
      · exact nb z
      · rw [hbn] at e'; cases e'
      · rw [nD] at e'; cases e'
      · rw [nC] at e'; cases e') e'
end
end
-- part L9
section
/-- a text by its signs -/
def ofL (l : List Nat) : Str := ⟨l.toArray⟩
theorem ofL_length (l : List Nat) : (ofL l).length = l.length := by simp [ofL, Str.length]
theorem ofL_append (a b : List Nat) : ofL a ++ ofL b = ofL (a ++ b) := by
  apply Str.ext'
  rw [Str.cps_append]
  simp [ofL]
theorem ofL_inj {a b : List Nat} (h : ofL a = ofL b) : a = b := by
  have := congrArg Str.cps h
  simpa [ofL] using this
theorem ofL_of (x : Str) : ofL x.cps.toList = x := by cases x; simp [ofL]
theorem ofL_eq {x : Str} {l : List Nat} (h : x.cps.toList = l) : x = ofL l := by rw [← h, ofL_of]

section
variable {c : Cx} {ρ : Rho} {k : Nat}

theorem evAddS {l r : PySem.Expr} {pos : Pos} {x y : Str} (hl : Ev c ρ l (is (.str x))) (hr : Ev c ρ r (is (.str y))) (hz : x.length + y.length ≤ 100000) : Ev c ρ (.BinOp l .Add r pos) (is (.str (x ++ y))) :=
  Ev.binop hl hr fun a b ea eb v u s Q _ ra rb hQ => by
    cases ea; cases eb; cases ra; cases rb
    exact KXadd.add (K := x.length) (L := y.length) (Nat.le_refl _) (Nat.le_refl _) (by omega) fun t' k _ => hQ _ _ _ rfl (.str _ _)
theorem evAddL {l r : PySem.Expr} {pos : Pos} {x y : List Nat} (hl : Ev c ρ l (is (.str (ofL x)))) (hr : Ev c ρ r (is (.str (ofL y)))) (hz : x.length + y.length ≤ 100000) : Ev c ρ (.BinOp l .Add r pos) (is (.str (ofL (x ++ y)))) := by
  rw [← ofL_append]
  exact evAddS hl hr (by rw [ofL_length, ofL_length]; exact hz)
/-- one sign, n times -/
theorem evMulS {l r : PySem.Expr} {pos : Pos} {q : Nat} {n : Int} (hl : Ev c ρ l (is (.str (ofL [q])))) (hr : Ev c ρ r (is (.int n))) (h0 : -1000000 ≤ n) (h1 : n ≤ 1000000) : Ev c ρ (.BinOp l .Mult r pos) (is (.str (ofL (List.replicate n.toNat q)))) :=
  Ev.binop hl hr fun a b ea eb v u s Q _ ra rb hQ => by
    cases ea; cases eb; cases ra; cases rb
    refine KXi.mul (n := 1) rfl (by decide) (by omega) (by omega) fun t' k _ _ => ?_
    have e : Txt.mul (ofL [q]) n = ofL (List.replicate n.toNat q) := ofL_eq (mul_one_list q n)
    rw [e]
    exact hQ _ _ _ rfl (.str _ _)

theorem picks_one (xs : Array Nat) (lo hi : Option Int) (a b : Nat) (ha : a ≤ b) (hb : b ≤ xs.size) (e : Builtin.Str.strSliceIndices lo hi 1 xs.size = sliceRange a b 1) :
    (Builtin.Str.strSliceIndices lo hi 1 xs.size).filterMap (xs[·]?) = (xs.toList.drop a).take (b - a) := by
  rw [e, sliceRange_one, pick_run]
theorem made_of {x : Str} {t : Tok} {l u : Option (Int × Tok)} {r : List Nat} {Q : Value → Shared → Prop} {s : Shared} (e : (slicePicked x l u .none).filterMap (x.cps[·]?) = r) (hs : (slicePicked x l u .none).length = r.length) (hp : r.length = x.length → ofL r = x) (hz : r.length ≤ 100000)
    (h : ∀ t' tk, Q (.str (ofL r) t') { s with toks := tk }) : (sliceMade x t l u .none).post Q s := by
  unfold sliceMade
  split
  · rename_i hc
    simp only [Bool.and_eq_true, beq_iff_eq] at hc
    have := hp (hs ▸ hc.2)
    rw [← this]
    exact h t s.toks
  · rw [e]
    exact ⟨by show (ofL r).length ≤ _; rw [ofL_length, sizeLine_eq]; omega, h _ _⟩

def clipI (n : Nat) (d : Int) : Option Int → Int
  | .none => d
  | .some i => max 0 (min (if i < 0 then i + (n : Int) else i) n)
theorem clip_range {n : Nat} {lo hi : Option Int} {a b : Nat} (h1 : clipI n 0 lo = (a : Int)) (h2 : clipI n n hi = (b : Int)) :
    Builtin.Str.strSliceIndices lo hi 1 n = sliceRange a b 1 := by
  unfold Builtin.Str.strSliceIndices
  rw [← h1, ← h2]
  cases lo <;> cases hi <;> simp [clipI]

/-- x[:j], x[i:] -/
theorem evSlice {e : PySem.Expr} {lower upper : Option PySem.Expr} {p pos : Pos} {x : List Nat} {lo hi : Option Int} {a b : Nat} (he : Ev c ρ e (is (.str (ofL x))))
    (hlo : match lower, lo with | .none, .none => True | some q, some i => Ev c ρ q (is (.int i)) | _, _ => False)
    (hhi : match upper, hi with | .none, .none => True | some q, some i => Ev c ρ q (is (.int i)) | _, _ => False)
    (h1 : clipI x.length 0 lo = (a : Int)) (h2 : clipI x.length x.length hi = (b : Int))
    (hab : a ≤ b) (hb : b ≤ x.length) (hz : x.length ≤ 100000) (o : c.Ok k)
    (ht : ∀ o r, letTemporaryGo e o r = pure () := by intro _ _; rfl) : Ev c ρ (.Subscript e (.Slice lower upper .none p) pos) (is (.str (ofL ((x.drop a).take (b - a))))) := by
  intro s Q hs hQ
  have part : ∀ {q? : Option PySem.Expr} {i? : Option Int} (hq : match q?, i? with | .none, .none => True | some q, some i => Ev c ρ q (is (.int i)) | _, _ => False) (s : Shared) (Q : Value → Shared → Prop), St c s.heap ρ →
      (∀ (pv : Option (Int × Tok)) h' tk, pv.map (·.1) = i? → St c h' ρ → Ext c.P s.heap h' → Q (partValue pv) { s with heap := h', toks := tk }) → wpAny (model pw c.w) c.A (evalPart q? c.env) Q NoE s := by
    intro q? i? hq s Q hs hQ
    cases q? with
    | none =>
      cases i? with
      | none => rw [evalPart_none]; exact wpAny_pure (hQ .none s.heap s.toks rfl hs (Ext.refl _ _))
      | some i => exact hq.elim
    | some q =>
      cases i? with
      | none => exact hq.elim
      | some i =>
        rw [evalPart_some]
        refine hq s _ hs fun v d h₁ t₁ ed s₁ r₁ e₁ => ?_
        cases ed; cases r₁ with | int _ tk => exact hQ (some (i, tk)) h₁ t₁ rfl s₁ e₁
  refine wpAny_Subscript_str_slice (he s _ hs fun v d h₁ t₁ ed s₁ r₁ e₁ => ?_) ht
  cases ed; cases r₁ with | str _ tk => ?_
  refine part hlo _ _ s₁ fun pl h₂ t₂ el s₂ e₂ => part hhi _ _ s₂ fun pu h₃ t₃ eu s₃ e₃ => ?_
  refine ⟨ofL x, tk, pl, pu, rfl, rfl, rfl, ?_⟩
  have ei : slicePicked (ofL x) pl pu .none = sliceRange a b 1 := by
    unfold slicePicked
    rw [el, eu, ofL_length]
    exact clip_range h1 h2
  have hl : (ofL x).cps.toList = x := by simp [ofL]
  have st := stay_push h₃ { cls := .type "slice", data := .fields #[partValue pl, partValue pu, .none] }
  refine made_of (r := (x.drop a).take (b - a)) ?_ ?_ ?_ ?_ fun t' tk' => hQ _ _ _ tk' rfl (s₃.stay o st) (.str _ _) (((e₁.trans e₂).trans e₃).trans st.ext)
  · rw [ei, sliceRange_one, pick_run, hl]
  · rw [ei, sliceRange_one, List.length_map, List.length_range, List.length_take, List.length_drop]; omega
  · intro hh
    rw [List.length_take, List.length_drop, ofL_length] at hh
    have ea : a = 0 := by omega
    have eb : b = x.length := by omega
    rw [ea, eb]; simp
  · rw [List.length_take, List.length_drop]; omega
end
end
-- part L10
section
section
variable {c : Cx} {ρ : Rho} {k : Nat}

/-- x[:-j] -/
theorem evTakeNeg {e q : PySem.Expr} {p pos : Pos} {x : List Nat} {i : Int} {m : Nat} (o : c.Ok k) (he : Ev c ρ e (is (.str (ofL x)))) (hq : Ev c ρ q (is (.int i))) (hi : i < 0) (hm : (m : Int) = x.length + i) (hz : x.length ≤ 100000)
    (ht : ∀ o r, letTemporaryGo e o r = pure () := by intro _ _; rfl) : Ev c ρ (.Subscript e (.Slice .none (some q) .none p) pos) (is (.str (ofL (x.take m)))) := by
  have h := evSlice (lo := .none) (hi := some i) (a := 0) (b := m) (p := p) (pos := pos) he (lower := .none) (upper := some q) trivial hq rfl (by show max 0 (min (if i < 0 then i + (x.length : Int) else i) x.length) = (m : Int); rw [if_pos hi]; omega) (Nat.zero_le _) (by omega) hz o ht
  simpa using h
/-- x[-j:], x[j:] -/
theorem evDrop {e q : PySem.Expr} {p pos : Pos} {x : List Nat} {i : Int} {m : Nat} (o : c.Ok k) (he : Ev c ρ e (is (.str (ofL x)))) (hq : Ev c ρ q (is (.int i))) (hm : (i < 0 ∧ (m : Int) = x.length + i) ∨ (0 ≤ i ∧ (m : Int) = i)) (hx : m ≤ x.length) (hz : x.length ≤ 100000)
    (ht : ∀ o r, letTemporaryGo e o r = pure () := by intro _ _; rfl) : Ev c ρ (.Subscript e (.Slice (some q) .none .none p) pos) (is (.str (ofL (x.drop m)))) := by
  have h := evSlice (lo := some i) (hi := .none) (a := m) (b := x.length) (p := p) (pos := pos) he (lower := some q) (upper := .none) hq trivial (by show max 0 (min (if i < 0 then i + (x.length : Int) else i) x.length) = (m : Int); split <;> omega) rfl hx (Nat.le_refl _) hz o ht
  rw [List.take_of_length_le (by rw [List.length_drop]; omega)] at h
  exact h
/-- x[::-1] -/
theorem evRev {e q : PySem.Expr} {p pos : Pos} {x : List Nat} (o : c.Ok k) (he : Ev c ρ e (is (.str (ofL x)))) (hq : Ev c ρ q (is (.int (-1)))) (hz : x.length ≤ 100000)
    (ht : ∀ o r, letTemporaryGo e o r = pure () := by intro _ _; rfl) : Ev c ρ (.Subscript e (.Slice .none .none (some q) p) pos) (is (.str (ofL x.reverse))) := by
  intro s Q hs hQ
  refine wpAny_Subscript_Slice_step (T := "str") F.slot_str_getitem.lookup (he s _ hs fun v d h₁ t₁ ed s₁ r₁ e₁ => ?_) ht
  cases ed; cases r₁ with | str _ tk => ?_
  refine wpAny_Slice ?_
  rw [evalPart_none, evalPart_some]
  refine wpAny_pure (wpAny_pure ?_)
  refine hq _ _ s₁ fun v d h₂ t₂ ed s₂ r₂ e₂ => ?_
  cases ed; cases r₂ with | int _ tk2 => ?_
  have st := stay_push h₂ { cls := .type "slice", data := .fields #[.none, .none, .int (-1) tk2] }
  refine ⟨typeIs_str _ _ _, wpAny_getItem_str_slice (l := .none) (u := .none) (st := some (-1, tk2)) ⟨_, Heap.get?_push_size _ rfl, rfl, rfl⟩ rfl ?_⟩
  have hl : (ofL x).cps.toList = x := by simp [ofL]
  have er : (slicePicked (ofL x) .none .none (some (-1, tk2))).filterMap ((ofL x).cps[·]?) = x.reverse := by
    unfold slicePicked Builtin.Str.strSliceIndices sliceRange
    simp only [Option.map_none, Option.map_some, Option.getD_some, ofL_length]
    have hc : ((if (-1 : Int) > 0 then if (if (-1:Int) > 0 then (0:Int) else (x.length : Int) - 1) < (if (-1:Int) > 0 then (x.length : Int) else -1) then ((if (-1:Int) > 0 then (x.length : Int) else -1) - (if (-1:Int) > 0 then (0:Int) else (x.length : Int) - 1) + -1 - 1) / -1 else 0
        else if (if (-1:Int) > 0 then (0:Int) else (x.length : Int) - 1) > (if (-1:Int) > 0 then (x.length : Int) else -1) then ((if (-1:Int) > 0 then (0:Int) else (x.length : Int) - 1) - (if (-1:Int) > 0 then (x.length : Int) else -1) - -1 - 1) / - -1 else 0 : Int)).toNat = x.length := by
      have z : ¬ ((-1 : Int) > 0) := by decide
      simp only [if_neg z]
      cases x with
      | nil => simp
      | cons y ys =>
        have h1 : ((((y :: ys).length : Nat) : Int) - 1 > -1) := by simp only [List.length_cons]; omega
        rw [if_pos h1]
        have : ((((y :: ys).length : Nat) : Int) - 1 - -1 - -1 - 1) / - -1 = (((y :: ys).length : Nat) : Int) := by
          rw [show (- -1 : Int) = 1 from rfl, Int.ediv_one]; omega
        rw [this]; simp
    rw [hc]
    have hg : ∀ n, n ≤ x.length → ((List.range n).map fun k : Nat => ((if (-1 : Int) > 0 then (0:Int) else (x.length : Int) - 1) + -1 * (k : Int)).toNat).filterMap ((ofL x).cps[·]?) = (x.drop (x.length - n)).reverse := by
      intro n
      induction n with
      | zero => intro _; simp
      | succ n ih =>
        intro hn
        rw [List.range_succ, List.map_append, List.filterMap_append, ih (by omega)]
        have e1 : ((if (-1 : Int) > 0 then (0:Int) else (x.length : Int) - 1) + -1 * (n : Int)).toNat = x.length - (n + 1) := by
          rw [if_neg (by decide)]; omega
        simp only [List.map_cons, List.map_nil, e1]
        have hlt : x.length - (n + 1) < x.length := by omega
        have e2 : (ofL x).cps[x.length - (n + 1)]? = some (x[x.length - (n + 1)]'hlt) := by simp [ofL, hlt]
        simp only [List.filterMap_cons, e2, List.filterMap_nil]
        have e3 : x.drop (x.length - (n + 1)) = x[x.length - (n + 1)]'hlt :: x.drop (x.length - n) := by
          rw [List.drop_eq_getElem_cons hlt]
          congr 2
          omega
        rw [e3, List.reverse_cons]
    rw [hg x.length (Nat.le_refl _)]
    simp
  unfold sliceMade
  rw [if_neg (by simp)]
  rw [er]
  exact ⟨by show (ofL x.reverse).length ≤ _; rw [ofL_length, List.length_reverse, sizeLine_eq]; omega, hQ _ _ _ _ rfl (s₂.stay o st) (.str _ _) ((e₁.trans e₂).trans st.ext)⟩

/-- x[-1] -/
theorem evLastS {e q : PySem.Expr} {pos : Pos} {x : List Nat} {y : Nat} (o : c.Ok k) (he : Ev c ρ e (is (.str (ofL (x ++ [y]))))) (hq : Ev c ρ q (is (.int (-1)))) (hz : x.length ≤ 100000)
    (hsub : ∀ o i, subscripted q false o i = operate [o, i] (getItem o i) := by intro _ _; rfl) : Ev c ρ (.Subscript e q pos) (is (.str (ofL [y]))) := by
  intro s Q hs hQ
  refine Subscript_ (he s _ hs fun v d h₁ t₁ ed s₁ r₁ e₁ => hq _ _ s₁ fun v' d' h₂ t₂ ed' s₂ r₂ e₂ => ?_)
  cases ed; cases ed'
  cases r₁ with | str _ tk => ?_
  cases r₂ with | int _ tk2 => ?_
  have hl : (ofL (x ++ [y])).length = x.length + 1 := by rw [ofL_length]; simp
  obtain ⟨T, id, hT, hty, hg⟩ := SB.item (prog := pw) (w := c.w) (A := c.A) (E := NoE) (s := { s with heap := h₂, toks := t₂ }) (x := ofL (x ++ [y])) (t := tk) (u := tk2) (i := -1) (Q := Q) (by decide) (charAt_isSome (by rw [hl]; omega) (by rw [hl]; omega)) (by
    have e3 : Txt.item (ofL (x ++ [y])) (-1) = ofL [y] := by
      unfold Txt.item Txt.charAt
      rw [hl, seqIndex?_neg_one (Nat.succ_pos _)]
      simp [ofL]
    rw [e3]
    exact hQ _ _ h₂ _ rfl s₂ (.str _ _) (e₁.trans e₂))
  exact tail_any hty hT hg (hsub _ _)

/-- items of lists and tuples -/
theorem evItemL {e q : PySem.Expr} {pos : Pos} {ds : List D} {i : Int} {d : D} (o : c.Ok k) (he : Ev c ρ e (is (.lst ds))) (hq : Ev c ρ q (is (.int i))) (h0 : 0 ≤ i) (h1 : i < 1000000) (hd : ds[i.toNat]? = some d)
    (hsub : ∀ o i, subscripted q false o i = operate [o, i] (getItem o i) := by intro _ _; rfl) : Ev c ρ (.Subscript e q pos) (is d) := by
  intro s Q hs hQ
  refine Subscript_ (he s _ hs fun v dd h₁ t₁ ed s₁ r₁ e₁ => hq _ _ s₁ fun v' d' h₂ t₂ ed' s₂ r₂ e₂ => ?_)
  cases ed; cases ed'
  cases r₂ with | int _ tk2 => ?_
  cases r₁.ext e₂ with
  | @lst a vs _ hl hp ra =>
    have hlt : i.toNat < vs.length := by
      rw [ra.length]
      exact (List.getElem?_eq_some_iff.mp hd).1
    have hv : vs[i.toNat]? = some (vs[i.toNat]'hlt) := List.getElem?_eq_getElem hlt
    have rd := ra.get hv
    have ed : ds.getD i.toNat .none = d := by rw [List.getD_eq_getElem?_getD, hd]; rfl
    rw [ed] at rd
    exact tail_any hl.typeIs slot_list_getitem.lookup (wpAny_getItem_list hl h0 (by omega) (by simpa using hv) (hQ _ _ h₂ t₂ rfl s₂ rd (e₁.trans e₂))) (hsub _ _)
theorem evItemT {e q : PySem.Expr} {pos : Pos} {ds : List D} {i : Int} {d : D} (o : c.Ok k) (he : Ev c ρ e (is (.tup ds))) (hq : Ev c ρ q (is (.int i))) (h0 : 0 ≤ i) (h1 : i < 1000000) (hd : ds[i.toNat]? = some d)
    (hsub : ∀ o i, subscripted q false o i = operate [o, i] (getItem o i) := by intro _ _; rfl) : Ev c ρ (.Subscript e q pos) (is d) := by
  intro s Q hs hQ
  refine Subscript_ (he s _ hs fun v dd h₁ t₁ ed s₁ r₁ e₁ => hq _ _ s₁ fun v' d' h₂ t₂ ed' s₂ r₂ e₂ => ?_)
  cases ed; cases ed'
  cases r₂ with | int _ tk2 => ?_
  cases r₁.ext e₂ with
  | @tup a vs _ hl hp ra =>
    have hlt : i.toNat < vs.length := by
      rw [ra.length]
      exact (List.getElem?_eq_some_iff.mp hd).1
    have hv : vs[i.toNat]? = some (vs[i.toNat]'hlt) := List.getElem?_eq_getElem hlt
    have rd := ra.get hv
    have ed : ds.getD i.toNat .none = d := by rw [List.getD_eq_getElem?_getD, hd]; rfl
    rw [ed] at rd
    refine tail_any hl.typeIs slot_tuple_getitem.lookup (PyProof.Rows.getItem_tuple (j := i.toNat) hl (by omega) (by omega) ?_ (by simpa using hv) (hQ _ _ h₂ t₂ rfl s₂ rd (e₁.trans e₂))) (hsub _ _)
    rw [List.size_toArray]
    have hi2 : i < (vs.length : Int) := by omega
    unfold seqIndex?
    simp only [show ¬ i < 0 by omega, if_false]
    simp [h0, hi2]

/-- a list display -/
theorem evList {es : List PySem.Expr} {pos : Pos} {ds : List D} (o : c.Ok k) (h : Evs c ρ es pos (is ds)) (hz : ds.length ≤ 1000) : Ev c ρ (.List es pos) (is (.lst ds)) := by
  intro s Q hs hQ
  refine List_ (h s _ hs fun vs dd h₁ t₁ ed s₁ r₁ e₁ => ?_)
  cases ed
  have hl := r₁.length
  have st := stay_push h₁ { cls := .type "list", data := .seq vs.toArray }
  refine wpAny_newObj_type (hQ _ _ _ t₁ rfl (s₁.stay o st) (.lst ⟨_, Heap.get?_push_size _ rfl, rfl, 0, rfl⟩ (fresh_size s₁.PB) (r₁.ext st.ext)) (e₁.trans st.ext)) ?_
  show vs.toArray.size ≤ sizeLine
  rw [List.size_toArray, sizeLine_eq]
  omega
end
end
-- part L11
section
section
variable {c : Cx} {ρ : Rho} {k : Nat}

theorem RdAll.drop {P : Addr → Prop} {h : Heap} : ∀ (n : Nat) {vs : List Value} {ds : List D}, RdAll P h vs ds → RdAll P h (vs.drop n) (ds.drop n)
  | 0, _, _, r => r
  | _ + 1, _, _, .nil => .nil
  | n + 1, _, _, .cons _ r => RdAll.drop n r
theorem RdAll.take {P : Addr → Prop} {h : Heap} : ∀ (n : Nat) {vs : List Value} {ds : List D}, RdAll P h vs ds → RdAll P h (vs.take n) (ds.take n)
  | 0, _, _, r => .nil
  | _ + 1, _, _, .nil => .nil
  | n + 1, _, _, .cons a r => .cons a (RdAll.take n r)

/-- xs[a:] -/
theorem evDropL {e q : PySem.Expr} {p pos : Pos} {ds : List D} {a : Nat} (o : c.Ok k) (he : Ev c ρ e (is (.lst ds))) (hq : Ev c ρ q (is (.int (a : Int)))) (hz : ds.length ≤ 1000)
    (ht : ∀ o r, letTemporaryGo e o r = pure () := by intro _ _; rfl) : Ev c ρ (.Subscript e (.Slice (some q) .none .none p) pos) (is (.lst (ds.drop a))) := by
  intro s Q hs hQ
  refine wpAny_Subscript_list_slice (he s _ hs fun v d h₁ t₁ ed s₁ r₁ e₁ => ?_) ht
  cases ed
  rw [evalPart_some]
  refine hq _ _ s₁ fun v' d' h₂ t₂ ed' s₂ r₂ e₂ => ?_
  cases ed'
  cases r₂ with | int _ tk2 => ?_
  rw [evalPart_none]
  refine wpAny_pure ?_
  cases r₁.ext e₂ with
  | @lst l vs _ hl hp ra =>
    have hlen := ra.length
    refine ⟨l, vs.toArray, _, _, rfl, hl, by rw [List.size_toArray, sizeLine_eq]; omega, .int _ _, .none, ?_⟩
    rw [slicePick_from']
    have st := (stay_push h₂ { cls := .type "slice", data := .fields #[.int (a : Int) tk2, .none, .none] }).trans (stay_push _ { cls := .type "list", data := .seq ((vs.drop a).toArray) })
    have s₃ := s₂.stay o st
    refine hQ _ _ _ t₂ rfl s₃ (.lst (vs := vs.drop a) ⟨{ cls := .type "list", data := .seq ((vs.drop a).toArray) }, ?_, rfl, 0, rfl⟩ ?_ ((ra.drop a).ext st.ext)) ((e₁.trans e₂).trans st.ext)
    · have := Heap.get?_push_size (h₂.push { cls := .type "slice", data := .fields #[.int (a : Int) tk2, .none, .none] }) (o := { cls := .type "list", data := .seq ((vs.drop a).toArray) }) rfl
      rw [Heap.size_push] at this
      exact this
    · intro z
      obtain ⟨o', e⟩ := s₂.PB _ z
      exact absurd (Heap.lt_size e) (Nat.not_lt.mpr (Nat.le_succ _))
/-- xs[:b] -/
theorem evTakeL {e q : PySem.Expr} {p pos : Pos} {ds : List D} {a : Nat} (o : c.Ok k) (he : Ev c ρ e (is (.lst ds))) (hq : Ev c ρ q (is (.int (a : Int)))) (hz : ds.length ≤ 1000)
    (ht : ∀ o r, letTemporaryGo e o r = pure () := by intro _ _; rfl) : Ev c ρ (.Subscript e (.Slice .none (some q) .none p) pos) (is (.lst (ds.take a))) := by
  intro s Q hs hQ
  refine wpAny_Subscript_list_slice (he s _ hs fun v d h₁ t₁ ed s₁ r₁ e₁ => ?_) ht
  cases ed
  rw [evalPart_none]
  refine wpAny_pure ?_
  rw [evalPart_some]
  refine hq _ _ s₁ fun v' d' h₂ t₂ ed' s₂ r₂ e₂ => ?_
  cases ed'
  cases r₂ with | int _ tk2 => ?_
  cases r₁.ext e₂ with
  | @lst l vs _ hl hp ra =>
    have hlen := ra.length
    refine ⟨l, vs.toArray, _, _, rfl, hl, by rw [List.size_toArray, sizeLine_eq]; omega, .none, .int _ _, ?_⟩
    rw [slicePick_upto']
    have st := (stay_push h₂ { cls := .type "slice", data := .fields #[.none, .int (a : Int) tk2, .none] }).trans (stay_push _ { cls := .type "list", data := .seq ((vs.take a).toArray) })
    have s₃ := s₂.stay o st
    refine hQ _ _ _ t₂ rfl s₃ (.lst (vs := vs.take a) ⟨{ cls := .type "list", data := .seq ((vs.take a).toArray) }, ?_, rfl, 0, rfl⟩ ?_ ((ra.take a).ext st.ext)) ((e₁.trans e₂).trans st.ext)
    · have := Heap.get?_push_size (h₂.push { cls := .type "slice", data := .fields #[.none, .int (a : Int) tk2, .none] }) (o := { cls := .type "list", data := .seq ((vs.take a).toArray) }) rfl
      rw [Heap.size_push] at this
      exact this
    · intro z
      obtain ⟨o', e⟩ := s₂.PB _ z
      exact absurd (Heap.lt_size e) (Nat.not_lt.mpr (Nat.le_succ _))

/-- a fixed value, as a datum -/
theorem Fv.ev {e : PySem.Expr} {v : Value} (h : Fv c e v) : Ev c ρ e (is (.raw v)) := fun s Q hs hQ => h ρ s _ hs (hQ v _ s.heap s.toks rfl hs (.raw v) (Ext.refl _ _))

/-- isinstance -/
def plainD : D → Bool
  | .none | .bool _ | .int _ | .str _ | .bytes _ | .lst _ => true
  | _ => false
def isB : D → Bool
  | .bool _ => true
  | _ => false
def isI : D → Bool
  | .int _ => true
  | .bool _ => true
  | _ => false
def isDec : D → Bool
  | .dec _ _ => true
  | _ => false
theorem isi_plain {w : World} {t : Value} {d : D} {b : Bool} (hp : plainD d = true)
    (e : ∀ T, (match d with | .none => T = "NoneType" | .bool _ => T = "bool" | .int _ => T = "int" | .str _ => T = "str" | .bytes _ => T = "bytes" | .lst _ => T = "list" | _ => False) → kitOne (KW w) (.type T) t = some b) : Cl w k (.builtin "isinstance") [d, .raw t] (.bool b) := by
  intro A P s vs Q E ho G PB r hQ
  obtain ⟨v, u, rfl, a, b'⟩ := r.two
  cases b'
  cases a with
  | none => exact kia_one kitx_none G.kin trivial (e _ rfl) (by simp) fun tk => hQ _ s.heap tk (Stay.refl _) (.bool _)
  | bool _ => exact kia_one kitx_bool G.kin trivial (e _ rfl) (by simp) fun tk => hQ _ s.heap tk (Stay.refl _) (.bool _)
  | int _ _ => exact kia_one kitx_int G.kin trivial (e _ rfl) (by simp) fun tk => hQ _ s.heap tk (Stay.refl _) (.bool _)
  | str _ _ => exact kia_one kitx_str G.kin trivial (e _ rfl) (by simp) fun tk => hQ _ s.heap tk (Stay.refl _) (.bool _)
  | bytes _ _ => exact kia_one kitx_bytes G.kin trivial (e _ rfl) (by simp) fun tk => hQ _ s.heap tk (Stay.refl _) (.bool _)
  | lst hl _ _ =>
    obtain ⟨oo, h1, h2, _⟩ := hl
    exact kia_one kitx_list G.kin ⟨oo, h1, h2⟩ (e _ rfl) (by simp) fun tk => hQ _ s.heap tk (Stay.refl _) (.bool _)
  | dec _ => cases hp
  | tup _ _ _ => cases hp
  | raw _ => cases hp
theorem Cl.isiDec {w : World} {d : D} (hp : plainD d = true ∨ isDec d = true) : Cl w k (.builtin "isinstance") [d, .raw (.ref 136)] (.bool (isDec d)) := by
  rcases hp with hp | hp
  · refine isi_plain hp fun T h => ?_
    cases d with
    | none => cases h; kernel_rfl
    | bool _ => cases h; kernel_rfl
    | int _ => cases h; kernel_rfl
    | str _ => cases h; kernel_rfl
    | bytes _ => cases h; kernel_rfl
    | lst _ => cases h; kernel_rfl
    | _ => cases hp
  · intro A P s vs Q E ho G PB r hQ
    obtain ⟨v, u, rfl, a, b'⟩ := r.two
    cases b'
    cases a with
    | @dec x t p y =>
      obtain ⟨dx, i1, i2, k1, k2, u1, u2, n, a, b, _, _⟩ := y
      have I : PySem.W.InstAt s.heap x (instObj aDec dx) aDec (some (decObj i1 i2 k1 k2 u1 u2 t p n)) := ⟨a, rfl, rfl, b⟩
      exact kia_one (kitx_own (by kernel_rfl) (by kernel_rfl) (by kernel_rfl) (by kernel_rfl) (by kernel_rfl) (by kernel_rfl)) G.kin I (by kernel_rfl) (by simp) fun tk => hQ _ s.heap tk (Stay.refl _) (.bool _)
    | _ => cases hp
theorem Cl.isiBool {w : World} {d : D} (hp : plainD d = true) : Cl w k (.builtin "isinstance") [d, .raw (.type "bool")] (.bool (isB d)) := by
  refine isi_plain hp fun T h => ?_
  cases d with
  | none => cases h; kernel_rfl
  | bool _ => cases h; kernel_rfl
  | int _ => cases h; kernel_rfl
  | str _ => cases h; kernel_rfl
  | bytes _ => cases h; kernel_rfl
  | lst _ => cases h; kernel_rfl
  | _ => cases hp
theorem Cl.isiInt {w : World} {d : D} (hp : plainD d = true) : Cl w k (.builtin "isinstance") [d, .raw (.type "int")] (.bool (isI d)) := by
  refine isi_plain hp fun T h => ?_
  cases d with
  | none => cases h; kernel_rfl
  | bool _ => cases h; kernel_rfl
  | int _ => cases h; kernel_rfl
  | str _ => cases h; kernel_rfl
  | bytes _ => cases h; kernel_rfl
  | lst _ => cases h; kernel_rfl
  | _ => cases hp

/- lists of ints -/
theorem rd_ints {P : Addr → Prop} {h : Heap} : ∀ {vs : List Value} {ns : List Int}, RdAll P h vs (ns.map .int) → ∃ xs : List (Int × Tok), vs = xs.map (fun p => .int p.1 p.2) ∧ xs.map (·.1) = ns
  | _, [], r => by cases r; exact ⟨[], rfl, rfl⟩
  | _, n :: ns, r => by
    cases r with
    | cons a r =>
      cases a with | int _ t =>
      obtain ⟨xs, rfl, rfl⟩ := rd_ints r
      exact ⟨(n, t) :: xs, rfl, rfl⟩
theorem Cl.sum {w : World} {ns : List Int} : Cl w k (.builtin "sum") [.lst (ns.map .int)] (.int ns.sum) := by
  intro A P s vs Q E ho G PB r hQ
  obtain ⟨v, rfl, a⟩ := r.one
  cases a with
  | lst hl hp ra =>
    obtain ⟨xs, rfl, rfl⟩ := rd_ints ra
    refine sum_intListG (xs := xs.toArray) ho.hh (by simpa [intItems] using hl) fun h' tk t' hk => ?_
    rw [preSum_eq, List.take_of_length_le (by simp)]
    exact hQ _ h' tk hk (.int _ _)
theorem Cl.maxL {w : World} {ns : List Int} {m : Int} (hm : m ∈ ns) (hb : ∀ x ∈ ns, x ≤ m) : Cl w k (.builtin "max") [.lst (ns.map .int)] (.int m) := by
  intro A P s vs Q E ho G PB r hQ
  obtain ⟨v, rfl, a⟩ := r.one
  cases a with
  | lst hl hp ra =>
    obtain ⟨xs, rfl, rfl⟩ := rd_ints ra
    have hne : 0 < xs.length := by
      cases xs with
      | nil => simp at hm
      | cons _ _ => simp
    refine max_intList (xs := xs.toArray) ho.hh (by simpa [intItems] using hl) (by simpa using hne) fun v h' tk hv hk => ?_
    obtain ⟨t, rfl⟩ := intItems_at hv
    obtain ⟨h1, h2⟩ := argBest_gt (numAt xs.toArray) (xs.toArray.size - 1)
    generalize argBest (fun i j => decide (numAt xs.toArray i > numAt xs.toArray j)) (xs.toArray.size - 1) = b at h1 h2 hv ⊢
    have hlt : b < xs.length := by simp at h1; omega
    have e : numAt xs.toArray b = m := by
      refine Int.le_antisymm ?_ ?_
      · refine hb _ ?_
        unfold numAt
        simp only [List.getElem?_toArray, List.getElem?_eq_getElem hlt, Option.map_some, Option.getD_some]
        exact List.mem_map.mpr ⟨_, List.getElem_mem hlt, rfl⟩
      · obtain ⟨x, hx, rfl⟩ := List.mem_map.mp hm
        obtain ⟨j, hj, rfl⟩ := List.getElem_of_mem hx
        have := h2 j (by simp; omega)
        have e2 : numAt xs.toArray j = (xs[j]).1 := by simp [numAt, hj]
        rw [e2] at this
        exact this
    rw [e]
    exact hQ _ h' tk hk (.int _ _)
theorem Cl.minL {w : World} {ns : List Int} {m : Int} (hm : m ∈ ns) (hb : ∀ x ∈ ns, m ≤ x) : Cl w k (.builtin "min") [.lst (ns.map .int)] (.int m) := by
  intro A P s vs Q E ho G PB r hQ
  obtain ⟨v, rfl, a⟩ := r.one
  cases a with
  | lst hl hp ra =>
    obtain ⟨xs, rfl, rfl⟩ := rd_ints ra
    have hne : 0 < xs.length := by
      cases xs with
      | nil => simp at hm
      | cons _ _ => simp
    refine min_intList (xs := xs.toArray) ho.hh (by simpa [intItems] using hl) (by simpa using hne) fun v h' tk hv hk => ?_
    obtain ⟨t, rfl⟩ := intItems_at hv
    obtain ⟨h1, h2⟩ := argBest_lt (numAt xs.toArray) (xs.toArray.size - 1)
    generalize argBest (fun i j => decide (numAt xs.toArray i < numAt xs.toArray j)) (xs.toArray.size - 1) = b at h1 h2 hv ⊢
    have hlt : b < xs.length := by simp at h1; omega
    have e : numAt xs.toArray b = m := by
      refine Int.le_antisymm ?_ ?_
      · obtain ⟨x, hx, rfl⟩ := List.mem_map.mp hm
        obtain ⟨j, hj, rfl⟩ := List.getElem_of_mem hx
        have := h2 j (by simp; omega)
        have e2 : numAt xs.toArray j = (xs[j]).1 := by simp [numAt, hj]
        rw [e2] at this
        exact this
      · refine hb _ ?_
        unfold numAt
        simp only [List.getElem?_toArray, List.getElem?_eq_getElem hlt, Option.map_some, Option.getD_some]
        exact List.mem_map.mpr ⟨_, List.getElem_mem hlt, rfl⟩
    rw [e]
    exact hQ _ h' tk hk (.int _ _)
end
end
-- part L12
section
section
variable {c : Cx} {ρ : Rho} {k : Nat}

/-- more heap without a change of what is there -/
theorem stay_extBut {h h' : Heap} (e : Heap.ExtBut h.objs.size h h') : Stay h h' := fun b o hb => e b o (Nat.ne_of_lt (Heap.lt_size hb)) hb

theorem assign_names (o : c.Ok k) (xs : List (Str × Pos)) : ∀ (vs : List Value) (ds : List D) (ρ : Rho) (s : Shared) (Q : Unit → Shared → Prop), xs.length = vs.length → St c s.heap ρ → RdAll c.P s.heap vs ds → (∀ x ∈ xs, Stores c x.1) →
    (∀ h' tk, St c h' (bindRho ((xs.map (·.1)).zip ds) ρ) → Ext c.P s.heap h' → Q () { s with heap := h', toks := tk }) →
    wpAny (model pw c.w) c.A (assignInOrder (xs.map fun x => assign (.Name x.1 x.2) c.env) vs) Q NoE s := by
  induction xs with
  | nil =>
    intro vs ds ρ s Q hl hs r hx hQ
    cases r with
    | nil => exact wpAny_pure (hQ s.heap s.toks hs (Ext.refl _ _))
    | cons _ _ => cases hl
  | cons x xs ih =>
    intro vs ds ρ s Q hl hs r hx hQ
    cases r with
    | nil => cases hl
    | @cons v vs d ds a r =>
      have h1 := hx x (.head _)
      have e : assignInOrder ((x :: xs).map fun x => assign (.Name x.1 x.2) c.env) (v :: vs) = (do holding vs (assign (.Name x.1 x.2) c.env v); assignInOrder (xs.map fun x => assign (.Name x.1 x.2) c.env) vs) := rfl
      rw [e]
      refine wpAny_bind (wpAny_holding (assign_Name (store_at (o' := o) hs a h1.1 h1.2 fun h₁ t₁ s₁ e₁ => ?_)))
      exact ih vs ds _ _ Q (by simpa using hl) s₁ (r.ext e₁) (fun y hy => hx y (.tail _ hy)) fun h₂ t₂ s₂ e₂ => hQ h₂ t₂ s₂ (e₁.trans e₂)

theorem each_names (xs : List (Str × Pos)) (env : Env) : assignEach (xs.map fun x => .Name x.1 x.2) env = (xs.map fun x => assign (.Name x.1 x.2) env).map (fun f => (false, f)) := by
  induction xs with
  | nil => rfl
  | cons x xs ih =>
    rw [List.map_cons, List.map_cons, List.map_cons, ← ih]
    rfl
theorem unpack_eq (v : Value) (xs : List (Str × Pos)) (env : Env) : unpack v (assignEach (xs.map fun x => .Name x.1 x.2) env) = (do let items ← holding [v] (unpackItems v xs.length Option.none); assignInOrder (xs.map fun x => assign (.Name x.1 x.2) env) items) := by
  rw [each_names]
  have e1 : (((xs.map fun x => assign (.Name x.1 x.2) env).map (fun f => (false, f))).map (·.2)) = xs.map fun x => assign (.Name x.1 x.2) env := by simp
  have e2 : ((xs.map fun x => assign (.Name x.1 x.2) env).map (fun f => (false, f))).findIdx? (·.1) = Option.none := by simp [List.findIdx?_eq_none_iff]
  have e3 : ((xs.map fun x => assign (.Name x.1 x.2) env).map (fun f => (false, f))).length = xs.length := by simp
  generalize ((xs.map fun x => assign (.Name x.1 x.2) env).map (fun f => (false, f))) = L at e1 e2 e3 ⊢
  unfold unpack
  rw [e1, e2, e3]

/-- a, b = e -/
theorem exUnpack {xs : List (Str × Pos)} {elts : List PySem.Expr} {n : Nat} {tpos pos : Pos} {e : PySem.Expr} {rest : List Stmt} {d : D} {ds : List D} {Ψ : Res → Prop} (o' : c.Ok k) (hx : ∀ x ∈ xs, Stores c x.1) (h : Ev c ρ e (is d)) (hd : d = .tup ds ∨ d = .lst ds) (hl : ds.length = xs.length)
    (i : Ex c (bindRho ((xs.map (·.1)).zip ds) ρ) rest Ψ) (he : elts = xs.map (fun x => .Name x.1 x.2) := by rfl)
    (hs : swapsWithSole [.Tuple elts n tpos] e pos.line c.env = pure false := by rfl)
    (hw : swappedStores [.Tuple elts n tpos] e c.env = pure Option.none := by rfl) : Ex c ρ (.Assign [.Tuple elts n tpos] e pos :: rest) Ψ := by
  intro s Q st hQ
  refine wpAny_execs_cons (Assign_Tuple (h s _ st fun v dd h₁ t₁ ed s₁ r₁ e₁ => ?_) hs hw)
  subst he
  rw [PyProof.Rows.assign_Tuple, unpack_eq]
  refine wpAny_bind (wpAny_standAt (wpAny_bind (wpAny_holding ?_)))
  have fin : ∀ (vs : List Value) (h₂ : Heap), RdAll c.P h₁ vs ds → Heap.ExtBut h₁.objs.size h₁ h₂ → wpAny (model pw c.w) c.A (assignInOrder (xs.map fun x => assign (.Name x.1 x.2) c.env) vs) (fun _ s' => wpAny (model pw c.w) c.A (execs rest c.env) Q NoE s') NoE { s with heap := h₂, toks := t₁ } := fun vs h₂ ra ex => by
    have sx := stay_extBut ex
    refine assign_names o' xs vs ds ρ _ _ (by rw [ra.length, hl]) (s₁.stay o' sx) (ra.ext sx.ext) hx fun h₃ t₃ s₃ e₃ => ?_
    exact i _ Q s₃ fun r f h₄ t₄ x y z => hQ r f h₄ t₄ x y (((e₁.trans sx.ext).trans e₃).trans z)
  subst ed
  rcases hd with rfl | rfl
  · cases r₁ with
    | @tup a vs _ hl2 hp ra =>
      have hn : xs.length = vs.toArray.size := by rw [List.size_toArray, ra.length, hl]
      rw [hn]
      exact wpAny_unpackItems_tuple o'.room.hh hl2 fun h₂ ex => fin vs h₂ ra ex
  · cases r₁ with
    | @lst a vs _ hl2 hp ra =>
      have hn : xs.length = vs.toArray.size := by rw [List.size_toArray, ra.length, hl]
      rw [hn]
      exact kun_itemsOf o'.room.hh hl2 fun h₂ ex => fin vs h₂ ra ex

/-- numerals.index('.') -/
theorem find_one {a b : List Nat} {q : Nat} (hq : q ∉ a) : ∃ r, Builtin.Str.occurrences (ofL (a ++ q :: b)) (ofL [q]) 0 (ofL (a ++ q :: b)).length 1 = a.length :: r := by
  have hat : ∀ i, StrLaws.At (ofL (a ++ q :: b)) (ofL [q]) (ofL (a ++ q :: b)).length i ↔ (a ++ q :: b)[i]? = some q := by
    intro i
    unfold StrLaws.At Builtin.Str.subAt
    rw [ofL_length, ofL_length]
    simp only [ofL, List.length_cons, List.length_nil, Nat.zero_add, List.size_toArray, Str.length]
    constructor
    · rintro ⟨h1, h2⟩
      have h3 := beq_iff_eq.mp h2
      have h4 := congrArg (fun z : Array Nat => z[0]?) h3
      simp at h4
      have hlt : i < (a ++ q :: b).length := by omega
      simp at hlt
      rw [List.getElem?_eq_getElem (by simpa using hlt)]
      have := h4
      simp [hlt] at this
      rw [this]
    · intro h
      have hlt := (List.getElem?_eq_some_iff.mp h).1
      refine ⟨by omega, beq_iff_eq.mpr ?_⟩
      apply Array.ext'
      simp only [Array.toList_extract, List.extract_eq_take_drop]
      have : i + 1 - i = 1 := by omega
      rw [this]
      have e := List.drop_eq_getElem_cons hlt
      rw [e]
      have := (List.getElem?_eq_some_iff.mp h).2
      simp [this]
  rcases StrLaws.occ_head_from (ofL (a ++ q :: b)) (ofL [q]) 0 1 (Nat.le_refl _) with ⟨_, h⟩ | ⟨i, r, h1, _, h2, h3⟩
  · exact absurd ((hat a.length).mpr (by simp)) (h a.length (Nat.zero_le _))
  · refine ⟨r, ?_⟩
    have e : i = a.length := by
      rcases Nat.lt_trichotomy i a.length with hlt | rfl | hgt
      · have := (hat i).mp h2
        rw [List.getElem?_append_left hlt] at this
        exact absurd (List.mem_of_getElem? this) hq
      · rfl
      · exact absurd ((hat a.length).mpr (by simp)) (h3 a.length (Nat.zero_le _) hgt)
    rw [← e]
    exact h1
theorem evIndex {ob e : PySem.Expr} {apos pos : Pos} {a b : List Nat} {q : Nat} (o : c.Ok k) (hb : Ev c ρ ob (is (.str (ofL (a ++ q :: b))))) (he1 : Ev c ρ e (is (.str (ofL [q])))) (hq : q ∉ a) {pl : Sem Bool}
    (he : eval (.Call (.Attribute ob (Str.ofString "index") apos) [e] [] pos) c.env = (do
      let ov ← eval ob c.env
      standAt apos.atName
      let (f, first) ← holding [ov] (getMethod ov (Str.ofString "index") pl)
      callWith pos f first (backTo pos (starEach [e] c.env)) []) := by rfl)
    (he2 : starEach [e] c.env = (false, eval e c.env) :: starEach [] c.env := by rfl) (hp : (backTo pos (starEach [] c.env)).any (·.1) = false := by rfl) : Ev c ρ (.Call (.Attribute ob (Str.ofString "index") apos) [e] [] pos) (is (.int a.length)) := by
  intro s Q hs hQ
  refine MethodCall_ (hb s _ hs fun v dv h₁ t₁ ed s₁ r₁ e₁ => ?_) he
  cases ed
  cases r₁ with
  | str _ tk =>
    refine GM.index ?_
    have h2 : wpAny (model pw c.w) c.A (spliced (backTo pos (starEach [e] c.env))) (fun vs s₁ => wpAny (model pw c.w) c.A (call (.builtin "str.index") ([.str (ofL (a ++ q :: b)) tk] ++ vs)) Q NoE s₁) NoE { s with heap := h₁, toks := t₁ } :=
      args_cons (he1 _ _ s₁ fun v d h₂ t₂ ed s₂ r₂ e₂ => args_nil ?_) he2
    · rw [he2] at h2 ⊢
      exact callWith_builtin (by show (false || (backTo pos (starEach [] c.env)).any (·.1)) = false; rw [hp]; rfl) (evalArgs_plain h2)
    cases ed
    cases r₂ with | str _ tk2 => ?_
    obtain ⟨r, ho⟩ := find_one (b := b) hq
    exact SC.index ho (hQ _ _ h₂ _ rfl s₂ (.int _ _) (e₁.trans e₂))
end
end
-- part D0
section
/-- the numerals of a number, by their codes -/
def dg (n : Nat) : List Nat := (Nat.toDigits 10 n).map Char.toNat
theorem dg_text (n : Nat) : Str.ofString (toString ((n : Nat) : Int)) = ofL (dg n) := ofL_eq (KIN.signs_num n)
theorem dg_len_le {n k : Nat} (hk : 1 ≤ k) (h : n < 10 ^ k) : (dg n).length ≤ k := by
  unfold dg; rw [List.length_map]; exact digits10_le hk h
theorem dg_len_ge {n k : Nat} (h : 10 ^ k ≤ n) : k + 1 ≤ (dg n).length := by
  unfold dg; rw [List.length_map]; exact digits10_ge h
theorem dg_len_pos (n : Nat) : 1 ≤ (dg n).length := by
  unfold dg; rw [List.length_map]; exact tDigits_len_ge 10 n
theorem dg_small {n : Nat} (h : n < 10) : dg n = [48 + n] := by
  match n, h with
  | 0, _ => rfl
  | 1, _ => rfl
  | 2, _ => rfl
  | 3, _ => rfl
  | 4, _ => rfl
  | 5, _ => rfl
  | 6, _ => rfl
  | 7, _ => rfl
  | 8, _ => rfl
  | 9, _ => rfl
theorem dg_snoc {n r : Nat} (hn : 1 ≤ n) (hr : r < 10) : dg (10 * n + r) = dg n ++ [48 + r] := by
  have h := Nat.toDigits_append_toDigits (b := 10) (n := n) (d := r) (by decide) hn hr
  unfold dg
  rw [← h, List.map_append]
  congr 1
  exact dg_small hr
theorem dg_shift {n : Nat} (hn : 1 ≤ n) : ∀ j, dg (n * 10 ^ j) = dg n ++ List.replicate j 48
  | 0 => by simp
  | j + 1 => by
    have h : 1 ≤ n * 10 ^ j := Nat.mul_pos hn (Nat.pow_pos (by decide))
    have e : n * 10 ^ (j + 1) = 10 * (n * 10 ^ j) + 0 := by rw [Nat.pow_succ]; rw [← Nat.mul_assoc, Nat.mul_comm]; rfl
    rw [e, dg_snoc h (by decide), dg_shift hn j, List.append_assoc, List.replicate_succ']
theorem dg_parts (n : Nat) : (n < 10 ∧ dg n = [48 + n]) ∨ (10 ≤ n ∧ dg n = dg (n / 10) ++ [48 + n % 10]) := by
  by_cases h : n < 10
  · exact .inl ⟨h, dg_small h⟩
  · refine .inr ⟨by omega, ?_⟩
    have := dg_snoc (n := n / 10) (r := n % 10) (by omega) (by omega)
    rw [← this, Nat.div_add_mod]
theorem dg_mem : ∀ {n x : Nat}, x ∈ dg n → 48 ≤ x ∧ x ≤ 57 := by
  intro n
  induction n using Nat.strongRecOn with
  | _ n ih =>
    intro x hx
    rcases dg_parts n with ⟨h, e⟩ | ⟨h, e⟩
    · rw [e] at hx; simp at hx; omega
    · rw [e] at hx
      rcases List.mem_append.mp hx with hx | hx
      · exact ih (n / 10) (by omega) hx
      · simp at hx; omega
theorem dg_head : ∀ {n : Nat}, 1 ≤ n → (dg n).head? ≠ some 48 := by
  intro n
  induction n using Nat.strongRecOn with
  | _ n ih =>
    intro hn
    rcases dg_parts n with ⟨h, e⟩ | ⟨h, e⟩
    · rw [e]; simp; omega
    · rw [e]
      have l := dg_len_pos (n / 10)
      have := ih (n / 10) (by omega) (by omega)
      cases hd : dg (n / 10) with
      | nil => rw [hd] at l; simp at l
      | cons a r => rw [hd] at this; simpa using this
theorem dg_last (n : Nat) : ∃ l, dg n = l ++ [48 + n % 10] := by
  rcases dg_parts n with ⟨h, e⟩ | ⟨h, e⟩
  · exact ⟨[], by rw [e, Nat.mod_eq_of_lt h]; rfl⟩
  · exact ⟨_, e⟩
end
-- part F0
section
/-- a def (or class) of the top -/
structure GF (w : World) (x : Str) (a : Addr) : Prop where
  g : nsIn (KW w) mainGlobals x = some (some (.ref a))
  k : keepIn (KW w) (.ref a) = true
/-- a builtin -/
structure BF (w : World) (x : Str) (v : Value) : Prop where
  g : nsIn (KW w) mainGlobals x = some .none
  b : bootBuiltins x = some v
  n : x ≠ "__name__"
/-- a method of Decimal -/
structure MF (w : World) (x : Str) (a : Addr) : Prop where
  f : findIn (KW w) (.ref aDec) x = some (some (.ref a))
  t : typeIn (KW w) (.ref a) = some (.type "function")
  k : keepIn (KW w) (.ref a) = true
  h1 : x ≠ Str.ofString "top"
  h2 : x ≠ Str.ofString "places"
section
variable {w : World}

theorem gf_sign_text : GF w (Str.ofString "sign_text") 147 := ⟨by kernel_rfl, by kernel_rfl⟩
theorem gf_sign_of : GF w (Str.ofString "sign_of") 154 := ⟨by kernel_rfl, by kernel_rfl⟩
theorem gf_rounded_quotient : GF w (Str.ofString "rounded_quotient") 161 := ⟨by kernel_rfl, by kernel_rfl⟩
theorem gf_decimal_of : GF w (Str.ofString "decimal_of") 168 := ⟨by kernel_rfl, by kernel_rfl⟩
theorem gf_at_one_scale : GF w (Str.ofString "at_one_scale") 175 := ⟨by kernel_rfl, by kernel_rfl⟩
theorem gf_tops_of : GF w (Str.ofString "tops_of") 180 := ⟨by kernel_rfl, by kernel_rfl⟩
theorem gf_halved : GF w (Str.ofString "halved") 187 := ⟨by kernel_rfl, by kernel_rfl⟩
theorem gf_middle_of : GF w (Str.ofString "middle_of") 194 := ⟨by kernel_rfl, by kernel_rfl⟩
theorem gf_sum_of : GF w (Str.ofString "sum_of") 201 := ⟨by kernel_rfl, by kernel_rfl⟩
theorem gf_same_number : GF w (Str.ofString "same_number") 208 := ⟨by kernel_rfl, by kernel_rfl⟩
theorem gf_least : GF w (Str.ofString "least") 215 := ⟨by kernel_rfl, by kernel_rfl⟩
theorem gf_greatest : GF w (Str.ofString "greatest") 222 := ⟨by kernel_rfl, by kernel_rfl⟩
theorem gf_clamped : GF w (Str.ofString "clamped") 229 := ⟨by kernel_rfl, by kernel_rfl⟩
theorem gf_ceiling : GF w (Str.ofString "ceiling") 236 := ⟨by kernel_rfl, by kernel_rfl⟩
theorem gf_absolute : GF w (Str.ofString "absolute") 243 := ⟨by kernel_rfl, by kernel_rfl⟩
theorem gf_law_pen : GF w (Str.ofString "_law_pen") 248 := ⟨by kernel_rfl, by kernel_rfl⟩
theorem gf_law_draw : GF w (Str.ofString "_law_draw") 255 := ⟨by kernel_rfl, by kernel_rfl⟩
theorem gf_law_pair : GF w (Str.ofString "_law_pair") 262 := ⟨by kernel_rfl, by kernel_rfl⟩
theorem gf_law_told : GF w (Str.ofString "_law_told") 269 := ⟨by kernel_rfl, by kernel_rfl⟩
theorem gf_law_text : GF w (Str.ofString "_law_text") 276 := ⟨by kernel_rfl, by kernel_rfl⟩
theorem gf_law_rounded : GF w (Str.ofString "_law_rounded") 283 := ⟨by kernel_rfl, by kernel_rfl⟩
theorem gf_law_refused : GF w (Str.ofString "_law_refused") 290 := ⟨by kernel_rfl, by kernel_rfl⟩
theorem gf_law_one_told : GF w (Str.ofString "_law_one_told") 297 := ⟨by kernel_rfl, by kernel_rfl⟩
theorem gf_law_two_told : GF w (Str.ofString "_law_two_told") 304 := ⟨by kernel_rfl, by kernel_rfl⟩
theorem gf_law_some_told : GF w (Str.ofString "_law_some_told") 309 := ⟨by kernel_rfl, by kernel_rfl⟩
theorem gf_Decimal : GF w (Str.ofString "Decimal") 136 := ⟨by kernel_rfl, by kernel_rfl⟩
theorem gf_PaperError : GF w (Str.ofString "PaperError") 39 := ⟨by kernel_rfl, by kernel_rfl⟩
theorem bf_abs : BF w (Str.ofString "abs") (.builtin "abs") := ⟨by kernel_rfl, by kernel_rfl, by decide⟩
theorem bf_max : BF w (Str.ofString "max") (.builtin "max") := ⟨by kernel_rfl, by kernel_rfl, by decide⟩
theorem bf_min : BF w (Str.ofString "min") (.builtin "min") := ⟨by kernel_rfl, by kernel_rfl, by decide⟩
theorem bf_sum : BF w (Str.ofString "sum") (.builtin "sum") := ⟨by kernel_rfl, by kernel_rfl, by decide⟩
theorem bf_len : BF w (Str.ofString "len") (.builtin "len") := ⟨by kernel_rfl, by kernel_rfl, by decide⟩
theorem bf_isinstance : BF w (Str.ofString "isinstance") (.builtin "isinstance") := ⟨by kernel_rfl, by kernel_rfl, by decide⟩
theorem bf_int : BF w (Str.ofString "int") (.type "int") := ⟨by kernel_rfl, by kernel_rfl, by decide⟩
theorem bf_str : BF w (Str.ofString "str") (.type "str") := ⟨by kernel_rfl, by kernel_rfl, by decide⟩
theorem bf_bool : BF w (Str.ofString "bool") (.type "bool") := ⟨by kernel_rfl, by kernel_rfl, by decide⟩
theorem bf_range : BF w (Str.ofString "range") (.type "range") := ⟨by kernel_rfl, by kernel_rfl, by decide⟩
theorem mf_plus : MF w (Str.ofString "plus") 63 := ⟨by kernel_rfl, by kernel_rfl, by kernel_rfl, by decide, by decide⟩
theorem mf_minus : MF w (Str.ofString "minus") 70 := ⟨by kernel_rfl, by kernel_rfl, by kernel_rfl, by decide, by decide⟩
theorem mf_times : MF w (Str.ofString "times") 77 := ⟨by kernel_rfl, by kernel_rfl, by kernel_rfl, by decide, by decide⟩
theorem mf_negated : MF w (Str.ofString "negated") 84 := ⟨by kernel_rfl, by kernel_rfl, by kernel_rfl, by decide, by decide⟩
theorem mf_compared : MF w (Str.ofString "compared") 91 := ⟨by kernel_rfl, by kernel_rfl, by kernel_rfl, by decide, by decide⟩
theorem mf_is_whole : MF w (Str.ofString "is_whole") 98 := ⟨by kernel_rfl, by kernel_rfl, by kernel_rfl, by decide, by decide⟩
theorem mf_floor : MF w (Str.ofString "floor") 105 := ⟨by kernel_rfl, by kernel_rfl, by kernel_rfl, by decide, by decide⟩
theorem mf_rounded : MF w (Str.ofString "rounded") 112 := ⟨by kernel_rfl, by kernel_rfl, by kernel_rfl, by decide, by decide⟩
theorem mf_told : MF w (Str.ofString "told") 119 := ⟨by kernel_rfl, by kernel_rfl, by kernel_rfl, by decide, by decide⟩
theorem mf_text : MF w (Str.ofString "text") 126 := ⟨by kernel_rfl, by kernel_rfl, by kernel_rfl, by decide, by decide⟩
theorem mf_least_text : MF w (Str.ofString "least_text") 133 := ⟨by kernel_rfl, by kernel_rfl, by kernel_rfl, by decide, by decide⟩
theorem g_scale : ∃ u, nsIn (KW w) mainGlobals (Str.ofString "_law_scale") = some (some (.int 40 u)) := ⟨_, rfl⟩
end
section
variable {c : Cx} {ρ : Rho} {k : Nat}
theorem evF {x : Str} {px : Pos} {e : PySem.Expr} {es : List PySem.Expr} {pos : Pos} {a : Addr} {ds : List D} {d : D} (o : c.Ok k) (hk : c.env.kindOf x = some .globalImplicit) (G : GF c.w x a) (ha : Evs c ρ (e :: es) pos (is ds)) (h : Cl c.w k (.ref a) ds d) (hd : (x == ("__debug__" : Str)) = false)
    (he : eval (.Call (.Name x px) (e :: es) [] pos) c.env = (do callWith pos (← eval (.Name x px) c.env) [] (backTo pos (starEach (e :: es) c.env)) (backToKw pos (keywordEach [] c.env))) := by rfl)
    (he2 : starEach (e :: es) c.env = (false, eval e c.env) :: starEach es c.env := by rfl) (hp : (backTo pos (starEach es c.env)).any (·.1) = false := by rfl) : Ev c ρ (.Call (.Name x px) (e :: es) [] pos) (is d) :=
  Ev.callR o (Fv.glob o hk G.g hd) G.k ha h he he2 hp
theorem evB {x : Str} {px : Pos} {e : PySem.Expr} {es : List PySem.Expr} {pos : Pos} {id : String} {ds : List D} {d : D} (o : c.Ok k) (hk : c.env.kindOf x = some .globalImplicit) (G : BF c.w x (.builtin id)) (ha : Evs c ρ (e :: es) pos (is ds)) (h : Cl c.w k (.builtin id) ds d) (hd : (x == ("__debug__" : Str)) = false)
    (he : eval (.Call (.Name x px) (e :: es) [] pos) c.env = (do callWith pos (← eval (.Name x px) c.env) [] (backTo pos (starEach (e :: es) c.env)) (backToKw pos (keywordEach [] c.env))) := by rfl)
    (he2 : starEach (e :: es) c.env = (false, eval e c.env) :: starEach es c.env := by rfl) (hp : (backTo pos (starEach es c.env)).any (·.1) = false := by rfl) : Ev c ρ (.Call (.Name x px) (e :: es) [] pos) (is d) :=
  Ev.callB (Φ := fun _ => True) o (Fv.blt o hk G.g G.b G.n hd) ha h he he2 hp
theorem evT {x : Str} {px : Pos} {e : PySem.Expr} {es : List PySem.Expr} {pos : Pos} {T : String} {ds : List D} {d : D} (o : c.Ok k) (hk : c.env.kindOf x = some .globalImplicit) (G : BF c.w x (.type T)) (ha : Evs c ρ (e :: es) pos (is ds)) (h : Cl c.w k (.type T) ds d) (hd : (x == ("__debug__" : Str)) = false)
    (he : eval (.Call (.Name x px) (e :: es) [] pos) c.env = (do callWith pos (← eval (.Name x px) c.env) [] (backTo pos (starEach (e :: es) c.env)) (backToKw pos (keywordEach [] c.env))) := by rfl)
    (he2 : starEach (e :: es) c.env = (false, eval e c.env) :: starEach es c.env := by rfl) (hp : (backTo pos (starEach es c.env)).any (·.1) = false := by rfl) : Ev c ρ (.Call (.Name x px) (e :: es) [] pos) (is d) :=
  Ev.callT o (Fv.blt o hk G.g G.b G.n hd) ha h he he2 hp
theorem evM {ob e : PySem.Expr} {nm : Str} {apos pos : Pos} {es : List PySem.Expr} {f : Addr} {t : Int} {p : Nat} {ds : List D} {d : D} (o : c.Ok k) (G : MF c.w nm f) (hb : Ev c ρ ob (is (.dec t p)))
    (ha : Evs c ρ (e :: es) pos (is ds)) (h : Cl c.w k (.ref f) (.dec t p :: ds) d) {pl : Sem Bool}
    (he : eval (.Call (.Attribute ob nm apos) (e :: es) [] pos) c.env = (do
      let ov ← eval ob c.env
      standAt apos.atName
      let (f, first) ← holding [ov] (getMethod ov nm pl)
      callWith pos f first (backTo pos (starEach (e :: es) c.env)) []) := by rfl)
    (he2 : starEach (e :: es) c.env = (false, eval e c.env) :: starEach es c.env := by rfl) (hp : (backTo pos (starEach es c.env)).any (·.1) = false := by rfl) : Ev c ρ (.Call (.Attribute ob nm apos) (e :: es) [] pos) (is d) :=
  Ev.meth o hb G.f G.t G.k G.h1 G.h2 ha h he he2 hp
theorem evM0 {ob : PySem.Expr} {nm : Str} {apos pos : Pos} {f : Addr} {t : Int} {p : Nat} {d : D} (o : c.Ok k) (G : MF c.w nm f) (hb : Ev c ρ ob (is (.dec t p))) (h : Cl c.w k (.ref f) [.dec t p] d) {pl : Sem Bool}
    (he : eval (.Call (.Attribute ob nm apos) [] [] pos) c.env = (do
      let ov ← eval ob c.env
      standAt apos.atName
      let (f, first) ← holding [ov] (getMethod ov nm pl)
      callWith pos f first (backTo pos (starEach [] c.env)) []) := by rfl) : Ev c ρ (.Call (.Attribute ob nm apos) [] [] pos) (is d) :=
  Ev.meth0 o hb G.f G.t G.k G.h1 G.h2 h he
/-- the name of a class -/
theorem evCls {x : Str} {px : Pos} {a : Addr} (o : c.Ok k) (hk : c.env.kindOf x = some .globalImplicit) (G : GF c.w x a) (hd : (x == ("__debug__" : Str)) = false) : Ev c ρ (.Name x px) (is (.raw (.ref a))) := (Fv.glob o hk G.g hd).ev
theorem evTyp {x : Str} {px : Pos} {v : Value} (o : c.Ok k) (hk : c.env.kindOf x = some .globalImplicit) (G : BF c.w x v) (hd : (x == ("__debug__" : Str)) = false) : Ev c ρ (.Name x px) (is (.raw v)) := (Fv.blt o hk G.g G.b G.n hd).ev
theorem evScale {px : Pos} (o : c.Ok k) (hk : c.env.kindOf (Str.ofString "_law_scale") = some .globalImplicit) : Ev c ρ (.Name (Str.ofString "_law_scale") px) (is (.int 40)) := by
  obtain ⟨u, e⟩ := g_scale (w := c.w)
  exact Ev.global o hk e (by decide) fun P h => .int _ _
end
end
end Mine
namespace Mine
theorem upd_same {ρ : Rho} {x : Str} {d : D} : upd ρ x d x = some d := by unfold upd; rw [if_pos rfl]
theorem upd_ne {ρ : Rho} {x y : Str} {d : D} (h : ¬ y = x) : upd ρ x d y = ρ y := by unfold upd; rw [if_neg h]
/-- an expression, by its make -/
local macro_rules | `(tactic| tb_start) => `(tactic| first
  | exact Ev.int | exact Ev.str | exact Ev.bool | exact Ev.none | exact Evs.nil
  | exact Ev.name (by assumption) rfl
  | (refine' Ev.name (by assumption) ?_; repeat rw [upd_ne (by decide)]
     first | exact upd_same | assumption)
  | (refine' Evs.one ?_ ?_ <;> first | tb_start | skip)
  | (refine' Ev.add ?_ ?_ <;> first | tb_start | skip)
  | (refine' Ev.sub ?_ ?_ <;> first | tb_start | skip)
  | (refine' Ev.mul ?_ ?_ ?_ <;> first | tb_start | skip)
  | (refine' Ev.floordiv ?_ ?_ ?_ ?_ <;> first | tb_start | skip)
  | (refine' Ev.mod ?_ ?_ ?_ <;> first | tb_start | skip)
  | (refine' Ev.pow ?_ ?_ ?_ ?_ <;> first | tb_start | skip)
  | (refine' Ev.neg ?_ <;> first | tb_start | skip)
  | (refine' Ev.top (by assumption) ?_ <;> first | tb_start | skip)
  | (refine' Ev.places (by assumption) ?_ <;> first | tb_start | skip)
  | (refine' evB (by assumption) (KD.gl (by assumption) (by decide)) bf_abs ?_ Cl.abs rfl <;> first | tb_start | skip)
  | (refine' evB (by assumption) (KD.gl (by assumption) (by decide)) bf_max ?_ Cl.max2 rfl <;> first | tb_start | skip)
  | (refine' evB (by assumption) (KD.gl (by assumption) (by decide)) bf_min ?_ Cl.min2 rfl <;> first | tb_start | skip)
  | (refine' evT (by assumption) (KD.gl (by assumption) (by decide)) bf_int ?_ Cl.int rfl <;> first | tb_start | skip)
  | (refine' evT (by assumption) (KD.gl (by assumption) (by decide)) bf_str ?_ (Cl.str ?_) rfl <;> first | tb_start | skip)
  | (refine' evF (by assumption) (KD.gl (by assumption) (by decide)) gf_Decimal ?_ (c_dec _ _) rfl <;> first | tb_start | skip)
  | (refine' Tr.cmp ?_ ?_ CmpOk.lt <;> first | tb_start | skip)
  | (refine' Tr.cmp ?_ ?_ CmpOk.gt <;> first | tb_start | skip)
  | (refine' Tr.cmp ?_ ?_ CmpOk.le <;> first | tb_start | skip)
  | (refine' Tr.cmp ?_ ?_ CmpOk.ge <;> first | tb_start | skip)
  | (refine' Tr.cmp ?_ ?_ CmpOk.eq <;> first | tb_start | skip)
  | (refine' Tr.cmp ?_ ?_ CmpOk.ne <;> first | tb_start | skip))
/-- the head of a def's contract -/
local macro_rules | `(tactic| tb_rel) => `(tactic| (
  (refine' Cl.intro (ho := rfl) (hb := rfl) (hcd := ?hcd) (hclo := rfl) (hg := rfl) (hbu := rfl) (hk := rfl) (hco := rfl) (hgen := rfl) (hbind := ?hbind) (hlen := rfl) (hps := ?hps) (hn := rfl) (h := ?h))
  (case hcd => kernel_rfl)
  (case hps => decide)
  (case hbind => intro vs h; first | (match vs, h with | [a], _ => rfl) | (match vs, h with | [a, b], _ => rfl) | (match vs, h with | [a, b, c], _ => rfl) | (match vs, h with | [a, b, c, d], _ => rfl))))
-- part F2
section
open Builtin.Int in
theorem bits_pow10 (n : Nat) : intBits (10 ^ n) ≤ 4 * n + 1 := intBits_pow_le (intBits_le_iff.mpr (by decide)) n
open Builtin.Int in
theorem bits_abs {m : Nat} {i : Int} (h : intBits i ≤ m) : intBits (if i < 0 then -i else i) ≤ m := by
  split
  · exact intBits_neg_le h
  · exact h
open Builtin.Int in
theorem bits_lit {m : Nat} {i : Int} (h : i.natAbs < 2 ^ m) : intBits i ≤ m := intBits_le_iff.mpr h
open Builtin.Int in
theorem bits_mono {m n : Nat} {i : Int} (h : intBits i ≤ m) (hn : m ≤ n) : intBits i ≤ n := Nat.le_trans h hn

def sg (i : Int) : Int := if i = 0 then 0 else if 0 < i then 1 else -1
def ab (i : Int) : Int := if i < 0 then -i else i
def rq (t b : Int) : Int := (2 * ab t + ab b).fdiv (2 * ab b) * sg t * sg b
inductive Num : D → Int → Nat → Prop
  | int (t : Int) : Num (.int t) t 0
  | dec (t : Int) (p : Nat) : Num (.dec t p) t p

section
variable {w : World} {k : Nat}
theorem c_sign_text (t : Int) : Cl w (k + 1) (.ref 147) [.int t] (.str (if t < 0 then ofL [45] else ofL [])) := by
  refine' Cl.intro (ps := [Str.ofString "number"]) (ho := rfl) (hb := rfl) (hcd := by kernel_rfl) (hclo := rfl) (hg := rfl) (hbu := rfl) (hk := rfl) (hco := rfl) (hgen := rfl) (hbind := ?_) (hlen := rfl) (hps := by decide) (hn := rfl) (h := ?_)
  · intro vs h
    match vs, h with
    | [a], _ => rfl
  intro c o K
  dsimp only at K
  refine' Ex.retD (Ev.ifexpD ?_ ?_ ?_)
  rotate_left
  · tb_start
  · intro h; simp at h; rw [if_pos h]; exact Ev.is_of Ev.str rfl
  · intro h; simp at h; rw [if_neg (by omega)]; exact Ev.is_of Ev.str rfl
theorem c_sign_of (t : Int) : Cl w (k + 1) (.ref 154) [.int t] (.int (sg t)) := by
  refine' Cl.intro (ps := [Str.ofString "number"]) (ho := rfl) (hb := rfl) (hcd := by kernel_rfl) (hclo := rfl) (hg := rfl) (hbu := rfl) (hk := rfl) (hco := rfl) (hgen := rfl) (hbind := ?_) (hlen := rfl) (hps := by decide) (hn := rfl) (h := ?_)
  · intro vs h
    match vs, h with
    | [a], _ => rfl
  intro c o K
  dsimp only at K
  refine' Ex.ifD ?_ ?_ ?_
  rotate_left
  · tb_start
  · intro h; simp at h; refine' Ex.retD ?_; rw [sg, if_pos h]; tb_start
  · intro h; simp at h; refine' Ex.retD (Ev.ifexpD ?_ ?_ ?_)
    rotate_left
    · tb_start
    · intro h2; simp at h2; rw [sg, if_neg h, if_pos h2]; tb_start
    · intro h2; simp at h2; rw [sg, if_neg h, if_neg (by omega)]; tb_start
end
end
-- part F3
section
open Builtin.Int
section
variable {w : World} {k : Nat}
theorem c_rounded_quotient {t b : Int} (hb : b ≠ 0) (ht : intBits t ≤ 1200) (hb2 : intBits b ≤ 1200) : Cl w (k + 2) (.ref 161) [.int t, .int b] (.int (rq t b)) := by
  refine' Cl.intro (ps := [Str.ofString "top", Str.ofString "below"]) (ho := rfl) (hb := rfl) (hcd := by kernel_rfl) (hclo := rfl) (hg := rfl) (hbu := rfl) (hk := rfl) (hco := rfl) (hgen := rfl) (hbind := ?_) (hlen := rfl) (hps := by decide) (hn := rfl) (h := ?_)
  · intro vs h
    match vs, h with
    | [a, b], _ => rfl
  intro c o K
  dsimp only at K
  have b1 := bits_abs ht
  have b2 := bits_abs hb2
  have b3 : intBits (2 * ab t) ≤ 2 + 1200 := intBits_mul_le (bits_lit (by decide)) b1
  have b4 : intBits (2 * ab b) ≤ 2 + 1200 := intBits_mul_le (bits_lit (by decide)) b2
  have b5 : intBits (2 * ab t + ab b) ≤ 1203 := bits_mono (intBits_add_le b3 b2) (by decide)
  have b6 : intBits ((2 * ab t + ab b).fdiv (2 * ab b)) ≤ 1203 := intBits_fdiv_le b5
  have b7 : ∀ i, intBits (sg i) ≤ 1 := fun i => by
    unfold sg; split
    · exact bits_lit (by decide)
    · split <;> exact bits_lit (by decide)
  refine' Ex.assignD (d := .int ((2 * ab t + ab b).fdiv (2 * ab b))) o (K.st (by decide) (by decide)) ?_ ?_
  · refine' Ev.floordiv (Ev.add (Ev.mul ?_ ?_ ?_) ?_) (Ev.mul ?_ ?_ ?_) ?_ ?_
    all_goals (try (tb_start; done))
    · exact IntMulOk.of_le (bits_lit (m := 2) (by decide)) b1 (by decide)
    · exact IntMulOk.of_le (bits_lit (m := 2) (by decide)) b2 (by decide)
    · unfold ab; split <;> omega
    · exact bits_mono b4 (by decide)
  · refine' Ex.retD (Ev.mul (Ev.mul ?_ (evF o (K.gl (by decide)) gf_sign_of ?_ (c_sign_of t) rfl) ?_) (evF o (K.gl (by decide)) gf_sign_of ?_ (c_sign_of b) rfl) ?_)
    all_goals (try (tb_start; done))
    · exact IntMulOk.of_le b6 (b7 t) (by decide)
    · exact IntMulOk.of_le (intBits_mul_le b6 (b7 t)) (b7 b) (by decide)
theorem c_decimal_of {d : D} {t : Int} {p : Nat} (n : Num d t p) : Cl w (k + 2) (.ref 168) [d] (.dec t p) := by
  refine' Cl.intro (ps := [Str.ofString "value"]) (ho := rfl) (hb := rfl) (hcd := by kernel_rfl) (hclo := rfl) (hg := rfl) (hbu := rfl) (hk := rfl) (hco := rfl) (hgen := rfl) (hbind := ?_) (hlen := rfl) (hps := by decide) (hn := rfl) (h := ?_)
  · intro vs h
    match vs, h with
    | [a], _ => rfl
  intro c o K
  dsimp only at K
  cases n with
  | dec =>
    refine' Ex.ifD (β := true) (Tr.value (evB o (K.gl (by decide)) bf_isinstance (Evs.one (by tb_start) (Evs.one (evCls o (K.gl (by decide)) gf_Decimal rfl) Evs.nil)) (Cl.isiDec (.inr rfl)) rfl)) ?_ ?_
    · intro _; exact Ex.retD (by tb_start)
    · intro h; cases h
  | int =>
    refine' Ex.ifD (β := false) (Tr.value (evB o (K.gl (by decide)) bf_isinstance (Evs.one (by tb_start) (Evs.one (evCls o (K.gl (by decide)) gf_Decimal rfl) Evs.nil)) (Cl.isiDec (.inl rfl)) rfl)) ?_ ?_
    · intro h; cases h
    intro _
    refine' Ex.ifD (β := false) (Tr.is_of (Tr.or (β := false) (Tr.value (evB o (K.gl (by decide)) bf_isinstance (Evs.one (by tb_start) (Evs.one (evTyp o (K.gl (by decide)) bf_bool rfl) Evs.nil)) (Cl.isiBool rfl) rfl)) (fun _ => Tr.or (β := false) (Tr.not (β := true) (Tr.value (evB o (K.gl (by decide)) bf_isinstance (Evs.one (by tb_start) (Evs.one (evTyp o (K.gl (by decide)) bf_int rfl) Evs.nil)) (Cl.isiInt rfl) rfl))) fun _ => Tr.or_nil)) rfl) ?_ ?_
    · intro h; cases h
    intro _
    refine' Ex.retD ?_
    refine' evF o (K.gl (by decide)) gf_Decimal ?_ (c_dec t 0) rfl
    exact Evs.one (by tb_start) (Evs.one Ev.int Evs.nil)
end
end
end Mine
namespace Mine
/-- an expression, by its make -/
local macro_rules | `(tactic| tb_start) => `(tactic| first
  | ((with_reducible show Evs _ _ [] _ _); exact Evs.nil)
  | ((with_reducible show Evs _ _ (_ :: _) _ _); refine' Evs.one ?_ ?_ <;> first | tb_start | skip)
  | ((with_reducible show Ev _ _ (PySem.Expr.Constant _ _ _) _); first | exact Ev.int | exact Ev.str | exact Ev.bool | exact Ev.none)
  | ((with_reducible show Ev _ _ (PySem.Expr.Name _ _) _)
     first
       | exact Ev.name (by assumption) rfl
       | (refine' Ev.name (by assumption) ?_; repeat rw [upd_ne (by decide)]
          first | exact upd_same | assumption))
  | ((with_reducible show Ev _ _ (PySem.Expr.BinOp _ PySem.Operator.Add _ _) _); refine' Ev.add ?_ ?_ <;> first | tb_start | skip)
  | ((with_reducible show Ev _ _ (PySem.Expr.BinOp _ PySem.Operator.Sub _ _) _); refine' Ev.sub ?_ ?_ <;> first | tb_start | skip)
  | ((with_reducible show Ev _ _ (PySem.Expr.BinOp _ PySem.Operator.Mult _ _) _); refine' Ev.mul ?_ ?_ ?_ <;> first | tb_start | skip)
  | ((with_reducible show Ev _ _ (PySem.Expr.BinOp _ PySem.Operator.FloorDiv _ _) _); refine' Ev.floordiv ?_ ?_ ?_ ?_ <;> first | tb_start | skip)
  | ((with_reducible show Ev _ _ (PySem.Expr.BinOp _ PySem.Operator.Mod _ _) _); refine' Ev.mod ?_ ?_ ?_ <;> first | tb_start | skip)
  | ((with_reducible show Ev _ _ (PySem.Expr.BinOp _ PySem.Operator.Pow _ _) _); refine' Ev.pow ?_ ?_ ?_ ?_ <;> first | tb_start | skip)
  | ((with_reducible show Ev _ _ (PySem.Expr.UnaryOp PySem.UnaryOp.USub _ _) _); refine' Ev.neg ?_ <;> first | tb_start | skip)
  | ((with_reducible show Ev _ _ (PySem.Expr.Attribute _ (Str.ofString "top") _) _); refine' Ev.top (by assumption) ?_ <;> first | tb_start | skip)
  | ((with_reducible show Ev _ _ (PySem.Expr.Attribute _ (Str.ofString "places") _) _); refine' Ev.places (by assumption) ?_ <;> first | tb_start | skip)
  | ((with_reducible show Ev _ _ (PySem.Expr.Call (PySem.Expr.Name (Str.ofString "abs") _) _ _ _) _); refine' evB (by assumption) (KD.gl (by assumption) (by decide)) bf_abs ?_ Cl.abs rfl <;> first | tb_start | skip)
  | ((with_reducible show Ev _ _ (PySem.Expr.Call (PySem.Expr.Name (Str.ofString "max") _) [_, _] _ _) _); refine' evB (by assumption) (KD.gl (by assumption) (by decide)) bf_max ?_ Cl.max2 rfl <;> first | tb_start | skip)
  | ((with_reducible show Ev _ _ (PySem.Expr.Call (PySem.Expr.Name (Str.ofString "min") _) [_, _] _ _) _); refine' evB (by assumption) (KD.gl (by assumption) (by decide)) bf_min ?_ Cl.min2 rfl <;> first | tb_start | skip)
  | ((with_reducible show Ev _ _ (PySem.Expr.Call (PySem.Expr.Name (Str.ofString "int") _) _ _ _) _); refine' evT (by assumption) (KD.gl (by assumption) (by decide)) bf_int ?_ Cl.int rfl <;> first | tb_start | skip)
  | ((with_reducible show Ev _ _ (PySem.Expr.Call (PySem.Expr.Name (Str.ofString "str") _) _ _ _) _); refine' evT (by assumption) (KD.gl (by assumption) (by decide)) bf_str ?_ (Cl.str ?_) rfl <;> first | tb_start | skip)
  | ((with_reducible show Ev _ _ (PySem.Expr.Call (PySem.Expr.Name (Str.ofString "Decimal") _) _ _ _) _); refine' evF (by assumption) (KD.gl (by assumption) (by decide)) gf_Decimal ?_ (c_dec _ _) rfl <;> first | tb_start | skip)
  | ((with_reducible show Tr _ _ (PySem.Expr.Compare _ [PySem.CmpOp.Lt] _ _) _); refine' Tr.cmp ?_ ?_ CmpOk.lt <;> first | tb_start | skip)
  | ((with_reducible show Tr _ _ (PySem.Expr.Compare _ [PySem.CmpOp.Gt] _ _) _); refine' Tr.cmp ?_ ?_ CmpOk.gt <;> first | tb_start | skip)
  | ((with_reducible show Tr _ _ (PySem.Expr.Compare _ [PySem.CmpOp.LtE] _ _) _); refine' Tr.cmp ?_ ?_ CmpOk.le <;> first | tb_start | skip)
  | ((with_reducible show Tr _ _ (PySem.Expr.Compare _ [PySem.CmpOp.GtE] _ _) _); refine' Tr.cmp ?_ ?_ CmpOk.ge <;> first | tb_start | skip)
  | ((with_reducible show Tr _ _ (PySem.Expr.Compare _ [PySem.CmpOp.Eq] _ _) _); refine' Tr.cmp ?_ ?_ CmpOk.eq <;> first | tb_start | skip)
  | ((with_reducible show Tr _ _ (PySem.Expr.Compare _ [PySem.CmpOp.NotEq] _ _) _); refine' Tr.cmp ?_ ?_ CmpOk.ne <;> first | tb_start | skip))
-- part F4
section
open Builtin.Int
section
variable {w : World} {k : Nat}
/-- t of p places, at P places -/
def sc (t : Int) (p P : Nat) : Int := t * 10 ^ (P - p)
theorem bits_sc {t : Int} {p P m : Nat} (h : intBits t ≤ m) (hP : P ≤ 200) : intBits (sc t p P) ≤ m + 801 := by
  refine bits_mono (intBits_mul_le h (bits_pow10 _)) ?_
  omega
theorem evPow10 {c : Cx} {ρ : Rho} {l r : PySem.Expr} {pos : Pos} {y : Int} {n : Nat} (hl : Ev c ρ l (is (.int 10))) (hr : Ev c ρ r (is (.int y))) (hy : y = (n : Int)) (hn : n ≤ 1000000) : Ev c ρ (.BinOp l .Pow r pos) (is (.int (10 ^ n))) := by
  subst hy
  refine Ev.is_of (Ev.pow hl hr (by omega) ?_) (by simp)
  have : intBits 10 ≤ 4 := bits_lit (by decide)
  have h2 : (intBits 10 : Int) * n ≤ 4 * n := Int.mul_le_mul_of_nonneg_right (by omega) (by omega)
  refine Int.le_trans h2 ?_
  have : (2:Int)^27 = 134217728 := by decide
  omega
theorem evTup {c : Cx} {ρ : Rho} {kk : Nat} {es : List PySem.Expr} {n : Nat} {pos : Pos} {ds : List D} (o : c.Ok kk) (h : Evs c ρ es pos (is ds)) (hl : ds.length ≤ 1000) : Ev c ρ (.Tuple es n pos) (is (.tup ds)) := Ev.tuple o h fun ds' e => by cases e; exact ⟨hl, rfl⟩
theorem c_at_one_scale {d e : D} {t u : Int} {p q : Nat} (n1 : Num d t p) (n2 : Num e u q) (h1 : intBits t ≤ 1000) (h2 : intBits u ≤ 1000) (h3 : p ≤ 200) (h4 : q ≤ 200) : Cl w (k + 3) (.ref 175) [d, e] (.tup [.int (sc t p (max p q)), .int (sc u q (max p q)), .int ((max p q : Nat) : Int)]) := by
  refine' Cl.intro (ps := [Str.ofString "one", Str.ofString "other"]) (ho := rfl) (hb := rfl) (hcd := by kernel_rfl) (hclo := rfl) (hg := rfl) (hbu := rfl) (hk := rfl) (hco := rfl) (hgen := rfl) (hbind := ?_) (hlen := rfl) (hps := by decide) (hn := rfl) (h := ?_)
  · intro vs h
    match vs, h with
    | [a, b], _ => rfl
  intro c o K
  dsimp only at K
  refine' Ex.assignD o (K.st (by decide) (by decide)) (evF o (K.gl (by decide)) gf_decimal_of (by tb_start) (c_decimal_of n1) rfl) ?_
  refine' Ex.assignD o (K.st (by decide) (by decide)) (evF o (K.gl (by decide)) gf_decimal_of (by tb_start) (c_decimal_of n2) rfl) ?_
  refine' Ex.assignD (d := .int ((max p q : Nat) : Int)) o (K.st (by decide) (by decide)) (Ev.is_of (by tb_start) ?_) ?_
  · congr 1; omega
  unfold sc
  refine' Ex.retD (evTup o (Evs.one (Ev.mul ?_ (evPow10 (n := max p q - p) Ev.int (Ev.sub ?_ ?_) ?_ ?_) ?_) (Evs.one (Ev.mul ?_ (evPow10 (n := max p q - q) Ev.int (Ev.sub ?_ ?_) ?_ ?_) ?_) (Evs.one ?_ Evs.nil))) ?_)
  all_goals (try (tb_start; done))
  · omega
  · omega
  · exact IntMulOk.of_le h1 (bits_mono (bits_pow10 _) (show 4 * (max p q - p) + 1 ≤ 801 by omega)) (by decide)
  · omega
  · omega
  · exact IntMulOk.of_le h2 (bits_mono (bits_pow10 _) (show 4 * (max p q - q) + 1 ≤ 801 by omega)) (by decide)
  · simp
theorem c_plus {e : D} {t u : Int} {p q : Nat} (n2 : Num e u q) (h1 : intBits t ≤ 1000) (h2 : intBits u ≤ 1000) (h3 : p ≤ 200) (h4 : q ≤ 200) : Cl w (k + 4) (.ref 63) [.dec t p, e] (.dec (norm (sc t p (max p q) + sc u q (max p q)) (max p q)).1 (norm (sc t p (max p q) + sc u q (max p q)) (max p q)).2) := by
  refine' Cl.intro (ps := [Str.ofString "self", Str.ofString "other"]) (ho := rfl) (hb := rfl) (hcd := by kernel_rfl) (hclo := rfl) (hg := rfl) (hbu := rfl) (hk := rfl) (hco := rfl) (hgen := rfl) (hbind := ?_) (hlen := rfl) (hps := by decide) (hn := rfl) (h := ?_)
  · intro vs h
    match vs, h with
    | [a, b], _ => rfl
  intro c o K
  dsimp only at K
  refine' exUnpack (xs := [(Str.ofString "one", _), (Str.ofString "two", _), (Str.ofString "places", _)]) o ?_ (evF o (K.gl (by decide)) gf_at_one_scale (by tb_start) (c_at_one_scale (.dec t p) n2 h1 h2 h3 h4) rfl) (.inl rfl) rfl ?_
  · intro x hx
    simp only [List.mem_cons, List.not_mem_nil, or_false] at hx
    rcases hx with rfl | rfl | rfl
    · exact K.st (by decide) (by decide)
    · exact K.st (by decide) (by decide)
    · exact K.st (by decide) (by decide)
  refine' Ex.retD ?_
  tb_start
theorem c_minus {e : D} {t u : Int} {p q : Nat} (n2 : Num e u q) (h1 : intBits t ≤ 1000) (h2 : intBits u ≤ 1000) (h3 : p ≤ 200) (h4 : q ≤ 200) : Cl w (k + 4) (.ref 70) [.dec t p, e] (.dec (norm (sc t p (max p q) - sc u q (max p q)) (max p q)).1 (norm (sc t p (max p q) - sc u q (max p q)) (max p q)).2) := by
  refine' Cl.intro (ps := [Str.ofString "self", Str.ofString "other"]) (ho := rfl) (hb := rfl) (hcd := by kernel_rfl) (hclo := rfl) (hg := rfl) (hbu := rfl) (hk := rfl) (hco := rfl) (hgen := rfl) (hbind := ?_) (hlen := rfl) (hps := by decide) (hn := rfl) (h := ?_)
  · intro vs h
    match vs, h with
    | [a, b], _ => rfl
  intro c o K
  dsimp only at K
  refine' exUnpack (xs := [(Str.ofString "one", _), (Str.ofString "two", _), (Str.ofString "places", _)]) o ?_ (evF o (K.gl (by decide)) gf_at_one_scale (by tb_start) (c_at_one_scale (.dec t p) n2 h1 h2 h3 h4) rfl) (.inl rfl) rfl ?_
  · intro x hx
    simp only [List.mem_cons, List.not_mem_nil, or_false] at hx
    rcases hx with rfl | rfl | rfl
    · exact K.st (by decide) (by decide)
    · exact K.st (by decide) (by decide)
    · exact K.st (by decide) (by decide)
  refine' Ex.retD ?_
  tb_start
theorem c_compared {e : D} {t u : Int} {p q : Nat} (n2 : Num e u q) (h1 : intBits t ≤ 1000) (h2 : intBits u ≤ 1000) (h3 : p ≤ 200) (h4 : q ≤ 200) : Cl w (k + 4) (.ref 91) [.dec t p, e] (.int (sg (sc t p (max p q) - sc u q (max p q)))) := by
  refine' Cl.intro (ps := [Str.ofString "self", Str.ofString "other"]) (ho := rfl) (hb := rfl) (hcd := by kernel_rfl) (hclo := rfl) (hg := rfl) (hbu := rfl) (hk := rfl) (hco := rfl) (hgen := rfl) (hbind := ?_) (hlen := rfl) (hps := by decide) (hn := rfl) (h := ?_)
  · intro vs h
    match vs, h with
    | [a, b], _ => rfl
  intro c o K
  dsimp only at K
  refine' exUnpack (xs := [(Str.ofString "one", _), (Str.ofString "two", _), (Str.ofString "places", _)]) o ?_ (evF o (K.gl (by decide)) gf_at_one_scale (by tb_start) (c_at_one_scale (.dec t p) n2 h1 h2 h3 h4) rfl) (.inl rfl) rfl ?_
  · intro x hx
    simp only [List.mem_cons, List.not_mem_nil, or_false] at hx
    rcases hx with rfl | rfl | rfl
    · exact K.st (by decide) (by decide)
    · exact K.st (by decide) (by decide)
    · exact K.st (by decide) (by decide)
  refine' Ex.retD (evF o (K.gl (by decide)) gf_sign_of ?_ (c_sign_of _) rfl)
  tb_start
theorem c_times {e : D} {t u : Int} {p q : Nat} (n2 : Num e u q) (h1 : intBits t ≤ 1000) (h2 : intBits u ≤ 1000) : Cl w (k + 3) (.ref 77) [.dec t p, e] (.dec (norm (t * u) (p + q)).1 (norm (t * u) (p + q)).2) := by
  refine' Cl.intro (ps := [Str.ofString "self", Str.ofString "other"]) (ho := rfl) (hb := rfl) (hcd := by kernel_rfl) (hclo := rfl) (hg := rfl) (hbu := rfl) (hk := rfl) (hco := rfl) (hgen := rfl) (hbind := ?_) (hlen := rfl) (hps := by decide) (hn := rfl) (h := ?_)
  · intro vs h
    match vs, h with
    | [a, b], _ => rfl
  intro c o K
  dsimp only at K
  refine' Ex.assignD o (K.st (by decide) (by decide)) (evF o (K.gl (by decide)) gf_decimal_of (by tb_start) (c_decimal_of n2) rfl) ?_
  refine' Ex.retD (evF o (K.gl (by decide)) gf_Decimal (Evs.one (Ev.mul ?_ ?_ ?_) (Evs.one (Ev.is_of (Ev.add ?_ ?_) ?_) Evs.nil)) (c_dec (t * u) (p + q)) rfl)
  all_goals (try (tb_start; done))
  · exact IntMulOk.of_le h1 h2 (by decide)
  · congr 1
theorem c_negated {t : Int} {p : Nat} : Cl w (k + 2) (.ref 84) [.dec t p] (.dec (norm (-t) p).1 (norm (-t) p).2) := by
  refine' Cl.intro (ps := [Str.ofString "self"]) (ho := rfl) (hb := rfl) (hcd := by kernel_rfl) (hclo := rfl) (hg := rfl) (hbu := rfl) (hk := rfl) (hco := rfl) (hgen := rfl) (hbind := ?_) (hlen := rfl) (hps := by decide) (hn := rfl) (h := ?_)
  · intro vs h
    match vs, h with
    | [a], _ => rfl
  intro c o K
  dsimp only at K
  refine' Ex.retD ?_
  tb_start
theorem c_is_whole {t : Int} {p : Nat} : Cl w (k + 1) (.ref 98) [.dec t p] (.bool (decide (p = 0))) := by
  refine' Cl.intro (ps := [Str.ofString "self"]) (ho := rfl) (hb := rfl) (hcd := by kernel_rfl) (hclo := rfl) (hg := rfl) (hbu := rfl) (hk := rfl) (hco := rfl) (hgen := rfl) (hbind := ?_) (hlen := rfl) (hps := by decide) (hn := rfl) (h := ?_)
  · intro vs h
    match vs, h with
    | [a], _ => rfl
  intro c o K
  dsimp only at K
  refine' Ex.retD (Ev.is_of (Ev.cmp (b := .int 0) (β := decide ((p : Int) = 0)) ?_ Ev.int CmpOk.eq) ?_)
  · tb_start
  · congr 1; simp
theorem c_floor {t : Int} {p : Nat} (h3 : p ≤ 200) : Cl w (k + 1) (.ref 105) [.dec t p] (.int (t.fdiv (10 ^ p))) := by
  refine' Cl.intro (ps := [Str.ofString "self"]) (ho := rfl) (hb := rfl) (hcd := by kernel_rfl) (hclo := rfl) (hg := rfl) (hbu := rfl) (hk := rfl) (hco := rfl) (hgen := rfl) (hbind := ?_) (hlen := rfl) (hps := by decide) (hn := rfl) (h := ?_)
  · intro vs h
    match vs, h with
    | [a], _ => rfl
  intro c o K
  dsimp only at K
  refine' Ex.retD (Ev.floordiv ?_ (evPow10 (n := p) Ev.int ?_ rfl ?_) ?_ ?_)
  all_goals (try (tb_start; done))
  · omega
  · exact Int.ne_of_gt (Int.pow_pos (by decide))
  · exact bits_mono (bits_pow10 p) (by omega)
theorem c_told {t : Int} {p : Nat} : Cl w (k + 1) (.ref 119) [.dec t p] (.tup [.int t, .int p]) := by
  refine' Cl.intro (ps := [Str.ofString "self"]) (ho := rfl) (hb := rfl) (hcd := by kernel_rfl) (hclo := rfl) (hg := rfl) (hbu := rfl) (hk := rfl) (hco := rfl) (hgen := rfl) (hbind := ?_) (hlen := rfl) (hps := by decide) (hn := rfl) (h := ?_)
  · intro vs h
    match vs, h with
    | [a], _ => rfl
  intro c o K
  dsimp only at K
  refine' Ex.retD (evTup o (Evs.one ?_ (Evs.one ?_ Evs.nil)) ?_)
  all_goals (try (tb_start; done))
  simp
theorem c_rounded {t : Int} {p q : Nat} (h1 : intBits t ≤ 1000) (h3 : p ≤ 200) : Cl w (k + 3) (.ref 112) [.dec t p, .int q] (if p ≤ q then .dec t p else .dec (norm (rq t (10 ^ (p - q))) q).1 (norm (rq t (10 ^ (p - q))) q).2) := by
  refine' Cl.intro (ps := [Str.ofString "self", Str.ofString "places"]) (ho := rfl) (hb := rfl) (hcd := by kernel_rfl) (hclo := rfl) (hg := rfl) (hbu := rfl) (hk := rfl) (hco := rfl) (hgen := rfl) (hbind := ?_) (hlen := rfl) (hps := by decide) (hn := rfl) (h := ?_)
  · intro vs h
    match vs, h with
    | [a, b], _ => rfl
  intro c o K
  dsimp only at K
  refine' Ex.ifD ?_ ?_ ?_
  rotate_left
  · tb_start
  · intro h; simp at h; rw [if_pos (by omega)]; refine' Ex.retD ?_; tb_start
  · intro h; simp at h; rw [if_neg (by omega)]
    refine' Ex.retD (evF o (K.gl (by decide)) gf_Decimal (Evs.one (evF o (K.gl (by decide)) gf_rounded_quotient (Evs.one ?_ (Evs.one (evPow10 (n := p - q) Ev.int (Ev.sub ?_ ?_) ?_ ?_) Evs.nil)) (c_rounded_quotient ?_ ?_ ?_) rfl) (Evs.one ?_ Evs.nil)) (c_dec _ q) rfl)
    all_goals (try (tb_start; done))
    · omega
    · omega
    · exact Int.ne_of_gt (Int.pow_pos (by decide))
    · exact bits_mono h1 (by decide)
    · exact bits_mono (bits_pow10 _) (by omega)
end
end
-- part F5
section
open Builtin.Int
def sgL (t : Int) : List Nat := if t < 0 then [45] else []
def padL (n : Nat) (l : List Nat) : List Nat := List.replicate (n + 1 - l.length) 48 ++ l
def headL (p : Nat) (l : List Nat) : List Nat := l.take (l.length - p)
def tailL (p : Nat) (l : List Nat) : List Nat := l.drop (l.length - p)
def txt (t : Int) (p : Nat) : List Nat := sgL t ++ (if 0 < p then headL p (padL p (dg t.natAbs)) ++ 46 :: tailL p (padL p (dg t.natAbs)) else dg t.natAbs)
def ltxt (t : Int) (p : Nat) : List Nat := if 10 ^ p ≤ t.natAbs ∨ t = 0 then txt t p else sgL t ++ 46 :: tailL p (padL p (dg t.natAbs))
theorem padL_len (n : Nat) (l : List Nat) : (padL n l).length = max (n + 1) l.length := by
  unfold padL; rw [List.length_append, List.length_replicate]; omega
theorem dg_bits {t : Int} {m : Nat} (hm : 1 ≤ m) (h : intBits t ≤ m) : (dg t.natAbs).length ≤ m :=
  dg_len_le hm (Nat.lt_of_lt_of_le (intBits_le_iff.mp h) (Nat.pow_le_pow_left (by decide) m))
section
variable {w : World} {k : Nat}
theorem c_sgn (t : Int) : Cl w (k + 1) (.ref 147) [.int t] (.str (ofL (sgL t))) := by
  have h := c_sign_text (w := w) (k := k) t
  have e : (if t < 0 then ofL [45] else ofL []) = ofL (sgL t) := by unfold sgL; split <;> rfl
  rw [e] at h
  exact h
section
variable {c : Cx} {ρ : Rho} {kk : Nat}
theorem evAbs {names : List (Str × NameKind)} {px pos : Pos} {e : PySem.Expr} {t : Int} (o : c.Ok kk) (hk : c.env.kindOf (Str.ofString "abs") = some .globalImplicit) (h : Ev c ρ e (is (.int t)))
    (he : eval (.Call (.Name (Str.ofString "abs") px) [e] [] pos) c.env = (do callWith pos (← eval (.Name (Str.ofString "abs") px) c.env) [] (backTo pos (starEach [e] c.env)) (backToKw pos (keywordEach [] c.env))) := by rfl)
    (he2 : starEach [e] c.env = (false, eval e c.env) :: starEach [] c.env := by rfl) (hp : (backTo pos (starEach [] c.env)).any (·.1) = false := by rfl) : Ev c ρ (.Call (.Name (Str.ofString "abs") px) [e] [] pos) (is (.int ((t.natAbs : Nat) : Int))) :=
  Ev.is_of (evB o hk bf_abs (Evs.one h Evs.nil he2) Cl.abs rfl he he2 hp) (by congr 1; split <;> omega)
theorem evStrN {px pos : Pos} {e : PySem.Expr} {n : Nat} (o : c.Ok kk) (hk : c.env.kindOf (Str.ofString "str") = some .globalImplicit) (h : Ev c ρ e (is (.int (n : Int)))) (hb : intBits (n : Int) ≤ 1900)
    (he : eval (.Call (.Name (Str.ofString "str") px) [e] [] pos) c.env = (do callWith pos (← eval (.Name (Str.ofString "str") px) c.env) [] (backTo pos (starEach [e] c.env)) (backToKw pos (keywordEach [] c.env))) := by rfl)
    (he2 : starEach [e] c.env = (false, eval e c.env) :: starEach [] c.env := by rfl) (hp : (backTo pos (starEach [] c.env)).any (·.1) = false := by rfl) : Ev c ρ (.Call (.Name (Str.ofString "str") px) [e] [] pos) (is (.str (ofL (dg n)))) :=
  Ev.is_of (evT o hk bf_str (Evs.one h Evs.nil he2) (Cl.str hb) rfl he he2 hp) (by rw [dg_text])
theorem evLenS {px pos : Pos} {e : PySem.Expr} {l : List Nat} (o : c.Ok kk) (hk : c.env.kindOf (Str.ofString "len") = some .globalImplicit) (h : Ev c ρ e (is (.str (ofL l)))) (hb : l.length < 1000000)
    (he : eval (.Call (.Name (Str.ofString "len") px) [e] [] pos) c.env = (do callWith pos (← eval (.Name (Str.ofString "len") px) c.env) [] (backTo pos (starEach [e] c.env)) (backToKw pos (keywordEach [] c.env))) := by rfl)
    (he2 : starEach [e] c.env = (false, eval e c.env) :: starEach [] c.env := by rfl) (hp : (backTo pos (starEach [] c.env)).any (·.1) = false := by rfl) : Ev c ρ (.Call (.Name (Str.ofString "len") px) [e] [] pos) (is (.int (l.length : Nat))) :=
  Ev.is_of (evB o hk bf_len (Evs.one h Evs.nil he2) (Cl.lenS (by rw [ofL_length]; exact hb)) rfl he he2 hp) (by rw [ofL_length])
/-- '0' * (n + 1 - len(x)) + x -/
theorem evPad {r : PySem.Expr} {pos : Pos} {x : List Nat} {n : Nat} {i : Int} {q : PySem.Expr} {qpos : Pos} (hq : Ev c ρ q (is (.int i))) (hi : i = (n : Int) + 1 - x.length) (hn : n ≤ 1000) (hx : x.length ≤ 10000) (hr : Ev c ρ r (is (.str (ofL x)))) {m : Nat} {cpos : Pos} : Ev c ρ (.BinOp (.BinOp (.Constant (.str (Str.ofString "0")) m cpos) .Mult q qpos) .Add r pos) (is (.str (ofL (padL n x)))) := by
  have h1 : Ev c ρ (.BinOp (.Constant (.str (Str.ofString "0")) m cpos) .Mult q qpos) (is (.str (ofL (List.replicate i.toNat 48)))) :=
    evMulS (Ev.is_of Ev.str rfl) hq (by omega) (by omega)
  have e : i.toNat = n + 1 - x.length := by omega
  rw [e] at h1
  exact evAddL h1 hr (by rw [List.length_replicate]; omega)
end

theorem c_text {t : Int} {p : Nat} (h1 : intBits t ≤ 1000) (h3 : p ≤ 200) : Cl w (k + 2) (.ref 126) [.dec t p] (.str (ofL (txt t p))) := by
  refine' Cl.intro (ps := [Str.ofString "self"]) (ho := rfl) (hb := rfl) (hcd := by kernel_rfl) (hclo := rfl) (hg := rfl) (hbu := rfl) (hk := rfl) (hco := rfl) (hgen := rfl) (hbind := ?_) (hlen := rfl) (hps := by decide) (hn := rfl) (h := ?_)
  · intro vs h
    match vs, h with
    | [a], _ => rfl
  intro c o K
  dsimp only at K
  have hl := dg_bits (by decide) h1
  refine' Ex.assignD (d := .str (ofL (dg t.natAbs))) o (K.st (by decide) (by decide)) (evStrN o (K.gl (by decide)) (evAbs (names := []) o (K.gl (by decide)) (by tb_start)) ?_) ?_
  · exact bits_mono (intBits_natAbs_le h1) (by decide)
  refine' Ex.ifD ?_ ?_ ?_
  rotate_left
  · tb_start
  · intro h
    simp at h
    have hL := padL_len p (dg t.natAbs)
    generalize hg : padL p (dg t.natAbs) = L at hL
    refine' Ex.assignD (d := .str (ofL L)) o (K.st (by decide) (by decide)) ?_ ?_
    · rw [← hg]
      refine' evPad (Ev.sub (Ev.add ?_ ?_) (evLenS o (K.gl (by decide)) ?_ ?_)) ?_ ?_ ?_ ?_
      all_goals (try (tb_start; done))
      all_goals omega
    refine' Ex.assignD (d := .str (ofL (headL p L ++ 46 :: tailL p L))) o (K.st (by decide) (by decide)) ?_ ?_
    · refine' Ev.is_of (evAddL (evAddL (evTakeNeg (i := -(p : Int)) (m := L.length - p) (x := L) o ?_ ?_ ?_ ?_ ?_) (Ev.is_of (b := .str (ofL [46])) Ev.str rfl) ?_) (evDrop (i := -(p : Int)) (m := L.length - p) (x := L) o ?_ ?_ ?_ ?_ ?_) ?_) ?_
      all_goals (try (tb_start; done))
      all_goals (try simp only [List.length_take, List.length_append, List.length_cons, List.length_nil, List.length_drop])
      all_goals (try omega)
      · unfold headL tailL; simp
    · have e : txt t p = sgL t ++ (headL p L ++ 46 :: tailL p L) := by unfold txt; rw [if_pos (by omega), hg]
      rw [e]
      refine' Ex.retD (evAddL (evF o (K.gl (by decide)) gf_sign_text ?_ (c_sgn t) rfl) ?_ ?_)
      all_goals (try (tb_start; done))
      unfold headL tailL sgL
      simp only [List.length_take, List.length_append, List.length_cons, List.length_drop]
      split <;> simp <;> omega
  · intro h
    simp at h
    have e : txt t p = sgL t ++ dg t.natAbs := by unfold txt; rw [if_neg (by omega)]
    rw [e]
    refine' Ex.retD (evAddL (evF o (K.gl (by decide)) gf_sign_text ?_ (c_sgn t) rfl) ?_ ?_)
    all_goals (try (tb_start; done))
    unfold sgL
    split <;> simp <;> omega

theorem sgL_mem {t : Int} {x : Nat} (h : x ∈ sgL t) : x = 45 := by
  unfold sgL at h; split at h <;> simp at h; exact h
theorem padL_mem {n : Nat} {m x : Nat} (h : x ∈ padL n (dg m)) : 48 ≤ x := by
  unfold padL at h
  rcases List.mem_append.mp h with h | h
  · have := List.eq_of_mem_replicate h; omega
  · exact (dg_mem h).1
theorem c_least_text {t : Int} {p : Nat} (h1 : intBits t ≤ 1000) (h3 : p ≤ 200) : Cl w (k + 3) (.ref 133) [.dec t p] (.str (ofL (ltxt t p))) := by
  refine' Cl.intro (ps := [Str.ofString "self"]) (ho := rfl) (hb := rfl) (hcd := by kernel_rfl) (hclo := rfl) (hg := rfl) (hbu := rfl) (hk := rfl) (hco := rfl) (hgen := rfl) (hbind := ?_) (hlen := rfl) (hps := by decide) (hn := rfl) (h := ?_)
  · intro vs h
    match vs, h with
    | [a], _ => rfl
  intro c o K
  dsimp only at K
  have hl := dg_bits (by decide) h1
  have hL := padL_len p (dg t.natAbs)
  refine' Ex.assignD o (K.st (by decide) (by decide)) (evM0 o mf_text (by tb_start) (c_text h1 h3)) ?_
  refine' Ex.ifD (β := decide ((10 : Int) ^ p ≤ t.natAbs) || (decide (t = 0) || false)) (Tr.or (Tr.cmp (evAbs (names := []) o (K.gl (by decide)) (by tb_start)) (evPow10 (n := p) Ev.int (by tb_start) rfl (by omega)) CmpOk.ge) fun _ => Tr.or (Tr.cmp (by tb_start) Ev.int CmpOk.eq) fun _ => Tr.or_nil) ?_ ?_
  · intro h
    simp at h
    have e : ltxt t p = txt t p := by
      unfold ltxt
      rw [if_pos]
      rcases h with h | h
      · left
        have h' : ((10 ^ p : Nat) : Int) ≤ (t.natAbs : Int) := by rw [Int.natCast_pow]; simpa using h
        exact Int.ofNat_le.mp h'
      · exact .inr h
    rw [e]
    refine' Ex.retD ?_
    tb_start
  · intro h
    simp at h
    obtain ⟨h5, h6⟩ := h
    have h7 : ¬ (10 ^ p ≤ t.natAbs ∨ t = 0) := by
      rintro (h | h)
      · have h' : ((10 ^ p : Nat) : Int) ≤ (t.natAbs : Int) := Int.ofNat_le.mpr h
        rw [Int.natCast_pow] at h'
        have h8 : (10:Int) ^ p ≤ (t.natAbs : Int) := h'
        omega
      · exact h6 h
    have hp : 0 < p := by
      rcases Nat.eq_zero_or_pos p with rfl | h
      · exact absurd (Or.inl (by simp; omega)) h7
      · exact h
    have e : ltxt t p = sgL t ++ 46 :: tailL p (padL p (dg t.natAbs)) := by unfold ltxt; rw [if_neg h7]
    have e2 : txt t p = (sgL t ++ headL p (padL p (dg t.natAbs))) ++ 46 :: tailL p (padL p (dg t.natAbs)) := by unfold txt; rw [if_pos hp, List.append_assoc]
    rw [e, e2]
    have hh : 46 ∉ sgL t ++ headL p (padL p (dg t.natAbs)) := by
      intro h
      rcases List.mem_append.mp h with h | h
      · have := sgL_mem h; omega
      · have := padL_mem (List.mem_of_mem_take h); omega
    have l1 : (sgL t ++ headL p (padL p (dg t.natAbs))).length ≤ 1300 := by
      unfold sgL headL; rw [List.length_append, List.length_take]; split <;> simp <;> omega
    have l2 : (tailL p (padL p (dg t.natAbs))).length ≤ 1300 := by unfold tailL; rw [List.length_drop]; omega
    generalize sgL t ++ headL p (padL p (dg t.natAbs)) = H at *
    generalize tailL p (padL p (dg t.natAbs)) = T at *
    have l3 : (sgL t).length ≤ 1 := by unfold sgL; split <;> simp
    refine' Ex.retD (evAddL (evF o (K.gl (by decide)) gf_sign_text ?_ (c_sgn t) rfl) (Ev.is_of (evDrop (i := (H.length : Nat)) (m := H.length) (x := H ++ 46 :: T) o ?_ (evIndex o ?_ (Ev.is_of (b := .str (ofL [46])) Ev.str rfl) hh) ?_ ?_ ?_) (b := .str (ofL (46 :: T))) ?_) ?_)
    all_goals (try (tb_start; done))
    · exact .inr ⟨by omega, rfl⟩
    · simp
    · rw [List.length_append, List.length_cons]; omega
    · rw [List.drop_left]
    · rw [List.length_cons]; omega
end
end
-- part F6
section
open Builtin.Int
structure Nums (ds : List D) (ns : List (Int × Nat)) : Prop where
  len : ds.length = ns.length
  at' : ∀ i, i < ns.length → Num (ds.getD i .none) (ns.getD i (0, 0)).1 (ns.getD i (0, 0)).2
  bt : ∀ i, i < ns.length → intBits (ns.getD i (0, 0)).1 ≤ 1000
  bp : ∀ i, i < ns.length → (ns.getD i (0, 0)).2 ≤ 200
  sm : ns.length ≤ 100
/-- the most places among the first i -/
def mp (ns : List (Int × Nat)) : Nat → Nat
  | 0 => 0
  | i + 1 => max (mp ns i) (ns.getD i (0, 0)).2
theorem mp_le {ns : List (Int × Nat)} {m : Nat} : ∀ i, (∀ j, j < i → (ns.getD j (0, 0)).2 ≤ m) → mp ns i ≤ m
  | 0, _ => Nat.zero_le _
  | i + 1, h => by
    unfold mp
    have h1 := mp_le i fun j hj => h j (by omega)
    have h2 := h i (by omega)
    omega
theorem le_mp {ns : List (Int × Nat)} : ∀ i j, j < i → (ns.getD j (0, 0)).2 ≤ mp ns i
  | i + 1, j, h => by
    unfold mp
    rcases Nat.lt_succ_iff_lt_or_eq.mp h with h | rfl
    · have := le_mp (ns := ns) i j h; omega
    · omega
def topsL (ns : List (Int × Nat)) : List Int := (List.range ns.length).map fun i => sc (ns.getD i (0, 0)).1 (ns.getD i (0, 0)).2 (mp ns ns.length)
section
variable {w : World} {k : Nat}
theorem c_tops_of {ds : List D} {ns : List (Int × Nat)} (N : Nums ds ns) : Cl w (k + 3) (.ref 180) [.lst ds] (.tup [.lst ((topsL ns).map .int), .int (mp ns ns.length : Nat)]) := by
  refine' Cl.intro (ps := [Str.ofString "values"]) (ho := rfl) (hb := rfl) (hcd := by kernel_rfl) (hclo := rfl) (hg := rfl) (hbu := rfl) (hk := rfl) (hco := rfl) (hgen := rfl) (hbind := ?_) (hlen := rfl) (hps := by decide) (hn := rfl) (h := ?_)
  · intro vs h
    match vs, h with
    | [a], _ => rfl
  intro c o K
  dsimp only at K
  refine' Ex.assignD (d := .int 0) o (K.stC (by decide) (by decide)) Ev.int ?_
  refine' Ex.for (n := ds.length) (Ψ := fun r => ∃ ρ', r = .next ρ' ∧ ρ' (Str.ofString "values") = some (.lst ds) ∧ ρ' (Str.ofString "places") = some (.int (mp ns ns.length : Nat))) o (by decide) (K.kd _ _ (by decide)) (Iter.list o (by tb_start))
    (fun i ρ' => ρ' (Str.ofString "values") = some (.lst ds) ∧ ρ' (Str.ofString "places") = some (.int (mp ns i : Nat))) ⟨rfl, rfl⟩ ?_ (fun ρ' h => ⟨ρ', rfl, by rw [N.len] at h; exact h⟩) ?_
  · rintro c' i ρ' hi ⟨h1, h2⟩ o' l
    have K' := l.kd K
    rw [N.len] at hi
    have hn := N.at' i hi
    refine' Ex.assignD (d := .int (mp ns (i + 1) : Nat)) o' (K'.stC (by decide) (by decide)) (Ev.is_of (evB o' (K'.gl (by decide)) bf_max (Evs.one (by tb_start) (Evs.one (Ev.places o' (evF o' (K'.gl (by decide)) gf_decimal_of (by tb_start) (c_decimal_of hn) rfl)) Evs.nil)) Cl.max2 rfl) ?_) ?_
    · congr 1; rw [mp]; omega
    · refine Ex.nil ⟨?_, ?_⟩
      · rw [upd_ne (by decide), upd_ne (by decide)]; exact h1
      · exact upd_same
  rintro ρ' ⟨ρ'', e, h1, h2⟩
  cases e
  obtain ⟨ac, hac, _⟩ := K.cs (Str.ofString "places") (by decide)
  have hbp : mp ns ns.length ≤ 200 := mp_le _ fun j hj => N.bp j hj
  refine' Ex.retD (evTup o (Evs.one ?_ (Evs.one ?_ Evs.nil)) ?_)
  · have e : D.lst ((topsL ns).map .int) = .lst ((List.range ds.length).map fun i => .int (sc (ns.getD i (0, 0)).1 (ns.getD i (0, 0)).2 (mp ns ns.length))) := by
      unfold topsL; rw [List.map_map, N.len]; rfl
    rw [e]
    have kf := o.fn
    have hck : c.env.kindOf (Str.ofString "places") = some .cell := K.kd _ _ (by decide)
    refine' evComp (n := ds.length) (cl := [(Str.ofString "places", ac)]) (items := fun i => ds.getD i .none) (g := fun i => .int (sc (ns.getD i (0, 0)).1 (ns.getD i (0, 0)).2 (mp ns ns.length))) (ρ' := upd emp (Str.ofString "places") (.int (mp ns ns.length : Nat))) (names' := [(Str.ofString ".0", NameKind.local), (Str.ofString "value", NameKind.local), (Str.ofString "decimal_of", NameKind.globalImplicit), (Str.ofString "places", NameKind.cell)]) o (Iter.list o ?_) ?_ ?_ ?_ ?_ ?_ ?_ ?_ ?_ ?_ ?_ ?_
    · tb_start
    · simp [closureFor, cellOf, hac]
    · decide
    · rfl
    · decide
    · decide
    · decide
    · intro y a e
      simp only [List.lookup_cons, List.lookup_nil] at e
      split at e
      · rename_i h; cases e; rw [beq_iff_eq.mp h]; exact hac
      · cases e
    · intro y d e
      unfold upd at e
      split at e
      · rename_i h; cases e; subst h
        exact ⟨h2, hck, by unfold relabel; simp [kf, hck, List.lookup_cons]; rfl, ac, by simp⟩
      · cases e
    · unfold relabel; simp [kf, hck]
    · intro c' i hi o' ew hk'
      rw [N.len] at hi
      have hn := N.at' i hi
      have hb := N.bt i hi
      have hp := N.bp i hi
      have hm := le_mp (ns := ns) ns.length i hi
      have dof : ∀ {pos px pe : Pos}, Ev c' (upd (upd emp (Str.ofString "places") (D.int ↑(mp ns ns.length))) (Str.ofString "value") (ds.getD i D.none)) (.Call (.Name (Str.ofString "decimal_of") px) [.Name (Str.ofString "value") pe] [] pos) (is (.dec (ns.getD i (0, 0)).1 (ns.getD i (0, 0)).2)) := fun {_ _ _} =>
        evF o' (hk' _ _ (by decide)) gf_decimal_of (by tb_start) (c_decimal_of hn) rfl
      unfold sc
      refine' Ev.mul (Ev.top o' dof) (evPow10 (n := mp ns ns.length - (ns.getD i (0, 0)).2) Ev.int (Ev.sub ?_ (Ev.places o' dof)) ?_ ?_) ?_
      all_goals (try (tb_start; done))
      · omega
      · omega
      · exact IntMulOk.of_le hb (bits_mono (bits_pow10 _) (show 4 * (mp ns ns.length - (ns.getD i (0, 0)).2) + 1 ≤ 801 by omega)) (by decide)
    · have := N.sm; have := N.len; omega
  · tb_start
  · simp
end
end
-- part F7
section
open Builtin.Int
theorem norm_places : ∀ (p : Nat) (t : Int), (norm t p).2 ≤ p
  | 0, t => Nat.le_refl _
  | p + 1, t => by
    unfold norm
    split
    · exact Nat.le_succ_of_le (norm_places p _)
    · exact Nat.le_refl _
theorem norm_bits {m : Nat} : ∀ (p : Nat) (t : Int), intBits t ≤ m → intBits (norm t p).1 ≤ m
  | 0, t, h => h
  | p + 1, t, h => by
    unfold norm
    split
    · exact norm_bits p _ (intBits_fdiv_le h)
    · exact h
abbrev nget (ns : List (Int × Nat)) (i : Nat) : Int × Nat := ns.getD i (0, 0)
/-- what «compared» gives -/
def cmpN (a b : Int × Nat) : Int := sg (sc a.1 a.2 (max a.2 b.2) - sc b.1 b.2 (max a.2 b.2))
def lowN (ns : List (Int × Nat)) : Nat → Int × Nat
  | 0 => nget ns 0
  | i + 1 => if 0 < cmpN (lowN ns i) (nget ns (i + 1)) then nget ns (i + 1) else lowN ns i
def topN (ns : List (Int × Nat)) : Nat → Int × Nat
  | 0 => nget ns 0
  | i + 1 => if cmpN (topN ns i) (nget ns (i + 1)) < 0 then nget ns (i + 1) else topN ns i
theorem lowN_mem {ns : List (Int × Nat)} : ∀ i, ∃ j, j ≤ i ∧ lowN ns i = nget ns j
  | 0 => ⟨0, Nat.le_refl _, rfl⟩
  | i + 1 => by
    unfold lowN
    split
    · exact ⟨i + 1, Nat.le_refl _, rfl⟩
    · obtain ⟨j, h, e⟩ := lowN_mem (ns := ns) i
      exact ⟨j, by omega, e⟩
theorem topN_mem {ns : List (Int × Nat)} : ∀ i, ∃ j, j ≤ i ∧ topN ns i = nget ns j
  | 0 => ⟨0, Nat.le_refl _, rfl⟩
  | i + 1 => by
    unfold topN
    split
    · exact ⟨i + 1, Nat.le_refl _, rfl⟩
    · obtain ⟨j, h, e⟩ := topN_mem (ns := ns) i
      exact ⟨j, by omega, e⟩
section
variable {w : World} {k : Nat}
theorem c_halved {d : D} {t : Int} {p : Nat} (n : Num d t p) (h1 : intBits t ≤ 1000) : Cl w (k + 4) (.ref 187) [d] (.dec (norm (t * 5) (p + 1)).1 (norm (t * 5) (p + 1)).2) := by
  refine' Cl.intro (ps := [Str.ofString "value"]) (ho := rfl) (hb := rfl) (hcd := by kernel_rfl) (hclo := rfl) (hg := rfl) (hbu := rfl) (hk := rfl) (hco := rfl) (hgen := rfl) (hbind := ?_) (hlen := rfl) (hps := by decide) (hn := rfl) (h := ?_)
  · intro vs h
    match vs, h with
    | [a], _ => rfl
  intro c o K
  dsimp only at K
  refine' Ex.retD (evM o mf_times (evF o (K.gl (by decide)) gf_decimal_of ?_ (c_decimal_of n) rfl) (Evs.one (Ev.is_of (b := .dec 5 1) (evF o (K.gl (by decide)) gf_Decimal ?_ (c_dec 5 1) rfl) ?_) Evs.nil) (c_times (.dec 5 1) h1 (bits_lit (by decide))))
  all_goals (try (tb_start; done))
  rfl
theorem c_middle_of {d e : D} {t u : Int} {p q : Nat} (n1 : Num d t p) (n2 : Num e u q) (h1 : intBits t ≤ 150) (h2 : intBits u ≤ 150) (h3 : p ≤ 200) (h4 : q ≤ 200) :
    Cl w (k + 5) (.ref 194) [d, e] (.dec (norm ((norm (sc t p (max p q) + sc u q (max p q)) (max p q)).1 * 5) ((norm (sc t p (max p q) + sc u q (max p q)) (max p q)).2 + 1)).1 (norm ((norm (sc t p (max p q) + sc u q (max p q)) (max p q)).1 * 5) ((norm (sc t p (max p q) + sc u q (max p q)) (max p q)).2 + 1)).2) := by
  refine' Cl.intro (ps := [Str.ofString "one", Str.ofString "other"]) (ho := rfl) (hb := rfl) (hcd := by kernel_rfl) (hclo := rfl) (hg := rfl) (hbu := rfl) (hk := rfl) (hco := rfl) (hgen := rfl) (hbind := ?_) (hlen := rfl) (hps := by decide) (hn := rfl) (h := ?_)
  · intro vs h
    match vs, h with
    | [a, b], _ => rfl
  intro c o K
  dsimp only at K
  have hb : intBits (norm (sc t p (max p q) + sc u q (max p q)) (max p q)).1 ≤ 1000 :=
    norm_bits _ _ (bits_mono (intBits_add_le (bits_sc h1 (by omega)) (bits_sc h2 (by omega))) (by decide))
  have c1 := c_plus (w := c.w) (k := k) (t := t) (p := p) n2 (bits_mono h1 (by decide)) (bits_mono h2 (by decide)) h3 h4
  generalize norm (sc t p (max p q) + sc u q (max p q)) (max p q) = s at hb c1 ⊢
  refine' Ex.retD (evF o (K.gl (by decide)) gf_halved (Evs.one (evM o mf_plus (evF o (K.gl (by decide)) gf_decimal_of ?_ (c_decimal_of n1) rfl) ?_ c1) Evs.nil) (c_halved (.dec s.1 s.2) hb) rfl)
  all_goals (try (tb_start; done))
theorem c_sum_of {ds : List D} {ns : List (Int × Nat)} (N : Nums ds ns) : Cl w (k + 4) (.ref 201) [.lst ds] (.dec (norm (topsL ns).sum (mp ns ns.length)).1 (norm (topsL ns).sum (mp ns ns.length)).2) := by
  refine' Cl.intro (ps := [Str.ofString "values"]) (ho := rfl) (hb := rfl) (hcd := by kernel_rfl) (hclo := rfl) (hg := rfl) (hbu := rfl) (hk := rfl) (hco := rfl) (hgen := rfl) (hbind := ?_) (hlen := rfl) (hps := by decide) (hn := rfl) (h := ?_)
  · intro vs h
    match vs, h with
    | [a], _ => rfl
  intro c o K
  dsimp only at K
  refine' exUnpack (xs := [(Str.ofString "tops", _), (Str.ofString "places", _)]) o ?_ (evF o (K.gl (by decide)) gf_tops_of (by tb_start) (c_tops_of N) rfl) (.inl rfl) rfl ?_
  · intro x hx
    simp only [List.mem_cons, List.not_mem_nil, or_false] at hx
    rcases hx with rfl | rfl
    · exact K.st (by decide) (by decide)
    · exact K.st (by decide) (by decide)
  refine' Ex.retD (evF o (K.gl (by decide)) gf_Decimal (Evs.one (evB o (K.gl (by decide)) bf_sum ?_ Cl.sum rfl) (Evs.one ?_ Evs.nil)) (c_dec _ _) rfl)
  all_goals (try (tb_start; done))
theorem c_same_number {d e : D} {t u : Int} {p q : Nat} (n1 : Num d t p) (n2 : Num e u q) (h1 : intBits t ≤ 1000) (h2 : intBits u ≤ 1000) (h3 : p ≤ 200) (h4 : q ≤ 200) : Cl w (k + 5) (.ref 208) [d, e] (.bool (decide (cmpN (t, p) (u, q) = 0))) := by
  refine' Cl.intro (ps := [Str.ofString "one", Str.ofString "other"]) (ho := rfl) (hb := rfl) (hcd := by kernel_rfl) (hclo := rfl) (hg := rfl) (hbu := rfl) (hk := rfl) (hco := rfl) (hgen := rfl) (hbind := ?_) (hlen := rfl) (hps := by decide) (hn := rfl) (h := ?_)
  · intro vs h
    match vs, h with
    | [a, b], _ => rfl
  intro c o K
  dsimp only at K
  refine' Ex.retD (Ev.cmp (evM o mf_compared (evF o (K.gl (by decide)) gf_decimal_of ?_ (c_decimal_of n1) rfl) ?_ (c_compared n2 h1 h2 h3 h4)) Ev.int CmpOk.eq)
  all_goals (try (tb_start; done))
theorem c_ceiling {d : D} {t : Int} {p : Nat} (n : Num d t p) (h3 : p ≤ 200) : Cl w (k + 3) (.ref 236) [d] (.int (-((norm (-t) p).1.fdiv (10 ^ (norm (-t) p).2)))) := by
  refine' Cl.intro (ps := [Str.ofString "value"]) (ho := rfl) (hb := rfl) (hcd := by kernel_rfl) (hclo := rfl) (hg := rfl) (hbu := rfl) (hk := rfl) (hco := rfl) (hgen := rfl) (hbind := ?_) (hlen := rfl) (hps := by decide) (hn := rfl) (h := ?_)
  · intro vs h
    match vs, h with
    | [a], _ => rfl
  intro c o K
  dsimp only at K
  refine' Ex.retD (Ev.neg (evM0 o mf_floor (evM0 o mf_negated (evF o (K.gl (by decide)) gf_decimal_of ?_ (c_decimal_of n) rfl) c_negated) (c_floor ?_)))
  all_goals (try (tb_start; done))
  exact Nat.le_trans (norm_places _ _) h3
theorem c_absolute {d : D} {t : Int} {p : Nat} (n : Num d t p) : Cl w (k + 3) (.ref 243) [d] (if t < 0 then .dec (norm (-t) p).1 (norm (-t) p).2 else .dec t p) := by
  refine' Cl.intro (ps := [Str.ofString "value"]) (ho := rfl) (hb := rfl) (hcd := by kernel_rfl) (hclo := rfl) (hg := rfl) (hbu := rfl) (hk := rfl) (hco := rfl) (hgen := rfl) (hbind := ?_) (hlen := rfl) (hps := by decide) (hn := rfl) (h := ?_)
  · intro vs h
    match vs, h with
    | [a], _ => rfl
  intro c o K
  dsimp only at K
  refine' Ex.assignD o (K.st (by decide) (by decide)) (evF o (K.gl (by decide)) gf_decimal_of (by tb_start) (c_decimal_of n) rfl) ?_
  refine' Ex.retD (Ev.ifexpD ?_ ?_ ?_)
  rotate_left
  · tb_start
  · intro h; simp at h; rw [if_pos h]; refine' evM0 o mf_negated ?_ c_negated; tb_start
  · intro h; simp at h; rw [if_neg (by omega)]; tb_start

theorem c_least {ds : List D} {ns : List (Int × Nat)} (N : Nums ds ns) (h0 : 0 < ns.length) : Cl w (k + 5) (.ref 215) [.lst ds] (.dec (lowN ns (ns.length - 1)).1 (lowN ns (ns.length - 1)).2) := by
  refine' Cl.intro (ps := [Str.ofString "values"]) (ho := rfl) (hb := rfl) (hcd := by kernel_rfl) (hclo := rfl) (hg := rfl) (hbu := rfl) (hk := rfl) (hco := rfl) (hgen := rfl) (hbind := ?_) (hlen := rfl) (hps := by decide) (hn := rfl) (h := ?_)
  · intro vs h
    match vs, h with
    | [a], _ => rfl
  intro c o K
  dsimp only at K
  have sm := N.sm
  have ln := N.len
  refine' Ex.ifD (β := decide ((ds.length : Int) = 0)) (Tr.cmp (evB o (K.gl (by decide)) bf_len (by tb_start) (Cl.lenL (by omega)) rfl) Ev.int CmpOk.eq) ?_ ?_
  · intro h
    simp at h
    rw [h] at ln
    simp at ln
    omega
  intro _
  have e0 : ds[(0 : Int).toNat]? = some (ds.getD 0 .none) := by
    show ds[0]? = _
    rw [List.getD_eq_getElem?_getD, List.getElem?_eq_getElem (by omega)]; rfl
  have n0 := N.at' 0 h0
  refine' Ex.assignD (d := .dec (lowN ns 0).1 (lowN ns 0).2) o (K.st (by decide) (by decide)) (evF o (K.gl (by decide)) gf_decimal_of (Evs.one (evItemL o ?_ Ev.int (by decide) (by decide) e0) Evs.nil) (c_decimal_of n0) rfl) ?_
  · tb_start
  have ld : (ds.drop 1).length = ns.length - 1 := by rw [List.length_drop, ln]
  refine' Ex.for (n := (ds.drop 1).length) (Ψ := fun r => ∃ ρ', r = .next ρ' ∧ ρ' (Str.ofString "best") = some (.dec (lowN ns (ns.length - 1)).1 (lowN ns (ns.length - 1)).2)) o (by decide) (K.kd _ _ (by decide)) (Iter.list o (evDropL (a := 1) o ?_ Ev.int (by omega)))
    (fun i ρ' => ρ' (Str.ofString "best") = some (.dec (lowN ns i).1 (lowN ns i).2)) rfl ?_ (fun ρ' h => ⟨ρ', rfl, by rw [ld] at h; exact h⟩) ?_
  · tb_start
  · rintro c' i ρ' hi h1 o' l
    have K' := l.kd K
    rw [ld] at hi
    have ei : (ds.drop 1).getD i .none = ds.getD (i + 1) .none := by simp [List.getD_eq_getElem?_getD]
    have hn := N.at' (i + 1) (by omega)
    obtain ⟨j, hj, ej⟩ := lowN_mem (ns := ns) i
    have b1 : intBits (lowN ns i).1 ≤ 1000 := by rw [ej]; exact N.bt j (by omega)
    have b2 : (lowN ns i).2 ≤ 200 := by rw [ej]; exact N.bp j (by omega)
    have b3 := N.bt (i + 1) (by omega)
    have b4 := N.bp (i + 1) (by omega)
    rw [ei]
    refine' Ex.ifD (β := decide (0 < cmpN (lowN ns i) (nget ns (i + 1)))) (Tr.cmp (evM o' mf_compared ?_ ?_ (c_compared hn b1 b3 b2 b4)) Ev.int CmpOk.gt) ?_ ?_
    · tb_start
    · tb_start
    · intro h
      have h := of_decide_eq_true h
      refine' Ex.assignD (d := .dec (lowN ns (i + 1)).1 (lowN ns (i + 1)).2) o' (K'.st (by decide) (by decide)) ?_ ?_
      · rw [lowN, if_pos h]
        exact evF o' (K'.gl (by decide)) gf_decimal_of (by tb_start) (c_decimal_of hn) rfl
      · exact Ex.nil upd_same
    · intro h
      have h := of_decide_eq_false h
      refine Ex.nil ?_
      show upd ρ' _ _ (Str.ofString "best") = _
      rw [upd_ne (by decide), lowN, if_neg h]
      exact h1
  rintro ρ' ⟨ρ'', e, h1⟩
  cases e
  refine' Ex.retD ?_
  tb_start
theorem c_greatest {ds : List D} {ns : List (Int × Nat)} (N : Nums ds ns) (h0 : 0 < ns.length) : Cl w (k + 5) (.ref 222) [.lst ds] (.dec (topN ns (ns.length - 1)).1 (topN ns (ns.length - 1)).2) := by
  refine' Cl.intro (ps := [Str.ofString "values"]) (ho := rfl) (hb := rfl) (hcd := by kernel_rfl) (hclo := rfl) (hg := rfl) (hbu := rfl) (hk := rfl) (hco := rfl) (hgen := rfl) (hbind := ?_) (hlen := rfl) (hps := by decide) (hn := rfl) (h := ?_)
  · intro vs h
    match vs, h with
    | [a], _ => rfl
  intro c o K
  dsimp only at K
  have sm := N.sm
  have ln := N.len
  refine' Ex.ifD (β := decide ((ds.length : Int) = 0)) (Tr.cmp (evB o (K.gl (by decide)) bf_len (by tb_start) (Cl.lenL (by omega)) rfl) Ev.int CmpOk.eq) ?_ ?_
  · intro h
    simp at h
    rw [h] at ln
    simp at ln
    omega
  intro _
  have e0 : ds[(0 : Int).toNat]? = some (ds.getD 0 .none) := by
    show ds[0]? = _
    rw [List.getD_eq_getElem?_getD, List.getElem?_eq_getElem (by omega)]; rfl
  have n0 := N.at' 0 h0
  refine' Ex.assignD (d := .dec (topN ns 0).1 (topN ns 0).2) o (K.st (by decide) (by decide)) (evF o (K.gl (by decide)) gf_decimal_of (Evs.one (evItemL o ?_ Ev.int (by decide) (by decide) e0) Evs.nil) (c_decimal_of n0) rfl) ?_
  · tb_start
  have ld : (ds.drop 1).length = ns.length - 1 := by rw [List.length_drop, ln]
  refine' Ex.for (n := (ds.drop 1).length) (Ψ := fun r => ∃ ρ', r = .next ρ' ∧ ρ' (Str.ofString "best") = some (.dec (topN ns (ns.length - 1)).1 (topN ns (ns.length - 1)).2)) o (by decide) (K.kd _ _ (by decide)) (Iter.list o (evDropL (a := 1) o ?_ Ev.int (by omega)))
    (fun i ρ' => ρ' (Str.ofString "best") = some (.dec (topN ns i).1 (topN ns i).2)) rfl ?_ (fun ρ' h => ⟨ρ', rfl, by rw [ld] at h; exact h⟩) ?_
  · tb_start
  · rintro c' i ρ' hi h1 o' l
    have K' := l.kd K
    rw [ld] at hi
    have ei : (ds.drop 1).getD i .none = ds.getD (i + 1) .none := by simp [List.getD_eq_getElem?_getD]
    have hn := N.at' (i + 1) (by omega)
    obtain ⟨j, hj, ej⟩ := topN_mem (ns := ns) i
    have b1 : intBits (topN ns i).1 ≤ 1000 := by rw [ej]; exact N.bt j (by omega)
    have b2 : (topN ns i).2 ≤ 200 := by rw [ej]; exact N.bp j (by omega)
    have b3 := N.bt (i + 1) (by omega)
    have b4 := N.bp (i + 1) (by omega)
    rw [ei]
    refine' Ex.ifD (β := decide (cmpN (topN ns i) (nget ns (i + 1)) < 0)) (Tr.cmp (evM o' mf_compared ?_ ?_ (c_compared hn b1 b3 b2 b4)) Ev.int CmpOk.lt) ?_ ?_
    · tb_start
    · tb_start
    · intro h
      have h := of_decide_eq_true h
      refine' Ex.assignD (d := .dec (topN ns (i + 1)).1 (topN ns (i + 1)).2) o' (K'.st (by decide) (by decide)) ?_ ?_
      · rw [topN, if_pos h]
        exact evF o' (K'.gl (by decide)) gf_decimal_of (by tb_start) (c_decimal_of hn) rfl
      · exact Ex.nil upd_same
    · intro h
      have h := of_decide_eq_false h
      refine Ex.nil ?_
      show upd ρ' _ _ (Str.ofString "best") = _
      rw [upd_ne (by decide), topN, if_neg h]
      exact h1
  rintro ρ' ⟨ρ'', e, h1⟩
  cases e
  refine' Ex.retD ?_
  tb_start
theorem c_clamped {d e f : D} {a b c' : Int × Nat} (n1 : Num d a.1 a.2) (n2 : Num e b.1 b.2) (n3 : Num f c'.1 c'.2) (h : ∀ x ∈ [a, b, c'], intBits x.1 ≤ 1000 ∧ x.2 ≤ 200) (hc : ¬ 0 < cmpN b c') :
    Cl w (k + 6) (.ref 229) [d, e, f] (.dec (lowN [topN [a, b] 1, c'] 1).1 (lowN [topN [a, b] 1, c'] 1).2) := by
  refine' Cl.intro (ps := [Str.ofString "value", Str.ofString "low", Str.ofString "high"]) (ho := rfl) (hb := rfl) (hcd := by kernel_rfl) (hclo := rfl) (hg := rfl) (hbu := rfl) (hk := rfl) (hco := rfl) (hgen := rfl) (hbind := ?_) (hlen := rfl) (hps := by decide) (hn := rfl) (h := ?_)
  · intro vs h
    match vs, h with
    | [a, b, c], _ => rfl
  intro c o K
  dsimp only at K
  have ha := h a (by simp)
  have hb := h b (by simp)
  have hc2 := h c' (by simp)
  refine' Ex.ifD (β := decide (0 < cmpN b c')) (Tr.cmp (evM o mf_compared (evF o (K.gl (by decide)) gf_decimal_of ?_ (c_decimal_of n2) rfl) ?_ (c_compared n3 hb.1 hc2.1 hb.2 hc2.2)) Ev.int CmpOk.gt) ?_ ?_
  · tb_start
  · tb_start
  · intro h; exact absurd (of_decide_eq_true h) hc
  intro _
  have N1 : Nums [d, e] [a, b] := ⟨rfl, fun i hi => by
    match i, hi with
    | 0, _ => exact n1
    | 1, _ => exact n2, fun i hi => by
    match i, hi with
    | 0, _ => exact ha.1
    | 1, _ => exact hb.1, fun i hi => by
    match i, hi with
    | 0, _ => exact ha.2
    | 1, _ => exact hb.2, by simp⟩
  obtain ⟨j, hj, ej⟩ := topN_mem (ns := [a, b]) 1
  have b1 : intBits (topN [a, b] 1).1 ≤ 1000 := by rw [ej]; exact N1.bt j (by simp; omega)
  have b2 : (topN [a, b] 1).2 ≤ 200 := by rw [ej]; exact N1.bp j (by simp; omega)
  have c1 := c_greatest (w := c.w) (k := k) N1 (by simp)
  show Ex c _ _ _
  simp only [List.length_cons, List.length_nil] at c1
  generalize hT : topN [a, b] 1 = T at *
  have N2 : Nums [.dec T.1 T.2, f] [T, c'] := ⟨rfl, fun i hi => by
    match i, hi with
    | 0, _ => exact .dec T.1 T.2
    | 1, _ => exact n3, fun i hi => by
    match i, hi with
    | 0, _ => exact b1
    | 1, _ => exact hc2.1, fun i hi => by
    match i, hi with
    | 0, _ => exact b2
    | 1, _ => exact hc2.2, by simp⟩
  have c2 := c_least (w := c.w) (k := k) N2 (by simp)
  simp only [List.length_cons, List.length_nil] at c2
  refine' Ex.retD (evF o (K.gl (by decide)) gf_least (Evs.one (evList o (Evs.one (evF o (K.gl (by decide)) gf_greatest (Evs.one (evList o ?_ ?_) Evs.nil) ?_ rfl) (Evs.one ?_ Evs.nil)) ?_) Evs.nil) c2 rfl)
  all_goals (try (tb_start; done))
  · simp
  · exact c1
  · simp
end
end
-- part F8
section
open Builtin.Int
theorem dg_rev : ∀ (i n : Nat), i < (dg n).length → (dg n).reverse[i]? = some (48 + n / 10 ^ i % 10) := by
  intro i
  induction i with
  | zero =>
    intro n _
    obtain ⟨l, e⟩ := dg_last n
    rw [e]; simp
  | succ i ih =>
    intro n hi
    rcases dg_parts n with ⟨h, e⟩ | ⟨h, e⟩
    · rw [e] at hi; simp at hi
    · rw [e] at hi ⊢
      rw [List.reverse_append]
      simp only [List.reverse_cons, List.reverse_nil, List.nil_append, List.singleton_append, List.getElem?_cons_succ]
      rw [ih (n / 10) (by simpa using hi), Nat.pow_succ, Nat.div_div_eq_div_mul, Nat.mul_comm 10]
theorem signs_ofL (l : List Nat) (i : Nat) : signs (ofL l) i = .str (ofL [l.getD i 0]) := by
  unfold signs ofL
  simp [Array.getD_eq_getD_getElem?, List.getD_eq_getElem?_getD]
theorem ascii_dg (n : Nat) : (ofL (dg n).reverse).cps.all (· < 128) = true := by
  unfold ofL
  simp only [List.all_toArray, List.all_eq_true]
  intro x hx
  have := (dg_mem (List.mem_reverse.mp hx)).2
  simp; omega
theorem ofL_ne {a b : Nat} : (ofL [a] != ofL [b]) = !decide (a = b) := by
  by_cases h : a = b
  · subst h; simp
  · have : ofL [a] ≠ ofL [b] := fun e => h (by have := ofL_inj e; simpa using this)
    rw [bne_iff_ne.mpr this, decide_eq_false h]; rfl
theorem iterRev {c : Cx} {ρ : Rho} {k : Nat} {iter : PySem.Expr} {l : List Nat} (o : c.Ok k) (ha : (ofL l.reverse).cps.all (· < 128) = true) (h : Ev c ρ iter (is (.str (ofL l.reverse)))) : Iter c ρ iter l.length (signs (ofL l.reverse)) := by
  have ln : (ofL l.reverse).cps.size = l.length := by simp [ofL]
  have := Iter.str o ha h
  rw [ln] at this
  exact this
section
variable {w : World} {k : Nat}
abbrev nrmD (W : Int) (S : Nat) : D := .tup [.int (norm W S).1, .int (norm W S).2]
theorem c_law_told {W : Int} {S : Nat} (hW : intBits W ≤ 1900) (hS : S ≤ 200) : Cl w (k + 1) (.ref 269) [.int W, .int S] (nrmD W S) := by
  refine' Cl.intro (ps := [Str.ofString "worth", Str.ofString "scale"]) (ho := rfl) (hb := rfl) (hcd := by kernel_rfl) (hclo := rfl) (hg := rfl) (hbu := rfl) (hk := rfl) (hco := rfl) (hgen := rfl) (hbind := ?_) (hlen := rfl) (hps := by decide) (hn := rfl) (h := ?_)
  · intro vs h
    match vs, h with
    | [a, b], _ => rfl
  intro c o K
  dsimp only at K
  have hl := dg_bits (m := 1900) (by decide) hW
  refine' Ex.ifD ?_ ?_ ?_
  rotate_left
  · tb_start
  · intro h
    simp at h
    subst h
    have e : ∀ S, norm 0 S = (0, 0) := fun S => by
      induction S with
      | zero => rfl
      | succ S ih => rw [norm, if_pos (by decide)]; exact ih
    unfold nrmD
    rw [e]
    refine' Ex.retD (evTup o ?_ ?_)
    · tb_start
    · simp
  intro h
  simp at h
  refine' Ex.assignD (d := .str (ofL (dg W.natAbs))) o (K.st (by decide) (by decide)) (evStrN o (K.gl (by decide)) (evAbs (names := []) o (K.gl (by decide)) (by tb_start)) ?_) ?_
  · exact bits_mono (intBits_natAbs_le hW) (by decide)
  refine' Ex.assignD (d := .int S) o (K.st (by decide) (by decide)) (by tb_start) ?_
  refine' Ex.for (n := (dg W.natAbs).length) (items := signs (ofL (dg W.natAbs).reverse)) (Ψ := fun r => ∃ ρ' q i p, r = .next ρ' ∧ ρ' (Str.ofString "worth") = some (.int W) ∧ ρ' (Str.ofString "scale") = some (.int S) ∧ ρ' (Str.ofString "places") = some (.int (p : Nat)) ∧ p + i = S ∧ W = q * 10 ^ i ∧ norm W S = (q, p)) o (by decide) (K.kd _ _ (by decide)) ?_
    (fun i ρ' => ρ' (Str.ofString "worth") = some (.int W) ∧ ρ' (Str.ofString "scale") = some (.int S) ∧ ∃ q p, ρ' (Str.ofString "places") = some (.int (p : Nat)) ∧ p + i = S ∧ W = q * 10 ^ i ∧ norm W S = norm q p) ⟨rfl, rfl, W, S, rfl, rfl, by simp, rfl⟩ ?_ ?_ ?_
  · refine' iterRev o (ascii_dg W.natAbs) (evRev o ?_ (Ev.neg Ev.int) (by omega))
    tb_start
  · rintro c' i ρ' hi ⟨h1, h2, q, p, h3, h4, h5, h6⟩ o' l
    have K' := l.kd K
    have hd := dg_rev i W.natAbs hi
    have hd2 : ((dg W.natAbs).reverse).getD i 0 = 48 + W.natAbs / 10 ^ i % 10 := by rw [List.getD_eq_getElem?_getD, hd]; rfl
    have hq : W.natAbs / 10 ^ i = q.natAbs := by
      rw [h5, Int.natAbs_mul, Int.natAbs_pow]
      exact Nat.mul_div_cancel _ (Nat.pow_pos (by decide))
    rw [hq] at hd2
    rw [signs_ofL, hd2]
    refine' Ex.ifD (β := !decide (48 + q.natAbs % 10 = 48) || (decide ((p : Int) = 0) || false)) (Tr.or (Tr.is_of (Tr.cmp ?_ (Ev.is_of (b := .str (ofL [48])) Ev.str rfl) CmpOk.neS) ofL_ne) fun _ => Tr.or (Tr.cmp ?_ Ev.int CmpOk.eq) fun _ => Tr.or_nil) ?_ ?_
    · tb_start
    · tb_start
    · intro hb
      refine Ex.brk ?_
      simp at hb
      refine ⟨_, q, i, p, rfl, by rw [upd_ne (by decide)]; exact h1, by rw [upd_ne (by decide)]; exact h2, by rw [upd_ne (by decide)]; exact h3, h4, h5, ?_⟩
      rw [h6]
      cases p with
      | zero => rfl
      | succ p =>
        rw [norm, if_neg]
        intro hf
        have : (q.natAbs % 10 : Nat) ≠ 0 := by rcases hb with hb | hb <;> omega
        rw [Int.fmod_eq_emod_of_nonneg _ (by decide)] at hf
        omega
    · intro hb
      simp at hb
      obtain ⟨hb1, hb2⟩ := hb
      cases p with
      | zero => exact absurd rfl hb2
      | succ p =>
        refine' Ex.assignD (d := .int (p : Nat)) o' (K'.st (by decide) (by decide)) (Ev.is_of (Ev.sub ?_ Ev.int) ?_) ?_
        all_goals (try (tb_start; done))
        · congr 1; omega
        refine Ex.nil ⟨?_, ?_, q.fdiv 10, p, upd_same, by omega, ?_, ?_⟩
        · rw [upd_ne (by decide), upd_ne (by decide)]; exact h1
        · rw [upd_ne (by decide), upd_ne (by decide)]; exact h2
        · rw [Int.fdiv_eq_ediv_of_nonneg _ (by decide), Int.pow_succ, Int.mul_comm (10 ^ i), ← Int.mul_assoc, h5]
          congr 1
          omega
        · rw [h6, norm, if_pos]
          rw [Int.fmod_eq_emod_of_nonneg _ (by decide)]
          omega
  · rintro ρ' ⟨h1, h2, q, p, h3, h4, h5, h6⟩
    exfalso
    have hlt : W.natAbs < 10 ^ (dg W.natAbs).length := by
      refine Nat.lt_of_not_le fun hle => ?_
      have := dg_len_ge hle
      omega
    have hq : q ≠ 0 := by rintro rfl; simp at h5; exact h h5
    have : 10 ^ (dg W.natAbs).length ≤ W.natAbs := by
      conv => rhs; rw [h5]
      rw [Int.natAbs_mul, Int.natAbs_pow]
      exact Nat.le_mul_of_pos_left _ (by omega)
    omega
  · rintro ρ' ⟨ρ'', q, i, p, e, h1, h2, h3, h4, h5, h6⟩
    cases e
    unfold nrmD
    rw [h6]
    have hi : 10 ^ i ≠ (0 : Int) := Int.ne_of_gt (Int.pow_pos (by decide))
    refine' Ex.retD (evTup o (Evs.one (Ev.is_of (b := .int q) (Ev.floordiv ?_ (evPow10 (n := i) Ev.int (Ev.sub ?_ ?_) ?_ ?_) ?_ ?_) ?_) (Evs.one ?_ Evs.nil)) ?_)
    all_goals (try (tb_start; done))
    · omega
    · omega
    · exact hi
    · exact bits_mono (bits_pow10 i) (by omega)
    · rw [h5, Int.mul_fdiv_cancel _ hi]
    · simp
end
end
-- part F9
section
open Builtin.Int
def stripZ (l : List Nat) : List Nat := (l.reverse.dropWhile (· == 48)).reverse
theorem stripZ_nil : stripZ [] = [] := rfl
theorem stripZ_zero (l : List Nat) : stripZ (l ++ [48]) = stripZ l := by
  unfold stripZ; rw [List.reverse_append]; simp
theorem stripZ_other (l : List Nat) {y : Nat} (h : y ≠ 48) : stripZ (l ++ [y]) = l ++ [y] := by
  unfold stripZ; rw [List.reverse_append]; simp [h]
def ltext (W : Int) (S : Nat) (b : Bool) : List Nat :=
  let H := headL S (padL S (dg W.natAbs))
  let R := stripZ (tailL S (padL S (dg W.natAbs)))
  sgL W ++ (if b = true ∧ H = [48] ∧ R ≠ [] then [] else H) ++ (if R ≠ [] then 46 :: R else [])
def lround (W u : Int) : Int :=
  let s := if u ≤ 2 * ((W.natAbs : Nat) : Int).fmod u then ((W.natAbs : Nat) : Int).fdiv u + 1 else ((W.natAbs : Nat) : Int).fdiv u
  if 0 ≤ W then s * u else -s * u
theorem ofL_beq {a b : List Nat} : (ofL a == ofL b) = decide (a = b) := by
  by_cases h : a = b
  · subst h; simp
  · have : ofL a ≠ ofL b := fun e => h (ofL_inj e)
    rw [beq_eq_false_iff_ne.mpr this, decide_eq_false h]
theorem ofL_bne {a b : List Nat} : (ofL a != ofL b) = !decide (a = b) := by
  rw [bne, ofL_beq]
theorem snoc_of_ne {l : List Nat} (h : l ≠ []) : ∃ x y, l = x ++ [y] := ⟨l.dropLast, l.getLast h, (List.dropLast_concat_getLast h).symm⟩
section
variable {w : World} {k : Nat}
theorem c_law_text {W : Int} {S : Nat} {b : Bool} (hW : intBits W ≤ 1900) (hS : S ≤ 200) (hS0 : 0 < S) : Cl w (k + 1) (.ref 276) [.int W, .int S, .bool b] (.str (ofL (ltext W S b))) := by
  refine' Cl.intro (ps := [Str.ofString "worth", Str.ofString "scale", Str.ofString "is_least"]) (ho := rfl) (hb := rfl) (hcd := by kernel_rfl) (hclo := rfl) (hg := rfl) (hbu := rfl) (hk := rfl) (hco := rfl) (hgen := rfl) (hbind := ?_) (hlen := rfl) (hps := by decide) (hn := rfl) (h := ?_)
  · intro vs h
    match vs, h with
    | [a, b, c], _ => rfl
  intro c o K
  dsimp only at K
  have hl := dg_bits (m := 1900) (by decide) hW
  have hL := padL_len S (dg W.natAbs)
  refine' Ex.assignD (d := .str (ofL (dg W.natAbs))) o (K.st (by decide) (by decide)) (evStrN o (K.gl (by decide)) (evAbs (names := []) o (K.gl (by decide)) (by tb_start)) ?_) ?_
  · exact bits_mono (intBits_natAbs_le hW) (by decide)
  refine' Ex.assignD (d := .str (ofL (padL S (dg W.natAbs)))) o (K.st (by decide) (by decide)) ?_ ?_
  · refine' evPad (Ev.sub (Ev.add ?_ ?_) (evLenS o (K.gl (by decide)) ?_ ?_)) ?_ ?_ ?_ ?_
    all_goals (try (tb_start; done))
    all_goals omega
  unfold ltext
  generalize hg : padL S (dg W.natAbs) = L at hL ⊢
  refine' Ex.assignD (d := .str (ofL (headL S L))) o (K.st (by decide) (by decide)) (evTakeNeg (i := -(S : Int)) (m := L.length - S) (x := L) o ?_ ?_ ?_ ?_ ?_) ?_
  all_goals (try (tb_start; done))
  all_goals (try omega)
  refine' Ex.assignD (d := .str (ofL (tailL S L))) o (K.st (by decide) (by decide)) (evDrop (i := -(S : Int)) (m := L.length - S) (x := L) o ?_ ?_ ?_ ?_ ?_) ?_
  all_goals (try (tb_start; done))
  all_goals (try omega)
  have lh : (headL S L).length ≤ 2000 := by unfold headL; rw [List.length_take]; omega
  have lt : (tailL S L).length ≤ 2000 := by unfold tailL; rw [List.length_drop]; omega
  generalize headL S L = H at lh ⊢
  generalize tailL S L = T at lt ⊢
  dsimp only
  refine' Ex.while (Ψ := fun r => ∃ ρ', r = .next ρ' ∧ ρ' (Str.ofString "worth") = some (.int W) ∧ ρ' (Str.ofString "is_least") = some (.bool b) ∧ ρ' (Str.ofString "whole") = some (.str (ofL H)) ∧ ρ' (Str.ofString "rest") = some (.str (ofL (stripZ T))) ∧ (stripZ T).length ≤ 2000)
    (fun n ρ' => ρ' (Str.ofString "worth") = some (.int W) ∧ ρ' (Str.ofString "is_least") = some (.bool b) ∧ ρ' (Str.ofString "whole") = some (.str (ofL H)) ∧ ∃ l, ρ' (Str.ofString "rest") = some (.str (ofL l)) ∧ l.length = n ∧ n ≤ 2000 ∧ stripZ l = stripZ T) T.length ⟨rfl, rfl, rfl, T, rfl, rfl, lt, rfl⟩ ?_ ?_
  · rintro n ρ' ⟨h1, h2, h3, l, h4, h5, h6, h7⟩
    by_cases hn : l = []
    · subst hn
      refine ⟨false, Tr.is_of (Tr.and (β := false) (γ := true) (Tr.is_of (Tr.cmp (by tb_start) (Ev.is_of (b := .str (ofL [])) Ev.str rfl) CmpOk.neS) ofL_bne) (fun h => by cases h)) rfl, (fun h => by cases h), fun _ => ⟨ρ', rfl, h1, h2, h3, ?_, ?_⟩⟩
      · rw [← h7, stripZ_nil]; exact h4
      · rw [← h7, stripZ_nil]; simp
    · obtain ⟨x, y, rfl⟩ := snoc_of_ne hn
      have hx : x.length + 1 = n := by rw [← h5]; simp
      refine ⟨decide (y = 48), Tr.is_of (Tr.and (β := true) (γ := decide (y = 48) && true) (Tr.is_of (Tr.cmp (a := .str (ofL (x ++ [y]))) (by tb_start) (Ev.is_of (b := .str (ofL [])) Ev.str rfl) CmpOk.neS) (by rw [ofL_bne]; simp)) (fun _ => Tr.and (Tr.is_of (Tr.cmp (evLastS (x := x) (y := y) o ?_ (Ev.neg Ev.int) ?_) (Ev.is_of (b := .str (ofL [48])) Ev.str rfl) CmpOk.eqS) (by rw [ofL_beq]; simp)) fun _ => Tr.and_nil)) (by simp), ?_, ?_⟩
      · tb_start
      · omega
      · intro hy
        have hy := of_decide_eq_true hy
        subst hy
        refine' Ex.assignD (d := .str (ofL x)) o (K.st (by decide) (by decide)) (Ev.is_of (evTakeNeg (i := -1) (m := x.length) (x := x ++ [48]) o ?_ (Ev.neg Ev.int) ?_ ?_ ?_) ?_) ?_
        · tb_start
        · decide
        · simp; omega
        · simp; omega
        · simp
        refine Ex.nil ⟨x.length, by omega, ?_, ?_, ?_, x, upd_same, rfl, by omega, ?_⟩
        · rw [upd_ne (by decide)]; exact h1
        · rw [upd_ne (by decide)]; exact h2
        · rw [upd_ne (by decide)]; exact h3
        · rw [← h7, stripZ_zero]
      · intro hy
        have hy := of_decide_eq_false hy
        refine ⟨ρ', rfl, h1, h2, h3, ?_, ?_⟩
        · rw [← h7, stripZ_other _ hy]; exact h4
        · rw [← h7, stripZ_other _ hy]; omega
  rintro ρ' ⟨ρ'', e, h1, h2, h3, h4, h5⟩
  cases e
  generalize stripZ T = R at h4 h5 ⊢
  have fin : ∀ (ρ'' : Rho) (H' : List Nat), H'.length ≤ 2000 → ρ'' (Str.ofString "worth") = some (.int W) → ρ'' (Str.ofString "whole") = some (.str (ofL H')) → ρ'' (Str.ofString "rest") = some (.str (ofL R)) →
      ∀ {p1 p2 p3 p4 p5 p6 p7 p8 p9 pa pb pc pd pe pf pg ph : Pos} {n1 n2 n3 n4 n5 n6 : Nat}, Ev c ρ'' (.BinOp (.BinOp (.IfExp (.Compare (.Name (Str.ofString "worth") p1) [.Lt] [.Constant (.int 0) n1 p2] p3) (.Constant (.str (Str.ofString "-")) n2 p4) (.Constant (.str (Str.ofString "")) n3 p5) p6) .Add (.Name (Str.ofString "whole") p7) p8) .Add
        (.IfExp (.Compare (.Name (Str.ofString "rest") p9) [.NotEq] [.Constant (.str (Str.ofString "")) n4 pa] pb) (.BinOp (.Constant (.str (Str.ofString ".")) n5 pc) .Add (.Name (Str.ofString "rest") pd) pe) (.Constant (.str (Str.ofString "")) n6 pf) pg) ph) (is (.str (ofL (sgL W ++ H' ++ (if R ≠ [] then 46 :: R else []))))) := by
    intro ρ'' H' hH g1 g2 g3 p1 p2 p3 p4 p5 p6 p7 p8 p9 pa pb pc pd pe pf pg ph n1 n2 n3 n4 n5 n6
    have ls : (sgL W).length ≤ 1 := by unfold sgL; split <;> simp
    have lr : (if R ≠ [] then 46 :: R else []).length ≤ 2001 := by split <;> simp <;> omega
    refine' evAddL (evAddL (Ev.ifexpD (β := decide (W < 0)) ?_ ?_ ?_) ?_ ?_) (Ev.ifexpD (β := !decide (R = [])) (Tr.is_of (Tr.cmp ?_ (Ev.is_of (b := .str (ofL [])) Ev.str rfl) CmpOk.neS) ofL_bne) ?_ ?_) ?_
    all_goals (try (tb_start; done))
    · intro h; have h := of_decide_eq_true h; exact Ev.is_of Ev.str (by rw [sgL, if_pos h]; rfl)
    · intro h; have h := of_decide_eq_false h; exact Ev.is_of Ev.str (by rw [sgL, if_neg h]; rfl)
    · omega
    · intro h
      have h : R ≠ [] := by simpa using h
      rw [if_pos h]
      exact evAddL (x := [46]) (Ev.is_of Ev.str rfl) (by tb_start) (by simp; omega)
    · intro h
      have h : R = [] := by simpa using h
      rw [if_neg (by simpa using h)]
      exact Ev.is_of Ev.str rfl
    · simp only [List.length_append]; omega
  refine' Ex.ifD (β := b && (decide (H = [48]) && (!decide (R = []) && true))) (Tr.and (Tr.value ?_) fun _ => Tr.and (Tr.is_of (Tr.cmp ?_ (Ev.is_of (b := .str (ofL [48])) Ev.str rfl) CmpOk.eqS) ofL_beq) fun _ => Tr.and (Tr.is_of (Tr.cmp ?_ (Ev.is_of (b := .str (ofL [])) Ev.str rfl) CmpOk.neS) ofL_bne) fun _ => Tr.and_nil) ?_ ?_
  · tb_start
  · tb_start
  · tb_start
  · intro h
    simp at h
    rw [if_pos ⟨h.1, h.2.1, h.2.2⟩]
    refine' Ex.assignD (d := .str (ofL [])) o (K.st (by decide) (by decide)) (Ev.is_of Ev.str rfl) ?_
    refine' Ex.retD (fin _ [] (by simp) ?_ upd_same ?_)
    · rw [upd_ne (by decide)]; exact h1
    · rw [upd_ne (by decide)]; exact h4
  · intro h
    have h' : ¬ (b = true ∧ H = [48] ∧ R ≠ []) := by
      rintro ⟨a1, a2, a3⟩
      simp [a1, a2, a3] at h
    rw [if_neg h']
    exact Ex.retD (fin _ H lh h1 h3 h4)
theorem c_law_rounded {W : Int} {S q : Nat} (hW : intBits W ≤ 1000) (hS : S ≤ 200) (hq : q ≤ S) : Cl w (k + 2) (.ref 283) [.int W, .int S, .int q] (nrmD (lround W (10 ^ (S - q))) S) := by
  refine' Cl.intro (ps := [Str.ofString "worth", Str.ofString "scale", Str.ofString "places"]) (ho := rfl) (hb := rfl) (hcd := by kernel_rfl) (hclo := rfl) (hg := rfl) (hbu := rfl) (hk := rfl) (hco := rfl) (hgen := rfl) (hbind := ?_) (hlen := rfl) (hps := by decide) (hn := rfl) (h := ?_)
  · intro vs h
    match vs, h with
    | [a, b, c], _ => rfl
  intro c o K
  dsimp only at K
  have b1 := bits_mono (bits_pow10 (S - q)) (show 4 * (S - q) + 1 ≤ 801 by omega)
  have n1 : (10 : Int) ^ (S - q) ≠ 0 := Int.ne_of_gt (Int.pow_pos (by decide))
  have b2 := intBits_natAbs_le hW
  have b3 : intBits (((W.natAbs : Nat) : Int).fmod (10 ^ (S - q))) ≤ 1000 := bits_mono (intBits_fmod_le b2 b1) (by decide)
  have b4 : intBits (((W.natAbs : Nat) : Int).fdiv (10 ^ (S - q))) ≤ 1000 := intBits_fdiv_le b2
  have b5 : intBits (((W.natAbs : Nat) : Int).fdiv (10 ^ (S - q)) + 1) ≤ 1001 := bits_mono (intBits_add_le b4 (bits_lit (m := 1) (by decide))) (by decide)
  refine' Ex.assignD o (K.st (by decide) (by decide)) (evPow10 (n := S - q) Ev.int (Ev.sub ?_ ?_) ?_ ?_) ?_
  all_goals (try (tb_start; done))
  · omega
  · omega
  generalize hu : (10 : Int) ^ (S - q) = u at *
  refine' Ex.assignD o (K.st (by decide) (by decide)) (Ev.floordiv (evAbs (names := []) o (K.gl (by decide)) (by tb_start)) (by tb_start) n1 (bits_mono b1 (by decide))) ?_
  refine' Ex.ifD (β := decide (u ≤ 2 * ((W.natAbs : Nat) : Int).fmod u)) (Tr.cmp (Ev.mul Ev.int (Ev.mod (evAbs (names := []) o (K.gl (by decide)) (by tb_start)) (by tb_start) n1) ?_) (by tb_start) CmpOk.ge) ?_ ?_
  · exact IntMulOk.of_le (bits_lit (m := 2) (by decide)) b3 (by decide)
  · intro h
    have h := of_decide_eq_true h
    have e : lround W u = if 0 ≤ W then (((W.natAbs : Nat) : Int).fdiv u + 1) * u else -(((W.natAbs : Nat) : Int).fdiv u + 1) * u := by unfold lround; rw [if_pos h]
    rw [e]
    generalize ((W.natAbs : Nat) : Int).fdiv u = z at *
    refine' Ex.assignD o (K.st (by decide) (by decide)) (Ev.add (by tb_start) Ev.int) ?_
    have b6 : intBits (if 0 ≤ W then (z + 1) * u else -(z + 1) * u) ≤ 1900 := by
      split
      · exact bits_mono (intBits_mul_le b5 b1) (by decide)
      · exact bits_mono (intBits_mul_le (intBits_neg_le b5) b1) (by decide)
    refine' Ex.retD (evF o (K.gl (by decide)) gf_law_told (Evs.one (Ev.ifexpD (β := decide (0 ≤ W)) ?_ ?_ ?_) (Evs.one ?_ Evs.nil)) (c_law_told b6 hS) rfl)
    all_goals (try (tb_start; done))
    · intro h; have h := of_decide_eq_true h; rw [if_pos h]
      refine' Ev.mul ?_ ?_ (IntMulOk.of_le b5 b1 (by decide))
      all_goals tb_start
    · intro h; have h := of_decide_eq_false h; rw [if_neg h]
      refine' Ev.mul ?_ ?_ (IntMulOk.of_le (intBits_neg_le b5) b1 (by decide))
      all_goals tb_start
  · intro h
    have h := of_decide_eq_false h
    have e : lround W u = if 0 ≤ W then (((W.natAbs : Nat) : Int).fdiv u) * u else -(((W.natAbs : Nat) : Int).fdiv u) * u := by unfold lround; rw [if_neg h]
    rw [e]
    generalize ((W.natAbs : Nat) : Int).fdiv u = z at *
    have b6 : intBits (if 0 ≤ W then z * u else -z * u) ≤ 1900 := by
      split
      · exact bits_mono (intBits_mul_le b4 b1) (by decide)
      · exact bits_mono (intBits_mul_le (intBits_neg_le b4) b1) (by decide)
    refine' Ex.retD (evF o (K.gl (by decide)) gf_law_told (Evs.one (Ev.ifexpD (β := decide (0 ≤ W)) ?_ ?_ ?_) (Evs.one ?_ Evs.nil)) (c_law_told b6 hS) rfl)
    all_goals (try (tb_start; done))
    · intro h; have h := of_decide_eq_true h; rw [if_pos h]
      refine' Ev.mul ?_ ?_ (IntMulOk.of_le b4 b1 (by decide))
      all_goals tb_start
    · intro h; have h := of_decide_eq_false h; rw [if_neg h]
      refine' Ev.mul ?_ ?_ (IntMulOk.of_le (intBits_neg_le b4) b1 (by decide))
      all_goals tb_start
end
end
-- part X1
section
theorem codeAny_call_cellsB {prog : Program} {w : World} {A : Around} {s : Shared} {R : Result → Shared → Prop} {a : Addr} {o : Obj} {fd : FuncData} {body : List Stmt} {vals : List Value} {binds : List (Str × Value)}
    (hroom : A.depth < recursionLimit) (ho : s.heap.get? a = some o) (hdata : o.data = .func fd) (hlim : s.heap.NoLimit) (hcd : s.heap.CodeRec fd.code fd.qualname)
    (hbody : fd.body = .stmts body) (hbind : BindsTo s fd ⟨vals, []⟩ binds) (hclo : fd.closure = [])
    (hkind : ∀ x ∈ binds, fd.scope.names.lookup x.1 = some .local ∨ (fd.scope.names.lookup x.1 = some .cell ∧ ((cellsFrom (s.heap.objs.size + 1) fd.scope.names []).lookup x.1).isSome = true))
    (h : ∀ s₁, InCallC s (callEnvC fd s.heap.objs.size a).locals (bindL (callEnvC fd s.heap.objs.size a).kindOf binds fun _ => none) (callEnvC fd s.heap.objs.size a).cells
        (bindC (callEnvC fd s.heap.objs.size a).kindOf binds fun _ => none) s₁ →
      wpAny (model prog w) (A.deeper (callEnvC fd s.heap.objs.size a)) (execs body (callEnvC fd s.heap.objs.size a)) (fun f s' => R (.ok (.ret (match f with | .ret v => v | _ => .none))) s')
        (fun e s' => wpAny (model prog w) (A.deeper (callEnvC fd s.heap.objs.size a)) (leaving (callEnvC fd s.heap.objs.size a) e) (fun _ s'' => R (.error e) s'') (fun e' s'' => R (.error e') s'') s') s₁)
    (hco : fd.scope.isCoroutine = false) (hgen : fd.scope.isGenerator = false) (hk : fd.scope.kind = .function) :
    codeAny (model prog w) A (.call (.ref a) ⟨vals, []⟩) R s := by
  refine codeAny_call_function hroom ho hdata hco hgen hbody hcd (hbind _ _ _ _ ?_)
  rw [hclo]
  refine wpAny_newFunctionEnv_cells hk hkind fun env he s' x => ?_
  subst he
  exact ⟨hlim.keeps x.toInCall.keep, codeAny_func (h s' x)⟩
/-- entering a called def, whatever may come of it -/
theorem enterX {k : Nat} {w : World} {A : Around} {R : Result → Shared → Prop} {s : Shared} {P : Addr → Prop} {h₀ : Heap} {I : Heap → Prop} {S : Addr → Prop} {f : Addr} {oc : Value} {od : Option Addr} {osl : Array (Option Value)} {fd : FuncData} {body : List Stmt} {ps : List Str} {ds : List D} {vals vs : List Value} {names : List (Str × NameKind)}
    (ho : (KW w).lookup f = some ⟨oc, od, .func fd, osl⟩) (hb : fd.body = .stmts body) (hcd : codeIn (KW w) fd.code fd.qualname = true) (hclo : fd.closure = []) (hg : fd.globals = mainGlobals) (hbu : fd.builtins = builtinsNs)
    (hk : fd.scope.kind = .function) (hco : fd.scope.isCoroutine = false) (hgen : fd.scope.isGenerator = false)
    (hbind : BindsTo s fd ⟨vals, []⟩ (ps.zip vs))
    (hps : ∀ p ∈ ps, fd.scope.names.lookup p = some .local ∧ (p == ("__debug__" : Str)) = false) (hn : fd.scope.names = names)
    (hd : A.depth < recursionLimit) (room' : ∀ env, AOk (A.deeper env) k) (G : Gl w h₀) (sub : Stay h₀ s.heap) (PB : ∀ a, P a → ∃ o, s.heap.get? a = some o) (r : RdAll P s.heap vs ds) (inv : I s.heap)
    (SB : ∀ a, S a → ∃ o, s.heap.get? a = some o) (hI : ∀ h h', I h → (∀ b o, S b → h.get? b = some o → h'.get? b = some o) → I h')
    (h : ∀ (c : Cx), c.Ok k → KD c names → c.w = w → c.h₀ = h₀ → c.I = I → c.S = S → c.A = A.deeper c.env → c.env.frame = some c.env.locals → c.env.cells = cellsFrom (s.heap.objs.size + 1) names [] → (∀ a, P a → c.P a) → (∀ a, c.P a → P a ∨ s.heap.objs.size ≤ a) → s.heap.objs.size ≤ c.env.locals → ∀ h₁ t₁, Stay s.heap h₁ → St c h₁ (bindRho (ps.zip ds) emp) →
      wpAny (model pw c.w) c.A (execs body c.env) (fun fl s' => R (.ok (.ret (match fl with | .ret v => v | _ => .none))) s')
        (fun e s' => wpAny (model pw c.w) c.A (leaving c.env e) (fun _ s'' => R (.error e) s'') (fun e' s'' => R (.error e') s'') s') { s with heap := h₁, toks := t₁ }) : codeAny (model pw w) A (.call (.ref f) ⟨vals, []⟩) R s := by
  have G' := G.keeps sub
  obtain ⟨lo, mg, mb, mean, T⟩ := G'.top
  refine codeAny_call_cellsB (fd := fd) (body := body) (binds := ps.zip vs) hd (G'.kin _ _ ho) rfl T.nolimit (codeRec_of G'.kin hcd) hb hbind hclo (fun x hx => .inl (hps x.1 (List.of_mem_zip hx).1).1) (fun s₁ X => ?_) hco hgen hk
  obtain ⟨h₁, t₁, rfl, stay⟩ := X.done
  have fresh : ∀ a, s.heap.objs.size ≤ a → s.heap.get? a = none := fun a ha => by
    cases e : s.heap.get? a with
    | none => rfl
    | some o' => exact absurd (Heap.lt_size e) (Nat.not_lt.mpr ha)
  have fresh0 : ∀ a, s.heap.objs.size ≤ a → h₀.get? a = none := fun a ha => by
    cases e : h₀.get? a with
    | none => rfl
    | some o' => have := sub _ _ e; rw [fresh a ha] at this; cases this
  generalize hcx : ({ w := w, A := A.deeper (callEnvC fd s.heap.objs.size f), h₀ := h₀, env := callEnvC fd s.heap.objs.size f, P := fun a => P a ∨ a = s.heap.objs.size ∨ ∃ x, (callEnvC fd s.heap.objs.size f).cells.lookup x = some a, I := I, S := S } : Cx) = c
  have cP : c.P = fun a => P a ∨ a = s.heap.objs.size ∨ ∃ x, (callEnvC fd s.heap.objs.size f).cells.lookup x = some a := by rw [← hcx]
  have PB' : ∀ a, c.P a → ∃ o, h₁.get? a = some o := fun a ha => by
    rw [cP] at ha
    rcases ha with ha | rfl | ⟨x, hx⟩
    · obtain ⟨o, e⟩ := PB a ha
      exact ⟨o, stay _ _ e⟩
    · obtain ⟨o, _, _, e, _⟩ := X.toInCall.ns
      exact ⟨o, e⟩
    · obtain ⟨o, e, _⟩ := X.cell x a hx
      exact ⟨o, e⟩
  have up : ∀ a, c.P a → P a ∨ s.heap.objs.size ≤ a := fun a ha => by
    rw [cP] at ha
    rcases ha with ha | rfl | ⟨x, hx⟩
    · exact .inl ha
    · exact .inr (Nat.le_refl _)
    · exact .inr (Nat.le_of_lt (X.above x a (mem_of_lookup hx)))
  have le : ∀ a, (∃ o, s.heap.get? a = some o) → c.P a → P a := fun a ⟨o, e⟩ ha => (up a ha).elim id fun z => absurd (Heap.lt_size e) (Nat.not_lt.mpr z)
  have ok : c.Ok k := by
    subst hcx
    exact {
      gl := G
      room := room' _
      fn := hk
      eg := hg
      eb := hbu
      PL := .inr (.inl rfl)
      Pc := fun x a hx => .inr (.inr ⟨x, hx⟩)
      hL := fresh0 _ (Nat.le_refl _)
      hc := fun x a hx => fresh0 _ (Nat.le_of_lt (X.above x a (mem_of_lookup hx)))
      apart := fun x a hx => Nat.ne_of_gt (X.above x a (mem_of_lookup hx))
      inj := fun x y a hx hy => name_of_addr X.apart (mem_of_lookup hx) (mem_of_lookup hy)
      inv := hI
      SL := fun z => by
        obtain ⟨o, e⟩ := SB _ z
        have e' : s.heap.get? s.heap.objs.size = some o := e
        rw [fresh _ (Nat.le_refl _)] at e'; cases e' }
  have st : St c h₁ (bindRho (ps.zip ds) emp) := by
    have rr := (r.le le).ext (Stay.ext (P := c.P) stay)
    subst hcx
    exact {
      keep := sub.trans stay
      PB := PB'
      SB := fun a ha => let ⟨o, e⟩ := SB a ha; ⟨o, stay _ _ e⟩
      inv := hI _ _ inv fun b o _ e => stay _ _ e
      vars := ⟨_, _, X.toInCall.ns, fun x a hx => X.cell x a hx, fun x dd e => by
        obtain ⟨v, e1, rv, e2, e3⟩ := binds_ok (P := fun a => P a ∨ a = s.heap.objs.size ∨ ∃ x, (callEnvC fd s.heap.objs.size f).cells.lookup x = some a) (h := h₁) (env := callEnvC fd s.heap.objs.size f) ps vs ds emp (fun _ => none) rr (fun p hp => hps p hp) (fun x d e => by cases e) x dd e
        exact ⟨v, ⟨e3, .inl ⟨e2, e1⟩⟩, rv⟩⟩ }
  have kd : KD c names := by
    subst hcx hn
    refine ⟨fun x y e => e, fun x e => ?_⟩
    obtain ⟨a, hx⟩ := Option.isSome_iff_exists.mp (cellsFrom_some _ (s.heap.objs.size + 1) [] (.inl e))
    refine ⟨a, hx, fun z => ?_⟩
    obtain ⟨o, e⟩ := SB _ z
    rw [fresh _ (Nat.le_of_lt (X.above x a (mem_of_lookup hx)))] at e
    cases e
  have fin := h c ok kd (by rw [← hcx]) (by rw [← hcx]) (by rw [← hcx]) (by rw [← hcx]) (by rw [← hcx]) (by rw [← hcx]; rfl) (by rw [← hcx, ← hn]; rfl) (fun a ha => by rw [cP]; exact .inl ha) up (by rw [← hcx]; exact Nat.le_refl _) h₁ t₁ stay st
  subst hcx
  exact fin
end
-- part X2
section
abbrev peCls : Obj := excClassObj (Str.ofString "PaperError") (Str.ofString "PaperError") 39 38 [.type "Exception"] [.type "Exception", .type "BaseException", .type "object"] true [] [] false none none (some (.ref 15)) none (some (.str (Str.ofString "PaperError") 189)) (some (.str (Str.ofString "PaperError") 197)) (some (.bool true)) "Exception.__new__"
theorem pe_cls {w : World} {h : Heap} (G : Gl w h) : h.get? 39 = some peCls := G.kin _ _ (by rfl)
theorem ns_some_of {K : Frag} {h : Heap} {N : Addr} {mg : Str → Option Value} {n : Str} {v : Value} (X : K.In h) (G : h.Ns N mg) (e : nsIn K N n = some (some v)) : mg n = some v := by
  obtain ⟨o, es, ep, ho, hd, _, hf⟩ := G
  unfold nsIn at e
  split at e
  · rename_i c d es' n' sl q
    have := X _ _ q
    rw [ho] at this
    cases this
    cases hd
    split at e
    · rename_i he
      rw [← hf]
      unfold nsFind findBy
      rw [← Array.find?_toList, he]
      simpa using e
    · split at e <;> cases e
  · cases e
theorem pe_ns {w : World} {h : Heap} (G : Gl w h) : ∃ mN, h.Ns 38 mN ∧ mN "__init__" = some (.ref 29) ∧ mN "__setattr__" = none ∧ mN (Str.ofString "what") = none ∧ mN (Str.ofString "at") = none := by
  have hN : h.Ns 38 (h.nsMap 38) := .of_isNs (isNs_of_in G.kin (by kernel_rfl))
  exact ⟨_, hN, ns_some_of G.kin hN (by kernel_rfl), ns_none_of G.kin hN (by kernel_rfl), ns_none_of G.kin hN (by kernel_rfl), ns_none_of G.kin hN (by kernel_rfl)⟩
theorem pe_find (w : World) : findCls (KW w) (.type "Exception") (.type "type") (Str.ofString "__init__") = some (.val (.builtin "Exception.__init__")) := by kernel_rfl
theorem pe_hand : handedIn (.builtin "Exception.__init__") = true := by kernel_rfl
theorem bf_Exception {w : World} : BF w (Str.ofString "Exception") (.type "Exception") := ⟨by kernel_rfl, by kernel_rfl, by decide⟩

theorem exc_init {w : World} {A : Around} {E : Value → Shared → Prop} {s : Shared} {e t0 : Addr} {v : Value} {Q : Value → Shared → Prop} (hC : s.heap.get? 39 = some peCls)
    (he : s.heap.get? e = some { cls := .ref 39, data := .fields #[.ref t0, .none, .none, .none, .bool false, .none] })
    (h : ∀ h', h'.get? e = some { cls := .ref 39, data := .fields #[.ref s.heap.objs.size, .none, .none, .none, .bool false, .none] } → (∀ b o, b ≠ e → s.heap.get? b = some o → h'.get? b = some o) → Q .none { s with heap := h' }) :
    wpAny (model pw w) A (call (.builtin "Exception.__init__") [.ref e, v]) Q E s := by
  obtain ⟨hp, g, d, tk, os⟩ := s
  refine wpAny_call (codeAny_call_builtin PySem.F.excBase_Exception.init.plain PySem.F.excBase_Exception.initEntry (wpAny_check_init_sub PySem.F.excBase_Exception hC he rfl ?_))
  unfold Builtin.«BaseException.__init__»
  dsimp only
  rw [if_neg (by simp)]
  unfold newTuple Builtin.BaseException.bexcPut
  have he₁ := Heap.get?_push_of_some (h := hp) { cls := .type "tuple", data := .seq #[v] } he
  refine wpAny_bind (wpAny_newObj_type (wpAny_bind (wpAny_bind (wpAny_field he₁ rfl rfl (wpAny_bind (wpAny_setField he₁ rfl (by show 0 < 6; decide) ?_))))) (by size_fits))
  refine wpAny_letGo (wpAny_pure ?_)
  refine h _ ?_ ?_
  · rw [Heap.get?_update_self _ he₁ rfl]
    rfl
  · intro b o hb ho
    rw [Heap.get?_update_other _ _ (Ne.symm hb)]
    exact Heap.get?_push_of_some _ ho
end
-- part X3
section
section
variable {k : Nat}
theorem vars_local {c : Cx} {h : Heap} {ρ : Rho} {m cm : Str → Option Value} (V : Vars c h ρ m cm) {x : Str} {d : D} (e : ρ x = some d) (hk : c.env.kindOf x = some .local) : ∃ v, m x = some v ∧ Rd c.P h v d := by
  obtain ⟨v, ⟨_, b⟩, r⟩ := V.rd x d e
  rcases b with ⟨_, b⟩ | ⟨b, _⟩ | ⟨b, _⟩
  · exact ⟨v, b, r⟩
  · rw [hk] at b; cases b
  · rw [hk] at b; cases b
def PeAt (h : Heap) (e : Addr) : Prop := ∃ oe t0, h.get? e = some oe ∧ oe.cls = .ref 39 ∧ oe.data = .fields #[.ref t0, .none, .none, .none, .bool false, .none]
/-- the first store into an exception: its dict is made -/
theorem pe_first {w : World} {A : Around} {E : Value → Shared → Prop} {h : Heap} {g : Array GenState} {d : Drawn} {t : Nat} {os : OsState} {e : Addr} {vs : Array Value} {mN : Str → Option Value} {name : Str} {v : Value} {tk : Tok} {Q : Fin → Shared → Prop}
    (hC : h.get? 39 = some peCls) (hn : h.Ns 38 mN) (hna : mN name = none) (hB : typeLookup (.type "Exception") name = pure none)
    (hx : h.get? e = some { cls := .ref 39, data := .fields vs })
    (hq : ∀ h' tk' dx, h'.get? e = some { cls := .ref 39, dict := some dx, data := .fields vs } → h.get? dx = none → dx ≠ e → h'.Ns1 dx (fun y => if y = name then some v else none) → (∀ b o, b ≠ e → h.get? b = some o → h'.get? b = some o) → Q (.done (.ret .none)) ⟨h', g, d, tk', os⟩) :
    wpAny (model pw w) A (Builtin.«object.__setattr__» ⟨[.ref e, .str name tk, v], []⟩) Q E ⟨h, g, d, t, os⟩ := by
  have hpass := PySem.F.store_Exception.passes (.ref e)
  generalize hoe : ({ cls := .ref 39, data := .fields vs } : Obj) = o at hx
  have hc : o.cls = .ref 39 := by rw [← hoe]
  have hdn : o.dict = none := by rw [← hoe]
  have hda : o.data = .fields vs := by rw [← hoe]
  have hsl : o.slots = #[] := by rw [← hoe]
  unfold Builtin.«object.__setattr__»
  repeat (first | rw [refuse_eq] | (rw [refuseLoop_ref, hpass]) | (with_reducible refine wpAny_loadPart_at hx ?_; rw [hc]) | with_reducible refine wpAny_mroOf_exc hC ?_ | (with_reducible refine wpAny_typeLookup_exc hC hn PySem.F.store_Exception.mro hB ?_; rw [hna]) | wp_step)
  rw [hdn, if_neg (by simp [typeHasDict])]
  split
  · rename_i hcd
    cases hcd
  split
  · rename_i c hcd
    rw [hda] at hcd; cases hcd
  have nD : h.get? h.objs.size = none := by
    cases q : h.get? h.objs.size with
    | none => rfl
    | some o => exact absurd (Heap.lt_size q) (Nat.lt_irrefl _)
  have hxs : e ≠ h.objs.size := Nat.ne_of_lt (Heap.lt_size hx)
  have hx₁ : (h.push { cls := .type "dict", data := .dict #[] }).get? e = some o := Heap.get?_push_of_some _ hx
  refine wpAny_bind (wpAny_alloc' ?_)
  refine wpAny_bind (wpAny_update' hx₁ ?_)
  refine wpAny_pure ?_
  generalize hH : (h.push { cls := .type "dict", data := .dict #[] }).update e (fun o => { cls := o.cls, dict := some h.objs.size, data := o.data, slots := o.slots }) = H
  have gD : H.get? h.objs.size = some { cls := .type "dict", data := .dict #[] } := by
    rw [← hH]; exact (Heap.get?_update_ne _ _ _ _ hxs.symm).trans (Heap.get?_push_at rfl rfl)
  have gx : H.get? e = some { cls := .ref 39, dict := some h.objs.size, data := .fields vs } := by
    rw [← hH]; subst hoe; exact Heap.get?_update_self _ hx₁ rfl
  have go : ∀ b o, b ≠ e → h.get? b = some o → H.get? b = some o := fun b o nb hb => by
    rw [← hH]; exact (Heap.get?_update_ne _ _ _ _ nb).trans (Heap.get?_push_of_some _ hb)
  have empty : H.Ns h.objs.size (fun _ => none) := ⟨_, #[], _, gD, rfl, fun e he => absurd he (by simp), fun _ => rfl⟩
  show wpAny _ _ (Builtin.ObjectAttr.storeInDict h.objs.size (.str name tk) name v) _ _ _
  unfold Builtin.ObjectAttr.storeInDict Builtin.ObjectAttr.newKeyGuard
  refine wpAny_bind (wpAny_pure (wpAny_bind (wpAny_nsSet1 (Heap.Ns1.of_empty empty) fun h' hn' hs => ?_)))
  obtain ⟨oD, esD, epD, hoD, hdD, hcD⟩ := hn'.count (Within.cons name v Within.nil)
  refine wpAny_bind (wpAny_lookBehind hoD (by rw [hdD]; exact pastItsLine_dict (Nat.le_trans hcD (by rw [List.length_cons, List.length_nil, sizeLine_eq]; omega))) ?_)
  wp_walk
  exact hq h' _ h.objs.size ((hs.2 e hxs).trans gx) nD hxs.symm hn' fun b o nb hb => (hs.2 b (Nat.ne_of_lt (Heap.lt_size hb))).trans (go b o nb hb)
end
end
-- part X4
section
section
variable {k : Nat}
theorem pe_sa {w : World} {A : Around} {R : Result → Shared → Prop} {h : Heap} {g : Array GenState} {d : Drawn} {t : Nat} {os : OsState} {e : Addr} {vs : Array Value} {mN : Str → Option Value} {name : Str} {v : Value} {tk : Tok} {sa owner : String}
    (SF : StoreFacts "Exception" [.type "Exception", .type "BaseException", .type "object"] sa owner)
    (hC : h.get? 39 = some peCls) (hn : h.Ns 38 mN) (hna : mN name = none) (hB : typeLookup (.type "Exception") name = pure none)
    (hx : h.get? e = some { cls := .ref 39, data := .fields vs })
    (hq : ∀ h' tk' dx, h'.get? e = some { cls := .ref 39, dict := some dx, data := .fields vs } → h.get? dx = none → dx ≠ e → h'.Ns1 dx (fun y => if y = name then some v else none) → (∀ b o, b ≠ e → h.get? b = some o → h'.get? b = some o) → R (.ok (.ret .none)) ⟨h', g, d, tk', os⟩) :
    codeAny (model pw w) A (.call (.builtin sa) ⟨[.ref e, .str name tk, v], []⟩) R ⟨h, g, d, t, os⟩ := by
  have hcls : ({ cls := .ref 39, data := .fields vs } : Obj).cls = .ref 39 := rfl
  generalize hoe : ({ cls := .ref 39, data := .fields vs } : Obj) = o at hx hcls
  refine codeAny_call_builtin SF.slot.plain SF.entry (wpAny_check_sa SF hC hx hcls ?_)
  subst hoe
  exact pe_first hC hn hna hB hx hq
theorem pe_set1 {w : World} {A : Around} {E : Value → Shared → Prop} {h : Heap} {g : Array GenState} {d : Drawn} {t : Nat} {os : OsState} {e : Addr} {vs : Array Value} {mN : Str → Option Value} {name : Str} {v : Value} {Q : Unit → Shared → Prop}
    (hC : h.get? 39 = some peCls) (hn : h.Ns 38 mN) (hns : mN "__setattr__" = none) (hna : mN name = none) (hB : typeLookup (.type "Exception") name = pure none)
    (hx : h.get? e = some { cls := .ref 39, data := .fields vs })
    (hq : ∀ h' tk' dx, h'.get? e = some { cls := .ref 39, dict := some dx, data := .fields vs } → h.get? dx = none → dx ≠ e → h'.Ns1 dx (fun y => if y = name then some v else none) → (∀ b o, b ≠ e → h.get? b = some o → h'.get? b = some o) → Q () ⟨h', g, d, tk', os⟩) :
    wpAny (model pw w) A (setAttr (.ref e) name v) Q E ⟨h, g, d, t, os⟩ := by
  have f3 := PySem.F.store_Exception.slot.bind (.ref e)
  unfold setAttr callSpecial? specialOf
  repeat (any_goals (first | assumption | with_reducible refine wpAny_loadPart_at hx ?_ | (with_reducible refine wpAny_typeLookup_exc hC hn PySem.F.store_Exception.mro PySem.F.store_Exception.slot.lookup ?_; rw [hns]) | wp_step))
  refine pe_sa PySem.F.store_Exception hC hn hna hB hx fun h' tk' dx a1 a2 a3 a4 a5 => ?_
  repeat (any_goals (first | assumption | wp_step))
  exact hq h' tk' dx a1 a2 a3 a4 a5
theorem pe_lookups : typeLookup (.type "Exception") (Str.ofString "what") = pure none ∧ typeLookup (.type "Exception") (Str.ofString "at") = pure none := by
  constructor <;> (rw [typeLookup_type, builtinLookup_eq_fast]; kernel_rfl)

theorem pe_init {w : World} {A : Around} {E : Value → Shared → Prop} {s : Shared} {hh : Heap} {e t0 : Addr} {what : Str} {tk : Tok} {Q : Value → Shared → Prop} (room : A.depth < recursionLimit) (room' : ∀ env, AOk (A.deeper env) k) (G : Gl w hh) (sub : Stay hh s.heap) (he0 : hh.get? e = none)
    (he : s.heap.get? e = some { cls := .ref 39, data := .fields #[.ref t0, .none, .none, .none, .bool false, .none] })
    (hQ : ∀ h' tk', Stay hh h' → PeAt h' e → Q .none { s with heap := h', toks := tk' }) : wpAny (model pw w) A (call (.ref 29) [.ref e, .str what tk]) Q E s := by
  have G' := G.keeps sub
  have PB : ∀ a, a = e → ∃ o, s.heap.get? a = some o := fun a ha => ⟨_, ha ▸ he⟩
  refine wpAny_call (enterX (k := k) (P := fun a => a = e) (h₀ := hh) (I := fun h => h.get? e = some { cls := .ref 39, data := .fields #[.ref t0, .none, .none, .none, .bool false, .none] }) (S := fun a => a = e)
    (ps := [Str.ofString "self", Str.ofString "what", Str.ofString "at"]) (vs := [.ref e, .str what tk, .int (-1) 202]) (ds := [.raw (.ref e), .str what, .int (-1)])
    (ho := rfl) (hb := rfl) (hcd := by kernel_rfl) (hclo := rfl) (hg := rfl) (hbu := rfl) (hk := rfl) (hco := rfl) (hgen := rfl) (hbind := ?hbind) (hps := by decide) (hn := rfl) room room' G sub PB (.cons (.raw _) (.cons (.str _ _) (.cons (.int _ _) .nil))) he PB (fun h h' hi hk' => hk' _ _ rfl hi) ?_)
  case hbind => exact binds_K (items := #[.int (-1) 202]) G'.kin rfl (by rfl) rfl rfl rfl
  intro c o K cw ch ci cs cA cf _ p1 p2 lsz h₁ t₁ stay st
  subst cw
  obtain ⟨hp, g, d, tk0, os⟩ := s
  dsimp only at K he PB stay lsz sub G' hQ ⊢
  have neL : e ≠ c.env.locals := fun z => absurd (Nat.lt_of_lt_of_le (Heap.lt_size he) lsz) (by rw [z]; exact Nat.lt_irrefl _)
  obtain ⟨m, cm, V⟩ := st.vars
  have k1 := K.kd (Str.ofString "self") .local (by decide)
  have k2 := K.kd (Str.ofString "what") .local (by decide)
  have k3 := K.kd (Str.ofString "at") .local (by decide)
  obtain ⟨v1, m1, r1⟩ := vars_local V (d := .raw (.ref e)) rfl k1
  obtain ⟨v2, m2, r2⟩ := vars_local V (d := .str what) rfl k2
  obtain ⟨v3, m3, r3⟩ := vars_local V (d := .int (-1)) rfl k3
  cases r1
  cases r2 with | str _ u2 =>
  cases r3 with | int _ u3 =>
  have hL0 : hh.get? c.env.locals = none := ch ▸ o.hL
  have inv := st.inv
  rw [ci] at inv
  have F : Fr hp c.env.locals h₁ m := ⟨V.ns, stay, lsz⟩
  have name : ∀ {x : Str} {v : Value} {pos : Pos} {h : Heap} {tk : Nat} {E : Value → Shared → Prop} {Q : Value → Shared → Prop}, h.Ns c.env.locals m → c.env.kindOf x = some .local → m x = some v → (x == ("__debug__" : Str)) = false → Q v ⟨h, g, d, tk, os⟩ → wpAny (model pw c.w) c.A (eval (.Name x pos) c.env) Q E ⟨h, g, d, tk, os⟩ :=
    fun {x v pos h tk E Q} hn hk hv hd q => wpAny_Name (wpAny_loadName_local o.fn hk (s := ⟨h, g, d, tk, os⟩) hn hv q) hd
  obtain ⟨lo, mg, mb, mean, T⟩ := (G'.keeps stay).top
  have exc := bf_Exception (w := c.w)
  have hi : interactive c.env = false := by unfold interactive; rw [o.fn]; rfl
  refine' wpAny_execs_cons (wpAny_Expr (hi := hi) (MethodCall_ ?ha ?hb))
  case hb => rfl
  refine Name_function_global o.fn (K.gl (by decide)) (loadGlobal_builtin (o.eg ▸ T.g) (mg_none_of (G'.keeps stay).kin T.g exc.g) (o.eb ▸ T.b) ((T.builtins _ exc.n).trans exc.b) ?_) (by decide)
  refine method_type F G'.kin (by kernel_rfl) (by kernel_rfl) (pe_find _) pe_hand ?_
  refine callWith_builtin rfl (evalArgs_plain (args_cons (name F.ns k1 m1 (by decide) ?_) rfl))
  refine args_cons (name F.ns k2 m2 (by decide) ?_) rfl
  refine args_nil ?_
  dsimp only
  refine exc_init (s := ⟨h₁, g, d, _, os⟩) (pe_cls (G'.keeps stay)) inv fun h₂ e2 k2' => ?_
  have keep2 : Stay hh h₂ := fun b ob hb => k2' b ob (fun z => by rw [z, he0] at hb; cases hb) (stay _ _ (sub _ _ hb))
  have ns2 : h₂.Ns c.env.locals m := F.ns.at' fun ob e => k2' _ ob (Ne.symm neL) e
  have G2 := G.keeps keep2
  obtain ⟨mN, hN, _, hns, hw, ha⟩ := pe_ns G2
  refine wpAny_execs_cons (plainObj_wpAny_Assign_Attribute (name ns2 k2 m2 (by decide) (name ns2 k1 m1 (by decide) ?_)))
  refine pe_set1 (pe_cls G2) hN hns hw pe_lookups.1 e2 fun h₃ t₃ dx a1 a2 a3 a4 a5 => ?_
  have keep3 : Stay hh h₃ := fun b ob hb => a5 b ob (fun z => by rw [z, he0] at hb; cases hb) (keep2 _ _ hb)
  have ns3 : h₃.Ns c.env.locals m := ns2.at' fun ob e => a5 _ ob (Ne.symm neL) e
  have G3 := G.keeps keep3
  obtain ⟨mN3, hN3, _, hns3, _, ha3⟩ := pe_ns G3
  have n39 : e ≠ 39 := fun z => by have := pe_cls G; rw [← z, he0] at this; cases this
  refine wpAny_execs_cons (plainObj_wpAny_Assign_Attribute (name ns3 k3 m3 (by decide) (name ns3 k1 m1 (by decide) ?_)))
  refine store_attr PySem.F.store_Exception (pe_cls G3) hN3 hns3 ha3 pe_lookups.2 n39 ⟨_, a1, rfl, (fun c h => by cases h), .inr ⟨dx, rfl, a3, a4⟩⟩ (fun h₄ t₄ _ k4 same => ?_) (Within.cons _ _ Within.nil) (by rw [sizeLine_eq]; decide)
  refine wpAny_execs_nil ?_
  obtain ⟨o₁, b1, b2, b3, _⟩ := same _ a1
  refine hQ h₄ t₄ (fun b ob hb => ?_) ⟨o₁, _, b1, b2, b3⟩
  refine k4 b ob (fun z => by rw [z, he0] at hb; cases hb) (fun o₀ d0 h0 hd z => ?_) (keep3 _ _ hb)
  rw [a1] at h0; cases h0
  cases hd
  have := keep2 b ob hb
  rw [z, a2] at this; cases this
end
end
-- part X5
section
section
variable {k : Nat}
theorem pe_call {w : World} {A : Around} {E : Value → Shared → Prop} {s : Shared} {what : Str} {tk : Tok} {Q : Value → Shared → Prop} (room : AOk A (k + 1)) (G : Gl w s.heap)
    (hQ : ∀ e h' tk', Stay s.heap h' → s.heap.get? e = none → PeAt h' e → Q (.ref e) { s with heap := h', toks := tk' }) : wpAny (model pw w) A (call (.ref 39) [.str what tk]) Q E s := by
  obtain ⟨hp, g, d, t, os⟩ := s
  obtain ⟨mN, hN, hi, _⟩ := pe_ns G
  have hfI : ∃ oI, hp.get? 29 = some oI ∧ oI.cls = .type "function" := ⟨_, G.kin _ _ (by rfl), rfl⟩
  obtain ⟨oI, hfI, hfc⟩ := hfI
  refine wpAny_call_exc_init PySem.F.excBase_Exception (pe_cls G) hN hi hfI hfc (fun h' e hm => ?_)
  obtain ⟨t0, he, _, _⟩ := hm.there
  refine pe_init (k := k) (hh := hp) (t0 := t0) (s := ⟨h', g, d, t, os⟩) ?_ (fun env => aok_make room _ _ env) G hm.keeps hm.new he fun h2 tk' st P => ⟨rfl, hQ e h2 tk' st hm.new P⟩
  have := room.dp
  show A.depth + 1 < 1000
  omega

theorem pe_raise {w : World} {A : Around} {env : Env} {E : Value → Shared → Prop} {s : Shared} {x : Sem Value} {Q : Flow → Shared → Prop} (hh : A.handled = none)
    (h : wpAny (model pw w) A x (fun v s₁ => ∃ e, v = .ref e ∧ Gl w s₁.heap ∧ PeAt s₁.heap e ∧ E (.ref e) s₁) E s) : wpAny (model pw w) A (raiseStmt env (some x) none) Q E s := by
  unfold raiseStmt
  refine wpAny_bind (wpAny_mono h (fun v s₁ h₁ => ?_) fun _ _ x => x)
  obtain ⟨e, rfl, G, ⟨oe, t, he, hcls, hda⟩, hE⟩ := h₁
  have hC := pe_cls G
  have hcB : (Value.ref 39 :: [Value.type "Exception", .type "BaseException", .type "object"]).contains (.type "BaseException") = true := by decide
  obtain ⟨oc, od, oda, osl⟩ := oe
  dsimp only at hcls hda
  subst hcls hda
  obtain ⟨hp, g, d, tk, os⟩ := s₁
  repeat (first | with_reducible refine wpAny_loadPart_at he ?_ | with_reducible refine wpAny_loadPart_at hC ?_ | (with_reducible refine wpAny_isSubtype_exc hC ?_; rw [hcB]) | wp_step)
  exact wpAny_raiseNew_none hh hE

abbrev SI (base h : Heap) : Prop := base.StaysIn h
def Fly (base : Heap) (l : List Env) (e : Addr) (h : Heap) : Prop := ∃ a0, Heap.FlyingW base l e (.ref 39) a0 h
def Held (base : Heap) (l : List Env) (e L : Addr) (h : Heap) : Prop := ∃ a0, Heap.HeldW base l e (.ref 39) a0 L h
def NewE (base : Heap) (l : List Env) (e : Addr) (h : Heap) : Prop := base.StaysIn h ∧ base.get? e = none ∧ h.FunFrames base l ∧ PeAt h e
def Up (base : Heap) (env : Env) (outer : List Env) (L : Addr) (e : Addr) (h : Heap) : Prop := Fly base (env :: outer) e h ∨ Held base (env :: outer) e L h ∨ NewE base (env :: outer) e h

theorem leaveUp {M : Model} {A : Around} {E : Value → Shared → Prop} {s : Shared} {base : Heap} {env : Env} {outer : List Env} {L e : Addr} {Q : Unit → Shared → Prop} (hfr : A.frames = some (env :: outer)) (hf : env.frame = some L)
    (u : Up base env outer L e s.heap) (hQ : ∀ h', Fly base outer e h' → s.heap.UpToSlots h' → Q () { s with heap := h' }) : wpAny M A (leaving env (.ref e)) Q E s := by
  rcases u with ⟨a0, u⟩ | ⟨a0, u⟩ | ⟨u1, u2, u3, oe, t0, u4, u5, u6⟩
  · exact wpAny_leaves_onW hfr hf u fun h' x y => hQ h' ⟨a0, x⟩ y
  · unfold leaving
    refine wpAny_bind (wpAny_noteFrame_againW hf u.2.2.2 ?_)
    refine wpAny_landsW u fun h' hfl y => ?_
    obtain ⟨k1, k2, ⟨_, _, k3⟩, k4⟩ := hfl
    exact hQ h' ⟨a0, k1, k2, k3, k4⟩ y
  · refine wpAny_leaving_firstW (a0 := .ref t0) hfr u3 hf u4 u1 u2 u6 rfl rfl fun h' hL => ?_
    obtain ⟨k1, ⟨_, _, k2⟩, k3, k4⟩ := hL
    exact hQ h' ⟨.ref t0, k1, u2, k2, u5 ▸ k3⟩ k4

/-- out of a loop's own activation -/
theorem upHeld {M : Model} {A : Around} {E : Value → Shared → Prop} {s : Shared} {base : Heap} {env : Env} {outer : List Env} {L e : Addr} (hfr : A.frames = some (env :: outer)) (hf : env.frame = some L)
    (u : Fly base (env :: outer) e s.heap) (hQ : ∀ h', Held base (env :: outer) e L h' → s.heap.UpToSlots h' → E (.ref e) { s with heap := h' }) :
    notedBy M A env (cameBackBy M A env E) (.ref e) s := by
  obtain ⟨a0, u⟩ := u
  refine wpAny_looks_onW hfr hf u fun h₁ hh₁ y₁ => ?_
  obtain ⟨f1, f2, f3, oe, vs, T, oT, ts, he, hcls, hd, h1, hnT, hTe, hT, hdT, h3⟩ := hh₁
  have hsz3 : 3 < ts.size := (Array.getElem?_eq_some_iff.mp h3).1
  unfold cameBackBy setFlight
  refine wpAny_bind (wpAny_field he hd h1 ?_)
  rw [if_neg (show ¬ ((Value.ref T == Value.none) = true) from by simp)]
  refine wpAny_bind (wpAny_field he hd h1 ?_)
  rw [if_pos (show (Value.ref T != Value.none) = true from by simp)]
  rw [hf]
  have other : ∀ b, b ≠ T → (h₁.update T (Obj.mapFields (·.setIfInBounds 3 ((some L : Option Addr).elim Value.none fun f => rawInt f)))).get? b = h₁.get? b := fun b hb => Heap.get?_update_other _ _ (Ne.symm hb)
  have noRecord : ∀ b o, h₁.get? b = some o → (∀ vs, o.data ≠ .fields vs) → b ≠ T := fun b o hb hnf q => by
    rw [q, hT] at hb; injection hb with hb; subst hb; exact hnf ts hdT
  refine wpAny_setField hT hdT hsz3 (hQ _ ⟨a0, fun b o hbo => (other b fun q => by rw [q, hnT] at hbo; cases hbo).trans (f1 b o hbo), f2,
    f3.of_keeps fun b o hb hnf => ⟨o, (other b (noRecord b o hb hnf)).trans hb, rfl⟩, oe, vs, T, _, _, (other e (Ne.symm hTe)).trans he, hcls, hd, h1, hnT, hTe, Heap.get?_update_self _ hT (Obj.isFreed_of_fields (Obj.data_mapFields hdT _)), Obj.data_mapFields hdT _, by simp [hsz3]⟩ ?_)
  exact y₁.trans fun b o hb hnf => ⟨o.slots, (other b (noRecord b o hb hnf)).trans hb⟩
end
end
-- part X6
section
section
variable {k : Nat}
structure Stk (c : Cx) (base : Heap) (outer : List Env) : Prop where
  fr : c.A.frames = some (c.env :: outer)
  fm : c.env.frame = some c.env.locals
  st : base.StaysIn c.h₀
  ff : c.h₀.FunFrames base outer
variable {c : Cx} {ρ : Rho} {base : Heap} {outer : List Env} {Z : Addr → Heap → Prop}
theorem Stk.now {h : Heap} (K : Stk c base outer) (o : c.Ok k) (st : St c h ρ) : base.StaysIn h ∧ h.FunFrames base (c.env :: outer) := by
  refine ⟨fun b ob e => st.keep _ _ (K.st _ _ e), ?_, ?_, K.ff.of_keeps fun b ob e _ => ⟨ob, st.keep _ _ e, rfl⟩⟩
  · rw [o.fn]; decide
  · obtain ⟨m, cm, V⟩ := st.vars
    obtain ⟨oL, es, ep, hoL, hd, _⟩ := V.ns
    refine ⟨_, oL, K.fm, ?_, hoL, fun vs q => by rw [hd] at q; cases q⟩
    cases e : base.get? c.env.locals with
    | none => rfl
    | some ob => have := K.st _ _ e; rw [o.hL] at this; cases this
/-- what is wanted of an end by an exception -/
def Rz (c : Cx) (Z : Addr → Heap → Prop) (s : Shared) (E : Value → Shared → Prop) : Prop :=
  ∀ e h' tk hx ρx, St c hx ρx → hx.UpToSlots h' → Z e h' → E (.ref e) { s with heap := h', toks := tk }
def EvR (c : Cx) (Z : Addr → Heap → Prop) (ρ : Rho) (e : PySem.Expr) : Prop :=
  ∀ (s : Shared) (Q E : Value → Shared → Prop), St c s.heap ρ → Rz c Z s E → wpAny (model pw c.w) c.A (eval e c.env) Q E s
def TrR (c : Cx) (Z : Addr → Heap → Prop) (ρ : Rho) (e : PySem.Expr) : Prop :=
  ∀ (s : Shared) (Q : Bool → Shared → Prop) (E : Value → Shared → Prop), St c s.heap ρ → Rz c Z s E → wpAny (model pw c.w) c.A (isTrue e c.env (eval e c.env)) Q E s
def ExR (c : Cx) (Z : Addr → Heap → Prop) (ρ : Rho) (ss : List Stmt) : Prop :=
  ∀ (s : Shared) (Q : Flow → Shared → Prop) (E : Value → Shared → Prop), St c s.heap ρ → Rz c Z s E → wpAny (model pw c.w) c.A (execs ss c.env) Q E s
/-- the contract of a call that raises a PaperError -/
def Cr (w : World) (k : Nat) (f : Value) (ds : List D) : Prop :=
  ∀ (A : Around) (P : Addr → Prop) (s : Shared) (vs : List Value) (base : Heap) (outer : List Env) (Q E : Value → Shared → Prop),
    AOk A k → Gl w s.heap → (∀ a, P a → ∃ o, s.heap.get? a = some o) → RdAll P s.heap vs ds → A.frames = some outer → base.StaysIn s.heap → s.heap.FunFrames base outer →
    (∀ e h' tk, Fly base outer e h' → s.heap.UpToSlots h' → E (.ref e) { s with heap := h', toks := tk }) → wpAny (model pw w) A (call f vs) Q E s
theorem noE {α : Type} {M : Model} {A : Around} {t : Sem α} {Q : α → Shared → Prop} {E : Value → Shared → Prop} {s : Shared} (h : wpAny M A t Q NoE s) : wpAny M A t Q E s := wpAny_mono h (fun _ _ x => x) fun _ _ x => x.elim
theorem ExR.le {Z' : Addr → Heap → Prop} {ss : List Stmt} (h : ExR c Z ρ ss) (i : ∀ e h, Z e h → Z' e h) : ExR c Z' ρ ss := fun s Q E hs hE => h s Q E hs fun e h' tk hx ρx a b z => hE e h' tk hx ρx a b (i _ _ z)
theorem Cr.use {f : Value} {vs : List Value} {ds : List D} {s : Shared} {Q E : Value → Shared → Prop} (o : c.Ok k) (K : Stk c base outer) (h : Cr c.w k f ds) (hs : St c s.heap ρ) (r : RdAll c.P s.heap vs ds) (hE : Rz c (Fly base (c.env :: outer)) s E) :
    wpAny (model pw c.w) c.A (call f vs) Q E s :=
  h c.A c.P s vs base (c.env :: outer) Q E o.room (hs.gl o) hs.PB r K.fr (K.now o hs).1 (K.now o hs).2 fun e h' tk fl up => hE e h' tk s.heap ρ hs up fl
theorem EvR.callR {f e : PySem.Expr} {es : List PySem.Expr} {pos : Pos} {a : Addr} {ds : List D} (o : c.Ok k) (K : Stk c base outer) (hf : Fv c f (.ref a)) (hk : keepIn (KW c.w) (.ref a) = true) (ha : Evs c ρ (e :: es) pos (is ds)) (h : Cr c.w k (.ref a) ds)
    (he : eval (.Call f (e :: es) [] pos) c.env = (do callWith pos (← eval f c.env) [] (backTo pos (starEach (e :: es) c.env)) (backToKw pos (keywordEach [] c.env))) := by rfl)
    (he2 : starEach (e :: es) c.env = (false, eval e c.env) :: starEach es c.env := by rfl) (hp : (backTo pos (starEach es c.env)).any (·.1) = false := by rfl) : EvR c (Fly base (c.env :: outer)) ρ (.Call f (e :: es) [] pos) := by
  intro s Q E hs hE
  refine Call_ (noE (hf ρ s _ hs (callWith_K (hs.gl o).kin hk (noE (ha s _ hs fun vs ds' h₁ t₁ ed s₁ r₁ e₁ => ⟨(s₁.gl o).kin, ?_⟩)) he2 hp))) he
  cases ed
  exact h.use o K s₁ r₁ fun e h' tk hx ρx a b z => hE e h' tk hx ρx a b z
theorem EvR.meth {ob e : PySem.Expr} {nm : Str} {apos pos : Pos} {es : List PySem.Expr} {f : Addr} {t : Int} {p : Nat} {ds : List D} (o : c.Ok k) (K : Stk c base outer) (G : MF c.w nm f) (hb : Ev c ρ ob (is (.dec t p)))
    (ha : Evs c ρ (e :: es) pos (is ds)) (h : Cr c.w k (.ref f) (.dec t p :: ds)) {pl : Sem Bool}
    (he : eval (.Call (.Attribute ob nm apos) (e :: es) [] pos) c.env = (do
      let ov ← eval ob c.env
      standAt apos.atName
      let (f, first) ← holding [ov] (getMethod ov nm pl)
      callWith pos f first (backTo pos (starEach (e :: es) c.env)) []) := by rfl)
    (he2 : starEach (e :: es) c.env = (false, eval e c.env) :: starEach es c.env := by rfl) (hp : (backTo pos (starEach es c.env)).any (·.1) = false := by rfl) : EvR c (Fly base (c.env :: outer)) ρ (.Call (.Attribute ob nm apos) (e :: es) [] pos) := by
  intro s Q E hs hE
  refine MethodCall_ (noE (hb s _ hs fun v dv h₁ t₁ ed s₁ r₁ e₁ => ?_)) he
  cases ed
  cases r₁ with
  | dec y =>
    refine dec_method (s₁.gl o) y G.f G.t G.h1 G.h2 ?_
    refine callWith_K (s₁.gl o).kin G.k (noE (ha _ _ s₁ fun vs ds' h₂ t₂ ed s₂ r₂ e₂ => ⟨(s₂.gl o).kin, ?_⟩)) he2 hp
    cases ed
    exact h.use o K s₂ (.cons (.dec (y.ext e₂)) r₂) fun e h' tk hx ρx a b z => hE e h' tk hx ρx a b z
theorem TrR.cmp {l r : PySem.Expr} {op : CmpOp} {pos : Pos} (hl : EvR c Z ρ l) (hm : behindInMarks op r = false := by with_unfolding_all rfl) : TrR c Z ρ (.Compare l [op] [r] pos) := by
  intro s Q E hs hE
  exact wpAny_isTrue_Compare1 (hl s _ E hs hE) hm
theorem ExR.ifR {t : PySem.Expr} {b o rest : List Stmt} {pos : Pos} (ht : TrR c Z ρ t) : ExR c Z ρ (.If t b o pos :: rest) := by
  intro s Q E hs hE
  rw [exec_if_cons]
  exact wpAny_bind (wpAny_standAt (wpAny_bind (ht s _ E hs hE)))
theorem ExR.ifD {t : PySem.Expr} {b o rest : List Stmt} {pos : Pos} {β : Bool} (ht : Tr c ρ t (is β)) (h1 : β = true → ExR c Z ρ (b ++ rest)) (h2 : β = false → ExR c Z ρ (o ++ rest)) : ExR c Z ρ (.If t b o pos :: rest) := by
  intro s Q E hs hE
  rw [exec_if_cons]
  refine wpAny_bind (wpAny_standAt (wpAny_bind (noE (ht s _ hs fun β' h₁ t₁ hβ s₁ e₁ => ?_))))
  cases hβ
  cases β with
  | true => exact h1 rfl _ Q E s₁ fun e h' tk hx ρx a b z => hE e h' tk hx ρx a b z
  | false => exact h2 rfl _ Q E s₁ fun e h' tk hx ρx a b z => hE e h' tk hx ρx a b z
theorem ExR.assignR {x : Str} {pos' pos : Pos} {e : PySem.Expr} {rest : List Stmt} (h : EvR c Z ρ e) (hs : swapsWith e (some (.Name x pos')) pos.line c.env = pure false := by rfl) : ExR c Z ρ (.Assign [.Name x pos'] e pos :: rest) := by
  intro s Q E st hE
  exact wpAny_execs_cons (wpAny_Assign_Name (h s _ E st hE) hs)
theorem ExR.unpackR {elts : List PySem.Expr} {n : Nat} {tpos pos : Pos} {e : PySem.Expr} {rest : List Stmt} (h : EvR c Z ρ e) (hs : swapsWithSole [.Tuple elts n tpos] e pos.line c.env = pure false := by rfl)
    (hw : swappedStores [.Tuple elts n tpos] e c.env = pure Option.none := by rfl) : ExR c Z ρ (.Assign [.Tuple elts n tpos] e pos :: rest) := by
  intro s Q E st hE
  exact wpAny_execs_cons (Assign_Tuple (h s _ E st hE) hs hw)
theorem ExR.exprR {pos : Pos} {e : PySem.Expr} {rest : List Stmt} (h : EvR c Z ρ e) (o : c.Ok k) (hs : swapsWith e none pos.line c.env = pure false := by rfl) : ExR c Z ρ (.Expr e pos :: rest) := by
  intro s Q E st hE
  have hi : interactive c.env = false := by unfold interactive; rw [o.fn]; rfl
  exact wpAny_execs_cons (wpAny_Expr (h s _ E st hE) hi hs)
theorem ExR.assignD {x : Str} {pos' pos : Pos} {e : PySem.Expr} {rest : List Stmt} {d : D} (o' : c.Ok k) (hx : Stores c x) (h : Ev c ρ e (is d)) (i : ExR c Z (upd ρ x d) rest)
    (hs : swapsWith e (some (.Name x pos')) pos.line c.env = pure false := by rfl) : ExR c Z ρ (.Assign [.Name x pos'] e pos :: rest) := by
  intro s Q E st hE
  refine wpAny_execs_cons (wpAny_Assign_Name (noE (h s _ st fun v d' h₁ t₁ hd s₁ r₁ e₁ => ?_)) hs)
  cases hd
  refine noE (store_at (o' := o') s₁ r₁ hx.1 hx.2 fun h₂ t₂ s₂ e₂ => ?_)
  exact i _ Q E s₂ fun e h' tk hx ρx a b z => hE e h' tk hx ρx a b z
theorem ExR.raise {px cpos pos pc : Pos} {n : Nat} {x : Str} {rest : List Stmt} (o : c.Ok (k + 1)) (K : Stk c base outer) (hk : c.env.kindOf (Str.ofString "PaperError") = some .globalImplicit) :
    ExR c (Up base c.env outer c.env.locals) ρ (.Raise (some (.Call (.Name (Str.ofString "PaperError") px) [.Constant (.str x) n pc] [] cpos)) none pos :: rest) := by
  intro s Q E st hE
  refine wpAny_execs_cons ?_
  rw [arm_exec_Raise]
  refine wpAny_bind (wpAny_standAt (pe_raise o.room.hh ?_))
  refine wpAny_bind ?_
  refine Call_ (noE (Fv.glob o hk gf_PaperError.g (by decide) ρ s _ st (callWith_K (st.gl o).kin gf_PaperError.k (args_cons (wpAny_Constant_str (args_nil ⟨(st.gl o).kin, ?_⟩)) rfl) rfl rfl))) rfl
  refine pe_call (k := k) o.room (st.gl o) fun e h' tk' stay new P => ?_
  refine wpAny_bind (wpAny_standAt (wpAny_pure ⟨e, rfl, (st.gl o).keeps stay, P, ?_⟩))
  have nw := K.now o st
  refine hE e h' tk' s.heap ρ st (Heap.UpToSlots.of_keeps stay) (.inr (.inr ⟨fun b ob hb => stay _ _ (nw.1 _ _ hb), ?_, nw.2.of_keeps fun b ob e _ => ⟨ob, stay _ _ e, rfl⟩, P⟩))
  cases q : base.get? e with
  | none => rfl
  | some ob => have := nw.1 _ _ q; rw [new] at this; cases this

theorem Cr.intro {w : World} {f : Addr} {oc : Value} {od : Option Addr} {osl : Array (Option Value)} {fd : FuncData} {body : List Stmt} {ps : List Str} {ds : List D} {names : List (Str × NameKind)}
    (ho : (KW w).lookup f = some ⟨oc, od, .func fd, osl⟩) (hb : fd.body = .stmts body) (hcd : codeIn (KW w) fd.code fd.qualname = true) (hclo : fd.closure = []) (hg : fd.globals = mainGlobals) (hbu : fd.builtins = builtinsNs)
    (hk : fd.scope.kind = .function) (hco : fd.scope.isCoroutine = false) (hgen : fd.scope.isGenerator = false)
    (hbind : ∀ vs : List Value, vs.length = ps.length → bindArgs fd ⟨vs, []⟩ = pure (ps.zip vs)) (hlen : ps.length = ds.length)
    (hps : ∀ p ∈ ps, fd.scope.names.lookup p = some .local ∧ (p == ("__debug__" : Str)) = false) (hn : fd.scope.names = names)
    (h : ∀ (c : Cx) (base : Heap) (outer : List Env), c.Ok k → KD c names → Stk c base outer → ExR c (Up base c.env outer c.env.locals) (bindRho (ps.zip ds) emp) body) : Cr w (k + 1) (.ref f) ds := by
  intro A P s vs base outer Q E room G PB r fr st ff hE
  have hl : vs.length = ps.length := by rw [r.length, hlen]
  refine wpAny_call (enterX (k := k) (I := fun _ => True) (S := fun _ => False) ho hb hcd hclo hg hbu hk hco hgen (BindsTo.of_eq (hbind vs hl)) hps hn room.room (fun env => room.deeper env) G (Stay.refl _) PB r trivial (fun _ h => h.elim) (fun _ _ _ _ => trivial) fun c o K cw ch ci cs cA cf _ p1 p2 _ h₁ t₁ stay st' => ?_)
  have K2 : Stk c base outer := ⟨by rw [cA]; exact Around.frames_deeper fr, cf, ch ▸ st, ch ▸ ff⟩
  refine h c base outer o K K2 _ _ _ st' fun e h' tk hx ρx sx up z => ?_
  refine leaveUp K2.fr K2.fm z fun h'' fl up2 => ?_
  exact hE e h'' tk fl ((Heap.UpToSlots.of_keeps (ch ▸ sx.keep)).trans (up.trans up2))
end
end
-- part X7
section
open Builtin.Int
section
variable {k : Nat} {c : Cx} {ρ : Rho} {base : Heap} {outer : List Env}
theorem ExR.for1 {x : Str} {px pos : Pos} {iter : PySem.Expr} {body rest : List Stmt} {n : Nat} {items : Nat → D} (o : c.Ok k) (K : Stk c base outer) (hx : (x == ("__debug__" : Str)) = false) (hk : c.env.kindOf x = some .local) (hi : Iter c ρ iter n items) (h0 : 0 < n)
    (step : ∀ (c' : Cx), c'.Ok k → Like c c' → Stk c' base outer → c'.env = c.env → c'.w = c.w → ExR c' (Fly base (c.env :: outer)) (upd ρ x (items 0)) body) (hs : ∀ x, foldedSetIterable iter c.env x = pure x := by intro _; rfl) :
    ExR c (Up base c.env outer c.env.locals) ρ (.For (.Name x px) iter body [] pos :: rest) := by
  intro s Q E st hE
  refine wpAny_execs_cons (wpAny_For (wpAny_mono (hi s (fun it s₂ => codeAny (model pw c.w) c.A (.forLoop (.Name x px) it body [] c.env) _ s₂) st fun I fp P Stt hb h' tk W hst hbn sb e₁ k₁ hIo fpx hfp hIf hP => ?_) (fun _ _ h => noE h) fun _ _ h => h.elim) hs)
  have notP : ¬ c.P I := fun z => by obtain ⟨o', e⟩ := sb.PB _ z; rw [hbn] at e; cases e
  have hLf : c.env.locals ∉ fp := fun z => (hfp _ z).elim (fun e => notP (e ▸ o.PL)) fun e => e.1 o.PL
  have hcf : ∀ x a, c.env.cells.lookup x = some a → a ∉ fp := fun x a e z => (hfp _ z).elim (fun e' => notP (e' ▸ o.Pc x a e)) fun e' => e'.1 (o.Pc x a e)
  have ok : ∀ i, (c.at I fp (Stt i)).Ok k := fun i => o.at (W.frame i) hLf hcf
  refine codeAny_forLoop (fun m s' => s' = { s with heap := h', toks := tk }) ?_ 0 rfl
  rintro m s' rfl
  refine W.item 0 _ _ _ h0 hst fun v h₃ t₃ hPv hst₃ hk₃ => ?_
  have k3 : Stay hb h₃ := fun b ob e => hk₃ b ob (fun z => by rw [List.mem_singleton.mp z, hbn] at e; cases e) (k₁ b ob e)
  have s₃ : St (c.at I fp (Stt 1)) h₃ ρ := sb.on o hbn k3 (hIo _ _ hst₃) (fun b hb' => by
    by_cases z : b = I
    · exact z ▸ hIo _ _ hst₃
    · obtain ⟨ob, e⟩ := fpx b hb'
      exact ⟨ob, hk₃ b ob (fun q => z (List.mem_singleton.mp q)) e⟩) hst₃
  have rdv : Rd (fun a => c.P a ∨ a = I) h₃ v (items 0) := by
    refine Rd.ext (Stay.ext k3) ((hP 0 v hPv h0).le fun a ⟨o', e⟩ ha => ?_)
    rcases ha with ha | rfl
    · exact ha
    · rw [hbn] at e; cases e
  refine wpAny_assign_Name (noE (store_at (o' := ok 1) (c := c.at I fp (Stt 1)) s₃ rdv hx (.inl hk) (Q := fun _ s' => wpAny (model pw c.w) c.A (execs body c.env) _ _ s') fun h₄ t₄ s₄ e₄ => ?_))
  refine step (c.at I fp (Stt 1)) (ok 1) ⟨_, _, _, rfl, hcf⟩ ⟨K.fr, K.fm, K.st, K.ff⟩ rfl rfl _ _ _ s₄ fun e h₅ t₅ hx' ρx sx up z => ?_
  exact upHeld K.fr K.fm z fun h₆ hd up2 => hE e h₆ t₅ hx' ρx sx.off (up.trans up2) (.inr (.inl hd))
end
section
variable {w : World} {k : Nat}
/-- a thing that is no number -/
def noNum (d : D) : Bool := plainD d && (isB d || !isI d)
theorem r_decimal_of {d : D} (n : noNum d = true) : Cr w (k + 3) (.ref 168) [d] := by
  have n1 : plainD d = true := (Bool.and_eq_true_iff.mp n).1
  have n2 := (Bool.and_eq_true_iff.mp n).2
  refine' Cr.intro (k := k + 2) (ps := [Str.ofString "value"]) (ho := rfl) (hb := rfl) (hcd := by kernel_rfl) (hclo := rfl) (hg := rfl) (hbu := rfl) (hk := rfl) (hco := rfl) (hgen := rfl) (hbind := ?_) (hlen := rfl) (hps := by decide) (hn := rfl) (h := ?_)
  · intro vs h
    match vs, h with
    | [a], _ => rfl
  intro c base outer o KS K
  dsimp only at KS
  have nd : isDec d = false := by cases d <;> first | rfl | cases n1
  refine ExR.ifD (β := false) (Tr.value (evB o (KS.gl (by decide)) bf_isinstance (Evs.one (by tb_start) (Evs.one (evCls o (KS.gl (by decide)) gf_Decimal rfl) Evs.nil)) (nd ▸ Cl.isiDec (.inl n1)) rfl)) (fun h => by cases h) fun _ => ?_
  refine ExR.ifD (β := true) (Tr.is_of (Tr.or (β := isB d) (γ := !isI d) (Tr.value (evB o (KS.gl (by decide)) bf_isinstance (Evs.one (by tb_start) (Evs.one (evTyp o (KS.gl (by decide)) bf_bool rfl) Evs.nil)) (Cl.isiBool n1) rfl)) fun _ => Tr.is_of (Tr.or (β := !isI d) (γ := false) (Tr.not (Tr.value (evB o (KS.gl (by decide)) bf_isinstance (Evs.one (by tb_start) (Evs.one (evTyp o (KS.gl (by decide)) bf_int rfl) Evs.nil)) (Cl.isiInt n1) rfl))) fun _ => Tr.or_nil) (by simp)) n2) (fun _ => ?_) (fun h => by cases h)
  exact ExR.raise o K (KS.gl (by decide))
theorem Up.fly {base : Heap} {env : Env} {outer : List Env} {L e : Addr} {h : Heap} (x : Fly base (env :: outer) e h) : Up base env outer L e h := .inl x
theorem r_at_one_scale {d e : D} {t : Int} {p : Nat} (n1 : Num d t p) (n2 : noNum e = true) : Cr w (k + 4) (.ref 175) [d, e] := by
  refine' Cr.intro (k := k + 3) (ps := [Str.ofString "one", Str.ofString "other"]) (ho := rfl) (hb := rfl) (hcd := by kernel_rfl) (hclo := rfl) (hg := rfl) (hbu := rfl) (hk := rfl) (hco := rfl) (hgen := rfl) (hbind := ?_) (hlen := rfl) (hps := by decide) (hn := rfl) (h := ?_)
  · intro vs h
    match vs, h with
    | [a, b], _ => rfl
  intro c base outer o KS K
  dsimp only at KS
  refine' ExR.assignD o (KS.st (by decide) (by decide)) (evF o (KS.gl (by decide)) gf_decimal_of (by tb_start) (c_decimal_of n1) rfl) ?_
  refine ExR.le (ExR.assignR (EvR.callR o K (Fv.glob o (KS.gl (by decide)) gf_decimal_of.g (by decide)) gf_decimal_of.k (Evs.one ?_ Evs.nil) (r_decimal_of n2))) fun e h z => .inl z
  tb_start
theorem r_plus {e : D} {t : Int} {p : Nat} (n2 : noNum e = true) : Cr w (k + 5) (.ref 63) [.dec t p, e] := by
  refine' Cr.intro (k := k + 4) (ps := [Str.ofString "self", Str.ofString "other"]) (ho := rfl) (hb := rfl) (hcd := by kernel_rfl) (hclo := rfl) (hg := rfl) (hbu := rfl) (hk := rfl) (hco := rfl) (hgen := rfl) (hbind := ?_) (hlen := rfl) (hps := by decide) (hn := rfl) (h := ?_)
  · intro vs h
    match vs, h with
    | [a, b], _ => rfl
  intro c base outer o KS K
  dsimp only at KS
  refine ExR.le (ExR.unpackR (EvR.callR o K (Fv.glob o (KS.gl (by decide)) gf_at_one_scale.g (by decide)) gf_at_one_scale.k (Evs.one ?_ (Evs.one ?_ Evs.nil)) (r_at_one_scale (.dec t p) n2))) fun e h z => .inl z
  · tb_start
  · tb_start
theorem r_compared {e : D} {t : Int} {p : Nat} (n2 : noNum e = true) : Cr w (k + 5) (.ref 91) [.dec t p, e] := by
  refine' Cr.intro (k := k + 4) (ps := [Str.ofString "self", Str.ofString "other"]) (ho := rfl) (hb := rfl) (hcd := by kernel_rfl) (hclo := rfl) (hg := rfl) (hbu := rfl) (hk := rfl) (hco := rfl) (hgen := rfl) (hbind := ?_) (hlen := rfl) (hps := by decide) (hn := rfl) (h := ?_)
  · intro vs h
    match vs, h with
    | [a, b], _ => rfl
  intro c base outer o KS K
  dsimp only at KS
  refine ExR.le (ExR.unpackR (EvR.callR o K (Fv.glob o (KS.gl (by decide)) gf_at_one_scale.g (by decide)) gf_at_one_scale.k (Evs.one ?_ (Evs.one ?_ Evs.nil)) (r_at_one_scale (.dec t p) n2))) fun e h z => .inl z
  · tb_start
  · tb_start
theorem r_least0 : Cr w (k + 3) (.ref 215) [.lst []] := by
  refine' Cr.intro (k := k + 2) (ps := [Str.ofString "values"]) (ho := rfl) (hb := rfl) (hcd := by kernel_rfl) (hclo := rfl) (hg := rfl) (hbu := rfl) (hk := rfl) (hco := rfl) (hgen := rfl) (hbind := ?_) (hlen := rfl) (hps := by decide) (hn := rfl) (h := ?_)
  · intro vs h
    match vs, h with
    | [a], _ => rfl
  intro c base outer o KS K
  dsimp only at KS
  refine ExR.ifD (β := true) (Tr.is_of (Tr.cmp (evB o (KS.gl (by decide)) bf_len (by tb_start) (Cl.lenL (by simp)) rfl) Ev.int CmpOk.eq) rfl) (fun _ => ?_) fun h => by cases h
  exact ExR.raise o K (KS.gl (by decide))
theorem r_greatest0 : Cr w (k + 3) (.ref 222) [.lst []] := by
  refine' Cr.intro (k := k + 2) (ps := [Str.ofString "values"]) (ho := rfl) (hb := rfl) (hcd := by kernel_rfl) (hclo := rfl) (hg := rfl) (hbu := rfl) (hk := rfl) (hco := rfl) (hgen := rfl) (hbind := ?_) (hlen := rfl) (hps := by decide) (hn := rfl) (h := ?_)
  · intro vs h
    match vs, h with
    | [a], _ => rfl
  intro c base outer o KS K
  dsimp only at KS
  refine ExR.ifD (β := true) (Tr.is_of (Tr.cmp (evB o (KS.gl (by decide)) bf_len (by tb_start) (Cl.lenL (by simp)) rfl) Ev.int CmpOk.eq) rfl) (fun _ => ?_) fun h => by cases h
  exact ExR.raise o K (KS.gl (by decide))
theorem r_least2 {d e : D} {t : Int} {p : Nat} (n1 : Num d t p) (n2 : noNum e = true) : Cr w (k + 6) (.ref 215) [.lst [d, e]] := by
  refine' Cr.intro (k := k + 5) (ps := [Str.ofString "values"]) (ho := rfl) (hb := rfl) (hcd := by kernel_rfl) (hclo := rfl) (hg := rfl) (hbu := rfl) (hk := rfl) (hco := rfl) (hgen := rfl) (hbind := ?_) (hlen := rfl) (hps := by decide) (hn := rfl) (h := ?_)
  · intro vs h
    match vs, h with
    | [a], _ => rfl
  intro c base outer o KS K
  dsimp only at KS
  refine ExR.ifD (β := false) (Tr.is_of (Tr.cmp (evB o (KS.gl (by decide)) bf_len (by tb_start) (Cl.lenL (by simp)) rfl) Ev.int CmpOk.eq) rfl) (fun h => by cases h) fun _ => ?_
  refine' ExR.assignD (d := .dec t p) o (KS.st (by decide) (by decide)) (evF o (KS.gl (by decide)) gf_decimal_of (Evs.one (evItemL (ds := [d, e]) (d := d) o ?_ Ev.int (by decide) (by decide) rfl) Evs.nil) (c_decimal_of n1) rfl) ?_
  · tb_start
  refine' ExR.for1 (n := [e].length) (items := fun i => [e].getD i .none) o K (by decide) (KS.kd _ _ (by decide)) (Iter.list (ds := [e]) o (evDropL (ds := [d, e]) (a := 1) o ?_ Ev.int (by simp))) (by simp) ?_
  · tb_start
  intro c' o' l K' ee ew
  have KS' := l.kd KS
  refine ee ▸ ExR.ifR (TrR.cmp (EvR.meth (ds := [e]) (t := t) (p := p) o' K' mf_compared ?_ (Evs.one ?_ Evs.nil) (r_compared (t := t) (p := p) n2)))
  · tb_start
  · tb_start
theorem r_clamped {d e f : D} {b c' : Int × Nat} (n2 : Num e b.1 b.2) (n3 : Num f c'.1 c'.2) (h : ∀ x ∈ [b, c'], intBits x.1 ≤ 1000 ∧ x.2 ≤ 200) (hc : 0 < cmpN b c') :
    Cr w (k + 6) (.ref 229) [d, e, f] := by
  refine' Cr.intro (k := k + 5) (ps := [Str.ofString "value", Str.ofString "low", Str.ofString "high"]) (ho := rfl) (hb := rfl) (hcd := by kernel_rfl) (hclo := rfl) (hg := rfl) (hbu := rfl) (hk := rfl) (hco := rfl) (hgen := rfl) (hbind := ?_) (hlen := rfl) (hps := by decide) (hn := rfl) (h := ?_)
  · intro vs h
    match vs, h with
    | [a, b, c], _ => rfl
  intro c base outer o KS K
  dsimp only at KS
  have hb := h b (by simp)
  have hc2 := h c' (by simp)
  refine ExR.ifD (β := true) (Tr.is_of (Tr.cmp (evM o mf_compared (evF o (KS.gl (by decide)) gf_decimal_of ?_ (c_decimal_of n2) rfl) ?_ (c_compared n3 hb.1 hc2.1 hb.2 hc2.2)) Ev.int CmpOk.gt) (decide_eq_true hc)) (fun _ => ?_) fun h => by cases h
  · tb_start
  · tb_start
  exact ExR.raise o K (KS.gl (by decide))
end
end
-- part X8
section
/-- the contract of a call that looks at the frames below, and changes nothing else -/
def ClF (w : World) (k : Nat) (f : Value) (ds : List D) (d : D) : Prop :=
  ∀ (A : Around) (P : Addr → Prop) (s : Shared) (vs : List Value) (base : Heap) (outer : List Env) (Q E : Value → Shared → Prop),
    AOk A k → Gl w base → (∀ a, P a → ∃ o, s.heap.get? a = some o) → RdAll P s.heap vs ds → A.frames = some outer → base.StaysIn s.heap → s.heap.FunFrames base outer →
    (∀ v h' tk, base.StaysIn h' → s.heap.UpToSlots h' → Rd P h' v d → Q v { s with heap := h', toks := tk }) → wpAny (model pw w) A (call f vs) Q E s
inductive Refuses (w : World) (k : Nat) : Int → List D → Prop
  | w0 {d : D} : Cr w k (.ref 168) [d] → Refuses w k 0 [d]
  | w1 {ds : List D} : Cr w k (.ref 215) [.lst ds] → Refuses w k 1 ds
  | w2 {ds : List D} : Cr w k (.ref 222) [.lst ds] → Refuses w k 2 ds
  | w3 {a b c : D} : Cr w k (.ref 229) [a, b, c] → Refuses w k 3 [a, b, c]
  | w4 {t : Int} {p : Nat} {e : D} : Cr w k (.ref 63) [.dec t p, e] → Refuses w k 4 [.dec t p, e]
section
variable {w : World} {k : Nat}
theorem c_law_refused {way : Int} {ds : List D} (rf : Refuses w k way ds) : ClF w (k + 1) (.ref 290) [.int way, .lst ds] (.bool true) := by
  intro A P s vs base outer Q E room Gb PB r fr st ff hQ
  have G : Gl w s.heap := Gb.keeps st
  obtain ⟨v1, v2, rfl, a1, a2⟩ := r.two
  refine' wpAny_call (enterX (k := k) (h₀ := s.heap) (P := P) (I := fun _ => True) (S := fun _ => False) (vs := [v1, v2]) (ds := [.int way, .lst ds]) (ps := [Str.ofString "way", Str.ofString "values"])
    (ho := rfl) (hb := rfl) (hcd := by kernel_rfl) (hclo := rfl) (hg := rfl) (hbu := rfl) (hk := rfl) (hco := rfl) (hgen := rfl) (hbind := BindsTo.of_eq rfl) (hps := by decide) (hn := rfl) room.room (fun env => room.deeper env) G (Stay.refl _) PB (.cons a1 (.cons a2 .nil)) trivial (fun _ h => h.elim) (fun _ _ _ _ => trivial) ?_)
  intro c o KS cw ch ci cs cA cf cc p1 p2 lsz h₁ t₁ stay st1
  dsimp only at KS
  subst cw
  have cells : ∀ x, c.env.cells.lookup x = none := fun x => by rw [cc]; rfl
  have K : Stk c base outer := ⟨by rw [cA]; exact Around.frames_deeper fr, cf, ch ▸ st, ch ▸ ff⟩
  have hL0 : s.heap.get? c.env.locals = none := ch ▸ o.hL
  have bL : base.get? c.env.locals = none := by
    cases e : base.get? c.env.locals with
    | none => rfl
    | some ob => have := st _ _ e; rw [hL0] at this; cases this
  refine wpAny_execs_cons (wpAny_Assign_Name (wpAny_Constant_int (noE (store_at (o' := o) st1 (.int 0 _) (KS.st (by decide) (by decide)).1 (KS.st (by decide) (by decide)).2 fun h₂ t₂ st2 ext2 => ?_))))
  refine wpAny_execs_cons (wpAny_Try_except ?_)
  have body : ExR c (Fly base (c.env :: outer)) (upd (bindRho ([Str.ofString "way", Str.ofString "values"].zip [D.int way, D.lst ds]) emp) (Str.ofString "heard") (D.int 0)) (match (KW c.w).lookup 290 with | some ⟨_, _, .func fd, _⟩ => (match fd.body with | .stmts [_, .Try b _ _ _ _, _] => b | _ => []) | _ => []) := by
    show ExR c _ _ (_ :: _)
    cases rf with
    | w0 h =>
      refine ExR.ifD (β := true) (Tr.is_of (Tr.cmp (a := .int 0) (by tb_start) Ev.int CmpOk.eq) rfl) (fun _ => ?_) fun h => by cases h
      refine ExR.exprR (EvR.callR o K (Fv.glob o (KS.gl (by decide)) gf_decimal_of.g (by decide)) gf_decimal_of.k (Evs.one (evItemL o (by tb_start) Ev.int (by decide) (by decide) rfl) Evs.nil) h) o
    | w1 h =>
      refine ExR.ifD (β := false) (Tr.is_of (Tr.cmp (a := .int 1) (by tb_start) Ev.int CmpOk.eq) rfl) (fun h => by cases h) fun _ => ?_
      refine ExR.ifD (β := true) (Tr.is_of (Tr.cmp (a := .int 1) (by tb_start) Ev.int CmpOk.eq) rfl) (fun _ => ?_) fun h => by cases h
      refine ExR.exprR (EvR.callR o K (Fv.glob o (KS.gl (by decide)) gf_least.g (by decide)) gf_least.k (Evs.one (by tb_start) Evs.nil) h) o
    | w2 h =>
      refine ExR.ifD (β := false) (Tr.is_of (Tr.cmp (a := .int 2) (by tb_start) Ev.int CmpOk.eq) rfl) (fun h => by cases h) fun _ => ?_
      refine ExR.ifD (β := false) (Tr.is_of (Tr.cmp (a := .int 2) (by tb_start) Ev.int CmpOk.eq) rfl) (fun h => by cases h) fun _ => ?_
      refine ExR.ifD (β := true) (Tr.is_of (Tr.cmp (a := .int 2) (by tb_start) Ev.int CmpOk.eq) rfl) (fun _ => ?_) fun h => by cases h
      refine ExR.exprR (EvR.callR o K (Fv.glob o (KS.gl (by decide)) gf_greatest.g (by decide)) gf_greatest.k (Evs.one (by tb_start) Evs.nil) h) o
    | @w3 a b c' h =>
      refine ExR.ifD (β := false) (Tr.is_of (Tr.cmp (a := .int 3) (by tb_start) Ev.int CmpOk.eq) rfl) (fun h => by cases h) fun _ => ?_
      refine ExR.ifD (β := false) (Tr.is_of (Tr.cmp (a := .int 3) (by tb_start) Ev.int CmpOk.eq) rfl) (fun h => by cases h) fun _ => ?_
      refine ExR.ifD (β := false) (Tr.is_of (Tr.cmp (a := .int 3) (by tb_start) Ev.int CmpOk.eq) rfl) (fun h => by cases h) fun _ => ?_
      refine ExR.ifD (β := true) (Tr.is_of (Tr.cmp (a := .int 3) (by tb_start) Ev.int CmpOk.eq) rfl) (fun _ => ?_) fun h => by cases h
      refine ExR.exprR (EvR.callR o K (Fv.glob o (KS.gl (by decide)) gf_clamped.g (by decide)) gf_clamped.k (Evs.one (evItemL (ds := [a, b, c']) o (by tb_start) Ev.int (by decide) (by decide) rfl) (Evs.one (evItemL (ds := [a, b, c']) o (by tb_start) Ev.int (by decide) (by decide) rfl) (Evs.one (evItemL (ds := [a, b, c']) o (by tb_start) Ev.int (by decide) (by decide) rfl) Evs.nil))) h) o
    | @w4 t p e h =>
      refine ExR.ifD (β := false) (Tr.is_of (Tr.cmp (a := .int 4) (by tb_start) Ev.int CmpOk.eq) rfl) (fun h => by cases h) fun _ => ?_
      refine ExR.ifD (β := false) (Tr.is_of (Tr.cmp (a := .int 4) (by tb_start) Ev.int CmpOk.eq) rfl) (fun h => by cases h) fun _ => ?_
      refine ExR.ifD (β := false) (Tr.is_of (Tr.cmp (a := .int 4) (by tb_start) Ev.int CmpOk.eq) rfl) (fun h => by cases h) fun _ => ?_
      refine ExR.ifD (β := false) (Tr.is_of (Tr.cmp (a := .int 4) (by tb_start) Ev.int CmpOk.eq) rfl) (fun h => by cases h) fun _ => ?_
      refine ExR.exprR (EvR.meth (ds := [e]) (t := t) (p := p) o K mf_plus (evItemL (ds := [.dec t p, e]) o (by tb_start) Ev.int (by decide) (by decide) rfl) (Evs.one (evItemL (ds := [.dec t p, e]) o (by tb_start) Ev.int (by decide) (by decide) rfl) Evs.nil) h) o
  refine body _ _ _ st2 fun e h₃ t₃ hx ρx sx up ⟨a0, z⟩ => ?_
  refine wpAny_looks_onW K.fr K.fm z fun h₄ held up4 => wpAny_landsW held fun h₅ fl5 up5 => ?_
  have G5 : Gl c.w h₅ := Gb.keeps fl5.1
  obtain ⟨lo, mg, mb, mean, T⟩ := G5.top
  obtain ⟨oe, he, hcls⟩ := fl5.there
  refine wpAny_handleBy_cons (codeAny_handlers_test (Name_function_global o.fn (KS.gl (by decide)) (loadGlobal_global (o.eg ▸ T.g) (mg_of G5.kin T.g gf_PaperError.g) ?_) (by decide))) (by intro q; cases q)
  refine wpAny_excMatches_sub_self (pe_cls G5) he hcls (by decide) (codeAny_handlers_suite ?_)
  refine lands_againW fl5 fun h₆ fl6 up6 => ?_
  have upx : hx.UpToSlots h₆ := ((up.trans up4).trans up5).trans up6
  obtain ⟨mx, cmx, Vx⟩ := sx.vars
  have ns6 : h₆.Ns c.env.locals mx := upx.ns Vx.ns
  refine wpAny_execs_cons (wpAny_Assign_Name (wpAny_Constant_int (wpAny_storeName_local (KS.kd (Str.ofString "heard") .local (by decide)) ns6 (fun h₇ hn7 sb7 => wpAny_execs_nil ?_) (by rw [o.fn]; rfl))))
  -- behind the clause: the frame's own context, over the base
  let c' : Cx := { c with h₀ := base, P := fun a => a = c.env.locals, I := fun _ => True, S := fun _ => False }
  have o' : c'.Ok k := {
    gl := Gb
    room := o.room
    fn := o.fn
    eg := o.eg
    eb := o.eb
    PL := rfl
    Pc := fun x a e => by rw [show c'.env.cells.lookup x = none from cells x] at e; cases e
    hL := bL
    hc := fun x a e => by rw [show c'.env.cells.lookup x = none from cells x] at e; cases e
    apart := fun x a e => by rw [show c'.env.cells.lookup x = none from cells x] at e; cases e
    inj := fun x y a e => by rw [show c'.env.cells.lookup x = none from cells x] at e; cases e
    inv := fun _ _ _ _ => trivial
    SL := fun z => z }
  have keep7 : ∀ b ob, b ≠ c.env.locals → h₆.get? b = some ob → h₇.get? b = some ob := fun b ob nb e => (sb7.2 b nb).trans e
  have st7 : St c' h₇ (upd emp (Str.ofString "heard") (.int 1)) := {
    keep := fun b ob e => keep7 b ob (fun z => by rw [z] at e; rw [show base.get? c.env.locals = some ob from e] at bL; cases bL) (fl6.1 _ _ e)
    PB := fun a ha => by
      obtain ⟨ol, _, _, hol, _⟩ := hn7
      have ha : a = c.env.locals := ha
      exact ⟨ol, ha ▸ hol⟩
    SB := fun a ha => ha.elim
    inv := trivial
    vars := ⟨_, fun _ => none, hn7, (fun x a e => by rw [show c'.env.cells.lookup x = none from cells x] at e; cases e), fun x d e => by
      unfold upd emp at e
      split at e
      · rename_i hxe
        cases e
        exact ⟨_, ⟨hxe ▸ (by decide), .inl ⟨hxe ▸ KS.kd (Str.ofString "heard") .local (by decide), if_pos hxe⟩⟩, .int _ _⟩
      · cases e⟩ }
  have KS' : KD c' _ := ⟨KS.kd, fun x e => let ⟨a, h1, h2⟩ := KS.cs x e; ⟨a, h1, fun z => z⟩⟩
  refine noE ((Ex.retD (d := .bool true) (c := c') (Ev.is_of (Ev.cmp (a := .int 1) ?_ Ev.int CmpOk.eq) rfl)) _ _ st7 fun r f h₈ t₈ hr hout ext8 => ?_)
  · tb_start
  cases hr
  obtain ⟨v, ρ', rfl, rv, s8⟩ := hout
  cases rv
  have slots7 : s.heap.UpToSlots h₆ := (Heap.UpToSlots.of_keeps (ch ▸ sx.keep)).trans upx
  refine hQ _ h₈ t₈ s8.keep (fun b ob e nf => ?_) (.bool _)
  have nb : b ≠ c.env.locals := fun z => by rw [z, hL0] at e; cases e
  obtain ⟨sl, e6⟩ := slots7 b ob e nf
  exact ⟨sl, ext8 b _ nb (keep7 b _ nb e6)⟩
end
end
-- part X9
section
abbrev Cx.wi (c : Cx) (J : Heap → Prop) : Cx := { c with I := J }
section
variable {c : Cx} {ρ : Rho} {k : Nat}
theorem St.wi {J : Heap → Prop} {h : Heap} (x : St c h ρ) (i : J h) : St (c.wi J) h ρ :=
  ⟨x.keep, x.PB, x.SB, i, let ⟨m, cm, V⟩ := x.vars; ⟨m, cm, ⟨V.ns, V.cell, V.rd⟩⟩⟩
theorem Cx.Ok.wi {J : Heap → Prop} (o : c.Ok k) (i : ∀ h h', J h → (∀ b ob, c.S b → h.get? b = some ob → h'.get? b = some ob) → J h') : (c.wi J).Ok k :=
  ⟨o.gl, o.room, o.fn, o.eg, o.eb, o.PL, o.Pc, o.hL, o.hc, o.apart, o.inj, i, o.SL⟩
theorem KD.wi {J : Heap → Prop} {names : List (Str × NameKind)} (K : KD c names) : KD (c.wi J) names := ⟨K.kd, K.cs⟩
/-- statements that change the invariant -/
def ExJ (c : Cx) (J : Heap → Prop) (ρ : Rho) (ss : List Stmt) (Ψ : Res → Prop) : Prop :=
  ∀ (s : Shared) (Q : Flow → Shared → Prop), St c s.heap ρ →
    (∀ r f h' tk, Ψ r → Out (c.wi J) h' r f → Ext c.P s.heap h' → Q f { s with heap := h', toks := tk }) →
    wpAny (model pw c.w) c.A (execs ss c.env) Q NoE s
def EvJ (c : Cx) (J : Heap → Prop) (ρ : Rho) (e : PySem.Expr) (Φ : D → Prop) : Prop :=
  ∀ (s : Shared) (Q : Value → Shared → Prop), St c s.heap ρ →
    (∀ v d h' tk, Φ d → St (c.wi J) h' ρ → Rd c.P h' v d → Ext c.P s.heap h' → Q v { s with heap := h', toks := tk }) →
    wpAny (model pw c.w) c.A (eval e c.env) Q NoE s
theorem EvJ.of {J : Heap → Prop} {e : PySem.Expr} {Φ : D → Prop} (h : Ev c ρ e Φ) (i : ∀ h, c.I h → J h) : EvJ c J ρ e Φ := fun s Q hs hQ => h s Q hs fun v d h' tk a b r x => hQ v d h' tk a (b.wi (i _ b.inv)) r x
theorem EvJ.mono {J : Heap → Prop} {e : PySem.Expr} {Φ Ψ : D → Prop} (h : EvJ c J ρ e Φ) (i : ∀ d, Φ d → Ψ d) : EvJ c J ρ e Ψ := fun s Q hs hQ => h s Q hs fun v d h' tk a => hQ v d h' tk (i _ a)
theorem ExJ.of {J : Heap → Prop} {ss : List Stmt} {Ψ : Res → Prop} (h : Ex c ρ ss Ψ) (i : ∀ h, c.I h → J h) : ExJ c J ρ ss Ψ := fun s Q hs hQ => h s Q hs fun r f h' tk a b x => hQ r f h' tk a (by
  cases r with
  | next ρ' => exact ⟨b.1, b.2.wi (i _ b.2.inv)⟩
  | ret d => obtain ⟨v, ρ', e, rv, s⟩ := b; exact ⟨v, ρ', e, rv, s.wi (i _ s.inv)⟩
  | brk ρ' => exact ⟨b.1, b.2.wi (i _ b.2.inv)⟩) x
theorem ExJ.ifD {J : Heap → Prop} {t : PySem.Expr} {b o rest : List Stmt} {pos : Pos} {β : Bool} {Ψ : Res → Prop} (ht : Tr c ρ t (is β)) (h1 : β = true → ExJ c J ρ (b ++ rest) Ψ) (h2 : β = false → ExJ c J ρ (o ++ rest) Ψ) : ExJ c J ρ (.If t b o pos :: rest) Ψ := by
  intro s Q hs hQ
  rw [exec_if_cons]
  refine wpAny_bind (wpAny_standAt (wpAny_bind (ht s _ hs fun β' h₁ t₁ hβ s₁ e₁ => ?_)))
  cases hβ
  cases β with
  | true => exact h1 rfl _ Q s₁ fun r f h₂ t₂ x y z => hQ r f h₂ t₂ x y (e₁.trans z)
  | false => exact h2 rfl _ Q s₁ fun r f h₂ t₂ x y z => hQ r f h₂ t₂ x y (e₁.trans z)
theorem ExJ.assign {J : Heap → Prop} {x : Str} {pos' pos : Pos} {e : PySem.Expr} {rest : List Stmt} {Φ : D → Prop} {Ψ : Res → Prop} (o' : c.Ok k) (hx : Stores c x) (h : Ev c ρ e Φ) (i : ∀ d, Φ d → ExJ c J (upd ρ x d) rest Ψ)
    (hs : swapsWith e (some (.Name x pos')) pos.line c.env = pure false := by rfl) : ExJ c J ρ (.Assign [.Name x pos'] e pos :: rest) Ψ := by
  intro s Q st hQ
  refine wpAny_execs_cons (wpAny_Assign_Name (h s _ st fun v d h₁ t₁ hd s₁ r₁ e₁ => ?_) hs)
  refine store_at (o' := o') s₁ r₁ hx.1 hx.2 fun h₂ t₂ s₂ e₂ => ?_
  exact i d hd _ Q s₂ fun r f h₃ t₃ x y z => hQ r f h₃ t₃ x y ((e₁.trans e₂).trans z)
theorem ExJ.assignD {J : Heap → Prop} {x : Str} {pos' pos : Pos} {e : PySem.Expr} {rest : List Stmt} {d : D} {Ψ : Res → Prop} (o' : c.Ok k) (hx : Stores c x) (h : Ev c ρ e (is d)) (i : ExJ c J (upd ρ x d) rest Ψ)
    (hs : swapsWith e (some (.Name x pos')) pos.line c.env = pure false := by rfl) : ExJ c J ρ (.Assign [.Name x pos'] e pos :: rest) Ψ := ExJ.assign o' hx h (fun d' e => by cases e; exact i) hs
/-- a name gets what changes the invariant -/
theorem ExJ.assignJ {J J' : Heap → Prop} {x : Str} {pos' pos : Pos} {e : PySem.Expr} {rest : List Stmt} {Φ : D → Prop} {Ψ : Res → Prop} (o' : (c.wi J').Ok k) (hx : Stores c x) (h : EvJ c J' ρ e Φ) (i : ∀ d, Φ d → ExJ (c.wi J') J (upd ρ x d) rest Ψ)
    (hs : swapsWith e (some (.Name x pos')) pos.line c.env = pure false := by rfl) : ExJ c J ρ (.Assign [.Name x pos'] e pos :: rest) Ψ := by
  intro s Q st hQ
  refine wpAny_execs_cons (wpAny_Assign_Name (h s _ st fun v d h₁ t₁ hd s₁ r₁ e₁ => ?_) hs)
  refine store_at (c := c.wi J') (o' := o') s₁ r₁ hx.1 hx.2 fun h₂ t₂ s₂ e₂ => ?_
  exact i d hd _ Q s₂ fun r f h₃ t₃ x y z => hQ r f h₃ t₃ x y ((e₁.trans e₂).trans z)
theorem ExJ.ret {J : Heap → Prop} {e : PySem.Expr} {rest : List Stmt} {pos : Pos} {Φ : D → Prop} {Ψ : Res → Prop} (h : EvJ c J ρ e Φ) (i : ∀ d, Φ d → Ψ (.ret d)) : ExJ c J ρ (.Return (some e) pos :: rest) Ψ := by
  intro s Q hs hQ
  exact wpAny_execs_cons (wpAny_Return_some (h s _ hs fun v d h₁ t₁ hd s₁ r₁ e₁ => hQ (.ret d) (.ret v) h₁ t₁ (i d hd) ⟨v, ρ, rfl, r₁, s₁⟩ e₁))
theorem EvJ.bin {J J' : Heap → Prop} {l r : PySem.Expr} {op : Operator} {pos : Pos} {Φ Ψ Θ : D → Prop} (hl : EvJ c J ρ l Φ) (hr : EvJ (c.wi J) J' ρ r Ψ)
    (ho : ∀ (a b : D), Φ a → Ψ b → ∀ (v u : Value) (s : Shared) (Q : Value → Shared → Prop), Rd c.P s.heap v a → Rd c.P s.heap u b →
      (∀ y d tk, Θ d → Rd c.P s.heap y d → Q y { s with toks := tk }) → wpAny (model pw c.w) c.A (binaryOp op v u) Q NoE s) : EvJ c J' ρ (.BinOp l op r pos) Θ := by
  intro s Q hs hQ
  refine wpAny_BinOp (hl s _ hs fun v a h₁ t₁ ha s₁ ra e₁ => hr _ _ s₁ fun u b h₂ t₂ hb s₂ rb e₂ => ?_)
  exact ho a b ha hb v u _ _ (ra.ext e₂) rb fun y d tk hd hy => hQ y d h₂ tk hd s₂ hy (e₁.trans e₂)
def IntD (p : Int → Prop) (d : D) : Prop := ∃ i, d = .int i ∧ p i
theorem EvJ.add {J J' : Heap → Prop} {l r : PySem.Expr} {pos : Pos} {p q : Int → Prop} (hl : EvJ c J ρ l (IntD p)) (hr : EvJ (c.wi J) J' ρ r (IntD q)) : EvJ c J' ρ (.BinOp l .Add r pos) (IntD fun z => ∃ x y, p x ∧ q y ∧ z = x + y) :=
  EvJ.bin hl hr fun a b ⟨x, ea, hx⟩ ⟨y, eb, hy⟩ v u s Q ra rb hQ => by
    cases ea; cases eb; cases ra; cases rb
    exact PyProof.Rows.add_int (hQ _ _ _ ⟨_, rfl, x, y, hx, hy, rfl⟩ (.int _ _))
theorem EvJ.sub {J J' : Heap → Prop} {l r : PySem.Expr} {pos : Pos} {p q : Int → Prop} (hl : EvJ c J ρ l (IntD p)) (hr : EvJ (c.wi J) J' ρ r (IntD q)) : EvJ c J' ρ (.BinOp l .Sub r pos) (IntD fun z => ∃ x y, p x ∧ q y ∧ z = x - y) :=
  EvJ.bin hl hr fun a b ⟨x, ea, hx⟩ ⟨y, eb, hy⟩ v u s Q ra rb hQ => by
    cases ea; cases eb; cases ra; cases rb
    exact PyProof.Rows.sub_int (hQ _ _ _ ⟨_, rfl, x, y, hx, hy, rfl⟩ (.int _ _))
theorem EvJ.mul {J J' : Heap → Prop} {l r : PySem.Expr} {pos : Pos} {p q : Int → Prop} (hl : EvJ c J ρ l (IntD p)) (hr : EvJ (c.wi J) J' ρ r (IntD q)) (hm : ∀ x y, p x → q y → IntMulOk x y) : EvJ c J' ρ (.BinOp l .Mult r pos) (IntD fun z => ∃ x y, p x ∧ q y ∧ z = x * y) :=
  EvJ.bin hl hr fun a b ⟨x, ea, hx⟩ ⟨y, eb, hy⟩ v u s Q ra rb hQ => by
    cases ea; cases eb; cases ra; cases rb
    exact PyProof.Rows.mul_int (hQ _ _ _ ⟨_, rfl, x, y, hx, hy, rfl⟩ (.int _ _)) (hm x y hx hy)
theorem EvJ.pow10 {J J' : Heap → Prop} {l r : PySem.Expr} {pos : Pos} {q : Int → Prop} (hl : EvJ c J ρ l (is (.int 10))) (hr : EvJ (c.wi J) J' ρ r (IntD q)) (hm : ∀ y, q y → 0 ≤ y ∧ y ≤ 1000000) : EvJ c J' ρ (.BinOp l .Pow r pos) (IntD fun z => ∃ y, q y ∧ z = 10 ^ y.toNat) :=
  EvJ.bin hl hr fun a b ea ⟨y, eb, hy⟩ v u s Q ra rb hQ => by
    cases ea; cases eb; cases ra; cases rb
    have := hm y hy
    have hb : Builtin.Int.intBits 10 ≤ 4 := bits_lit (by decide)
    refine PyProof.Rows.pow_int this.1 ?_ (hQ _ _ _ ⟨_, rfl, y, hy, rfl⟩ (.int _ _))
    have h2 : (Builtin.Int.intBits 10 : Int) * y ≤ 4 * y := Int.mul_le_mul_of_nonneg_right (by omega) this.1
    refine Int.le_trans h2 ?_
    have : (2:Int)^27 = 134217728 := by decide
    omega
/-- two in a tuple -/
theorem EvJ.pair {J J' : Heap → Prop} {a b : PySem.Expr} {n : Nat} {pos : Pos} {p q : Int → Prop} (o : (c.wi J').Ok k) (hl : EvJ c J ρ a (IntD p)) (hr : EvJ (c.wi J) J' ρ b (IntD q))
    (he : starEach [a, b] c.env = (false, eval a c.env) :: starEach [b] c.env := by rfl) (he2 : starEach [b] c.env = (false, eval b c.env) :: starEach [] c.env := by rfl) :
    EvJ c J' ρ (.Tuple [a, b] n pos) (fun d => ∃ x y, d = .tup [.int x, .int y] ∧ p x ∧ q y) := by
  intro s Q hs hQ
  refine wpAny_Tuple (args_cons (hl s _ hs fun v d h₁ t₁ ⟨x, ed, hx⟩ s₁ r₁ e₁ => ?_) he)
  refine args_cons (hr _ _ s₁ fun u d' h₂ t₂ ⟨y, ed', hy⟩ s₂ r₂ e₂ => ?_) he2
  cases ed; cases ed'
  have ra : RdAll c.P h₂ [v, u] [.int x, .int y] := .cons (r₁.ext e₂) (.cons r₂ .nil)
  refine args_nil ⟨by rw [sizeLine_eq]; simp, ?_⟩
  have st := stay_push h₂ { cls := .type "tuple", data := .seq [v, u].toArray }
  exact hQ _ (.tup [.int x, .int y]) _ t₂ ⟨x, y, rfl, hx, hy⟩ (s₂.stay o st) (.tup ⟨_, Heap.get?_push_size _ rfl, rfl, 0, rfl⟩ (fresh_size s₂.PB) (ra.ext st.ext)) ((e₁.trans e₂).trans st.ext)
end
end
-- part X10
section
open Builtin.Int
/-- the pen as it lies -/
def PX (pa ca : Addr) (cv : Array Value) (spot rest : Int) (h : Heap) : Prop := ∃ t1 t2, h.IsList pa #[.ref ca, .int spot t1, .int rest t2] ∧ h.IsList ca cv
def Pen (pa ca : Addr) (cv : Array Value) (n : Int) (h : Heap) : Prop := ∃ spot rest, PX pa ca cv spot rest h ∧ 0 ≤ spot ∧ spot ≤ n ∧ 0 ≤ rest
def Cells (cs : List Int) (cv : Array Value) : Prop := ∀ P h, RdAll P h cv.toList (cs.map .int)
theorem PX.ext {pa ca : Addr} {cv : Array Value} {a b : Int} {h h' : Heap} (x : PX pa ca cv a b h) (k : ∀ z o, (z = pa ∨ z = ca) → h.get? z = some o → h'.get? z = some o) : PX pa ca cv a b h' := by
  obtain ⟨t1, t2, ⟨o1, e1, r1⟩, o2, e2, r2⟩ := x
  exact ⟨t1, t2, ⟨o1, k _ _ (.inl rfl) e1, r1⟩, o2, k _ _ (.inr rfl) e2, r2⟩
theorem Pen.ext {pa ca : Addr} {cv : Array Value} {n : Int} {h h' : Heap} (x : Pen pa ca cv n h) (k : ∀ z o, (z = pa ∨ z = ca) → h.get? z = some o → h'.get? z = some o) : Pen pa ca cv n h' := by
  obtain ⟨a, b, x, r⟩ := x
  exact ⟨a, b, x.ext k, r⟩
theorem Pen.le {pa ca : Addr} {cv : Array Value} {n m : Int} {h : Heap} (x : Pen pa ca cv n h) (k : n ≤ m) : Pen pa ca cv m h := by
  obtain ⟨a, b, x, r1, r2, r3⟩ := x
  exact ⟨a, b, x, r1, by omega, r3⟩
structure PenC (c : Cx) (pa ca : Addr) : Prop where
  Pp : c.P pa
  nca : ¬ c.P ca
  Sp : c.S pa
  Sc : c.S ca
  h0 : c.h₀.get? pa = none
  ne : pa ≠ ca
  cell : ∀ x a, c.env.cells.lookup x = some a → a ≠ pa
section
variable {c : Cx} {ρ : Rho} {k : Nat} {pa ca : Addr} {cv : Array Value} {cs : List Int} {spot rest : Int}
theorem PenC.loc (p : PenC c pa ca) (o : c.Ok k) : pa ≠ c.env.locals := fun z => o.SL (z ▸ p.Sp)
/-- a change of the pen alone -/
theorem St.pen {J : Heap → Prop} {h h' : Heap} (p : PenC c pa ca) (o : c.Ok k) (x : St c h ρ) (sb : Heap.SameBut pa h h') (ex : ∃ ob, h'.get? pa = some ob) (i : J h') : St (c.wi J) h' ρ := by
  have keep : ∀ b ob, b ≠ pa → h.get? b = some ob → h'.get? b = some ob := fun b ob nb e => (sb.2 b nb).trans e
  have exs : ∀ b, (∃ ob, h.get? b = some ob) → ∃ ob, h'.get? b = some ob := fun b ⟨ob, e⟩ => by
    by_cases z : b = pa
    · exact z ▸ ex
    · exact ⟨ob, keep b ob z e⟩
  obtain ⟨m, cm, V⟩ := x.vars
  refine ⟨fun b ob e => keep b ob (fun z => by rw [z, p.h0] at e; cases e) (x.keep b ob e), fun a ha => exs a (x.PB a ha), fun a ha => exs a (x.SB a ha), i, m, cm, V.ns.at' fun ob e => keep _ ob (Ne.symm (p.loc o)) e, fun y a e => ?_, fun y d e => ?_⟩
  · obtain ⟨oc, hoc, hd⟩ := V.cell y a e
    exact ⟨oc, keep _ _ (p.cell y a e) hoc, hd⟩
  · obtain ⟨u, b, r⟩ := V.rd y d e
    exact ⟨u, b, r.ext fun b ob nb e => keep b ob (fun z => nb (z ▸ p.Pp)) e⟩
theorem penExt {h h' : Heap} (p : PenC c pa ca) (sb : Heap.SameBut pa h h') : Ext c.P h h' := fun b ob nb e => (sb.2 b fun z => nb (z ▸ p.Pp)).trans e
/-- pen[1], pen[2] -/
theorem Ev.pen1 {px pc pos : Pos} {n : Nat} (o : c.Ok k) (hI : ∀ h, c.I h → PX pa ca cv spot rest h) (hp : ρ (Str.ofString "pen") = some (.raw (.ref pa))) : Ev c ρ (.Subscript (.Name (Str.ofString "pen") px) (.Constant (.int 1) n pc) pos) (is (.int spot)) := by
  intro s Q hs hQ
  refine Subscript_ (Ev.name o hp s _ hs fun v dd h₁ t₁ ed s₁ r₁ e₁ => wpAny_Constant_int ?_)
  cases ed; cases r₁
  obtain ⟨u1, u2, hl, _⟩ := hI _ s₁.inv
  exact tail_any hl.typeIs slot_list_getitem.lookup (wpAny_getItem_list hl (by decide) (by decide) rfl (hQ _ _ h₁ _ rfl s₁ (.int _ _) e₁)) (by rfl)
theorem Ev.pen2 {px pc pos : Pos} {n : Nat} (o : c.Ok k) (hI : ∀ h, c.I h → PX pa ca cv spot rest h) (hp : ρ (Str.ofString "pen") = some (.raw (.ref pa))) : Ev c ρ (.Subscript (.Name (Str.ofString "pen") px) (.Constant (.int 2) n pc) pos) (is (.int rest)) := by
  intro s Q hs hQ
  refine Subscript_ (Ev.name o hp s _ hs fun v dd h₁ t₁ ed s₁ r₁ e₁ => wpAny_Constant_int ?_)
  cases ed; cases r₁
  obtain ⟨u1, u2, hl, _⟩ := hI _ s₁.inv
  exact tail_any hl.typeIs slot_list_getitem.lookup (wpAny_getItem_list hl (by decide) (by decide) rfl (hQ _ _ h₁ _ rfl s₁ (.int _ _) e₁)) (by rfl)
theorem Ev.pen0 {px pc pos : Pos} {n : Nat} (p : PenC c pa ca) (o : c.Ok k) (hc : Cells cs cv) (hI : ∀ h, c.I h → PX pa ca cv spot rest h) (hp : ρ (Str.ofString "pen") = some (.raw (.ref pa))) : Ev c ρ (.Subscript (.Name (Str.ofString "pen") px) (.Constant (.int 0) n pc) pos) (is (.lst (cs.map .int))) := by
  intro s Q hs hQ
  refine Subscript_ (Ev.name o hp s _ hs fun v dd h₁ t₁ ed s₁ r₁ e₁ => wpAny_Constant_int ?_)
  cases ed; cases r₁
  obtain ⟨u1, u2, hl, hl2⟩ := hI _ s₁.inv
  exact tail_any hl.typeIs slot_list_getitem.lookup (wpAny_getItem_list hl (by decide) (by decide) rfl (hQ _ _ h₁ _ rfl s₁ (.lst (vs := cv.toList) (by simpa using hl2) p.nca (hc _ _)) e₁)) (by rfl)
/-- pen[1] = e, pen[2] = e -/
theorem ExJ.pset {J : Heap → Prop} {i : Int} {v spot' rest' : Int} {px pc ps pos : Pos} {n : Nat} {e : PySem.Expr} {ss : List Stmt} {Ψ : Res → Prop} (p : PenC c pa ca) (o : c.Ok k) (hI : ∀ h, c.I h → PX pa ca cv spot rest h) (hp : ρ (Str.ofString "pen") = some (.raw (.ref pa)))
    (hi : (i = 1 ∧ spot' = v ∧ rest' = rest) ∨ (i = 2 ∧ spot' = spot ∧ rest' = v)) (he : Ev c ρ e (is (.int v))) (nx : ExJ (c.wi (PX pa ca cv spot' rest')) J ρ ss Ψ)
    (hs : swapsWith e (some (.Subscript (.Name (Str.ofString "pen") px) (.Constant (.int i) n pc) ps)) pos.line c.env = pure false := by rfl) :
    ExJ c J ρ (.Assign [.Subscript (.Name (Str.ofString "pen") px) (.Constant (.int i) n pc) ps] e pos :: ss) Ψ := by
  intro s Q st hQ
  refine wpAny_execs_cons (wpAny_Assign_Subscript (he s _ st fun v' d h₁ t₁ ed s₁ r₁ e₁ => Ev.name o hp _ _ s₁ fun v'' d'' h₂ t₂ ed'' s₂ r₂ e₂ => wpAny_Constant_int ?_) hs)
  cases ed; cases ed''
  cases r₁ with | int _ tk =>
  cases r₂
  obtain ⟨u1, u2, hl, hl2⟩ := hI _ s₂.inv
  refine wpAny_setItem_list hl ?_ ?_ ?_ fun h₃ hl3 sb3 => ?_
  · rcases hi with ⟨rfl, _⟩ | ⟨rfl, _⟩ <;> decide
  · rcases hi with ⟨rfl, _⟩ | ⟨rfl, _⟩ <;> decide
  · rcases hi with ⟨rfl, _⟩ | ⟨rfl, _⟩ <;> simp
  have hl4 : h₃.IsList ca cv := by obtain ⟨ob, e, r⟩ := hl2; exact ⟨ob, (sb3.2 ca (Ne.symm p.ne)).trans e, r⟩
  have px3 : PX pa ca cv spot' rest' h₃ := by
    rcases hi with ⟨rfl, rfl, rfl⟩ | ⟨rfl, rfl, rfl⟩
    · exact ⟨tk, u2, by simpa using hl3, hl4⟩
    · exact ⟨u1, tk, by simpa using hl3, hl4⟩
  have st3 := s₂.pen p o sb3 (by obtain ⟨ob, e, _⟩ := hl3; exact ⟨ob, e⟩) px3
  exact nx _ Q st3 fun r f h₄ t₄ x y z => hQ r f h₄ t₄ x y (((e₁.trans e₂).trans (penExt p sb3)).trans z)
theorem ExJ.ifSet {J : Heap → Prop} {t e : PySem.Expr} {x : Str} {xp ap pos : Pos} {rest : List Stmt} {β : Bool} {d0 d1 : D} {Ψ : Res → Prop} (o : c.Ok k) (hx : Stores c x) (h0 : ρ x = some d0) (ht : Tr c ρ t (is β)) (he : β = true → Ev c ρ e (is d1))
    (nx : ∀ ρ', (∀ y, y ≠ x → ρ' y = ρ y) → ρ' x = some (if β = true then d1 else d0) → ExJ c J ρ' rest Ψ) (hs : swapsWith e (some (.Name x xp)) ap.line c.env = pure false := by rfl) : ExJ c J ρ (.If t [.Assign [.Name x xp] e ap] [] pos :: rest) Ψ := by
  refine ExJ.ifD ht (fun h => ExJ.assignD o hx (he h) (nx _ (fun y n => upd_ne n) ?_) hs) fun h => nx ρ (fun _ _ => rfl) ?_
  · rw [if_pos h]; exact upd_same
  · rw [if_neg (by rw [h]; decide)]; exact h0
theorem fmod_bits {x m : Int} (h0 : 0 < m) (h : m ≤ 4294967296) : intBits (x.fmod m) ≤ 32 := by
  have h1 := Int.fmod_nonneg_of_pos x h0
  have h2 := Int.fmod_lt_of_pos x h0
  refine intBits_le_iff.mpr ?_
  have : (2:Nat) ^ 32 = 4294967296 := by decide
  omega
theorem fmod_ok (x : Int) {m : Int} (h0 : 0 < m) : 0 ≤ x.fmod m ∧ x.fmod m < m := ⟨Int.fmod_nonneg_of_pos x h0, Int.fmod_lt_of_pos x h0⟩
theorem small_bits {x : Int} {m : Nat} (h0 : 0 ≤ x) (h : x < 2 ^ m) : intBits x ≤ m := by
  refine intBits_le_iff.mpr ?_
  have : ((x.natAbs : Nat) : Int) < ((2 ^ m : Nat) : Int) := by rw [Int.natCast_pow]; simp; omega
  omega
end
end
-- part X11
section
open Builtin.Int
section
variable {w : World} {k : Nat} {pa ca : Addr} {cv : Array Value} {cs : List Int}
theorem c_law_draw {A : Around} {E : Value → Shared → Prop} {s : Shared} {h₀ : Heap} {n many : Int} {tk : Tok} {Q : Value → Shared → Prop} (hn : n ≤ 1000) (hm : 0 < many) (hb : intBits many ≤ 200) (hc : Cells cs cv) (hlen : cs.length ≤ 63)
    (room : AOk A (k + 1)) (G : Gl w h₀) (sub : Stay h₀ s.heap) (h0 : h₀.get? pa = none) (ne : pa ≠ ca) (pen : Pen pa ca cv n s.heap)
    (hQ : ∀ d h' tk t, 0 ≤ d → d < many → Pen pa ca cv (n + 1) h' → Ext (fun a => a = pa) s.heap h' → Q (.int d t) { s with heap := h', toks := tk }) :
    wpAny (model pw w) A (call (.ref 255) [.ref pa, .int many tk]) Q E s := by
  obtain ⟨spot, rest, px, hs0, hs1, hr0⟩ := pen
  have px' := px
  obtain ⟨u1, u2, ⟨o1, e1, _⟩, o2, e2, _⟩ := px'
  refine' wpAny_call (enterX (k := k) (h₀ := h₀) (P := fun a => a = pa) (I := PX pa ca cv spot rest) (S := fun a => a = pa ∨ a = ca) (vs := [.ref pa, .int many tk]) (ds := [.raw (.ref pa), .int many]) (ps := [Str.ofString "pen", Str.ofString "many"])
    (ho := rfl) (hb := rfl) (hcd := by kernel_rfl) (hclo := rfl) (hg := rfl) (hbu := rfl) (hk := rfl) (hco := rfl) (hgen := rfl) (hbind := BindsTo.of_eq rfl) (hps := by decide) (hn := rfl) room.room (fun env => room.deeper env) G sub (fun a ha => ⟨o1, ha ▸ e1⟩) (.cons (.raw _) (.cons (.int _ _) .nil)) px
    (fun a ha => ha.elim (fun z => ⟨o1, z ▸ e1⟩) fun z => ⟨o2, z ▸ e2⟩) (fun h h' i kk => i.ext fun z ob hz e => kk z ob hz e) ?_)
  intro c o KS cw ch ci cS cA cf cc p1 p2 lsz h₁ t₁ stay st
  dsimp only at KS p2
  subst cw
  have cells : ∀ x, c.env.cells.lookup x = none := fun x => by rw [cc]; rfl
  have p : PenC c pa ca := ⟨p1 pa rfl, fun z => (p2 ca z).elim (fun q => ne q.symm) fun q => absurd (Heap.lt_size e2) (Nat.not_lt.mpr q), cS ▸ Or.inl rfl, cS ▸ Or.inr rfl, ch ▸ h0, ne, fun x a e => by rw [cells x] at e; cases e⟩
  have hI : ∀ h, c.I h → PX pa ca cv spot rest h := fun h i => by rw [ci] at i; exact i
  have okJ : ∀ a b, (c.wi (PX pa ca cv a b)).Ok k := fun a b => o.wi fun h h' i kk => i.ext fun z ob hz e => kk z ob (cS ▸ hz) e
  have mne : many ≠ 0 := by omega
  have mb : intBits many ≤ 8000 := bits_mono hb (by decide)
  have rng : ∀ x : Int, 0 ≤ x.fmod many ∧ x.fmod many < many := fun x => fmod_ok x hm
  let Ψ : Res → Prop := fun r => ∃ d, r = .ret (.int d) ∧ 0 ≤ d ∧ d < many
  refine (show ExJ c (Pen pa ca cv (n + 1)) (bindRho ([Str.ofString "pen", Str.ofString "many"].zip [.raw (.ref pa), .int many]) emp) _ Ψ from ?body) _ _ st ?fin |> noE
  case fin =>
    rintro r f h' tk' ⟨d, rfl, d0, d1⟩ ⟨v, ρ', rfl, rv, s'⟩ ext
    cases rv with | int _ t =>
    refine hQ d h' tk' t d0 d1 s'.inv fun b ob nb e => ?_
    exact ext b ob (fun z => (p2 b z).elim nb fun q => absurd (Heap.lt_size e) (Nat.not_lt.mpr q)) (stay b ob e)
  have fin : ∀ a b, 0 ≤ a → a ≤ n + 1 → 0 ≤ b → ∀ h, PX pa ca cv a b h → Pen pa ca cv (n + 1) h := fun a b h1 h2 h3 h x => ⟨a, b, x, h1, h2, h3⟩
  refine ExJ.ifD (β := decide (0 < rest)) (Tr.cmp (Ev.pen2 o hI rfl) Ev.int CmpOk.gt) ?_ ?_
  · intro hr
    refine ExJ.assignD (d := .int (rest.fmod many)) o (KS.st (by decide) (by decide)) (Ev.mod (evT o (KS.gl (by decide)) bf_int (Evs.one (Ev.pen2 o hI rfl) Evs.nil) Cl.int rfl) (by tb_start) mne) ?_
    refine ExJ.pset (v := rest.fdiv many) p o hI rfl (.inr ⟨rfl, rfl, rfl⟩) (Ev.floordiv (evT o (KS.gl (by decide)) bf_int (Evs.one (Ev.pen2 o hI rfl) Evs.nil) Cl.int rfl) (by tb_start) mne mb) ?_
    have o2 := okJ spot (rest.fdiv many)
    refine ExJ.ret (EvJ.of (Ev.name o2 (d := .int (rest.fmod many)) upd_same) (fin _ _ hs0 (by omega) ?_)) fun d e => by cases e; exact ⟨_, rfl, rng _⟩
    rw [Int.fdiv_eq_ediv_of_nonneg _ (by omega)]
    exact Int.ediv_nonneg hr0 (by omega)
  intro hr
  have hr := of_decide_eq_false hr
  have hr : rest = 0 := by omega
  subst hr
  refine ExJ.assignD (d := .int spot) o (KS.st (by decide) (by decide)) (Ev.pen1 o hI rfl) ?_
  refine ExJ.pset (v := spot + 1) p o hI rfl (.inl ⟨rfl, rfl, rfl⟩) (Ev.add (by tb_start) Ev.int) ?_
  have o2 := okJ (spot + 1) 0
  have p2' : PenC (c.wi (PX pa ca cv (spot + 1) 0)) pa ca := ⟨p.Pp, p.nca, p.Sp, p.Sc, p.h0, p.ne, p.cell⟩
  have KS2 : KD (c.wi (PX pa ca cv (spot + 1) 0)) _ := KS.wi
  have hI2 : ∀ h, (c.wi (PX pa ca cv (spot + 1) 0)).I h → PX pa ca cv (spot + 1) 0 h := fun h i => i
  refine ExJ.assignD (d := .int 0) o2 (KS2.st (by decide) (by decide)) Ev.int ?_
  have lenE : ∀ {ρ : Rho} {px pc ps pq pos : Pos} {m : Nat}, ρ (Str.ofString "pen") = some (.raw (.ref pa)) → Ev (c.wi (PX pa ca cv (spot + 1) 0)) ρ (.Call (.Name (Str.ofString "len") pq) [.Subscript (.Name (Str.ofString "pen") px) (.Constant (.int 0) m pc) ps] [] pos) (is (.int (cs.length : Nat))) := fun hp =>
    Ev.is_of (evB o2 (KS2.gl (by decide)) bf_len (Evs.one (Ev.pen0 p2' o2 hc hI2 hp) Evs.nil) (Cl.lenL (by rw [List.length_map]; omega)) rfl) (by rw [List.length_map])
  refine ExJ.ifSet (d0 := .int 0) (d1 := .int (cs.getD (spot.fmod cs.length).toNat 0)) (β := !decide (cs = [])) o2 (KS2.st (by decide) (by decide)) upd_same ?_ ?_ ?_
  · refine Tr.is_of (Tr.cmp (Ev.pen0 p2' o2 hc hI2 rfl) (evList o2 Evs.nil (by simp)) (CmpOk.neD o2 ?_ rfl)) ?_
    · show (cs.map D.int).all (flat 7) = true
      simp [flat]
    · congr 1
      simp [D.lst.injEq]
  · intro hcs
    have hcs : cs ≠ [] := by simpa using hcs
    have hl : 0 < cs.length := List.length_pos_iff.mpr hcs
    have ix := fmod_ok spot (m := (cs.length : Int)) (by omega)
    have lt : (spot.fmod cs.length).toNat < cs.length := by omega
    refine evItemL (ds := cs.map .int) o2 (Ev.pen0 p2' o2 hc hI2 rfl) (Ev.mod (evT o2 (KS2.gl (by decide)) bf_int (Evs.one (by tb_start) Evs.nil) Cl.int rfl) (lenE rfl) (by omega)) ix.1 (by omega) ?_
    rw [List.getElem?_map, List.getElem?_eq_getElem lt, List.getD_eq_getElem?_getD, List.getElem?_eq_getElem lt]
    rfl
  intro ρ hρ hcell
  have hcell2 : ∃ cell, ρ (Str.ofString "cell") = some (.int cell) := by
    rw [hcell]; split <;> exact ⟨_, rfl⟩
  obtain ⟨cell, hcell⟩ := hcell2
  have hpen : ρ (Str.ofString "pen") = some (.raw (.ref pa)) := (hρ _ (by decide)).trans rfl
  have hmany : ρ (Str.ofString "many") = some (.int many) := (hρ _ (by decide)).trans rfl
  have hspot : ρ (Str.ofString "spot") = some (.int spot) := (hρ _ (by decide)).trans rfl
  clear hρ
  refine ExJ.ifD (β := decide (spot < (cs.length : Nat)) && (decide ((10:Int) ^ 18 ≤ (cell.natAbs : Nat)) && true)) (Tr.and (Tr.cmp (by tb_start) (lenE hpen) CmpOk.lt) fun _ => Tr.and (Tr.cmp (evAbs (names := []) o2 (KS2.gl (by decide)) (by tb_start)) (evPow10 (n := 18) Ev.int Ev.int rfl (by decide)) CmpOk.ge) fun _ => Tr.and_nil) ?_ ?_
  · intro hg
    have hg : (10:Int) ^ 18 ≤ (cell.natAbs : Nat) := by
      simp only [Bool.and_eq_true, decide_eq_true_eq] at hg
      exact hg.2.1
    generalize hG : ((cell.natAbs : Nat) : Int) - 10 ^ 18 = great
    have g0 : 0 ≤ great := by omega
    refine ExJ.assignD (d := .int great) o2 (KS2.st (by decide) (by decide)) (Ev.is_of (Ev.sub (evAbs (names := []) o2 (KS2.gl (by decide)) (by tb_start)) (evPow10 (n := 18) Ev.int Ev.int rfl (by decide))) (by rw [hG])) ?_
    refine ExJ.pset (v := great.fdiv many) p2' o2 hI2 ?_ (.inr ⟨rfl, rfl, rfl⟩) (Ev.floordiv (evT o2 (KS2.gl (by decide)) bf_int (Evs.one (by tb_start) Evs.nil) Cl.int rfl) (by tb_start) mne mb) ?_
    · rw [upd_ne (by decide)]; exact hpen
    have o3 := okJ (spot + 1) (great.fdiv many)
    have KS3 : KD (c.wi (PX pa ca cv (spot + 1) (great.fdiv many))) _ := KS.wi
    refine ExJ.ret (Φ := is (.int (great.fmod many))) (EvJ.of (Ev.mod (evT o3 (KS3.gl (by decide)) bf_int (Evs.one (Ev.name o3 (d := .int great) upd_same) Evs.nil) Cl.int rfl) (Ev.name o3 (d := .int many) (by rw [upd_ne (by decide)]; exact hmany)) mne) (fin _ _ (by omega) (by omega) ?_)) fun d e => by cases e; exact ⟨_, rfl, rng _⟩
    rw [Int.fdiv_eq_ediv_of_nonneg _ (by omega)]
    exact Int.ediv_nonneg g0 (by omega)
  intro _
  have sb : intBits spot ≤ 10 := small_bits hs0 (by have : (2:Int)^10 = 1024 := by decide
                                                    omega)
  have b1 : intBits (cell.fmod 2147483587) ≤ 32 := fmod_bits (by decide) (by decide)
  have b2 : intBits (50021 * spot) ≤ 16 + 10 := intBits_mul_le (bits_lit (by decide)) sb
  have b3 : intBits (cell.fmod 2147483587 + 50021 * spot + 6007) ≤ 40 := bits_mono (intBits_add_le (intBits_add_le b1 b2) (bits_lit (m := 13) (by decide))) (by decide)
  generalize hA : cell.fmod 2147483587 + 50021 * spot + 6007 = a at b3
  have b4 : intBits ((a ^ (5:Int).toNat).fmod 2147483629) ≤ 32 := fmod_bits (by decide) (by decide)
  refine ExJ.assignD (d := .int ((a ^ (5:Int).toNat).fmod 2147483629)) o2 (KS2.st (by decide) (by decide)) (Ev.mod (evT o2 (KS2.gl (by decide)) bf_int (Evs.one (Ev.pow (x := a) (y := 5) (Ev.is_of (Ev.add (Ev.add (Ev.mod (evT o2 (KS2.gl (by decide)) bf_int (Evs.one (by tb_start) Evs.nil) Cl.int rfl) Ev.int (by decide)) (Ev.mul Ev.int (by tb_start) (IntMulOk.of_le (bits_lit (m := 16) (by decide)) sb (by decide)))) Ev.int) (by rw [hA])) Ev.int (by decide) ?_) Evs.nil) Cl.int rfl) Ev.int (by decide)) ?_
  · have : (intBits a : Int) * 5 ≤ 200 := by omega
    exact Int.le_trans this (by decide)
  generalize (a ^ (5:Int).toNat).fmod 2147483629 = b at b4
  have b5 : intBits (2 * spot + 3011) ≤ 13 := bits_mono (intBits_add_le (intBits_mul_le (bits_lit (m := 2) (by decide)) sb) (bits_lit (m := 12) (by decide))) (by decide)
  have b6 : intBits (b * (2 * spot + 3011)) ≤ 32 + 13 := intBits_mul_le b4 b5
  have b7 : intBits (701 * spot) ≤ 10 + 10 := intBits_mul_le (bits_lit (by decide)) sb
  have b8 : intBits (701 * spot * spot) ≤ 10 + 10 + 10 := intBits_mul_le b7 sb
  have b9 : intBits (b * (2 * spot + 3011) + 701 * spot * spot + 37) ≤ 50 := bits_mono (intBits_add_le (intBits_add_le b6 b8) (bits_lit (m := 6) (by decide))) (by decide)
  generalize hD : b * (2 * spot + 3011) + 701 * spot * spot + 37 = g at b9
  have eb : ∀ {px : Pos}, Ev (c.wi (PX pa ca cv (spot + 1) 0)) (upd ρ (Str.ofString "churned") (.int b)) (.Name (Str.ofString "spot") px) (is (.int spot)) := fun {_} => Ev.name o2 (by rw [upd_ne (by decide)]; exact hspot)
  refine ExJ.assignD (d := .int ((g ^ (3:Int).toNat).fmod 2147483579)) o2 (KS2.st (by decide) (by decide)) (Ev.mod (evT o2 (KS2.gl (by decide)) bf_int (Evs.one (Ev.pow (x := g) (y := 3) (Ev.is_of (Ev.add (Ev.add (Ev.mul (Ev.name o2 (d := .int b) upd_same) (Ev.add (Ev.mul Ev.int eb (IntMulOk.of_le (bits_lit (m := 2) (by decide)) sb (by decide))) Ev.int) (IntMulOk.of_le b4 b5 (by decide))) (Ev.mul (Ev.mul Ev.int eb (IntMulOk.of_le (bits_lit (m := 10) (by decide)) sb (by decide))) eb (IntMulOk.of_le b7 sb (by decide)))) Ev.int) (by rw [hD])) Ev.int (by decide) ?_) Evs.nil) Cl.int rfl) Ev.int (by decide)) ?_
  · have : (intBits g : Int) * 3 ≤ 150 := by omega
    exact Int.le_trans this (by decide)
  generalize (g ^ (3:Int).toNat).fmod 2147483579 = z
  refine ExJ.ret (Φ := is (.int ((z.fdiv 32).fmod many))) (EvJ.of (Ev.mod (evT o2 (KS2.gl (by decide)) bf_int (Evs.one (Ev.floordiv (Ev.name o2 (d := .int z) upd_same) Ev.int (by decide) (intBits_le_iff.mpr (by decide))) Evs.nil) Cl.int rfl) (Ev.name o2 (d := .int many) (by rw [upd_ne (by decide), upd_ne (by decide)]; exact hmany)) mne) (fin _ _ (by omega) (by omega) (by omega))) fun d e => by cases e; exact ⟨_, rfl, rng _⟩
end
end
-- part X12
section
open Builtin.Int
section
variable {c : Cx} {ρ : Rho} {k : Nat} {pa ca : Addr} {cv : Array Value} {cs : List Int}
theorem St.penE {J : Heap → Prop} {h h' : Heap} (p : PenC c pa ca) (o : c.Ok k) (x : St c h ρ) (sb : Ext (fun a => a = pa) h h') (ex : ∃ ob, h'.get? pa = some ob) (i : J h') : St (c.wi J) h' ρ := by
  have keep : ∀ b ob, b ≠ pa → h.get? b = some ob → h'.get? b = some ob := fun b ob nb e => sb b ob nb e
  have exs : ∀ b, (∃ ob, h.get? b = some ob) → ∃ ob, h'.get? b = some ob := fun b ⟨ob, e⟩ => by
    by_cases z : b = pa
    · exact z ▸ ex
    · exact ⟨ob, keep b ob z e⟩
  obtain ⟨m, cm, V⟩ := x.vars
  refine ⟨fun b ob e => keep b ob (fun z => by rw [z, p.h0] at e; cases e) (x.keep b ob e), fun a ha => exs a (x.PB a ha), fun a ha => exs a (x.SB a ha), i, m, cm, V.ns.at' fun ob e => keep _ ob (Ne.symm (p.loc o)) e, fun y a e => ?_, fun y d e => ?_⟩
  · obtain ⟨oc, hoc, hd⟩ := V.cell y a e
    exact ⟨oc, keep _ _ (p.cell y a e) hoc, hd⟩
  · obtain ⟨u, b, r⟩ := V.rd y d e
    exact ⟨u, b, r.ext fun b ob nb e => keep b ob (fun z => nb (z ▸ p.Pp)) e⟩
theorem PenC.wi {J : Heap → Prop} (p : PenC c pa ca) : PenC (c.wi J) pa ca := ⟨p.Pp, p.nca, p.Sp, p.Sc, p.h0, p.ne, p.cell⟩
theorem Pen.there {n : Int} {h : Heap} (x : Pen pa ca cv n h) : ∃ ob, h.get? pa = some ob := by
  obtain ⟨_, _, ⟨_, _, ⟨ob, e, _⟩, _⟩, _⟩ := x
  exact ⟨ob, e⟩
/-- one draw, wherever it stands -/
theorem evDraw {J : Heap → Prop} {n many : Int} {px pn pos : Pos} {e : PySem.Expr} (p : PenC c pa ca) (o : c.Ok (k + 1)) (hc : Cells cs cv) (hlen : cs.length ≤ 63) (hk : c.env.kindOf (Str.ofString "_law_draw") = some .globalImplicit)
    (hin : ∀ h, c.I h → Pen pa ca cv n h) (hout : ∀ h h', c.I h → Ext (fun a => a = pa) h h' → Pen pa ca cv (n + 1) h' → J h') (hp : ρ (Str.ofString "pen") = some (.raw (.ref pa))) (he : Ev c ρ e (is (.int many))) (hn : n ≤ 1000) (hm : 0 < many) (hb : intBits many ≤ 200)
    (hs1 : eval (.Call (.Name (Str.ofString "_law_draw") pn) [.Name (Str.ofString "pen") px, e] [] pos) c.env = (do callWith pos (← eval (.Name (Str.ofString "_law_draw") pn) c.env) [] (backTo pos (starEach [.Name (Str.ofString "pen") px, e] c.env)) (backToKw pos (keywordEach [] c.env))) := by rfl)
    (hs2 : starEach [e] c.env = (false, eval e c.env) :: starEach [] c.env := by rfl) (hs3 : (backTo pos (starEach [e] c.env)).any (·.1) = false := by rfl) :
    EvJ c J ρ (.Call (.Name (Str.ofString "_law_draw") pn) [.Name (Str.ofString "pen") px, e] [] pos) (IntD fun i => 0 ≤ i ∧ i < many) := by
  intro s Q hs hQ
  refine Call_ (Fv.glob o hk gf_law_draw.g (by decide) ρ s _ hs (callWith_K (hs.gl o).kin gf_law_draw.k (Evs.one (Ev.name o hp) (Evs.one he Evs.nil hs2) rfl s _ hs fun vs ds' h₁ t₁ ed s₁ r₁ e₁ => ⟨(s₁.gl o).kin, ?_⟩) rfl hs3)) hs1
  cases ed
  obtain ⟨v1, v2, rfl, a1, a2⟩ := r₁.two
  cases a1
  cases a2 with | int _ tk =>
  refine c_law_draw (n := n) hn hm hb hc hlen o.room o.gl s₁.keep p.h0 p.ne (hin _ s₁.inv) fun d h' tk' t d0 d1 pen ext => ?_
  exact hQ _ _ h' tk' ⟨d, rfl, d0, d1⟩ (s₁.penE p o ext pen.there (hout _ _ s₁.inv ext pen)) (.int _ _) (e₁.trans fun b ob nb e => ext b ob (fun z => nb (z ▸ p.Pp)) e)
theorem EvJ.up {J J' : Heap → Prop} {e : PySem.Expr} {Φ : D → Prop} (h : EvJ c J ρ e Φ) (i : ∀ h, J h → J' h) : EvJ c J' ρ e Φ := fun s Q hs hQ => h s Q hs fun v d h' tk a b r x => hQ v d h' tk a (b.wi (J := J') (i _ b.inv)) r x
theorem EvJ.lit {i : Int} {n : Nat} {pos : Pos} : EvJ c c.I ρ (.Constant (.int i) n pos) (IntD fun z => z = i) := EvJ.of (Ev.int.mono fun d e => ⟨i, e, rfl⟩) fun _ h => h
theorem EvJ.nam {x : Str} {i : Int} {pos : Pos} (o : c.Ok k) (hx : ρ x = some (.int i)) : EvJ c c.I ρ (.Name x pos) (IntD fun z => z = i) := EvJ.of ((Ev.name o hx).mono fun d e => ⟨i, e, rfl⟩) fun _ h => h
abbrev BitD (m : Nat) : D → Prop := IntD fun z => intBits z ≤ m
theorem EvJ.mulB {J J' : Heap → Prop} {l r : PySem.Expr} {pos : Pos} {a b : Nat} (hl : EvJ c J ρ l (BitD a)) (hr : EvJ (c.wi J) J' ρ r (BitD b)) (hab : a + b ≤ 2000) : EvJ c J' ρ (.BinOp l .Mult r pos) (BitD (a + b)) :=
  (EvJ.mul hl hr fun x y hx hy => IntMulOk.of_le hx hy (Nat.le_trans hab (by decide))).mono fun d ⟨i, e, x, y, hx, hy, z⟩ => ⟨i, e, by rw [z]; exact intBits_mul_le hx hy⟩
theorem IntD.mono {p q : Int → Prop} {d : D} (h : IntD p d) (i : ∀ z, p z → q z) : IntD q d := let ⟨z, e, x⟩ := h; ⟨z, e, i z x⟩
end
section
variable {w : World} {k : Nat} {pa ca : Addr} {cv : Array Value} {cs : List Int}
theorem c_law_pair {A : Around} {E : Value → Shared → Prop} {s : Shared} {h₀ : Heap} {n : Int} {Q : Value → Shared → Prop} (hn : n ≤ 900) (hc : Cells cs cv) (hlen : cs.length ≤ 63)
    (room : AOk A (k + 2)) (G : Gl w h₀) (sub : Stay h₀ s.heap) (h0 : h₀.get? pa = none) (ne : pa ≠ ca) (pen : Pen pa ca cv n s.heap)
    (hQ : ∀ (t : Int) (p : Nat) v h' tk, intBits t ≤ 100 → p ≤ 24 → (∀ P' : Addr → Prop, (∀ a, P' a → a ≠ ca ∧ ∃ o, s.heap.get? a = some o) → Rd P' h' v (.tup [.int t, .int p])) → Pen pa ca cv (n + 6) h' → Ext (fun a => a = pa) s.heap h' → Q v { s with heap := h', toks := tk }) :
    wpAny (model pw w) A (call (.ref 262) [.ref pa]) Q E s := by
  have pen' := pen
  obtain ⟨spot, rest, ⟨u1, u2, ⟨o1, e1, _⟩, o2, e2, _⟩, _⟩ := pen'
  have hhG : Gl w (hideAll s.heap [pa]) := G.keeps fun b ob e => hideAll_get _ (sub b ob e) fun z => by rw [List.mem_singleton.mp z, h0] at e; cases e
  have hh0 : (hideAll s.heap [pa]).get? pa = none := hideAll_none _ (List.mem_singleton.mpr rfl)
  refine' wpAny_call (enterX (k := k + 1) (h₀ := hideAll s.heap [pa]) (P := fun a => a ≠ ca ∧ ∃ o, s.heap.get? a = some o) (I := Pen pa ca cv n) (S := fun a => a = pa ∨ a = ca) (vs := [.ref pa]) (ds := [.raw (.ref pa)]) (ps := [Str.ofString "pen"])
    (ho := rfl) (hb := rfl) (hcd := by kernel_rfl) (hclo := rfl) (hg := rfl) (hbu := rfl) (hk := rfl) (hco := rfl) (hgen := rfl) (hbind := BindsTo.of_eq rfl) (hps := by decide) (hn := rfl) room.room (fun env => room.deeper env) hhG (fun b ob e => of_hideAll _ e) (fun a ha => ha.2) (.cons (.raw _) .nil) pen
    (fun a ha => ha.elim (fun z => ⟨o1, z ▸ e1⟩) fun z => ⟨o2, z ▸ e2⟩) (fun h h' i kk => i.ext fun z ob hz e => kk z ob hz e) ?_)
  intro c o KS cw ch ci cS cA cf cc p1 p2 lsz h₁ t₁ stay st
  dsimp only at KS p2
  subst cw
  have cells : ∀ x, c.env.cells.lookup x = none := fun x => by rw [cc]; rfl
  have p : PenC c pa ca := ⟨p1 pa ⟨ne, o1, e1⟩, fun z => (p2 ca z).elim (fun q => q.1 rfl) fun q => absurd (Heap.lt_size e2) (Nat.not_lt.mpr q), cS ▸ Or.inl rfl, cS ▸ Or.inr rfl, ch ▸ hh0, ne, fun x a e => by rw [cells x] at e; cases e⟩
  let PJ : Int → Heap → Prop := Pen pa ca cv
  have oj : ∀ m, (c.wi (PJ m)).Ok (k + 1) := fun m => o.wi fun h h' i kk => i.ext fun z ob hz e => kk z ob (cS ▸ hz) e
  have KJ : ∀ m, KD (c.wi (PJ m)) _ := fun m => KS.wi
  have draw : ∀ (m : Int) {ρ : Rho} {many : Int} {px pn pos : Pos} {e : PySem.Expr}, ρ (Str.ofString "pen") = some (.raw (.ref pa)) → Ev (c.wi (PJ m)) ρ e (is (.int many)) → m ≤ 1000 → 0 < many → intBits many ≤ 200 →
      (eval (.Call (.Name (Str.ofString "_law_draw") pn) [.Name (Str.ofString "pen") px, e] [] pos) c.env = (do callWith pos (← eval (.Name (Str.ofString "_law_draw") pn) c.env) [] (backTo pos (starEach [.Name (Str.ofString "pen") px, e] c.env)) (backToKw pos (keywordEach [] c.env)))) →
      (starEach [e] c.env = (false, eval e c.env) :: starEach [] c.env) → ((backTo pos (starEach [e] c.env)).any (·.1) = false) →
      EvJ (c.wi (PJ m)) (PJ (m + 1)) ρ (.Call (.Name (Str.ofString "_law_draw") pn) [.Name (Str.ofString "pen") px, e] [] pos) (IntD fun i => 0 ≤ i ∧ i < many) :=
    fun m {ρ many px pn pos e} hp he h1 h2 h3 h4 h5 h6 => evDraw p.wi (oj m) hc hlen ((KJ m).gl (by decide)) (fun h i => i) (fun h h' i ext pen => pen) hp he h1 h2 h3 h4 h5 h6
  have dB : ∀ {m : Nat} {many : Int} {d : D}, many ≤ 2 ^ m → IntD (fun i => 0 ≤ i ∧ i < many) d → BitD m d := fun {m many d} hm h => h.mono fun z hz => small_bits hz.1 (Int.lt_of_lt_of_le hz.2 hm)
  have p10 : ∀ {m : Nat} {ρ : Rho} {J : Heap → Prop} {pos p1 p2 : Pos} {n1 n2 : Nat}, m ≤ 100 → Ev (c.wi J) ρ (.BinOp (.Constant (.int 10) n1 p1) .Pow (.Constant (.int m) n2 p2) pos) (is (.int (10 ^ m))) := fun {m _ _ _ _ _ _ _} h => evPow10 (n := m) Ev.int Ev.int rfl (by omega)
  let Ψ : Res → Prop := fun r => ∃ (t : Int) (p : Nat), r = .ret (.tup [.int t, .int p]) ∧ intBits t ≤ 100 ∧ p ≤ 24
  refine (show ExJ c (PJ (n + 6)) (bindRho ([Str.ofString "pen"].zip [.raw (.ref pa)]) emp) _ Ψ from ?body) _ _ st ?fin |> noE
  case fin =>
    rintro r f h' tk' ⟨t, q, rfl, tb, qb⟩ ⟨v, ρ', rfl, rv, s'⟩ ext
    refine hQ t q v h' tk' tb qb (fun P' hP' => rv.le fun a _ ha => p1 a (hP' a ha)) s'.inv fun b ob nb e => ?_
    have kp := s'.keep
    rw [show (c.wi (PJ (n + 6))).h₀ = hideAll s.heap [pa] from ch] at kp
    exact kp b ob (hideAll_get _ e fun z => nb (List.mem_singleton.mp z))
  have cI : c = c.wi (PJ n) := by show c = { c with I := Pen pa ca cv n }; rw [← ci]
  rw [cI]
  refine ExJ.assignJ (J' := PJ (n + 1)) (oj (n + 1)) ((KJ n).st (by decide) (by decide)) (draw n rfl Ev.int (by omega) (by decide) (bits_lit (by decide)) rfl rfl rfl) ?_
  rintro _ ⟨way, rfl, w0, w1⟩
  refine ExJ.assignJ (c := c.wi (PJ (n + 1))) (J' := PJ (n + 1 + 1)) (Φ := IntD fun z => z = 1 ∨ z = -1) (oj (n + 1 + 1)) ((KJ (n + 1)).st (by decide) (by decide)) ((EvJ.sub EvJ.lit (EvJ.mul EvJ.lit (draw (n + 1) rfl Ev.int (by omega) (by decide) (bits_lit (by decide)) rfl rfl rfl) ?_)).mono ?_) ?_
  · rintro x y rfl ⟨h1, h2⟩
    exact IntMulOk.of_le (bits_lit (m := 2) (by decide)) (small_bits (m := 2) h1 (by have : (2:Int)^2 = 4 := by decide
                                                                                     omega)) (by decide)
  · rintro d ⟨z, rfl, x, y, rfl, ⟨a, b, rfl, ⟨h1, h2⟩, rfl⟩, rfl⟩
    exact ⟨_, rfl, by omega⟩
  rintro _ ⟨sign, rfl, hsg⟩
  have sB : intBits sign ≤ 1 := by rcases hsg with rfl | rfl <;> exact bits_lit (by decide)
  generalize hρ : upd (upd (bindRho ([Str.ofString "pen"].zip [D.raw (Value.ref pa)]) emp) (Str.ofString "way") (D.int way)) (Str.ofString "sign") (D.int sign) = ρ
  have hpen : ρ (Str.ofString "pen") = some (.raw (.ref pa)) := by rw [← hρ]; rfl
  have hway : ρ (Str.ofString "way") = some (.int way) := by rw [← hρ]; rfl
  have hsign : ρ (Str.ofString "sign") = some (.int sign) := by rw [← hρ]; rfl
  clear hρ
  show ExJ (c.wi (PJ (n + 1 + 1))) _ _ _ _
  have oo := oj (n + 1 + 1)
  have sg : ∀ {px : Pos}, EvJ (c.wi (PJ (n + 1 + 1))) (PJ (n + 1 + 1)) ρ (.Name (Str.ofString "sign") px) (BitD 1) := fun {_} => (EvJ.nam oo hsign).mono fun d h => h.mono fun z e => by rw [e]; exact sB
  have out : ∀ {m : Nat} {J : Heap → Prop} {q : Int → Prop} {e : PySem.Expr} {pos : Pos} {rest : List Stmt}, EvJ (c.wi (PJ (n + 1 + 1))) J ρ e (fun d => ∃ x y, d = .tup [.int x, .int y] ∧ intBits x ≤ m ∧ q y) → m ≤ 100 → (∀ y, q y → 0 ≤ y ∧ y ≤ 24) → (∀ h, J h → PJ (n + 6) h) → ExJ (c.wi (PJ (n + 1 + 1))) (PJ (n + 6)) ρ (.Return (some e) pos :: rest) Ψ :=
    fun {m J q e pos rest} h hm hq hJ => ExJ.ret (h.up hJ) fun d ⟨x, y, ed, hx, hy⟩ => ⟨x, y.toNat, by rw [ed, Int.toNat_of_nonneg (hq y hy).1], Nat.le_trans hx hm, by have := hq y hy; omega⟩
  refine ExJ.ifD (β := decide (way = 0)) (Tr.cmp (by tb_start) Ev.int CmpOk.eq) (fun _ => ?_) fun h0 => ?_
  · refine out (m := 1 + 4) (EvJ.pair (oj (n + 1 + 1 + 1)) (EvJ.mulB sg ((draw (n + 1 + 1) hpen Ev.int (by omega) (by decide) (bits_lit (by decide)) rfl rfl rfl).mono fun d => dB (by decide)) (by decide)) EvJ.lit) (by decide) (fun y e => by omega) fun h x => Pen.le x (by omega)
  refine ExJ.ifD (β := decide (way = 1)) (Tr.cmp (by tb_start) Ev.int CmpOk.eq) (fun _ => ?_) fun h1 => ?_
  · refine out (m := 1 + 20) (EvJ.pair (oj (n + 1 + 1 + 1 + 1)) (EvJ.mulB sg ((draw (n + 1 + 1) hpen (p10 (m := 6) (by decide)) (by omega) (by decide) (bits_lit (by decide)) rfl rfl rfl).mono fun d => dB (by decide)) (by decide)) (draw (n + 1 + 1 + 1) hpen Ev.int (by omega) (by decide) (bits_lit (by decide)) rfl rfl rfl)) (by decide) (fun y e => by omega) fun h x => Pen.le x (by omega)
  refine ExJ.ifD (β := decide (way = 2)) (Tr.cmp (by tb_start) Ev.int CmpOk.eq) (fun _ => ?_) fun h2 => ?_
  · refine out (m := 1 + 30 + 30 + 30) (EvJ.pair (oj (n + 1 + 1 + 1 + 1 + 1 + 1)) (EvJ.mulB (EvJ.mulB (EvJ.mulB sg ((draw (n + 1 + 1) hpen (p10 (m := 9) (by decide)) (by omega) (by decide) (bits_lit (by decide)) rfl rfl rfl).mono fun d => dB (by decide)) (by decide)) ((draw (n + 1 + 1 + 1) hpen (p10 (m := 9) (by decide)) (by omega) (by decide) (bits_lit (by decide)) rfl rfl rfl).mono fun d => dB (by decide)) (by decide)) ((draw (n + 1 + 1 + 1 + 1) hpen (p10 (m := 9) (by decide)) (by omega) (by decide) (bits_lit (by decide)) rfl rfl rfl).mono fun d => dB (by decide)) (by decide)) (draw (n + 1 + 1 + 1 + 1 + 1) hpen Ev.int (by omega) (by decide) (bits_lit (by decide)) rfl rfl rfl)) (by decide) (fun y e => by omega) fun h x => Pen.le x (by omega)
  refine ExJ.ifD (β := decide (way = 3)) (Tr.cmp (by tb_start) Ev.int CmpOk.eq) (fun _ => ?_) fun h3 => ?_
  · refine out (m := 1 + 8 + 3 + 9) (EvJ.pair (oj (n + 1 + 1 + 1 + 1 + 1)) (EvJ.mulB (EvJ.mulB (EvJ.mulB sg ((EvJ.add (EvJ.mul EvJ.lit (draw (n + 1 + 1) hpen Ev.int (by omega) (by decide) (bits_lit (by decide)) rfl rfl rfl) ?_) EvJ.lit).mono ?_) (by decide)) (EvJ.lit.mono fun d h => h.mono fun z e => by rw [e]; exact bits_lit (by decide)) (by decide)) ((EvJ.pow10 (EvJ.of Ev.int fun _ h => h) (draw (n + 1 + 1 + 1) hpen Ev.int (by omega) (by decide) (bits_lit (by decide)) rfl rfl rfl) (fun y h => by omega)).mono ?_) (by decide)) (EvJ.add EvJ.lit (draw (n + 1 + 1 + 1 + 1) hpen Ev.int (by omega) (by decide) (bits_lit (by decide)) rfl rfl rfl))) (by decide) (fun y e => by obtain ⟨a, b, rfl, hb, rfl⟩ := e; omega) fun h x => Pen.le x (by omega)
    · rintro x y rfl ⟨h1, h2⟩
      exact IntMulOk.of_le (bits_lit (m := 2) (by decide)) (small_bits (m := 6) h1 (by have : (2:Int)^6 = 64 := by decide
                                                                                       omega)) (by decide)
    · rintro d ⟨z, rfl, x, y, ⟨a, b, rfl, ⟨h1, h2⟩, rfl⟩, rfl, rfl⟩
      exact ⟨_, rfl, small_bits (by omega) (by have : (2:Int)^8 = 256 := by decide
                                               omega)⟩
    · rintro d ⟨z, rfl, y, ⟨h1, h2⟩, rfl⟩
      exact ⟨_, rfl, bits_mono (bits_pow10 _) (by omega)⟩
  · refine out (m := 1 + 7 + 17) (EvJ.pair (oj (n + 1 + 1 + 1 + 1 + 1)) (EvJ.mulB (EvJ.mulB sg ((draw (n + 1 + 1) hpen Ev.int (by omega) (by decide) (bits_lit (by decide)) rfl rfl rfl).mono fun d => dB (by decide)) (by decide)) ((EvJ.pow10 (EvJ.of Ev.int fun _ h => h) (draw (n + 1 + 1 + 1) hpen Ev.int (by omega) (by decide) (bits_lit (by decide)) rfl rfl rfl) (fun y h => by omega)).mono ?_) (by decide)) (draw (n + 1 + 1 + 1 + 1) hpen Ev.int (by omega) (by decide) (bits_lit (by decide)) rfl rfl rfl)) (by decide) (fun y e => by omega) fun h x => Pen.le x (by omega)
    rintro d ⟨z, rfl, y, ⟨h1, h2⟩, rfl⟩
    exact ⟨_, rfl, bits_mono (bits_pow10 _) (by omega)⟩
end
end
-- part M1
section
open Builtin.Int
theorem p10_pos (k : Nat) : (0 : Int) < 10 ^ k := Int.pow_pos (by decide)
theorem p10_ne (k : Nat) : (10 : Int) ^ k ≠ 0 := Int.ne_of_gt (p10_pos k)
theorem norm_shift1 (t : Int) (p : Nat) : norm (t * 10) (p + 1) = norm t p := by
  rw [norm, if_pos (by rw [Int.fmod_eq_emod_of_nonneg _ (by decide)]; exact Int.mul_emod_left t 10), Int.mul_fdiv_cancel _ (by decide)]
theorem norm_shift (t : Int) (p : Nat) : ∀ j, norm (t * 10 ^ j) (p + j) = norm t p
  | 0 => by simp
  | j + 1 => by
    rw [Int.pow_succ, ← Int.mul_assoc]
    show norm (t * 10 ^ j * 10) ((p + j) + 1) = _
    rw [norm_shift1, norm_shift t p j]
theorem norm_shift' {t W : Int} {p S : Nat} (h : p ≤ S) (e : W = t * 10 ^ (S - p)) : norm W S = norm t p := by
  have := norm_shift t p (S - p)
  rw [← e, show p + (S - p) = S by omega] at this
  exact this
theorem norm_le : ∀ (p : Nat) (t : Int), (norm t p).2 ≤ p := norm_places
theorem norm_val : ∀ (p : Nat) (t : Int), t = (norm t p).1 * 10 ^ (p - (norm t p).2)
  | 0, t => by simp [norm]
  | p + 1, t => by
    unfold norm
    split
    · rename_i h
      have ih := norm_val p (t.fdiv 10)
      have le := norm_le p (t.fdiv 10)
      rw [Int.fmod_eq_emod_of_nonneg _ (by decide)] at h
      rw [Int.fdiv_eq_ediv_of_nonneg _ (by decide)] at ih le ⊢
      rw [show p + 1 - (norm (t / 10) p).2 = (p - (norm (t / 10) p).2) + 1 by omega, Int.pow_succ, ← Int.mul_assoc, ← ih]
      omega
    · simp
theorem norm_idem : ∀ (p : Nat) (t : Int), norm (norm t p).1 (norm t p).2 = norm t p
  | 0, t => rfl
  | p + 1, t => by
    by_cases h : t.fmod 10 = 0
    · have e : norm t (p + 1) = norm (t.fdiv 10) p := by rw [norm, if_pos h]
      rw [e]
      exact norm_idem p _
    · have e : norm t (p + 1) = (t, p + 1) := by rw [norm, if_neg h]
      rw [e]
      exact e
theorem norm_zero : ∀ p, norm 0 p = (0, 0)
  | 0 => rfl
  | p + 1 => by rw [norm, if_pos (by decide)]; exact norm_zero p
theorem norm_last {t : Int} {p : Nat} (h : norm t p = (t, p)) (hp : 0 < p) : t % 10 ≠ 0 := by
  cases p with
  | zero => omega
  | succ p =>
    intro h0
    rw [norm, if_pos (by rw [Int.fmod_eq_emod_of_nonneg _ (by decide)]; exact h0)] at h
    have := norm_le p (t.fdiv 10)
    rw [h] at this
    simp at this
    omega

/-- a number and its whole number over the great power -/
structure Dn (t : Int) (p : Nat) (W : Int) : Prop where
  w : W = t * 10 ^ (40 - p)
  hp : p ≤ 24
  n : norm t p = (t, p)
  b : intBits t ≤ 100
theorem Dn.int {t : Int} (h : intBits t ≤ 100) : Dn t 0 (t * 10 ^ (40 - 0)) := ⟨rfl, by decide, rfl, h⟩
theorem Dn.dec {t : Int} {p : Nat} (h : intBits t ≤ 100) (hp : p ≤ 24) : Dn (norm t p).1 (norm t p).2 (t * 10 ^ (40 - p)) := by
  have le := norm_le p t
  have v := norm_val p t
  refine ⟨?_, by omega, norm_idem p t, norm_bits p t h⟩
  conv => lhs; rw [v]
  rw [Int.mul_assoc, ← Int.pow_add, show p - (norm t p).2 + (40 - p) = 40 - (norm t p).2 by omega]
section
variable {t u W V : Int} {p q : Nat}
theorem Dn.bW (g : Dn t p W) : intBits W ≤ 261 := by
  rw [g.w]
  exact bits_mono (intBits_mul_le g.b (bits_pow10 _)) (by omega)
theorem Dn.told (g : Dn t p W) : norm W 40 = (t, p) := by rw [norm_shift' (by have := g.hp; omega) g.w, g.n]
theorem Dn.fix {S : Nat} (g : Dn t p W) {x X : Int} {m : Nat} (e : X = x * 10 ^ (S - m)) (h : m ≤ S) : norm X S = norm x m := norm_shift' h e
theorem Dn.whole (g : Dn t p W) : decide (p = 0) = decide (W.fmod (10 ^ 40) = 0) := by
  have hw := g.w
  have h : W.fmod (10 ^ 40) = 0 ↔ p = 0 := by
    rw [Int.fmod_eq_emod_of_nonneg _ (Int.le_of_lt (p10_pos 40))]
    constructor
    · intro h0
      rcases Nat.eq_zero_or_pos p with hp | hp
      · exact hp
      · exfalso
        refine norm_last g.n hp ?_
        have hd : (10:Int) ^ 40 ∣ W := Int.dvd_of_emod_eq_zero h0
        have e : (10:Int) ^ 40 = 10 ^ p * 10 ^ (40 - p) := by rw [← Int.pow_add]; congr 1; have := g.hp; omega
        rw [hw, e] at hd
        have hd2 : (10:Int) ^ p ∣ t := Int.dvd_of_mul_dvd_mul_right (p10_ne _) hd
        have hd3 : (10:Int) ∣ 10 ^ p := by
          obtain ⟨p', rfl⟩ : ∃ p', p = p' + 1 := ⟨p - 1, by omega⟩
          rw [Int.pow_succ]; exact Int.dvd_mul_left _ _
        exact Int.emod_eq_zero_of_dvd (Int.dvd_trans hd3 hd2)
    · rintro rfl
      rw [hw]; exact Int.mul_emod_left t _
  by_cases hp : p = 0
  · rw [decide_eq_true hp, decide_eq_true (h.mpr hp)]
  · rw [decide_eq_false hp, decide_eq_false fun z => hp (h.mp z)]
theorem fdiv_scale {x : Int} {m S : Nat} (h : m ≤ S) : (x * 10 ^ (S - m)).fdiv (10 ^ S) = x.fdiv (10 ^ m) := by
  rw [show (10:Int) ^ S = 10 ^ m * 10 ^ (S - m) by rw [← Int.pow_add]; congr 1; omega]
  rw [Int.fdiv_eq_ediv_of_nonneg _ (Int.le_of_lt (Int.mul_pos (p10_pos _) (p10_pos _))), Int.fdiv_eq_ediv_of_nonneg _ (Int.le_of_lt (p10_pos _))]
  exact Int.mul_ediv_mul_of_pos_left _ _ (p10_pos _)
theorem norm_floor (x : Int) (m : Nat) : (norm x m).1.fdiv (10 ^ (norm x m).2) = x.fdiv (10 ^ m) := by
  conv => rhs; rw [norm_val m x]
  exact (fdiv_scale (norm_le m x)).symm
theorem Dn.floor (g : Dn t p W) : t.fdiv (10 ^ p) = W.fdiv (10 ^ 40) := by
  rw [g.w, fdiv_scale (by have := g.hp; omega)]
theorem Dn.ceil (g : Dn t p W) : (norm (-t) p).1.fdiv (10 ^ (norm (-t) p).2) = (-W).fdiv (10 ^ 40) := by
  rw [norm_floor, g.w, ← Int.neg_mul, fdiv_scale (by have := g.hp; omega)]
theorem Dn.neg (g : Dn t p W) : norm (-W) 40 = norm (-t) p := norm_shift' (by have := g.hp; omega) (by rw [g.w, Int.neg_mul])
theorem Dn.sgn (g : Dn t p W) : (t < 0 ↔ W < 0) ∧ (t = 0 ↔ W = 0) ∧ (0 < t ↔ 0 < W) := by
  have h := p10_pos (40 - p)
  rw [g.w]
  refine ⟨⟨fun h1 => Int.mul_neg_of_neg_of_pos h1 h, fun h1 => ?_⟩, ⟨fun h1 => by rw [h1, Int.zero_mul], fun h1 => ?_⟩, ⟨fun h1 => Int.mul_pos h1 h, fun h1 => ?_⟩⟩
  · refine Int.lt_of_not_ge fun h2 => ?_
    have := Int.mul_nonneg h2 (Int.le_of_lt h)
    omega
  · rcases Int.mul_eq_zero.mp h1 with h1 | h1
    · exact h1
    · omega
  · refine Int.lt_of_not_ge fun h2 => ?_
    have := Int.mul_nonneg (show 0 ≤ -t by omega) (Int.le_of_lt h)
    rw [Int.neg_mul] at this
    omega
theorem Dn.abs (g : Dn t p W) : norm ((W.natAbs : Nat) : Int) 40 = if t < 0 then norm (-t) p else (t, p) := by
  have s := g.sgn
  split
  · rename_i h
    have := s.1.mp h
    rw [show ((W.natAbs : Nat) : Int) = -W by omega, g.neg]
  · rename_i h
    have : ¬ W < 0 := fun z => h (s.1.mpr z)
    rw [show ((W.natAbs : Nat) : Int) = W by omega, g.told]
theorem Dn.half (g : Dn t p W) : norm (W * 5) 41 = norm (t * 5) (p + 1) := by
  refine norm_shift' (by have := g.hp; omega) ?_
  rw [g.w, show 41 - (p + 1) = 40 - p by omega, Int.mul_right_comm]
theorem scW (g : Dn t p W) {m : Nat} (hm : p ≤ m) (hS : m ≤ 40) : W = sc t p m * 10 ^ (40 - m) := by
  unfold sc
  rw [g.w, Int.mul_assoc, ← Int.pow_add]
  congr 2
  omega
theorem Dn.plus (g : Dn t p W) (h : Dn u q V) : norm (W + V) 40 = norm (sc t p (max p q) + sc u q (max p q)) (max p q) := by
  have := g.hp; have := h.hp
  refine norm_shift' (by omega) ?_
  rw [Int.add_mul, ← scW g (by omega) (by omega), ← scW h (by omega) (by omega)]
theorem Dn.minus (g : Dn t p W) (h : Dn u q V) : norm (W - V) 40 = norm (sc t p (max p q) - sc u q (max p q)) (max p q) := by
  have := g.hp; have := h.hp
  refine norm_shift' (by omega) ?_
  rw [Int.sub_mul, ← scW g (by omega) (by omega), ← scW h (by omega) (by omega)]
theorem Dn.times (g : Dn t p W) (h : Dn u q V) : norm (W * V) 80 = norm (t * u) (p + q) := by
  have := g.hp; have := h.hp
  refine norm_shift' (by omega) ?_
  rw [g.w, h.w, show 80 - (p + q) = (40 - p) + (40 - q) by omega, Int.pow_add]
  generalize (10:Int) ^ (40 - p) = a
  generalize (10:Int) ^ (40 - q) = b
  rw [Int.mul_assoc, Int.mul_left_comm a u b, ← Int.mul_assoc]
theorem sg_scale (x : Int) (k : Nat) : sg (x * 10 ^ k) = sg x := by
  have h := p10_pos k
  unfold sg
  by_cases h0 : x = 0
  · subst h0; simp
  · have : x * 10 ^ k ≠ 0 := Int.mul_ne_zero h0 (p10_ne k)
    rw [if_neg h0, if_neg this]
    by_cases h1 : 0 < x
    · rw [if_pos h1, if_pos (Int.mul_pos h1 h)]
    · rw [if_neg h1, if_neg]
      have := Int.mul_neg_of_neg_of_pos (show x < 0 by omega) h
      omega
theorem Dn.cmp (g : Dn t p W) (h : Dn u q V) : cmpN (t, p) (u, q) = sg (W - V) := by
  have := g.hp; have := h.hp
  unfold cmpN
  dsimp only
  rw [← sg_scale _ (40 - max p q), Int.sub_mul, ← scW g (by omega) (by omega), ← scW h (by omega) (by omega)]
theorem sg_pos {x : Int} : 0 < sg x ↔ 0 < x := by unfold sg; split <;> (try split) <;> omega
theorem sg_neg {x : Int} : sg x < 0 ↔ x < 0 := by unfold sg; split <;> (try split) <;> omega
theorem sg_zero {x : Int} : sg x = 0 ↔ x = 0 := by unfold sg; split <;> (try split) <;> omega
theorem norm_five (x : Int) (m : Nat) : norm ((norm x m).1 * 5) ((norm x m).2 + 1) = norm (x * 5) (m + 1) := by
  refine (norm_shift' (by have := norm_le m x; omega) ?_).symm
  rw [show m + 1 - ((norm x m).2 + 1) = m - (norm x m).2 by omega]
  conv => lhs; rw [norm_val m x]
  rw [Int.mul_right_comm]
theorem Dn.middle (g : Dn t p W) (h : Dn u q V) : norm ((W + V) * 5) 41 = norm ((norm (sc t p (max p q) + sc u q (max p q)) (max p q)).1 * 5) ((norm (sc t p (max p q) + sc u q (max p q)) (max p q)).2 + 1) := by
  have := g.hp; have := h.hp
  rw [norm_five]
  refine norm_shift' (by omega) ?_
  have e : W + V = (sc t p (max p q) + sc u q (max p q)) * 10 ^ (40 - max p q) := by rw [Int.add_mul, ← scW g (by omega) (by omega), ← scW h (by omega) (by omega)]
  rw [e, show 41 - (max p q + 1) = 40 - max p q by omega, Int.mul_right_comm]
end
end
-- part M2
section
open Builtin.Int
section
variable {t u W V : Int} {p q : Nat}
/-- half a place up, by the size -/
theorem half_up (a b : Nat) (hb : 0 < b) : (2 * a + b) / (2 * b) = if b ≤ 2 * (a % b) then a / b + 1 else a / b := by
  have h1 := Nat.div_add_mod a b
  have h2 := Nat.mod_lt a hb
  generalize a / b = d at h1 ⊢
  generalize a % b = r at h1 h2 ⊢
  subst h1
  have e : 2 * (b * d + r) + b = 2 * r + b + 2 * b * d := by rw [Nat.mul_add, Nat.mul_assoc]; omega
  rw [e, Nat.add_mul_div_left _ _ (by omega)]
  split
  · rw [show (2 * r + b) / (2 * b) = 1 from Nat.div_eq_of_lt_le (by omega) (by omega)]; omega
  · rw [Nat.div_eq_of_lt (by omega)]; omega
theorem rq_eq (t : Int) (b : Nat) (hb : 0 < b) : rq t (b : Int) = (((2 * t.natAbs + b) / (2 * b) : Nat) : Int) * sg t := by
  unfold rq
  have e1 : ab t = ((t.natAbs : Nat) : Int) := by unfold ab; split <;> omega
  have e2 : ab (b : Int) = (b : Int) := by unfold ab; split <;> omega
  have e3 : sg (b : Int) = 1 := by unfold sg; rw [if_neg (by omega), if_pos (by omega)]
  rw [e1, e2, e3, Int.mul_one, Int.fdiv_eq_ediv_of_nonneg _ (by omega)]
  congr 1
theorem Dn.round (g : Dn t p W) (hq : q ≤ 40) : norm (lround W (10 ^ (40 - q))) 40 = if p ≤ q then (t, p) else norm (rq t (10 ^ (p - q))) q := by
  have hp := g.hp
  have hw := g.w
  have sW := g.sgn
  have ew : W.natAbs = t.natAbs * 10 ^ (40 - p) := by rw [hw, Int.natAbs_mul, Int.natAbs_pow]; rfl
  have eu : ((10:Int) ^ (40 - q)) = ((10 ^ (40 - q) : Nat) : Int) := by rw [Int.natCast_pow]; rfl
  have up : 0 < 10 ^ (40 - q) := Nat.pow_pos (by decide)
  have ls : lround W (10 ^ (40 - q)) = (if 0 ≤ W then 1 else -1) * ((if 10 ^ (40 - q) ≤ 2 * (W.natAbs % 10 ^ (40 - q)) then W.natAbs / 10 ^ (40 - q) + 1 else W.natAbs / 10 ^ (40 - q) : Nat) : Int) * 10 ^ (40 - q) := by
    unfold lround
    rw [eu, Int.fmod_eq_emod_of_nonneg _ (by omega), Int.fdiv_eq_ediv_of_nonneg _ (by omega)]
    generalize 10 ^ (40 - q) = U at up
    rw [← Int.natCast_ediv, ← Int.natCast_emod]
    generalize W.natAbs / U = d
    generalize W.natAbs % U = r
    by_cases h1 : U ≤ 2 * r
    · have h1' : (U : Int) ≤ 2 * (r : Int) := by omega
      by_cases h2 : 0 ≤ W
      · simp [h1, h1', h2]
      · simp [h1, h1', h2]
    · have h1' : ¬ (U : Int) ≤ 2 * (r : Int) := by omega
      by_cases h2 : 0 ≤ W
      · simp [h1, h1', h2]
      · simp [h1, h1', h2]
  split
  · rename_i hpq
    have e10 : 10 ^ (40 - p) = 10 ^ (q - p) * 10 ^ (40 - q) := by rw [← Nat.pow_add]; congr 1; omega
    have em : W.natAbs % 10 ^ (40 - q) = 0 := by rw [ew, e10, ← Nat.mul_assoc]; exact Nat.mul_mod_left _ _
    have ed : W.natAbs / 10 ^ (40 - q) * 10 ^ (40 - q) = W.natAbs := by
      have := Nat.div_add_mod W.natAbs (10 ^ (40 - q))
      rw [em, Nat.add_zero, Nat.mul_comm] at this
      exact this
    have : lround W (10 ^ (40 - q)) = W := by
      have hc : ¬ (10 ^ (40 - q) ≤ 2 * (W.natAbs % 10 ^ (40 - q))) := by rw [em]; omega
      rw [ls, show (if 10 ^ (40 - q) ≤ 2 * (W.natAbs % 10 ^ (40 - q)) then W.natAbs / 10 ^ (40 - q) + 1 else W.natAbs / 10 ^ (40 - q)) = W.natAbs / 10 ^ (40 - q) from if_neg hc, Int.mul_assoc, eu, ← Int.natCast_mul, ed]
      split <;> omega
    rw [this, g.told]
  · rename_i hpq
    have e10 : 10 ^ (40 - q) = 10 ^ (p - q) * 10 ^ (40 - p) := by rw [← Nat.pow_add]; congr 1; omega
    have bp : 0 < 10 ^ (p - q) := Nat.pow_pos (by decide)
    have ep : 0 < 10 ^ (40 - p) := Nat.pow_pos (by decide)
    have em : W.natAbs % 10 ^ (40 - q) = (t.natAbs % 10 ^ (p - q)) * 10 ^ (40 - p) := by rw [ew, e10, Nat.mul_mod_mul_right]
    have ed : W.natAbs / 10 ^ (40 - q) = t.natAbs / 10 ^ (p - q) := by rw [ew, e10, Nat.mul_div_mul_right _ _ ep]
    have ec : (10 ^ (40 - q) ≤ 2 * (W.natAbs % 10 ^ (40 - q))) ↔ 10 ^ (p - q) ≤ 2 * (t.natAbs % 10 ^ (p - q)) := by
      rw [em, e10, ← Nat.mul_assoc]
      exact ⟨fun h => Nat.le_of_mul_le_mul_right h ep, fun h => Nat.mul_le_mul_right _ h⟩
    have es : (if 10 ^ (40 - q) ≤ 2 * (W.natAbs % 10 ^ (40 - q)) then W.natAbs / 10 ^ (40 - q) + 1 else W.natAbs / 10 ^ (40 - q)) = (2 * t.natAbs + 10 ^ (p - q)) / (2 * 10 ^ (p - q)) := by
      rw [half_up _ _ bp, ed]
      by_cases h : 10 ^ (p - q) ≤ 2 * (t.natAbs % 10 ^ (p - q))
      · rw [if_pos h, if_pos (ec.mpr h)]
      · rw [if_neg h, if_neg fun z => h (ec.mp z)]
    have er : rq t (10 ^ (p - q)) = (if 0 ≤ W then 1 else -1) * (((2 * t.natAbs + 10 ^ (p - q)) / (2 * 10 ^ (p - q)) : Nat) : Int) := by
      have := rq_eq t (10 ^ (p - q)) bp
      rw [Int.natCast_pow] at this
      have e : ((10 : Nat) : Int) = 10 := rfl
      rw [e] at this
      rw [this, Int.mul_comm]
      by_cases h0 : t = 0
      · have : (2 * t.natAbs + 10 ^ (p - q)) / (2 * 10 ^ (p - q)) = 0 := by rw [h0]; exact Nat.div_eq_of_lt (by simp; omega)
        rw [this]; simp
      · congr 1
        unfold sg
        rw [if_neg h0]
        have a1 := sW.1
        have a2 := sW.2.2
        by_cases h1 : 0 < t
        · rw [if_pos h1, if_pos (by have := a2.mp h1; omega)]
        · rw [if_neg h1, if_neg (by have := a1.mp (by omega); omega)]
    rw [ls, es, ← er]
    exact norm_shift' hq rfl

/-- texts -/
theorem stripZ_zeros (l : List Nat) : ∀ n, stripZ (l ++ List.replicate n 48) = stripZ l
  | 0 => by simp
  | n + 1 => by rw [List.replicate_succ', ← List.append_assoc, stripZ_zero, stripZ_zeros l n]
theorem pad_shift (g : Dn t p W) : padL 40 (dg W.natAbs) = padL p (dg t.natAbs) ++ List.replicate (40 - p) 48 := by
  have hp := g.hp
  have ew : W.natAbs = t.natAbs * 10 ^ (40 - p) := by rw [g.w, Int.natAbs_mul, Int.natAbs_pow]; rfl
  by_cases h : t = 0
  · have hp0 : p = 0 := by
      have := g.n
      rw [h, norm_zero] at this
      simp at this
      omega
    subst hp0
    rw [ew, h]
    simp only [Int.natAbs_zero, Nat.zero_mul]
    decide
  · have h1 : 1 ≤ t.natAbs := by omega
    rw [ew, dg_shift h1]
    unfold padL
    rw [List.length_append, List.length_replicate, ← List.append_assoc]
    congr 3
    omega
theorem tail_last (hp : 0 < p) (h : t % 10 ≠ 0) : ∃ l y, tailL p (padL p (dg t.natAbs)) = l ++ [y] ∧ y ≠ 48 := by
  obtain ⟨l, e⟩ := dg_last t.natAbs
  have hL : padL p (dg t.natAbs) = (List.replicate (p + 1 - (dg t.natAbs).length) 48 ++ l) ++ [48 + t.natAbs % 10] := by
    unfold padL
    conv => lhs; rw [e]
    rw [← List.append_assoc]
    congr 3
    rw [e]
  generalize List.replicate (p + 1 - (dg t.natAbs).length) 48 ++ l = m at hL
  refine ⟨m.drop (m.length + 1 - p), _, ?_, show 48 + t.natAbs % 10 ≠ 48 by omega⟩
  rw [hL]
  unfold tailL
  rw [List.length_append]
  simp only [List.length_cons, List.length_nil, Nat.zero_add]
  rw [List.drop_append_of_le_length (by omega)]
theorem ltext_parts (g : Dn t p W) : headL 40 (padL 40 (dg W.natAbs)) = headL p (padL p (dg t.natAbs)) ∧ stripZ (tailL 40 (padL 40 (dg W.natAbs))) = if 0 < p then tailL p (padL p (dg t.natAbs)) else [] := by
  have hp := g.hp
  rw [pad_shift g]
  have hl := padL_len p (dg t.natAbs)
  generalize hL : padL p (dg t.natAbs) = L at hl
  have e : (L ++ List.replicate (40 - p) 48).length - 40 = L.length - p := by rw [List.length_append, List.length_replicate]; omega
  unfold headL
  have e2 : tailL 40 (L ++ List.replicate (40 - p) 48) = tailL p L ++ List.replicate (40 - p) 48 := by
    unfold tailL
    rw [e, List.drop_append_of_le_length (by omega)]
  refine ⟨by rw [e, List.take_append_of_le_length (by omega)], ?_⟩
  rw [e2, stripZ_zeros]
  split
  · rename_i h
    obtain ⟨l, y, el, hy⟩ := tail_last h (norm_last g.n h)
    rw [hL] at el
    rw [el, stripZ_other _ hy]
  · rename_i h
    have : p = 0 := by omega
    subst this
    unfold tailL
    simp [stripZ_nil]
theorem sgL_eq (g : Dn t p W) : sgL W = sgL t := by
  unfold sgL
  have := g.sgn.1
  by_cases h : t < 0
  · rw [if_pos h, if_pos (this.mp h)]
  · rw [if_neg h, if_neg fun z => h (this.mpr z)]
theorem tailL_ne (hp : 0 < p) (n : Nat) : tailL p (padL p (dg n)) ≠ [] := by
  have hl := padL_len p (dg n)
  intro h
  have := congrArg List.length h
  unfold tailL at this
  rw [List.length_drop] at this
  simp at this
  omega
theorem Dn.text (g : Dn t p W) : ltext W 40 false = txt t p := by
  obtain ⟨e1, e2⟩ := ltext_parts g
  unfold ltext txt
  rw [e1, e2, sgL_eq g]
  by_cases h : 0 < p
  · simp [h, tailL_ne h]
  · have : p = 0 := by omega
    subst this
    have hl := dg_len_pos t.natAbs
    simp [headL, padL]
    have : 1 - (dg t.natAbs).length = 0 := by omega
    rw [this]; simp
theorem head_zero (hp : 0 < p) (n : Nat) (hn : 1 ≤ n) : headL p (padL p (dg n)) = [48] ↔ n < 10 ^ p := by
  have hl := padL_len p (dg n)
  constructor
  · intro h
    refine Nat.lt_of_not_le fun hge => ?_
    have h1 := dg_len_ge hge
    have e : padL p (dg n) = dg n := by
      unfold padL
      rw [show p + 1 - (dg n).length = 0 by omega]; rfl
    rw [e] at h
    unfold headL at h
    have h2 := dg_head hn
    cases hd : dg n with
    | nil => rw [hd] at h1; simp at h1
    | cons a r =>
      rw [hd] at h h1 h2
      rw [show (a :: r).length - p = ((a :: r).length - p - 1) + 1 by omega, List.take_succ_cons] at h
      simp at h2
      exact h2 (List.cons.inj h).1
  · intro h
    have h1 := dg_len_le hp h
    unfold headL
    rw [hl, show max (p + 1) (dg n).length - p = 1 by omega]
    unfold padL
    rw [show p + 1 - (dg n).length = (p - (dg n).length) + 1 by omega, List.replicate_succ]
    rfl
theorem Dn.ltext (g : Dn t p W) : Mine.ltext W 40 true = ltxt t p := by
  obtain ⟨e1, e2⟩ := ltext_parts g
  have et := g.text
  unfold ltxt
  unfold Mine.ltext at et ⊢
  rw [e1, e2, sgL_eq g] at et ⊢
  by_cases h : 0 < p
  · have hl := norm_last g.n h
    have t0 : t ≠ 0 := by rintro rfl; simp at hl
    have hz := head_zero h t.natAbs (by omega)
    by_cases hlt : t.natAbs < 10 ^ p
    · have hn : ¬ (10 ^ p ≤ t.natAbs ∨ t = 0) := by
        rintro (h' | h')
        · exact absurd hlt (Nat.not_lt.mpr h')
        · exact t0 h'
      rw [if_neg hn]
      simp [h, tailL_ne h, hz.mpr hlt]
    · have hn : 10 ^ p ≤ t.natAbs ∨ t = 0 := .inl (Nat.not_lt.mp hlt)
      rw [if_pos hn, ← et]
      have : headL p (padL p (dg t.natAbs)) ≠ [48] := fun z => hlt (hz.mp z)
      simp [h, tailL_ne h, this]
  · have : p = 0 := by omega
    subst this
    rw [← et]
    have : 10 ^ 0 ≤ t.natAbs ∨ t = 0 := by simp; omega
    rw [if_pos this]
    simp
end
end
-- part M3
section
open Builtin.Int
structure Dns (ns : List (Int × Nat)) (Ws : List Int) : Prop where
  len : Ws.length = ns.length
  at' : ∀ i, i < ns.length → Dn (nget ns i).1 (nget ns i).2 (Ws.getD i 0)
section
variable {ns : List (Int × Nat)} {Ws : List Int}
theorem low_ok (D : Dns ns Ws) : ∀ i, i < ns.length → ∃ j, j ≤ i ∧ lowN ns i = nget ns j ∧ ∀ l, l ≤ i → Ws.getD j 0 ≤ Ws.getD l 0
  | 0, h => ⟨0, Nat.le_refl _, rfl, fun l hl => by rw [show l = 0 by omega]; exact Int.le_refl _⟩
  | i + 1, h => by
    obtain ⟨j, hj, e, hm⟩ := low_ok D i (by omega)
    have c := (D.at' j (by omega)).cmp (D.at' (i + 1) h)
    have c' : cmpN (nget ns j) (nget ns (i + 1)) = sg (Ws.getD j 0 - Ws.getD (i + 1) 0) := c
    unfold lowN
    rw [e, c']
    by_cases hc : 0 < sg (Ws.getD j 0 - Ws.getD (i + 1) 0)
    · rw [if_pos hc]
      have := sg_pos.mp hc
      refine ⟨i + 1, Nat.le_refl _, rfl, fun l hl => ?_⟩
      rcases Nat.lt_or_ge l (i + 1) with hl | hl'
      · have := hm l (by omega); omega
      · rw [show l = i + 1 by omega]; exact Int.le_refl _
    · rw [if_neg hc]
      have : ¬ 0 < Ws.getD j 0 - Ws.getD (i + 1) 0 := fun z => hc (sg_pos.mpr z)
      refine ⟨j, by omega, rfl, fun l hl => ?_⟩
      rcases Nat.lt_or_ge l (i + 1) with hl | hl'
      · exact hm l (by omega)
      · rw [show l = i + 1 by omega]; omega
theorem top_ok (D : Dns ns Ws) : ∀ i, i < ns.length → ∃ j, j ≤ i ∧ topN ns i = nget ns j ∧ ∀ l, l ≤ i → Ws.getD l 0 ≤ Ws.getD j 0
  | 0, h => ⟨0, Nat.le_refl _, rfl, fun l hl => by rw [show l = 0 by omega]; exact Int.le_refl _⟩
  | i + 1, h => by
    obtain ⟨j, hj, e, hm⟩ := top_ok D i (by omega)
    have c := (D.at' j (by omega)).cmp (D.at' (i + 1) h)
    have c' : cmpN (nget ns j) (nget ns (i + 1)) = sg (Ws.getD j 0 - Ws.getD (i + 1) 0) := c
    unfold topN
    rw [e, c']
    by_cases hc : sg (Ws.getD j 0 - Ws.getD (i + 1) 0) < 0
    · rw [if_pos hc]
      have := sg_neg.mp hc
      refine ⟨i + 1, Nat.le_refl _, rfl, fun l hl => ?_⟩
      rcases Nat.lt_or_ge l (i + 1) with hl | hl'
      · have := hm l (by omega); omega
      · rw [show l = i + 1 by omega]; exact Int.le_refl _
    · rw [if_neg hc]
      have : ¬ Ws.getD j 0 - Ws.getD (i + 1) 0 < 0 := fun z => hc (sg_neg.mpr z)
      refine ⟨j, by omega, rfl, fun l hl => ?_⟩
      rcases Nat.lt_or_ge l (i + 1) with hl | hl'
      · exact hm l (by omega)
      · rw [show l = i + 1 by omega]; omega
theorem mem_getD {j : Nat} (h : j < Ws.length) : Ws.getD j 0 ∈ Ws := by
  rw [List.getD_eq_getElem?_getD, List.getElem?_eq_getElem h]; exact List.getElem_mem h
theorem getD_of_mem {x : Int} (h : x ∈ Ws) : ∃ j, j < Ws.length ∧ Ws.getD j 0 = x := by
  obtain ⟨j, hj, e⟩ := List.getElem_of_mem h
  exact ⟨j, hj, by rw [List.getD_eq_getElem?_getD, List.getElem?_eq_getElem hj]; exact e⟩
theorem Dns.least (D : Dns ns Ws) (h : 0 < ns.length) : ∃ m, m ∈ Ws ∧ (∀ x ∈ Ws, m ≤ x) ∧ norm m 40 = lowN ns (ns.length - 1) ∧ intBits m ≤ 261 := by
  obtain ⟨j, hj, e, hm⟩ := low_ok D (ns.length - 1) (by omega)
  have dj := D.at' j (by omega)
  refine ⟨Ws.getD j 0, mem_getD (by rw [D.len]; omega), fun x hx => ?_, by rw [e, dj.told], dj.bW⟩
  obtain ⟨l, hl, rfl⟩ := getD_of_mem hx
  exact hm l (by rw [D.len] at hl; omega)
theorem Dns.greatest (D : Dns ns Ws) (h : 0 < ns.length) : ∃ m, m ∈ Ws ∧ (∀ x ∈ Ws, x ≤ m) ∧ norm m 40 = topN ns (ns.length - 1) ∧ intBits m ≤ 261 := by
  obtain ⟨j, hj, e, hm⟩ := top_ok D (ns.length - 1) (by omega)
  have dj := D.at' j (by omega)
  refine ⟨Ws.getD j 0, mem_getD (by rw [D.len]; omega), fun x hx => ?_, by rw [e, dj.told], dj.bW⟩
  obtain ⟨l, hl, rfl⟩ := getD_of_mem hx
  exact hm l (by rw [D.len] at hl; omega)
theorem Dns.mp24 (D : Dns ns Ws) : mp ns ns.length ≤ 24 := mp_le _ fun j hj => (D.at' j hj).hp
theorem Dns.tops (D : Dns ns Ws) {i : Nat} (h : i < ns.length) : sc (nget ns i).1 (nget ns i).2 (mp ns ns.length) * 10 ^ (40 - mp ns ns.length) = Ws.getD i 0 :=
  (scW (D.at' i h) (le_mp _ _ h) (by have := D.mp24; omega)).symm
theorem Dns.sum (D : Dns ns Ws) : norm Ws.sum 40 = norm (topsL ns).sum (mp ns ns.length) := by
  have m24 := D.mp24
  refine norm_shift' (by omega) ?_
  have e : Ws = (List.range ns.length).map fun i => Ws.getD i 0 := by
    rw [← D.len]
    refine List.ext_getElem (by simp) fun i h1 h2 => ?_
    simp [List.getD_eq_getElem?_getD, List.getElem?_eq_getElem h1]
  have e2 : ∀ l : List Nat, (∀ i ∈ l, i < ns.length) → (l.map fun i => Ws.getD i 0).sum = (l.map fun i => sc (nget ns i).1 (nget ns i).2 (mp ns ns.length)).sum * 10 ^ (40 - mp ns ns.length) := by
    intro l
    induction l with
    | nil => intro _; simp
    | cons a l ih =>
      intro hl
      rw [List.map_cons, List.map_cons, List.sum_cons, List.sum_cons, ih fun i hi => hl i (.tail _ hi), Int.add_mul, D.tops (hl a (.head _))]
  rw [e]
  exact e2 _ fun i hi => List.mem_range.mp hi
theorem mp_mem : ∀ i, 0 < i → ∃ j, j < i ∧ mp ns i = (nget ns j).2
  | 0, h => absurd h (by decide)
  | 1, _ => ⟨0, by decide, by show max 0 (nget ns 0).2 = _; omega⟩
  | i + 2, _ => by
    obtain ⟨j, hj, e⟩ := mp_mem (i + 1) (by omega)
    show ∃ j, j < i + 2 ∧ max (mp ns (i + 1)) (nget ns (i + 1)).2 = _
    by_cases h : mp ns (i + 1) ≤ (nget ns (i + 1)).2
    · exact ⟨i + 1, by omega, by rw [Nat.max_eq_right h]⟩
    · exact ⟨j, by omega, by rw [Nat.max_eq_left (by omega), e]⟩
theorem Dns.cons {t : Int} {p : Nat} {W : Int} (d : Dn t p W) (D : Dns ns Ws) : Dns ((t, p) :: ns) (W :: Ws) :=
  ⟨by simp [D.len], fun i hi => by
    cases i with
    | zero => exact d
    | succ i => simpa using D.at' i (by simpa using hi)⟩
theorem Dns.nil : Dns [] [] := ⟨rfl, fun i hi => absurd hi (by simp)⟩
end
/-- clamped -/
theorem clamp_ok {a b c : Int × Nat} {X Y Z : Int} (da : Dn a.1 a.2 X) (db : Dn b.1 b.2 Y) (dc : Dn c.1 c.2 Z) : lowN [topN [a, b] 1, c] 1 = norm (min (max X Y) Z) 40 ∧ (cmpN b c = sg (Y - Z)) := by
  refine ⟨?_, db.cmp dc⟩
  have e1 : cmpN a b = sg (X - Y) := da.cmp db
  have ht : topN [a, b] 1 = if cmpN a b < 0 then b else a := rfl
  have hl : ∀ T : Int × Nat, lowN [T, c] 1 = if 0 < cmpN T c then c else T := fun _ => rfl
  rw [hl, ht, e1]
  by_cases h : sg (X - Y) < 0
  · have h' := sg_neg.mp h
    rw [if_pos h]
    have e2 : cmpN b c = sg (Y - Z) := db.cmp dc
    rw [e2]
    by_cases h2 : 0 < sg (Y - Z)
    · have h2' := sg_pos.mp h2
      rw [if_pos h2, show min (max X Y) Z = Z by omega, dc.told]
    · have h2' : ¬ 0 < Y - Z := fun z => h2 (sg_pos.mpr z)
      rw [if_neg h2, show min (max X Y) Z = Y by omega, db.told]
  · have h' : ¬ X - Y < 0 := fun z => h (sg_neg.mpr z)
    rw [if_neg h]
    have e2 : cmpN a c = sg (X - Z) := da.cmp dc
    rw [e2]
    by_cases h2 : 0 < sg (X - Z)
    · have h2' := sg_pos.mp h2
      rw [if_pos h2, show min (max X Y) Z = Z by omega, dc.told]
    · have h2' : ¬ 0 < X - Z := fun z => h2 (sg_pos.mpr z)
      rw [if_neg h2, show min (max X Y) Z = X by omega, da.told]
end
-- part X14
section
open Builtin.Int
section
variable {c : Cx} {ρ : Rho} {k : Nat}
theorem Cl.intB {w : World} {b : Bool} : Cl w k (.type "int") [.bool b] (.int (if b = true then 1 else 0)) := by
  intro A P s vs Q E ho G PB r hQ
  obtain ⟨v, rfl, a⟩ := r.one
  cases a
  refine call_int_bool ?_
  have e : (if b then (1:Int) else 0) = if b = true then 1 else 0 := rfl
  exact hQ _ s.heap _ (Stay.refl _) (.int _ _)
/-- the same on both sides: «!=» is False -/
theorem Tr.neS {l r : PySem.Expr} {pos : Pos} {a b : D} (o : c.Ok k) (hl : Ev c ρ l (is a)) (hr : Ev c ρ r (is b)) (e : b = a) (hf : flat 8 a = true) (hm : behindInMarks .NotEq r = false := by with_unfolding_all rfl) : Tr c ρ (.Compare l [.NotEq] [r] pos) (is false) := by
  subst e
  exact Tr.is_of (Tr.cmp hl hr (CmpOk.neD o hf hf) hm) (by simp)
theorem Ev.eqS {l r : PySem.Expr} {pos : Pos} {a b : D} (o : c.Ok k) (hl : Ev c ρ l (is a)) (hr : Ev c ρ r (is b)) (e : b = a) (hf : flat 8 a = true) (hm : behindInMarks .Eq r = false := by with_unfolding_all rfl) : Ev c ρ (.Compare l [.Eq] [r] pos) (is (.bool true)) := by
  subst e
  exact Ev.is_of (Ev.cmp hl hr (CmpOk.eqD o hf hf) hm) (by simp)
theorem Tr.neI {l r : PySem.Expr} {pos : Pos} {a b : Int} (hl : Ev c ρ l (is (.int a))) (hr : Ev c ρ r (is (.int b))) (e : b = a) (hm : behindInMarks .NotEq r = false := by with_unfolding_all rfl) : Tr c ρ (.Compare l [.NotEq] [r] pos) (is false) := by
  subst e
  exact Tr.is_of (Tr.cmp hl hr CmpOk.ne hm) (by simp)
theorem Tr.neB {l r : PySem.Expr} {pos : Pos} {a b : Bool} (hl : Ev c ρ l (is (.bool a))) (hr : Ev c ρ r (is (.bool b))) (e : b = a) (hm : behindInMarks .NotEq r = false := by with_unfolding_all rfl) : Tr c ρ (.Compare l [.NotEq] [r] pos) (is false) := by
  subst e
  exact Tr.is_of (Tr.cmp hl hr CmpOk.neB hm) (by simp)
theorem Tr.or2F {a b : PySem.Expr} {pos : Pos} (ha : Tr c ρ a (is false)) (hb : Tr c ρ b (is false)) : Tr c ρ (.BoolOp .Or [a, b] pos) (is false) := Tr.or (β := false) ha fun _ => Tr.or (β := false) hb fun _ => Tr.or_nil
theorem Tr.or3F {a b d : PySem.Expr} {pos : Pos} (ha : Tr c ρ a (is false)) (hb : Tr c ρ b (is false)) (hd : Tr c ρ d (is false)) : Tr c ρ (.BoolOp .Or [a, b, d] pos) (is false) := Tr.or (β := false) ha fun _ => Tr.or (β := false) hb fun _ => Tr.or (β := false) hd fun _ => Tr.or_nil
theorem Ex.ifF {t : PySem.Expr} {b o rest : List Stmt} {pos : Pos} {Ψ : Res → Prop} (ht : Tr c ρ t (is false)) (h : Ex c ρ (o ++ rest) Ψ) : Ex c ρ (.If t b o pos :: rest) Ψ := Ex.ifD ht (fun h => by cases h) fun _ => h
theorem flatTT (a b : Int) : flat 8 (.tup [.int a, .int b]) = true := by simp [flat]
/-- x.told() -/
theorem evTold {ob : PySem.Expr} {apos pos : Pos} {t : Int} {p : Nat} (o : c.Ok (k + 1)) (hb : Ev c ρ ob (is (.dec t p))) {pl : Sem Bool}
    (he : eval (.Call (.Attribute ob (Str.ofString "told") apos) [] [] pos) c.env = (do
      let ov ← eval ob c.env
      standAt apos.atName
      let (f, first) ← holding [ov] (getMethod ov (Str.ofString "told") pl)
      callWith pos f first (backTo pos (starEach [] c.env)) []) := by rfl) : Ev c ρ (.Call (.Attribute ob (Str.ofString "told") apos) [] [] pos) (is (.tup [.int t, .int p])) :=
  evM0 o mf_told hb c_told he
/-- _law_told(e, f) -/
theorem evLTold {px pos : Pos} {e f : PySem.Expr} {W : Int} {S : Nat} {x : Int × Nat} (o : c.Ok (k + 1)) (hk : c.env.kindOf (Str.ofString "_law_told") = some .globalImplicit) (he : Ev c ρ e (is (.int W))) (hf : Ev c ρ f (is (.int (S : Int)))) (hb : intBits W ≤ 1900) (hS : S ≤ 200) (hx : norm W S = x)
    (h1 : eval (.Call (.Name (Str.ofString "_law_told") px) [e, f] [] pos) c.env = (do callWith pos (← eval (.Name (Str.ofString "_law_told") px) c.env) [] (backTo pos (starEach [e, f] c.env)) (backToKw pos (keywordEach [] c.env))) := by rfl)
    (h2 : starEach [e, f] c.env = (false, eval e c.env) :: starEach [f] c.env := by rfl) (h2' : starEach [f] c.env = (false, eval f c.env) :: starEach [] c.env := by rfl) (h3 : (backTo pos (starEach [f] c.env)).any (·.1) = false := by rfl) :
    Ev c ρ (.Call (.Name (Str.ofString "_law_told") px) [e, f] [] pos) (is (.tup [.int x.1, .int x.2])) := by
  subst hx
  exact evF o hk gf_law_told (Evs.one he (Evs.one hf Evs.nil h2') h2) (c_law_told hb hS) rfl h1 h2 h3
end
section
variable {w : World} {k : Nat}
theorem c_law_two_told {d e : D} {t u W V : Int} {p q : Nat} (n1 : Num d t p) (n2 : Num e u q) (g : Dn t p W) (h : Dn u q V) : Cl w (k + 7) (.ref 304) [d, e, .int W, .int V] (.bool true) := by
  refine' Cl.intro (k := k + 6) (ps := [Str.ofString "x", Str.ofString "y", Str.ofString "one", Str.ofString "two"]) (ho := rfl) (hb := rfl) (hcd := by kernel_rfl) (hclo := rfl) (hg := rfl) (hbu := rfl) (hk := rfl) (hco := rfl) (hgen := rfl) (hbind := ?_) (hlen := rfl) (hps := by decide) (hn := rfl) (h := ?_)
  · intro vs h
    match vs, h with
    | [a, b, c, d], _ => rfl
  intro c o K
  dsimp only at K
  have b1 := bits_mono g.b (show 100 ≤ 1000 by decide)
  have b2 := bits_mono h.b (show 100 ≤ 1000 by decide)
  have p1 : p ≤ 200 := by have := g.hp; omega
  have p2 : q ≤ 200 := by have := h.hp; omega
  have bW := g.bW
  have bV := h.bW
  refine Ex.assignD (d := .int 40) o (K.st (by decide) (by decide)) (evScale o (K.gl (by decide))) ?_
  refine Ex.assignD (d := .dec t p) o (K.st (by decide) (by decide)) (evF o (K.gl (by decide)) gf_decimal_of (by tb_start) (c_decimal_of n1) rfl) ?_
  have sc : ∀ {px : Pos}, Ev c (upd (upd (bindRho ([Str.ofString "x", Str.ofString "y", Str.ofString "one", Str.ofString "two"].zip [d, e, .int W, .int V]) emp) (Str.ofString "scale") (.int 40)) (Str.ofString "number") (.dec t p)) (.Name (Str.ofString "scale") px) (is (.int ((40 : Nat) : Int))) := fun {_} => Ev.is_of (Ev.name o (d := .int 40) rfl) rfl
  have nu : ∀ {px : Pos}, Ev c (upd (upd (bindRho ([Str.ofString "x", Str.ofString "y", Str.ofString "one", Str.ofString "two"].zip [d, e, .int W, .int V]) emp) (Str.ofString "scale") (.int 40)) (Str.ofString "number") (.dec t p)) (.Name (Str.ofString "number") px) (is (.dec t p)) := fun {_} => Ev.name o rfl
  have yy : ∀ {px : Pos}, Ev c (upd (upd (bindRho ([Str.ofString "x", Str.ofString "y", Str.ofString "one", Str.ofString "two"].zip [d, e, .int W, .int V]) emp) (Str.ofString "scale") (.int 40)) (Str.ofString "number") (.dec t p)) (.Name (Str.ofString "y") px) (is e) := fun {_} => Ev.name o rfl
  have e1 : ∀ {px : Pos}, Ev c (upd (upd (bindRho ([Str.ofString "x", Str.ofString "y", Str.ofString "one", Str.ofString "two"].zip [d, e, .int W, .int V]) emp) (Str.ofString "scale") (.int 40)) (Str.ofString "number") (.dec t p)) (.Name (Str.ofString "one") px) (is (.int W)) := fun {_} => Ev.name o rfl
  have e2 : ∀ {px : Pos}, Ev c (upd (upd (bindRho ([Str.ofString "x", Str.ofString "y", Str.ofString "one", Str.ofString "two"].zip [d, e, .int W, .int V]) emp) (Str.ofString "scale") (.int 40)) (Str.ofString "number") (.dec t p)) (.Name (Str.ofString "two") px) (is (.int V)) := fun {_} => Ev.name o rfl
  have xx : ∀ {px : Pos}, Ev c (upd (upd (bindRho ([Str.ofString "x", Str.ofString "y", Str.ofString "one", Str.ofString "two"].zip [d, e, .int W, .int V]) emp) (Str.ofString "scale") (.int 40)) (Str.ofString "number") (.dec t p)) (.Name (Str.ofString "x") px) (is d) := fun {_} => Ev.name o rfl
  generalize upd (upd (bindRho ([Str.ofString "x", Str.ofString "y", Str.ofString "one", Str.ofString "two"].zip [d, e, .int W, .int V]) emp) (Str.ofString "scale") (.int 40)) (Str.ofString "number") (.dec t p) = ρ at sc nu yy e1 e2 xx ⊢
  refine Ex.ifF (Tr.or2F (Tr.neS o (evTold o (evM o mf_plus nu (Evs.one yy Evs.nil) (c_plus n2 b1 b2 p1 p2))) (evLTold o (K.gl (by decide)) (Ev.add e1 e2) sc (bits_mono (intBits_add_le bW bV) (by decide)) (by decide) (g.plus h)) rfl (flatTT _ _))
    (Tr.neS o (evTold o (evM o mf_minus nu (Evs.one yy Evs.nil) (c_minus n2 b1 b2 p1 p2))) (evLTold o (K.gl (by decide)) (Ev.sub e1 e2) sc (bits_mono (intBits_sub_le bW bV) (by decide)) (by decide) (g.minus h)) rfl (flatTT _ _))) ?_
  refine Ex.ifF (Tr.neS o (evTold o (evM o mf_times nu (Evs.one yy Evs.nil) (c_times n2 b1 b2))) (evLTold (S := 80) o (K.gl (by decide)) (Ev.mul e1 e2 (IntMulOk.of_le bW bV (by decide))) (Ev.is_of (Ev.mul (x := 2) (y := 40) Ev.int (Ev.is_of sc rfl) (IntMulOk.of_le (bits_lit (m := 2) (by decide)) (bits_lit (m := 6) (by decide)) (by decide))) rfl) (bits_mono (intBits_mul_le bW bV) (by decide)) (by decide) (g.times h)) rfl (flatTT _ _)) ?_
  refine Ex.ifF (Tr.or2F (Tr.neI (evM o mf_compared nu (Evs.one yy Evs.nil) (c_compared n2 b1 b2 p1 p2)) (Ev.sub (evT o (K.gl (by decide)) bf_int (Evs.one (Ev.cmp e1 e2 CmpOk.gt) Evs.nil) Cl.intB rfl) (evT o (K.gl (by decide)) bf_int (Evs.one (Ev.cmp e1 e2 CmpOk.lt) Evs.nil) Cl.intB rfl)) ?_)
    (Tr.neB (evF o (K.gl (by decide)) gf_same_number (Evs.one xx (Evs.one yy Evs.nil)) (c_same_number n1 n2 b1 b2 p1 p2) rfl) (Ev.cmp e1 e2 CmpOk.eq) ?_)) ?_
  · rw [show sg (Mine.sc t p (max p q) - Mine.sc u q (max p q)) = sg (W - V) from g.cmp h]
    by_cases h1 : W = V
    · have e : sg (W - V) = 0 := sg_zero.mpr (by omega)
      rw [e]; simp [h1]
    · by_cases h2 : V < W
      · have e : sg (W - V) = 1 := by unfold sg; rw [if_neg (by omega), if_pos (by omega)]
        have h3 : ¬ W < V := by omega
        rw [e]; simp [h2, h3]
      · have e : sg (W - V) = -1 := by unfold sg; rw [if_neg (by omega), if_neg (by omega)]
        have h3 : W < V := by omega
        rw [e]; simp [h2, h3]
  · rw [g.cmp h]
    have := @sg_zero (W - V)
    by_cases h1 : W = V
    · rw [decide_eq_true h1, decide_eq_true (this.mpr (by omega))]
    · rw [decide_eq_false h1, decide_eq_false fun z => h1 (by have := this.mp z; omega)]
  refine Ex.retD (Ev.eqS o (evTold o (evF o (K.gl (by decide)) gf_middle_of (Evs.one xx (Evs.one yy Evs.nil)) (c_middle_of n1 n2 (bits_mono g.b (by decide)) (bits_mono h.b (by decide)) p1 p2) rfl)) (evLTold (S := 41) o (K.gl (by decide)) (Ev.mul (Ev.add e1 e2) Ev.int (IntMulOk.of_le (intBits_add_le bW bV) (bits_lit (m := 3) (by decide)) (by decide))) (Ev.is_of (Ev.add (Ev.is_of sc rfl) Ev.int) (b := .int ((41 : Nat) : Int)) rfl) (bits_mono (intBits_mul_le (intBits_add_le bW bV) (bits_lit (m := 3) (by decide))) (by decide)) (by decide) (g.middle h)) rfl (flatTT _ _))
end
end
-- part X15
section
open Builtin.Int
section
variable {w : World} {k : Nat}
abbrev sc' (ns : List (Int × Nat)) (i : Nat) : Int := sc (nget ns i).1 (nget ns i).2 (mp ns ns.length)
theorem getD_map_int {Ws : List Int} {i : Nat} (h : i < Ws.length) : (Ws.map D.int).getD i .none = .int (Ws.getD i 0) := by
  simp [List.getD_eq_getElem?_getD, List.getElem?_eq_getElem h]
theorem flatInts (l : List Int) : flat 8 (.lst (l.map .int)) = true := by
  show (l.map D.int).all (flat 7) = true
  simp [flat]
theorem topsL_len (ns : List (Int × Nat)) : (topsL ns).length = ns.length := by unfold topsL; simp
theorem topsL_get {ns : List (Int × Nat)} {i : Nat} (h : i < ns.length) : (topsL ns).getD i 0 = sc (nget ns i).1 (nget ns i).2 (mp ns ns.length) := by
  unfold topsL
  simp [List.getD_eq_getElem?_getD, h]
theorem range_get {Ws : List Int} {n : Nat} (h : Ws.length = n) : (List.range n).map (fun i => D.int (Ws.getD i 0)) = Ws.map .int := by
  subst h
  refine List.ext_getElem (by simp) fun i h1 h2 => ?_
  have h3 : i < Ws.length := by simpa using h2
  simp [List.getD_eq_getElem?_getD, List.getElem?_eq_getElem h3]
theorem Iter.listN {c : Cx} {ρ : Rho} {kk : Nat} {iter : PySem.Expr} {ds : List D} {n : Nat} (o : c.Ok kk) (h : Ev c ρ iter (is (.lst ds))) (hl : ds.length = n) : Iter c ρ iter n (fun i => ds.getD i .none) := by
  subst hl
  exact Iter.list o h
theorem c_law_some_told {ds : List D} {ns : List (Int × Nat)} {Ws : List Int} (N : Nums ds ns) (G : Dns ns Ws) (h0 : 0 < ns.length) : Cl w (k + 7) (.ref 309) [.lst ds, .lst (Ws.map .int)] (.bool true) := by
  refine' Cl.intro (k := k + 6) (ps := [Str.ofString "values", Str.ofString "worths"]) (ho := rfl) (hb := rfl) (hcd := by kernel_rfl) (hclo := rfl) (hg := rfl) (hbu := rfl) (hk := rfl) (hco := rfl) (hgen := rfl) (hbind := ?_) (hlen := rfl) (hps := by decide) (hn := rfl) (h := ?_)
  · intro vs h
    match vs, h with
    | [a, b], _ => rfl
  intro c o K
  dsimp only at K
  have lW := G.len
  have lD := N.len
  have sm := N.sm
  have m24 := G.mp24
  obtain ⟨mn, mn1, mn2, mn3, mn4⟩ := G.least h0
  obtain ⟨mx, mx1, mx2, mx3, mx4⟩ := G.greatest h0
  obtain ⟨as, has, _⟩ := K.cs (Str.ofString "scale") (by decide)
  obtain ⟨ap, hap, _⟩ := K.cs (Str.ofString "places") (by decide)
  have bS : intBits Ws.sum ≤ 1900 := by
    have : ∀ l : List Int, (∀ x ∈ l, intBits x ≤ 261) → intBits l.sum ≤ 262 + l.length := by
      intro l
      induction l with
      | nil => intro _; exact bits_lit (by simp)
      | cons a l ih =>
        intro hl
        have h1 := hl a (.head _)
        have h2 := ih fun x hx => hl x (.tail _ hx)
        rw [List.sum_cons, List.length_cons]
        exact bits_mono (intBits_add_le h1 h2) (by omega)
    refine bits_mono (this Ws fun x hx => ?_) (by omega)
    obtain ⟨j, hj, rfl⟩ := getD_of_mem hx
    exact (G.at' j (by omega)).bW
  refine Ex.assignD (d := .int 40) o (K.stC (by decide) (by decide)) (evScale o (K.gl (by decide))) ?_
  generalize hρ : upd (bindRho ([Str.ofString "values", Str.ofString "worths"].zip [D.lst ds, D.lst (Ws.map .int)]) emp) (Str.ofString "scale") (D.int 40) = ρ
  have rv : ρ (Str.ofString "values") = some (.lst ds) := by rw [← hρ]; rfl
  have rw' : ρ (Str.ofString "worths") = some (.lst (Ws.map .int)) := by rw [← hρ]; rfl
  have rs : ρ (Str.ofString "scale") = some (.int 40) := by rw [← hρ]; rfl
  clear hρ
  have sc : ∀ {px : Pos}, Ev c ρ (.Name (Str.ofString "scale") px) (is (.int ((40 : Nat) : Int))) := fun {_} => Ev.is_of (Ev.name o rs) rfl
  have vv : ∀ {px : Pos}, Ev c ρ (.Name (Str.ofString "values") px) (is (.lst ds)) := fun {_} => Ev.name o rv
  have ww : ∀ {px : Pos}, Ev c ρ (.Name (Str.ofString "worths") px) (is (.lst (Ws.map .int))) := fun {_} => Ev.name o rw'
  refine Ex.ifF (Tr.or2F
    (Tr.neS o (evTold o (evF o (K.gl (by decide)) gf_least (Evs.one vv Evs.nil) (c_least N h0) rfl)) (evLTold o (K.gl (by decide)) (evB o (K.gl (by decide)) bf_min (Evs.one ww Evs.nil) (Cl.minL mn1 mn2) rfl) sc (bits_mono mn4 (by decide)) (by decide) mn3) rfl (flatTT _ _))
    (Tr.neS o (evTold o (evF o (K.gl (by decide)) gf_greatest (Evs.one vv Evs.nil) (c_greatest N h0) rfl)) (evLTold o (K.gl (by decide)) (evB o (K.gl (by decide)) bf_max (Evs.one ww Evs.nil) (Cl.maxL mx1 mx2) rfl) sc (bits_mono mx4 (by decide)) (by decide) mx3) rfl (flatTT _ _))) ?_
  refine Ex.ifF (Tr.neS o (evTold o (evF o (K.gl (by decide)) gf_sum_of (Evs.one vv Evs.nil) (c_sum_of N) rfl)) (evLTold o (K.gl (by decide)) (evB o (K.gl (by decide)) bf_sum (Evs.one ww Evs.nil) Cl.sum rfl) sc bS (by decide) G.sum) rfl (flatTT _ _)) ?_
  refine exUnpack (xs := [(Str.ofString "tops", _), (Str.ofString "places", _)]) (ds := [.lst ((topsL ns).map .int), .int ((mp ns ns.length : Nat) : Int)]) o ?_ (evF o (K.gl (by decide)) gf_tops_of (Evs.one vv Evs.nil) (c_tops_of N) rfl) (.inl rfl) rfl ?_
  · intro x hx
    simp only [List.mem_cons, List.not_mem_nil, or_false] at hx
    rcases hx with rfl | rfl
    · exact K.st (by decide) (by decide)
    · exact K.stC (by decide) (by decide)
  generalize hρ2 : bindRho (List.zip (List.map (fun x => x.fst) [((Str.ofString "tops", _) : Str × Pos), (Str.ofString "places", _)]) [D.lst ((topsL ns).map .int), D.int ((mp ns ns.length : Nat) : Int)]) ρ = ρ2
  have r2t : ρ2 (Str.ofString "tops") = some (.lst ((topsL ns).map .int)) := by rw [← hρ2]; rfl
  have r2p : ρ2 (Str.ofString "places") = some (.int ((mp ns ns.length : Nat) : Int)) := by rw [← hρ2]; rfl
  have r2w : ρ2 (Str.ofString "worths") = some (.lst (Ws.map .int)) := by rw [← hρ2, ← rw']; rfl
  have r2s : ρ2 (Str.ofString "scale") = some (.int 40) := by rw [← hρ2, ← rs]; rfl
  clear hρ2
  have kf := o.fn
  have ks : c.env.kindOf (Str.ofString "scale") = some .cell := K.kd _ _ (by decide)
  have kp : c.env.kindOf (Str.ofString "places") = some .cell := K.kd _ _ (by decide)
  refine Ex.ifF (Tr.neI (a := ((mp ns ns.length : Nat) : Int)) (b := ((mp ns ns.length : Nat) : Int)) (Ev.name o r2p) (evB o (K.gl (by decide)) bf_max (Evs.one (d := .lst (((List.range ns.length).map fun i => ((nget ns i).2 : Int)).map .int)) ?_ Evs.nil) (Cl.maxL ?_ ?_) rfl) rfl) ?_
  · refine Ev.is_of (a := .lst ((List.range Ws.length).map fun i => .int ((nget ns i).2 : Int))) ?_ (by rw [List.map_map, lW]; rfl)
    refine' evComp (n := Ws.length) (cl := [(Str.ofString "scale", as)]) (items := fun i => (Ws.map D.int).getD i .none) (g := fun i => .int ((nget ns i).2 : Int)) (ρ' := upd emp (Str.ofString "scale") (.int 40)) (names' := [(Str.ofString ".0", NameKind.local), (Str.ofString "worth", NameKind.local), (Str.ofString "_law_told", NameKind.globalImplicit), (Str.ofString "scale", NameKind.cell)]) o ?_ ?_ ?_ ?_ ?_ ?_ ?_ ?_ ?_ ?_ ?_ ?_
    · exact Iter.listN o (Ev.name o r2w) (by rw [List.length_map])
    · simp [closureFor, cellOf, has]
    · decide
    · rfl
    · decide
    · decide
    · decide
    · intro y a e
      simp only [List.lookup_cons, List.lookup_nil] at e
      split at e
      · rename_i h; cases e; rw [beq_iff_eq.mp h]; exact has
      · cases e
    · intro y d e
      unfold upd at e
      split at e
      · rename_i h; cases e; subst h
        exact ⟨r2s, ks, by unfold relabel; simp [kf, ks, List.lookup_cons]; rfl, as, by simp⟩
      · cases e
    · unfold relabel; simp [kf, ks]
    · intro c' i hi o' ew hk'
      have dn := G.at' i (by omega)
      have e1 : (Ws.map D.int).getD i .none = .int (Ws.getD i 0) := getD_map_int hi
      try dsimp only
      rw [e1]
      exact evItemT (ds := [.int (nget ns i).1, .int ((nget ns i).2 : Int)]) o' (evLTold (x := nget ns i) (S := 40) o' (hk' _ _ (by decide)) (Ev.name o' (d := .int (Ws.getD i 0)) upd_same) (Ev.is_of (Ev.name o' (d := .int 40) (by rw [upd_ne (by decide)]; exact upd_same)) rfl) (bits_mono dn.bW (by decide)) (by decide) dn.told) Ev.int (by decide) (by decide) rfl
    · omega
  · obtain ⟨j, hj, e⟩ := mp_mem (ns := ns) ns.length h0
    rw [e]
    exact List.mem_map.mpr ⟨j, List.mem_range.mpr hj, rfl⟩
  · intro x hx
    obtain ⟨j, hj, rfl⟩ := List.mem_map.mp hx
    have := le_mp (ns := ns) ns.length j (List.mem_range.mp hj)
    have : (nget ns j).2 ≤ mp ns ns.length := this
    omega
  refine Ex.retD (Ev.eqS (a := .lst (Ws.map .int)) (b := .lst (Ws.map .int)) o ?_ (Ev.name o r2w) rfl (flatInts _))
  refine Ev.is_of (a := .lst ((List.range (topsL ns).length).map fun i => .int (Ws.getD i 0))) ?_ (by rw [range_get (by rw [topsL_len, lW])])
  refine' evComp (n := (topsL ns).length) (cl := [(Str.ofString "scale", as), (Str.ofString "places", ap)]) (items := fun i => ((topsL ns).map D.int).getD i .none) (g := fun i => .int (Ws.getD i 0)) (ρ' := upd (upd emp (Str.ofString "scale") (.int 40)) (Str.ofString "places") (.int ((mp ns ns.length : Nat) : Int))) (names' := [(Str.ofString ".0", NameKind.local), (Str.ofString "top", NameKind.local), (Str.ofString "places", NameKind.cell), (Str.ofString "scale", NameKind.cell)]) o ?_ ?_ ?_ ?_ ?_ ?_ ?_ ?_ ?_ ?_ ?_ ?_
  · exact Iter.listN o (Ev.name o r2t) (by rw [List.length_map])
  · simp [closureFor, cellOf, has, hap]
  · decide
  · rfl
  · decide
  · decide
  · decide
  · intro y a e
    simp only [List.lookup_cons, List.lookup_nil] at e
    split at e
    · rename_i h; cases e; rw [beq_iff_eq.mp h]; exact has
    · split at e
      · rename_i h; cases e; rw [beq_iff_eq.mp h]; exact hap
      · cases e
  · intro y d e
    unfold upd at e
    split at e
    · rename_i h; cases e; subst h
      exact ⟨r2p, kp, by unfold relabel; simp [kf, ks, kp, List.lookup_cons] <;> rfl, ap, by first | rfl | (simp [List.lookup_cons]; done) | (simp [List.lookup_cons]; rfl)⟩
    · split at e
      · rename_i h; cases e; subst h
        exact ⟨r2s, ks, by unfold relabel; simp [kf, ks, kp, List.lookup_cons] <;> rfl, as, by simp⟩
      · cases e
  · unfold relabel; simp [kf, ks, kp]
  · intro c' i hi o' ew hk'
    rw [topsL_len] at hi
    have e1 : ((topsL ns).map D.int).getD i .none = .int (sc' ns i) := by rw [getD_map_int (by rw [topsL_len]; exact hi), topsL_get hi]
    have tp := G.tops hi
    try dsimp only
    rw [e1]
    refine Ev.is_of (Ev.mul (Ev.name o' (d := .int (sc' ns i)) upd_same) (evPow10 (n := 40 - mp ns ns.length) Ev.int (Ev.sub (Ev.name o' (d := .int 40) (by rw [upd_ne (by decide), upd_ne (by decide)]; exact upd_same)) (Ev.name o' (d := .int ((mp ns ns.length : Nat) : Int)) (by rw [upd_ne (by decide)]; exact upd_same))) (by omega) (by omega)) ?_) (by rw [← tp])
    have hb := (G.at' i hi).b
    exact IntMulOk.of_le (bits_sc (G.at' i hi).b (by omega)) (bits_pow10 _) (by omega)
  · rw [topsL_len]; omega
end
end
-- part X16
section
open Builtin.Int
section
variable {c : Cx} {ρ : Rho} {k : Nat}
theorem ExJ.ifF {J : Heap → Prop} {t : PySem.Expr} {b o rest : List Stmt} {pos : Pos} {Ψ : Res → Prop} (ht : Tr c ρ t (is false)) (h : ExJ c J ρ (o ++ rest) Ψ) : ExJ c J ρ (.If t b o pos :: rest) Ψ := ExJ.ifD ht (fun h => by cases h) fun _ => h
theorem dec_if {P : Prop} [Decidable P] {a b : Int × Nat} : (if P then D.dec a.1 a.2 else .dec b.1 b.2) = .dec (if P then a else b).1 (if P then a else b).2 := by split <;> rfl
/-- two texts, the same -/
theorem Ev.eqText {l r : PySem.Expr} {pos : Pos} {a b : List Nat} (hl : Ev c ρ l (is (.str (ofL a)))) (hr : Ev c ρ r (is (.str (ofL b)))) (e : b = a) (hm : behindInMarks .Eq r = false := by with_unfolding_all rfl) : Ev c ρ (.Compare l [.Eq] [r] pos) (is (.bool true)) := by
  subst e
  exact Ev.is_of (Ev.cmp hl hr CmpOk.eqS hm) (by simp)
end
section
variable {w : World} {k : Nat} {pa ca : Addr} {cv : Array Value} {cs : List Int}
theorem c_law_one_told {A : Around} {E : Value → Shared → Prop} {s : Shared} {h₀ : Heap} {n : Int} {dv : D} {t W : Int} {p : Nat} {v : Value} {tk : Tok} {Q : Value → Shared → Prop} (hn : n ≤ 900) (hc : Cells cs cv) (hlen : cs.length ≤ 63) (hv : Num dv t p) (g : Dn t p W)
    (room : AOk A (k + 8)) (G : Gl w h₀) (sub : Stay h₀ s.heap) (h0 : h₀.get? pa = none) (ne : pa ≠ ca) (pen : Pen pa ca cv n s.heap) (rv : Rd (fun a => a = pa) s.heap v dv)
    (hQ : ∀ h' tk, Pen pa ca cv (n + 1) h' → Ext (fun a => a = pa) s.heap h' → Q (.bool true) { s with heap := h', toks := tk }) :
    wpAny (model pw w) A (call (.ref 297) [.ref pa, v, .int W tk]) Q E s := by
  have pen' := pen
  obtain ⟨spot, rest, ⟨u1, u2, ⟨o1, e1, _⟩, o2, e2, _⟩, _⟩ := pen'
  refine' wpAny_call (enterX (k := k + 7) (h₀ := h₀) (P := fun a => a = pa) (I := Pen pa ca cv n) (S := fun a => a = pa ∨ a = ca) (vs := [.ref pa, v, .int W tk]) (ds := [.raw (.ref pa), dv, .int W]) (ps := [Str.ofString "pen", Str.ofString "value", Str.ofString "worth"])
    (ho := rfl) (hb := rfl) (hcd := by kernel_rfl) (hclo := rfl) (hg := rfl) (hbu := rfl) (hk := rfl) (hco := rfl) (hgen := rfl) (hbind := BindsTo.of_eq rfl) (hps := by decide) (hn := rfl) room.room (fun env => room.deeper env) G sub (fun a ha => ⟨o1, ha ▸ e1⟩) (.cons (.raw _) (.cons rv (.cons (.int _ _) .nil))) pen
    (fun a ha => ha.elim (fun z => ⟨o1, z ▸ e1⟩) fun z => ⟨o2, z ▸ e2⟩) (fun h h' i kk => i.ext fun z ob hz e => kk z ob hz e) ?_)
  intro c o KS cw ch ci cS cA cf cc p1 p2 lsz h₁ t₁ stay st
  dsimp only at KS p2
  subst cw
  have cells : ∀ x, c.env.cells.lookup x = none := fun x => by rw [cc]; rfl
  have pc : PenC c pa ca := ⟨p1 pa rfl, fun z => (p2 ca z).elim (fun q => ne q.symm) fun q => absurd (Heap.lt_size e2) (Nat.not_lt.mpr q), cS ▸ Or.inl rfl, cS ▸ Or.inr rfl, ch ▸ h0, ne, fun x a e => by rw [cells x] at e; cases e⟩
  let PJ : Int → Heap → Prop := Pen pa ca cv
  have oj : ∀ m, (c.wi (PJ m)).Ok (k + 7) := fun m => o.wi fun h h' i kk => i.ext fun z ob hz e => kk z ob (cS ▸ hz) e
  have KJ : ∀ m, KD (c.wi (PJ m)) _ := fun m => KS.wi
  let Ψ : Res → Prop := fun r => r = .ret (.bool true)
  refine (show ExJ c (PJ (n + 1)) (bindRho ([Str.ofString "pen", Str.ofString "value", Str.ofString "worth"].zip [.raw (.ref pa), dv, .int W]) emp) _ Ψ from ?body) _ _ st ?fin |> noE
  case fin =>
    rintro r f h' tk' rfl ⟨v, ρ', rfl, rv, s'⟩ ext
    cases rv
    refine hQ h' tk' s'.inv fun b ob nb e => ?_
    exact ext b ob (fun z => (p2 b z).elim nb fun q => absurd (Heap.lt_size e) (Nat.not_lt.mpr q)) (stay b ob e)
  have cI : c = c.wi (PJ n) := by show c = { c with I := Pen pa ca cv n }; rw [← ci]
  rw [cI]
  have oo := oj n
  have K := KJ n
  have b1 := bits_mono g.b (show 100 ≤ 1000 by decide)
  have q1 : p ≤ 200 := by have := g.hp; omega
  have bW := g.bW
  have bU : intBits ((10:Int) ^ 40) ≤ 161 := bits_pow10 40
  refine ExJ.assignD (d := .int 40) oo (K.st (by decide) (by decide)) (evScale oo (K.gl (by decide))) ?_
  refine ExJ.assignD (d := .int (10 ^ 40)) oo (K.st (by decide) (by decide)) (evPow10 (n := 40) Ev.int (Ev.is_of (Ev.name oo (d := .int 40) upd_same) rfl) rfl (by decide)) ?_
  refine ExJ.assignD (d := .dec t p) oo (K.st (by decide) (by decide)) (evF oo (K.gl (by decide)) gf_decimal_of (Evs.one (Ev.name oo (d := dv) rfl) Evs.nil) (c_decimal_of hv) rfl) ?_
  generalize hρ : upd (upd (upd (bindRho ([Str.ofString "pen", Str.ofString "value", Str.ofString "worth"].zip [D.raw (.ref pa), dv, D.int W]) emp) (Str.ofString "scale") (D.int 40)) (Str.ofString "unit") (D.int (10 ^ 40))) (Str.ofString "number") (D.dec t p) = ρ
  have r1 : ρ (Str.ofString "pen") = some (.raw (.ref pa)) := by rw [← hρ]; rfl
  have r2 : ρ (Str.ofString "value") = some dv := by rw [← hρ]; rfl
  have r3 : ρ (Str.ofString "worth") = some (.int W) := by rw [← hρ]; rfl
  have r4 : ρ (Str.ofString "scale") = some (.int 40) := by rw [← hρ]; rfl
  have r5 : ρ (Str.ofString "unit") = some (.int (10 ^ 40)) := by rw [← hρ]; rfl
  have r6 : ρ (Str.ofString "number") = some (.dec t p) := by rw [← hρ]; rfl
  clear hρ
  have sc : ∀ {px : Pos}, Ev (c.wi (PJ n)) ρ (.Name (Str.ofString "scale") px) (is (.int ((40 : Nat) : Int))) := fun {_} => Ev.is_of (Ev.name oo r4) rfl
  have nu : ∀ {px : Pos}, Ev (c.wi (PJ n)) ρ (.Name (Str.ofString "number") px) (is (.dec t p)) := fun {_} => Ev.name oo r6
  have wo : ∀ {px : Pos}, Ev (c.wi (PJ n)) ρ (.Name (Str.ofString "worth") px) (is (.int W)) := fun {_} => Ev.name oo r3
  have va : ∀ {px : Pos}, Ev (c.wi (PJ n)) ρ (.Name (Str.ofString "value") px) (is dv) := fun {_} => Ev.name oo r2
  have un : ∀ {px : Pos}, Ev (c.wi (PJ n)) ρ (.Name (Str.ofString "unit") px) (is (.int (10 ^ 40))) := fun {_} => Ev.name oo r5
  refine ExJ.ifF (Tr.or2F (Tr.neS oo (evTold oo nu) (evLTold oo (K.gl (by decide)) wo sc (bits_mono bW (by decide)) (by decide) g.told) rfl (flatTT _ _))
    (Tr.neS oo (evTup oo (Evs.one (Ev.top oo nu) (Evs.one (Ev.places oo nu) Evs.nil)) (by simp)) (evTold oo nu) rfl (flatTT _ _))) ?_
  refine ExJ.ifF (Tr.or3F (Tr.neB (evM0 oo mf_is_whole nu c_is_whole) (Ev.cmp (Ev.mod wo un (p10_ne 40)) Ev.int CmpOk.eq) g.whole.symm)
    (Tr.neI (evM0 oo mf_floor nu (c_floor q1)) (Ev.floordiv wo un (p10_ne 40) (bits_mono bU (by decide))) g.floor.symm)
    (Tr.neI (evF oo (K.gl (by decide)) gf_ceiling (Evs.one va Evs.nil) (c_ceiling hv q1) rfl) (Ev.neg (Ev.floordiv (Ev.neg wo) un (p10_ne 40) (bits_mono bU (by decide)))) (by rw [g.ceil]))) ?_
  refine ExJ.ifF (Tr.or2F (Tr.neS oo (evTold oo (evM0 oo mf_negated nu c_negated)) (evLTold oo (K.gl (by decide)) (Ev.neg wo) sc (bits_mono (intBits_neg_le bW) (by decide)) (by decide) g.neg) rfl (flatTT _ _))
    (Tr.neS oo (evTold oo (Ev.is_of (evF oo (K.gl (by decide)) gf_absolute (Evs.one va Evs.nil) (c_absolute hv) rfl) (dec_if (a := norm (-t) p) (b := (t, p))))) (evLTold oo (K.gl (by decide)) (evAbs (names := []) oo (K.gl (by decide)) wo) sc (bits_mono (intBits_natAbs_le bW) (by decide)) (by decide) g.abs) rfl (flatTT _ _))) ?_
  refine ExJ.ifF (Tr.neS oo (evTold oo (evF oo (K.gl (by decide)) gf_halved (Evs.one va Evs.nil) (c_halved hv b1) rfl)) (evLTold (S := 41) oo (K.gl (by decide)) (Ev.mul wo Ev.int (IntMulOk.of_le bW (bits_lit (m := 3) (by decide)) (by decide))) (Ev.is_of (Ev.add sc Ev.int) (b := .int ((41 : Nat) : Int)) rfl) (bits_mono (intBits_mul_le bW (bits_lit (m := 3) (by decide))) (by decide)) (by decide) g.half) rfl (flatTT _ _)) ?_
  refine ExJ.assignJ (J' := PJ (n + 1)) (oj (n + 1)) (K.st (by decide) (by decide)) (evDraw pc.wi oo hc hlen (K.gl (by decide)) (fun h i => i) (fun h h' i ext pen => pen) r1 Ev.int (by omega) (by decide) (bits_lit (m := 5) (by decide) |> fun h => bits_mono h (by decide))) ?_
  rintro _ ⟨pl, rfl, l0, l1⟩
  obtain ⟨ql, rfl⟩ := Int.eq_ofNat_of_zero_le l0
  refine ExJ.of (c := c.wi (PJ (n + 1))) ?_ fun h i => i
  have ow := oj (n + 1)
  have KW := KJ (n + 1)
  have J0 : ∀ {x : Str} {d : D}, x ≠ Str.ofString "places" → ρ x = some d → upd ρ (Str.ofString "places") (.int (ql : Int)) x = some d := fun h e => by rw [upd_ne h]; exact e
  refine Ex.for (n := 3) (items := fun i => [D.int 0, D.int 1, D.int (ql : Int)].getD i .none) (Ψ := fun r => ∃ ρ', r = .next ρ' ∧ ρ' (Str.ofString "number") = some (.dec t p) ∧ ρ' (Str.ofString "worth") = some (.int W) ∧ ρ' (Str.ofString "scale") = some (.int 40)) ow (by decide) (KW.kd _ _ (by decide))
    (Iter.listN ow (evList ow (Evs.one Ev.int (Evs.one Ev.int (Evs.one (Ev.name ow upd_same) Evs.nil))) (by simp)) rfl)
    (fun i ρ' => ρ' (Str.ofString "number") = some (.dec t p) ∧ ρ' (Str.ofString "worth") = some (.int W) ∧ ρ' (Str.ofString "scale") = some (.int 40)) ⟨J0 (by decide) r6, J0 (by decide) r3, J0 (by decide) r4⟩ ?_ (fun ρ' h => ⟨ρ', rfl, h⟩) ?_
  · rintro c' i ρ' hi ⟨a1, a2, a3⟩ o' l
    have K' := l.kd KW
    have hq : ∃ q : Nat, [D.int 0, D.int 1, D.int (ql : Int)].getD i .none = .int (q : Int) ∧ q ≤ 40 := by
      match i, hi with
      | 0, _ => exact ⟨0, rfl, by decide⟩
      | 1, _ => exact ⟨1, rfl, by decide⟩
      | 2, _ => exact ⟨ql, rfl, by omega⟩
    obtain ⟨q, eq, hq⟩ := hq
    rw [eq]
    have ne1 : ∀ {x : Str} {d : D}, x ≠ Str.ofString "few" → ρ' x = some d → upd ρ' (Str.ofString "few") (.int (q : Int)) x = some d := fun h e => by rw [upd_ne h]; exact e
    refine Ex.ifF (Tr.neS o' (evTold o' (Ev.is_of (evM o' mf_rounded (Ev.name o' (ne1 (by decide) a1)) (Evs.one (Ev.name o' upd_same) Evs.nil) (c_rounded b1 q1)) (dec_if (P := p ≤ q) (a := (t, p)) (b := norm (rq t (10 ^ (p - q))) q))))
      (Ev.is_of (evF o' (K'.gl (by decide)) gf_law_rounded (Evs.one (Ev.name o' (ne1 (by decide) a2)) (Evs.one (Ev.is_of (b := .int ((40 : Nat) : Int)) (Ev.name o' (ne1 (by decide) a3)) rfl) (Evs.one (Ev.name o' upd_same) Evs.nil))) (c_law_rounded (bits_mono bW (by decide)) (by decide) hq) rfl) (b := .tup [.int (if p ≤ q then (t, p) else norm (rq t (10 ^ (p - q))) q).1, .int ((if p ≤ q then (t, p) else norm (rq t (10 ^ (p - q))) q).2 : Int)]) (by unfold nrmD; rw [g.round hq])) rfl (flatTT _ _)) ?_
    exact Ex.nil ⟨ne1 (by decide) a1, ne1 (by decide) a2, ne1 (by decide) a3⟩
  rintro ρ' ⟨ρ'', e, a1, a2, a3⟩
  cases e
  have sc' : ∀ {px : Pos}, Ev (c.wi (PJ (n + 1))) ρ' (.Name (Str.ofString "scale") px) (is (.int ((40 : Nat) : Int))) := fun {_} => Ev.is_of (Ev.name ow a3) rfl
  refine Ex.retD (Ev.is_of (Ev.and2 (β := true) (γ := true) (Ev.eqText (evM0 ow mf_text (Ev.name ow a1) (c_text b1 q1)) (evF ow (KW.gl (by decide)) gf_law_text (Evs.one (Ev.name ow a2) (Evs.one sc' (Evs.one Ev.bool Evs.nil))) (c_law_text (bits_mono bW (by decide)) (by decide) (by decide)) rfl) g.text)
    fun _ => Ev.eqText (evM0 ow mf_least_text (Ev.name ow a1) (c_least_text b1 q1)) (evF ow (KW.gl (by decide)) gf_law_text (Evs.one (Ev.name ow a2) (Evs.one sc' (Evs.one Ev.bool Evs.nil))) (c_law_text (bits_mono bW (by decide)) (by decide) (by decide)) rfl) g.ltext) rfl)
end
end
-- part X13
section
open Builtin.Int
section
variable {w : World} {k : Nat} {cs : List Int}
theorem c_law_pen {A : Around} {P : Addr → Prop} {E : Value → Shared → Prop} {s : Shared} {v : Value} {Q : Value → Shared → Prop} (room : AOk A (k + 2)) (G : Gl w s.heap) (PB : ∀ a, P a → ∃ o, s.heap.get? a = some o) (rv : Rd P s.heap v (.lst (cs.map .int))) (hlen : cs.length ≤ 63)
    (hQ : ∀ pa ca cv t1 t2 h' tk, Cells cs cv → h'.IsList pa #[.ref ca, .int 0 t1, .int 0 t2] → h'.IsList ca cv → s.heap.get? pa = none → pa ≠ ca → ¬ P ca → Stay s.heap h' → Q (.ref pa) { s with heap := h', toks := tk }) :
    wpAny (model pw w) A (call (.ref 248) [v]) Q E s := by
  refine' wpAny_call (enterX (k := k + 1) (h₀ := s.heap) (P := P) (I := fun _ => True) (S := fun _ => False) (vs := [v]) (ds := [.lst (cs.map .int)]) (ps := [Str.ofString "script"])
    (ho := rfl) (hb := rfl) (hcd := by kernel_rfl) (hclo := rfl) (hg := rfl) (hbu := rfl) (hk := rfl) (hco := rfl) (hgen := rfl) (hbind := BindsTo.of_eq rfl) (hps := by decide) (hn := rfl) room.room (fun env => room.deeper env) G (Stay.refl _) PB (.cons rv .nil) trivial (fun _ h => h.elim) (fun _ _ _ _ => trivial) ?_)
  intro c o K cw ch ci cS cA cf cc p1 p2 lsz h₁ t₁ stay st
  dsimp only at K p2
  subst cw
  have ll : (cs.map D.int).length ≤ 63 := by rw [List.length_map]; exact hlen
  have comp : ∀ {px p1 p2 p3 p4 p5 p6 p7 pos : Pos} {n : Nat} {sco : Scope}, sco = { kind := .function, names := [(Str.ofString ".0", .local), (Str.ofString "cell", .local), (Str.ofString "int", .globalImplicit)], isGenerator := false, isCoroutine := false } → Ev c (bindRho ([Str.ofString "script"].zip [D.lst (cs.map .int)]) emp) (.ListComp (.Call (.Name (Str.ofString "int") px) [.Name (Str.ofString "cell") p1] [] p2) [⟨.Name (Str.ofString "cell") p3, .Subscript (.Name (Str.ofString "script") p4) (.Slice none (some (.Constant (.int 63) n p5)) none p6) p7, [], 0⟩] sco pos) (is (.lst (cs.map .int))) := by
    intro px p1 p2 p3 p4 p5 p6 p7 pos n sco hsco
    subst hsco
    refine Ev.is_of (a := .lst ((List.range cs.length).map fun i => .int (cs.getD i 0))) ?_ (by rw [range_get rfl])
    refine' evComp (n := cs.length) (cl := []) (items := fun i => (cs.map D.int).getD i .none) (g := fun i => .int (cs.getD i 0)) (ρ' := emp) (names' := [(Str.ofString ".0", NameKind.local), (Str.ofString "cell", NameKind.local), (Str.ofString "int", NameKind.globalImplicit)]) o (Iter.listN o (Ev.is_of (evTakeL (a := 63) o (Ev.name o rfl) Ev.int (by omega)) (by rw [List.take_of_length_le ll])) (by rw [List.length_map])) rfl ?_ rfl ?_ ?_ ?_ ?_ ?_ ?_ ?_ ?_
    · decide
    · decide
    · decide
    · decide
    · intro y a e; cases e
    · intro y d e; cases e
    · rfl
    · intro c' i hi o' ew hk'
      have e1 : (cs.map D.int).getD i .none = .int (cs.getD i 0) := getD_map_int hi
      try dsimp only
      rw [e1]
      exact evT o' (hk' _ _ (by decide)) bf_int (Evs.one (Ev.name o' upd_same) Evs.nil) Cl.int rfl
    · omega
  refine wpAny_execs_cons (wpAny_Return_some (List_ (noE (Evs.one (comp rfl) (Evs.one Ev.int (Evs.one Ev.int Evs.nil)) rfl _ _ st fun vs ds h₂ t₂ ed s₂ r₂ e₂ => ?_))))
  cases ed
  obtain ⟨v0, v1, v2, rfl, a0, a1, a2⟩ := r₂.three
  cases a1 with | int _ u1 =>
  cases a2 with | int _ u2 =>
  cases a0 with
  | @lst ca vs _ hl hp ra =>
    have stay2 : Stay s.heap h₂ := fun b ob e => by
      have := s₂.keep
      rw [ch] at this
      exact this b ob e
    refine wpAny_newObj_type ?_ (by size_fits)
    have pn : h₂.get? h₂.objs.size = none := by
      cases q : h₂.get? h₂.objs.size with
      | none => rfl
      | some o => exact absurd (Heap.lt_size q) (Nat.lt_irrefl _)
    have clt : ca < h₂.objs.size := by obtain ⟨oo, e, _⟩ := hl; exact Heap.lt_size e
    refine hQ h₂.objs.size ca vs.toArray u1 u2 _ t₂ ?_ ⟨_, Heap.get?_push_size _ rfl, rfl, 0, rfl⟩ ?_ ?_ (Nat.ne_of_gt clt) (fun z => hp (p1 ca z)) (stay2.trans (stay_push _ _))
    · intro P' h'
      obtain ⟨xs, rfl, e⟩ := rd_ints ra
      subst e
      clear hl hp ra stay2 clt hQ comp ll rv hlen p1
      have : ∀ xs : List (Int × Tok), RdAll P' h' (xs.map fun p => Value.int p.1 p.2) ((xs.map (·.1)).map D.int) := fun xs => by
        induction xs with
        | nil => exact .nil
        | cons a l ih => exact .cons (.int _ _) ih
      simpa using this xs
    · obtain ⟨oo, e, r⟩ := hl
      exact ⟨oo, Heap.get?_push_of_some _ e, r⟩
    · cases q : s.heap.get? h₂.objs.size with
      | none => rfl
      | some ob => have := stay2 _ _ q; rw [pn] at this; cases this
end
end
-- part X17
section
section
variable {c : Cx} {ρ : Rho} {k : Nat}
/-- a change of what is hidden -/
theorem St.hid {J : Heap → Prop} {h h' : Heap} (hid : Addr → Prop) (hP : ∀ a, hid a → c.P a) (h0 : ∀ a, hid a → c.h₀.get? a = none) (hl : ¬ hid c.env.locals) (hc : ∀ x a, c.env.cells.lookup x = some a → ¬ hid a)
    (x : St c h ρ) (sb : Ext hid h h') (ex : ∀ a, hid a → ∃ ob, h'.get? a = some ob) (i : J h') : St (c.wi J) h' ρ := by
  have exs : ∀ b, (∃ ob, h.get? b = some ob) → ∃ ob, h'.get? b = some ob := fun b ⟨ob, e⟩ => by
    by_cases z : hid b
    · exact ex b z
    · exact ⟨ob, sb b ob z e⟩
  obtain ⟨m, cm, V⟩ := x.vars
  refine ⟨fun b ob e => sb b ob (fun z => by rw [h0 b z] at e; cases e) (x.keep b ob e), fun a ha => exs a (x.PB a ha), fun a ha => exs a (x.SB a ha), i, m, cm, V.ns.at' fun ob e => sb _ ob hl e, fun y a e => ?_, fun y d e => ?_⟩
  · obtain ⟨oc, hoc, hd⟩ := V.cell y a e
    exact ⟨oc, sb _ _ (hc y a e) hoc, hd⟩
  · obtain ⟨u, b, r⟩ := V.rd y d e
    exact ⟨u, b, r.ext fun b ob nb e => sb b ob (fun z => nb (hP b z)) e⟩

/-- range(n) -/
theorem iterRange {n : Nat} {px p1 pos : Pos} {m : Nat} (o : c.Ok k) (hn : n ≤ 1000) (hk : c.env.kindOf (Str.ofString "range") = some .globalImplicit) : Iter c ρ (.Call (.Name (Str.ofString "range") px) [.Constant (.int (n : Int)) m p1] [] pos) n (fun i => .int (i : Int)) := by
  intro s Q hs hQ
  have R := bf_range (w := c.w)
  refine Call_ (Fv.blt o hk R.g R.b R.n (by decide) ρ s _ hs (PyProof.Rows.callWith_type1 (Evs.one Ev.int Evs.nil rfl s _ hs fun vs ds h₁ t₁ ed s₁ r₁ e₁ => ?_) rfl rfl)) rfl
  cases ed
  obtain ⟨v, rfl, a⟩ := r₁.one
  cases a with | int _ tk =>
  refine call_range_1 ?_
  have sz : Builtin.Range.rangeSize 0 (n : Int) 1 = (n : Int) := by rw [rangeSize_one]; split <;> omega
  refine wpAny_pyIter_range (IsRange.new _ _ _ _ _ _ _) ?small ?_
  case small =>
    unfold Builtin.Range.small
    rw [sz]
    have f : ∀ x : Int, 0 ≤ x → x ≤ 1000 → Builtin.Range.rangeFitsLong x = true := fun x h1 h2 => by
      unfold Builtin.Range.rangeFitsLong
      simp
      omega
    simp [f 0 (by decide) (by decide), f 1 (by decide) (by decide), f (n : Int) (by omega) (by omega)]
  dsimp only
  have stR := stay_push h₁ { cls := .type "range", data := .fields #[.int 0 t₁, .int (n : Int) tk, .int 1 (t₁ + 1)] }
  generalize hH : h₁.push { cls := .type "range", data := .fields #[.int 0 t₁, .int (n : Int) tk, .int 1 (t₁ + 1)] } = H at stR ⊢
  have s₂ := s₁.stay o stR
  have fresh : H.get? H.objs.size = none := by
    cases q : H.get? H.objs.size with
    | none => rfl
    | some ob => exact absurd (Heap.lt_size q) (Nat.lt_irrefl _)
  refine hQ H.objs.size [H.objs.size] _ _ H _ _ (Walks.range (prog := pw) (w := c.w) o.room.hh H.objs.size 0 1 n) ?_ fresh s₂ (e₁.trans stR.ext) (stay_push _ _) (fun i h y => ⟨_, y⟩) (fun b hb => ⟨_, List.mem_singleton.mp hb ▸ Heap.get?_push_size _ rfl⟩) (fun b hb => .inl (List.mem_singleton.mp hb)) (List.mem_singleton.mpr rfl) fun i v hv _ => ?_
  · show IsRangeIter _ _ _ _ _
    rw [sz]
    simpa using Heap.get?_push_size H (o := { cls := .type "range_iterator", data := .fields #[rawInt 0, rawInt n, rawInt 1] }) rfl
  · obtain ⟨u, rfl⟩ := hv
    have : (0 : Int) + (i : Int) * 1 = i := by omega
    rw [this]
    exact .int _ _

/-- a for over a family of invariants, with data on the way -/
theorem forS {σ : Type} (J : σ → Heap → Prop) (xv : σ → List Value) (xd : σ → List D) {x : Str} {px pos : Pos} {iter : PySem.Expr} {body rest : List Stmt} {n : Nat} {items : Nat → D}
    (o : ∀ a, (c.wi (J a)).Ok k) (hx : (x == ("__debug__" : Str)) = false) (hk : c.env.kindOf x = some .local) {a₀ : σ} (hi : Iter (c.wi (J a₀)) ρ iter n items) (valid : Nat → σ → Rho → Prop) (h0 : valid 0 a₀ ρ)
    (step : ∀ (I : Addr) (fp : List Addr) (S : Heap → Prop), (∀ a, ((c.wi (J a)).at I fp S).Ok k) → ¬ c.P I → (∀ b ∈ fp, ¬ c.P b) → c.h₀.get? I = none → ¬ c.S I → (∀ h h', S h → (∀ b ∈ fp, ∀ o, h.get? b = some o → h'.get? b = some o) → S h') → (∀ y a, c.env.cells.lookup y = some a → a ∉ fp) →
      ∀ i a ρ', i < n → valid i a ρ' → ∀ (s : Shared) (Q : Flow → Shared → Prop), St ((c.wi (J a)).at I fp S) s.heap (upd ρ' x (items i)) → RdAll (fun z => c.P z ∨ z = I) s.heap (xv a) (xd a) →
        (∀ a' ρ'' h' tk, valid (i + 1) a' ρ'' → St ((c.wi (J a')).at I fp S) h' ρ'' → RdAll (fun z => c.P z ∨ z = I) h' (xv a') (xd a') → Ext (fun z => c.P z ∨ z = I) s.heap h' → Q .next { s with heap := h', toks := tk }) →
        wpAny (model pw c.w) c.A (execs body c.env) Q NoE s)
    {Q : Flow → Shared → Prop} {s : Shared} (st : St (c.wi (J a₀)) s.heap ρ) (rd : RdAll c.P s.heap (xv a₀) (xd a₀))
    (done : ∀ a ρ' h' tk, valid n a ρ' → St (c.wi (J a)) h' ρ' → RdAll c.P h' (xv a) (xd a) → Ext c.P s.heap h' → wpAny (model pw c.w) c.A (execs rest c.env) Q NoE { s with heap := h', toks := tk })
    (hs : ∀ x, foldedSetIterable iter c.env x = pure x := by intro _; rfl) : wpAny (model pw c.w) c.A (execs (.For (.Name x px) iter body [] pos :: rest) c.env) Q NoE s := by
  refine wpAny_execs_cons (wpAny_For (hi s _ st fun I fp P Stt hb h' tk W hst hbn sb e₁ k₁ hIo fpx hfp hIf hP => ?_) hs)
  have oc := o a₀
  have hI0 : c.h₀.get? I = none := by
    cases e : c.h₀.get? I with
    | none => rfl
    | some o' => rw [sb.keep _ _ e] at hbn; cases hbn
  have notP : ¬ c.P I := fun z => by obtain ⟨o', e⟩ := sb.PB _ z; rw [hbn] at e; cases e
  have notS : ¬ c.S I := fun z => by obtain ⟨o', e⟩ := sb.SB _ z; rw [hbn] at e; cases e
  have hfpP : ∀ b ∈ fp, ¬ c.P b := fun b hb' => (hfp b hb').elim (fun e => e ▸ notP) fun e => e.1
  have hLf : c.env.locals ∉ fp := fun z => hfpP _ z oc.PL
  have hcf : ∀ x a, c.env.cells.lookup x = some a → a ∉ fp := fun x a e z => hfpP _ z (oc.Pc x a e)
  have ok : ∀ i a, ((c.wi (J a)).at I fp (Stt i)).Ok k := fun i a => (o a).at (W.frame i) hLf hcf
  have wr : ∀ b, b ≠ I → b ∉ [I] := fun b hb z => hb (List.mem_singleton.mp z)
  have ext1 : ∀ {h h' : Heap}, (∀ b o, b ∉ [I] → h.get? b = some o → h'.get? b = some o) → Ext (fun a => c.P a ∨ a = I) h h' := fun hk b ob nb e => hk b ob (wr b fun z => nb (.inr z)) e
  have lI : c.env.locals ≠ I := fun z => hLf (z ▸ hIf)
  have move : ∀ {h₂ h₃ : Heap} {ρ' : Rho} {a : σ} {i j : Nat}, St ((c.wi (J a)).at I fp (Stt i)) h₂ ρ' → Stt j h₃ → (∀ b o, b ∉ [I] → h₂.get? b = some o → h₃.get? b = some o) → St ((c.wi (J a)).at I fp (Stt j)) h₃ ρ' := fun {h₂ h₃ ρ' a i j} s₂ hst₃ hk₃ => by
    obtain ⟨mm, cm, V⟩ := s₂.vars
    have keepB : ∀ a, (∃ o, h₂.get? a = some o) → ∃ o, h₃.get? a = some o := fun a ⟨ob, e⟩ => by
      by_cases z : a = I
      · exact z ▸ hIo _ _ hst₃
      · exact ⟨ob, hk₃ _ _ (wr _ z) e⟩
    refine ⟨fun b ob e => hk₃ b ob (wr b fun z => by rw [z] at e; rw [show c.h₀.get? I = some ob from e] at hI0; cases hI0) (s₂.keep b ob e), fun a ha => keepB a (s₂.PB a ha), fun a ha => keepB a (s₂.SB a ha), ⟨(o a).inv _ _ s₂.inv.1 fun b ob sb e => hk₃ b ob (wr b fun z => notS (z ▸ sb)) e, hst₃⟩, mm, cm, ?_, fun y a e => ?_, fun y d e => ?_⟩
    · exact V.ns.at' fun ob e => hk₃ _ ob (wr _ lI) e
    · obtain ⟨oc, hoc, hd⟩ := V.cell y a e
      exact ⟨oc, hk₃ _ _ (wr _ fun z => hcf y a e (z ▸ hIf)) hoc, hd⟩
    · obtain ⟨u, b, r⟩ := V.rd y d e
      exact ⟨u, b, r.ext (ext1 hk₃)⟩
  have rd0 : RdAll (fun z => c.P z ∨ z = I) h' (xv a₀) (xd a₀) := by
    have e2 : Ext c.P s.heap h' := e₁.trans k₁.ext
    have r1 : RdAll c.P hb (xv a₀) (xd a₀) := rd.ext e₁
    refine RdAll.ext (Stay.ext k₁) (r1.le fun a ⟨o', e⟩ ha => ?_)
    rcases ha with ha | rfl
    · exact ha
    · rw [hbn] at e; cases e
  have back : ∀ {h₂ : Heap}, Ext (fun a => c.P a ∨ a = I) hb h₂ → Ext c.P s.heap h₂ := fun {h₂} x b ob nb e => by
    have e' := e₁ b ob nb e
    exact x b ob (fun z => z.elim nb fun z => by rw [z, hbn] at e'; cases e') e'
  refine codeAny_forLoop (fun m s' => ∃ i a h₂ t₂ ρ', s' = { s with heap := h₂, toks := t₂ } ∧ i ≤ n ∧ m = n - i ∧ valid i a ρ' ∧ St ((c.wi (J a)).at I fp (Stt i)) h₂ ρ' ∧ RdAll (fun z => c.P z ∨ z = I) h₂ (xv a) (xd a) ∧ Ext (fun a => c.P a ∨ a = I) hb h₂) ?_ n
    ⟨0, a₀, h', tk, ρ, rfl, Nat.zero_le _, rfl, h0, sb.on oc hbn k₁ (hIo _ _ hst) fpx hst, rd0, k₁.ext⟩
  rintro m s' ⟨i, a, h₂, t₂, ρ', rfl, hin, rfl, hJ, s₂, rd2, ext⟩
  by_cases hlt : i < n
  · refine W.item i _ _ _ hlt s₂.inv.2 fun v h₃ t₃ hPv hst₃ hk₃ => ?_
    have e3 := ext1 hk₃
    have rdv : Rd (fun a => c.P a ∨ a = I) h₃ v (items i) := by
      refine Rd.ext (ext.trans e3) ((hP i v hPv hlt).le fun a ⟨o', e⟩ ha => ?_)
      rcases ha with ha | rfl
      · exact ha
      · rw [hbn] at e; cases e
    have s₃ := move s₂ hst₃ hk₃
    refine wpAny_mono (wpAny_assign_Name (store_at (o' := ok (i + 1) a) (c := (c.wi (J a)).at I fp (Stt (i + 1))) s₃ rdv hx (.inl hk) (Q := fun _ s' => wpAny (model pw c.w) c.A (execs body c.env) _ _ s') fun h₄ t₄ s₄ e₄ => ?_)) (fun _ _ x => x) (fun _ _ x => x.elim)
    refine wpAny_mono (step I fp (Stt (i + 1)) (ok (i + 1)) notP hfpP hI0 notS (W.frame (i + 1)) hcf i a ρ' hlt hJ _ _ s₄ ((rd2.ext e3).ext e₄) fun a' ρ'' h₅ t₅ hv s₅ rd5 e₅ => ?_) (fun _ _ x => x) (fun _ _ x => x.elim)
    exact ⟨n - (i + 1), by omega, i + 1, a', h₅, t₅, ρ'', rfl, hlt, rfl, hv, s₅, rd5, ((ext.trans e3).trans e₄).trans e₅⟩
  · have hin' : i = n := by omega
    subst hin'
    refine W.done _ _ _ s₂.inv.2 fun h₃ t₃ hk₃ => wpAny_execs_nil ?_
    have s₃ : St (c.wi (J a)) h₃ ρ' := by
      obtain ⟨mm, cm, V⟩ := s₂.vars
      refine ⟨fun b ob e => hk₃ b ob (wr b fun z => by rw [z] at e; rw [show c.h₀.get? I = some ob from e] at hI0; cases hI0) (s₂.keep b ob e), fun a ha => ?_, fun a ha => ?_, (o a).inv _ _ s₂.inv.1 fun b ob sb e => hk₃ b ob (wr b fun z => notS (z ▸ sb)) e, mm, cm, ?_, fun y a e => ?_, fun y d e => ?_⟩
      · obtain ⟨ob, e⟩ := s₂.PB a (.inl ha)
        exact ⟨ob, hk₃ _ _ (wr _ fun z => notP (z ▸ ha)) e⟩
      · obtain ⟨ob, e⟩ := s₂.SB a (.inl ha)
        exact ⟨ob, hk₃ _ _ (wr _ fun z => notS (z ▸ ha)) e⟩
      · exact V.ns.at' fun ob e => hk₃ _ ob (wr _ lI) e
      · obtain ⟨oc, hoc, hd⟩ := V.cell y a e
        exact ⟨oc, hk₃ _ _ (wr _ fun z => hcf y a e (z ▸ hIf)) hoc, hd⟩
      · obtain ⟨u, b, r⟩ := V.rd y d e
        exact ⟨u, b, (r.ext (ext1 hk₃)).le fun a _ ha => .inl ha⟩
    exact done a ρ' h₃ t₃ hJ s₃ ((rd2.ext (ext1 hk₃)).le fun a _ ha => .inl ha) (back (ext.trans (ext1 hk₃)))
end
end
-- part X18
section
section
variable {c : Cx} {ρ : Rho} {k : Nat}
/-- _law_refused, as a value -/
theorem evRefused {px pos : Pos} {e1 e2 : PySem.Expr} {way : Int} {ds : List D} (o : c.Ok (k + 1)) (hfr : c.A.frames = some [c.env]) (hf : c.env.frame = some c.env.locals) (hk : c.env.kindOf (Str.ofString "_law_refused") = some .globalImplicit)
    (h1 : Ev c ρ e1 (is (.int way))) (h2 : Ev c ρ e2 (is (.lst ds))) (rf : Refuses c.w k way ds)
    (he : eval (.Call (.Name (Str.ofString "_law_refused") px) [e1, e2] [] pos) c.env = (do callWith pos (← eval (.Name (Str.ofString "_law_refused") px) c.env) [] (backTo pos (starEach [e1, e2] c.env)) (backToKw pos (keywordEach [] c.env))) := by rfl)
    (hs1 : starEach [e1, e2] c.env = (false, eval e1 c.env) :: starEach [e2] c.env := by rfl) (hs2 : starEach [e2] c.env = (false, eval e2 c.env) :: starEach [] c.env := by rfl) (hp : (backTo pos (starEach [e2] c.env)).any (·.1) = false := by rfl) :
    Ev c ρ (.Call (.Name (Str.ofString "_law_refused") px) [e1, e2] [] pos) (is (.bool true)) := by
  intro s Q hs hQ
  refine Call_ (Fv.glob o hk gf_law_refused.g (by decide) ρ s _ hs (callWith_K (hs.gl o).kin gf_law_refused.k (Evs.one h1 (Evs.one h2 Evs.nil hs2) hs1 s _ hs fun vs ds' h₁ t₁ ed s₁ r₁ e₁ => ⟨(s₁.gl o).kin, ?_⟩) hs1 hp)) he
  cases ed
  obtain ⟨m, cm, V⟩ := s₁.vars
  have keepB : ∀ b ob, b ≠ c.env.locals → h₁.get? b = some ob → (hideAll h₁ [c.env.locals]).get? b = some ob := fun b ob nb e => hideAll_get _ e fun z => nb (List.mem_singleton.mp z)
  have bL : (hideAll h₁ [c.env.locals]).get? c.env.locals = none := hideAll_none _ (List.mem_singleton.mpr rfl)
  have G0 : Gl c.w (hideAll h₁ [c.env.locals]) := o.gl.keeps fun b ob e => keepB b ob (fun z => by rw [z, o.hL] at e; cases e) (s₁.keep b ob e)
  obtain ⟨oL, es, ep, hoL, hdL, hsL⟩ := V.ns
  have ff : h₁.FunFrames (hideAll h₁ [c.env.locals]) [c.env] := ⟨by rw [o.fn]; decide, ⟨_, oL, hf, bL, hoL, fun vs q => by rw [hdL] at q; cases q⟩, trivial⟩
  refine c_law_refused rf c.A c.P _ vs (hideAll h₁ [c.env.locals]) [c.env] _ _ o.room G0 s₁.PB r₁ hfr (fun b ob e => of_hideAll _ e) ff fun v h' tk st up rv => ?_
  have keep : ∀ b ob, b ≠ c.env.locals → h₁.get? b = some ob → h'.get? b = some ob := fun b ob nb e => st b ob (keepB b ob nb e)
  have nsL := up.ns V.ns
  have exs : ∀ b, (∃ ob, h₁.get? b = some ob) → ∃ ob, h'.get? b = some ob := fun b ⟨ob, e⟩ => by
    by_cases z : b = c.env.locals
    · obtain ⟨ob', _, _, e', _⟩ := nsL
      exact ⟨ob', z ▸ e'⟩
    · exact ⟨ob, keep b ob z e⟩
  have ext : Ext c.P h₁ h' := fun b ob nb e => keep b ob (fun z => nb (z ▸ o.PL)) e
  refine hQ v _ h' tk rfl ⟨fun b ob e => keep b ob (fun z => by rw [z, o.hL] at e; cases e) (s₁.keep b ob e), fun a ha => exs a (s₁.PB a ha), fun a ha => exs a (s₁.SB a ha), o.inv _ _ s₁.inv fun b ob sb e => keep b ob (fun z => o.SL (z ▸ sb)) e, m, cm, nsL, fun y a e => ?_, fun y d e => ?_⟩ rv (e₁.trans ext)
  · obtain ⟨oc, hoc, hd⟩ := V.cell y a e
    exact ⟨oc, keep _ _ (o.apart y a e) hoc, hd⟩
  · obtain ⟨u, b, r⟩ := V.rd y d e
    exact ⟨u, b, r.ext ext⟩

/-- a, b = e, where e changes the invariant -/
theorem unpackJ {J' : Heap → Prop} {xs : List (Str × Pos)} {elts : List PySem.Expr} {n : Nat} {tpos pos : Pos} {e : PySem.Expr} {Φ : D → Prop} (o' : (c.wi J').Ok k) (hx : ∀ x ∈ xs, Stores c x.1) (h : EvJ c J' ρ e Φ) (hΦ : ∀ d, Φ d → ∃ ds, d = .tup ds ∧ ds.length = xs.length)
    {s : Shared} {Q : Flow → Shared → Prop} (st : St c s.heap ρ) (hQ : ∀ ds h' tk, Φ (.tup ds) → St (c.wi J') h' (bindRho ((xs.map (·.1)).zip ds) ρ) → Ext c.P s.heap h' → Q .next { s with heap := h', toks := tk })
    (he : elts = xs.map (fun x => .Name x.1 x.2) := by rfl) (hs : swapsWithSole [.Tuple elts n tpos] e pos.line c.env = pure false := by rfl) (hw : swappedStores [.Tuple elts n tpos] e c.env = pure Option.none := by rfl) :
    wpAny (model pw c.w) c.A (exec (.Assign [.Tuple elts n tpos] e pos) c.env) Q NoE s := by
  refine Assign_Tuple (h s _ st fun v dd h₁ t₁ ed s₁ r₁ e₁ => ?_) hs hw
  subst he
  obtain ⟨ds, rfl, hl⟩ := hΦ _ ed
  rw [PyProof.Rows.assign_Tuple, unpack_eq]
  refine wpAny_bind (wpAny_standAt (wpAny_bind (wpAny_holding ?_)))
  cases r₁ with
  | @tup a vs _ hl2 hp ra =>
    have hn : xs.length = vs.toArray.size := by rw [List.size_toArray, ra.length, hl]
    rw [hn]
    refine wpAny_unpackItems_tuple o'.room.hh hl2 fun h₂ ex => ?_
    have sx := stay_extBut ex
    refine assign_names (c := c.wi J') o' xs vs ds ρ _ _ (by rw [ra.length, hl]) (s₁.stay o' sx) (ra.ext sx.ext) hx fun h₃ t₃ s₃ e₃ => ?_
    exact hQ ds h₃ t₃ ed s₃ ((e₁.trans sx.ext).trans e₃)

/-- x.append(e) -/
theorem appendJ {J' : Heap → Prop} {x : Str} {la : Addr} {e : PySem.Expr} {px ap cp pos : Pos} {Φ : D → Prop} (o : c.Ok k) (hx : ρ x = some (.raw (.ref la))) (h0 : ∀ h, c.I h → ∃ items, h.PlainList la items) (h : EvJ c J' ρ e Φ)
    {items : Array Value} (h1 : ∀ h, J' h → h.PlainList la items) (hz : items.size ≤ 1000)
    {s : Shared} {Q : Flow → Shared → Prop} (st : St c s.heap ρ) (hQ : ∀ v d h₁ h' tk, Φ d → St (c.wi J') h₁ ρ → Rd c.P h₁ v d → Ext c.P s.heap h₁ → h'.PlainList la (items.push v) → Heap.SameBut la h₁ h' → Q .next { s with heap := h', toks := tk })
    (hs : swapsWith (.Call (.Attribute (.Name x px) (Str.ofString "append") ap) [e] [] cp) none pos.line c.env = pure false := by rfl)
    {pl : Sem Bool} (he : eval (.Call (.Attribute (.Name x px) (Str.ofString "append") ap) [e] [] cp) c.env = (do
      let ov ← eval (.Name x px) c.env
      standAt ap.atName
      let (f, first) ← holding [ov] (getMethod ov (Str.ofString "append") pl)
      callWith cp f first (backTo cp (starEach [e] c.env)) []) := by rfl)
    (he2 : starEach [e] c.env = (false, eval e c.env) :: starEach [] c.env := by rfl) (hp : (backTo cp (starEach [] c.env)).any (·.1) = false := by rfl) :
    wpAny (model pw c.w) c.A (exec (.Expr (.Call (.Attribute (.Name x px) (Str.ofString "append") ap) [e] [] cp) pos) c.env) Q NoE s := by
  have hi : interactive c.env = false := by unfold interactive; rw [o.fn]; rfl
  refine wpAny_Expr (MethodCall_ (Ev.name o hx s _ st fun v dd h₁ t₁ ed s₁ r₁ e₁ => ?_) he) hi hs
  cases ed; cases r₁
  obtain ⟨it0, n0, g0⟩ := h0 _ s₁.inv
  refine getMethod_list_append g0 rfl rfl ?_
  have h2 : wpAny (model pw c.w) c.A (spliced (backTo cp (starEach [e] c.env))) (fun vs s₁ => wpAny (model pw c.w) c.A (call (.builtin "list.append") ([.ref la] ++ vs)) (fun v s' => match v with | .ref _ => False | _ => Q .next s') NoE s₁) NoE { s with heap := h₁, toks := t₁ } :=
    args_cons (h _ _ s₁ fun v d h₂ t₂ hd s₂ r₂ e₂ => args_nil ?_) he2
  · rw [he2] at h2 ⊢
    exact callWith_builtin (by show (false || (backTo cp (starEach [] c.env)).any (·.1)) = false; rw [hp]; rfl) (evalArgs_plain h2)
  refine wpAny_list_append_plain (h1 _ s₂.inv) (fun h' pl' sb => hQ v d h₂ h' t₂ hd s₂ r₂ (e₁.trans e₂) pl' sb) (by rw [sizeLine_eq]; omega)

/-- x[i] = x[j], the list hidden -/
theorem setJ {x : Str} {la : Addr} {i j : Int} {px1 pi1 ps1 px2 pj2 ps2 pos : Pos} {n1 n2 : Nat} {items : Array Value} {v : Value} (o : c.Ok k) (hx : ρ x = some (.raw (.ref la))) (h1 : ∀ h, c.I h → h.IsList la items)
    (hj0 : 0 ≤ j) (hj : items[j.toNat]? = some v) (hi0 : 0 ≤ i) (hi : i < items.size) (hz : items.size ≤ 1000)
    {s : Shared} {Q : Flow → Shared → Prop} (st : St c s.heap ρ) (hQ : ∀ h₁ h' tk, St c h₁ ρ → Ext c.P s.heap h₁ → h'.IsList la (items.setIfInBounds i.toNat v) → Heap.SameBut la h₁ h' → Q .next { s with heap := h', toks := tk })
    (hs : swapsWith (.Subscript (.Name x px2) (.Constant (.int j) n2 pj2) ps2) (some (.Subscript (.Name x px1) (.Constant (.int i) n1 pi1) ps1)) pos.line c.env = pure false := by rfl) :
    wpAny (model pw c.w) c.A (exec (.Assign [.Subscript (.Name x px1) (.Constant (.int i) n1 pi1) ps1] (.Subscript (.Name x px2) (.Constant (.int j) n2 pj2) ps2) pos) c.env) Q NoE s := by
  have hjlt : j.toNat < items.size := (Array.getElem?_eq_some_iff.mp hj).1
  refine wpAny_Assign_Subscript (Subscript_ (Ev.name o hx s _ st fun v' d' h₁ t₁ ed s₁ r₁ e₁ => wpAny_Constant_int ?_)) hs
  cases ed; cases r₁
  have hl := h1 _ s₁.inv
  refine tail_any hl.typeIs slot_list_getitem.lookup (wpAny_getItem_list hl hj0 (by omega) hj ?_) (by rfl)
  refine Ev.name o hx _ _ s₁ fun v'' d'' h₂ t₂ ed'' s₂ r₂ e₂ => wpAny_Constant_int ?_
  cases ed''; cases r₂
  have hl2 := h1 _ s₂.inv
  exact wpAny_setItem_list hl2 hi0 (by omega) hi fun h' hl' sb => hQ h₂ h' _ s₂ (e₁.trans e₂) hl' sb
end
end
-- part X19
section
open Builtin.Int
abbrev lawBody : List Stmt := match PySem.Challenge.pw_nn0199_01.main.body.getLast? with
  | some (.FunctionDef _ _ body _ _ _ _ _ _ _) => body
  | _ => []
abbrev lawScope : Scope := match PySem.Challenge.pw_nn0199_01.main.body.getLast? with
  | some (.FunctionDef _ _ _ _ _ _ sc _ _ _) => sc
  | _ => default
abbrev turnBody : List Stmt := match lawBody with
  | _ :: _ :: _ :: .For _ _ b _ _ :: _ => b
  | _ => []
/-- what the law's first loop builds -/
structure LS where
  n : Int
  vs : List Value
  ws : List Value
  ds : List D
  ns : List (Int × Nat)
  Ws : List Int
structure NW (ds : List D) (ns : List (Int × Nat)) (Ws : List Int) (i : Nat) : Prop where
  l1 : ds.length = i
  l2 : ns.length = i
  l3 : Ws.length = i
  num : ∀ j, j < i → Num (ds.getD j .none) (nget ns j).1 (nget ns j).2
  dn : ∀ j, j < i → Dn (nget ns j).1 (nget ns j).2 (Ws.getD j 0)
theorem getD_snoc {α : Type} (l : List α) (x d : α) (j : Nat) : (l ++ [x]).getD j d = if j < l.length then l.getD j d else if j = l.length then x else d := by
  simp only [List.getD_eq_getElem?_getD]
  by_cases h : j < l.length
  · rw [if_pos h, List.getElem?_append_left h]
  · rw [if_neg h, List.getElem?_append_right (by omega)]
    by_cases h2 : j = l.length
    · subst h2; simp
    · rw [if_neg h2]
      have : j - l.length = (j - l.length - 1) + 1 := by omega
      rw [this]; simp
theorem NW.snoc {ds : List D} {ns : List (Int × Nat)} {Ws : List Int} {i : Nat} {d : D} {t : Int} {p : Nat} {W : Int} (h : NW ds ns Ws i) (n : Num d t p) (g : Dn t p W) : NW (ds ++ [d]) (ns ++ [(t, p)]) (Ws ++ [W]) (i + 1) := by
  refine ⟨by simp [h.l1], by simp [h.l2], by simp [h.l3], fun j hj => ?_, fun j hj => ?_⟩
  · unfold nget
    rw [getD_snoc, getD_snoc, h.l1, h.l2]
    by_cases q : j < i
    · rw [if_pos q, if_pos q]; exact h.num j q
    · have : j = i := by omega
      subst this
      simp only [Nat.lt_irrefl, if_false, if_true]
      exact n
  · unfold nget
    rw [getD_snoc, getD_snoc, h.l2, h.l3]
    by_cases q : j < i
    · rw [if_pos q, if_pos q]; exact h.dn j q
    · have : j = i := by omega
      subst this
      simp only [Nat.lt_irrefl, if_false, if_true]
      exact g
def JJ (pa ca va wa : Addr) (cv : Array Value) (a : LS) (h : Heap) : Prop := Pen pa ca cv a.n h ∧ h.PlainList va a.vs.toArray ∧ h.PlainList wa a.ws.toArray
structure Lw (c : Cx) (pa ca va wa : Addr) : Prop where
  pp : c.P pa
  pv : c.P va
  pw' : c.P wa
  nca : ¬ c.P ca
  sp : c.S pa
  sc : c.S ca
  sv : c.S va
  sw : c.S wa
  h0p : c.h₀.get? pa = none
  h0v : c.h₀.get? va = none
  h0w : c.h₀.get? wa = none
  d1 : pa ≠ ca
  d2 : pa ≠ va
  d3 : pa ≠ wa
  d4 : va ≠ wa
  d5 : ca ≠ va
  d6 : ca ≠ wa
  cell : ∀ x, c.env.cells.lookup x = none
structure Fam (d : Cx) (S : Heap → Prop) (pa ca va wa : Addr) (cv : Array Value) (k : Nat) : Prop where
  lw : Lw d pa ca va wa
  ok : ∀ a : LS, (d.wi (fun h => JJ pa ca va wa cv a h ∧ S h)).Ok k
  fr : ∀ h h', S h → (∀ b o, b ≠ pa → b ≠ va → b ≠ wa → h.get? b = some o → h'.get? b = some o) → S h'
section
variable {d : Cx} {S : Heap → Prop} {pa ca va wa : Addr} {cv : Array Value} {cs : List Int} {k : Nat} {ρ : Rho}
theorem Lw.pen (l : Lw d pa ca va wa) {J : Heap → Prop} : PenC (d.wi J) pa ca := ⟨l.pp, l.nca, l.sp, l.sc, l.h0p, l.d1, fun x a e => by rw [show (d.wi J).env.cells.lookup x = none from l.cell x] at e; cases e⟩
/-- one hidden list has changed -/
theorem Fam.move {k' : Nat} (F : Fam d S pa ca va wa cv k') {a a' : LS} {la : Addr} {h h' : Heap} (hl : la = va ∨ la = wa) (x : St (d.wi (fun h => JJ pa ca va wa cv a h ∧ S h)) h ρ) (sb : Heap.SameBut la h h')
    (en : a'.n = a.n) (hv : la = va → a'.ws = a.ws ∧ h'.PlainList va a'.vs.toArray) (hw : la = wa → a'.vs = a.vs ∧ h'.PlainList wa a'.ws.toArray) : St (d.wi (fun h => JJ pa ca va wa cv a' h ∧ S h)) h' ρ := by
  obtain ⟨⟨j1, j2, j3⟩, j4⟩ := x.inv
  have keep : ∀ b o, b ≠ la → h.get? b = some o → h'.get? b = some o := fun b o nb e => (sb.2 b nb).trans e
  have lw := F.lw
  have np : pa ≠ la := hl.elim (fun e => e ▸ lw.d2) fun e => e ▸ lw.d3
  have nc : ca ≠ la := hl.elim (fun e => e ▸ lw.d5) fun e => e ▸ lw.d6
  have Pl : d.P la := hl.elim (fun e => e ▸ lw.pv) fun e => e ▸ lw.pw'
  have Sl : d.S la := hl.elim (fun e => e ▸ lw.sv) fun e => e ▸ lw.sw
  have hl0 : d.h₀.get? la = none := hl.elim (fun e => e ▸ lw.h0v) fun e => e ▸ lw.h0w
  have jj : JJ pa ca va wa cv a' h' := by
    refine ⟨by rw [en]; exact j1.ext fun z o hz e => keep z o (by rcases hz with rfl | rfl <;> assumption) e, ?_, ?_⟩
    · rcases hl with rfl | rfl
      · exact (hv rfl).2
      · rw [(hw rfl).1]; obtain ⟨n0, g⟩ := j2; exact ⟨n0, keep _ _ lw.d4 g⟩
    · rcases hl with rfl | rfl
      · rw [(hv rfl).1]; obtain ⟨n0, g⟩ := j3; exact ⟨n0, keep _ _ (Ne.symm lw.d4) g⟩
      · exact (hw rfl).2
  refine St.hid (c := d.wi (fun h => JJ pa ca va wa cv a h ∧ S h)) (fun b => b = la) (fun b hb => ?_) (fun b hb => ?_) ?_ (fun x b e => ?_) x (fun b o nb e => keep b o nb e) (fun b hb => ?_) ⟨jj, F.fr h h' j4 fun b o n1 n2 n3 e => keep b o (by rcases hl with rfl | rfl <;> assumption) e⟩
  · subst hb; exact Pl
  · subst hb; exact hl0
  · intro z
    have z : d.env.locals = la := z
    refine (F.ok a).SL ?_
    show d.S d.env.locals
    rw [z]
    exact Sl
  · rw [show (d.wi (fun h => JJ pa ca va wa cv a h ∧ S h)).env.cells.lookup x = none from lw.cell x] at e; cases e
  · subst hb
    rcases hl with rfl | rfl
    · obtain ⟨n0, g⟩ := jj.2.1; exact ⟨_, g⟩
    · obtain ⟨n0, g⟩ := jj.2.2; exact ⟨_, g⟩
theorem JJ.pen {a : LS} {m : Int} {h h' : Heap} (lw : Lw d pa ca va wa) (x : JJ pa ca va wa cv a h) (e : Ext (fun z => z = pa) h h') (p : Pen pa ca cv m h') : JJ pa ca va wa cv { a with n := m } h' :=
  ⟨p, let ⟨n0, g⟩ := x.2.1; ⟨n0, e _ _ (Ne.symm lw.d2) g⟩, let ⟨n0, g⟩ := x.2.2; ⟨n0, e _ _ (Ne.symm lw.d3) g⟩⟩
theorem Fam.out {k' : Nat} (F : Fam d S pa ca va wa cv k') {a : LS} {m : Int} : ∀ h h', (JJ pa ca va wa cv a h ∧ S h) → Ext (fun z => z = pa) h h' → Pen pa ca cv m h' → JJ pa ca va wa cv { a with n := m } h' ∧ S h' :=
  fun h h' i e p => ⟨i.1.pen F.lw e p, F.fr h h' i.2 fun b o n1 _ _ e' => e b o n1 e'⟩
/-- a pair drawn -/
theorem evPair {c : Cx} {J : Heap → Prop} {n : Int} {px pn pos : Pos} (p : PenC c pa ca) (o : c.Ok (k + 2)) (hc : Cells cs cv) (hlen : cs.length ≤ 63) (hk : c.env.kindOf (Str.ofString "_law_pair") = some .globalImplicit)
    (hin : ∀ h, c.I h → Pen pa ca cv n h) (hout : ∀ h h', c.I h → Ext (fun a => a = pa) h h' → Pen pa ca cv (n + 6) h' → J h') (hp : ρ (Str.ofString "pen") = some (.raw (.ref pa))) (hn : n ≤ 900)
    (hs1 : eval (.Call (.Name (Str.ofString "_law_pair") pn) [.Name (Str.ofString "pen") px] [] pos) c.env = (do callWith pos (← eval (.Name (Str.ofString "_law_pair") pn) c.env) [] (backTo pos (starEach [.Name (Str.ofString "pen") px] c.env)) (backToKw pos (keywordEach [] c.env))) := by rfl) :
    EvJ c J ρ (.Call (.Name (Str.ofString "_law_pair") pn) [.Name (Str.ofString "pen") px] [] pos) (fun d => ∃ (t : Int) (p : Nat), d = .tup [.int t, .int (p : Int)] ∧ intBits t ≤ 100 ∧ p ≤ 24) := by
  intro s Q hs hQ
  refine Call_ (Fv.glob o hk gf_law_pair.g (by decide) ρ s _ hs (callWith_K (hs.gl o).kin gf_law_pair.k (Evs.one (Ev.name o hp) Evs.nil rfl s _ hs fun vs ds' h₁ t₁ ed s₁ r₁ e₁ => ⟨(s₁.gl o).kin, ?_⟩) rfl rfl)) hs1
  cases ed
  obtain ⟨v1, rfl, a1⟩ := r₁.one
  cases a1
  refine c_law_pair (n := n) hn hc hlen o.room o.gl s₁.keep p.h0 p.ne (hin _ s₁.inv) fun t q v h' tk' tb qb rd pen ext => ?_
  exact hQ _ _ h' tk' ⟨t, q, rfl, tb, qb⟩ (s₁.penE p o ext pen.there (hout _ _ s₁.inv ext pen)) (rd c.P fun a ha => ⟨fun z => p.nca (z ▸ ha), s₁.PB a ha⟩) (e₁.trans fun b ob nb e => ext b ob (fun z => nb (z ▸ p.Pp)) e)
def TrJ (c : Cx) (J : Heap → Prop) (ρ : Rho) (e : PySem.Expr) : Prop :=
  ∀ (s : Shared) (Q : Bool → Shared → Prop), St c s.heap ρ → (∀ b h' tk, St (c.wi J) h' ρ → Ext c.P s.heap h' → Q b { s with heap := h', toks := tk }) → wpAny (model pw c.w) c.A (isTrue e c.env (eval e c.env)) Q NoE s
theorem TrJ.eqLit {c : Cx} {J : Heap → Prop} {l : PySem.Expr} {q : Int → Prop} {i : Int} {n : Nat} {pc pos : Pos} (h : EvJ c J ρ l (IntD q)) (hm : behindInMarks .Eq (.Constant (.int i) n pc) = false := by with_unfolding_all rfl) : TrJ c J ρ (.Compare l [.Eq] [.Constant (.int i) n pc] pos) := by
  intro s Q hs hQ
  refine wpAny_isTrue_Compare1 (h s _ hs fun v a h₁ t₁ ha s₁ ra e₁ => wpAny_Constant_int ?_) hm
  obtain ⟨x, rfl, _⟩ := ha
  cases ra
  refine PyProof.Rows.eq_int ?_
  exact wpAny_truthy_bool (hQ _ h₁ _ s₁ e₁)
/-- a if t1 and t2 else b, where t2 draws -/
theorem EvJ.ifAnd {c : Cx} {J : Heap → Prop} {t1 t2 a b : PySem.Expr} {pb pos : Pos} {β : Bool} {Φ : D → Prop} (h1 : Tr c ρ t1 (is β)) (h2 : β = true → TrJ c J ρ t2) (hJ : ∀ h, c.I h → J h) (ha : β = true → Ev (c.wi J) ρ a Φ) (hb : Ev (c.wi J) ρ b Φ) :
    EvJ c J ρ (.IfExp (.BoolOp .And [t1, t2] pb) a b pos) Φ := by
  intro s Q hs hQ
  refine wpAny_IfExp (isTrue_and (h1 s _ hs fun β' h₁ t₁ eb s₁ e₁ => ?_))
  cases eb
  have go : ∀ (x : PySem.Expr), Ev (c.wi J) ρ x Φ → ∀ h₂ t₂, St (c.wi J) h₂ ρ → Ext c.P s.heap h₂ → wpAny (model pw c.w) c.A (eval x c.env) Q NoE { s with heap := h₂, toks := t₂ } := fun x hx h₂ t₂ s₂ e₂ => hx _ _ s₂ fun v d h₃ t₃ hd s₃ r₃ e₃ => hQ v d h₃ t₃ hd s₃ r₃ (e₂.trans e₃)
  cases β with
  | true =>
    refine isTrue_and (rest := []) ?_
    refine h2 rfl _ _ s₁ fun b2 h₂ t₂ s₂ e₂ => ?_
    cases b2 with
    | true => exact isTrue_and_nil (go a (ha rfl) h₂ t₂ s₂ (e₁.trans e₂))
    | false => exact go b hb h₂ t₂ s₂ (e₁.trans e₂)
  | false => exact go b hb h₁ t₁ (s₁.wi (hJ _ s₁.inv)) e₁
end
end
-- part X20
section
open Builtin.Int
section
variable {d : Cx} {S : Heap → Prop} {pa ca va wa : Addr} {cv : Array Value} {cs : List Int} {k : Nat} {ρ : Rho}
abbrev KK (pa ca va wa : Addr) (cv : Array Value) (S : Heap → Prop) (a : LS) : Heap → Prop := fun h => JJ pa ca va wa cv a h ∧ S h
structure N3 (pa va wa : Addr) (ρ : Rho) : Prop where
  pen : ρ (Str.ofString "pen") = some (.raw (.ref pa))
  vs : ρ (Str.ofString "values") = some (.raw (.ref va))
  ws : ρ (Str.ofString "worths") = some (.raw (.ref wa))
theorem N3.upd (n : N3 pa va wa ρ) {x : Str} {e : D} (h1 : x ≠ Str.ofString "pen") (h2 : x ≠ Str.ofString "values") (h3 : x ≠ Str.ofString "worths") : N3 pa va wa (Mine.upd ρ x e) :=
  ⟨by rw [upd_ne (Ne.symm h1)]; exact n.pen, by rw [upd_ne (Ne.symm h2)]; exact n.vs, by rw [upd_ne (Ne.symm h3)]; exact n.ws⟩
theorem Cells.snoc {Ws : List Int} {ws : List Value} (h : Cells Ws ws.toArray) (W : Int) (tk : Tok) : Cells (Ws ++ [W]) (ws ++ [Value.int W tk]).toArray := fun P hp => by
  have := h P hp
  simp only [List.map_append, List.map_cons, List.map_nil]
  exact RdAll.snoc this (.int W tk)
theorem Fam.move' {k' : Nat} (F : Fam d S pa ca va wa cv k') {a a' : LS} {la : Addr} {h h' : Heap} (hl : la = va ∨ la = wa) (x : St (d.wi (KK pa ca va wa cv S a)) h ρ) (sb : Heap.SameBut la h h')
    (en : a'.n = a.n) (hv : la = va → a'.ws = a.ws ∧ h'.PlainList va a'.vs.toArray) (hw : la = wa → a'.vs = a.vs ∧ h'.PlainList wa a'.ws.toArray) : St (d.wi (KK pa ca va wa cv S a')) h' ρ := F.move hl x sb en hv hw
theorem law_turn {a : LS} {i : Nat} (F : Fam d S pa ca va wa cv (k + 9)) (K : KD d lawScope.names) (hc : Cells cs cv) (hlen : cs.length ≤ 63) (hn : a.n ≤ 800) (hvl : a.vs.length = i) (hwl : a.ws.length = i) (hi : i ≤ 10) (hW : Cells a.Ws a.ws.toArray) (nw : NW a.ds a.ns a.Ws i) (n3 : N3 pa va wa ρ)
    {s : Shared} {Q : Flow → Shared → Prop} (st : St (d.wi (KK pa ca va wa cv S a)) s.heap ρ) (rd : RdAll d.P s.heap a.vs a.ds)
    (hQ : ∀ (a' : LS) ρ' h' tk, a'.n = a.n + 7 → a'.vs.length = i + 1 → a'.ws.length = i + 1 → Cells a'.Ws a'.ws.toArray → NW a'.ds a'.ns a'.Ws (i + 1) → N3 pa va wa ρ' → St (d.wi (KK pa ca va wa cv S a')) h' ρ' → RdAll d.P h' a'.vs a'.ds → Ext d.P s.heap h' → Q .next { s with heap := h', toks := tk }) :
    wpAny (model pw d.w) d.A (execs turnBody d.env) Q NoE s := by
  have lw := F.lw
  have ok : ∀ a, (d.wi (KK pa ca va wa cv S a)).Ok (k + 9) := F.ok
  have K' : ∀ a, KD (d.wi (KK pa ca va wa cv S a)) lawScope.names := fun a => K.wi
  refine wpAny_execs_cons (unpackJ (c := d.wi (KK pa ca va wa cv S a)) (J' := KK pa ca va wa cv S { a with n := a.n + 6 }) (xs := [(Str.ofString "top", _), (Str.ofString "places", _)]) (ok _) ?_
    (evPair (n := a.n) lw.pen (ok a) hc hlen ((K' a).gl (by decide)) (fun h i => i.1.1) F.out n3.pen (by omega)) ?_ st fun ds1 h1 t1 hd s1 e1 => ?_)
  · intro x hx
    simp only [List.mem_cons, List.not_mem_nil, or_false] at hx
    rcases hx with rfl | rfl
    · exact (K' a).st (by decide) (by decide)
    · exact (K' a).st (by decide) (by decide)
  · rintro _ ⟨t, p, rfl, _⟩
    exact ⟨_, rfl, rfl⟩
  obtain ⟨t, p, hd, tb, pb⟩ := hd
  cases hd
  generalize hρ1 : bindRho _ ρ = ρ1 at s1
  have n31 : N3 pa va wa ρ1 := by rw [← hρ1]; exact (n3.upd (by decide) (by decide) (by decide)).upd (by decide) (by decide) (by decide)
  have rt : ρ1 (Str.ofString "top") = some (.int t) := by rw [← hρ1]; rfl
  have rp : ρ1 (Str.ofString "places") = some (.int (p : Int)) := by rw [← hρ1]; rfl
  clear hρ1
  let a1 : LS := { a with n := a.n + 6 }
  have o1 := ok a1
  refine wpAny_execs_cons (appendJ (c := d.wi (KK pa ca va wa cv S a1)) (J' := KK pa ca va wa cv S a1) (la := wa) (items := a.ws.toArray) (Φ := is (.int (t * 10 ^ (40 - p)))) o1 n31.ws (fun h i => ⟨_, i.1.2.2⟩)
    (EvJ.of (Ev.mul (Ev.name o1 rt) (evPow10 (n := 40 - p) Ev.int (Ev.sub (evScale o1 ((K' a1).gl (by decide))) (Ev.name o1 rp)) (by omega) (by omega)) (IntMulOk.of_le tb (bits_pow10 _) (by omega))) fun h i => i) (fun h i => i.1.2.2) (by simp; omega) s1 fun v dd h2 h3 t3 hd s2 rv e2 pl sb => ?_)
  cases hd
  cases rv with | int _ tk =>
  let a2 : LS := { a1 with ws := a.ws ++ [Value.int (t * 10 ^ (40 - p)) tk], Ws := a.Ws ++ [t * 10 ^ (40 - p)] }
  have s3 : St (d.wi (KK pa ca va wa cv S a2)) h3 ρ1 := F.move' (.inr rfl) s2 sb rfl (fun e => absurd e.symm lw.d4) fun _ => ⟨rfl, by simpa using pl⟩
  have e3 : Ext d.P h2 h3 := fun b ob nb e => (sb.2 b fun z => nb (z ▸ lw.pw')).trans e
  let a3 : LS := { a2 with n := a2.n + 1 }
  have o2 := ok a2
  have o3 := ok a3
  refine wpAny_execs_cons (appendJ (c := d.wi (KK pa ca va wa cv S a2)) (J' := KK pa ca va wa cv S a3) (la := va) (items := a.vs.toArray) (Φ := fun e => (p = 0 ∧ e = .int t) ∨ e = .dec (norm t p).1 (norm t p).2) o2 n31.vs (fun h i => ⟨_, i.1.2.1⟩)
    (EvJ.ifAnd (β := decide ((p : Int) = 0)) (Tr.cmp (Ev.name o2 rp) Ev.int CmpOk.eq) (fun _ => TrJ.eqLit (evDraw (n := a2.n) lw.pen o2 hc hlen ((K' a2).gl (by decide)) (fun h i => i.1.1) F.out n31.pen Ev.int (by show a.n + 6 ≤ 1000; omega) (by decide) (bits_mono (bits_lit (m := 2) (by decide)) (by decide))))
      (fun h i => ⟨⟨i.1.1.le (by show a2.n ≤ a2.n + 1; omega), i.1.2⟩, i.2⟩) (fun hb => (Ev.name o3 rt).mono fun e h => .inl ⟨by have := of_decide_eq_true hb; omega, h⟩)
      ((evF o3 ((K' a3).gl (by decide)) gf_Decimal (Evs.one (Ev.name o3 rt) (Evs.one (Ev.name o3 rp) Evs.nil)) (c_dec t p) rfl).mono fun e h => .inr h)) (fun h i => i.1.2.1) (by simp; omega) s3 fun v e h4 h5 t5 hd s4 rv e4 pl4 sb4 => wpAny_execs_nil ?_)
  have e5 : Ext d.P h4 h5 := fun b ob nb e => (sb4.2 b fun z => nb (z ▸ lw.pv)).trans e
  have rdv : RdAll d.P h5 (a.vs ++ [v]) (a.ds ++ [e]) := RdAll.snoc ((((rd.ext e1).ext e2).ext e3).ext (e4.trans e5)) (rv.ext e5)
  have pl5 : h5.PlainList va (a.vs ++ [v]).toArray := by simpa using pl4
  have hns : ∃ x : Int × Nat, Num e x.1 x.2 ∧ Dn x.1 x.2 (t * 10 ^ (40 - p)) := by
    rcases hd with ⟨rfl, rfl⟩ | rfl
    · exact ⟨(t, 0), .int t, Dn.int tb⟩
    · exact ⟨norm t p, .dec _ _, Dn.dec tb pb⟩
  obtain ⟨x, hx1, hx2⟩ := hns
  let a4 : LS := { a3 with vs := a.vs ++ [v], ds := a.ds ++ [e], ns := a.ns ++ [x] }
  have s5 : St (d.wi (KK pa ca va wa cv S a4)) h5 ρ1 := F.move' (.inl rfl) s4 sb4 rfl (fun _ => ⟨rfl, pl5⟩) fun e => absurd e lw.d4
  refine hQ a4 ρ1 h5 t5 ?_ (by show (a.vs ++ [v]).length = _; simp [hvl]) (by show (a.ws ++ [_]).length = _; simp [hwl]) (hW.snoc _ _) (nw.snoc hx1 hx2) n31 s5 rdv ((((e1.trans e2).trans e3).trans e4).trans e5)
  show a.n + 6 + 1 = a.n + 7
  omega
end
end
-- part X21
section
open Builtin.Int
section
variable {c : Cx} {ρ : Rho} {k : Nat} {pa ca va wa : Addr} {cv : Array Value} {cs : List Int}
theorem evOne {J : Heap → Prop} {n : Int} {px pn pos : Pos} {e1 e2 : PySem.Expr} {dv : D} {t W : Int} {p : Nat} (pc : PenC c pa ca) (o : c.Ok (k + 8)) (hc : Cells cs cv) (hlen : cs.length ≤ 63) (hk : c.env.kindOf (Str.ofString "_law_one_told") = some .globalImplicit)
    (hin : ∀ h, c.I h → Pen pa ca cv n h) (hout : ∀ h h', c.I h → Ext (fun a => a = pa) h h' → Pen pa ca cv (n + 1) h' → J h') (hp : ρ (Str.ofString "pen") = some (.raw (.ref pa))) (h1 : Ev c ρ e1 (is dv)) (h2 : Ev c ρ e2 (is (.int W))) (hn : n ≤ 900) (hv : Num dv t p) (g : Dn t p W)
    (hs1 : eval (.Call (.Name (Str.ofString "_law_one_told") pn) [.Name (Str.ofString "pen") px, e1, e2] [] pos) c.env = (do callWith pos (← eval (.Name (Str.ofString "_law_one_told") pn) c.env) [] (backTo pos (starEach [.Name (Str.ofString "pen") px, e1, e2] c.env)) (backToKw pos (keywordEach [] c.env))) := by rfl)
    (hs2 : starEach [e1, e2] c.env = (false, eval e1 c.env) :: starEach [e2] c.env := by rfl) (hs3 : starEach [e2] c.env = (false, eval e2 c.env) :: starEach [] c.env := by rfl) (hs4 : (backTo pos (starEach [e1, e2] c.env)).any (·.1) = false := by rfl) :
    EvJ c J ρ (.Call (.Name (Str.ofString "_law_one_told") pn) [.Name (Str.ofString "pen") px, e1, e2] [] pos) (is (.bool true)) := by
  intro s Q hs hQ
  refine Call_ (Fv.glob o hk gf_law_one_told.g (by decide) ρ s _ hs (callWith_K (hs.gl o).kin gf_law_one_told.k (Evs.one (Ev.name o hp) (Evs.one h1 (Evs.one h2 Evs.nil hs3) hs2) rfl s _ hs fun vs ds' h₁ t₁ ed s₁ r₁ e₁ => ⟨(s₁.gl o).kin, ?_⟩) rfl hs4)) hs1
  cases ed
  obtain ⟨v1, v2, v3, rfl, a1, a2, a3⟩ := r₁.three
  cases a1
  cases a3 with | int _ tk =>
  refine c_law_one_told (n := n) hn hc hlen hv g o.room o.gl s₁.keep pc.h0 pc.ne (hin _ s₁.inv) (a2.le fun a _ ha => ha ▸ pc.Pp) fun h' tk' pen ext => ?_
  exact hQ _ _ h' tk' rfl (s₁.penE pc o ext pen.there (hout _ _ s₁.inv ext pen)) (.bool _) (e₁.trans fun b ob nb e => ext b ob (fun z => nb (z ▸ pc.Pp)) e)
/-- if not e: .. , where e is True and changes the invariant -/
theorem ExJ.ifNotJ {J J' : Heap → Prop} {e : PySem.Expr} {b o rest : List Stmt} {pn pos : Pos} {Ψ : Res → Prop} (h : EvJ c J' ρ e (is (.bool true))) (nx : ExJ (c.wi J') J ρ (o ++ rest) Ψ)
    (he : isTrue e c.env (eval e c.env) = (do let v ← eval e c.env; standAt e.pos; holding [v] (truthy v)) := by rfl) : ExJ c J ρ (.If (.UnaryOp .Not e pn) b o pos :: rest) Ψ := by
  intro s Q hs hQ
  rw [exec_if_cons]
  refine wpAny_bind (wpAny_standAt (wpAny_bind (wpAny_isTrue_Not (wpAny_isTrue_value (h s _ hs fun v d h₁ t₁ ed s₁ r₁ e₁ => ?_) he))))
  cases ed; cases r₁
  refine wpAny_truthy_bool ?_
  exact nx _ Q s₁ fun r f h₂ t₂ x y z => hQ r f h₂ t₂ x y (e₁.trans z)
theorem Tr.notT {e : PySem.Expr} {pos : Pos} (h : Ev c ρ e (is (.bool true))) (he : isTrue e c.env (eval e c.env) = (do let v ← eval e c.env; standAt e.pos; holding [v] (truthy v)) := by rfl) : Tr c ρ (.UnaryOp .Not e pos) (is false) := Tr.is_of (Tr.not (Tr.value h he)) rfl
theorem Nums.nil : Nums [] [] := ⟨rfl, fun i h => absurd h (by simp), fun i h => absurd h (by simp), fun i h => absurd h (by simp), by simp⟩
theorem Nums.cons {d : D} {t W : Int} {p : Nat} {ds : List D} {ns : List (Int × Nat)} (n : Num d t p) (g : Dn t p W) (N : Nums ds ns) (h : ns.length ≤ 50) : Nums (d :: ds) ((t, p) :: ns) :=
  ⟨by simp [N.len], fun i hi => by
    cases i with
    | zero => exact n
    | succ i => simpa using N.at' i (by simpa using hi), fun i hi => by
    cases i with
    | zero => exact bits_mono g.b (by decide)
    | succ i => simpa using N.bt i (by simpa using hi), fun i hi => by
    cases i with
    | zero => have := g.hp; show p ≤ 200; omega
    | succ i => simpa using N.bp i (by simpa using hi), by simp; omega⟩
theorem const_bytes {M : Model} {A : Around} {E : Value → Shared → Prop} {s : Shared} {env : Env} {x : List UInt8} {k : Nat} {pos : Pos} {Q : Value → Shared → Prop} (h : Q (.bytes x.toArray s.toks) { s with toks := s.toks + 1 }) : wpAny M A (eval (.Constant (.bytes x) k pos) env) Q E s := fun _ _ _ => h
theorem Ev.bytes {b : List UInt8} {n : Nat} {pos : Pos} : Ev c ρ (.Constant (.bytes b) n pos) (is (.bytes b.toArray)) := by
  intro s Q hs hQ
  exact const_bytes (hQ _ _ s.heap _ rfl hs (.bytes _ _) (Ext.refl _ _))
end
end
-- part X22
section
open Builtin.Int
abbrev tail10 : List Stmt := match lawBody with
  | _ :: _ :: _ :: _ :: _ :: _ :: _ :: _ :: _ :: _ :: r => r
  | _ => []
abbrev tail6 : List Stmt := match lawBody with
  | _ :: _ :: _ :: _ :: _ :: _ :: r => r
  | _ => []
abbrev tail5 : List Stmt := match lawBody with
  | _ :: _ :: _ :: _ :: _ :: r => r
  | _ => []
/-- three numbers, in their Decimals or ints, and their whole numbers -/
structure T3 (d0 d1 d2 : D) (x0 x1 x2 : Int × Nat) (W0 W1 W2 : Int) : Prop where
  n0 : Num d0 x0.1 x0.2
  n1 : Num d1 x1.1 x1.2
  n2 : Num d2 x2.1 x2.2
  g0 : Dn x0.1 x0.2 W0
  g1 : Dn x1.1 x1.2 W1
  g2 : Dn x2.1 x2.2 W2
structure R3 (d0 d1 d2 : D) (W0 W1 W2 : Int) (ρ : Rho) : Prop where
  vs : ρ (Str.ofString "values") = some (.lst [d0, d1, d2])
  ws : ρ (Str.ofString "worths") = some (.lst [.int W0, .int W1, .int W2])
section
variable {c : Cx} {ρ : Rho} {k : Nat} {d0 d1 d2 : D} {x0 x1 x2 : Int × Nat} {W0 W1 W2 : Int}
set_option maxHeartbeats 4000000 in
/-- from the three names on -/
theorem law_tail2 (o : c.Ok (k + 10)) (K : KD c lawScope.names) (hfr : c.A.frames = some [c.env]) (hf : c.env.frame = some c.env.locals) (T : T3 d0 d1 d2 x0 x1 x2 W0 W1 W2) (r : R3 d0 d1 d2 W0 W1 W2 ρ) (hx : ρ (Str.ofString "x") = some d0) :
    Ex c ρ tail10 (is (.ret (.bool true))) := by
  have nn0 := T.n0
  refine Ex.for (n := 6) (items := fun i => [D.bool true, D.bool false, D.none, D.str (Str.ofString "1"), D.bytes [49].toArray, D.lst [D.int 1]].getD i .none) (Ψ := fun q => ∃ ρ', q = .next ρ' ∧ R3 d0 d1 d2 W0 W1 W2 ρ') o (by decide) (K.kd _ _ (by decide))
    (Iter.listN o (evList o (Evs.one Ev.bool (Evs.one Ev.bool (Evs.one Ev.none (Evs.one Ev.str (Evs.one Ev.bytes (Evs.one (evList o (Evs.one Ev.int Evs.nil) (by simp)) Evs.nil)))))) (by simp)) rfl)
    (fun i ρ' => R3 d0 d1 d2 W0 W1 W2 ρ' ∧ ρ' (Str.ofString "x") = some d0) ⟨r, hx⟩ ?_ (fun ρ' h => ⟨ρ', rfl, h.1⟩) ?_
  · rintro c' i ρ' hi ⟨r', hx'⟩ o' l
    have K' := l.kd K
    have hfr' : c'.A.frames = some [c'.env] := by obtain ⟨_, _, _, rfl, _⟩ := l; exact hfr
    have hf' : c'.env.frame = some c'.env.locals := by obtain ⟨_, _, _, rfl, _⟩ := l; exact hf
    have hq : ∃ q, [D.bool true, D.bool false, D.none, D.str (Str.ofString "1"), D.bytes [49].toArray, D.lst [D.int 1]].getD i .none = q ∧ noNum q = true := by
      match i, hi with
      | 0, _ => exact ⟨_, rfl, rfl⟩
      | 1, _ => exact ⟨_, rfl, rfl⟩
      | 2, _ => exact ⟨_, rfl, rfl⟩
      | 3, _ => exact ⟨_, rfl, rfl⟩
      | 4, _ => exact ⟨_, rfl, rfl⟩
      | 5, _ => exact ⟨_, rfl, rfl⟩
    obtain ⟨q, eq, hq⟩ := hq
    rw [eq]
    have gl := K'.gl (x := Str.ofString "_law_refused") (by decide)
    have wr : ∀ {px : Pos}, Ev c' (upd ρ' (Str.ofString "wrong") q) (.Name (Str.ofString "wrong") px) (is q) := fun {_} => Ev.name o' upd_same
    have xx : ∀ {px : Pos}, Ev c' (upd ρ' (Str.ofString "wrong") q) (.Name (Str.ofString "x") px) (is d0) := fun {_} => Ev.name o' (by rw [upd_ne (by decide)]; exact hx')
    refine Ex.ifF (Tr.or3F (Tr.notT (evRefused (k := k + 9) (ds := [q]) o' hfr' hf' gl Ev.int (evList o' (Evs.one wr Evs.nil) (by simp)) (.w0 (r_decimal_of hq))))
      (Tr.notT (evRefused (k := k + 9) (ds := [.dec x0.1 x0.2, q]) o' hfr' hf' gl Ev.int (evList o' (Evs.one (evF o' (K'.gl (by decide)) gf_decimal_of (Evs.one xx Evs.nil) (c_decimal_of nn0) rfl) (Evs.one wr Evs.nil)) (by simp)) (.w4 (r_plus hq))))
      (Tr.notT (evRefused (k := k + 9) (ds := [d0, q]) o' hfr' hf' gl Ev.int (evList o' (Evs.one xx (Evs.one wr Evs.nil)) (by simp)) (.w1 (r_least2 nn0 hq))))) ?_
    refine Ex.nil ⟨⟨?_, ?_⟩, ?_⟩
    · rw [upd_ne (by decide)]; exact r'.vs
    · rw [upd_ne (by decide)]; exact r'.ws
    · rw [upd_ne (by decide)]; exact hx'
  rintro ρ' ⟨ρ'', e, r'⟩
  cases e
  have gl := K.gl (x := Str.ofString "_law_refused") (by decide)
  refine Ex.ifF (Tr.or2F (Tr.notT (evRefused (k := k + 9) (ds := []) o hfr hf gl Ev.int (evList o Evs.nil (by simp)) (.w1 r_least0))) (Tr.notT (evRefused (k := k + 9) (ds := []) o hfr hf gl Ev.int (evList o Evs.nil (by simp)) (.w2 r_greatest0)))) ?_
  have kf := o.fn
  let g : Nat → D := fun i => [D.tup [.int x0.1, .int (x0.2 : Int)], D.tup [.int x1.1, .int (x1.2 : Int)], D.tup [.int x2.1, .int (x2.2 : Int)]].getD i .none
  refine Ex.retD (Ev.eqS (a := .lst ((List.range 3).map g)) (b := .lst ((List.range 3).map g)) o ?_ ?_ rfl (by show ((List.range 3).map g).all (flat 7) = true; simp [g, flat, List.range_succ]))
  · refine' evComp (n := 3) (cl := []) (items := fun i => [d0, d1, d2].getD i .none) (g := g) (ρ' := emp) (names' := [(Str.ofString ".0", NameKind.local), (Str.ofString "value", NameKind.local), (Str.ofString "decimal_of", NameKind.globalImplicit)]) o (Iter.listN o (Ev.name o r'.vs) rfl) rfl ?_ rfl ?_ ?_ ?_ ?_ ?_ ?_ ?_ ?_
    · decide
    · decide
    · decide
    · decide
    · intro y a e; cases e
    · intro y d e; cases e
    · rfl
    · intro c' i hi o' ew hk'
      match i, hi with
      | 0, _ => exact evTold o' (evF o' (hk' _ _ (by decide)) gf_decimal_of (Evs.one (Ev.name o' upd_same) Evs.nil) (c_decimal_of T.n0) rfl)
      | 1, _ => exact evTold o' (evF o' (hk' _ _ (by decide)) gf_decimal_of (Evs.one (Ev.name o' upd_same) Evs.nil) (c_decimal_of T.n1) rfl)
      | 2, _ => exact evTold o' (evF o' (hk' _ _ (by decide)) gf_decimal_of (Evs.one (Ev.name o' upd_same) Evs.nil) (c_decimal_of T.n2) rfl)
    · decide
  · refine' evComp (n := 3) (cl := []) (items := fun i => [D.int W0, D.int W1, D.int W2].getD i .none) (g := g) (ρ' := emp) (names' := [(Str.ofString ".0", NameKind.local), (Str.ofString "worth", NameKind.local), (Str.ofString "_law_told", NameKind.globalImplicit), (Str.ofString "_law_scale", NameKind.globalImplicit)]) o (Iter.listN o (Ev.name o r'.ws) rfl) rfl ?_ rfl ?_ ?_ ?_ ?_ ?_ ?_ ?_ ?_
    · decide
    · decide
    · decide
    · decide
    · intro y a e; cases e
    · intro y d e; cases e
    · rfl
    · intro c' i hi o' ew hk'
      have sc : ∀ {ρ : Rho} {px : Pos}, Ev c' ρ (.Name (Str.ofString "_law_scale") px) (is (.int ((40 : Nat) : Int))) := fun {_ _} => Ev.is_of (evScale o' (hk' _ _ (by decide))) rfl
      match i, hi with
      | 0, _ => exact evLTold (x := x0) (S := 40) o' (hk' _ _ (by decide)) (Ev.name o' (d := .int W0) upd_same) sc (bits_mono T.g0.bW (by decide)) (by decide) T.g0.told
      | 1, _ => exact evLTold (x := x1) (S := 40) o' (hk' _ _ (by decide)) (Ev.name o' (d := .int W1) upd_same) sc (bits_mono T.g1.bW (by decide)) (by decide) T.g1.told
      | 2, _ => exact evLTold (x := x2) (S := 40) o' (hk' _ _ (by decide)) (Ev.name o' (d := .int W2) upd_same) sc (bits_mono T.g2.bW (by decide)) (by decide) T.g2.told
    · decide
end
end
-- part X23
section
open Builtin.Int
section
variable {c : Cx} {ρ : Rho} {k : Nat} {d0 d1 d2 : D} {x0 x1 x2 : Int × Nat} {W0 W1 W2 : Int}
theorem ints3 (a b c : Int) : D.lst [.int a, .int b, .int c] = .lst ([a, b, c].map .int) := rfl
set_option maxHeartbeats 4000000 in
theorem law_tail (o : c.Ok (k + 10)) (K : KD c lawScope.names) (hfr : c.A.frames = some [c.env]) (hf : c.env.frame = some c.env.locals) (T : T3 d0 d1 d2 x0 x1 x2 W0 W1 W2) (r : R3 d0 d1 d2 W0 W1 W2 ρ) :
    Ex c ρ tail6 (is (.ret (.bool true))) := by
  have N2 : Nums [d2] [x2] := Nums.cons T.n2 T.g2 Nums.nil (by simp)
  have N12 : Nums [d1, d2] [x1, x2] := Nums.cons T.n1 T.g1 N2 (by simp)
  have N3 : Nums [d0, d1, d2] [x0, x1, x2] := Nums.cons T.n0 T.g0 N12 (by simp)
  have N0 : Nums [d0] [x0] := Nums.cons T.n0 T.g0 Nums.nil (by simp)
  have D12 : Dns [x1, x2] [W1, W2] := Dns.cons T.g1 (Dns.cons T.g2 Dns.nil)
  have D3 : Dns [x0, x1, x2] [W0, W1, W2] := Dns.cons T.g0 D12
  have D0 : Dns [x0] [W0] := Dns.cons T.g0 Dns.nil
  have vv : ∀ {px : Pos}, Ev c ρ (.Name (Str.ofString "values") px) (is (.lst [d0, d1, d2])) := fun {_} => Ev.name o r.vs
  have ww : ∀ {px : Pos}, Ev c ρ (.Name (Str.ofString "worths") px) (is (.lst [.int W0, .int W1, .int W2])) := fun {_} => Ev.name o r.ws
  refine Ex.ifF (Tr.or3F (Tr.notT (evF o (K.gl (by decide)) gf_law_some_told (Evs.one vv (Evs.one (Ev.is_of ww (ints3 W0 W1 W2)) Evs.nil)) (c_law_some_told N3 D3 (by simp)) rfl))
    (Tr.notT (evF o (K.gl (by decide)) gf_law_some_told (Evs.one (Ev.is_of (b := .lst [d1, d2]) (evDropL (a := 1) o vv Ev.int (by simp)) rfl) (Evs.one (Ev.is_of (b := .lst ([W1, W2].map .int)) (evDropL (a := 1) o ww Ev.int (by simp)) rfl) Evs.nil)) (c_law_some_told N12 D12 (by simp)) rfl))
    (Tr.notT (evF o (K.gl (by decide)) gf_law_some_told (Evs.one (Ev.is_of (b := .lst [d0]) (evTakeL (a := 1) o vv Ev.int (by simp)) rfl) (Evs.one (Ev.is_of (b := .lst ([W0].map .int)) (evTakeL (a := 1) o ww Ev.int (by simp)) rfl) Evs.nil)) (c_law_some_told N0 D0 (by simp)) rfl))) ?_
  refine Ex.ifF (Tr.or2F (Tr.neS (a := .tup [.int 0, .int 0]) o (Ev.is_of (evTold o (evF o (K.gl (by decide)) gf_sum_of (Evs.one (evList o Evs.nil (by simp)) Evs.nil) (c_sum_of Nums.nil) rfl)) rfl) (evTup o (Evs.one Ev.int (Evs.one Ev.int Evs.nil)) (by simp)) rfl (flatTT _ _))
    (Tr.neS (a := .tup [.lst [], .int 0]) o (Ev.is_of (evF o (K.gl (by decide)) gf_tops_of (Evs.one (evList o Evs.nil (by simp)) Evs.nil) (c_tops_of Nums.nil) rfl) rfl) (evTup o (Evs.one (evList o Evs.nil (by simp)) (Evs.one Ev.int Evs.nil)) (by simp)) rfl (by decide))) ?_
  refine exUnpack (xs := [(Str.ofString "x", _), (Str.ofString "y", _), (Str.ofString "z", _)]) o ?_ vv (.inr rfl) rfl ?_
  · intro x hx
    simp only [List.mem_cons, List.not_mem_nil, or_false] at hx
    rcases hx with rfl | rfl | rfl
    · exact K.st (by decide) (by decide)
    · exact K.st (by decide) (by decide)
    · exact K.st (by decide) (by decide)
  generalize hρ : bindRho _ ρ = ρ2
  have r2 : R3 d0 d1 d2 W0 W1 W2 ρ2 := ⟨by rw [← hρ, ← r.vs]; rfl, by rw [← hρ, ← r.ws]; rfl⟩
  have hx : ρ2 (Str.ofString "x") = some d0 := by rw [← hρ]; rfl
  have hy : ρ2 (Str.ofString "y") = some d1 := by rw [← hρ]; rfl
  have hz : ρ2 (Str.ofString "z") = some d2 := by rw [← hρ]; rfl
  clear hρ
  have tail : Ex c ρ2 tail10 (is (.ret (.bool true))) := law_tail2 o K hfr hf T r2 hx
  have wi : ∀ (i : Int) (W : Int) {px pc pos : Pos} {n : Nat}, 0 ≤ i → i < 1000000 → [D.int W0, D.int W1, D.int W2][i.toNat]? = some (.int W) → Ev c ρ2 (.Subscript (.Name (Str.ofString "worths") px) (.Constant (.int i) n pc) pos) (is (.int W)) := fun i W px pc pos n h0 h1 h => evItemL (ds := [.int W0, .int W1, .int W2]) o (Ev.name o r2.ws) Ev.int h0 h1 h
  have b3 : ∀ x ∈ [x1, x2], intBits x.1 ≤ 1000 ∧ x.2 ≤ 200 := by
    intro x hx
    have h1 := bits_mono T.g1.b (show 100 ≤ 1000 by decide)
    have h2 := bits_mono T.g2.b (show 100 ≤ 1000 by decide)
    have h3 := T.g1.hp
    have h4 := T.g2.hp
    simp only [List.mem_cons, List.not_mem_nil, or_false] at hx
    rcases hx with rfl | rfl
    · exact ⟨h1, by omega⟩
    · exact ⟨h2, by omega⟩
  have bb : ∀ x ∈ [x0, x1, x2], intBits x.1 ≤ 1000 ∧ x.2 ≤ 200 := by
    intro x hx
    rcases List.mem_cons.mp hx with rfl | hx
    · exact ⟨bits_mono T.g0.b (by decide), by have := T.g0.hp; omega⟩
    · exact b3 x hx
  obtain ⟨cl1, cl2⟩ := clamp_ok (a := x0) (b := x1) (c := x2) T.g0 T.g1 T.g2
  refine Ex.ifD (β := decide (W2 < W1)) (Tr.cmp (wi 1 W1 (by decide) (by decide) rfl) (wi 2 W2 (by decide) (by decide) rfl) CmpOk.gt) ?_ ?_
  · intro h
    have h := of_decide_eq_true h
    have hc : 0 < cmpN x1 x2 := by rw [cl2]; exact sg_pos.mpr (by omega)
    refine Ex.ifF (Tr.notT (evRefused (k := k + 9) (ds := [d0, d1, d2]) o hfr hf (K.gl (by decide)) Ev.int (evList o (Evs.one (Ev.name o hx) (Evs.one (Ev.name o hy) (Evs.one (Ev.name o hz) Evs.nil))) (by simp)) (.w3 (r_clamped T.n1 T.n2 b3 hc)))) ?_
    exact tail
  · intro h
    have h := of_decide_eq_false h
    have hc : ¬ 0 < cmpN x1 x2 := by rw [cl2]; intro z; have := sg_pos.mp z; omega
    refine Ex.ifF (Tr.neS o (evTold o (evF o (K.gl (by decide)) gf_clamped (Evs.one (Ev.name o hx) (Evs.one (Ev.name o hy) (Evs.one (Ev.name o hz) Evs.nil))) (c_clamped (a := x0) (b := x1) (c' := x2) T.n0 T.n1 T.n2 bb hc) rfl))
      (evLTold (S := 40) (x := lowN [topN [x0, x1] 1, x2] 1) o (K.gl (by decide)) (evB o (K.gl (by decide)) bf_min (Evs.one (evB o (K.gl (by decide)) bf_max (Evs.one (wi 0 W0 (by decide) (by decide) rfl) (Evs.one (wi 1 W1 (by decide) (by decide) rfl) Evs.nil)) Cl.max2 rfl) (Evs.one (wi 2 W2 (by decide) (by decide) rfl) Evs.nil)) Cl.min2 rfl) (Ev.is_of (evScale o (K.gl (by decide))) rfl) ?_ (by decide) cl1.symm) rfl (flatTT _ _)) ?_
    · have q0 := T.g0.bW
      have q1 := T.g1.bW
      have q2 := T.g2.bW
      have e : min (max W0 W1) W2 = W0 ∨ min (max W0 W1) W2 = W1 ∨ min (max W0 W1) W2 = W2 := by omega
      rcases e with e | e | e <;> (rw [e]; first | exact bits_mono q0 (by decide) | exact bits_mono q1 (by decide) | exact bits_mono q2 (by decide))
    · exact tail
end
end
-- part X24
section
open Builtin.Int
abbrev placeBody : List Stmt := match tail5 with
  | .For _ _ b _ _ :: _ => b
  | _ => []
section
variable {c : Cx} {ρ : Rho} {k : Nat} {d0 d1 d2 : D} {x0 x1 x2 : Int × Nat} {W0 W1 W2 : Int} {pa ca : Addr} {cv : Array Value} {cs : List Int}
theorem pick3 (T : T3 d0 d1 d2 x0 x1 x2 W0 W1 W2) {i : Nat} (hi : i < 3) : ∃ (di : D) (x : Int × Nat) (W : Int), [d0, d1, d2][i]? = some di ∧ [D.int W0, D.int W1, D.int W2][i]? = some (.int W) ∧ Num di x.1 x.2 ∧ Dn x.1 x.2 W := by
  match i, hi with
  | 0, _ => exact ⟨d0, x0, W0, rfl, rfl, T.n0, T.g0⟩
  | 1, _ => exact ⟨d1, x1, W1, rfl, rfl, T.n1, T.g1⟩
  | 2, _ => exact ⟨d2, x2, W2, rfl, rfl, T.n2, T.g2⟩
set_option maxHeartbeats 4000000 in
/-- one turn over the places -/
theorem law_place {J : Heap → Prop} {n : Int} {i : Nat} (pc : PenC c pa ca) (o : c.Ok (k + 10)) (o' : (c.wi J).Ok (k + 10)) (K : KD c lawScope.names) (hc : Cells cs cv) (hlen : cs.length ≤ 63) (hin : ∀ h, c.I h → Pen pa ca cv n h) (hout : ∀ h h', c.I h → Ext (fun a => a = pa) h h' → Pen pa ca cv (n + 1) h' → J h') (hn : n ≤ 900)
    (T : T3 d0 d1 d2 x0 x1 x2 W0 W1 W2) (r : R3 d0 d1 d2 W0 W1 W2 ρ) (rp : ρ (Str.ofString "pen") = some (.raw (.ref pa))) (hi : i < 3) :
    ExJ c J (upd ρ (Str.ofString "place") (.int (i : Int))) placeBody (fun q => ∃ ρ', q = .next ρ' ∧ R3 d0 d1 d2 W0 W1 W2 ρ' ∧ ρ' (Str.ofString "pen") = some (.raw (.ref pa))) := by
  have hj : ((i : Int) + 1).fmod 3 = (((i + 1) % 3 : Nat) : Int) := by rw [Int.fmod_eq_emod_of_nonneg _ (by decide)]; omega
  have hj3 : (i + 1) % 3 < 3 := Nat.mod_lt _ (by decide)
  generalize (i + 1) % 3 = j at hj hj3
  obtain ⟨di, xi, Wi, a1, a2, a3, a4⟩ := pick3 T hi
  obtain ⟨dj, xj, Wj, b1, b2, b3, b4⟩ := pick3 T hj3
  refine ExJ.assignD (d := .int (j : Int)) o (K.st (by decide) (by decide)) (Ev.is_of (Ev.mod (Ev.add (Ev.name o upd_same) Ev.int) Ev.int (by decide)) (by rw [hj])) ?_
  generalize hρ : upd (upd ρ (Str.ofString "place") (.int (i : Int))) (Str.ofString "other") (.int (j : Int)) = ρ2
  have r2 : R3 d0 d1 d2 W0 W1 W2 ρ2 := ⟨by rw [← hρ, upd_ne (by decide), upd_ne (by decide)]; exact r.vs, by rw [← hρ, upd_ne (by decide), upd_ne (by decide)]; exact r.ws⟩
  have rp2 : ρ2 (Str.ofString "pen") = some (.raw (.ref pa)) := by rw [← hρ, upd_ne (by decide), upd_ne (by decide)]; exact rp
  have ri : ρ2 (Str.ofString "place") = some (.int (i : Int)) := by rw [← hρ, upd_ne (by decide)]; exact upd_same
  have rj : ρ2 (Str.ofString "other") = some (.int (j : Int)) := by rw [← hρ]; exact upd_same
  clear hρ
  refine ExJ.ifNotJ (J' := J) (evOne (k := k + 2) (n := n) (dv := di) (W := Wi) pc o hc hlen (K.gl (by decide)) hin hout rp2 (evItemL (ds := [d0, d1, d2]) o (Ev.name o r2.vs) (Ev.name o ri) (by omega) (by omega) a1) (evItemL (ds := [.int W0, .int W1, .int W2]) o (Ev.name o r2.ws) (Ev.name o ri) (by omega) (by omega) a2) hn a3 a4) ?_
  have K2 : KD (c.wi J) lawScope.names := K.wi
  refine ExJ.of (c := c.wi J) ?_ fun h x => x
  refine Ex.ifF (Tr.notT (evF o' (K2.gl (by decide)) gf_law_two_told (Evs.one (evItemL (ds := [d0, d1, d2]) o' (Ev.name o' r2.vs) (Ev.name o' ri) (by omega) (by omega) a1) (Evs.one (evItemL (ds := [d0, d1, d2]) o' (Ev.name o' r2.vs) (Ev.name o' rj) (by omega) (by omega) b1)
    (Evs.one (evItemL (ds := [.int W0, .int W1, .int W2]) o' (Ev.name o' r2.ws) (Ev.name o' ri) (by omega) (by omega) a2) (Evs.one (evItemL (ds := [.int W0, .int W1, .int W2]) o' (Ev.name o' r2.ws) (Ev.name o' rj) (by omega) (by omega) b2) Evs.nil)))) (c_law_two_told a3 b3 a4 b4) rfl)) ?_
  exact Ex.nil ⟨ρ2, rfl, r2, rp2⟩
set_option maxHeartbeats 4000000 in
theorem law_rest {n : Int} (o : ∀ m, (c.wi (Pen pa ca cv m)).Ok (k + 10)) (K : KD c lawScope.names) (pc : PenC c pa ca) (hfr : c.A.frames = some [c.env]) (hf : c.env.frame = some c.env.locals) (hc : Cells cs cv) (hlen : cs.length ≤ 63) (hn : n ≤ 800)
    (T : T3 d0 d1 d2 x0 x1 x2 W0 W1 W2) (r : R3 d0 d1 d2 W0 W1 W2 ρ) (rp : ρ (Str.ofString "pen") = some (.raw (.ref pa))) {s : Shared} {Q : Flow → Shared → Prop} (st : St (c.wi (Pen pa ca cv n)) s.heap ρ)
    (hQ : ∀ ρ' h' tk m, St (c.wi (Pen pa ca cv m)) h' ρ' → Q (.ret (.bool true)) { s with heap := h', toks := tk }) : wpAny (model pw c.w) c.A (execs tail5 c.env) Q NoE s := by
  refine forS (c := c) (J := fun m : Int => Pen pa ca cv m) (xv := fun _ => []) (xd := fun _ => []) (items := fun i => .int (i : Int)) (n := 3) o (by decide) (K.kd _ _ (by decide)) (iterRange (o n) (by decide) (K.gl (by decide)))
    (fun i m ρ' => m = n + i ∧ R3 d0 d1 d2 W0 W1 W2 ρ' ∧ ρ' (Str.ofString "pen") = some (.raw (.ref pa))) ⟨by simp, r, rp⟩ ?_ st .nil ?_
  · intro I fp S okk nPI hfpP hI0 nSI hSfr hcf i m ρ' hi ⟨hm, r', rp'⟩ s' Q' st' rd' hQ'
    have pc' : PenC ((c.wi (Pen pa ca cv m)).at I fp S) pa ca := ⟨.inl pc.Pp, fun z => z.elim pc.nca fun e => nSI (e ▸ pc.Sc), .inl pc.Sp, .inl pc.Sc, pc.h0, pc.ne, pc.cell⟩
    have K' : KD ((c.wi (Pen pa ca cv m)).at I fp S) lawScope.names := ⟨K.kd, fun x e => let ⟨a, h1, h2⟩ := K.cs x e; ⟨a, h1, fun z => z.elim h2 (hcf x a h1)⟩⟩
    refine law_place (c := (c.wi (Pen pa ca cv m)).at I fp S) (J := fun h => Pen pa ca cv (m + 1) h ∧ S h) (n := m) pc' (okk m) (okk (m + 1)) K' hc hlen (fun h x => x.1) (fun h h' x e p => ⟨p, hSfr h h' x.2 fun b hb ob eb => e b ob (fun z => hfpP b hb (z ▸ pc.Pp)) eb⟩) (by omega) T r' rp' hi s' Q' st' fun q f h' tk hq ho ext => ?_
    obtain ⟨ρ'', rfl, r'', rp''⟩ := hq
    obtain ⟨rfl, st''⟩ := ho
    exact hQ' (m + 1) ρ'' h' tk ⟨by omega, r'', rp''⟩ st'' .nil ext
  · intro m ρ' h' tk ⟨hm, r', rp'⟩ st' rd' ext
    refine law_tail (c := c.wi (Pen pa ca cv m)) (o m) K.wi hfr hf T r' _ _ st' fun q f h2 t2 hq ho ext2 => ?_
    cases hq
    obtain ⟨v, ρ2, rfl, rv, st2⟩ := ho
    cases rv
    exact hQ ρ2 h2 t2 m st2
end
end
-- part X25
section
open Builtin.Int
section
variable {c : Cx} {ρ : Rho} {k : Nat} {cs : List Int}
theorem len3 {α : Type} {l : List α} (h : l.length = 3) : ∃ a b c, l = [a, b, c] := by
  match l, h with
  | [a, b, c], _ => exact ⟨a, b, c, rfl⟩
theorem mkOk {P' S' : Addr → Prop} {J : Heap → Prop} (o : c.Ok k) (cells : ∀ x, c.env.cells.lookup x = none) (hl : P' c.env.locals) (inv : ∀ h h', J h → (∀ b ob, S' b → h.get? b = some ob → h'.get? b = some ob) → J h') (SL : ¬ S' c.env.locals) : (c.on P' J S').Ok k :=
  ⟨o.gl, o.room, o.fn, o.eg, o.eb, hl, (fun x a e => by rw [show (c.on P' J S').env.cells.lookup x = none from cells x] at e; cases e), o.hL, (fun x a e => by rw [show (c.on P' J S').env.cells.lookup x = none from cells x] at e; cases e), (fun x a e => by rw [show (c.on P' J S').env.cells.lookup x = none from cells x] at e; cases e), (fun x y a e => by rw [show (c.on P' J S').env.cells.lookup x = none from cells x] at e; cases e), inv, SL⟩
theorem isl_at {h h' : Heap} {a : Addr} {items : Array Value} (x : h.IsList a items) (k : ∀ o, h.get? a = some o → h'.get? a = some o) : h'.IsList a items := let ⟨o, e, r⟩ := x; ⟨o, k o e, r⟩
theorem pll_at {h h' : Heap} {a : Addr} {items : Array Value} (x : h.PlainList a items) (k : ∀ o, h.get? a = some o → h'.get? a = some o) : h'.PlainList a items := let ⟨n, e⟩ := x; ⟨n, k _ e⟩
theorem pll_isl {h : Heap} {a : Addr} {items : Array Value} (x : h.PlainList a items) : h.IsList a items := let ⟨n, e⟩ := x; ⟨_, e, rfl, n, rfl⟩
set_option maxHeartbeats 8000000 in
theorem law_main (o : c.Ok (k + 10)) (K : KD c lawScope.names) (hfr : c.A.frames = some [c.env]) (hf : c.env.frame = some c.env.locals) (cells : ∀ x, c.env.cells.lookup x = none) (hlen : cs.length ≤ 63)
    {s : Shared} {Q : Flow → Shared → Prop} (st : St c s.heap ρ) (hscr : ρ (Str.ofString "script") = some (.lst (cs.map .int)))
    (hQ : ∀ h' tk m, Stay c.h₀ h' → h'.Ns c.env.locals m → Q (.ret (.bool true)) { s with heap := h', toks := tk }) : wpAny (model pw c.w) c.A (execs lawBody c.env) Q NoE s := by
  -- pen, values, worths
  refine wpAny_execs_cons (wpAny_Assign_Name (Call_ (Fv.glob o (K.gl (by decide)) gf_law_pen.g (by decide) ρ s _ st (callWith_K (st.gl o).kin gf_law_pen.k (Evs.one (Ev.name o hscr) Evs.nil rfl s _ st fun vs ds h1 t1 ed s1 r1 e1 => ⟨(s1.gl o).kin, ?_⟩) rfl rfl)) rfl))
  cases ed
  obtain ⟨v, rfl, a1⟩ := r1.one
  refine c_law_pen (k := k + 8) o.room (s1.gl o) s1.PB a1 hlen fun pa ca cv u1 u2 h2 t2 hc lp lc fr ne nPc stay => ?_
  have npP : ¬ c.P pa := fun z => by obtain ⟨ob, e⟩ := s1.PB _ z; rw [fr] at e; cases e
  have h0p : c.h₀.get? pa = none := by
    cases q : c.h₀.get? pa with
    | none => rfl
    | some ob => have := s1.keep _ _ q; rw [fr] at this; cases this
  refine store_at (o' := o) (s1.stay o stay) (.raw (.ref pa)) (K.st (by decide) (by decide)).1 (K.st (by decide) (by decide)).2 fun h3 t3 s3 e3 => ?_
  have lp3 : h3.IsList pa _ := isl_at lp fun ob e => e3 _ _ npP e
  have lc3 : h3.IsList ca cv := isl_at lc fun ob e => e3 _ _ nPc e
  refine wpAny_execs_cons (wpAny_Assign_Name (List_ (args_nil (wpAny_newObj_type ?_ (by size_fits)))))
  dsimp only
  have st4 := stay_push h3 { cls := .type "list", data := .seq ([] : List Value).toArray }
  have nvP : ¬ c.P h3.objs.size := fresh_size s3.PB
  have h0v : c.h₀.get? h3.objs.size = none := by
    cases q : c.h₀.get? h3.objs.size with
    | none => rfl
    | some ob => exact absurd (Heap.lt_size (s3.keep _ _ q)) (Nat.lt_irrefl _)
  have pv4 : (h3.push { cls := .type "list", data := .seq ([] : List Value).toArray }).PlainList h3.objs.size #[] := ⟨0, Heap.get?_push_size _ rfl⟩
  have d2 : pa ≠ h3.objs.size := by obtain ⟨ob, e, _⟩ := lp3; exact Nat.ne_of_lt (Heap.lt_size e)
  have d5 : ca ≠ h3.objs.size := by obtain ⟨ob, e, _⟩ := lc3; exact Nat.ne_of_lt (Heap.lt_size e)
  refine store_at (o' := o) (s3.stay o st4) (.raw (.ref h3.objs.size)) (K.st (by decide) (by decide)).1 (K.st (by decide) (by decide)).2 fun h5 t5 s5 e5 => ?_
  generalize h3.objs.size = va at *
  have lp5 : h5.IsList pa _ := isl_at lp3 fun ob e => e5 _ _ npP (st4 _ _ e)
  have lc5 : h5.IsList ca cv := isl_at lc3 fun ob e => e5 _ _ nPc (st4 _ _ e)
  have pv5 : h5.PlainList va #[] := pll_at pv4 fun ob e => e5 _ _ nvP e
  refine wpAny_execs_cons (wpAny_Assign_Name (List_ (args_nil (wpAny_newObj_type ?_ (by size_fits)))))
  dsimp only
  have st6 := stay_push h5 { cls := .type "list", data := .seq ([] : List Value).toArray }
  have nwP : ¬ c.P h5.objs.size := fresh_size s5.PB
  have h0w : c.h₀.get? h5.objs.size = none := by
    cases q : c.h₀.get? h5.objs.size with
    | none => rfl
    | some ob => exact absurd (Heap.lt_size (s5.keep _ _ q)) (Nat.lt_irrefl _)
  have pw6 : (h5.push { cls := .type "list", data := .seq ([] : List Value).toArray }).PlainList h5.objs.size #[] := ⟨0, Heap.get?_push_size _ rfl⟩
  have d3 : pa ≠ h5.objs.size := by obtain ⟨ob, e, _⟩ := lp5; exact Nat.ne_of_lt (Heap.lt_size e)
  have d6 : ca ≠ h5.objs.size := by obtain ⟨ob, e, _⟩ := lc5; exact Nat.ne_of_lt (Heap.lt_size e)
  have d4 : va ≠ h5.objs.size := by obtain ⟨n0, e⟩ := pv5; exact Nat.ne_of_lt (Heap.lt_size e)
  refine store_at (o' := o) (s5.stay o st6) (.raw (.ref h5.objs.size)) (K.st (by decide) (by decide)).1 (K.st (by decide) (by decide)).2 fun h7 t7 s7 e7 => ?_
  generalize h5.objs.size = wa at *
  have lp7 : h7.IsList pa _ := isl_at lp5 fun ob e => e7 _ _ npP (st6 _ _ e)
  have lc7 : h7.IsList ca cv := isl_at lc5 fun ob e => e7 _ _ nPc (st6 _ _ e)
  have pv7 : h7.PlainList va #[] := pll_at pv5 fun ob e => e7 _ _ nvP (st6 _ _ e)
  have pw7 : h7.PlainList wa #[] := pll_at pw6 fun ob e => e7 _ _ nwP e
  -- the context of the building
  have Lp : c.env.locals ≠ pa := fun z => npP (z ▸ o.PL)
  have Lc : c.env.locals ≠ ca := fun z => nPc (z ▸ o.PL)
  have Lv : c.env.locals ≠ va := fun z => nvP (z ▸ o.PL)
  have Lx : c.env.locals ≠ wa := fun z => nwP (z ▸ o.PL)
  let P2 : Addr → Prop := fun a => a = c.env.locals ∨ a = pa ∨ a = va ∨ a = wa
  let S2 : Addr → Prop := fun a => a = pa ∨ a = ca ∨ a = va ∨ a = wa
  have SL2 : ¬ S2 c.env.locals := by exact fun z => z.elim Lp fun z => z.elim Lc fun z => z.elim Lv Lx
  generalize hc2 : c.on P2 (fun _ => True) S2 = c2
  have ok2 : ∀ J : Heap → Prop, (∀ h h', J h → (∀ b ob, S2 b → h.get? b = some ob → h'.get? b = some ob) → J h') → (c2.wi J).Ok (k + 10) := fun J hJ => by
    subst hc2; exact mkOk (c := c) (P' := P2) (S' := S2) (J := J) o cells (.inl rfl) hJ SL2
  have K2 : KD c2 lawScope.names := by
    subst hc2
    refine ⟨K.kd, fun x e => ?_⟩
    obtain ⟨a, h1, _⟩ := K.cs x e
    rw [cells x] at h1; cases h1
  have cw : c2.w = c.w := by subst hc2; rfl
  have cA : c2.A = c.A := by subst hc2; rfl
  have ce : c2.env = c.env := by subst hc2; rfl
  have c0 : c2.h₀ = c.h₀ := by subst hc2; rfl
  have cP : c2.P = P2 := by subst hc2; rfl
  have cS : c2.S = S2 := by subst hc2; rfl
  have lw : Lw c2 pa ca va wa := by
    refine ⟨cP ▸ .inr (.inl rfl), cP ▸ .inr (.inr (.inl rfl)), cP ▸ .inr (.inr (.inr rfl)), ?_, cS ▸ .inl rfl, cS ▸ .inr (.inl rfl), cS ▸ .inr (.inr (.inl rfl)), cS ▸ .inr (.inr (.inr rfl)), c0 ▸ h0p, c0 ▸ h0v, c0 ▸ h0w, ne, d2, d3, d4, d5, d6, fun x => by rw [ce]; exact cells x⟩
    rw [cP]
    exact fun z => z.elim (fun z => Lc z.symm) fun z => z.elim (fun z => ne z.symm) fun z => z.elim d5 d6
  have stJ : ∀ a : LS, ∀ h h', JJ pa ca va wa cv a h → (∀ b ob, S2 b → h.get? b = some ob → h'.get? b = some ob) → JJ pa ca va wa cv a h' := fun a h h' i kk =>
    ⟨i.1.ext fun z ob hz e => kk z ob (hz.elim .inl fun q => .inr (.inl q)) e, pll_at i.2.1 fun ob e => kk _ ob (.inr (.inr (.inl rfl))) e, pll_at i.2.2 fun ob e => kk _ ob (.inr (.inr (.inr rfl))) e⟩
  have okJ : ∀ a : LS, (c2.wi (JJ pa ca va wa cv a)).Ok (k + 10) := fun a => ok2 _ (stJ a)
  let a0 : LS := ⟨0, [], [], [], [], []⟩
  let ρ0 : Rho := upd (upd (upd emp (Str.ofString "pen") (.raw (.ref pa))) (Str.ofString "values") (.raw (.ref va))) (Str.ofString "worths") (.raw (.ref wa))
  have n30 : N3 pa va wa ρ0 := ⟨rfl, rfl, rfl⟩
  have st2 : St (c2.wi (JJ pa ca va wa cv a0)) h7 ρ0 := by
    obtain ⟨m, cm, V⟩ := s7.vars
    obtain ⟨oL, es, ep, hoL, hdL⟩ := id V.ns
    obtain ⟨op, ep', _⟩ := id lp7
    obtain ⟨oc, ec', _⟩ := id lc7
    obtain ⟨nv, ev'⟩ := id pv7
    obtain ⟨nw, ew'⟩ := id pw7
    subst hc2
    refine ⟨s7.keep, ?_, ?_, ⟨⟨0, 0, ⟨u1, u2, lp7, lc7⟩, by decide, by decide, by decide⟩, pv7, pw7⟩, m, cm, V.ns, V.cell, ?_⟩
    · exact fun a z => z.elim (fun z => ⟨_, z ▸ hoL⟩) fun z => z.elim (fun z => ⟨_, z ▸ ep'⟩) fun z => z.elim (fun z => ⟨_, z ▸ ev'⟩) fun z => ⟨_, z ▸ ew'⟩
    · exact fun a z => z.elim (fun z => ⟨_, z ▸ ep'⟩) fun z => z.elim (fun z => ⟨_, z ▸ ec'⟩) fun z => z.elim (fun z => ⟨_, z ▸ ev'⟩) fun z => ⟨_, z ▸ ew'⟩
    · intro y d e
      have raw : ∀ {y : Str} {v : Value}, upd (upd (upd ρ (Str.ofString "pen") (.raw (.ref pa))) (Str.ofString "values") (.raw (.ref va))) (Str.ofString "worths") (.raw (.ref wa)) y = some (.raw v) → ∃ u, Bound c.env m cm y u ∧ Rd P2 h7 u (.raw v) := fun e => by
        obtain ⟨u, b, r⟩ := V.rd _ _ e
        cases r
        exact ⟨_, b, .raw _⟩
      unfold ρ0 at e
      by_cases y1 : y = Str.ofString "worths"
      · subst y1; rw [upd_same] at e; cases e; exact raw upd_same
      · rw [upd_ne y1] at e
        by_cases y2 : y = Str.ofString "values"
        · subst y2; rw [upd_same] at e; cases e; exact raw (by rw [upd_ne y1]; exact upd_same)
        · rw [upd_ne y2] at e
          by_cases y3 : y = Str.ofString "pen"
          · subst y3; rw [upd_same] at e; cases e; exact raw (by rw [upd_ne y1, upd_ne y2]; exact upd_same)
          · rw [upd_ne y3] at e; cases e
  subst hc2
  -- the lists are whole: they become data
  have fin : ∀ (h : Heap) (tk : Nat) (J : Heap → Prop) (m : Int) (vs ws : List Value) (d0 d1 d2 : D) (x0 x1 x2 : Int × Nat) (W0 W1 W2 : Int) (ρ' : Rho), m ≤ 800 → St ((c.on P2 (fun _ => True) S2).wi J) h ρ' → N3 pa va wa ρ' → Pen pa ca cv m h → h.IsList va vs.toArray → RdAll P2 h vs [d0, d1, d2] →
      h.IsList wa ws.toArray → Cells [W0, W1, W2] ws.toArray → T3 d0 d1 d2 x0 x1 x2 W0 W1 W2 → wpAny (model pw c.w) c.A (execs tail5 c.env) Q NoE { s with heap := h, toks := tk } := by
    intro h tk J m vs ws dd0 dd1 dd2 x0 x1 x2 W0 W1 W2 ρ' hm st' n3 pen lv rv lw' cW T
    let P3 : Addr → Prop := fun a => a = c.env.locals ∨ a = pa
    let S3 : Addr → Prop := fun a => a = pa ∨ a = ca
    have SL3 : ¬ S3 c.env.locals := fun z => z.elim Lp Lc
    have p32 : ∀ a, P3 a → P2 a := fun a z => z.elim .inl fun z => .inr (.inl z)
    have vP3 : ¬ P3 va := fun z => z.elim (fun z => Lv z.symm) fun z => d2 z.symm
    have wP3 : ¬ P3 wa := fun z => z.elim (fun z => Lx z.symm) fun z => d3 z.symm
    have ok3 : ∀ m' : Int, ((c.on P3 (fun _ => True) S3).wi (Pen pa ca cv m')).Ok (k + 10) := fun m' => mkOk (c := c) (P' := P3) (S' := S3) (J := Pen pa ca cv m') o cells (.inl rfl) (fun h h' i kk => i.ext fun z ob hz e => kk z ob hz e) SL3
    have K3 : KD (c.on P3 (fun _ => True) S3) lawScope.names := ⟨K.kd, fun x e => by obtain ⟨a, h1, _⟩ := K.cs x e; rw [cells x] at h1; cases h1⟩
    have pc3 : PenC (c.on P3 (fun _ => True) S3) pa ca := ⟨.inr rfl, fun z => z.elim (fun z => Lc z.symm) fun z => ne z.symm, .inl rfl, .inr rfl, h0p, ne, fun x a e => by rw [show (c.on P3 (fun _ => True) S3).env.cells.lookup x = none from cells x] at e; cases e⟩
    let ρ3 : Rho := upd (upd (upd emp (Str.ofString "pen") (.raw (.ref pa))) (Str.ofString "values") (.lst [dd0, dd1, dd2])) (Str.ofString "worths") (.lst [.int W0, .int W1, .int W2])
    have st3 : St ((c.on P3 (fun _ => True) S3).wi (Pen pa ca cv m)) h ρ3 := by
      obtain ⟨mm, cm, V⟩ := st'.vars
      obtain ⟨oL, es, ep, hoL, hdL⟩ := id V.ns
      refine ⟨st'.keep, fun a ha => st'.PB a (p32 a ha), fun a ha => st'.SB a (ha.elim .inl fun z => .inr (.inl z)), pen, mm, cm, V.ns, V.cell, fun y d e => ?_⟩
      unfold ρ3 at e
      by_cases y1 : y = Str.ofString "worths"
      · subst y1; rw [upd_same] at e; cases e
        obtain ⟨u, b, r⟩ := V.rd _ _ n3.ws
        cases r
        exact ⟨_, b, .lst (vs := ws) lw' wP3 (by have := cW P3 h; simpa using this)⟩
      · rw [upd_ne y1] at e
        by_cases y2 : y = Str.ofString "values"
        · subst y2; rw [upd_same] at e; cases e
          obtain ⟨u, b, r⟩ := V.rd _ _ n3.vs
          cases r
          exact ⟨_, b, .lst (vs := vs) lv vP3 (rv.le fun a _ ha => p32 a ha)⟩
        · rw [upd_ne y2] at e
          by_cases y3 : y = Str.ofString "pen"
          · subst y3; rw [upd_same] at e; cases e
            obtain ⟨u, b, r⟩ := V.rd _ _ n3.pen
            cases r
            exact ⟨_, b, .raw _⟩
          · rw [upd_ne y3] at e; cases e
    refine law_rest (c := c.on P3 (fun _ => True) S3) (n := m) (ρ := ρ3) ok3 K3 pc3 hfr hf hc hlen hm T ⟨rfl, rfl⟩ rfl st3 fun ρ4 h4 t4 m4 st4 => ?_
    obtain ⟨mm, cm, V⟩ := st4.vars
    exact hQ h4 t4 mm st4.keep V.ns
  refine forS (c := c.on P2 (fun _ => True) S2) (J := JJ pa ca va wa cv) (xv := LS.vs) (xd := LS.ds) (items := fun i => .int (i : Int)) (n := 3) okJ (by decide) (K2.kd _ _ (by decide)) (a₀ := a0) (iterRange (okJ a0) (by decide) (K2.gl (by decide)))
    (fun i a ρ' => a.n = 7 * (i : Int) ∧ a.vs.length = i ∧ a.ws.length = i ∧ Cells a.Ws a.ws.toArray ∧ NW a.ds a.ns a.Ws i ∧ N3 pa va wa ρ')
    ⟨rfl, rfl, rfl, fun _ _ => .nil, ⟨rfl, rfl, rfl, fun j hj => absurd hj (Nat.not_lt_zero j), fun j hj => absurd hj (Nat.not_lt_zero j)⟩, n30⟩ ?_ st2 .nil ?_
  · intro I fp S okk nPI hfpP hI0 nSI hSfr hcf i a ρ' hi ⟨v1, v2, v3, v4, v5, v6⟩ s' Q' st' rd' hQ'
    have F : Fam (c.on (fun z => P2 z ∨ z = I) (fun _ => True) (fun z => S2 z ∨ z ∈ fp)) S pa ca va wa cv (k + 1 + 9) := by
      refine ⟨⟨.inl lw.pp, .inl lw.pv, .inl lw.pw', fun z => z.elim lw.nca fun z => nSI (z ▸ lw.sc), .inl lw.sp, .inl lw.sc, .inl lw.sv, .inl lw.sw, h0p, h0v, h0w, ne, d2, d3, d4, d5, d6, cells⟩, okk, fun h h' x kk => hSfr h h' x fun b hb ob eb => ?_⟩
      exact kk b ob (fun z => hfpP b hb (z ▸ lw.pp)) (fun z => hfpP b hb (z ▸ lw.pv)) (fun z => hfpP b hb (z ▸ lw.pw')) eb
    have KF : KD (c.on (fun z => P2 z ∨ z = I) (fun _ => True) (fun z => S2 z ∨ z ∈ fp)) lawScope.names := ⟨K.kd, fun x e => by obtain ⟨a, h1, _⟩ := K.cs x e; rw [cells x] at h1; cases h1⟩
    exact law_turn (k := k + 1) F KF hc hlen (by omega) v2 v3 (by omega) v4 v5 (v6.upd (by decide) (by decide) (by decide)) st' rd' fun a' ρ'' h' tk w1 w2 w3 w4 w5 w6 st'' rd'' ext => hQ' a' ρ'' h' tk ⟨by omega, w2, w3, w4, w5, w6⟩ st'' rd'' ext
  · intro a ρ' h' tk ⟨v1, v2, v3, v4, v5, v6⟩ st' rd' ext
    obtain ⟨n, vs, ws, ds, ns, Ws⟩ := a
    dsimp only at v1 v2 v3 v4 v5 v6 rd'
    have l1 := v5.l1
    have l2 := v5.l2
    have l3 := v5.l3
    obtain ⟨y0, y1, y2, rfl⟩ := len3 v2
    obtain ⟨z0, z1, z2, rfl⟩ := len3 v3
    obtain ⟨d0', d1', d2', rfl⟩ := len3 l1
    obtain ⟨x0, x1, x2, rfl⟩ := len3 l2
    obtain ⟨W0, W1, W2, rfl⟩ := len3 l3
    have T : T3 d0' d1' d2' x0 x1 x2 W0 W1 W2 := ⟨v5.num 0 (by decide), v5.num 1 (by decide), v5.num 2 (by decide), v5.dn 0 (by decide), v5.dn 1 (by decide), v5.dn 2 (by decide)⟩
    rw [exec_if_cons]
    refine wpAny_bind (wpAny_standAt (wpAny_bind (TrJ.eqLit (c := (c.on P2 (fun _ => True) S2).wi (JJ pa ca va wa cv ⟨n, [y0, y1, y2], [z0, z1, z2], [d0', d1', d2'], [x0, x1, x2], [W0, W1, W2]⟩)) (J := JJ pa ca va wa cv ⟨n + 1, [y0, y1, y2], [z0, z1, z2], [d0', d1', d2'], [x0, x1, x2], [W0, W1, W2]⟩)
      (evDraw (k := k + 9) (n := n) (many := 3) lw.pen (okJ _) hc hlen (K.gl (by decide)) (fun h i => i.1) (fun h h' i e p => i.pen lw e p) v6.pen Ev.int (by omega) (by decide) (bits_mono (bits_lit (m := 2) (by decide)) (by decide))) (by with_unfolding_all rfl) _ _ st' fun b h8 t8 s8 e8 => ?_)))
    have rd8 : RdAll P2 h8 [y0, y1, y2] [d0', d1', d2'] := rd'.ext e8
    obtain ⟨j1, j2, j3⟩ := s8.inv
    cases b with
    | false => exact fin h8 t8 _ (n + 1) [y0, y1, y2] [z0, z1, z2] d0' d1' d2' x0 x1 x2 W0 W1 W2 ρ' (by omega) s8 v6 j1 (pll_isl j2) rd8 (pll_isl j3) v4 T
    | true =>
      refine wpAny_execs_cons (setJ (c := (c.on P2 (fun _ => True) S2).wi (JJ pa ca va wa cv ⟨n + 1, [y0, y1, y2], [z0, z1, z2], [d0', d1', d2'], [x0, x1, x2], [W0, W1, W2]⟩)) (items := #[y0, y1, y2]) (v := y0) (okJ _) v6.vs (fun h i => pll_isl i.2.1) (by decide) rfl (by decide) (by simp) (by simp) s8 fun h9 h10 t10 s9 e9 hl10 sb10 => ?_)
      obtain ⟨i1, i2, i3⟩ := s9.inv
      have hl10' : h10.IsList va #[y0, y1, y0] := hl10
      let J10 : Heap → Prop := fun h => Pen pa ca cv (n + 1) h ∧ h.IsList va #[y0, y1, y0] ∧ h.IsList wa #[z0, z1, z2]
      have k10 : ∀ b ob, b ≠ va → h9.get? b = some ob → h10.get? b = some ob := fun b ob nb e => (sb10.2 b nb).trans e
      have s10 : St ((c.on P2 (fun _ => True) S2).wi J10) h10 ρ' := St.hid (c := (c.on P2 (fun _ => True) S2).wi (JJ pa ca va wa cv ⟨n + 1, [y0, y1, y2], [z0, z1, z2], [d0', d1', d2'], [x0, x1, x2], [W0, W1, W2]⟩)) (fun b => b = va) (fun b z => .inr (.inr (.inl z))) (fun b z => z ▸ h0v) (fun z => Lv z) (fun x b e => by have := cells x; rw [show c.env.cells.lookup x = some b from e] at this; cases this) s9 (fun b ob nb e => k10 b ob nb e)
        (fun b z => by obtain ⟨ob, e, _⟩ := hl10'; exact ⟨ob, z ▸ e⟩) ⟨i1.ext fun z ob hz e => k10 z ob (hz.elim (fun q => q ▸ d2) fun q => q ▸ d5) e, hl10', isl_at (pll_isl i3) fun ob e => k10 _ _ (Ne.symm d4) e⟩
      have ok10 : ((c.on P2 (fun _ => True) S2).wi J10).Ok (k + 10) := ok2 J10 fun h h' i kk => ⟨i.1.ext fun z ob hz e => kk z ob (hz.elim .inl fun q => .inr (.inl q)) e, isl_at i.2.1 fun ob e => kk _ ob (.inr (.inr (.inl rfl))) e, isl_at i.2.2 fun ob e => kk _ ob (.inr (.inr (.inr rfl))) e⟩
      refine wpAny_execs_cons (setJ (c := (c.on P2 (fun _ => True) S2).wi J10) (items := #[z0, z1, z2]) (v := z0) ok10 v6.ws (fun h i => i.2.2) (by decide) rfl (by decide) (by simp) (by simp) s10 fun h11 h12 t12 s11 e11 hl12 sb12 => ?_)
      obtain ⟨q1, q2, q3⟩ := s11.inv
      have hl12' : h12.IsList wa #[z0, z1, z0] := hl12
      have k12 : ∀ b ob, b ≠ wa → h11.get? b = some ob → h12.get? b = some ob := fun b ob nb e => (sb12.2 b nb).trans e
      have s12 : St ((c.on P2 (fun _ => True) S2).wi (fun _ => True)) h12 ρ' := St.hid (c := (c.on P2 (fun _ => True) S2).wi J10) (fun b => b = wa) (fun b z => .inr (.inr (.inr z))) (fun b z => z ▸ h0w) (fun z => Lx z) (fun x b e => by have := cells x; rw [show c.env.cells.lookup x = some b from e] at this; cases this) s11 (fun b ob nb e => k12 b ob nb e)
        (fun b z => by obtain ⟨ob, e, _⟩ := hl12'; exact ⟨ob, z ▸ e⟩) trivial
      have ex9 : Ext P2 h9 h10 := fun b ob nb e => k10 b ob (fun z => nb (.inr (.inr (.inl z)))) e
      have ex11 : Ext P2 h11 h12 := fun b ob nb e => k12 b ob (fun z => nb (.inr (.inr (.inr z)))) e
      have rd12 : RdAll P2 h12 [y0, y1, y2] [d0', d1', d2'] := (((rd8.ext e9).ext ex9).ext e11).ext ex11
      have rdf : RdAll P2 h12 [y0, y1, y0] [d0', d1', d0'] := by
        cases rd12 with
        | cons r0 rr =>
          cases rr with
          | cons r1 rr => exact .cons r0 (.cons r1 (.cons r0 .nil))
      have cW : Cells [W0, W1, W0] [z0, z1, z0].toArray := fun P hp => by
        have := v4 P hp
        cases this with
        | cons r0 rr =>
          cases rr with
          | cons r1 rr => exact .cons r0 (.cons r1 (.cons r0 .nil))
      exact fin h12 t12 _ (n + 1) [y0, y1, y0] [z0, z1, z0] d0' d1' d0' x0 x1 x0 W0 W1 W0 ρ' (by omega) s12 v6 (q1.ext fun z ob hz e => k12 z ob (hz.elim (fun q => q ▸ d3) fun q => q ▸ d6) e) (isl_at q2 fun ob e => k12 _ _ d4 e) rdf hl12' cW ⟨T.n0, T.n1, T.n0, T.g0, T.g1, T.g0⟩
end
end
-- part X26
section
theorem ints_rd {P : Addr → Prop} {h : Heap} : ∀ {vs : List Value} {ns : List Int}, IntsAre vs ns → RdAll P h vs (ns.map .int)
  | _, _, .nil => .nil
  | _, _, .cons n t x => .cons (.int n t) (ints_rd x)
theorem law_at {w : World} {s₁ : Shared} {h₁ : Heap} {L fa a : Addr} {cd : Value} {m : Str → Option Value} {tk : Nat} {ns : List Int} {vs : List Value} {lo : List Str} {mg mb : Str → Option Value} {mean : ExcName → Option Value} {name : Str} {scope : Scope} {Q : Flow → Shared → Prop} {E : Value → Shared → Prop}
    (KX : (KW w).In s₁.heap) (T : Top hd.view_39 lo mean mg mb s₁.heap) (F : Fr s₁.heap L h₁ m) (hL : L = s₁.heap.objs.size) (hm : m (Str.ofString "script") = some (.ref a)) (hl : s₁.heap.IsList a vs.toArray) (hi : IntsAre vs ns) (hlen : ns.length ≤ 63)
    (hsc : scope = lawScope) (hQ : ∀ h' tk m', Fr s₁.heap L h' m' → Q (.ret (.bool true)) { s₁ with heap := h', toks := tk }) :
    wpAny (model pw w) (callerA.deeper (envOf name scope L fa cd)) (execs lawBody (envOf name scope L fa cd)) Q E { s₁ with heap := h₁, toks := tk } := by
  subst hsc
  have G : Gl w s₁.heap := ⟨KX, lo, mg, mb, mean, T⟩
  have h0L : s₁.heap.get? L = none := by
    cases q : s₁.heap.get? L with
    | none => rfl
    | some ob => exact absurd (Heap.lt_size q) (by rw [hL]; exact Nat.lt_irrefl _)
  let c : Cx := { w := w, A := callerA.deeper (envOf name lawScope L fa cd), h₀ := s₁.heap, env := envOf name lawScope L fa cd, P := fun z => z = L, I := fun _ => True, S := fun _ => False }
  have o : c.Ok (0 + 10) := {
    gl := G
    room := ⟨rfl, by show 1 + claimMargin + 1 + 2 * (0 + 10) + 2 ≤ 1000; decide, by show 4 + 3 + 12 * (0 + 10) + 100 ≤ 9900; decide⟩
    fn := rfl
    eg := rfl
    eb := rfl
    PL := rfl
    Pc := fun x a e => by cases e
    hL := h0L
    hc := fun x a e => by cases e
    apart := fun x a e => by cases e
    inj := fun x y a e => by cases e
    inv := fun _ _ _ _ => trivial
    SL := fun z => z }
  have K : KD c lawScope.names := ⟨fun x y e => e, fun x e => by
    exfalso
    have : ∀ p ∈ lawScope.names, p.2 ≠ .cell := by decide
    have hm := mem_of_lookup e
    exact this _ hm rfl⟩
  have aL : a ≠ L := by obtain ⟨ob, e, _⟩ := hl; rw [hL]; exact Nat.ne_of_lt (Heap.lt_size e)
  have st : St c h₁ (upd emp (Str.ofString "script") (.lst (ns.map .int))) := {
    keep := F.keep
    PB := fun z hz => by obtain ⟨ob, _, _, e, _⟩ := F.ns; exact ⟨ob, hz ▸ e⟩
    SB := fun z hz => hz.elim
    inv := trivial
    vars := ⟨m, fun _ => none, F.ns, (fun x a e => by cases e), fun y d e => by
      unfold upd emp at e
      split at e
      · rename_i hy
        cases e
        subst hy
        refine ⟨_, ⟨by decide, .inl ⟨K.kd _ _ (by decide), hm⟩⟩, .lst (vs := vs) (isl_at hl fun ob e => F.keep _ _ e) aL (ints_rd hi)⟩
      · cases e⟩ }
  refine noE (law_main (c := c) (k := 0) o K rfl rfl (fun x => rfl) hlen st upd_same fun h' tk' m' stay nsx => ?_)
  exact hQ h' tk' m' ⟨nsx, stay, by rw [hL]; exact Nat.le_refl _⟩
end
-- part X27
section
theorem cond63 {n : Nat} (h : ¬ ((63 : Nat) : Int) < (n : Int)) : n ≤ 63 := by omega
theorem law_post (args ds : List WData) : PySem.Challenge.rw_nn0199_01.row.claim.post args (.bool true) ds = true := by
  first
  | (show (WShape.has _ _ _ && WTm.holds _ _ _) = true; rfl)
  | (with_unfolding_all rfl)
theorem law_raises (args : List WData) (cls : ExcName) : PySem.Challenge.rw_nn0199_01.row.claim.raises args cls = false := rfl
end
end Mine
set_option maxHeartbeats 8000000 in
theorem PySem.Challenge.cw_nn0199_01_holds : PySem.Challenge.rw_nn0199_01.Holds := by
  w_on
  refine holds_law Mine.hd.said fun said => ?_
  refine holds_open (q := Mine.hd.view_39) (loose := [Str.ofString "PaperError"]) (Xt := fun s => xlAt Mine.hd.view_39 [] s && recOk (RowW.records PySem.Challenge.rw_nn0199_01.row.toRowW) s) (XP := XL Mine.hd.view_39 []) (Yf := Hook.obs Mine.hd.hook) (Ya := Hook.val Mine.hd.hook) (YP := Hook.says Mine.hd.hook) (N := 3486)
    Mine.hd.left (Hook.of Mine.hd.hook) (Hook.keeps Mine.hd.hook) (fun s e => xl_of s (Bool.and_eq_true_iff.mp e).1) XL.keeps (by rfl) (by rfl) (by rfl) (fun s e => recFacts_of (Bool.and_eq_true_iff.mp e).2) (by rfl) said (by decide +kernel) ⟨rfl, rfl, rfl, rfl, rfl, by decide +kernel⟩ ?hw ?hc
  case hw => w_witness2
  case hc =>
    clear said
    k_go0
    rename Fr _ _ _ _ => F
    rename Top _ _ _ _ _ _ => T
    rename IntsAre _ _ => hI
    rename (Shared.gens _ = _) => hg
    refine Mine.law_at (by assumption) T F rfl rfl (by assumption) hI (Mine.cond63 (by assumption)) rfl fun h' tk m' F' => ?_
    exact goodW_bool F' hg (Mine.law_raises _) (Mine.law_post _ _)
