import PyProof.Rows.All
import Wide.All
import OpenK.AllK
import Wide.FinOn
import PySem.Challenge.RW_nu0084_01
set_option Elab.async false
set_option compiler.extract_closed false
set_option maxRecDepth 100000
set_option maxHeartbeats 8000000
set_option rowWalk.seconds 0
set_option linter.all false
namespace Mine

section
open PySem PySem.W PySem.Calls PySem.Spec PyProof.Rows

/- the statement at place i of the text's top, and the statement at place j of a class's body there -/
noncomputable abbrev cell (i : Nat) : Option Stmt := PySem.Challenge.pw_nu0084_01.main.body[i]?
noncomputable abbrev methOf (s : Option Stmt) (j : Nat) : Option Stmt := match s with
  | some (.ClassDef _ _ _ b _ _ _ _ _ _ _) => b[j]?
  | _ => none
noncomputable abbrev meth (i j : Nat) : Option Stmt := methOf (cell i) j
abbrev isFn (s : Option Stmt) (a : Arguments) (b : List Stmt) (sc : Scope) : Prop := ∃ n d r t ts bi p, s = some (.FunctionDef n a b d r t sc ts bi p)

abbrev hd.PartTy {a29 : Arguments} {b29 : List Stmt} {s29 : Scope} {a61 : Arguments} {b61 : List Stmt} {s61 : Scope} {a80 : Arguments} {b80 : List Stmt} {s80 : Scope} {a101 : Arguments} {b101 : List Stmt} {s101 : Scope} {a122 : Arguments} {b122 : List Stmt} {s122 : Scope} {a143 : Arguments} {b143 : List Stmt} {s143 : Scope} {a164 : Arguments} {b164 : List Stmt} {s164 : Scope} {a171 : Arguments} {b171 : List Stmt} {s171 : Scope} {a178 : Arguments} {b178 : List Stmt} {s178 : Scope} {a185 : Arguments} {b185 : List Stmt} {s185 : Scope} {a192 : Arguments} {b192 : List Stmt} {s192 : Scope} {a199 : Arguments} {b199 : List Stmt} {s199 : Scope} {a206 : Arguments} {b206 : List Stmt} {s206 : Scope} {a220 : Arguments} {b220 : List Stmt} {s220 : Scope} {a227 : Arguments} {b227 : List Stmt} {s227 : Scope} {a234 : Arguments} {b234 : List Stmt} {s234 : Scope} {a241 : Arguments} {b241 : List Stmt} {s241 : Scope} {a248 : Arguments} {b248 : List Stmt} {s248 : Scope} {a255 : Arguments} {b255 : List Stmt} {s255 : Scope} {a262 : Arguments} {b262 : List Stmt} {s262 : Scope} {a269 : Arguments} {b269 : List Stmt} {s269 : Scope} {a276 : Arguments} {b276 : List Stmt} {s276 : Scope} {a283 : Arguments} {b283 : List Stmt} {s283 : Scope} {a290 : Arguments} {b290 : List Stmt} {s290 : Scope} {a297 : Arguments} {b297 : List Stmt} {s297 : Scope} {a304 : Arguments} {b304 : List Stmt} {s304 : Scope} {a311 : Arguments} {b311 : List Stmt} {s311 : Scope} {a318 : Arguments} {b318 : List Stmt} {s318 : Scope} {a325 : Arguments} {b325 : List Stmt} {s325 : Scope} {a330 : Arguments} {b330 : List Stmt} {s330 : Scope} {a337 : Arguments} {b337 : List Stmt} {s337 : Scope} {a344 : Arguments} {b344 : List Stmt} {s344 : Scope} {a351 : Arguments} {b351 : List Stmt} {s351 : Scope} {a358 : Arguments} {b358 : List Stmt} {s358 : Scope} (_ : isFn (meth 1 0) a29 b29 s29) (_ : isFn (meth 3 0) a61 b61 s61) (_ : isFn (meth 15 0) a80 b80 s80) (_ : isFn (meth 16 0) a101 b101 s101) (_ : isFn (meth 17 0) a122 b122 s122) (_ : isFn (meth 18 0) a143 b143 s143) (_ : isFn (meth 19 0) a164 b164 s164) (_ : isFn (meth 19 1) a171 b171 s171) (_ : isFn (meth 19 2) a178 b178 s178) (_ : isFn (meth 19 3) a185 b185 s185) (_ : isFn (meth 19 4) a192 b192 s192) (_ : isFn (meth 19 5) a199 b199 s199) (_ : isFn (meth 19 6) a206 b206 s206) (_ : isFn (cell 20) a220 b220 s220) (_ : isFn (cell 21) a227 b227 s227) (_ : isFn (cell 22) a234 b234 s234) (_ : isFn (cell 23) a241 b241 s241) (_ : isFn (cell 24) a248 b248 s248) (_ : isFn (cell 25) a255 b255 s255) (_ : isFn (cell 26) a262 b262 s262) (_ : isFn (cell 27) a269 b269 s269) (_ : isFn (cell 28) a276 b276 s276) (_ : isFn (cell 29) a283 b283 s283) (_ : isFn (cell 31) a290 b290 s290) (_ : isFn (cell 32) a297 b297 s297) (_ : isFn (cell 33) a304 b304 s304) (_ : isFn (cell 34) a311 b311 s311) (_ : isFn (cell 35) a318 b318 s318) (_ : isFn (cell 36) a325 b325 s325) (_ : isFn (cell 37) a330 b330 s330) (_ : isFn (cell 38) a337 b337 s337) (_ : isFn (cell 39) a344 b344 s344) (_ : isFn (cell 40) a351 b351 s351) (_ : isFn (cell 41) a358 b358 s358) : Type := Params → Frag
noncomputable def hd.heap_39 : Params → Frag :=
  let_mvar% ?a29 := (_ : Arguments); let_mvar% ?b29 := (_ : List Stmt); let_mvar% ?s29 := (_ : Scope);
  let_mvar% ?a61 := (_ : Arguments); let_mvar% ?b61 := (_ : List Stmt); let_mvar% ?s61 := (_ : Scope);
  let_mvar% ?a80 := (_ : Arguments); let_mvar% ?b80 := (_ : List Stmt); let_mvar% ?s80 := (_ : Scope);
  let_mvar% ?a101 := (_ : Arguments); let_mvar% ?b101 := (_ : List Stmt); let_mvar% ?s101 := (_ : Scope);
  let_mvar% ?a122 := (_ : Arguments); let_mvar% ?b122 := (_ : List Stmt); let_mvar% ?s122 := (_ : Scope);
  let_mvar% ?a143 := (_ : Arguments); let_mvar% ?b143 := (_ : List Stmt); let_mvar% ?s143 := (_ : Scope);
  let_mvar% ?a164 := (_ : Arguments); let_mvar% ?b164 := (_ : List Stmt); let_mvar% ?s164 := (_ : Scope);
  let_mvar% ?a171 := (_ : Arguments); let_mvar% ?b171 := (_ : List Stmt); let_mvar% ?s171 := (_ : Scope);
  let_mvar% ?a178 := (_ : Arguments); let_mvar% ?b178 := (_ : List Stmt); let_mvar% ?s178 := (_ : Scope);
  let_mvar% ?a185 := (_ : Arguments); let_mvar% ?b185 := (_ : List Stmt); let_mvar% ?s185 := (_ : Scope);
  let_mvar% ?a192 := (_ : Arguments); let_mvar% ?b192 := (_ : List Stmt); let_mvar% ?s192 := (_ : Scope);
  let_mvar% ?a199 := (_ : Arguments); let_mvar% ?b199 := (_ : List Stmt); let_mvar% ?s199 := (_ : Scope);
  let_mvar% ?a206 := (_ : Arguments); let_mvar% ?b206 := (_ : List Stmt); let_mvar% ?s206 := (_ : Scope);
  let_mvar% ?a220 := (_ : Arguments); let_mvar% ?b220 := (_ : List Stmt); let_mvar% ?s220 := (_ : Scope);
  let_mvar% ?a227 := (_ : Arguments); let_mvar% ?b227 := (_ : List Stmt); let_mvar% ?s227 := (_ : Scope);
  let_mvar% ?a234 := (_ : Arguments); let_mvar% ?b234 := (_ : List Stmt); let_mvar% ?s234 := (_ : Scope);
  let_mvar% ?a241 := (_ : Arguments); let_mvar% ?b241 := (_ : List Stmt); let_mvar% ?s241 := (_ : Scope);
  let_mvar% ?a248 := (_ : Arguments); let_mvar% ?b248 := (_ : List Stmt); let_mvar% ?s248 := (_ : Scope);
  let_mvar% ?a255 := (_ : Arguments); let_mvar% ?b255 := (_ : List Stmt); let_mvar% ?s255 := (_ : Scope);
  let_mvar% ?a262 := (_ : Arguments); let_mvar% ?b262 := (_ : List Stmt); let_mvar% ?s262 := (_ : Scope);
  let_mvar% ?a269 := (_ : Arguments); let_mvar% ?b269 := (_ : List Stmt); let_mvar% ?s269 := (_ : Scope);
  let_mvar% ?a276 := (_ : Arguments); let_mvar% ?b276 := (_ : List Stmt); let_mvar% ?s276 := (_ : Scope);
  let_mvar% ?a283 := (_ : Arguments); let_mvar% ?b283 := (_ : List Stmt); let_mvar% ?s283 := (_ : Scope);
  let_mvar% ?a290 := (_ : Arguments); let_mvar% ?b290 := (_ : List Stmt); let_mvar% ?s290 := (_ : Scope);
  let_mvar% ?a297 := (_ : Arguments); let_mvar% ?b297 := (_ : List Stmt); let_mvar% ?s297 := (_ : Scope);
  let_mvar% ?a304 := (_ : Arguments); let_mvar% ?b304 := (_ : List Stmt); let_mvar% ?s304 := (_ : Scope);
  let_mvar% ?a311 := (_ : Arguments); let_mvar% ?b311 := (_ : List Stmt); let_mvar% ?s311 := (_ : Scope);
  let_mvar% ?a318 := (_ : Arguments); let_mvar% ?b318 := (_ : List Stmt); let_mvar% ?s318 := (_ : Scope);
  let_mvar% ?a325 := (_ : Arguments); let_mvar% ?b325 := (_ : List Stmt); let_mvar% ?s325 := (_ : Scope);
  let_mvar% ?a330 := (_ : Arguments); let_mvar% ?b330 := (_ : List Stmt); let_mvar% ?s330 := (_ : Scope);
  let_mvar% ?a337 := (_ : Arguments); let_mvar% ?b337 := (_ : List Stmt); let_mvar% ?s337 := (_ : Scope);
  let_mvar% ?a344 := (_ : Arguments); let_mvar% ?b344 := (_ : List Stmt); let_mvar% ?s344 := (_ : Scope);
  let_mvar% ?a351 := (_ : Arguments); let_mvar% ?b351 := (_ : List Stmt); let_mvar% ?s351 := (_ : Scope);
  let_mvar% ?a358 := (_ : Arguments); let_mvar% ?b358 := (_ : List Stmt); let_mvar% ?s358 := (_ : Scope);
  ((fun P => 
((nat_lit 2 : Nat), { cls := Value.none, data := Data.dict #[] }) ::
((nat_lit 3 : Nat), { cls := Value.type "dict", data := Data.dict #[{ hash := PyData.keyHash P (Str.ofString "__name__"), key := Value.str (Str.ofString "__name__") 165, val := Value.str (Str.ofString "law_nu0084_01") 564 }, { hash := PyData.keyHash P (Str.ofString "__doc__"), key := Value.str (Str.ofString "__doc__") 166, val := Value.none }, { hash := PyData.keyHash P (Str.ofString "__package__"), key := Value.str (Str.ofString "__package__") 167, val := Value.none }, { hash := PyData.keyHash P (Str.ofString "__loader__"), key := Value.str (Str.ofString "__loader__") 168, val := Value.builtin "__main__.__loader__#opaque" }, { hash := PyData.keyHash P (Str.ofString "__spec__"), key := Value.str (Str.ofString "__spec__") 169, val := Value.none }, { hash := PyData.keyHash P (Str.ofString "__annotations__"), key := Value.str (Str.ofString "__annotations__") 170, val := Value.ref 6 }, { hash := PyData.keyHash P (Str.ofString "__builtins__"), key := Value.str (Str.ofString "__builtins__") 171, val := Value.ref 4 }, { hash := PyData.keyHash P (Str.ofString "__file__"), key := Value.str (Str.ofString "__file__") 173, val := Value.str (Str.ofString "/claim/cut.py") 172 }, { hash := PyData.keyHash P (Str.ofString "__cached__"), key := Value.str (Str.ofString "__cached__") 174, val := Value.none }, { hash := PyData.keyHash P (Str.ofString "BoardError"), key := Value.str (Str.ofString "BoardError") 216, val := Value.ref 32 }, { hash := PyData.keyHash P (Str.ofString "BadArgument"), key := Value.str (Str.ofString "BadArgument") 232, val := Value.ref 45 }, { hash := PyData.keyHash P (Str.ofString "BadText"), key := Value.str (Str.ofString "BadText") 258, val := Value.ref 64 }, { hash := PyData.keyHash P (Str.ofString "BLANKS"), key := Value.str (Str.ofString "BLANKS") 262, val := Value.str (Str.ofString " \t\x0d\n\x0b") 261 }, { hash := PyData.keyHash P (Str.ofString "SIGNS"), key := Value.str (Str.ofString "SIGNS") 264, val := Value.str (Str.ofString "<|>&;()") 263 }, { hash := PyData.keyHash P (Str.ofString "MOST_ARGUMENTS"), key := Value.str (Str.ofString "MOST_ARGUMENTS") 266, val := Value.int 10 265 }, { hash := PyData.keyHash P (Str.ofString "READ"), key := Value.str (Str.ofString "READ") 268, val := Value.int 0 267 }, { hash := PyData.keyHash P (Str.ofString "WRITE"), key := Value.str (Str.ofString "WRITE") 270, val := Value.int 1 269 }, { hash := PyData.keyHash P (Str.ofString "CREATE"), key := Value.str (Str.ofString "CREATE") 272, val := Value.int 512 271 }, { hash := PyData.keyHash P (Str.ofString "EMPTY"), key := Value.str (Str.ofString "EMPTY") 274, val := Value.int 1024 273 }, { hash := PyData.keyHash P (Str.ofString "AT_END"), key := Value.str (Str.ofString "AT_END") 276, val := Value.int 2048 275 }, { hash := PyData.keyHash P (Str.ofString "INPUT"), key := Value.str (Str.ofString "INPUT") 278, val := Value.int 0 277 }, { hash := PyData.keyHash P (Str.ofString "OUTPUT"), key := Value.str (Str.ofString "OUTPUT") 280, val := Value.int 1 279 }, { hash := PyData.keyHash P (Str.ofString "Run"), key := Value.str (Str.ofString "Run") 309, val := Value.ref 83 }, { hash := PyData.keyHash P (Str.ofString "Redirect"), key := Value.str (Str.ofString "Redirect") 344, val := Value.ref 104 }, { hash := PyData.keyHash P (Str.ofString "Pair"), key := Value.str (Str.ofString "Pair") 377, val := Value.ref 125 }, { hash := PyData.keyHash P (Str.ofString "Back"), key := Value.str (Str.ofString "Back") 406, val := Value.ref 146 }, { hash := PyData.keyHash P (Str.ofString "Scanner"), key := Value.str (Str.ofString "Scanner") 481, val := Value.ref 209 }, { hash := PyData.keyHash P (Str.ofString "fault"), key := Value.str (Str.ofString "fault") 488, val := Value.ref 220 }, { hash := PyData.keyHash P (Str.ofString "parse"), key := Value.str (Str.ofString "parse") 497, val := Value.ref 227 }, { hash := PyData.keyHash P (Str.ofString "parse_line"), key := Value.str (Str.ofString "parse_line") 505, val := Value.ref 234 }, { hash := PyData.keyHash P (Str.ofString "parse_pipe"), key := Value.str (Str.ofString "parse_pipe") 513, val := Value.ref 241 }, { hash := PyData.keyHash P (Str.ofString "parse_redirects"), key := Value.str (Str.ofString "parse_redirects") 523, val := Value.ref 248 }, { hash := PyData.keyHash P (Str.ofString "parse_block"), key := Value.str (Str.ofString "parse_block") 531, val := Value.ref 255 }, { hash := PyData.keyHash P (Str.ofString "parse_command"), key := Value.str (Str.ofString "parse_command") 540, val := Value.ref 262 }, { hash := PyData.keyHash P (Str.ofString "text_of"), key := Value.str (Str.ofString "text_of") 549, val := Value.ref 269 }, { hash := PyData.keyHash P (Str.ofString "grouped"), key := Value.str (Str.ofString "grouped") 556, val := Value.ref 276 }, { hash := PyData.keyHash P (Str.ofString "piped"), key := Value.str (Str.ofString "piped") 563, val := Value.ref 283 }, { hash := PyData.keyHash P (Str.ofString "_law_pool"), key := Value.str (Str.ofString "_law_pool") 574, val := Value.ref 290 }, { hash := PyData.keyHash P (Str.ofString "_law_take"), key := Value.str (Str.ofString "_law_take") 583, val := Value.ref 297 }, { hash := PyData.keyHash P (Str.ofString "_law_marks"), key := Value.str (Str.ofString "_law_marks") 593, val := Value.ref 304 }, { hash := PyData.keyHash P (Str.ofString "_law_cut"), key := Value.str (Str.ofString "_law_cut") 604, val := Value.ref 311 }, { hash := PyData.keyHash P (Str.ofString "_law_line"), key := Value.str (Str.ofString "_law_line") 617, val := Value.ref 318 }, { hash := PyData.keyHash P (Str.ofString "_law_pipe"), key := Value.str (Str.ofString "_law_pipe") 627, val := Value.ref 325 }, { hash := PyData.keyHash P (Str.ofString "_law_one"), key := Value.str (Str.ofString "_law_one") 633, val := Value.ref 330 }, { hash := PyData.keyHash P (Str.ofString "_law_shape"), key := Value.str (Str.ofString "_law_shape") 641, val := Value.ref 337 }, { hash := PyData.keyHash P (Str.ofString "_law_right"), key := Value.str (Str.ofString "_law_right") 650, val := Value.ref 344 }, { hash := PyData.keyHash P (Str.ofString "_law_made"), key := Value.str (Str.ofString "_law_made") 662, val := Value.ref 351 }, { hash := PyData.keyHash P (Str.ofString "law"), key := Value.str (Str.ofString "law") 673, val := Value.ref 358 }] 48 }) ::
((nat_lit 15 : Nat), { cls := Value.type "tuple", data := Data.seq #[Value.type "ValueError"] }) ::
((nat_lit 22 : Nat), { cls := Value.type "tuple", data := Data.seq #[Value.str (Str.ofString "") 201] }) ::
((nat_lit 23 : Nat), { cls := Value.type "tuple", data := Data.seq #[] }) ::
((nat_lit 25 : Nat), { cls := Value.type "tuple", data := Data.seq #[Value.str (Str.ofString "self") 205, Value.str (Str.ofString "reason") 206] }) ::
((nat_lit 26 : Nat), { cls := Value.type "tuple", data := Data.seq #[] }) ::
((nat_lit 28 : Nat), { cls := Value.type "code", data := Data.fields #[Value.str (Str.ofString "__init__") 202, Value.str (Str.ofString "BoardError.__init__") 203, Value.str (Str.ofString "/claim/cut.py") 204, Value.int 4 0, Value.int 2 0, Value.int 0 0, Value.int 0 0, Value.int 3 0, Value.ref 23, Value.bool true, Value.int 181 0, Value.ref 24, Value.none, Value.ref 25, Value.ref 26, Value.ref 27, Value.int 207 0, Value.int 4 0, Value.str (Str.ofString "/claim/cut.py") 208] }) ::
((nat_lit 29 : Nat), { cls := Value.type "function", data := Data.func { name := Str.ofString "__init__", qualname := Str.ofString "BoardError.__init__", params := ?a29, body := FuncBody.stmts ?b29, scope := ?s29, globals := 3, closure := [], defaults := Value.ref 22, kwdefaults := Value.none, pyModule := Value.str (Str.ofString "pipeboard.errors") 187, code := Value.ref 28 } }) ::
((nat_lit 30 : Nat), { cls := Value.type "tuple", data := Data.seq #[Value.str (Str.ofString "reason") 210] }) ::
((nat_lit 31 : Nat), { cls := Value.type "dict", data := Data.dict #[{ hash := PyData.keyHash P (Str.ofString "__module__"), key := Value.str (Str.ofString "__module__") 196, val := Value.str (Str.ofString "pipeboard.errors") 187 }, { hash := PyData.keyHash P (Str.ofString "__firstlineno__"), key := Value.str (Str.ofString "__firstlineno__") 200, val := Value.int 2 199 }, { hash := PyData.keyHash P (Str.ofString "__init__"), key := Value.str (Str.ofString "__init__") 209, val := Value.ref 29 }, { hash := PyData.keyHash P (Str.ofString "__static_attributes__"), key := Value.str (Str.ofString "__static_attributes__") 211, val := Value.ref 30 }, { hash := PyData.keyHash P (Str.ofString "__weakref__"), key := Value.str (Str.ofString "__weakref__") 213, val := Value.ref 33 }, { hash := PyData.keyHash P (Str.ofString "__doc__"), key := Value.str (Str.ofString "__doc__") 214, val := Value.none }] 3 }) ::
((nat_lit 32 : Nat), { cls := Value.type "type", data := Data.cls { name := Str.ofString "BoardError", bases := [Value.type "ValueError"], mro := [Value.ref 32, Value.type "ValueError", Value.type "Exception", Value.type "BaseException", Value.type "object"], ns := 31, qualname := Str.ofString "BoardError", subclasses := [Value.ref 45, Value.ref 64] }, slots := #[some (Value.ref 15), none, some (Value.str (Str.ofString "BoardError") 189), some (Value.str (Str.ofString "BoardError") 197), some (Value.builtin "ValueError.__new__"), some (Value.bool true)] }) ::
((nat_lit 33 : Nat), { cls := Value.type "getset_descriptor", data := Data.fields #[Value.str (Str.ofString "__weakref__") 212, Value.ref 32, Value.builtin "ExceptionGroup.__weakref__", Value.none] }) ::
((nat_lit 36 : Nat), { cls := Value.type "tuple", data := Data.seq #[Value.ref 32] }) ::
((nat_lit 43 : Nat), { cls := Value.type "tuple", data := Data.seq #[] }) ::
((nat_lit 44 : Nat), { cls := Value.type "dict", data := Data.dict #[{ hash := PyData.keyHash P (Str.ofString "__module__"), key := Value.str (Str.ofString "__module__") 224, val := Value.str (Str.ofString "pipeboard.errors") 187 }, { hash := PyData.keyHash P (Str.ofString "__firstlineno__"), key := Value.str (Str.ofString "__firstlineno__") 228, val := Value.int 7 227 }, { hash := PyData.keyHash P (Str.ofString "__static_attributes__"), key := Value.str (Str.ofString "__static_attributes__") 229, val := Value.ref 43 }, { hash := PyData.keyHash P (Str.ofString "__doc__"), key := Value.str (Str.ofString "__doc__") 230, val := Value.none }] 2 }) ::
((nat_lit 45 : Nat), { cls := Value.type "type", data := Data.cls { name := Str.ofString "BadArgument", bases := [Value.ref 32], mro := [Value.ref 45, Value.ref 32, Value.type "ValueError", Value.type "Exception", Value.type "BaseException", Value.type "object"], ns := 44, qualname := Str.ofString "BadArgument" }, slots := #[some (Value.ref 36), none, some (Value.str (Str.ofString "BadArgument") 217), some (Value.str (Str.ofString "BadArgument") 225), some (Value.builtin "ValueError.__new__"), some (Value.bool true)] }) ::
((nat_lit 48 : Nat), { cls := Value.type "tuple", data := Data.seq #[Value.ref 32] }) ::
((nat_lit 55 : Nat), { cls := Value.type "tuple", data := Data.seq #[] }) ::
((nat_lit 57 : Nat), { cls := Value.type "tuple", data := Data.seq #[Value.str (Str.ofString "self") 248, Value.str (Str.ofString "line") 249, Value.str (Str.ofString "reason") 250] }) ::
((nat_lit 58 : Nat), { cls := Value.type "tuple", data := Data.seq #[] }) ::
((nat_lit 60 : Nat), { cls := Value.type "code", data := Data.fields #[Value.str (Str.ofString "__init__") 245, Value.str (Str.ofString "BadText.__init__") 246, Value.str (Str.ofString "/claim/cut.py") 247, Value.int 11 0, Value.int 3 0, Value.int 0 0, Value.int 0 0, Value.int 3 0, Value.ref 55, Value.bool true, Value.int 181 0, Value.ref 56, Value.none, Value.ref 57, Value.ref 58, Value.ref 59, Value.int 251 0, Value.int 11 0, Value.str (Str.ofString "/claim/cut.py") 252] }) ::
((nat_lit 61 : Nat), { cls := Value.type "function", data := Data.func { name := Str.ofString "__init__", qualname := Str.ofString "BadText.__init__", params := ?a61, body := FuncBody.stmts ?b61, scope := ?s61, globals := 3, closure := [], defaults := Value.none, kwdefaults := Value.none, pyModule := Value.str (Str.ofString "pipeboard.errors") 187, code := Value.ref 60 } }) ::
((nat_lit 62 : Nat), { cls := Value.type "tuple", data := Data.seq #[Value.str (Str.ofString "line") 254] }) ::
((nat_lit 63 : Nat), { cls := Value.type "dict", data := Data.dict #[{ hash := PyData.keyHash P (Str.ofString "__module__"), key := Value.str (Str.ofString "__module__") 240, val := Value.str (Str.ofString "pipeboard.errors") 187 }, { hash := PyData.keyHash P (Str.ofString "__firstlineno__"), key := Value.str (Str.ofString "__firstlineno__") 244, val := Value.int 9 243 }, { hash := PyData.keyHash P (Str.ofString "__init__"), key := Value.str (Str.ofString "__init__") 253, val := Value.ref 61 }, { hash := PyData.keyHash P (Str.ofString "__static_attributes__"), key := Value.str (Str.ofString "__static_attributes__") 255, val := Value.ref 62 }, { hash := PyData.keyHash P (Str.ofString "__doc__"), key := Value.str (Str.ofString "__doc__") 256, val := Value.none }] 2 }) ::
((nat_lit 64 : Nat), { cls := Value.type "type", data := Data.cls { name := Str.ofString "BadText", bases := [Value.ref 32], mro := [Value.ref 64, Value.ref 32, Value.type "ValueError", Value.type "Exception", Value.type "BaseException", Value.type "object"], ns := 63, qualname := Str.ofString "BadText" }, slots := #[some (Value.ref 48), none, some (Value.str (Str.ofString "BadText") 233), some (Value.str (Str.ofString "BadText") 241), some (Value.builtin "ValueError.__new__"), some (Value.bool true)] }) ::
((nat_lit 74 : Nat), { cls := Value.type "tuple", data := Data.seq #[] }) ::
((nat_lit 76 : Nat), { cls := Value.type "tuple", data := Data.seq #[Value.str (Str.ofString "self") 296, Value.str (Str.ofString "arguments") 297] }) ::
((nat_lit 77 : Nat), { cls := Value.type "tuple", data := Data.seq #[] }) ::
((nat_lit 79 : Nat), { cls := Value.type "code", data := Data.fields #[Value.str (Str.ofString "__init__") 293, Value.str (Str.ofString "Run.__init__") 294, Value.str (Str.ofString "/claim/cut.py") 295, Value.int 27 0, Value.int 2 0, Value.int 0 0, Value.int 0 0, Value.int 3 0, Value.ref 74, Value.bool true, Value.int 181 0, Value.ref 75, Value.none, Value.ref 76, Value.ref 77, Value.ref 78, Value.int 298 0, Value.int 27 0, Value.str (Str.ofString "/claim/cut.py") 299] }) ::
((nat_lit 80 : Nat), { cls := Value.type "function", data := Data.func { name := Str.ofString "__init__", qualname := Str.ofString "Run.__init__", params := ?a80, body := FuncBody.stmts ?b80, scope := ?s80, globals := 3, closure := [], defaults := Value.none, kwdefaults := Value.none, pyModule := Value.str (Str.ofString "pipeboard.shell") 259, code := Value.ref 79 } }) ::
((nat_lit 81 : Nat), { cls := Value.type "tuple", data := Data.seq #[Value.str (Str.ofString "arguments") 301] }) ::
((nat_lit 82 : Nat), { cls := Value.type "dict", data := Data.dict #[{ hash := PyData.keyHash P (Str.ofString "__module__"), key := Value.str (Str.ofString "__module__") 288, val := Value.str (Str.ofString "pipeboard.shell") 259 }, { hash := PyData.keyHash P (Str.ofString "__firstlineno__"), key := Value.str (Str.ofString "__firstlineno__") 292, val := Value.int 25 291 }, { hash := PyData.keyHash P (Str.ofString "__init__"), key := Value.str (Str.ofString "__init__") 300, val := Value.ref 80 }, { hash := PyData.keyHash P (Str.ofString "__static_attributes__"), key := Value.str (Str.ofString "__static_attributes__") 302, val := Value.ref 81 }, { hash := PyData.keyHash P (Str.ofString "__dict__"), key := Value.str (Str.ofString "__dict__") 304, val := Value.ref 84 }, { hash := PyData.keyHash P (Str.ofString "__weakref__"), key := Value.str (Str.ofString "__weakref__") 306, val := Value.ref 85 }, { hash := PyData.keyHash P (Str.ofString "__doc__"), key := Value.str (Str.ofString "__doc__") 307, val := Value.none }] 4 }) ::
((nat_lit 83 : Nat), { cls := Value.type "type", data := Data.cls { name := Str.ofString "Run", bases := [Value.type "object"], mro := [Value.ref 83, Value.type "object"], ns := 82, qualname := Str.ofString "Run" }, slots := #[none, none, some (Value.str (Str.ofString "Run") 281), some (Value.str (Str.ofString "Run") 289), some (Value.builtin "object.__new__"), some (Value.bool true)] }) ::
((nat_lit 84 : Nat), { cls := Value.type "getset_descriptor", data := Data.fields #[Value.str (Str.ofString "__dict__") 303, Value.ref 83, Value.builtin "function.__dict__", Value.builtin "function.__dict__#set"] }) ::
((nat_lit 85 : Nat), { cls := Value.type "getset_descriptor", data := Data.fields #[Value.str (Str.ofString "__weakref__") 305, Value.ref 83, Value.builtin "ExceptionGroup.__weakref__", Value.none] }) ::
((nat_lit 95 : Nat), { cls := Value.type "tuple", data := Data.seq #[] }) ::
((nat_lit 97 : Nat), { cls := Value.type "tuple", data := Data.seq #[Value.str (Str.ofString "self") 325, Value.str (Str.ofString "command") 326, Value.str (Str.ofString "path") 327, Value.str (Str.ofString "mode") 328, Value.str (Str.ofString "descriptor") 329] }) ::
((nat_lit 98 : Nat), { cls := Value.type "tuple", data := Data.seq #[] }) ::
((nat_lit 100 : Nat), { cls := Value.type "code", data := Data.fields #[Value.str (Str.ofString "__init__") 322, Value.str (Str.ofString "Redirect.__init__") 323, Value.str (Str.ofString "/claim/cut.py") 324, Value.int 31 0, Value.int 5 0, Value.int 0 0, Value.int 0 0, Value.int 3 0, Value.ref 95, Value.bool true, Value.int 181 0, Value.ref 96, Value.none, Value.ref 97, Value.ref 98, Value.ref 99, Value.int 330 0, Value.int 31 0, Value.str (Str.ofString "/claim/cut.py") 331] }) ::
((nat_lit 101 : Nat), { cls := Value.type "function", data := Data.func { name := Str.ofString "__init__", qualname := Str.ofString "Redirect.__init__", params := ?a101, body := FuncBody.stmts ?b101, scope := ?s101, globals := 3, closure := [], defaults := Value.none, kwdefaults := Value.none, pyModule := Value.str (Str.ofString "pipeboard.shell") 259, code := Value.ref 100 } }) ::
((nat_lit 102 : Nat), { cls := Value.type "tuple", data := Data.seq #[Value.str (Str.ofString "command") 333, Value.str (Str.ofString "descriptor") 334, Value.str (Str.ofString "mode") 335, Value.str (Str.ofString "path") 336] }) ::
((nat_lit 103 : Nat), { cls := Value.type "dict", data := Data.dict #[{ hash := PyData.keyHash P (Str.ofString "__module__"), key := Value.str (Str.ofString "__module__") 317, val := Value.str (Str.ofString "pipeboard.shell") 259 }, { hash := PyData.keyHash P (Str.ofString "__firstlineno__"), key := Value.str (Str.ofString "__firstlineno__") 321, val := Value.int 29 320 }, { hash := PyData.keyHash P (Str.ofString "__init__"), key := Value.str (Str.ofString "__init__") 332, val := Value.ref 101 }, { hash := PyData.keyHash P (Str.ofString "__static_attributes__"), key := Value.str (Str.ofString "__static_attributes__") 337, val := Value.ref 102 }, { hash := PyData.keyHash P (Str.ofString "__dict__"), key := Value.str (Str.ofString "__dict__") 339, val := Value.ref 105 }, { hash := PyData.keyHash P (Str.ofString "__weakref__"), key := Value.str (Str.ofString "__weakref__") 341, val := Value.ref 106 }, { hash := PyData.keyHash P (Str.ofString "__doc__"), key := Value.str (Str.ofString "__doc__") 342, val := Value.none }] 4 }) ::
((nat_lit 104 : Nat), { cls := Value.type "type", data := Data.cls { name := Str.ofString "Redirect", bases := [Value.type "object"], mro := [Value.ref 104, Value.type "object"], ns := 103, qualname := Str.ofString "Redirect" }, slots := #[none, none, some (Value.str (Str.ofString "Redirect") 310), some (Value.str (Str.ofString "Redirect") 318), some (Value.builtin "object.__new__"), some (Value.bool true)] }) ::
((nat_lit 105 : Nat), { cls := Value.type "getset_descriptor", data := Data.fields #[Value.str (Str.ofString "__dict__") 338, Value.ref 104, Value.builtin "function.__dict__", Value.builtin "function.__dict__#set"] }) ::
((nat_lit 106 : Nat), { cls := Value.type "getset_descriptor", data := Data.fields #[Value.str (Str.ofString "__weakref__") 340, Value.ref 104, Value.builtin "ExceptionGroup.__weakref__", Value.none] }) ::
((nat_lit 116 : Nat), { cls := Value.type "tuple", data := Data.seq #[] }) ::
((nat_lit 118 : Nat), { cls := Value.type "tuple", data := Data.seq #[Value.str (Str.ofString "self") 360, Value.str (Str.ofString "sign") 361, Value.str (Str.ofString "left") 362, Value.str (Str.ofString "right") 363] }) ::
((nat_lit 119 : Nat), { cls := Value.type "tuple", data := Data.seq #[] }) ::
((nat_lit 121 : Nat), { cls := Value.type "code", data := Data.fields #[Value.str (Str.ofString "__init__") 357, Value.str (Str.ofString "Pair.__init__") 358, Value.str (Str.ofString "/claim/cut.py") 359, Value.int 38 0, Value.int 4 0, Value.int 0 0, Value.int 0 0, Value.int 3 0, Value.ref 116, Value.bool true, Value.int 181 0, Value.ref 117, Value.none, Value.ref 118, Value.ref 119, Value.ref 120, Value.int 364 0, Value.int 38 0, Value.str (Str.ofString "/claim/cut.py") 365] }) ::
((nat_lit 122 : Nat), { cls := Value.type "function", data := Data.func { name := Str.ofString "__init__", qualname := Str.ofString "Pair.__init__", params := ?a122, body := FuncBody.stmts ?b122, scope := ?s122, globals := 3, closure := [], defaults := Value.none, kwdefaults := Value.none, pyModule := Value.str (Str.ofString "pipeboard.shell") 259, code := Value.ref 121 } }) ::
((nat_lit 123 : Nat), { cls := Value.type "tuple", data := Data.seq #[Value.str (Str.ofString "left") 367, Value.str (Str.ofString "right") 368, Value.str (Str.ofString "sign") 369] }) ::
((nat_lit 124 : Nat), { cls := Value.type "dict", data := Data.dict #[{ hash := PyData.keyHash P (Str.ofString "__module__"), key := Value.str (Str.ofString "__module__") 352, val := Value.str (Str.ofString "pipeboard.shell") 259 }, { hash := PyData.keyHash P (Str.ofString "__firstlineno__"), key := Value.str (Str.ofString "__firstlineno__") 356, val := Value.int 36 355 }, { hash := PyData.keyHash P (Str.ofString "__init__"), key := Value.str (Str.ofString "__init__") 366, val := Value.ref 122 }, { hash := PyData.keyHash P (Str.ofString "__static_attributes__"), key := Value.str (Str.ofString "__static_attributes__") 370, val := Value.ref 123 }, { hash := PyData.keyHash P (Str.ofString "__dict__"), key := Value.str (Str.ofString "__dict__") 372, val := Value.ref 126 }, { hash := PyData.keyHash P (Str.ofString "__weakref__"), key := Value.str (Str.ofString "__weakref__") 374, val := Value.ref 127 }, { hash := PyData.keyHash P (Str.ofString "__doc__"), key := Value.str (Str.ofString "__doc__") 375, val := Value.none }] 4 }) ::
((nat_lit 125 : Nat), { cls := Value.type "type", data := Data.cls { name := Str.ofString "Pair", bases := [Value.type "object"], mro := [Value.ref 125, Value.type "object"], ns := 124, qualname := Str.ofString "Pair" }, slots := #[none, none, some (Value.str (Str.ofString "Pair") 345), some (Value.str (Str.ofString "Pair") 353), some (Value.builtin "object.__new__"), some (Value.bool true)] }) ::
((nat_lit 126 : Nat), { cls := Value.type "getset_descriptor", data := Data.fields #[Value.str (Str.ofString "__dict__") 371, Value.ref 125, Value.builtin "function.__dict__", Value.builtin "function.__dict__#set"] }) ::
((nat_lit 127 : Nat), { cls := Value.type "getset_descriptor", data := Data.fields #[Value.str (Str.ofString "__weakref__") 373, Value.ref 125, Value.builtin "ExceptionGroup.__weakref__", Value.none] }) ::
((nat_lit 137 : Nat), { cls := Value.type "tuple", data := Data.seq #[] }) ::
((nat_lit 139 : Nat), { cls := Value.type "tuple", data := Data.seq #[Value.str (Str.ofString "self") 393, Value.str (Str.ofString "command") 394] }) ::
((nat_lit 140 : Nat), { cls := Value.type "tuple", data := Data.seq #[] }) ::
((nat_lit 142 : Nat), { cls := Value.type "code", data := Data.fields #[Value.str (Str.ofString "__init__") 390, Value.str (Str.ofString "Back.__init__") 391, Value.str (Str.ofString "/claim/cut.py") 392, Value.int 44 0, Value.int 2 0, Value.int 0 0, Value.int 0 0, Value.int 3 0, Value.ref 137, Value.bool true, Value.int 181 0, Value.ref 138, Value.none, Value.ref 139, Value.ref 140, Value.ref 141, Value.int 395 0, Value.int 44 0, Value.str (Str.ofString "/claim/cut.py") 396] }) ::
((nat_lit 143 : Nat), { cls := Value.type "function", data := Data.func { name := Str.ofString "__init__", qualname := Str.ofString "Back.__init__", params := ?a143, body := FuncBody.stmts ?b143, scope := ?s143, globals := 3, closure := [], defaults := Value.none, kwdefaults := Value.none, pyModule := Value.str (Str.ofString "pipeboard.shell") 259, code := Value.ref 142 } }) ::
((nat_lit 144 : Nat), { cls := Value.type "tuple", data := Data.seq #[Value.str (Str.ofString "command") 398] }) ::
((nat_lit 145 : Nat), { cls := Value.type "dict", data := Data.dict #[{ hash := PyData.keyHash P (Str.ofString "__module__"), key := Value.str (Str.ofString "__module__") 385, val := Value.str (Str.ofString "pipeboard.shell") 259 }, { hash := PyData.keyHash P (Str.ofString "__firstlineno__"), key := Value.str (Str.ofString "__firstlineno__") 389, val := Value.int 42 388 }, { hash := PyData.keyHash P (Str.ofString "__init__"), key := Value.str (Str.ofString "__init__") 397, val := Value.ref 143 }, { hash := PyData.keyHash P (Str.ofString "__static_attributes__"), key := Value.str (Str.ofString "__static_attributes__") 399, val := Value.ref 144 }, { hash := PyData.keyHash P (Str.ofString "__dict__"), key := Value.str (Str.ofString "__dict__") 401, val := Value.ref 147 }, { hash := PyData.keyHash P (Str.ofString "__weakref__"), key := Value.str (Str.ofString "__weakref__") 403, val := Value.ref 148 }, { hash := PyData.keyHash P (Str.ofString "__doc__"), key := Value.str (Str.ofString "__doc__") 404, val := Value.none }] 4 }) ::
((nat_lit 146 : Nat), { cls := Value.type "type", data := Data.cls { name := Str.ofString "Back", bases := [Value.type "object"], mro := [Value.ref 146, Value.type "object"], ns := 145, qualname := Str.ofString "Back" }, slots := #[none, none, some (Value.str (Str.ofString "Back") 378), some (Value.str (Str.ofString "Back") 386), some (Value.builtin "object.__new__"), some (Value.bool true)] }) ::
((nat_lit 147 : Nat), { cls := Value.type "getset_descriptor", data := Data.fields #[Value.str (Str.ofString "__dict__") 400, Value.ref 146, Value.builtin "function.__dict__", Value.builtin "function.__dict__#set"] }) ::
((nat_lit 148 : Nat), { cls := Value.type "getset_descriptor", data := Data.fields #[Value.str (Str.ofString "__weakref__") 402, Value.ref 146, Value.builtin "ExceptionGroup.__weakref__", Value.none] }) ::
((nat_lit 158 : Nat), { cls := Value.type "tuple", data := Data.seq #[] }) ::
((nat_lit 160 : Nat), { cls := Value.type "tuple", data := Data.seq #[Value.str (Str.ofString "self") 422, Value.str (Str.ofString "line") 423] }) ::
((nat_lit 161 : Nat), { cls := Value.type "tuple", data := Data.seq #[] }) ::
((nat_lit 163 : Nat), { cls := Value.type "code", data := Data.fields #[Value.str (Str.ofString "__init__") 419, Value.str (Str.ofString "Scanner.__init__") 420, Value.str (Str.ofString "/claim/cut.py") 421, Value.int 48 0, Value.int 2 0, Value.int 0 0, Value.int 0 0, Value.int 3 0, Value.ref 158, Value.bool true, Value.int 181 0, Value.ref 159, Value.none, Value.ref 160, Value.ref 161, Value.ref 162, Value.int 424 0, Value.int 48 0, Value.str (Str.ofString "/claim/cut.py") 425] }) ::
((nat_lit 164 : Nat), { cls := Value.type "function", data := Data.func { name := Str.ofString "__init__", qualname := Str.ofString "Scanner.__init__", params := ?a164, body := FuncBody.stmts ?b164, scope := ?s164, globals := 3, closure := [], defaults := Value.none, kwdefaults := Value.none, pyModule := Value.str (Str.ofString "pipeboard.shell") 259, code := Value.ref 163 } }) ::
((nat_lit 165 : Nat), { cls := Value.type "tuple", data := Data.seq #[] }) ::
((nat_lit 167 : Nat), { cls := Value.type "tuple", data := Data.seq #[Value.str (Str.ofString "self") 430] }) ::
((nat_lit 168 : Nat), { cls := Value.type "tuple", data := Data.seq #[] }) ::
((nat_lit 170 : Nat), { cls := Value.type "code", data := Data.fields #[Value.str (Str.ofString "blanks") 427, Value.str (Str.ofString "Scanner.blanks") 428, Value.str (Str.ofString "/claim/cut.py") 429, Value.int 52 0, Value.int 1 0, Value.int 0 0, Value.int 0 0, Value.int 3 0, Value.ref 165, Value.bool true, Value.int 181 0, Value.ref 166, Value.none, Value.ref 167, Value.ref 168, Value.ref 169, Value.int 431 0, Value.int 52 0, Value.str (Str.ofString "/claim/cut.py") 432] }) ::
((nat_lit 171 : Nat), { cls := Value.type "function", data := Data.func { name := Str.ofString "blanks", qualname := Str.ofString "Scanner.blanks", params := ?a171, body := FuncBody.stmts ?b171, scope := ?s171, globals := 3, closure := [], defaults := Value.none, kwdefaults := Value.none, pyModule := Value.str (Str.ofString "pipeboard.shell") 259, code := Value.ref 170 } }) ::
((nat_lit 172 : Nat), { cls := Value.type "tuple", data := Data.seq #[] }) ::
((nat_lit 174 : Nat), { cls := Value.type "tuple", data := Data.seq #[Value.str (Str.ofString "self") 437, Value.str (Str.ofString "signs") 438] }) ::
((nat_lit 175 : Nat), { cls := Value.type "tuple", data := Data.seq #[] }) ::
((nat_lit 177 : Nat), { cls := Value.type "code", data := Data.fields #[Value.str (Str.ofString "next_is") 434, Value.str (Str.ofString "Scanner.next_is") 435, Value.str (Str.ofString "/claim/cut.py") 436, Value.int 56 0, Value.int 2 0, Value.int 0 0, Value.int 0 0, Value.int 3 0, Value.ref 172, Value.bool true, Value.int 181 0, Value.ref 173, Value.none, Value.ref 174, Value.ref 175, Value.ref 176, Value.int 439 0, Value.int 56 0, Value.str (Str.ofString "/claim/cut.py") 440] }) ::
((nat_lit 178 : Nat), { cls := Value.type "function", data := Data.func { name := Str.ofString "next_is", qualname := Str.ofString "Scanner.next_is", params := ?a178, body := FuncBody.stmts ?b178, scope := ?s178, globals := 3, closure := [], defaults := Value.none, kwdefaults := Value.none, pyModule := Value.str (Str.ofString "pipeboard.shell") 259, code := Value.ref 177 } }) ::
((nat_lit 179 : Nat), { cls := Value.type "tuple", data := Data.seq #[] }) ::
((nat_lit 181 : Nat), { cls := Value.type "tuple", data := Data.seq #[Value.str (Str.ofString "self") 445] }) ::
((nat_lit 182 : Nat), { cls := Value.type "tuple", data := Data.seq #[] }) ::
((nat_lit 184 : Nat), { cls := Value.type "code", data := Data.fields #[Value.str (Str.ofString "at_end") 442, Value.str (Str.ofString "Scanner.at_end") 443, Value.str (Str.ofString "/claim/cut.py") 444, Value.int 60 0, Value.int 1 0, Value.int 0 0, Value.int 0 0, Value.int 3 0, Value.ref 179, Value.bool true, Value.int 181 0, Value.ref 180, Value.none, Value.ref 181, Value.ref 182, Value.ref 183, Value.int 446 0, Value.int 60 0, Value.str (Str.ofString "/claim/cut.py") 447] }) ::
((nat_lit 185 : Nat), { cls := Value.type "function", data := Data.func { name := Str.ofString "at_end", qualname := Str.ofString "Scanner.at_end", params := ?a185, body := FuncBody.stmts ?b185, scope := ?s185, globals := 3, closure := [], defaults := Value.none, kwdefaults := Value.none, pyModule := Value.str (Str.ofString "pipeboard.shell") 259, code := Value.ref 184 } }) ::
((nat_lit 186 : Nat), { cls := Value.type "tuple", data := Data.seq #[] }) ::
((nat_lit 188 : Nat), { cls := Value.type "tuple", data := Data.seq #[Value.str (Str.ofString "self") 452, Value.str (Str.ofString "found") 453] }) ::
((nat_lit 189 : Nat), { cls := Value.type "tuple", data := Data.seq #[] }) ::
((nat_lit 191 : Nat), { cls := Value.type "code", data := Data.fields #[Value.str (Str.ofString "sign") 449, Value.str (Str.ofString "Scanner.sign") 450, Value.str (Str.ofString "/claim/cut.py") 451, Value.int 64 0, Value.int 1 0, Value.int 0 0, Value.int 0 0, Value.int 3 0, Value.ref 186, Value.bool true, Value.int 181 0, Value.ref 187, Value.none, Value.ref 188, Value.ref 189, Value.ref 190, Value.int 454 0, Value.int 64 0, Value.str (Str.ofString "/claim/cut.py") 455] }) ::
((nat_lit 192 : Nat), { cls := Value.type "function", data := Data.func { name := Str.ofString "sign", qualname := Str.ofString "Scanner.sign", params := ?a192, body := FuncBody.stmts ?b192, scope := ?s192, globals := 3, closure := [], defaults := Value.none, kwdefaults := Value.none, pyModule := Value.str (Str.ofString "pipeboard.shell") 259, code := Value.ref 191 } }) ::
((nat_lit 193 : Nat), { cls := Value.type "tuple", data := Data.seq #[] }) ::
((nat_lit 195 : Nat), { cls := Value.type "tuple", data := Data.seq #[Value.str (Str.ofString "self") 460] }) ::
((nat_lit 196 : Nat), { cls := Value.type "tuple", data := Data.seq #[] }) ::
((nat_lit 198 : Nat), { cls := Value.type "code", data := Data.fields #[Value.str (Str.ofString "is_word") 457, Value.str (Str.ofString "Scanner.is_word") 458, Value.str (Str.ofString "/claim/cut.py") 459, Value.int 72 0, Value.int 1 0, Value.int 0 0, Value.int 0 0, Value.int 3 0, Value.ref 193, Value.bool true, Value.int 181 0, Value.ref 194, Value.none, Value.ref 195, Value.ref 196, Value.ref 197, Value.int 461 0, Value.int 72 0, Value.str (Str.ofString "/claim/cut.py") 462] }) ::
((nat_lit 199 : Nat), { cls := Value.type "function", data := Data.func { name := Str.ofString "is_word", qualname := Str.ofString "Scanner.is_word", params := ?a199, body := FuncBody.stmts ?b199, scope := ?s199, globals := 3, closure := [], defaults := Value.none, kwdefaults := Value.none, pyModule := Value.str (Str.ofString "pipeboard.shell") 259, code := Value.ref 198 } }) ::
((nat_lit 200 : Nat), { cls := Value.type "tuple", data := Data.seq #[] }) ::
((nat_lit 202 : Nat), { cls := Value.type "tuple", data := Data.seq #[Value.str (Str.ofString "self") 467, Value.str (Str.ofString "begin") 468] }) ::
((nat_lit 203 : Nat), { cls := Value.type "tuple", data := Data.seq #[] }) ::
((nat_lit 205 : Nat), { cls := Value.type "code", data := Data.fields #[Value.str (Str.ofString "word") 464, Value.str (Str.ofString "Scanner.word") 465, Value.str (Str.ofString "/claim/cut.py") 466, Value.int 75 0, Value.int 1 0, Value.int 0 0, Value.int 0 0, Value.int 3 0, Value.ref 200, Value.bool true, Value.int 181 0, Value.ref 201, Value.none, Value.ref 202, Value.ref 203, Value.ref 204, Value.int 469 0, Value.int 75 0, Value.str (Str.ofString "/claim/cut.py") 470] }) ::
((nat_lit 206 : Nat), { cls := Value.type "function", data := Data.func { name := Str.ofString "word", qualname := Str.ofString "Scanner.word", params := ?a206, body := FuncBody.stmts ?b206, scope := ?s206, globals := 3, closure := [], defaults := Value.none, kwdefaults := Value.none, pyModule := Value.str (Str.ofString "pipeboard.shell") 259, code := Value.ref 205 } }) ::
((nat_lit 207 : Nat), { cls := Value.type "tuple", data := Data.seq #[Value.str (Str.ofString "line") 472, Value.str (Str.ofString "place") 473] }) ::
((nat_lit 208 : Nat), { cls := Value.type "dict", data := Data.dict #[{ hash := PyData.keyHash P (Str.ofString "__module__"), key := Value.str (Str.ofString "__module__") 414, val := Value.str (Str.ofString "pipeboard.shell") 259 }, { hash := PyData.keyHash P (Str.ofString "__firstlineno__"), key := Value.str (Str.ofString "__firstlineno__") 418, val := Value.int 46 417 }, { hash := PyData.keyHash P (Str.ofString "__init__"), key := Value.str (Str.ofString "__init__") 426, val := Value.ref 164 }, { hash := PyData.keyHash P (Str.ofString "blanks"), key := Value.str (Str.ofString "blanks") 433, val := Value.ref 171 }, { hash := PyData.keyHash P (Str.ofString "next_is"), key := Value.str (Str.ofString "next_is") 441, val := Value.ref 178 }, { hash := PyData.keyHash P (Str.ofString "at_end"), key := Value.str (Str.ofString "at_end") 448, val := Value.ref 185 }, { hash := PyData.keyHash P (Str.ofString "sign"), key := Value.str (Str.ofString "sign") 456, val := Value.ref 192 }, { hash := PyData.keyHash P (Str.ofString "is_word"), key := Value.str (Str.ofString "is_word") 463, val := Value.ref 199 }, { hash := PyData.keyHash P (Str.ofString "word"), key := Value.str (Str.ofString "word") 471, val := Value.ref 206 }, { hash := PyData.keyHash P (Str.ofString "__static_attributes__"), key := Value.str (Str.ofString "__static_attributes__") 474, val := Value.ref 207 }, { hash := PyData.keyHash P (Str.ofString "__dict__"), key := Value.str (Str.ofString "__dict__") 476, val := Value.ref 210 }, { hash := PyData.keyHash P (Str.ofString "__weakref__"), key := Value.str (Str.ofString "__weakref__") 478, val := Value.ref 211 }, { hash := PyData.keyHash P (Str.ofString "__doc__"), key := Value.str (Str.ofString "__doc__") 479, val := Value.none }] 4 }) ::
((nat_lit 209 : Nat), { cls := Value.type "type", data := Data.cls { name := Str.ofString "Scanner", bases := [Value.type "object"], mro := [Value.ref 209, Value.type "object"], ns := 208, qualname := Str.ofString "Scanner" }, slots := #[none, none, some (Value.str (Str.ofString "Scanner") 407), some (Value.str (Str.ofString "Scanner") 415), some (Value.builtin "object.__new__"), some (Value.bool true)] }) ::
((nat_lit 210 : Nat), { cls := Value.type "getset_descriptor", data := Data.fields #[Value.str (Str.ofString "__dict__") 475, Value.ref 209, Value.builtin "function.__dict__", Value.builtin "function.__dict__#set"] }) ::
((nat_lit 211 : Nat), { cls := Value.type "getset_descriptor", data := Data.fields #[Value.str (Str.ofString "__weakref__") 477, Value.ref 209, Value.builtin "ExceptionGroup.__weakref__", Value.none] }) ::
((nat_lit 214 : Nat), { cls := Value.type "tuple", data := Data.seq #[] }) ::
((nat_lit 216 : Nat), { cls := Value.type "tuple", data := Data.seq #[Value.str (Str.ofString "reason") 485] }) ::
((nat_lit 217 : Nat), { cls := Value.type "tuple", data := Data.seq #[] }) ::
((nat_lit 219 : Nat), { cls := Value.type "code", data := Data.fields #[Value.str (Str.ofString "fault") 482, Value.str (Str.ofString "fault") 483, Value.str (Str.ofString "/claim/cut.py") 484, Value.int 81 0, Value.int 1 0, Value.int 0 0, Value.int 0 0, Value.int 3 0, Value.ref 214, Value.bool true, Value.int 181 0, Value.ref 215, Value.none, Value.ref 216, Value.ref 217, Value.ref 218, Value.int 486 0, Value.int 81 0, Value.str (Str.ofString "/claim/cut.py") 487] }) ::
((nat_lit 220 : Nat), { cls := Value.type "function", data := Data.func { name := Str.ofString "fault", qualname := Str.ofString "fault", params := ?a220, body := FuncBody.stmts ?b220, scope := ?s220, globals := 3, closure := [], defaults := Value.none, kwdefaults := Value.none, pyModule := Value.str (Str.ofString "pipeboard.shell") 259, code := Value.ref 219 } }) ::
((nat_lit 221 : Nat), { cls := Value.type "tuple", data := Data.seq #[] }) ::
((nat_lit 223 : Nat), { cls := Value.type "tuple", data := Data.seq #[Value.str (Str.ofString "line") 492, Value.str (Str.ofString "scanner") 493, Value.str (Str.ofString "found") 494] }) ::
((nat_lit 224 : Nat), { cls := Value.type "tuple", data := Data.seq #[] }) ::
((nat_lit 226 : Nat), { cls := Value.type "code", data := Data.fields #[Value.str (Str.ofString "parse") 489, Value.str (Str.ofString "parse") 490, Value.str (Str.ofString "/claim/cut.py") 491, Value.int 83 0, Value.int 1 0, Value.int 0 0, Value.int 0 0, Value.int 3 0, Value.ref 221, Value.bool true, Value.int 181 0, Value.ref 222, Value.none, Value.ref 223, Value.ref 224, Value.ref 225, Value.int 495 0, Value.int 83 0, Value.str (Str.ofString "/claim/cut.py") 496] }) ::
((nat_lit 227 : Nat), { cls := Value.type "function", data := Data.func { name := Str.ofString "parse", qualname := Str.ofString "parse", params := ?a227, body := FuncBody.stmts ?b227, scope := ?s227, globals := 3, closure := [], defaults := Value.none, kwdefaults := Value.none, pyModule := Value.str (Str.ofString "pipeboard.shell") 259, code := Value.ref 226 } }) ::
((nat_lit 228 : Nat), { cls := Value.type "tuple", data := Data.seq #[] }) ::
((nat_lit 230 : Nat), { cls := Value.type "tuple", data := Data.seq #[Value.str (Str.ofString "scanner") 501, Value.str (Str.ofString "found") 502] }) ::
((nat_lit 231 : Nat), { cls := Value.type "tuple", data := Data.seq #[] }) ::
((nat_lit 233 : Nat), { cls := Value.type "code", data := Data.fields #[Value.str (Str.ofString "parse_line") 498, Value.str (Str.ofString "parse_line") 499, Value.str (Str.ofString "/claim/cut.py") 500, Value.int 91 0, Value.int 1 0, Value.int 0 0, Value.int 0 0, Value.int 3 0, Value.ref 228, Value.bool true, Value.int 181 0, Value.ref 229, Value.none, Value.ref 230, Value.ref 231, Value.ref 232, Value.int 503 0, Value.int 91 0, Value.str (Str.ofString "/claim/cut.py") 504] }) ::
((nat_lit 234 : Nat), { cls := Value.type "function", data := Data.func { name := Str.ofString "parse_line", qualname := Str.ofString "parse_line", params := ?a234, body := FuncBody.stmts ?b234, scope := ?s234, globals := 3, closure := [], defaults := Value.none, kwdefaults := Value.none, pyModule := Value.str (Str.ofString "pipeboard.shell") 259, code := Value.ref 233 } }) ::
((nat_lit 235 : Nat), { cls := Value.type "tuple", data := Data.seq #[] }) ::
((nat_lit 237 : Nat), { cls := Value.type "tuple", data := Data.seq #[Value.str (Str.ofString "scanner") 509, Value.str (Str.ofString "found") 510] }) ::
((nat_lit 238 : Nat), { cls := Value.type "tuple", data := Data.seq #[] }) ::
((nat_lit 240 : Nat), { cls := Value.type "code", data := Data.fields #[Value.str (Str.ofString "parse_pipe") 506, Value.str (Str.ofString "parse_pipe") 507, Value.str (Str.ofString "/claim/cut.py") 508, Value.int 100 0, Value.int 1 0, Value.int 0 0, Value.int 0 0, Value.int 3 0, Value.ref 235, Value.bool true, Value.int 181 0, Value.ref 236, Value.none, Value.ref 237, Value.ref 238, Value.ref 239, Value.int 511 0, Value.int 100 0, Value.str (Str.ofString "/claim/cut.py") 512] }) ::
((nat_lit 241 : Nat), { cls := Value.type "function", data := Data.func { name := Str.ofString "parse_pipe", qualname := Str.ofString "parse_pipe", params := ?a241, body := FuncBody.stmts ?b241, scope := ?s241, globals := 3, closure := [], defaults := Value.none, kwdefaults := Value.none, pyModule := Value.str (Str.ofString "pipeboard.shell") 259, code := Value.ref 240 } }) ::
((nat_lit 242 : Nat), { cls := Value.type "tuple", data := Data.seq #[] }) ::
((nat_lit 244 : Nat), { cls := Value.type "tuple", data := Data.seq #[Value.str (Str.ofString "scanner") 517, Value.str (Str.ofString "command") 518, Value.str (Str.ofString "sign") 519, Value.str (Str.ofString "path") 520] }) ::
((nat_lit 245 : Nat), { cls := Value.type "tuple", data := Data.seq #[] }) ::
((nat_lit 247 : Nat), { cls := Value.type "code", data := Data.fields #[Value.str (Str.ofString "parse_redirects") 514, Value.str (Str.ofString "parse_redirects") 515, Value.str (Str.ofString "/claim/cut.py") 516, Value.int 106 0, Value.int 2 0, Value.int 0 0, Value.int 0 0, Value.int 3 0, Value.ref 242, Value.bool true, Value.int 181 0, Value.ref 243, Value.none, Value.ref 244, Value.ref 245, Value.ref 246, Value.int 521 0, Value.int 106 0, Value.str (Str.ofString "/claim/cut.py") 522] }) ::
((nat_lit 248 : Nat), { cls := Value.type "function", data := Data.func { name := Str.ofString "parse_redirects", qualname := Str.ofString "parse_redirects", params := ?a248, body := FuncBody.stmts ?b248, scope := ?s248, globals := 3, closure := [], defaults := Value.none, kwdefaults := Value.none, pyModule := Value.str (Str.ofString "pipeboard.shell") 259, code := Value.ref 247 } }) ::
((nat_lit 249 : Nat), { cls := Value.type "tuple", data := Data.seq #[] }) ::
((nat_lit 251 : Nat), { cls := Value.type "tuple", data := Data.seq #[Value.str (Str.ofString "scanner") 527, Value.str (Str.ofString "found") 528] }) ::
((nat_lit 252 : Nat), { cls := Value.type "tuple", data := Data.seq #[] }) ::
((nat_lit 254 : Nat), { cls := Value.type "code", data := Data.fields #[Value.str (Str.ofString "parse_block") 524, Value.str (Str.ofString "parse_block") 525, Value.str (Str.ofString "/claim/cut.py") 526, Value.int 119 0, Value.int 1 0, Value.int 0 0, Value.int 0 0, Value.int 3 0, Value.ref 249, Value.bool true, Value.int 181 0, Value.ref 250, Value.none, Value.ref 251, Value.ref 252, Value.ref 253, Value.int 529 0, Value.int 119 0, Value.str (Str.ofString "/claim/cut.py") 530] }) ::
((nat_lit 255 : Nat), { cls := Value.type "function", data := Data.func { name := Str.ofString "parse_block", qualname := Str.ofString "parse_block", params := ?a255, body := FuncBody.stmts ?b255, scope := ?s255, globals := 3, closure := [], defaults := Value.none, kwdefaults := Value.none, pyModule := Value.str (Str.ofString "pipeboard.shell") 259, code := Value.ref 254 } }) ::
((nat_lit 256 : Nat), { cls := Value.type "tuple", data := Data.seq #[] }) ::
((nat_lit 258 : Nat), { cls := Value.type "tuple", data := Data.seq #[Value.str (Str.ofString "scanner") 535, Value.str (Str.ofString "program") 536, Value.str (Str.ofString "found") 537] }) ::
((nat_lit 259 : Nat), { cls := Value.type "tuple", data := Data.seq #[] }) ::
((nat_lit 261 : Nat), { cls := Value.type "code", data := Data.fields #[Value.str (Str.ofString "parse_command") 532, Value.str (Str.ofString "parse_command") 533, Value.str (Str.ofString "/claim/cut.py") 534, Value.int 126 0, Value.int 1 0, Value.int 0 0, Value.int 0 0, Value.int 3 0, Value.ref 256, Value.bool true, Value.int 181 0, Value.ref 257, Value.none, Value.ref 258, Value.ref 259, Value.ref 260, Value.int 538 0, Value.int 126 0, Value.str (Str.ofString "/claim/cut.py") 539] }) ::
((nat_lit 262 : Nat), { cls := Value.type "function", data := Data.func { name := Str.ofString "parse_command", qualname := Str.ofString "parse_command", params := ?a262, body := FuncBody.stmts ?b262, scope := ?s262, globals := 3, closure := [], defaults := Value.none, kwdefaults := Value.none, pyModule := Value.str (Str.ofString "pipeboard.shell") 259, code := Value.ref 261 } }) ::
((nat_lit 263 : Nat), { cls := Value.type "tuple", data := Data.seq #[] }) ::
((nat_lit 265 : Nat), { cls := Value.type "tuple", data := Data.seq #[Value.str (Str.ofString "tree") 544, Value.str (Str.ofString "sign") 545, Value.str (Str.ofString "left") 546] }) ::
((nat_lit 266 : Nat), { cls := Value.type "tuple", data := Data.seq #[] }) ::
((nat_lit 268 : Nat), { cls := Value.type "code", data := Data.fields #[Value.str (Str.ofString "text_of") 541, Value.str (Str.ofString "text_of") 542, Value.str (Str.ofString "/claim/cut.py") 543, Value.int 139 0, Value.int 1 0, Value.int 0 0, Value.int 0 0, Value.int 3 0, Value.ref 263, Value.bool true, Value.int 181 0, Value.ref 264, Value.none, Value.ref 265, Value.ref 266, Value.ref 267, Value.int 547 0, Value.int 139 0, Value.str (Str.ofString "/claim/cut.py") 548] }) ::
((nat_lit 269 : Nat), { cls := Value.type "function", data := Data.func { name := Str.ofString "text_of", qualname := Str.ofString "text_of", params := ?a269, body := FuncBody.stmts ?b269, scope := ?s269, globals := 3, closure := [], defaults := Value.none, kwdefaults := Value.none, pyModule := Value.str (Str.ofString "pipeboard.shell") 259, code := Value.ref 268 } }) ::
((nat_lit 270 : Nat), { cls := Value.type "tuple", data := Data.seq #[] }) ::
((nat_lit 272 : Nat), { cls := Value.type "tuple", data := Data.seq #[Value.str (Str.ofString "tree") 553] }) ::
((nat_lit 273 : Nat), { cls := Value.type "tuple", data := Data.seq #[] }) ::
((nat_lit 275 : Nat), { cls := Value.type "code", data := Data.fields #[Value.str (Str.ofString "grouped") 550, Value.str (Str.ofString "grouped") 551, Value.str (Str.ofString "/claim/cut.py") 552, Value.int 151 0, Value.int 1 0, Value.int 0 0, Value.int 0 0, Value.int 3 0, Value.ref 270, Value.bool true, Value.int 181 0, Value.ref 271, Value.none, Value.ref 272, Value.ref 273, Value.ref 274, Value.int 554 0, Value.int 151 0, Value.str (Str.ofString "/claim/cut.py") 555] }) ::
((nat_lit 276 : Nat), { cls := Value.type "function", data := Data.func { name := Str.ofString "grouped", qualname := Str.ofString "grouped", params := ?a276, body := FuncBody.stmts ?b276, scope := ?s276, globals := 3, closure := [], defaults := Value.none, kwdefaults := Value.none, pyModule := Value.str (Str.ofString "pipeboard.shell") 259, code := Value.ref 275 } }) ::
((nat_lit 277 : Nat), { cls := Value.type "tuple", data := Data.seq #[] }) ::
((nat_lit 279 : Nat), { cls := Value.type "tuple", data := Data.seq #[Value.str (Str.ofString "tree") 560] }) ::
((nat_lit 280 : Nat), { cls := Value.type "tuple", data := Data.seq #[] }) ::
((nat_lit 282 : Nat), { cls := Value.type "code", data := Data.fields #[Value.str (Str.ofString "piped") 557, Value.str (Str.ofString "piped") 558, Value.str (Str.ofString "/claim/cut.py") 559, Value.int 153 0, Value.int 1 0, Value.int 0 0, Value.int 0 0, Value.int 3 0, Value.ref 277, Value.bool true, Value.int 181 0, Value.ref 278, Value.none, Value.ref 279, Value.ref 280, Value.ref 281, Value.int 561 0, Value.int 153 0, Value.str (Str.ofString "/claim/cut.py") 562] }) ::
((nat_lit 283 : Nat), { cls := Value.type "function", data := Data.func { name := Str.ofString "piped", qualname := Str.ofString "piped", params := ?a283, body := FuncBody.stmts ?b283, scope := ?s283, globals := 3, closure := [], defaults := Value.none, kwdefaults := Value.none, pyModule := Value.str (Str.ofString "pipeboard.shell") 259, code := Value.ref 282 } }) ::
((nat_lit 284 : Nat), { cls := Value.type "tuple", data := Data.seq #[] }) ::
((nat_lit 286 : Nat), { cls := Value.type "tuple", data := Data.seq #[Value.str (Str.ofString "script") 569, Value.str (Str.ofString "whole") 570, Value.str (Str.ofString "cell") 571] }) ::
((nat_lit 287 : Nat), { cls := Value.type "tuple", data := Data.seq #[] }) ::
((nat_lit 289 : Nat), { cls := Value.type "code", data := Data.fields #[Value.str (Str.ofString "_law_pool") 566, Value.str (Str.ofString "_law_pool") 567, Value.str (Str.ofString "/claim/cut.py") 568, Value.int 158 0, Value.int 1 0, Value.int 0 0, Value.int 0 0, Value.int 3 0, Value.ref 284, Value.bool true, Value.int 181 0, Value.ref 285, Value.none, Value.ref 286, Value.ref 287, Value.ref 288, Value.int 572 0, Value.int 158 0, Value.str (Str.ofString "/claim/cut.py") 573] }) ::
((nat_lit 290 : Nat), { cls := Value.type "function", data := Data.func { name := Str.ofString "_law_pool", qualname := Str.ofString "_law_pool", params := ?a290, body := FuncBody.stmts ?b290, scope := ?s290, globals := 3, closure := [], defaults := Value.none, kwdefaults := Value.none, pyModule := Value.str (Str.ofString "law_nu0084_01") 564, code := Value.ref 289 } }) ::
((nat_lit 291 : Nat), { cls := Value.type "tuple", data := Data.seq #[] }) ::
((nat_lit 293 : Nat), { cls := Value.type "tuple", data := Data.seq #[Value.str (Str.ofString "pool") 578, Value.str (Str.ofString "many") 579, Value.str (Str.ofString "digit") 580] }) ::
((nat_lit 294 : Nat), { cls := Value.type "tuple", data := Data.seq #[] }) ::
((nat_lit 296 : Nat), { cls := Value.type "code", data := Data.fields #[Value.str (Str.ofString "_law_take") 575, Value.str (Str.ofString "_law_take") 576, Value.str (Str.ofString "/claim/cut.py") 577, Value.int 163 0, Value.int 2 0, Value.int 0 0, Value.int 0 0, Value.int 3 0, Value.ref 291, Value.bool true, Value.int 181 0, Value.ref 292, Value.none, Value.ref 293, Value.ref 294, Value.ref 295, Value.int 581 0, Value.int 163 0, Value.str (Str.ofString "/claim/cut.py") 582] }) ::
((nat_lit 297 : Nat), { cls := Value.type "function", data := Data.func { name := Str.ofString "_law_take", qualname := Str.ofString "_law_take", params := ?a297, body := FuncBody.stmts ?b297, scope := ?s297, globals := 3, closure := [], defaults := Value.none, kwdefaults := Value.none, pyModule := Value.str (Str.ofString "law_nu0084_01") 564, code := Value.ref 296 } }) ::
((nat_lit 298 : Nat), { cls := Value.type "tuple", data := Data.seq #[] }) ::
((nat_lit 300 : Nat), { cls := Value.type "tuple", data := Data.seq #[Value.str (Str.ofString "line") 587, Value.str (Str.ofString "found") 588, Value.str (Str.ofString "held") 589, Value.str (Str.ofString "letter") 590] }) ::
((nat_lit 301 : Nat), { cls := Value.type "tuple", data := Data.seq #[] }) ::
((nat_lit 303 : Nat), { cls := Value.type "code", data := Data.fields #[Value.str (Str.ofString "_law_marks") 584, Value.str (Str.ofString "_law_marks") 585, Value.str (Str.ofString "/claim/cut.py") 586, Value.int 170 0, Value.int 1 0, Value.int 0 0, Value.int 0 0, Value.int 3 0, Value.ref 298, Value.bool true, Value.int 181 0, Value.ref 299, Value.none, Value.ref 300, Value.ref 301, Value.ref 302, Value.int 591 0, Value.int 170 0, Value.str (Str.ofString "/claim/cut.py") 592] }) ::
((nat_lit 304 : Nat), { cls := Value.type "function", data := Data.func { name := Str.ofString "_law_marks", qualname := Str.ofString "_law_marks", params := ?a304, body := FuncBody.stmts ?b304, scope := ?s304, globals := 3, closure := [], defaults := Value.none, kwdefaults := Value.none, pyModule := Value.str (Str.ofString "law_nu0084_01") 564, code := Value.ref 303 } }) ::
((nat_lit 305 : Nat), { cls := Value.type "tuple", data := Data.seq #[] }) ::
((nat_lit 307 : Nat), { cls := Value.type "tuple", data := Data.seq #[Value.str (Str.ofString "marks") 597, Value.str (Str.ofString "sign") 598, Value.str (Str.ofString "deep") 599, Value.str (Str.ofString "at") 600, Value.str (Str.ofString "mark") 601] }) ::
((nat_lit 308 : Nat), { cls := Value.type "tuple", data := Data.seq #[] }) ::
((nat_lit 310 : Nat), { cls := Value.type "code", data := Data.fields #[Value.str (Str.ofString "_law_cut") 594, Value.str (Str.ofString "_law_cut") 595, Value.str (Str.ofString "/claim/cut.py") 596, Value.int 182 0, Value.int 2 0, Value.int 0 0, Value.int 0 0, Value.int 3 0, Value.ref 305, Value.bool true, Value.int 181 0, Value.ref 306, Value.none, Value.ref 307, Value.ref 308, Value.ref 309, Value.int 602 0, Value.int 182 0, Value.str (Str.ofString "/claim/cut.py") 603] }) ::
((nat_lit 311 : Nat), { cls := Value.type "function", data := Data.func { name := Str.ofString "_law_cut", qualname := Str.ofString "_law_cut", params := ?a311, body := FuncBody.stmts ?b311, scope := ?s311, globals := 3, closure := [], defaults := Value.none, kwdefaults := Value.none, pyModule := Value.str (Str.ofString "law_nu0084_01") 564, code := Value.ref 310 } }) ::
((nat_lit 312 : Nat), { cls := Value.type "tuple", data := Data.seq #[] }) ::
((nat_lit 314 : Nat), { cls := Value.type "tuple", data := Data.seq #[Value.str (Str.ofString "marks") 608, Value.str (Str.ofString "at") 609, Value.str (Str.ofString "first") 610, Value.str (Str.ofString "backs") 611, Value.str (Str.ofString "shape") 612, Value.str (Str.ofString "turn") 613, Value.str (Str.ofString "rest") 614] }) ::
((nat_lit 315 : Nat), { cls := Value.type "tuple", data := Data.seq #[] }) ::
((nat_lit 317 : Nat), { cls := Value.type "code", data := Data.fields #[Value.str (Str.ofString "_law_line") 605, Value.str (Str.ofString "_law_line") 606, Value.str (Str.ofString "/claim/cut.py") 607, Value.int 194 0, Value.int 1 0, Value.int 0 0, Value.int 0 0, Value.int 3 0, Value.ref 312, Value.bool true, Value.int 181 0, Value.ref 313, Value.none, Value.ref 314, Value.ref 315, Value.ref 316, Value.int 615 0, Value.int 194 0, Value.str (Str.ofString "/claim/cut.py") 616] }) ::
((nat_lit 318 : Nat), { cls := Value.type "function", data := Data.func { name := Str.ofString "_law_line", qualname := Str.ofString "_law_line", params := ?a318, body := FuncBody.stmts ?b318, scope := ?s318, globals := 3, closure := [], defaults := Value.none, kwdefaults := Value.none, pyModule := Value.str (Str.ofString "law_nu0084_01") 564, code := Value.ref 317 } }) ::
((nat_lit 319 : Nat), { cls := Value.type "tuple", data := Data.seq #[] }) ::
((nat_lit 321 : Nat), { cls := Value.type "tuple", data := Data.seq #[Value.str (Str.ofString "marks") 621, Value.str (Str.ofString "at") 622, Value.str (Str.ofString "left") 623, Value.str (Str.ofString "right") 624] }) ::
((nat_lit 322 : Nat), { cls := Value.type "tuple", data := Data.seq #[] }) ::
((nat_lit 324 : Nat), { cls := Value.type "code", data := Data.fields #[Value.str (Str.ofString "_law_pipe") 618, Value.str (Str.ofString "_law_pipe") 619, Value.str (Str.ofString "/claim/cut.py") 620, Value.int 209 0, Value.int 1 0, Value.int 0 0, Value.int 0 0, Value.int 3 0, Value.ref 319, Value.bool true, Value.int 181 0, Value.ref 320, Value.none, Value.ref 321, Value.ref 322, Value.ref 323, Value.int 625 0, Value.int 209 0, Value.str (Str.ofString "/claim/cut.py") 626] }) ::
((nat_lit 325 : Nat), { cls := Value.type "function", data := Data.func { name := Str.ofString "_law_pipe", qualname := Str.ofString "_law_pipe", params := ?a325, body := FuncBody.stmts ?b325, scope := ?s325, globals := 3, closure := [], defaults := Value.none, kwdefaults := Value.none, pyModule := Value.str (Str.ofString "law_nu0084_01") 564, code := Value.ref 324 } }) ::
((nat_lit 326 : Nat), { cls := Value.type "tuple", data := Data.seq #[] }) ::
((nat_lit 329 : Nat), { cls := Value.type "code", data := Data.fields #[Value.str (Str.ofString "_law_one") 628, Value.str (Str.ofString "_law_one") 629, Value.str (Str.ofString "/claim/cut.py") 630, Value.int 217 0, Value.int 1 0, Value.int 0 0, Value.int 0 0, Value.int 3 0, Value.ref 326, Value.bool true, Value.int 181 0, Value.ref 327, Value.none, Value.none, Value.none, Value.ref 328, Value.int 631 0, Value.int 217 0, Value.str (Str.ofString "/claim/cut.py") 632] }) ::
((nat_lit 330 : Nat), { cls := Value.type "function", data := Data.func { name := Str.ofString "_law_one", qualname := Str.ofString "_law_one", params := ?a330, body := FuncBody.stmts ?b330, scope := ?s330, globals := 3, closure := [], defaults := Value.none, kwdefaults := Value.none, pyModule := Value.str (Str.ofString "law_nu0084_01") 564, code := Value.ref 329 } }) ::
((nat_lit 331 : Nat), { cls := Value.type "tuple", data := Data.seq #[] }) ::
((nat_lit 333 : Nat), { cls := Value.type "tuple", data := Data.seq #[Value.str (Str.ofString "tree") 637, Value.str (Str.ofString "kinds") 638] }) ::
((nat_lit 334 : Nat), { cls := Value.type "tuple", data := Data.seq #[] }) ::
((nat_lit 336 : Nat), { cls := Value.type "code", data := Data.fields #[Value.str (Str.ofString "_law_shape") 634, Value.str (Str.ofString "_law_shape") 635, Value.str (Str.ofString "/claim/cut.py") 636, Value.int 243 0, Value.int 1 0, Value.int 0 0, Value.int 0 0, Value.int 3 0, Value.ref 331, Value.bool true, Value.int 181 0, Value.ref 332, Value.none, Value.ref 333, Value.ref 334, Value.ref 335, Value.int 639 0, Value.int 243 0, Value.str (Str.ofString "/claim/cut.py") 640] }) ::
((nat_lit 337 : Nat), { cls := Value.type "function", data := Data.func { name := Str.ofString "_law_shape", qualname := Str.ofString "_law_shape", params := ?a337, body := FuncBody.stmts ?b337, scope := ?s337, globals := 3, closure := [], defaults := Value.none, kwdefaults := Value.none, pyModule := Value.str (Str.ofString "law_nu0084_01") 564, code := Value.ref 336 } }) ::
((nat_lit 338 : Nat), { cls := Value.type "tuple", data := Data.seq #[] }) ::
((nat_lit 340 : Nat), { cls := Value.type "tuple", data := Data.seq #[Value.str (Str.ofString "line") 645, Value.str (Str.ofString "due") 646, Value.str (Str.ofString "tree") 647] }) ::
((nat_lit 341 : Nat), { cls := Value.type "tuple", data := Data.seq #[] }) ::
((nat_lit 343 : Nat), { cls := Value.type "code", data := Data.fields #[Value.str (Str.ofString "_law_right") 642, Value.str (Str.ofString "_law_right") 643, Value.str (Str.ofString "/claim/cut.py") 644, Value.int 252 0, Value.int 1 0, Value.int 0 0, Value.int 0 0, Value.int 3 0, Value.ref 338, Value.bool true, Value.int 181 0, Value.ref 339, Value.none, Value.ref 340, Value.ref 341, Value.ref 342, Value.int 648 0, Value.int 252 0, Value.str (Str.ofString "/claim/cut.py") 649] }) ::
((nat_lit 344 : Nat), { cls := Value.type "function", data := Data.func { name := Str.ofString "_law_right", qualname := Str.ofString "_law_right", params := ?a344, body := FuncBody.stmts ?b344, scope := ?s344, globals := 3, closure := [], defaults := Value.none, kwdefaults := Value.none, pyModule := Value.str (Str.ofString "law_nu0084_01") 564, code := Value.ref 343 } }) ::
((nat_lit 345 : Nat), { cls := Value.type "tuple", data := Data.seq #[] }) ::
((nat_lit 347 : Nat), { cls := Value.type "tuple", data := Data.seq #[Value.str (Str.ofString "pool") 654, Value.str (Str.ofString "deep") 655, Value.str (Str.ofString "way") 656, Value.str (Str.ofString "term") 657, Value.str (Str.ofString "one") 658, Value.str (Str.ofString "two") 659] }) ::
((nat_lit 348 : Nat), { cls := Value.type "tuple", data := Data.seq #[] }) ::
((nat_lit 350 : Nat), { cls := Value.type "code", data := Data.fields #[Value.str (Str.ofString "_law_made") 651, Value.str (Str.ofString "_law_made") 652, Value.str (Str.ofString "/claim/cut.py") 653, Value.int 259 0, Value.int 2 0, Value.int 0 0, Value.int 0 0, Value.int 3 0, Value.ref 345, Value.bool true, Value.int 181 0, Value.ref 346, Value.none, Value.ref 347, Value.ref 348, Value.ref 349, Value.int 660 0, Value.int 259 0, Value.str (Str.ofString "/claim/cut.py") 661] }) ::
((nat_lit 351 : Nat), { cls := Value.type "function", data := Data.func { name := Str.ofString "_law_made", qualname := Str.ofString "_law_made", params := ?a351, body := FuncBody.stmts ?b351, scope := ?s351, globals := 3, closure := [], defaults := Value.none, kwdefaults := Value.none, pyModule := Value.str (Str.ofString "law_nu0084_01") 564, code := Value.ref 350 } }) ::
((nat_lit 352 : Nat), { cls := Value.type "tuple", data := Data.seq #[] }) ::
((nat_lit 354 : Nat), { cls := Value.type "tuple", data := Data.seq #[Value.str (Str.ofString "script") 666, Value.str (Str.ofString "pool") 667, Value.str (Str.ofString "parts") 668, Value.str (Str.ofString "turn") 669, Value.str (Str.ofString "part") 670] }) ::
((nat_lit 355 : Nat), { cls := Value.type "tuple", data := Data.seq #[] }) ::
((nat_lit 357 : Nat), { cls := Value.type "code", data := Data.fields #[Value.str (Str.ofString "law") 663, Value.str (Str.ofString "law") 664, Value.str (Str.ofString "/claim/cut.py") 665, Value.int 274 0, Value.int 1 0, Value.int 0 0, Value.int 0 0, Value.int 3 0, Value.ref 352, Value.bool true, Value.int 181 0, Value.ref 353, Value.none, Value.ref 354, Value.ref 355, Value.ref 356, Value.int 671 0, Value.int 274 0, Value.str (Str.ofString "/claim/cut.py") 672] }) ::
((nat_lit 358 : Nat), { cls := Value.type "function", data := Data.func { name := Str.ofString "law", qualname := Str.ofString "law", params := ?a358, body := FuncBody.stmts ?b358, scope := ?s358, globals := 3, closure := [], defaults := Value.none, kwdefaults := Value.none, pyModule := Value.str (Str.ofString "law_nu0084_01") 564, code := Value.ref 357 } }) :: [] : Params → Frag) : hd.PartTy (⟨_, _, _, _, _, _, _, rfl⟩ : isFn (meth 1 0) ?a29 ?b29 ?s29) (⟨_, _, _, _, _, _, _, rfl⟩ : isFn (meth 3 0) ?a61 ?b61 ?s61) (⟨_, _, _, _, _, _, _, rfl⟩ : isFn (meth 15 0) ?a80 ?b80 ?s80) (⟨_, _, _, _, _, _, _, rfl⟩ : isFn (meth 16 0) ?a101 ?b101 ?s101) (⟨_, _, _, _, _, _, _, rfl⟩ : isFn (meth 17 0) ?a122 ?b122 ?s122) (⟨_, _, _, _, _, _, _, rfl⟩ : isFn (meth 18 0) ?a143 ?b143 ?s143) (⟨_, _, _, _, _, _, _, rfl⟩ : isFn (meth 19 0) ?a164 ?b164 ?s164) (⟨_, _, _, _, _, _, _, rfl⟩ : isFn (meth 19 1) ?a171 ?b171 ?s171) (⟨_, _, _, _, _, _, _, rfl⟩ : isFn (meth 19 2) ?a178 ?b178 ?s178) (⟨_, _, _, _, _, _, _, rfl⟩ : isFn (meth 19 3) ?a185 ?b185 ?s185) (⟨_, _, _, _, _, _, _, rfl⟩ : isFn (meth 19 4) ?a192 ?b192 ?s192) (⟨_, _, _, _, _, _, _, rfl⟩ : isFn (meth 19 5) ?a199 ?b199 ?s199) (⟨_, _, _, _, _, _, _, rfl⟩ : isFn (meth 19 6) ?a206 ?b206 ?s206) (⟨_, _, _, _, _, _, _, rfl⟩ : isFn (cell 20) ?a220 ?b220 ?s220) (⟨_, _, _, _, _, _, _, rfl⟩ : isFn (cell 21) ?a227 ?b227 ?s227) (⟨_, _, _, _, _, _, _, rfl⟩ : isFn (cell 22) ?a234 ?b234 ?s234) (⟨_, _, _, _, _, _, _, rfl⟩ : isFn (cell 23) ?a241 ?b241 ?s241) (⟨_, _, _, _, _, _, _, rfl⟩ : isFn (cell 24) ?a248 ?b248 ?s248) (⟨_, _, _, _, _, _, _, rfl⟩ : isFn (cell 25) ?a255 ?b255 ?s255) (⟨_, _, _, _, _, _, _, rfl⟩ : isFn (cell 26) ?a262 ?b262 ?s262) (⟨_, _, _, _, _, _, _, rfl⟩ : isFn (cell 27) ?a269 ?b269 ?s269) (⟨_, _, _, _, _, _, _, rfl⟩ : isFn (cell 28) ?a276 ?b276 ?s276) (⟨_, _, _, _, _, _, _, rfl⟩ : isFn (cell 29) ?a283 ?b283 ?s283) (⟨_, _, _, _, _, _, _, rfl⟩ : isFn (cell 31) ?a290 ?b290 ?s290) (⟨_, _, _, _, _, _, _, rfl⟩ : isFn (cell 32) ?a297 ?b297 ?s297) (⟨_, _, _, _, _, _, _, rfl⟩ : isFn (cell 33) ?a304 ?b304 ?s304) (⟨_, _, _, _, _, _, _, rfl⟩ : isFn (cell 34) ?a311 ?b311 ?s311) (⟨_, _, _, _, _, _, _, rfl⟩ : isFn (cell 35) ?a318 ?b318 ?s318) (⟨_, _, _, _, _, _, _, rfl⟩ : isFn (cell 36) ?a325 ?b325 ?s325) (⟨_, _, _, _, _, _, _, rfl⟩ : isFn (cell 37) ?a330 ?b330 ?s330) (⟨_, _, _, _, _, _, _, rfl⟩ : isFn (cell 38) ?a337 ?b337 ?s337) (⟨_, _, _, _, _, _, _, rfl⟩ : isFn (cell 39) ?a344 ?b344 ?s344) (⟨_, _, _, _, _, _, _, rfl⟩ : isFn (cell 40) ?a351 ?b351 ?s351) (⟨_, _, _, _, _, _, _, rfl⟩ : isFn (cell 41) ?a358 ?b358 ?s358))
/- the other objects that stand at the top's end -/
noncomputable def hd.rest : Params → Frag :=
  let_mvar% ?a29 := (_ : Arguments); let_mvar% ?b29 := (_ : List Stmt); let_mvar% ?s29 := (_ : Scope);
  let_mvar% ?a61 := (_ : Arguments); let_mvar% ?b61 := (_ : List Stmt); let_mvar% ?s61 := (_ : Scope);
  let_mvar% ?a80 := (_ : Arguments); let_mvar% ?b80 := (_ : List Stmt); let_mvar% ?s80 := (_ : Scope);
  let_mvar% ?a101 := (_ : Arguments); let_mvar% ?b101 := (_ : List Stmt); let_mvar% ?s101 := (_ : Scope);
  let_mvar% ?a122 := (_ : Arguments); let_mvar% ?b122 := (_ : List Stmt); let_mvar% ?s122 := (_ : Scope);
  let_mvar% ?a143 := (_ : Arguments); let_mvar% ?b143 := (_ : List Stmt); let_mvar% ?s143 := (_ : Scope);
  let_mvar% ?a164 := (_ : Arguments); let_mvar% ?b164 := (_ : List Stmt); let_mvar% ?s164 := (_ : Scope);
  let_mvar% ?a171 := (_ : Arguments); let_mvar% ?b171 := (_ : List Stmt); let_mvar% ?s171 := (_ : Scope);
  let_mvar% ?a178 := (_ : Arguments); let_mvar% ?b178 := (_ : List Stmt); let_mvar% ?s178 := (_ : Scope);
  let_mvar% ?a185 := (_ : Arguments); let_mvar% ?b185 := (_ : List Stmt); let_mvar% ?s185 := (_ : Scope);
  let_mvar% ?a192 := (_ : Arguments); let_mvar% ?b192 := (_ : List Stmt); let_mvar% ?s192 := (_ : Scope);
  let_mvar% ?a199 := (_ : Arguments); let_mvar% ?b199 := (_ : List Stmt); let_mvar% ?s199 := (_ : Scope);
  let_mvar% ?a206 := (_ : Arguments); let_mvar% ?b206 := (_ : List Stmt); let_mvar% ?s206 := (_ : Scope);
  let_mvar% ?a220 := (_ : Arguments); let_mvar% ?b220 := (_ : List Stmt); let_mvar% ?s220 := (_ : Scope);
  let_mvar% ?a227 := (_ : Arguments); let_mvar% ?b227 := (_ : List Stmt); let_mvar% ?s227 := (_ : Scope);
  let_mvar% ?a234 := (_ : Arguments); let_mvar% ?b234 := (_ : List Stmt); let_mvar% ?s234 := (_ : Scope);
  let_mvar% ?a241 := (_ : Arguments); let_mvar% ?b241 := (_ : List Stmt); let_mvar% ?s241 := (_ : Scope);
  let_mvar% ?a248 := (_ : Arguments); let_mvar% ?b248 := (_ : List Stmt); let_mvar% ?s248 := (_ : Scope);
  let_mvar% ?a255 := (_ : Arguments); let_mvar% ?b255 := (_ : List Stmt); let_mvar% ?s255 := (_ : Scope);
  let_mvar% ?a262 := (_ : Arguments); let_mvar% ?b262 := (_ : List Stmt); let_mvar% ?s262 := (_ : Scope);
  let_mvar% ?a269 := (_ : Arguments); let_mvar% ?b269 := (_ : List Stmt); let_mvar% ?s269 := (_ : Scope);
  let_mvar% ?a276 := (_ : Arguments); let_mvar% ?b276 := (_ : List Stmt); let_mvar% ?s276 := (_ : Scope);
  let_mvar% ?a283 := (_ : Arguments); let_mvar% ?b283 := (_ : List Stmt); let_mvar% ?s283 := (_ : Scope);
  let_mvar% ?a290 := (_ : Arguments); let_mvar% ?b290 := (_ : List Stmt); let_mvar% ?s290 := (_ : Scope);
  let_mvar% ?a297 := (_ : Arguments); let_mvar% ?b297 := (_ : List Stmt); let_mvar% ?s297 := (_ : Scope);
  let_mvar% ?a304 := (_ : Arguments); let_mvar% ?b304 := (_ : List Stmt); let_mvar% ?s304 := (_ : Scope);
  let_mvar% ?a311 := (_ : Arguments); let_mvar% ?b311 := (_ : List Stmt); let_mvar% ?s311 := (_ : Scope);
  let_mvar% ?a318 := (_ : Arguments); let_mvar% ?b318 := (_ : List Stmt); let_mvar% ?s318 := (_ : Scope);
  let_mvar% ?a325 := (_ : Arguments); let_mvar% ?b325 := (_ : List Stmt); let_mvar% ?s325 := (_ : Scope);
  let_mvar% ?a330 := (_ : Arguments); let_mvar% ?b330 := (_ : List Stmt); let_mvar% ?s330 := (_ : Scope);
  let_mvar% ?a337 := (_ : Arguments); let_mvar% ?b337 := (_ : List Stmt); let_mvar% ?s337 := (_ : Scope);
  let_mvar% ?a344 := (_ : Arguments); let_mvar% ?b344 := (_ : List Stmt); let_mvar% ?s344 := (_ : Scope);
  let_mvar% ?a351 := (_ : Arguments); let_mvar% ?b351 := (_ : List Stmt); let_mvar% ?s351 := (_ : Scope);
  let_mvar% ?a358 := (_ : Arguments); let_mvar% ?b358 := (_ : List Stmt); let_mvar% ?s358 := (_ : Scope);
  ((fun P => 
((nat_lit 0 : Nat), boot_o_0 P) ::
((nat_lit 1 : Nat), boot_o_1 P) ::
((nat_lit 4 : Nat), boot_o_4 P) ::
((nat_lit 5 : Nat), boot_o_5 P) ::
((nat_lit 6 : Nat), boot_o_6 P) ::
((nat_lit 7 : Nat), boot_o_7 P) ::
((nat_lit 8 : Nat), boot_o_8 P) ::
((nat_lit 9 : Nat), boot_o_9 P) ::
((nat_lit 10 : Nat), boot_o_10 P) ::
((nat_lit 11 : Nat), { cls := Value.type "tuple", data := Data.seq #[] }) ::
((nat_lit 12 : Nat), { cls := Value.none, data := Data.fields #[Value.int 2 0, Value.int 0 0, Value.ref 20, Value.int 7 0, Value.int 0 0, Value.ref 41, Value.int 9 0, Value.int 0 0, Value.ref 53, Value.int 25 0, Value.int 0 0, Value.ref 72, Value.int 29 0, Value.int 0 0, Value.ref 93, Value.int 36 0, Value.int 0 0, Value.ref 114, Value.int 42 0, Value.int 0 0, Value.ref 135, Value.int 46 0, Value.int 0 0, Value.ref 156, Value.int 81 0, Value.int 0 0, Value.ref 219, Value.int 83 0, Value.int 0 0, Value.ref 226, Value.int 91 0, Value.int 0 0, Value.ref 233, Value.int 100 0, Value.int 0 0, Value.ref 240, Value.int 106 0, Value.int 0 0, Value.ref 247, Value.int 119 0, Value.int 0 0, Value.ref 254, Value.int 126 0, Value.int 0 0, Value.ref 261, Value.int 139 0, Value.int 0 0, Value.ref 268, Value.int 151 0, Value.int 0 0, Value.ref 275, Value.int 153 0, Value.int 0 0, Value.ref 282, Value.int 158 0, Value.int 0 0, Value.ref 289, Value.int 163 0, Value.int 0 0, Value.ref 296, Value.int 170 0, Value.int 0 0, Value.ref 303, Value.int 182 0, Value.int 0 0, Value.ref 310, Value.int 194 0, Value.int 0 0, Value.ref 317, Value.int 209 0, Value.int 0 0, Value.ref 324, Value.int 217 0, Value.int 0 0, Value.ref 329, Value.int 243 0, Value.int 0 0, Value.ref 336, Value.int 252 0, Value.int 0 0, Value.ref 343, Value.int 259 0, Value.int 0 0, Value.ref 350, Value.int 274 0, Value.int 0 0, Value.ref 357] }) ::
((nat_lit 13 : Nat), { cls := Value.type "code", data := Data.fields #[Value.str (Str.ofString "<module>") 182, Value.str (Str.ofString "<module>") 183, Value.str (Str.ofString "/claim/cut.py") 184, Value.int 1 0, Value.int 0 0, Value.int 0 0, Value.int 0 0, Value.int 0 0, Value.ref 11, Value.bool false, Value.int 181 0, Value.ref 12, Value.none, Value.none, Value.none, Value.none, Value.int 185 0, Value.int 1 0, Value.str (Str.ofString "/claim/cut.py") 186] }) ::
((nat_lit 14 : Nat), { cls := Value.type "frame", slots := #[some (Value.ref 13), some (Value.ref 3), some (Value.ref 3), none, some (Value.str (Str.ofString "__main__") 164), none, some (Value.ref 0)] }) ::
((nat_lit 16 : Nat), { cls := Value.type "builtin_function_or_method", data := Data.fields #[Value.builtin "type.__prepare__", Value.type "type"] }) ::
((nat_lit 17 : Nat), { cls := Value.type "dict", data := Data.dict #[{ hash := PyData.keyHash P (Str.ofString "__module__"), key := Value.str (Str.ofString "__module__") 196, val := Value.str (Str.ofString "pipeboard.errors") 187 }, { hash := PyData.keyHash P (Str.ofString "__qualname__"), key := Value.str (Str.ofString "__qualname__") 198, val := Value.str (Str.ofString "BoardError") 197 }, { hash := PyData.keyHash P (Str.ofString "__firstlineno__"), key := Value.str (Str.ofString "__firstlineno__") 200, val := Value.int 2 199 }, { hash := PyData.keyHash P (Str.ofString "__init__"), key := Value.str (Str.ofString "__init__") 209, val := Value.ref 29 }, { hash := PyData.keyHash P (Str.ofString "__static_attributes__"), key := Value.str (Str.ofString "__static_attributes__") 211, val := Value.ref 30 }] 5 }) ::
((nat_lit 18 : Nat), { cls := Value.type "tuple", data := Data.seq #[] }) ::
((nat_lit 19 : Nat), { cls := Value.none, data := Data.fields #[Value.int 4 0, Value.int 4 0, Value.ref 28] }) ::
((nat_lit 20 : Nat), { cls := Value.type "code", data := Data.fields #[Value.str (Str.ofString "BoardError") 191, Value.str (Str.ofString "BoardError") 192, Value.str (Str.ofString "/claim/cut.py") 193, Value.int 2 0, Value.int 0 0, Value.int 0 0, Value.int 0 0, Value.int 0 0, Value.ref 18, Value.bool false, Value.int 181 0, Value.ref 19, Value.none, Value.none, Value.none, Value.none, Value.int 194 0, Value.int 2 0, Value.str (Str.ofString "/claim/cut.py") 195] }) ::
((nat_lit 21 : Nat), { cls := Value.type "frame", slots := #[some (Value.ref 20), some (Value.ref 3), some (Value.ref 17), none, some (Value.str (Str.ofString "pipeboard.errors") 187), none, some (Value.ref 0)] }) ::
((nat_lit 24 : Nat), { cls := Value.none, data := Data.fields #[] }) ::
((nat_lit 27 : Nat), { cls := Value.none, data := Data.func { name := Str.ofString "__init__", qualname := Str.ofString "BoardError.__init__", params := ?a29, body := FuncBody.stmts ?b29, scope := ?s29, globals := 0, closure := [], defaults := Value.none, kwdefaults := Value.none } }) ::
((nat_lit 34 : Nat), { cls := Value.type "super", data := Data.fields #[Value.ref 32, Value.ref 32, Value.ref 32] }) ::
((nat_lit 35 : Nat), { cls := Value.type "builtin_function_or_method", data := Data.fields #[Value.builtin "object.__init_subclass__", Value.ref 32] }) ::
((nat_lit 37 : Nat), { cls := Value.type "builtin_function_or_method", data := Data.fields #[Value.builtin "type.__prepare__", Value.type "type"] }) ::
((nat_lit 38 : Nat), { cls := Value.type "dict", data := Data.dict #[{ hash := PyData.keyHash P (Str.ofString "__module__"), key := Value.str (Str.ofString "__module__") 224, val := Value.str (Str.ofString "pipeboard.errors") 187 }, { hash := PyData.keyHash P (Str.ofString "__qualname__"), key := Value.str (Str.ofString "__qualname__") 226, val := Value.str (Str.ofString "BadArgument") 225 }, { hash := PyData.keyHash P (Str.ofString "__firstlineno__"), key := Value.str (Str.ofString "__firstlineno__") 228, val := Value.int 7 227 }, { hash := PyData.keyHash P (Str.ofString "__static_attributes__"), key := Value.str (Str.ofString "__static_attributes__") 229, val := Value.ref 43 }] 4 }) ::
((nat_lit 39 : Nat), { cls := Value.type "tuple", data := Data.seq #[] }) ::
((nat_lit 40 : Nat), { cls := Value.none, data := Data.fields #[] }) ::
((nat_lit 41 : Nat), { cls := Value.type "code", data := Data.fields #[Value.str (Str.ofString "BadArgument") 219, Value.str (Str.ofString "BadArgument") 220, Value.str (Str.ofString "/claim/cut.py") 221, Value.int 7 0, Value.int 0 0, Value.int 0 0, Value.int 0 0, Value.int 0 0, Value.ref 39, Value.bool false, Value.int 181 0, Value.ref 40, Value.none, Value.none, Value.none, Value.none, Value.int 222 0, Value.int 7 0, Value.str (Str.ofString "/claim/cut.py") 223] }) ::
((nat_lit 42 : Nat), { cls := Value.type "frame", slots := #[some (Value.ref 41), some (Value.ref 3), some (Value.ref 38), none, some (Value.str (Str.ofString "pipeboard.errors") 187), none, some (Value.ref 0)] }) ::
((nat_lit 46 : Nat), { cls := Value.type "super", data := Data.fields #[Value.ref 45, Value.ref 45, Value.ref 45] }) ::
((nat_lit 47 : Nat), { cls := Value.type "builtin_function_or_method", data := Data.fields #[Value.builtin "object.__init_subclass__", Value.ref 45] }) ::
((nat_lit 49 : Nat), { cls := Value.type "builtin_function_or_method", data := Data.fields #[Value.builtin "type.__prepare__", Value.type "type"] }) ::
((nat_lit 50 : Nat), { cls := Value.type "dict", data := Data.dict #[{ hash := PyData.keyHash P (Str.ofString "__module__"), key := Value.str (Str.ofString "__module__") 240, val := Value.str (Str.ofString "pipeboard.errors") 187 }, { hash := PyData.keyHash P (Str.ofString "__qualname__"), key := Value.str (Str.ofString "__qualname__") 242, val := Value.str (Str.ofString "BadText") 241 }, { hash := PyData.keyHash P (Str.ofString "__firstlineno__"), key := Value.str (Str.ofString "__firstlineno__") 244, val := Value.int 9 243 }, { hash := PyData.keyHash P (Str.ofString "__init__"), key := Value.str (Str.ofString "__init__") 253, val := Value.ref 61 }, { hash := PyData.keyHash P (Str.ofString "__static_attributes__"), key := Value.str (Str.ofString "__static_attributes__") 255, val := Value.ref 62 }] 5 }) ::
((nat_lit 51 : Nat), { cls := Value.type "tuple", data := Data.seq #[] }) ::
((nat_lit 52 : Nat), { cls := Value.none, data := Data.fields #[Value.int 11 0, Value.int 4 0, Value.ref 60] }) ::
((nat_lit 53 : Nat), { cls := Value.type "code", data := Data.fields #[Value.str (Str.ofString "BadText") 235, Value.str (Str.ofString "BadText") 236, Value.str (Str.ofString "/claim/cut.py") 237, Value.int 9 0, Value.int 0 0, Value.int 0 0, Value.int 0 0, Value.int 0 0, Value.ref 51, Value.bool false, Value.int 181 0, Value.ref 52, Value.none, Value.none, Value.none, Value.none, Value.int 238 0, Value.int 9 0, Value.str (Str.ofString "/claim/cut.py") 239] }) ::
((nat_lit 54 : Nat), { cls := Value.type "frame", slots := #[some (Value.ref 53), some (Value.ref 3), some (Value.ref 50), none, some (Value.str (Str.ofString "pipeboard.errors") 187), none, some (Value.ref 0)] }) ::
((nat_lit 56 : Nat), { cls := Value.none, data := Data.fields #[] }) ::
((nat_lit 59 : Nat), { cls := Value.none, data := Data.func { name := Str.ofString "__init__", qualname := Str.ofString "BadText.__init__", params := ?a61, body := FuncBody.stmts ?b61, scope := ?s61, globals := 0, closure := [], defaults := Value.none, kwdefaults := Value.none } }) ::
((nat_lit 65 : Nat), { cls := Value.type "super", data := Data.fields #[Value.ref 64, Value.ref 64, Value.ref 64] }) ::
((nat_lit 66 : Nat), { cls := Value.type "builtin_function_or_method", data := Data.fields #[Value.builtin "object.__init_subclass__", Value.ref 64] }) ::
((nat_lit 67 : Nat), { cls := Value.type "tuple", data := Data.seq #[] }) ::
((nat_lit 68 : Nat), { cls := Value.type "builtin_function_or_method", data := Data.fields #[Value.builtin "type.__prepare__", Value.type "type"] }) ::
((nat_lit 69 : Nat), { cls := Value.type "dict", data := Data.dict #[{ hash := PyData.keyHash P (Str.ofString "__module__"), key := Value.str (Str.ofString "__module__") 288, val := Value.str (Str.ofString "pipeboard.shell") 259 }, { hash := PyData.keyHash P (Str.ofString "__qualname__"), key := Value.str (Str.ofString "__qualname__") 290, val := Value.str (Str.ofString "Run") 289 }, { hash := PyData.keyHash P (Str.ofString "__firstlineno__"), key := Value.str (Str.ofString "__firstlineno__") 292, val := Value.int 25 291 }, { hash := PyData.keyHash P (Str.ofString "__init__"), key := Value.str (Str.ofString "__init__") 300, val := Value.ref 80 }, { hash := PyData.keyHash P (Str.ofString "__static_attributes__"), key := Value.str (Str.ofString "__static_attributes__") 302, val := Value.ref 81 }] 5 }) ::
((nat_lit 70 : Nat), { cls := Value.type "tuple", data := Data.seq #[] }) ::
((nat_lit 71 : Nat), { cls := Value.none, data := Data.fields #[Value.int 27 0, Value.int 4 0, Value.ref 79] }) ::
((nat_lit 72 : Nat), { cls := Value.type "code", data := Data.fields #[Value.str (Str.ofString "Run") 283, Value.str (Str.ofString "Run") 284, Value.str (Str.ofString "/claim/cut.py") 285, Value.int 25 0, Value.int 0 0, Value.int 0 0, Value.int 0 0, Value.int 0 0, Value.ref 70, Value.bool false, Value.int 181 0, Value.ref 71, Value.none, Value.none, Value.none, Value.none, Value.int 286 0, Value.int 25 0, Value.str (Str.ofString "/claim/cut.py") 287] }) ::
((nat_lit 73 : Nat), { cls := Value.type "frame", slots := #[some (Value.ref 72), some (Value.ref 3), some (Value.ref 69), none, some (Value.str (Str.ofString "pipeboard.shell") 259), none, some (Value.ref 0)] }) ::
((nat_lit 75 : Nat), { cls := Value.none, data := Data.fields #[] }) ::
((nat_lit 78 : Nat), { cls := Value.none, data := Data.func { name := Str.ofString "__init__", qualname := Str.ofString "Run.__init__", params := ?a80, body := FuncBody.stmts ?b80, scope := ?s80, globals := 0, closure := [], defaults := Value.none, kwdefaults := Value.none } }) ::
((nat_lit 86 : Nat), { cls := Value.type "super", data := Data.fields #[Value.ref 83, Value.ref 83, Value.ref 83] }) ::
((nat_lit 87 : Nat), { cls := Value.type "builtin_function_or_method", data := Data.fields #[Value.builtin "object.__init_subclass__", Value.ref 83] }) ::
((nat_lit 88 : Nat), { cls := Value.type "tuple", data := Data.seq #[] }) ::
((nat_lit 89 : Nat), { cls := Value.type "builtin_function_or_method", data := Data.fields #[Value.builtin "type.__prepare__", Value.type "type"] }) ::
((nat_lit 90 : Nat), { cls := Value.type "dict", data := Data.dict #[{ hash := PyData.keyHash P (Str.ofString "__module__"), key := Value.str (Str.ofString "__module__") 317, val := Value.str (Str.ofString "pipeboard.shell") 259 }, { hash := PyData.keyHash P (Str.ofString "__qualname__"), key := Value.str (Str.ofString "__qualname__") 319, val := Value.str (Str.ofString "Redirect") 318 }, { hash := PyData.keyHash P (Str.ofString "__firstlineno__"), key := Value.str (Str.ofString "__firstlineno__") 321, val := Value.int 29 320 }, { hash := PyData.keyHash P (Str.ofString "__init__"), key := Value.str (Str.ofString "__init__") 332, val := Value.ref 101 }, { hash := PyData.keyHash P (Str.ofString "__static_attributes__"), key := Value.str (Str.ofString "__static_attributes__") 337, val := Value.ref 102 }] 5 }) ::
((nat_lit 91 : Nat), { cls := Value.type "tuple", data := Data.seq #[] }) ::
((nat_lit 92 : Nat), { cls := Value.none, data := Data.fields #[Value.int 31 0, Value.int 4 0, Value.ref 100] }) ::
((nat_lit 93 : Nat), { cls := Value.type "code", data := Data.fields #[Value.str (Str.ofString "Redirect") 312, Value.str (Str.ofString "Redirect") 313, Value.str (Str.ofString "/claim/cut.py") 314, Value.int 29 0, Value.int 0 0, Value.int 0 0, Value.int 0 0, Value.int 0 0, Value.ref 91, Value.bool false, Value.int 181 0, Value.ref 92, Value.none, Value.none, Value.none, Value.none, Value.int 315 0, Value.int 29 0, Value.str (Str.ofString "/claim/cut.py") 316] }) ::
((nat_lit 94 : Nat), { cls := Value.type "frame", slots := #[some (Value.ref 93), some (Value.ref 3), some (Value.ref 90), none, some (Value.str (Str.ofString "pipeboard.shell") 259), none, some (Value.ref 0)] }) ::
((nat_lit 96 : Nat), { cls := Value.none, data := Data.fields #[] }) ::
((nat_lit 99 : Nat), { cls := Value.none, data := Data.func { name := Str.ofString "__init__", qualname := Str.ofString "Redirect.__init__", params := ?a101, body := FuncBody.stmts ?b101, scope := ?s101, globals := 0, closure := [], defaults := Value.none, kwdefaults := Value.none } }) ::
((nat_lit 107 : Nat), { cls := Value.type "super", data := Data.fields #[Value.ref 104, Value.ref 104, Value.ref 104] }) ::
((nat_lit 108 : Nat), { cls := Value.type "builtin_function_or_method", data := Data.fields #[Value.builtin "object.__init_subclass__", Value.ref 104] }) ::
((nat_lit 109 : Nat), { cls := Value.type "tuple", data := Data.seq #[] }) ::
((nat_lit 110 : Nat), { cls := Value.type "builtin_function_or_method", data := Data.fields #[Value.builtin "type.__prepare__", Value.type "type"] }) ::
((nat_lit 111 : Nat), { cls := Value.type "dict", data := Data.dict #[{ hash := PyData.keyHash P (Str.ofString "__module__"), key := Value.str (Str.ofString "__module__") 352, val := Value.str (Str.ofString "pipeboard.shell") 259 }, { hash := PyData.keyHash P (Str.ofString "__qualname__"), key := Value.str (Str.ofString "__qualname__") 354, val := Value.str (Str.ofString "Pair") 353 }, { hash := PyData.keyHash P (Str.ofString "__firstlineno__"), key := Value.str (Str.ofString "__firstlineno__") 356, val := Value.int 36 355 }, { hash := PyData.keyHash P (Str.ofString "__init__"), key := Value.str (Str.ofString "__init__") 366, val := Value.ref 122 }, { hash := PyData.keyHash P (Str.ofString "__static_attributes__"), key := Value.str (Str.ofString "__static_attributes__") 370, val := Value.ref 123 }] 5 }) ::
((nat_lit 112 : Nat), { cls := Value.type "tuple", data := Data.seq #[] }) ::
((nat_lit 113 : Nat), { cls := Value.none, data := Data.fields #[Value.int 38 0, Value.int 4 0, Value.ref 121] }) ::
((nat_lit 114 : Nat), { cls := Value.type "code", data := Data.fields #[Value.str (Str.ofString "Pair") 347, Value.str (Str.ofString "Pair") 348, Value.str (Str.ofString "/claim/cut.py") 349, Value.int 36 0, Value.int 0 0, Value.int 0 0, Value.int 0 0, Value.int 0 0, Value.ref 112, Value.bool false, Value.int 181 0, Value.ref 113, Value.none, Value.none, Value.none, Value.none, Value.int 350 0, Value.int 36 0, Value.str (Str.ofString "/claim/cut.py") 351] }) ::
((nat_lit 115 : Nat), { cls := Value.type "frame", slots := #[some (Value.ref 114), some (Value.ref 3), some (Value.ref 111), none, some (Value.str (Str.ofString "pipeboard.shell") 259), none, some (Value.ref 0)] }) ::
((nat_lit 117 : Nat), { cls := Value.none, data := Data.fields #[] }) ::
((nat_lit 120 : Nat), { cls := Value.none, data := Data.func { name := Str.ofString "__init__", qualname := Str.ofString "Pair.__init__", params := ?a122, body := FuncBody.stmts ?b122, scope := ?s122, globals := 0, closure := [], defaults := Value.none, kwdefaults := Value.none } }) ::
((nat_lit 128 : Nat), { cls := Value.type "super", data := Data.fields #[Value.ref 125, Value.ref 125, Value.ref 125] }) ::
((nat_lit 129 : Nat), { cls := Value.type "builtin_function_or_method", data := Data.fields #[Value.builtin "object.__init_subclass__", Value.ref 125] }) ::
((nat_lit 130 : Nat), { cls := Value.type "tuple", data := Data.seq #[] }) ::
((nat_lit 131 : Nat), { cls := Value.type "builtin_function_or_method", data := Data.fields #[Value.builtin "type.__prepare__", Value.type "type"] }) ::
((nat_lit 132 : Nat), { cls := Value.type "dict", data := Data.dict #[{ hash := PyData.keyHash P (Str.ofString "__module__"), key := Value.str (Str.ofString "__module__") 385, val := Value.str (Str.ofString "pipeboard.shell") 259 }, { hash := PyData.keyHash P (Str.ofString "__qualname__"), key := Value.str (Str.ofString "__qualname__") 387, val := Value.str (Str.ofString "Back") 386 }, { hash := PyData.keyHash P (Str.ofString "__firstlineno__"), key := Value.str (Str.ofString "__firstlineno__") 389, val := Value.int 42 388 }, { hash := PyData.keyHash P (Str.ofString "__init__"), key := Value.str (Str.ofString "__init__") 397, val := Value.ref 143 }, { hash := PyData.keyHash P (Str.ofString "__static_attributes__"), key := Value.str (Str.ofString "__static_attributes__") 399, val := Value.ref 144 }] 5 }) ::
((nat_lit 133 : Nat), { cls := Value.type "tuple", data := Data.seq #[] }) ::
((nat_lit 134 : Nat), { cls := Value.none, data := Data.fields #[Value.int 44 0, Value.int 4 0, Value.ref 142] }) ::
((nat_lit 135 : Nat), { cls := Value.type "code", data := Data.fields #[Value.str (Str.ofString "Back") 380, Value.str (Str.ofString "Back") 381, Value.str (Str.ofString "/claim/cut.py") 382, Value.int 42 0, Value.int 0 0, Value.int 0 0, Value.int 0 0, Value.int 0 0, Value.ref 133, Value.bool false, Value.int 181 0, Value.ref 134, Value.none, Value.none, Value.none, Value.none, Value.int 383 0, Value.int 42 0, Value.str (Str.ofString "/claim/cut.py") 384] }) ::
((nat_lit 136 : Nat), { cls := Value.type "frame", slots := #[some (Value.ref 135), some (Value.ref 3), some (Value.ref 132), none, some (Value.str (Str.ofString "pipeboard.shell") 259), none, some (Value.ref 0)] }) ::
((nat_lit 138 : Nat), { cls := Value.none, data := Data.fields #[] }) ::
((nat_lit 141 : Nat), { cls := Value.none, data := Data.func { name := Str.ofString "__init__", qualname := Str.ofString "Back.__init__", params := ?a143, body := FuncBody.stmts ?b143, scope := ?s143, globals := 0, closure := [], defaults := Value.none, kwdefaults := Value.none } }) ::
((nat_lit 149 : Nat), { cls := Value.type "super", data := Data.fields #[Value.ref 146, Value.ref 146, Value.ref 146] }) ::
((nat_lit 150 : Nat), { cls := Value.type "builtin_function_or_method", data := Data.fields #[Value.builtin "object.__init_subclass__", Value.ref 146] }) ::
((nat_lit 151 : Nat), { cls := Value.type "tuple", data := Data.seq #[] }) ::
((nat_lit 152 : Nat), { cls := Value.type "builtin_function_or_method", data := Data.fields #[Value.builtin "type.__prepare__", Value.type "type"] }) ::
((nat_lit 153 : Nat), { cls := Value.type "dict", data := Data.dict #[{ hash := PyData.keyHash P (Str.ofString "__module__"), key := Value.str (Str.ofString "__module__") 414, val := Value.str (Str.ofString "pipeboard.shell") 259 }, { hash := PyData.keyHash P (Str.ofString "__qualname__"), key := Value.str (Str.ofString "__qualname__") 416, val := Value.str (Str.ofString "Scanner") 415 }, { hash := PyData.keyHash P (Str.ofString "__firstlineno__"), key := Value.str (Str.ofString "__firstlineno__") 418, val := Value.int 46 417 }, { hash := PyData.keyHash P (Str.ofString "__init__"), key := Value.str (Str.ofString "__init__") 426, val := Value.ref 164 }, { hash := PyData.keyHash P (Str.ofString "blanks"), key := Value.str (Str.ofString "blanks") 433, val := Value.ref 171 }, { hash := PyData.keyHash P (Str.ofString "next_is"), key := Value.str (Str.ofString "next_is") 441, val := Value.ref 178 }, { hash := PyData.keyHash P (Str.ofString "at_end"), key := Value.str (Str.ofString "at_end") 448, val := Value.ref 185 }, { hash := PyData.keyHash P (Str.ofString "sign"), key := Value.str (Str.ofString "sign") 456, val := Value.ref 192 }, { hash := PyData.keyHash P (Str.ofString "is_word"), key := Value.str (Str.ofString "is_word") 463, val := Value.ref 199 }, { hash := PyData.keyHash P (Str.ofString "word"), key := Value.str (Str.ofString "word") 471, val := Value.ref 206 }, { hash := PyData.keyHash P (Str.ofString "__static_attributes__"), key := Value.str (Str.ofString "__static_attributes__") 474, val := Value.ref 207 }] 11 }) ::
((nat_lit 154 : Nat), { cls := Value.type "tuple", data := Data.seq #[] }) ::
((nat_lit 155 : Nat), { cls := Value.none, data := Data.fields #[Value.int 48 0, Value.int 4 0, Value.ref 163, Value.int 52 0, Value.int 4 0, Value.ref 170, Value.int 56 0, Value.int 4 0, Value.ref 177, Value.int 60 0, Value.int 4 0, Value.ref 184, Value.int 64 0, Value.int 4 0, Value.ref 191, Value.int 72 0, Value.int 4 0, Value.ref 198, Value.int 75 0, Value.int 4 0, Value.ref 205] }) ::
((nat_lit 156 : Nat), { cls := Value.type "code", data := Data.fields #[Value.str (Str.ofString "Scanner") 409, Value.str (Str.ofString "Scanner") 410, Value.str (Str.ofString "/claim/cut.py") 411, Value.int 46 0, Value.int 0 0, Value.int 0 0, Value.int 0 0, Value.int 0 0, Value.ref 154, Value.bool false, Value.int 181 0, Value.ref 155, Value.none, Value.none, Value.none, Value.none, Value.int 412 0, Value.int 46 0, Value.str (Str.ofString "/claim/cut.py") 413] }) ::
((nat_lit 157 : Nat), { cls := Value.type "frame", slots := #[some (Value.ref 156), some (Value.ref 3), some (Value.ref 153), none, some (Value.str (Str.ofString "pipeboard.shell") 259), none, some (Value.ref 0)] }) ::
((nat_lit 159 : Nat), { cls := Value.none, data := Data.fields #[] }) ::
((nat_lit 162 : Nat), { cls := Value.none, data := Data.func { name := Str.ofString "__init__", qualname := Str.ofString "Scanner.__init__", params := ?a164, body := FuncBody.stmts ?b164, scope := ?s164, globals := 0, closure := [], defaults := Value.none, kwdefaults := Value.none } }) ::
((nat_lit 166 : Nat), { cls := Value.none, data := Data.fields #[] }) ::
((nat_lit 169 : Nat), { cls := Value.none, data := Data.func { name := Str.ofString "blanks", qualname := Str.ofString "Scanner.blanks", params := ?a171, body := FuncBody.stmts ?b171, scope := ?s171, globals := 0, closure := [], defaults := Value.none, kwdefaults := Value.none } }) ::
((nat_lit 173 : Nat), { cls := Value.none, data := Data.fields #[] }) ::
((nat_lit 176 : Nat), { cls := Value.none, data := Data.func { name := Str.ofString "next_is", qualname := Str.ofString "Scanner.next_is", params := ?a178, body := FuncBody.stmts ?b178, scope := ?s178, globals := 0, closure := [], defaults := Value.none, kwdefaults := Value.none } }) ::
((nat_lit 180 : Nat), { cls := Value.none, data := Data.fields #[] }) ::
((nat_lit 183 : Nat), { cls := Value.none, data := Data.func { name := Str.ofString "at_end", qualname := Str.ofString "Scanner.at_end", params := ?a185, body := FuncBody.stmts ?b185, scope := ?s185, globals := 0, closure := [], defaults := Value.none, kwdefaults := Value.none } }) ::
((nat_lit 187 : Nat), { cls := Value.none, data := Data.fields #[] }) ::
((nat_lit 190 : Nat), { cls := Value.none, data := Data.func { name := Str.ofString "sign", qualname := Str.ofString "Scanner.sign", params := ?a192, body := FuncBody.stmts ?b192, scope := ?s192, globals := 0, closure := [], defaults := Value.none, kwdefaults := Value.none } }) ::
((nat_lit 194 : Nat), { cls := Value.none, data := Data.fields #[] }) ::
((nat_lit 197 : Nat), { cls := Value.none, data := Data.func { name := Str.ofString "is_word", qualname := Str.ofString "Scanner.is_word", params := ?a199, body := FuncBody.stmts ?b199, scope := ?s199, globals := 0, closure := [], defaults := Value.none, kwdefaults := Value.none } }) ::
((nat_lit 201 : Nat), { cls := Value.none, data := Data.fields #[] }) ::
((nat_lit 204 : Nat), { cls := Value.none, data := Data.func { name := Str.ofString "word", qualname := Str.ofString "Scanner.word", params := ?a206, body := FuncBody.stmts ?b206, scope := ?s206, globals := 0, closure := [], defaults := Value.none, kwdefaults := Value.none } }) ::
((nat_lit 212 : Nat), { cls := Value.type "super", data := Data.fields #[Value.ref 209, Value.ref 209, Value.ref 209] }) ::
((nat_lit 213 : Nat), { cls := Value.type "builtin_function_or_method", data := Data.fields #[Value.builtin "object.__init_subclass__", Value.ref 209] }) ::
((nat_lit 215 : Nat), { cls := Value.none, data := Data.fields #[] }) ::
((nat_lit 218 : Nat), { cls := Value.none, data := Data.func { name := Str.ofString "fault", qualname := Str.ofString "fault", params := ?a220, body := FuncBody.stmts ?b220, scope := ?s220, globals := 0, closure := [], defaults := Value.none, kwdefaults := Value.none } }) ::
((nat_lit 222 : Nat), { cls := Value.none, data := Data.fields #[] }) ::
((nat_lit 225 : Nat), { cls := Value.none, data := Data.func { name := Str.ofString "parse", qualname := Str.ofString "parse", params := ?a227, body := FuncBody.stmts ?b227, scope := ?s227, globals := 0, closure := [], defaults := Value.none, kwdefaults := Value.none } }) ::
((nat_lit 229 : Nat), { cls := Value.none, data := Data.fields #[] }) ::
((nat_lit 232 : Nat), { cls := Value.none, data := Data.func { name := Str.ofString "parse_line", qualname := Str.ofString "parse_line", params := ?a234, body := FuncBody.stmts ?b234, scope := ?s234, globals := 0, closure := [], defaults := Value.none, kwdefaults := Value.none } }) ::
((nat_lit 236 : Nat), { cls := Value.none, data := Data.fields #[] }) ::
((nat_lit 239 : Nat), { cls := Value.none, data := Data.func { name := Str.ofString "parse_pipe", qualname := Str.ofString "parse_pipe", params := ?a241, body := FuncBody.stmts ?b241, scope := ?s241, globals := 0, closure := [], defaults := Value.none, kwdefaults := Value.none } }) ::
((nat_lit 243 : Nat), { cls := Value.none, data := Data.fields #[] }) ::
((nat_lit 246 : Nat), { cls := Value.none, data := Data.func { name := Str.ofString "parse_redirects", qualname := Str.ofString "parse_redirects", params := ?a248, body := FuncBody.stmts ?b248, scope := ?s248, globals := 0, closure := [], defaults := Value.none, kwdefaults := Value.none } }) ::
((nat_lit 250 : Nat), { cls := Value.none, data := Data.fields #[] }) ::
((nat_lit 253 : Nat), { cls := Value.none, data := Data.func { name := Str.ofString "parse_block", qualname := Str.ofString "parse_block", params := ?a255, body := FuncBody.stmts ?b255, scope := ?s255, globals := 0, closure := [], defaults := Value.none, kwdefaults := Value.none } }) ::
((nat_lit 257 : Nat), { cls := Value.none, data := Data.fields #[] }) ::
((nat_lit 260 : Nat), { cls := Value.none, data := Data.func { name := Str.ofString "parse_command", qualname := Str.ofString "parse_command", params := ?a262, body := FuncBody.stmts ?b262, scope := ?s262, globals := 0, closure := [], defaults := Value.none, kwdefaults := Value.none } }) ::
((nat_lit 264 : Nat), { cls := Value.none, data := Data.fields #[] }) ::
((nat_lit 267 : Nat), { cls := Value.none, data := Data.func { name := Str.ofString "text_of", qualname := Str.ofString "text_of", params := ?a269, body := FuncBody.stmts ?b269, scope := ?s269, globals := 0, closure := [], defaults := Value.none, kwdefaults := Value.none } }) ::
((nat_lit 271 : Nat), { cls := Value.none, data := Data.fields #[] }) ::
((nat_lit 274 : Nat), { cls := Value.none, data := Data.func { name := Str.ofString "grouped", qualname := Str.ofString "grouped", params := ?a276, body := FuncBody.stmts ?b276, scope := ?s276, globals := 0, closure := [], defaults := Value.none, kwdefaults := Value.none } }) ::
((nat_lit 278 : Nat), { cls := Value.none, data := Data.fields #[] }) ::
((nat_lit 281 : Nat), { cls := Value.none, data := Data.func { name := Str.ofString "piped", qualname := Str.ofString "piped", params := ?a283, body := FuncBody.stmts ?b283, scope := ?s283, globals := 0, closure := [], defaults := Value.none, kwdefaults := Value.none } }) ::
((nat_lit 285 : Nat), { cls := Value.none, data := Data.fields #[] }) ::
((nat_lit 288 : Nat), { cls := Value.none, data := Data.func { name := Str.ofString "_law_pool", qualname := Str.ofString "_law_pool", params := ?a290, body := FuncBody.stmts ?b290, scope := ?s290, globals := 0, closure := [], defaults := Value.none, kwdefaults := Value.none } }) ::
((nat_lit 292 : Nat), { cls := Value.none, data := Data.fields #[] }) ::
((nat_lit 295 : Nat), { cls := Value.none, data := Data.func { name := Str.ofString "_law_take", qualname := Str.ofString "_law_take", params := ?a297, body := FuncBody.stmts ?b297, scope := ?s297, globals := 0, closure := [], defaults := Value.none, kwdefaults := Value.none } }) ::
((nat_lit 299 : Nat), { cls := Value.none, data := Data.fields #[] }) ::
((nat_lit 302 : Nat), { cls := Value.none, data := Data.func { name := Str.ofString "_law_marks", qualname := Str.ofString "_law_marks", params := ?a304, body := FuncBody.stmts ?b304, scope := ?s304, globals := 0, closure := [], defaults := Value.none, kwdefaults := Value.none } }) ::
((nat_lit 306 : Nat), { cls := Value.none, data := Data.fields #[] }) ::
((nat_lit 309 : Nat), { cls := Value.none, data := Data.func { name := Str.ofString "_law_cut", qualname := Str.ofString "_law_cut", params := ?a311, body := FuncBody.stmts ?b311, scope := ?s311, globals := 0, closure := [], defaults := Value.none, kwdefaults := Value.none } }) ::
((nat_lit 313 : Nat), { cls := Value.none, data := Data.fields #[] }) ::
((nat_lit 316 : Nat), { cls := Value.none, data := Data.func { name := Str.ofString "_law_line", qualname := Str.ofString "_law_line", params := ?a318, body := FuncBody.stmts ?b318, scope := ?s318, globals := 0, closure := [], defaults := Value.none, kwdefaults := Value.none } }) ::
((nat_lit 320 : Nat), { cls := Value.none, data := Data.fields #[] }) ::
((nat_lit 323 : Nat), { cls := Value.none, data := Data.func { name := Str.ofString "_law_pipe", qualname := Str.ofString "_law_pipe", params := ?a325, body := FuncBody.stmts ?b325, scope := ?s325, globals := 0, closure := [], defaults := Value.none, kwdefaults := Value.none } }) ::
((nat_lit 327 : Nat), { cls := Value.none, data := Data.fields #[] }) ::
((nat_lit 328 : Nat), { cls := Value.none, data := Data.func { name := Str.ofString "_law_one", qualname := Str.ofString "_law_one", params := ?a330, body := FuncBody.stmts ?b330, scope := ?s330, globals := 0, closure := [], defaults := Value.none, kwdefaults := Value.none } }) ::
((nat_lit 332 : Nat), { cls := Value.none, data := Data.fields #[] }) ::
((nat_lit 335 : Nat), { cls := Value.none, data := Data.func { name := Str.ofString "_law_shape", qualname := Str.ofString "_law_shape", params := ?a337, body := FuncBody.stmts ?b337, scope := ?s337, globals := 0, closure := [], defaults := Value.none, kwdefaults := Value.none } }) ::
((nat_lit 339 : Nat), { cls := Value.none, data := Data.fields #[] }) ::
((nat_lit 342 : Nat), { cls := Value.none, data := Data.func { name := Str.ofString "_law_right", qualname := Str.ofString "_law_right", params := ?a344, body := FuncBody.stmts ?b344, scope := ?s344, globals := 0, closure := [], defaults := Value.none, kwdefaults := Value.none } }) ::
((nat_lit 346 : Nat), { cls := Value.none, data := Data.fields #[] }) ::
((nat_lit 349 : Nat), { cls := Value.none, data := Data.func { name := Str.ofString "_law_made", qualname := Str.ofString "_law_made", params := ?a351, body := FuncBody.stmts ?b351, scope := ?s351, globals := 0, closure := [], defaults := Value.none, kwdefaults := Value.none } }) ::
((nat_lit 353 : Nat), { cls := Value.none, data := Data.fields #[] }) ::
((nat_lit 356 : Nat), { cls := Value.none, data := Data.func { name := Str.ofString "law", qualname := Str.ofString "law", params := ?a358, body := FuncBody.stmts ?b358, scope := ?s358, globals := 0, closure := [], defaults := Value.none, kwdefaults := Value.none } }) :: [] : Params → Frag) : hd.PartTy (⟨_, _, _, _, _, _, _, rfl⟩ : isFn (meth 1 0) ?a29 ?b29 ?s29) (⟨_, _, _, _, _, _, _, rfl⟩ : isFn (meth 3 0) ?a61 ?b61 ?s61) (⟨_, _, _, _, _, _, _, rfl⟩ : isFn (meth 15 0) ?a80 ?b80 ?s80) (⟨_, _, _, _, _, _, _, rfl⟩ : isFn (meth 16 0) ?a101 ?b101 ?s101) (⟨_, _, _, _, _, _, _, rfl⟩ : isFn (meth 17 0) ?a122 ?b122 ?s122) (⟨_, _, _, _, _, _, _, rfl⟩ : isFn (meth 18 0) ?a143 ?b143 ?s143) (⟨_, _, _, _, _, _, _, rfl⟩ : isFn (meth 19 0) ?a164 ?b164 ?s164) (⟨_, _, _, _, _, _, _, rfl⟩ : isFn (meth 19 1) ?a171 ?b171 ?s171) (⟨_, _, _, _, _, _, _, rfl⟩ : isFn (meth 19 2) ?a178 ?b178 ?s178) (⟨_, _, _, _, _, _, _, rfl⟩ : isFn (meth 19 3) ?a185 ?b185 ?s185) (⟨_, _, _, _, _, _, _, rfl⟩ : isFn (meth 19 4) ?a192 ?b192 ?s192) (⟨_, _, _, _, _, _, _, rfl⟩ : isFn (meth 19 5) ?a199 ?b199 ?s199) (⟨_, _, _, _, _, _, _, rfl⟩ : isFn (meth 19 6) ?a206 ?b206 ?s206) (⟨_, _, _, _, _, _, _, rfl⟩ : isFn (cell 20) ?a220 ?b220 ?s220) (⟨_, _, _, _, _, _, _, rfl⟩ : isFn (cell 21) ?a227 ?b227 ?s227) (⟨_, _, _, _, _, _, _, rfl⟩ : isFn (cell 22) ?a234 ?b234 ?s234) (⟨_, _, _, _, _, _, _, rfl⟩ : isFn (cell 23) ?a241 ?b241 ?s241) (⟨_, _, _, _, _, _, _, rfl⟩ : isFn (cell 24) ?a248 ?b248 ?s248) (⟨_, _, _, _, _, _, _, rfl⟩ : isFn (cell 25) ?a255 ?b255 ?s255) (⟨_, _, _, _, _, _, _, rfl⟩ : isFn (cell 26) ?a262 ?b262 ?s262) (⟨_, _, _, _, _, _, _, rfl⟩ : isFn (cell 27) ?a269 ?b269 ?s269) (⟨_, _, _, _, _, _, _, rfl⟩ : isFn (cell 28) ?a276 ?b276 ?s276) (⟨_, _, _, _, _, _, _, rfl⟩ : isFn (cell 29) ?a283 ?b283 ?s283) (⟨_, _, _, _, _, _, _, rfl⟩ : isFn (cell 31) ?a290 ?b290 ?s290) (⟨_, _, _, _, _, _, _, rfl⟩ : isFn (cell 32) ?a297 ?b297 ?s297) (⟨_, _, _, _, _, _, _, rfl⟩ : isFn (cell 33) ?a304 ?b304 ?s304) (⟨_, _, _, _, _, _, _, rfl⟩ : isFn (cell 34) ?a311 ?b311 ?s311) (⟨_, _, _, _, _, _, _, rfl⟩ : isFn (cell 35) ?a318 ?b318 ?s318) (⟨_, _, _, _, _, _, _, rfl⟩ : isFn (cell 36) ?a325 ?b325 ?s325) (⟨_, _, _, _, _, _, _, rfl⟩ : isFn (cell 37) ?a330 ?b330 ?s330) (⟨_, _, _, _, _, _, _, rfl⟩ : isFn (cell 38) ?a337 ?b337 ?s337) (⟨_, _, _, _, _, _, _, rfl⟩ : isFn (cell 39) ?a344 ?b344 ?s344) (⟨_, _, _, _, _, _, _, rfl⟩ : isFn (cell 40) ?a351 ?b351 ?s351) (⟨_, _, _, _, _, _, _, rfl⟩ : isFn (cell 41) ?a358 ?b358 ?s358))
noncomputable abbrev hd.viewOf {c0 : Stmt} {c1 : Stmt} {c2 : Stmt} {c3 : Stmt} {c4 : Stmt} {c5 : Stmt} {c6 : Stmt} {c7 : Stmt} {c8 : Stmt} {c9 : Stmt} {c10 : Stmt} {c11 : Stmt} {c12 : Stmt} {c13 : Stmt} {c14 : Stmt} {c15 : Stmt} {c16 : Stmt} {c17 : Stmt} {c18 : Stmt} {c19 : Stmt} {c20 : Stmt} {c21 : Stmt} {c22 : Stmt} {c23 : Stmt} {c24 : Stmt} {c25 : Stmt} {c26 : Stmt} {c27 : Stmt} {c28 : Stmt} {c29 : Stmt} {c30 : Stmt} {c31 : Stmt} {c32 : Stmt} {c33 : Stmt} {c34 : Stmt} {c35 : Stmt} {c36 : Stmt} {c37 : Stmt} {c38 : Stmt} {c39 : Stmt} {c40 : Stmt} {c41 : Stmt} (_ : PySem.Challenge.pw_nu0084_01.main.body = [c0, c1, c2, c3, c4, c5, c6, c7, c8, c9, c10, c11, c12, c13, c14, c15, c16, c17, c18, c19, c20, c21, c22, c23, c24, c25, c26, c27, c28, c29, c30, c31, c32, c33, c34, c35, c36, c37, c38, c39, c40, c41]) : Program :=
  { PySem.Challenge.rw_nu0084_01.row.toRowW.1 with main := { PySem.Challenge.rw_nu0084_01.row.toRowW.1.main with body := [c1, c2, c3, c5, c6, c7, c8, c9, c10, c11, c12, c13, c14, c15, c16, c17, c18, c19, c20, c21, c22, c23, c24, c25, c26, c27, c28, c29, c31, c32, c33, c34, c35, c36, c37, c38, c39, c40, c41] } }
noncomputable def hd.view_39 : Program := hd.viewOf rfl
end

section
open PySem PySem.W PySem.Calls PySem.Spec PyProof.Rows

theorem hd.keys : ∀ P : Params, [2, 3, 15, 22, 23, 25, 26, 28, 29, 30, 31, 32, 33, 36, 43, 44, 45, 48, 55, 57, 58, 60, 61, 62, 63, 64, 74, 76, 77, 79, 80, 81, 82, 83, 84, 85, 95, 97, 98, 100, 101, 102, 103, 104, 105, 106, 116, 118, 119, 121, 122, 123, 124, 125, 126, 127, 137, 139, 140, 142, 143, 144, 145, 146, 147, 148, 158, 160, 161, 163, 164, 165, 167, 168, 170, 171, 172, 174, 175, 177, 178, 179, 181, 182, 184, 185, 186, 188, 189, 191, 192, 193, 195, 196, 198, 199, 200, 202, 203, 205, 206, 207, 208, 209, 210, 211, 214, 216, 217, 219, 220, 221, 223, 224, 226, 227, 228, 230, 231, 233, 234, 235, 237, 238, 240, 241, 242, 244, 245, 247, 248, 249, 251, 252, 254, 255, 256, 258, 259, 261, 262, 263, 265, 266, 268, 269, 270, 272, 273, 275, 276, 277, 279, 280, 282, 283, 284, 286, 287, 289, 290, 291, 293, 294, 296, 297, 298, 300, 301, 303, 304, 305, 307, 308, 310, 311, 312, 314, 315, 317, 318, 319, 321, 322, 324, 325, 326, 329, 330, 331, 333, 334, 336, 337, 338, 340, 341, 343, 344, 345, 347, 348, 350, 351, 352, 354, 355, 357, 358] = (hd.heap_39 P).map (·.1) := fun _ => by kernel_rfl
noncomputable abbrev hd.hook : Hook := kHook hd.heap_39 [2, 3, 15, 22, 23, 25, 26, 28, 29, 30, 31, 32, 33, 36, 43, 44, 45, 48, 55, 57, 58, 60, 61, 62, 63, 64, 74, 76, 77, 79, 80, 81, 82, 83, 84, 85, 95, 97, 98, 100, 101, 102, 103, 104, 105, 106, 116, 118, 119, 121, 122, 123, 124, 125, 126, 127, 137, 139, 140, 142, 143, 144, 145, 146, 147, 148, 158, 160, 161, 163, 164, 165, 167, 168, 170, 171, 172, 174, 175, 177, 178, 179, 181, 182, 184, 185, 186, 188, 189, 191, 192, 193, 195, 196, 198, 199, 200, 202, 203, 205, 206, 207, 208, 209, 210, 211, 214, 216, 217, 219, 220, 221, 223, 224, 226, 227, 228, 230, 231, 233, 234, 235, 237, 238, 240, 241, 242, 244, 245, 247, 248, 249, 251, 252, 254, 255, 256, 258, 259, 261, 262, 263, 265, 266, 268, 269, 270, 272, 273, 275, 276, 277, 279, 280, 282, 283, 284, 286, 287, 289, 290, 291, 293, 294, 296, 297, 298, 300, 301, 303, 304, 305, 307, 308, 310, 311, 312, 314, 315, 317, 318, 319, 321, 322, 324, 325, 326, 329, 330, 331, 333, 334, 336, 337, 338, 340, 341, 343, 344, 345, 347, 348, 350, 351, 352, 354, 355, 357, 358] hd.keys
noncomputable abbrev hd.loose : List Str := [Str.ofString "BoardError"]
noncomputable abbrev hd.prog : Program := PySem.Challenge.rw_nu0084_01.row.toRowW.1
noncomputable abbrev hd.look (s : Shared) : Bool := xlAt hd.view_39 [] s && recOk PySem.Challenge.rw_nu0084_01.row.records s
/- two lists of objects by their addresses, as one -/
noncomputable def weave : Nat → Frag → Frag → List Obj
  | 0, _, _ => []
  | _ + 1, [], [] => []
  | n + 1, (_, o) :: l, [] => o :: weave n l []
  | n + 1, [], (_, p) :: r => p :: weave n [] r
  | n + 1, (a, o) :: l, (b, p) :: r => match Nat.ble a b with
    | true => o :: weave n l ((b, p) :: r)
    | false => p :: weave n ((a, o) :: l) r
/- the text's names and its marks as they stood earlier -/
noncomputable def midD (v : Value) (m : Nat) : Obj → Obj
  | ⟨c, od, .dict ⟨e :: es⟩ _, sl⟩ => ⟨c, od, .dict ⟨⟨e.hash, e.key, v⟩ :: es.take (m - 1)⟩ m, sl⟩
  | o => o
noncomputable def midF (m : Nat) : Obj → Obj
  | ⟨c, od, .fields ⟨vs⟩, sl⟩ => ⟨c, od, .fields ⟨vs.take m⟩, sl⟩
  | o => o
noncomputable def mid (v : Value) (m3 m12 : Nat) : Nat → List Obj → List Obj
  | _, [] => []
  | i, o :: l => (match i with | 3 => midD v m3 o | 12 => midF m12 o | _ => o) :: mid v m3 m12 (i + 1) l
/- the heap and the state when n objects stand -/
noncomputable def hd.hp (n : Nat) (v : Value) (m3 m12 : Nat) (P : Params) : Heap := ⟨⟨mid v m3 m12 0 ((weave 359 (hd.heap_39 P) (hd.rest P)).take n)⟩, (boot_heap P).life⟩
noncomputable abbrev hd.st (n : Nat) (v : Value) (m3 m12 tk : Nat) (w : World) (os : OsState) : Shared := ⟨hd.hp n v m3 m12 w.params, ⟨[]⟩, boot_drawn, tk, os⟩
noncomputable abbrev hd.s0 (w : World) (os : OsState) : Shared := ⟨boot_heap w.params, ⟨[]⟩, boot_drawn, boot_toks, os⟩
noncomputable abbrev hd.body : List Stmt := behindTheImports hd.prog
noncomputable abbrev hd.env : Env := { scope := hd.prog.main.scope, locals := mainNs, globals := mainNs, cells := [], code := .ref 13, frame := some 14 }
noncomputable abbrev hd.cd : Code := .body hd.body hd.env
noncomputable abbrev hd.under : List Frame := [topFrame ⟨0, 0, 0, 0⟩]
theorem piece_take {tb : String → Option Builtin} {p : Program} {w : World} {n₀ : Nat} {ann : Option Value} {env : Env} {q : Pos} {n N : Nat} {s s' r : Shared} {b : List Stmt} (m : Nat) {c : Code} {pos p' : Pos}
    (h : segRun tb p w n₀ ann 1 n s (piecesOf (b.take m) env c pos [topFrame q]) = some (.next, s', c, p'))
    (k : topRun tb p w n₀ ann N s' (restOf (b.drop m) env c p' [topFrame q]) = some r) : topRun tb p w n₀ ann (n + N) s (restOf b env c pos [topFrame q]) = some r := by
  have := piece_app h k
  rwa [List.take_append_drop] at this
section
set_option maxRecDepth 1000000
theorem hd.p0 (w : World) (os : OsState) : topGo treeTable hd.prog w 11 (some (.ref 6)) 12 (hd.s0 w os) (topStub hd.prog) = some ((hd.st 15 (.str (Str.ofString "__main__") 164) 9 0 187 w os), ⟨denote treeTable hd.cd, hd.cd, ⟨0, 0, 0, 0⟩, hd.under⟩) := by
  kernel_rfl
theorem hd.p1 (w : World) (os : OsState) : segRun treeTable hd.prog w 11 (some (.ref 6)) 1 1 (hd.st 15 (.str (Str.ofString "__main__") 164) 9 0 187 w os) (blockOf hd.body hd.env hd.cd ⟨0, 0, 0, 0⟩ hd.under) = some (.next, (hd.st 15 (.str (Str.ofString "__main__") 164) 9 0 187 w os), hd.cd, ⟨0, 0, 0, 0⟩) := by
  rewrite [PySem.W.Fast.te14374325043358763698]
  kernel_rfl
theorem hd.p2 (w : World) (os : OsState) : segRun treeTable hd.prog w 11 (some (.ref 6)) 1 788 (hd.st 15 (.str (Str.ofString "__main__") 164) 9 0 187 w os) (piecesOf (hd.body.take 15) hd.env hd.cd ⟨0, 0, 0, 0⟩ hd.under) = some (.next, (hd.st 67 (.str (Str.ofString "pipeboard.shell") 259) 22 9 281 w os), hd.cd, ⟨24, 0, 24, 6⟩) := by
  rewrite [PySem.W.Fast.te14374325043358763698, PySem.W.Fast.te14364793385576792824]
  kernel_rfl
theorem hd.p3 (w : World) (os : OsState) : segRun treeTable hd.prog w 11 (some (.ref 6)) 1 451 (hd.st 67 (.str (Str.ofString "pipeboard.shell") 259) 22 9 281 w os) (piecesOf ((hd.body.drop 15).take 2) hd.env hd.cd ⟨24, 0, 24, 6⟩ hd.under) = some (.next, (hd.st 109 (.str (Str.ofString "pipeboard.shell") 259) 24 15 345 w os), hd.cd, ⟨29, 0, 35, 36⟩) := by
  rewrite [PySem.W.Fast.te14374325043358763698, PySem.W.Fast.te14364793385576792824]
  kernel_rfl
theorem hd.p4 (w : World) (os : OsState) : segRun treeTable hd.prog w 11 (some (.ref 6)) 1 449 (hd.st 109 (.str (Str.ofString "pipeboard.shell") 259) 24 15 345 w os) (piecesOf (((hd.body.drop 15).drop 2).take 2) hd.env hd.cd ⟨29, 0, 35, 36⟩ hd.under) = some (.next, (hd.st 151 (.str (Str.ofString "pipeboard.shell") 259) 26 21 407 w os), hd.cd, ⟨42, 0, 45, 30⟩) := by
  rewrite [PySem.W.Fast.te14374325043358763698, PySem.W.Fast.te14364793385576792824]
  kernel_rfl
theorem hd.p5 (w : World) (os : OsState) : segRun treeTable hd.prog w 11 (some (.ref 6)) 1 413 (hd.st 151 (.str (Str.ofString "pipeboard.shell") 259) 26 21 407 w os) (piecesOf ((((hd.body.drop 15).drop 2).drop 2).take 1) hd.env hd.cd ⟨42, 0, 45, 30⟩ hd.under) = some (.next, (hd.st 214 (.str (Str.ofString "pipeboard.shell") 259) 27 24 482 w os), hd.cd, ⟨46, 0, 80, 42⟩) := by
  rewrite [PySem.W.Fast.te14374325043358763698, PySem.W.Fast.te14364793385576792824]
  kernel_rfl
theorem hd.p6 (w : World) (os : OsState) : segRun treeTable hd.prog w 11 (some (.ref 6)) 1 303 (hd.st 214 (.str (Str.ofString "pipeboard.shell") 259) 27 24 482 w os) (piecesOf (((((hd.body.drop 15).drop 2).drop 2).drop 1).take 10) hd.env hd.cd ⟨46, 0, 80, 42⟩ hd.under) = some (.next, (hd.st 284 (.str (Str.ofString "pipeboard.shell") 259) 37 54 564 w os), hd.cd, ⟨153, 0, 156, 24⟩) := by
  rewrite [PySem.W.Fast.te14374325043358763698, PySem.W.Fast.te14364793385576792824]
  kernel_rfl
theorem hd.p7 (w : World) (os : OsState) : segRun treeTable hd.prog w 11 (some (.ref 6)) 1 358 (hd.st 284 (.str (Str.ofString "pipeboard.shell") 259) 37 54 564 w os) (piecesOf ((((((hd.body.drop 15).drop 2).drop 2).drop 1).drop 10).take 12) hd.env hd.cd ⟨153, 0, 156, 24⟩ hd.under) = some (.next, (hd.st 359 (.str (Str.ofString "law_nu0084_01") 564) 48 87 674 w os), hd.cd, ⟨274, 0, 286, 69⟩) := by
  rewrite [PySem.W.Fast.te14374325043358763698, PySem.W.Fast.te14364793385576792824]
  kernel_rfl
theorem hd.p8 (w : World) (os : OsState) : topRun treeTable hd.prog w 11 (some (.ref 6)) 2 (hd.st 359 (.str (Str.ofString "law_nu0084_01") 564) 48 87 674 w os) (restOf ((((((hd.body.drop 15).drop 2).drop 2).drop 1).drop 10).drop 12) hd.env hd.cd ⟨274, 0, 286, 69⟩ hd.under) = some (hd.st 359 (.str (Str.ofString "law_nu0084_01") 564) 48 87 674 w os) := by
  rewrite [PySem.W.Fast.te14082659384304107361]
  kernel_rfl
theorem hd.run (w : World) (os : OsState) : topRun treeTable hd.prog w 11 (some (.ref 6)) (12 + (1 + (788 + (451 + (449 + (413 + (303 + (358 + 2)))))))) (hd.s0 w os) (topStub hd.prog) = some (hd.st 359 (.str (Str.ofString "law_nu0084_01") 564) 48 87 674 w os) :=
  go_top (hd.p0 w os) (piece_block (hd.p1 w os) (piece_take 15 (hd.p2 w os) (piece_take 2 (hd.p3 w os) (piece_take 2 (hd.p4 w os) (piece_take 1 (hd.p5 w os) (piece_take 10 (hd.p6 w os) (piece_take 12 (hd.p7 w os) (hd.p8 w os))))))))
theorem hd.look1 (w : World) (os : OsState) : (staticsOk (importedModules hd.prog.main.body) (boot_heap w.params) (hd.st 359 (.str (Str.ofString "law_nu0084_01") 564) 48 87 674 w os).heap && namesBound hd.prog (hd.st 359 (.str (Str.ofString "law_nu0084_01") 564) 48 87 674 w os).heap && gensDone (hd.st 359 (.str (Str.ofString "law_nu0084_01") 564) 48 87 674 w os) && laidKept (boot_heap w.params) (hd.st 359 (.str (Str.ofString "law_nu0084_01") 564) 48 87 674 w os).heap) = true := by
  rewrite [PySem.W.Fast.te5923862056798008813]
  kernel_rfl
theorem hd.look3 (w : World) (os : OsState) : hd.hook.obs (hd.st 359 (.str (Str.ofString "law_nu0084_01") 564) 48 87 674 w os) = hd.hook.val w := by
  kernel_rfl
theorem hd.look2 (w : World) (os : OsState) : openSeen hd.view_39 hd.loose (importedModules hd.prog.main.body) hd.look true (hd.st 359 (.str (Str.ofString "law_nu0084_01") 564) 48 87 674 w os) = openGood hd.view_39 hd.loose := by
  rewrite [PySem.W.Fast.te4187177175401517315, PySem.W.Fast.te5923862056798008813]
  kernel_rfl
end
end

section
open PySem PySem.W PySem.Calls PySem.Spec PyProof.Rows

theorem hd.opens : opening hd.prog = plainProg hd.prog.main.scope.names := by kernel_rfl
theorem hd.fence : ∀ s, fenceModules? hd.prog s = some s := fun s => by kernel_rfl
theorem hd.size : ∀ w : World, ((boot_heap w.params).isNs mainGlobals && (⟨[]⟩ : Array GenState).size == 0, (boot_heap w.params).objs.size, (boot_heap w.params).nsMap mainGlobals "__annotations__") = (true, 11, some (.ref 6)) := fun w => by
  kernel_rfl
theorem hd.left : LeftO hd.prog hd.view_39 hd.loose hd.look hd.hook.obs hd.hook.val 5638 :=
  LeftO.of_pieces (H₁ := hd.hp 359 (.str (Str.ofString "law_nu0084_01") 564) 48 87) (boot_open hd.opens (by decide) hd.fence) hd.size hd.run (by decide +kernel) fun w => funext fun os => looks_pair (hd.look1 w os) (looks_pair (hd.look2 w os) (hd.look3 w os))
theorem hd.opened : looksOpen PySem.Challenge.rw_nu0084_01.row.prog = true := by
  rewrite [PySem.W.Fast.te12908688711261696721, PySem.W.Fast.te2368527892694137696]
  kernel_rfl
theorem hd.said : PySem.Challenge.rw_nu0084_01.wellSaid = true := by
  unfold OpenLaw.wellSaid OpenRow.wellSaid OpenRow.partSaid
  rw [hd.opened]
  kernel_rfl
theorem hd.more : (chainsOk hd.view_39 && opensWell PySem.Challenge.rw_nu0084_01.row.prog && (frees PySem.Challenge.rw_nu0084_01.row.toRowW && PySem.Challenge.rw_nu0084_01.row.within.isEmpty)) = true := by decide +kernel

theorem hd {d : DefRec} {kwd : List (Str × Expr)} (hdef : defOf hd.view_39 PySem.Challenge.rw_nu0084_01.row.name = some (d, kwd))
    (hp : PySem.Challenge.rw_nu0084_01.row.prog.theDef PySem.Challenge.rw_nu0084_01.row.name = some (d.params, d.body, d.scope))
    (hk : kwWritten? d.params.kwonlyargs d.params.kw_defaults = some kwd)
    (walk : WalkO hd.view_39 hd.loose (XL hd.view_39 []) hd.hook.says PySem.Challenge.rw_nu0084_01.row.toRowW d kwd fun f vs => PySem.call f vs) : PySem.Challenge.rw_nu0084_01.Holds := by
  w_on
  refine holds_law hd.said fun said => ?_
  refine holds_open (q := hd.view_39) (loose := hd.loose) (Xt := hd.look) (XP := XL hd.view_39 []) (Yf := hd.hook.obs) (Ya := hd.hook.val) (YP := hd.hook.says) (N := 5638)
    hd.left hd.hook.of hd.hook.keeps (fun s e => xl_of s (Bool.and_eq_true_iff.mp e).1) XL.keeps hdef hp hk (fun s e => recFacts_of (Bool.and_eq_true_iff.mp e).2) rfl said hd.more
    ⟨rfl, rfl, rfl, rfl, rfl, by decide +kernel⟩ ?hw walk
  case hw => w_witness2
end

section
open PySem PySem.W PySem.Calls PySem.Spec PyProof.Rows

noncomputable abbrev PR : Program := PySem.Challenge.rw_nu0084_01.row.prog

/- what stands of the world around a call: the frames below it and the text's own objects, both over a heap B that nothing turns -/
structure Amb (w : World) (mean : ExcName → Option Value) (mg mb : Str → Option Value) (B : Heap) (A : Around) (l : List Env) (h : Heap) : Prop where
  frames : A.frames = some l
  stays : B.StaysIn h
  funs : h.FunFrames B l
  size : B.objs.size ≤ h.objs.size
  inK : (hd.heap_39 w.params).In B
  top : Top hd.view_39 (looseW hd.view_39 [Str.ofString "BoardError"]) mean mg mb B
  hand : A.handled = none

/- the heap's other objects: all that stand neither in B nor at one of the addresses ex -/
noncomputable def others (B h : Heap) (ex : List Addr) : List (Addr × Obj) := by
  classical
  exact (List.range h.objs.size).filterMap fun a => if a ∈ ex ∨ (B.get? a).isSome then none else (h.get? a).map fun o => (a, o)

theorem mem_others {B h : Heap} {ex : List Addr} {a : Addr} {o : Obj} : (a, o) ∈ others B h ex ↔ h.get? a = some o ∧ a ∉ ex ∧ B.get? a = none := by
  classical
  unfold others
  rw [List.mem_filterMap]
  constructor
  · rintro ⟨b, hb, e⟩
    split at e
    · cases e
    · rename_i hn
      cases q : h.get? b with
      | none => rw [q] at e; cases e
      | some o' =>
        rw [q] at e
        cases e
        refine ⟨q, fun hm => hn (.inl hm), ?_⟩
        cases z : B.get? a with
        | none => rfl
        | some _ => exact absurd (.inr (by rw [z]; rfl)) hn
  · rintro ⟨h1, h2, h3⟩
    refine ⟨a, List.mem_range.mpr (Heap.lt_size h1), ?_⟩
    rw [if_neg (by
      rw [h3]
      rintro (q | q)
      · exact h2 q
      · cases q), h1]
    rfl

theorem all_cons {α : Type} {P : α → Prop} {a : α} {l : List α} (h : P a) (t : ∀ p ∈ l, P p) : ∀ p ∈ a :: l, P p := fun p hp => by
  rcases List.mem_cons.mp hp with rfl | hp
  · exact h
  · exact t p hp
/- all objects of h, but those at W, stand in h' as they stood -/
noncomputable def Step (W : List Addr) (h h' : Heap) : Prop := ∀ a o, h.get? a = some o → a ∉ W → h'.get? a = some o

theorem Step.refl {W : List Addr} {h : Heap} : Step W h h := fun _ _ e _ => e
theorem Step.trans {W : List Addr} {h h' h'' : Heap} (x : Step W h h') (y : Step W h' h'') : Step W h h'' := fun a o e n => y a o (x a o e n) n
theorem Step.weaken {W W' : List Addr} {h h' : Heap} (x : Step W h h') (s : ∀ a ∈ W, a ∈ W') : Step W' h h' := fun a o e n => x a o e fun m => n (s a m)

theorem step_of {B h h' : Heap} {L : Addr} {m : Str → Option Value} {W : List Addr} {news : List (Addr × Obj)} (F : Fr B L h' m) (N : News B L h' news) (hb : B.StaysIn h) (hs : ∀ p ∈ others B h W, p ∈ news) : Step W h h' := fun a o e n => by
  cases q : B.get? a with
  | some o' =>
    have := hb a o' q
    rw [e] at this
    cases this
    exact F.keep a o q
  | none => exact (N _ (hs (a, o) (mem_others.mpr ⟨e, n, q⟩))).1

section
variable {w : World} {mean : ExcName → Option Value} {mg mb : Str → Option Value} {B : Heap} {A : Around} {l : List Env} {s : Shared}

theorem call_raw {name qual : Str} {params : Arguments} {body : List Stmt} {scope : Scope} {dV kV doc pm cdv ct oc : Value} {an od : Option Addr} {osl : Array (Option Value)} {f : Addr} {args : Args} {binds : List (Str × Value)} {R : Result → Shared → Prop}
    (ho : (hd.heap_39 w.params).lookup f = some ⟨oc, od, .func (fnOf name qual params body scope dV kV doc pm an cdv ct), osl⟩) (hcd : codeIn (hd.heap_39 w.params) cdv qual = true)
    (m : Amb w mean mg mb B A l s.heap) (hroom : A.depth < recursionLimit)
    (hbind : BindsTo s (fnOf name qual params body scope dV kV doc pm an cdv ct) args binds) (hloc : ∀ y ∈ binds, scope.names.lookup y.1 = some .local)
    (news : List (Addr × Obj)) (hnews : ∀ p ∈ news, s.heap.get? p.1 = some p.2 ∧ B.get? p.1 = none)
    (h : ∀ L h₁, L = s.heap.objs.size → Fr B L h₁ (fun y => binds.reverse.lookup y) → News B L h₁ news → Amb w mean mg mb B (A.deeper (envOf qual scope L f cdv)) (envOf qual scope L f cdv :: l) h₁ →
      (∀ a o, s.heap.get? a = some o → h₁.get? a = some o) →
      wpAny (model PySem.Challenge.rw_nu0084_01.row.prog w) (A.deeper (envOf qual scope L f cdv)) (execs body (envOf qual scope L f cdv))
        (fun fl s' => R (.ok (.ret (match fl with | .ret v => v | _ => .none))) s')
        (fun e s' => wpAny (model PySem.Challenge.rw_nu0084_01.row.prog w) (A.deeper (envOf qual scope L f cdv)) (leaving (envOf qual scope L f cdv) e) (fun _ s'' => R (.error e) s'') (fun e' s'' => R (.error e') s'') s')
        { s with heap := h₁, toks := s.toks + binds.length })
    (hco : scope.isCoroutine = false := by rfl) (hgen : scope.isGenerator = false := by rfl) (hk : scope.kind = .function := by rfl)
    (hcell : ∀ x ∈ scope.names, x.2 ≠ .cell := by decide) : codeAny (model PySem.Challenge.rw_nu0084_01.row.prog w) A (.call (.ref f) args) R s := by
  have X := m.inK.keeps m.stays
  refine codeAny_call_def (fd := fnOf name qual params body scope dV kV doc pm an cdv ct) (body := body) (binds := binds) hroom (X _ _ ho) rfl (m.top.nolimit.keeps m.stays) (codeRec_of X hcd) rfl hbind hcell hloc (fun h₁ hns hk₁ => ?_) hco hgen hk
  have F : Fr B s.heap.objs.size h₁ (fun y => binds.reverse.lookup y) := ⟨hns, fun b o e => hk₁ b o (m.stays b o e), m.size⟩
  have hLB : B.get? s.heap.objs.size = none := by
    cases hq : B.get? s.heap.objs.size with
    | none => rfl
    | some o => exact absurd (Nat.lt_of_lt_of_le (Heap.lt_size hq) m.size) (Nat.lt_irrefl _)
  refine h _ h₁ rfl F (fun p hp => ⟨hk₁ _ _ (hnews p hp).1, Nat.ne_of_lt (Heap.lt_size (hnews p hp).1), (hnews p hp).2⟩)
    ⟨Around.frames_deeper m.frames, fun b o e => hk₁ b o (m.stays b o e), ?_, Nat.le_trans m.size (Nat.le_of_lt (Heap.lt_size hns.choose_spec.choose_spec.choose_spec.1) |> fun h => h), m.inK, m.top, m.hand⟩ hk₁
  · exact .cons (by show scope.kind ≠ .module; rw [hk]; decide) rfl hns hLB (m.funs.of_keeps fun b o e _ => ⟨o, hk₁ b o e, rfl⟩)
end


/- a goal that the walk is to leave alone -/
noncomputable def Stop (P : Prop) : Prop := P
/- the walk's count of texts put behind a variable -/
theorem gen_tk {α : Type} {M : Model} {A : Around} {t : Sem α} {Q : α → Shared → Prop} {E : Value → Shared → Prop} {h : Heap} {g : Array GenState} {d : Drawn} {o : OsState} {k j : Nat}
    (H : ∀ tk : Nat, wpAny M A t Q E ⟨h, g, d, tk, o⟩) : wpAny M A t Q E ⟨h, g, d, k + j, o⟩ := H _
/- a bracket over a display: what is let go is nothing -/
theorem turn_S {prog : Program} {w : World} {A : Around} {E : Value → Shared → Prop} {s : Shared} {value slice : PySem.Expr} {o i : Value} {Q : Value → Shared → Prop}
    (h : wpAny (model prog w) A (subscriptTail (.Name (Str.ofString "_") ⟨0, 0, 0, 0⟩) slice o i) Q E s) : wpAny (model prog w) A (subscriptTail value slice o i) Q E s := kba_turn (fun _ => rfl) h
theorem stop_here {P : Prop} (h : Stop P) : P := h

theorem others_ne {B h : Heap} {ex : List Addr} {a : Addr} (ha : a ∈ ex) : ∀ p ∈ others B h ex, p.1 ≠ a := fun p hp e => (mem_others.mp (show (p.1, p.2) ∈ _ from hp)).2.1 (by rw [e]; exact ha)
theorem others_here {B h : Heap} {ex : List Addr} : ∀ p ∈ others B h ex, h.get? p.1 = some p.2 ∧ B.get? p.1 = none := fun p hp => let q := mem_others.mp (show (p.1, p.2) ∈ _ from hp); ⟨q.1, q.2.2⟩

/- an address that neither B nor a frame of the stack holds -/
structure Free (B : Heap) (l : List Env) (a : Addr) : Prop where
  base : B.get? a = none
  frame : a ∉ l.filterMap (·.frame)

theorem Free.push {B : Heap} {l : List Env} {a L : Addr} {env : Env} (x : Free B l a) (h : a ≠ L) (e : env.frame = some L) : Free B (env :: l) a := ⟨x.base, fun hm => by
  rw [List.filterMap_cons, e] at hm
  rcases List.mem_cons.mp hm with q | q
  · exact h q
  · exact x.frame q⟩

section
variable {w : World} {mean : ExcName → Option Value} {mg mb : Str → Option Value} {B : Heap} {A : Around} {l : List Env}

/- the surroundings now, in a frame that a call has opened over the heap h₀ -/
theorem amb_now {h₀ h : Heap} {W : List Addr} {env : Env} {L : Addr} {m : Str → Option Value} {news : List (Addr × Obj)} (am : Amb w mean mg mb B A l h₀) (F : Fr B L h m) (N : News B L h news) (hs : ∀ p ∈ others B h₀ W, p ∈ news)
    (hW : ∀ a ∈ W, Free B l a) (hf : env.frame = some L) (hk : env.scope.kind = .function) : Amb w mean mg mb B (A.deeper env) (env :: l) h := by
  have hLB : B.get? L = none := by
    cases hq : B.get? L with
    | none => rfl
    | some o => exact absurd (Nat.lt_of_lt_of_le (Heap.lt_size hq) F.above) (Nat.lt_irrefl _)
  refine ⟨Around.frames_deeper am.frames, F.keep, ?_, Nat.le_trans F.above (Nat.le_of_lt F.ns.lt), am.inK, am.top, am.hand⟩
  refine .cons (by rw [hk]; decide) hf F.ns hLB ?_
  have key : ∀ {l' : List Env}, (∀ a ∈ W, a ∉ l'.filterMap (·.frame)) → h₀.FunFrames B l' → h.FunFrames B l' := by
    intro l'
    induction l' with
    | nil => intro _ _; trivial
    | cons e r ih =>
      rintro hne ⟨h1, ⟨L', o, h2, h3, h4, h5⟩, h6⟩
      refine ⟨h1, ⟨L', o, h2, h3, ?_, h5⟩, ih (fun a ha hm => hne a ha ?_) h6⟩
      · exact (N _ (hs (L', o) (mem_others.mpr ⟨h4, fun hm => hne _ hm (by rw [List.filterMap_cons, h2]; exact .head _), h3⟩))).1
      · rw [List.filterMap_cons, h2]
        exact .tail _ hm
  exact key (fun a ha => (hW a ha).frame) am.funs

inductive Snap (B : Heap) (L : Addr) (h' : Heap) (m : Str → Option Value) (ex' : List (Addr × Obj)) (rest : List (Addr × Obj)) (W : List Addr) (X : List Addr)  : Prop
  | mk : (Fr B L h' m) → ∀ rest', (News B L h' (ex' ++ rest')) → ((∀ p ∈ rest, p.1 ∉ W → p.1 ∉ X → p ∈ rest')) → ((∀ a o, h'.get? a = some o → a ≠ L → a ∉ X → B.get? a = none → (a, o) ∈ rest')) → ((∀ a ∈ X, ∀ p ∈ rest', p.1 ≠ a)) → Snap B L h' m ex' rest W X
/- behind a call: the frame, and the ledger laid anew -/
theorem snap {h h' : Heap} {W X : List Addr} {L : Addr} {m : Str → Option Value} {ex rest : List (Addr × Obj)} (F : Fr B L h m) (N : News B L h (ex ++ rest)) (st : Step W h h') (hWL : L ∉ W) (hWB : ∀ a ∈ W, B.get? a = none)
    (ex' : List (Addr × Obj)) (hex : ∀ p ∈ ex', h'.get? p.1 = some p.2 ∧ p.1 ≠ L ∧ B.get? p.1 = none) :
    Snap B L h' m ex' rest W X := by
  obtain ⟨oL, es, ep, hL, r⟩ := F.ns
  refine ⟨⟨⟨oL, es, ep, st _ _ hL hWL, r⟩, fun b o e => st b o (F.keep b o e) (fun hm => by rw [hWB b hm] at e; cases e), F.above⟩, others B h' (L :: X), ?_, ?_, ?_, ?_⟩
  · intro p hp
    rcases List.mem_append.mp hp with hp | hp
    · exact hex p hp
    · have q := mem_others.mp (show (p.1, p.2) ∈ _ from hp)
      exact ⟨q.1, fun e => q.2.1 (by rw [e]; exact .head _), q.2.2⟩
  · intro p hp hw hx
    have n := N p (List.mem_append_right _ hp)
    exact mem_others.mpr ⟨st _ _ n.1 hw, fun hm => by
      rcases List.mem_cons.mp hm with e | e
      · exact n.2.1 e
      · exact hx e, n.2.2⟩
  · intro a o h1 h2 h3 h4
    exact mem_others.mpr ⟨h1, fun hm => by
      rcases List.mem_cons.mp hm with e | e
      · exact h2 e
      · exact h3 e, h4⟩
  · intro a ha
    exact others_ne (List.mem_cons_of_mem _ ha)
end

/- a call of the def f ends, and what it gives and the heap that it leaves are so -/
noncomputable def Gives (w : World) (A : Around) (f : Addr) (args : List Value) (s : Shared) (P : Value → Heap → Prop) : Prop :=
  ∀ R : Result → Shared → Prop, (∀ v h' tk', P v h' → R (.ok (.ret v)) { s with heap := h', toks := tk' }) → codeAny (model PySem.Challenge.rw_nu0084_01.row.prog w) A (.call (.ref f) ⟨args, []⟩) R s

/- as Gives, or it raises: Bad is said of the exception and of the heap -/
noncomputable def GivesOr (w : World) (A : Around) (f : Addr) (args : List Value) (s : Shared) (P : Value → Heap → Prop) (Bad : Addr → Heap → Prop) : Prop :=
  ∀ R : Result → Shared → Prop, (∀ v h' tk', P v h' → R (.ok (.ret v)) { s with heap := h', toks := tk' }) → (∀ e h' tk', Bad e h' → R (.error (.ref e)) { s with heap := h', toks := tk' }) →
    codeAny (model PySem.Challenge.rw_nu0084_01.row.prog w) A (.call (.ref f) ⟨args, []⟩) R s

theorem Gives.use {w : World} {A : Around} {f : Addr} {args : List Value} {s : Shared} {P : Value → Heap → Prop} (g : Gives w A f args s P) {Q E : Value → Shared → Prop}
    (h : ∀ v h' tk', P v h' → Q v { s with heap := h', toks := tk' }) : wpAny (model PySem.Challenge.rw_nu0084_01.row.prog w) A (call (.ref f) args) Q E s :=
  wpAny_call (g _ h)
theorem GivesOr.use {w : World} {A : Around} {f : Addr} {args : List Value} {s : Shared} {P : Value → Heap → Prop} {Bad : Addr → Heap → Prop} (g : GivesOr w A f args s P Bad) {Q E : Value → Shared → Prop}
    (h : ∀ v h' tk', P v h' → Q v { s with heap := h', toks := tk' }) (hb : ∀ e h' tk', Bad e h' → E (.ref e) { s with heap := h', toks := tk' }) :
    wpAny (model PySem.Challenge.rw_nu0084_01.row.prog w) A (call (.ref f) args) Q E s :=
  wpAny_call (g _ h hb)
theorem Gives.imp {w : World} {A : Around} {f : Addr} {args : List Value} {s : Shared} {P P' : Value → Heap → Prop} (g : Gives w A f args s P) (h : ∀ v h', P v h' → P' v h') : Gives w A f args s P' :=
  fun R k => g R fun v h' tk' p => k v h' tk' (h v h' p)

noncomputable abbrev retQ (R : Value → Shared → Prop) : Flow → Shared → Prop := fun fl s' => match fl with
  | .ret v => R v s'
  | _ => R .none s'
noncomputable abbrev seqQ (M : Model) (A : Around) (rest : List Stmt) (env : Env) (Q : Flow → Shared → Prop) (E : Value → Shared → Prop) : Flow → Shared → Prop := fun f s₁ => match f with
  | .next => wpAny M A (execs rest env) Q E s₁
  | f => Q f s₁
theorem seq_cons {M : Model} {A : Around} {st : Stmt} {rest : List Stmt} {env : Env} {Q : Flow → Shared → Prop} {E : Value → Shared → Prop} {s : Shared} (h : wpAny M A (exec st env) (seqQ M A rest env Q E) E s) : wpAny M A (execs (st :: rest) env) Q E s := wpAny_execs_cons h
noncomputable abbrev loopQ (I : Nat → Shared → Prop) (n : Nat) (Q : Flow → Shared → Prop) : Flow → Shared → Prop := fun f s₃ => match f with
  | .next | .cont => Stop (∃ m, m < n ∧ I m s₃)
  | .brk => Q .next s₃
  | .ret v => Q (.ret v) s₃
noncomputable abbrev testQ (M : Model) (A : Around) (body orelse : List Stmt) (env : Env) (I : Nat → Shared → Prop) (n : Nat) (Q : Flow → Shared → Prop) (E : Value → Shared → Prop) : Bool → Shared → Prop := fun b s₂ =>
  if b then wpAny M A (execs body env) (loopQ I n Q) E s₂ else wpAny M A (execs orelse env) Q E s₂
theorem while_rule {prog : Program} {w : World} {A : Around} {E : Value → Shared → Prop} {s : Shared} {env : Env} {test : Expr} {body orelse : List Stmt} {pos : Pos} {Q : Flow → Shared → Prop} (I : Nat → Shared → Prop)
    (turn : ∀ n s, I n s → wpAny (model prog w) A (isTrue test env (eval test env)) (testQ (model prog w) A body orelse env I n Q E) E s)
    (n : Nat) (h : I n s) (hE : PassesOwn (model prog w) A env E) : wpAny (model prog w) A (exec (.While test body orelse pos) env) Q E s := by
  refine wpAny_While (codeAny_whileLoop I (fun n s hI => ?_) n h)
  refine wpAny_passesOwn hE (wpAny_mono (turn n s hI) (fun b s₂ h₂ => ?_) fun _ _ e => e)
  cases b with
  | true =>
    simp only [if_true] at h₂ ⊢
    refine wpAny_passesOwn hE (wpAny_mono h₂ (fun f s₃ h₃ => ?_) fun _ _ e => e)
    cases f <;> exact h₃
  | false =>
    simp only [Bool.false_eq_true, if_false] at h₂ ⊢
    exact wpAny_passesOwn hE h₂

/- a loop that never raises -/
theorem while_ok {prog : Program} {w : World} {A : Around} {E : Value → Shared → Prop} {s : Shared} {env : Env} {test : Expr} {body orelse : List Stmt} {pos : Pos} {Q : Flow → Shared → Prop} (I : Nat → Shared → Prop)
    (turn : ∀ n s, I n s → wpAny (model prog w) A (isTrue test env (eval test env)) (testQ (model prog w) A body orelse env I n Q (fun _ _ => False)) (fun _ _ => False) s)
    (n : Nat) (h : I n s) : wpAny (model prog w) A (exec (.While test body orelse pos) env) Q E s :=
  wpAny_mono (while_rule I turn n h .never) (fun _ _ q => q) fun _ _ q => q.elim

/- room for d frames and u units more -/
structure Room (A : Around) (d u : Nat) : Prop where
  depth : A.depth + d < 1000
  units : A.units + u < 9900
theorem Room.deeper {A : Around} {env : Env} {d u : Nat} (r : Room A (d + 1) (u + 3)) : Room (A.deeper env) d u :=
  ⟨by have := r.depth; simp only [depth_deeper]; (first | lia | omega), by have := r.units; simp only [units_deeper]; (first | lia | omega)⟩
theorem Room.less {A : Around} {d u d' u' : Nat} (r : Room A d u) (h1 : d' ≤ d) (h2 : u' ≤ u) : Room A d' u' := ⟨by have := r.depth; (first | lia | omega), by have := r.units; (first | lia | omega)⟩
theorem Room.ok {A : Around} {d u : Nat} (r : Room A d u) : A.depth < recursionLimit := by
  have := r.depth
  show A.depth < 1000
  (first | lia | omega)
theorem Room.unitsOk {A : Around} {d u : Nat} (r : Room A d u) : A.units < cLine := by
  have := r.units
  show A.units < 9900
  (first | lia | omega)

section
variable {w : World} {mean : ExcName → Option Value} {mg mb : Str → Option Value} {B : Heap} {A : Around} {l : List Env} {s : Shared}
/- entering a def that never raises -/
theorem call_ok {name qual : Str} {params : Arguments} {body : List Stmt} {scope : Scope} {dV kV doc pm cdv ct oc : Value} {an od : Option Addr} {osl : Array (Option Value)} {f : Addr} {args : List Value} {binds : List (Str × Value)} {P : Value → Heap → Prop}
    (ho : (hd.heap_39 w.params).lookup f = some ⟨oc, od, .func (fnOf name qual params body scope dV kV doc pm an cdv ct), osl⟩) (hcd : codeIn (hd.heap_39 w.params) cdv qual = true)
    (m : Amb w mean mg mb B A l s.heap) (hroom : A.depth < recursionLimit)
    (hbind : BindsTo s (fnOf name qual params body scope dV kV doc pm an cdv ct) ⟨args, []⟩ binds) (hloc : ∀ y ∈ binds, scope.names.lookup y.1 = some .local)
    (news : List (Addr × Obj)) (hnews : ∀ p ∈ news, s.heap.get? p.1 = some p.2 ∧ B.get? p.1 = none)
    (h : ∀ L h₁ tk₁ (R : Value → Shared → Prop), L = s.heap.objs.size → Fr B L h₁ (fun y => binds.reverse.lookup y) → News B L h₁ news → Amb w mean mg mb B (A.deeper (envOf qual scope L f cdv)) (envOf qual scope L f cdv :: l) h₁ →
      (∀ a o, s.heap.get? a = some o → h₁.get? a = some o) → (∀ v h' tk', P v h' → R v { s with heap := h', toks := tk' }) →
      wpAny (model PySem.Challenge.rw_nu0084_01.row.prog w) (A.deeper (envOf qual scope L f cdv)) (execs body (envOf qual scope L f cdv))
        (retQ R) (fun _ _ => False) { s with heap := h₁, toks := tk₁ })
    (hco : scope.isCoroutine = false := by rfl) (hgen : scope.isGenerator = false := by rfl) (hk : scope.kind = .function := by rfl)
    (hcell : ∀ x ∈ scope.names, x.2 ≠ .cell := by decide) : Gives w A f args s P := fun R k =>
  call_raw ho hcd m hroom hbind hloc news hnews (fun L h₁ e F N am st => wpAny_mono (h L h₁ _ (fun v s' => R (.ok (.ret v)) s') e F N am st k) (fun fl _ q => by cases fl <;> exact q) fun _ _ q => q.elim) hco hgen hk hcell
end

theorem fits_of {i : Int} (h1 : -(2 ^ 63 : Int) ≤ i) (h2 : i < 2 ^ 63) : fitsSsize i = true := by
  unfold fitsSsize
  simp
  (first | lia | omega)

/- the sign at a place (0 beyond the end) -/
noncomputable def chr (x : Str) (j : Nat) : Nat := x.cps.toList.getD j 0
theorem item_eq {x : Str} {j : Nat} (h : j < x.length) : Txt.item x (j : Int) = ⟨#[chr x j]⟩ := by
  have h' : j < x.cps.size := h
  have e : Txt.charAt x (j : Int) = some (chr x j) := by
    unfold Txt.charAt seqIndex? chr
    have h0 : ¬ ((j : Int) < 0) := by (first | lia | omega)
    have h1 : (decide (0 ≤ (j : Int)) && decide ((j : Int) < (x.length : Int))) = true := by simp; exact h
    rw [if_neg h0]
    simp only [h1, if_true, Option.bind_some, Int.toNat_natCast]
    rw [List.getD_eq_getElem?_getD, Array.getElem?_toList, Array.getElem?_eq_getElem h']
    rfl
  unfold Txt.item
  rw [e]
  rfl
theorem in_item (y : Str) {x : Str} {j : Nat} (h : j < x.length) : (Builtin.Str.occurrences y (Txt.item x (j : Int)) 0 y.length 1).isEmpty = !decide (chr x j ∈ y.cps.toList) := by
  have := StrLaws.found_one y (chr x j)
  rw [item_eq h, ← this, Bool.not_not]
end

section
open PySem PySem.W PySem.Calls PySem.Spec PyProof.Rows
/- the post put behind a variable: so that a walk's steps do not each bear a copy of it -/
theorem hideQ {α : Type} {M : Model} {A : Around} {t : Sem α} {Q : α → Shared → Prop} {E : Value → Shared → Prop} {s : Shared}
    (h : ∀ Q' : α → Shared → Prop, (∀ f s', Q f s' → Q' f s') → wpAny M A t Q' E s) : wpAny M A t Q E s := h Q fun _ _ x => x
end

section
open PySem

noncomputable def isB (c : Nat) : Bool := [32, 9, 13, 10, 11].contains c
noncomputable def isS (c : Nat) : Bool := [60, 124, 62, 38, 59, 40, 41].contains c
noncomputable def isW (c : Nat) : Bool := !isB c && !isS c

noncomputable def spanN (p : Nat → Bool) (x : Str) (j : Nat) : Nat := j + ((x.cps.toList.drop j).takeWhile p).length

theorem drop_chr {x : Str} {j : Nat} (h : j < x.length) : x.cps.toList.drop j = chr x j :: x.cps.toList.drop (j + 1) := by
  have h' : j < x.cps.toList.length := by rw [Array.length_toList]; exact h
  rw [List.drop_eq_getElem_cons h']
  unfold chr
  rw [List.getD_eq_getElem?_getD, List.getElem?_eq_getElem h']
  rfl
theorem drop_end {x : Str} {j : Nat} (h : x.length ≤ j) : x.cps.toList.drop j = [] := by
  apply List.drop_eq_nil_of_le
  rw [Array.length_toList]; exact h
theorem spanN_step {p : Nat → Bool} {x : Str} {j : Nat} (h : j < x.length) (hp : p (chr x j) = true) : spanN p x (j + 1) = spanN p x j := by
  unfold spanN
  rw [drop_chr h, List.takeWhile_cons, if_pos hp, List.length_cons]
  (first | lia | omega)
theorem spanN_stop {p : Nat → Bool} {x : Str} {j : Nat} (h : x.length ≤ j ∨ p (chr x j) = false) : spanN p x j = j := by
  unfold spanN
  by_cases hl : j < x.length
  · rw [drop_chr hl, List.takeWhile_cons, if_neg (by rw [h.resolve_left (Nat.not_le.mpr hl)]; exact Bool.false_ne_true)]
    rfl
  · rw [drop_end (Nat.not_lt.mp hl)]
    rfl
theorem spanN_ge (p : Nat → Bool) (x : Str) (j : Nat) : j ≤ spanN p x j := Nat.le_add_right _ _
theorem spanN_le (p : Nat → Bool) {x : Str} {j : Nat} (h : j ≤ x.length) : spanN p x j ≤ x.length := by
  unfold spanN
  have h1 := (List.takeWhile_sublist p (l := x.cps.toList.drop j)).length_le
  rw [List.length_drop] at h1
  have h3 : x.cps.toList.length = x.cps.size := Array.length_toList
  show j + _ ≤ x.cps.size
  have h2 : j ≤ x.cps.size := h
  generalize ((x.cps.toList.drop j).takeWhile p).length = q at h1 ⊢
  (first | lia | omega)
theorem drop_span (p : Nat → Bool) (x : Str) (j : Nat) : x.cps.toList.drop (spanN p x j) = (x.cps.toList.drop j).dropWhile p := by
  unfold spanN
  rw [← List.drop_drop]
  generalize x.cps.toList.drop j = r
  have h := List.takeWhile_append_dropWhile (p := p) (l := r)
  have : r.drop (r.takeWhile p).length = (r.takeWhile p ++ r.dropWhile p).drop (r.takeWhile p).length := by rw [h]
  rw [this, List.drop_left']
  rfl

theorem blanks_are : (Str.ofString " \t\x0d\n\x0b").cps.toList = [32, 9, 13, 10, 11] := by decide +kernel
theorem in_blanks {x : Str} {j : Nat} (h : j < x.length) : (Builtin.Str.occurrences (Str.ofString " \t\x0d\n\x0b") (Txt.item x (j : Int)) 0 (Str.ofString " \t\x0d\n\x0b").length 1).isEmpty = !isB (chr x j) := by
  rw [in_item _ h, blanks_are]
  congr 1
  rw [Bool.eq_iff_iff]
  unfold isB
  simp
theorem item_beq {x : Str} {j : Nat} (h : j < x.length) (y : Str) (c : Nat) (hy : y = ⟨#[c]⟩) : (Txt.item x (j : Int) == y) = decide (chr x j = c) := by
  rw [item_eq h, hy, Bool.eq_iff_iff, beq_iff_eq, decide_eq_true_eq]
  constructor
  · intro e
    injection e with e
    injection e with e
    injection e
  · intro e
    rw [e]
theorem gt_is : Str.ofString ">" = ⟨#[62]⟩ := by decide +kernel
theorem signs_are : (Str.ofString "<|>&;()").cps.toList = [60, 124, 62, 38, 59, 40, 41] := by decide +kernel
theorem in_signs {x : Str} {j : Nat} (h : j < x.length) : (Builtin.Str.occurrences (Str.ofString "<|>&;()") (Txt.item x (j : Int)) 0 (Str.ofString "<|>&;()").length 1).isEmpty = !isS (chr x j) := by
  rw [in_item _ h, signs_are]
  congr 1
  rw [Bool.eq_iff_iff]
  unfold isS
  simp
theorem both_are : (Str.ofString " \t\x0d\n\x0b" ++ Str.ofString "<|>&;()").cps.toList = [32, 9, 13, 10, 11, 60, 124, 62, 38, 59, 40, 41] := by decide +kernel
theorem in_both {x : Str} {j : Nat} (h : j < x.length) : (Builtin.Str.occurrences (Str.ofString " \t\x0d\n\x0b" ++ Str.ofString "<|>&;()") (Txt.item x (j : Int)) 0 (Str.ofString " \t\x0d\n\x0b" ++ Str.ofString "<|>&;()").length 1).isEmpty = isW (chr x j) := by
  rw [in_item _ h, both_are]
  unfold isW isB isS
  rw [← Bool.not_or, Bool.not_inj_iff, Bool.eq_iff_iff]
  simp only [decide_eq_true_eq, List.mem_cons, List.not_mem_nil, or_false, Bool.or_eq_true, List.contains_cons, List.contains_nil, beq_iff_eq, Bool.or_false, or_assoc]
end

section
open PySem

/- a text of the signs r -/
noncomputable def S (r : List Nat) : Str := ⟨r.toArray⟩
noncomputable abbrev Tk := List Nat
noncomputable def hd0 (k : Tk) : Nat := k.headD 0

/- the marks of a text -/
noncomputable def lex : List Nat → List Tk
  | [] => []
  | c :: r =>
    if isB c then lex r
    else if isS c then (if c = 62 ∧ r.head? = some 62 then [62, 62] :: lex r.tail else [c] :: lex r)
    else (c :: r.takeWhile isW) :: lex (r.dropWhile isW)
termination_by r => r.length
decreasing_by
  · simp
  · simp; (first | lia | omega)
  · simp
  · have := (List.dropWhile_sublist isW (l := r)).length_le
    simp; (first | lia | omega)

theorem lex_nil : lex [] = [] := by rw [lex]
theorem lex_blank {c : Nat} (h : isB c = true) (r : List Nat) : lex (c :: r) = lex r := by rw [lex, if_pos h]
theorem lex_gg (r : List Nat) : lex (62 :: 62 :: r) = [62, 62] :: lex r := by
  rw [lex, if_neg (by decide), if_pos (by decide), if_pos (by simp)]
  rfl
theorem lex_sign {c : Nat} {r : List Nat} (h : isS c = true) (hg : ¬ (c = 62 ∧ r.head? = some 62)) : lex (c :: r) = [c] :: lex r := by
  have hb : ¬ isB c = true := by
    intro hb
    simp [isB] at hb
    rcases hb with rfl | rfl | rfl | rfl | rfl <;> exact absurd h (by decide)
  rw [lex, if_neg hb, if_pos h, if_neg hg]
theorem lex_word {c : Nat} (h : isW c = true) (r : List Nat) : lex (c :: r) = (c :: r).takeWhile isW :: lex ((c :: r).dropWhile isW) := by
  have h' := h
  unfold isW at h
  simp at h
  rw [lex, if_neg (by simp [h.1]), if_neg (by simp [h.2]), List.takeWhile_cons, if_pos h', List.dropWhile_cons, if_pos h']

theorem lex_skip (r : List Nat) : lex (r.dropWhile isB) = lex r := by
  induction r with
  | nil => rfl
  | cons c r ih =>
    rw [List.dropWhile_cons]
    split
    · rename_i h; rw [ih, lex_blank h]
    · rfl
theorem kinds (c : Nat) : isB c = true ∨ isS c = true ∨ isW c = true := by
  unfold isW
  cases isB c <;> cases isS c <;> simp
theorem lex_ne {c : Nat} {r : List Nat} (h : isB c = false) : ∃ k ts, lex (c :: r) = k :: ts ∧ hd0 k = c := by
  rcases kinds c with q | q | q
  · rw [q] at h; cases h
  · by_cases hg : c = 62 ∧ r.head? = some 62
    · obtain ⟨rfl, h2⟩ := hg
      cases r with
      | nil => cases h2
      | cons d r => cases h2; exact ⟨_, _, lex_gg r, rfl⟩
    · exact ⟨_, _, lex_sign q hg, rfl⟩
  · refine ⟨_, _, lex_word q r, ?_⟩
    rw [List.takeWhile_cons, if_pos q]
    rfl

inductive Tree where
  | run (a : List Tk)
  | redir (k : Nat) (t : Tree) (p : Tk)
  | pair (s : Nat) (l r : Tree)
  | back (t : Tree)

noncomputable abbrev Rd := List (Nat × Tk)
noncomputable def appR (t : Tree) : Rd → Tree
  | [] => t
  | (k, p) :: r => appR (.redir k t p) r
theorem appR_snoc (t : Tree) (rd : Rd) (k : Nat) (p : Tk) : appR t (rd ++ [(k, p)]) = .redir k (appR t rd) p := by
  induction rd generalizing t with
  | nil => rfl
  | cons a r ih => exact ih _
noncomputable def isRed (k : Tk) : Bool := hd0 k = 60 || hd0 k = 62
noncomputable def isWd (k : Tk) : Bool := isW (hd0 k)
noncomputable def kd (k : Tk) : Nat := if k = [60] then 0 else if k = [62] then 1 else 2
/- a mark that ends a program's words -/
noncomputable def isEnd (k : Tk) : Bool := [124, 41, 38, 59].contains (hd0 k)

noncomputable def pReds : Rd → List Tk → Option (Rd × List Tk)
  | rd, [] => some (rd, [])
  | rd, k :: ts => if isRed k then (match ts with
      | [] => none
      | p :: ts' => if isWd p then pReds (rd ++ [(kd k, p)]) ts' else none) else some (rd, k :: ts)

noncomputable def pArgs : Nat → List Tk → Rd → List Tk → Option (List Tk × Rd × List Tk)
  | 0, _, _, _ => none
  | _ + 1, a, rd, [] => some (a, rd, [])
  | n + 1, a, rd, k :: ts => if isEnd k then some (a, rd, k :: ts) else if isWd k then (if a.length = 9 then none else match pReds [] ts with
      | none => none
      | some (rd', ts') => pArgs n (a ++ [k]) (rd ++ rd') ts') else none

noncomputable def pRun (ts : List Tk) : Option (Tree × List Tk) := match pReds [] ts with
  | none => none
  | some (rd, ts1) => match pArgs (ts1.length + 1) [] rd ts1 with
    | none => none
    | some (a, rd', ts2) => some (appR (.run a) rd', ts2)

noncomputable def pBacks : Tree → List Tk → Tree × List Tk
  | t, [] => (t, [])
  | t, k :: ts => if hd0 k = 38 then pBacks (.back t) ts else (t, k :: ts)

mutual
noncomputable def pLine : Nat → List Tk → Option (Tree × List Tk)
  | 0, _ => none
  | n + 1, ts => match pPipe n ts with
    | none => none
    | some (t, ts1) => match pBacks t ts1 with
      | (t', []) => some (t', [])
      | (t', k :: ts3) => if hd0 k = 59 then (match pLine n ts3 with
          | none => none
          | some (t2, ts4) => some (.pair 59 t' t2, ts4)) else some (t', k :: ts3)
noncomputable def pPipe : Nat → List Tk → Option (Tree × List Tk)
  | 0, _ => none
  | n + 1, ts => match pCmd n ts with
    | none => none
    | some (t, []) => some (t, [])
    | some (t, k :: ts2) => if hd0 k = 124 then (match pPipe n ts2 with
        | none => none
        | some (t2, ts3) => some (.pair 124 t t2, ts3)) else some (t, k :: ts2)
noncomputable def pCmd : Nat → List Tk → Option (Tree × List Tk)
  | 0, _ => none
  | _ + 1, [] => pRun []
  | n + 1, k :: ts => if hd0 k = 40 then pBlock n ts else pRun (k :: ts)
/- behind the opening bracket -/
noncomputable def pBlock : Nat → List Tk → Option (Tree × List Tk)
  | 0, _ => none
  | n + 1, ts => match pLine n ts with
    | none => none
    | some (_, []) => none
    | some (t, k :: ts2) => if hd0 k = 41 then (match pReds [] ts2 with
        | none => none
        | some (rd, ts3) => some (appR t rd, ts3)) else none
end

/- the marks that lead deeper -/
noncomputable def wt (ts : List Tk) : Nat := ts.countP fun k => hd0 k = 40 || hd0 k = 59 || hd0 k = 124

theorem sg_lt : (Str.ofString "<>").cps.toList = [60, 62] := by decide +kernel
theorem sl_eq (x : Str) {i j : Nat} (h1 : i ≤ j) (h2 : j ≤ x.length) : Txt.slice x (some (i : Int)) (some (j : Int)) = S ((x.cps.toList.drop i).take (j - i)) := by
  show StrLaws.sliceText x (some (i : Int)) (some (j : Int)) = _
  rw [StrLaws.sliceText_nat x h1 h2]
  rfl
theorem word_eq (x : Str) {i : Nat} (h : i ≤ x.length) : Txt.slice x (some (i : Int)) (some (spanN isW x i : Int)) = S ((x.cps.toList.drop i).takeWhile isW) := by
  rw [sl_eq x (spanN_ge _ _ _) (spanN_le _ h)]
  unfold spanN
  rw [Nat.add_sub_cancel_left]
  congr 1
  generalize x.cps.toList.drop i = r
  have e := List.takeWhile_append_dropWhile (p := isW) (l := r)
  conv => lhs; rw [← e]
  rw [List.take_left' (by rw [e])]

noncomputable def hdIn (sg : List Nat) : List Tk → Bool
  | [] => false
  | k :: _ => decide (hd0 k ∈ sg)
noncomputable def hdWd : List Tk → Bool
  | [] => false
  | k :: _ => isWd k
/- the marks that lie ahead of a place -/
noncomputable def tl (x : Str) (j : Nat) : List Tk := lex (x.cps.toList.drop j)
theorem tl_skip (x : Str) (j : Nat) : tl x (spanN isB x j) = tl x j := by
  unfold tl
  rw [drop_span, lex_skip]
theorem span_stops (p : Nat → Bool) {x : Str} {j : Nat} (h : spanN p x j < x.length) : p (chr x (spanN p x j)) = false := by
  have e := drop_span p x j
  rw [drop_chr h] at e
  generalize x.cps.toList.drop j = r at e
  induction r with
  | nil => cases e
  | cons c r ih =>
    rw [List.dropWhile_cons] at e
    split at e
    · exact ih e
    · rename_i q
      injection e with e1 e2
      rw [e1]
      simpa using q
theorem tl_end {x : Str} {j : Nat} (h : spanN isB x j = x.length) : tl x j = [] := by
  rw [← tl_skip, h]
  unfold tl
  rw [drop_end (Nat.le_refl _), lex_nil]
theorem tl_cons {x : Str} {j : Nat} (h : spanN isB x j < x.length) : ∃ k ts, tl x j = k :: ts ∧ hd0 k = chr x (spanN isB x j) := by
  rw [← tl_skip]
  unfold tl
  rw [drop_chr h]
  exact lex_ne (span_stops isB h)
theorem tl_end_iff {x : Str} {j : Nat} (hj : j ≤ x.length) : spanN isB x j = x.length ↔ tl x j = [] := by
  constructor
  · exact tl_end
  · intro e
    have := spanN_le isB hj
    by_cases q : spanN isB x j < x.length
    · obtain ⟨k, ts, e', _⟩ := tl_cons q
      rw [e] at e'; cases e'
    · (first | lia | omega)
theorem tl_next {x : Str} {j : Nat} (hj : j ≤ x.length) (sg : List Nat) : (decide (spanN isB x j < x.length) && decide (chr x (spanN isB x j) ∈ sg)) = hdIn sg (tl x j) := by
  by_cases q : spanN isB x j < x.length
  · obtain ⟨k, ts, e, hk⟩ := tl_cons q
    rw [e, decide_eq_true q, Bool.true_and]
    show _ = decide (hd0 k ∈ sg)
    rw [hk]
  · have := spanN_le isB hj
    rw [tl_end (by (first | lia | omega)), decide_eq_false q, Bool.false_and]
    rfl
theorem tl_word_next {x : Str} {j : Nat} (hj : j ≤ x.length) : (decide (spanN isB x j < x.length) && !isS (chr x (spanN isB x j))) = hdWd (tl x j) := by
  by_cases q : spanN isB x j < x.length
  · obtain ⟨k, ts, e, hk⟩ := tl_cons q
    rw [e, decide_eq_true q, Bool.true_and]
    show _ = isW (hd0 k)
    rw [hk]
    unfold isW
    rw [span_stops isB q]
    rfl
  · have := spanN_le isB hj
    rw [tl_end (by (first | lia | omega)), decide_eq_false q, Bool.false_and]
    rfl
theorem tl_sign {x : Str} {j : Nat} (hj : j < x.length) (hs : isS (chr x j) = true) :
    ∃ k, tl x j = k :: tl x (if chr x j = 62 ∧ j + 1 < x.length ∧ chr x (j + 1) = 62 then j + 2 else j + 1) ∧ (if chr x j = 62 ∧ j + 1 < x.length ∧ chr x (j + 1) = 62 then Str.ofString ">>" else ⟨#[chr x j]⟩) = S k := by
  unfold tl
  rw [drop_chr hj]
  by_cases h : chr x j = 62 ∧ j + 1 < x.length ∧ chr x (j + 1) = 62
  · rw [if_pos h, if_pos h, drop_chr h.2.1, h.1, h.2.2, lex_gg]
    exact ⟨_, rfl, by decide +kernel⟩
  · rw [if_neg h, if_neg h, lex_sign hs]
    · exact ⟨_, rfl, rfl⟩
    · rintro ⟨h1, h2⟩
      apply h
      refine ⟨h1, ?_⟩
      by_cases q : j + 1 < x.length
      · rw [drop_chr q] at h2
        exact ⟨q, by simpa using h2⟩
      · rw [drop_end (by (first | lia | omega))] at h2
        cases h2
theorem tl_word {x : Str} {j : Nat} (hj : j < x.length) (hs : isW (chr x j) = true) : tl x j = (x.cps.toList.drop j).takeWhile isW :: tl x (spanN isW x j) := by
  unfold tl
  rw [drop_span, drop_chr hj, lex_word hs]
theorem hdIn_true {sg : List Nat} {ts : List Tk} (h : hdIn sg ts = true) : ∃ k r, ts = k :: r ∧ hd0 k ∈ sg := by
  cases ts with
  | nil => cases h
  | cons k r => exact ⟨k, r, rfl, of_decide_eq_true h⟩
theorem hdIn_false {sg : List Nat} {k : Tk} {r : List Tk} (h : hdIn sg (k :: r) = false) : hd0 k ∉ sg := of_decide_eq_false h
theorem hdWd_true {ts : List Tk} (h : hdWd ts = true) : ∃ k r, ts = k :: r ∧ isWd k = true := by
  cases ts with
  | nil => cases h
  | cons k r => exact ⟨k, r, rfl, h⟩
theorem red_is (k : Tk) : isRed k = decide (hd0 k ∈ [60, 62]) := by
  unfold isRed
  rw [Bool.eq_iff_iff]
  simp
theorem pReds_eq (rd : Rd) (k : Tk) (ts : List Tk) : pReds rd (k :: ts) = if isRed k then (match ts with
      | [] => none
      | p :: ts' => if isWd p then pReds (rd ++ [(kd k, p)]) ts' else none) else some (rd, k :: ts) := by
  rw [pReds.eq_def]
theorem pReds_stop {ts : List Tk} (rd : Rd) (h : hdIn [60, 62] ts = false) : pReds rd ts = some (rd, ts) := by
  cases ts with
  | nil => rw [pReds.eq_def]
  | cons k r =>
    rw [pReds_eq, red_is, if_neg]
    rw [show decide (hd0 k ∈ [60, 62]) = false from h]
    exact Bool.false_ne_true
theorem pReds_bad {k : Tk} {ts : List Tk} (rd : Rd) (h : hd0 k ∈ [60, 62]) (h2 : hdWd ts = false) : pReds rd (k :: ts) = none := by
  rw [pReds_eq, red_is, if_pos (decide_eq_true h)]
  cases ts with
  | nil => rfl
  | cons p r => show (if isWd p = true then _ else none) = none; rw [if_neg (by rw [show isWd p = false from h2]; exact Bool.false_ne_true)]
theorem pReds_go {k p : Tk} {ts : List Tk} (rd : Rd) (h : hd0 k ∈ [60, 62]) (h2 : isWd p = true) : pReds rd (k :: p :: ts) = pReds (rd ++ [(kd k, p)]) ts := by
  rw [pReds_eq, red_is, if_pos (decide_eq_true h)]
  show (if isWd p = true then _ else none) = _
  rw [if_pos h2]
theorem bar_lt : (Str.ofString "|").cps.toList = [124] := by decide +kernel
theorem amp_lt : (Str.ofString "&").cps.toList = [38] := by decide +kernel
theorem semi_lt : (Str.ofString ";").cps.toList = [59] := by decide +kernel
theorem open_lt : (Str.ofString "(").cps.toList = [40] := by decide +kernel
theorem close_lt : (Str.ofString ")").cps.toList = [41] := by decide +kernel
theorem end_lt : (Str.ofString "|)&;").cps.toList = [124, 41, 38, 59] := by decide +kernel
theorem bar_S : Str.ofString "|" = S [124] := by decide +kernel
theorem semi_S : Str.ofString ";" = S [59] := by decide +kernel
end

section
open PySem

theorem suf_cons {k : Tk} {a b : List Tk} (h : a <:+ b) : a <:+ k :: b := h.trans (List.suffix_cons k b)
theorem pReds_suf : ∀ (ts : List Tk) (n : Nat) (rd rd' : Rd) (ts' : List Tk), ts.length ≤ n → pReds rd ts = some (rd', ts') → ts' <:+ ts := by
  intro ts n
  induction n generalizing ts with
  | zero =>
    intro rd rd' ts' hl h
    cases ts with
    | nil => rw [pReds.eq_def] at h; cases h; exact List.suffix_refl _
    | cons k r => simp at hl
  | succ n ih =>
    intro rd rd' ts' hl h
    cases ts with
    | nil => rw [pReds.eq_def] at h; cases h; exact List.suffix_refl _
    | cons k r =>
      rw [pReds_eq] at h
      split at h
      · cases r with
        | nil => cases h
        | cons p r =>
          dsimp only at h
          split at h
          · exact suf_cons (suf_cons (ih r _ _ _ (by simp at hl; (first | lia | omega)) h))
          · cases h
      · cases h; exact List.suffix_refl _
theorem pReds_suffix {ts ts' : List Tk} {rd rd' : Rd} (h : pReds rd ts = some (rd', ts')) : ts' <:+ ts := pReds_suf ts _ rd rd' ts' (Nat.le_refl _) h

theorem pArgs_suffix : ∀ (n : Nat) {a a' : List Tk} {rd rd' : Rd} {ts ts' : List Tk}, pArgs n a rd ts = some (a', rd', ts') → ts' <:+ ts := by
  intro n
  induction n with
  | zero => intro a a' rd rd' ts ts' h; rw [pArgs] at h; cases h
  | succ n ih =>
    intro a a' rd rd' ts ts' h
    cases ts with
    | nil => rw [pArgs] at h; cases h; exact List.suffix_refl _
    | cons k r =>
      rw [pArgs] at h
      split at h
      · cases h; exact List.suffix_refl _
      · split at h
        · split at h
          · cases h
          · cases q : pReds [] r with
            | none => rw [q] at h; cases h
            | some x =>
              obtain ⟨rd1, ts1⟩ := x
              rw [q] at h
              exact suf_cons ((ih h).trans (pReds_suffix q))
        · cases h
theorem pRun_suffix {ts ts' : List Tk} {t : Tree} (h : pRun ts = some (t, ts')) : ts' <:+ ts := by
  unfold pRun at h
  cases q : pReds [] ts with
  | none => rw [q] at h; cases h
  | some x =>
    obtain ⟨rd, ts1⟩ := x
    rw [q] at h
    dsimp only at h
    cases q2 : pArgs (ts1.length + 1) [] rd ts1 with
    | none => rw [q2] at h; cases h
    | some y =>
      obtain ⟨a, rd2, ts2⟩ := y
      rw [q2] at h
      cases h
      exact (pArgs_suffix _ q2).trans (pReds_suffix q)
theorem pBacks_suffix (ts : List Tk) : ∀ t, (pBacks t ts).2 <:+ ts := by
  induction ts with
  | nil => intro t; rw [pBacks]; exact List.suffix_refl _
  | cons k r ih =>
    intro t
    rw [pBacks]
    split
    · exact suf_cons (ih _)
    · exact List.suffix_refl _

theorem p_suffix : ∀ n, (∀ {ts ts' t}, pLine n ts = some (t, ts') → ts' <:+ ts) ∧ (∀ {ts ts' t}, pPipe n ts = some (t, ts') → ts' <:+ ts) ∧ (∀ {ts ts' t}, pCmd n ts = some (t, ts') → ts' <:+ ts) ∧ (∀ {ts ts' t}, pBlock n ts = some (t, ts') → ts' <:+ ts) := by
  intro n
  induction n with
  | zero =>
    refine ⟨?_, ?_, ?_, ?_⟩ <;> intro ts ts' t h
    · rw [pLine] at h; cases h
    · rw [pPipe] at h; cases h
    · rw [pCmd.eq_def] at h; cases h
    · rw [pBlock] at h; cases h
  | succ n ih =>
    obtain ⟨i1, i2, i3, i4⟩ := ih
    refine ⟨?_, ?_, ?_, ?_⟩ <;> intro ts ts' t h
    · rw [pLine] at h
      cases q : pPipe n ts with
      | none => rw [q] at h; cases h
      | some y =>
        obtain ⟨t1, ts1⟩ := y
        rw [q] at h
        dsimp only at h
        have s1 := i2 q
        have s2 := pBacks_suffix ts1 t1
        cases q2 : pBacks t1 ts1 with
        | mk t2 ts2 =>
          rw [q2] at h s2
          cases ts2 with
          | nil => cases h; exact List.nil_suffix
          | cons k r =>
            dsimp only at h
            split at h
            · cases q3 : pLine n r with
              | none => rw [q3] at h; cases h
              | some z =>
                obtain ⟨t3, ts3⟩ := z
                rw [q3] at h
                cases h
                exact ((suf_cons (i1 q3)).trans s2).trans s1
            · cases h; exact s2.trans s1
    · rw [pPipe] at h
      cases q : pCmd n ts with
      | none => rw [q] at h; cases h
      | some y =>
        obtain ⟨t1, ts1⟩ := y
        rw [q] at h
        have s1 := i3 q
        cases ts1 with
        | nil => cases h; exact s1
        | cons k r =>
          dsimp only at h
          split at h
          · cases q3 : pPipe n r with
            | none => rw [q3] at h; cases h
            | some z =>
              obtain ⟨t3, ts3⟩ := z
              rw [q3] at h
              cases h
              exact (suf_cons (i2 q3)).trans s1
          · cases h; exact s1
    · cases ts with
      | nil => rw [pCmd] at h; exact pRun_suffix h
      | cons k r =>
        rw [pCmd] at h
        split at h
        · exact suf_cons (i4 h)
        · exact pRun_suffix h
    · rw [pBlock] at h
      cases q : pLine n ts with
      | none => rw [q] at h; cases h
      | some y =>
        obtain ⟨t1, ts1⟩ := y
        rw [q] at h
        have s1 := i1 q
        cases ts1 with
        | nil => cases h
        | cons k r =>
          dsimp only at h
          split at h
          · cases q3 : pReds [] r with
            | none => rw [q3] at h; cases h
            | some z =>
              obtain ⟨t3, ts3⟩ := z
              rw [q3] at h
              cases h
              exact (suf_cons (pReds_suffix q3)).trans s1
          · cases h

theorem wt_le {a b : List Tk} (h : a <:+ b) : wt a ≤ wt b := List.Sublist.countP_le h.sublist
theorem wt_cons {k : Tk} (r : List Tk) (h : hd0 k = 40 ∨ hd0 k = 59 ∨ hd0 k = 124) : wt (k :: r) = wt r + 1 := by
  unfold wt
  rw [List.countP_cons, if_pos]
  simp
  rcases h with h | h | h <;> simp [h]
theorem wt_tail (k : Tk) (r : List Tk) : wt r ≤ wt (k :: r) := wt_le (List.suffix_cons k r)
theorem wtCmd {n : Nat} {ts ts' : List Tk} {t : Tree} (h : pCmd n ts = some (t, ts')) : wt ts' ≤ wt ts := wt_le ((p_suffix n).2.2.1 h)
theorem wtPipe {n : Nat} {ts ts' : List Tk} {t : Tree} (h : pPipe n ts = some (t, ts')) : wt ts' ≤ wt ts := wt_le ((p_suffix n).2.1 h)
theorem wtBacks (t : Tree) (ts : List Tk) : wt (pBacks t ts).2 ≤ wt ts := wt_le (pBacks_suffix ts t)

theorem pArgs_stop {f : Nat} {ts : List Tk} (a : List Tk) (rd : Rd) (hf : ts.length < f) (h : ts = [] ∨ hdIn [124, 41, 38, 59] ts = true) : pArgs f a rd ts = some (a, rd, ts) := by
  cases f with
  | zero => (first | lia | omega)
  | succ f =>
    cases ts with
    | nil => rw [pArgs]
    | cons k r =>
      have h' := h.resolve_left (fun e => nomatch e)
      rw [pArgs, if_pos]
      unfold isEnd
      have := of_decide_eq_true (show decide (hd0 k ∈ [124, 41, 38, 59]) = true from h')
      simpa using this
theorem isEnd_false {k : Tk} {r : List Tk} (h : hdIn [124, 41, 38, 59] (k :: r) = false) : ¬ isEnd k = true := by
  intro q
  have := hdIn_false h
  unfold isEnd at q
  exact this (by simpa using q)
theorem pArgs_eq {f : Nat} {k : Tk} {ts : List Tk} (a : List Tk) (rd : Rd) (h : hdIn [124, 41, 38, 59] (k :: ts) = false) : pArgs (f + 1) a rd (k :: ts) = if isWd k then (if a.length = 9 then none else match pReds [] ts with
      | none => none
      | some (rd', ts') => pArgs f (a ++ [k]) (rd ++ rd') ts') else none := by
  rw [pArgs, if_neg (isEnd_false h)]
  all_goals rfl
theorem pCmd_run {n : Nat} {ts : List Tk} (h : hdIn [40] ts = false) : pCmd (n + 1) ts = pRun ts := by
  cases ts with
  | nil => rw [pCmd]
  | cons k r =>
    rw [pCmd, if_neg]
    intro hk
    exact hdIn_false h (by rw [hk]; exact .head _)
theorem pReds_len {ts ts' : List Tk} {rd rd' : Rd} (h : pReds rd ts = some (rd', ts')) : ts'.length ≤ ts.length := (pReds_suffix h).sublist.length_le

noncomputable def finRun : Option (List Tk × Rd × List Tk) → Option (Tree × List Tk)
  | none => none
  | some (a, rd', ts2) => some (appR (.run a) rd', ts2)
theorem pRun_eq {ts ts1 : List Tk} {rd : Rd} (h : pReds [] ts = some (rd, ts1)) : pRun ts = finRun (pArgs (ts1.length + 1) [] rd ts1) := by
  unfold pRun
  rw [h]
  dsimp only
  cases pArgs (ts1.length + 1) [] rd ts1 <;> rfl
end

section
open PySem

/- a sign that may stand in a word -/
noncomputable def okC (c : Nat) : Prop := 33 ≤ c ∧ c < 127 ∧ isW c = true
noncomputable def Wd (k : Tk) : Prop := k ≠ [] ∧ ∀ c ∈ k, okC c

noncomputable def jn : List Tk → List Nat
  | [] => []
  | [a] => a
  | a :: b :: r => a ++ 32 :: jn (b :: r)
noncomputable def sgn (k : Nat) : List Nat := if k = 0 then [60] else if k = 1 then [62] else [62, 62]

noncomputable def isRR : Tree → Bool
  | .run _ => true
  | .redir _ _ _ => true
  | _ => false
noncomputable def isBk : Tree → Bool
  | .back _ => true
  | _ => false
/- what piped puts into brackets -/
noncomputable def isLow : Tree → Bool
  | .back _ => true
  | .pair s _ _ => s = 59
  | _ => false
noncomputable def brk (b : Bool) (x : List Nat) : List Nat := if b then x else [40, 32] ++ x ++ [32, 41]

noncomputable def txt : Tree → List Nat
  | .run a => jn a
  | .redir k t p => (if brk (isRR t) (txt t) = [] then [] else brk (isRR t) (txt t) ++ [32]) ++ sgn k ++ [32] ++ p
  | .pair s l r => if s = 124 then brk (isRR l) (txt l) ++ [32, 124, 32] ++ brk (!isLow r) (txt r)
    else (if isBk l then txt l else brk (!isLow l) (txt l)) ++ [32, 59, 32] ++ txt r
  | .back t => (if isBk t then txt t else brk (!isLow t) (txt t)) ++ [32, 38]
noncomputable def grp (t : Tree) : List Nat := brk (isRR t) (txt t)
noncomputable def ppd (t : Tree) : List Nat := brk (!isLow t) (txt t)

/- the trees that parse may tell -/
inductive WF : Tree → Prop
  | run {a : List Tk} : (∀ k ∈ a, Wd k) → a.length ≤ 9 → WF (.run a)
  | redir {k : Nat} {t : Tree} {p : Tk} : k ≤ 2 → WF t → Wd p → WF (.redir k t p)
  | pair {s : Nat} {l r : Tree} : (s = 124 ∨ s = 59) → WF l → WF r → WF (.pair s l r)
  | back {t : Tree} : WF t → WF (.back t)

theorem S_append (a b : List Nat) : S a ++ S b = S (a ++ b) := by
  apply Str.ext'
  rw [Str.cps_append]
  unfold S
  simp
theorem S_len (a : List Nat) : (S a).length = a.length := by
  unfold S
  show (Array.mk a).size = _
  rfl
theorem S_cps (a : List Nat) : (S a).cps.toList = a := rfl
theorem S_of (x : Str) : x = S x.cps.toList := by
  unfold S
  cases x
  rfl
theorem sp_S : Str.ofString " " = S [32] := by decide +kernel
theorem ggS : Str.ofString ">>" = S [62, 62] := by decide +kernel

theorem join_S' : ∀ a : List Tk, Str.join (S [32]) (a.map S) = S (jn a)
  | [] => rfl
  | [_] => rfl
  | a :: b :: r => by
    have ih := join_S' (b :: r)
    have e : Str.join (S [32]) ((a :: b :: r).map S) = S a ++ S [32] ++ Str.join (S [32]) ((b :: r).map S) := PyProof.Rows.join_cons_cons ..
    rw [e, ih, S_append, S_append]
    rw [jn, List.append_assoc]
    rfl
theorem join_S (a : List Tk) : Txt.join (S [32]) (a.map S) = S (jn a) := (StrLaws.glued_eq_join ..).trans (join_S' a)

theorem space_ok : ∀ c < 127, 33 ≤ c → Unicode.isSpace c = false := by decide +kernel
theorem okC.sp {c : Nat} (h : okC c) : Unicode.isSpace c = false := space_ok c h.2.1 h.1
theorem sp32 : Unicode.isSpace 32 = true := by decide +kernel

noncomputable def Edge (r : List Nat) : Prop := r = [] ∨ (∃ c q, r = c :: q ∧ Unicode.isSpace c = false) ∧ ∃ c q, r = q ++ [c] ∧ Unicode.isSpace c = false
theorem hi0 {goes : Nat → Bool} {r q : List Nat} {c : Nat} (e : r = q ++ [c]) (h : goes c = false) : r.reverse.takeWhile goes = [] := by
  rw [e, List.reverse_append, List.reverse_singleton, List.singleton_append, List.takeWhile_cons, if_neg (by rw [h]; exact Bool.false_ne_true)]
theorem lo0 {goes : Nat → Bool} {r q : List Nat} {c : Nat} (e : r = c :: q) (h : goes c = false) : r.takeWhile goes = [] := by
  rw [e, List.takeWhile_cons, if_neg (by rw [h]; exact Bool.false_ne_true)]

theorem strip_edge {r q1 q2 : List Nat} {c1 c2 : Nat} (e1 : r = c1 :: q1) (h1 : Unicode.isSpace c1 = false) (e2 : r = q2 ++ [c2]) (h2 : Unicode.isSpace c2 = false) : Txt.strip (S r) = S r := by
  have l0 : stripLo Unicode.isSpace true (S r) = 0 := by
    unfold stripLo
    rw [if_pos rfl, S_cps, lo0 e1 h1]
    rfl
  unfold Txt.strip Txt.stripBy stripSame
  rw [l0]
  have hh : stripHi Unicode.isSpace true (S r) 0 = (S r).length := by
    unfold stripHi
    rw [if_pos rfl, S_cps, List.drop_zero, hi0 e2 h2]
    rfl
  rw [hh]
  simp
theorem strip_sp {r q1 q2 : List Nat} {c1 c2 : Nat} (e1 : r = c1 :: q1) (h1 : Unicode.isSpace c1 = false) (e2 : r = q2 ++ [c2]) (h2 : Unicode.isSpace c2 = false) : Txt.strip (S (32 :: r)) = S r := by
  have l1 : stripLo Unicode.isSpace true (S (32 :: r)) = 1 := by
    unfold stripLo
    rw [if_pos rfl, S_cps, List.takeWhile_cons, if_pos sp32, lo0 e1 h1]
    rfl
  have hh : stripHi Unicode.isSpace true (S (32 :: r)) 1 = (S (32 :: r)).length := by
    unfold stripHi
    rw [if_pos rfl, S_cps, List.drop_succ_cons, List.drop_zero, hi0 e2 h2]
    rfl
  unfold Txt.strip Txt.stripBy stripSame
  rw [l1, hh]
  have : (1 == 0 && (S (32 :: r)).length == (S (32 :: r)).length) = false := by simp
  rw [this]
  unfold stripped
  rw [l1, hh]
  rw [if_neg Bool.false_ne_true]
  apply Str.ext'
  apply Array.toList_inj.mp
  rw [StrLaws.strSub_toList, S_cps, S_cps, S_len]
  simp

theorem Wd.edge {k : Tk} (h : Wd k) : (∃ c q, k = c :: q ∧ Unicode.isSpace c = false) ∧ ∃ c q, k = q ++ [c] ∧ Unicode.isSpace c = false := by
  obtain ⟨h1, h2⟩ := h
  constructor
  · cases k with
    | nil => exact absurd rfl h1
    | cons c q => exact ⟨c, q, rfl, (h2 c (.head _)).sp⟩
  · refine ⟨k.getLast h1, k.dropLast, (List.dropLast_concat_getLast h1).symm, (h2 _ (List.getLast_mem h1)).sp⟩

theorem jn_head : ∀ {a : List Tk}, (∀ k ∈ a, Wd k) → a ≠ [] → ∃ c q, jn a = c :: q ∧ Unicode.isSpace c = false
  | [], _, h => absurd rfl h
  | [a], hw, _ => (hw a (.head _)).edge.1
  | a :: b :: r, hw, _ => by
    obtain ⟨c, q, e, h⟩ := (hw a (.head _)).edge.1
    exact ⟨c, q ++ 32 :: jn (b :: r), by rw [jn, e]; rfl, h⟩

/- what grouped tells is empty or opens with no blank -/
theorem grp_head {t : Tree} (h : WF t) : grp t = [] ∨ ∃ c q, grp t = c :: q ∧ Unicode.isSpace c = false := by
  have ap : ∀ {x y : List Nat}, (∃ c q, x = c :: q ∧ Unicode.isSpace c = false) → ∃ c q, x ++ y = c :: q ∧ Unicode.isSpace c = false := by
    rintro x y ⟨c, q, rfl, h⟩
    exact ⟨c, q ++ y, rfl, h⟩
  induction h with
  | @run a hw _ =>
    cases a with
    | nil => exact .inl rfl
    | cons k r => exact .inr (jn_head hw (by simp))
  | @redir k t p hk _ hp ih =>
    right
    show ∃ c q, txt (.redir k t p) = _ ∧ _
    rw [txt]
    split
    · rw [List.nil_append, List.append_assoc]
      refine ap ?_
      unfold sgn
      split
      · exact ⟨60, [], rfl, by decide +kernel⟩
      split
      · exact ⟨62, [], rfl, by decide +kernel⟩
      · exact ⟨62, [62], rfl, by decide +kernel⟩
    · rename_i hn
      simp only [List.append_assoc]
      exact ap (ih.resolve_left hn)
  | pair hs _ _ _ _ => exact .inr ⟨40, _, rfl, by decide +kernel⟩
  | back _ _ => exact .inr ⟨40, _, rfl, by decide +kernel⟩

/- what strip makes of a redirection's text -/
theorem strip_redir {k : Nat} {t : Tree} {p : Tk} (h : WF t) (hp : Wd p) : Txt.strip (S (grp t ++ [32] ++ sgn k ++ [32] ++ p)) = S (txt (.redir k t p)) := by
  obtain ⟨_, c2, q2, e2, h2⟩ := hp.edge
  have hs : ∃ c q, sgn k = c :: q ∧ Unicode.isSpace c = false := by
    unfold sgn
    split
    · exact ⟨60, [], rfl, by decide +kernel⟩
    split
    · exact ⟨62, [], rfl, by decide +kernel⟩
    · exact ⟨62, [62], rfl, by decide +kernel⟩
  rw [txt]
  rcases grp_head h with e | ⟨c, q, e, h1⟩
  · rw [show brk (isRR t) (txt t) = [] from e, e, if_pos rfl]
    obtain ⟨c, q, e3, h3⟩ := hs
    exact strip_sp (r := [] ++ sgn k ++ [32] ++ p) (c1 := c) (q1 := q ++ [32] ++ p) (by rw [e3]; rfl) h3 (q2 := [] ++ sgn k ++ [32] ++ q2) (c2 := c2) (by rw [e2]; simp) h2
  · have hn : ¬ brk (isRR t) (txt t) = [] := by
      rw [show brk (isRR t) (txt t) = c :: q from e]
      exact fun q => nomatch q
    rw [if_neg hn]
    exact strip_edge (c1 := c) (q1 := q ++ [32] ++ sgn k ++ [32] ++ p) (by rw [e]; rfl) h1 (q2 := grp t ++ [32] ++ sgn k ++ [32] ++ q2) (c2 := c2) (by rw [e2]; simp) h2
end

section
open PySem PySem.StrLaws Builtin.Str

/- '>>' by one sign -/
noncomputable def rp : List Nat → List Nat
  | [] => []
  | [c] => [c]
  | c :: d :: r => if c = 62 ∧ d = 62 then 1 :: rp r else c :: rp (d :: r)
noncomputable def ps : List Nat → Nat → List Nat
  | [], _ => []
  | [_], _ => []
  | c :: d :: r, i => if c = 62 ∧ d = 62 then i :: ps r (i + 2) else ps (d :: r) (i + 1)

theorem gg_cps : (Str.ofString ">>").cps.toList = [62, 62] := by decide +kernel
theorem gg_len : (Str.ofString ">>").length = 2 := by decide +kernel
theorem one_S : Str.ofString "\x01" = S [1] := by decide +kernel

theorem sub_gg (x : Str) (i : Nat) : subAt x (Str.ofString ">>") i = ((x.cps.toList.drop i).take 2 == [62, 62]) := by
  rw [subAt_eq, gg_cps, gg_len]
theorem ps_drop {x : Str} {i : Nat} (h : i < x.length) : ps (x.cps.toList.drop i) i = if (x.cps.toList.drop i).take 2 = [62, 62] then i :: ps (x.cps.toList.drop (i + 2)) (i + 2) else ps (x.cps.toList.drop (i + 1)) (i + 1) := by
  rw [drop_chr h]
  have e : x.cps.toList.drop (i + 2) = (x.cps.toList.drop (i + 1)).drop 1 := by rw [List.drop_drop]
  rw [e]
  cases q : x.cps.toList.drop (i + 1) with
  | nil => rw [if_neg (by simp)]; rfl
  | cons d r =>
    rw [ps]
    simp

theorem occ_scan (x : Str) : ∀ (n i : Nat) (st : Array Nat × Nat), i + n = x.length + 1 → st.2 ≤ i + 1 → st.1.size ≤ i →
    (forIn (List.range' i n) st (occBody x (Str.ofString ">>") x.length (x.length + 1))).run.fst.toList = st.1.toList ++ ps (x.cps.toList.drop (max st.2 i)) (max st.2 i)
  | 0, i, st, hn, h2, h3 => by
    have : x.cps.toList.drop (max st.2 i) = [] := drop_end (by (first | lia | omega))
    rw [this]
    simp [ps]
  | n + 1, i, st, hn, h2, h3 => by
    rw [List.range'_succ, List.forIn_cons]
    unfold occBody
    rw [gg_len]
    by_cases hc : ((st.fst.size < x.length + 1 ∧ st.snd ≤ i) ∧ i + 2 ≤ x.length) ∧ subAt x (Str.ofString ">>") i = true
    · rw [if_pos hc]
      have ih := occ_scan x n (i + 1) (st.1.push i, i + 2) (by (first | lia | omega)) (by show i + 2 ≤ _; (first | lia | omega)) (by show (st.1.push i).size ≤ _; rw [Array.size_push]; (first | lia | omega))
      have m1 : max st.2 i = i := by (first | lia | omega)
      have m2 : max (i + 2) (i + 1) = i + 2 := by (first | lia | omega)
      refine Eq.trans ih ?_
      show (st.1.push i).toList ++ ps (x.cps.toList.drop (max (i + 2) (i + 1))) (max (i + 2) (i + 1)) = _
      rw [m1, m2, Array.toList_push, List.append_assoc]
      congr 1
      rw [ps_drop (i := i) (by (first | lia | omega)), if_pos]
      · rfl
      · have := hc.2
        rw [sub_gg] at this
        exact beq_iff_eq.mp this
    · rw [if_neg hc]
      have ih := occ_scan x n (i + 1) st (by (first | lia | omega)) (by (first | lia | omega)) (by (first | lia | omega))
      refine Eq.trans ih ?_
      congr 1
      by_cases hs : st.2 ≤ i
      · have m1 : max st.2 i = i := by (first | lia | omega)
        have m2 : max st.2 (i + 1) = i + 1 := by (first | lia | omega)
        rw [m1, m2]
        by_cases hl : i < x.length
        · rw [ps_drop hl, if_neg]
          intro q
          apply hc
          refine ⟨⟨⟨by (first | lia | omega), hs⟩, ?_⟩, by rw [sub_gg, q]; rfl⟩
          have := congrArg List.length q
          rw [List.length_take, List.length_drop, Array.length_toList] at this
          have e : x.length = x.cps.size := rfl
          simp at this
          (first | lia | omega)
        · rw [drop_end (by (first | lia | omega)), drop_end (by (first | lia | omega))]
          rfl
      · have m1 : max st.2 i = i + 1 := by (first | lia | omega)
        have m2 : max st.2 (i + 1) = i + 1 := by (first | lia | omega)
        rw [m1, m2]

theorem occ_gg (x : Str) : occurrences x (Str.ofString ">>") 0 x.length (x.length + 1) = ps x.cps.toList 0 := by
  rw [occ_eq]
  have := occ_scan x (x.length + 1) 0 (#[], 0) (by (first | lia | omega)) (by (first | lia | omega)) (by simp)
  simpa using this

theorem sub_S (x : Str) (a c : Nat) : strSub x a c = S ((x.cps.toList.drop a).take (c - a)) := by
  apply Str.ext'
  apply Array.toList_inj.mp
  rw [strSub_toList, S_cps]

theorem join_ps (x : Str) : ∀ (n a i : Nat), i + n = x.length → a ≤ i → Str.join (S [1]) (partsFrom x 2 a (ps (x.cps.toList.drop i) i)) = S ((x.cps.toList.drop a).take (i - a) ++ rp (x.cps.toList.drop i)) := by
  intro n
  induction n using Nat.strongRecOn with
  | ind n IH =>
    intro a i hn ha
    have whole : strSub x a x.length = S ((x.cps.toList.drop a).take (i - a) ++ x.cps.toList.drop i) := by
      rw [sub_S]
      congr 1
      have e : x.cps.toList.drop i = (x.cps.toList.drop a).drop (i - a) := by rw [List.drop_drop]; congr 1; (first | lia | omega)
      rw [e, List.take_append_drop, List.take_of_length_le]
      rw [List.length_drop, Array.length_toList]
      exact Nat.le_refl _
    by_cases hl : i < x.length
    · rw [ps_drop hl]
      split
      · rename_i h2
        have hl2 : i + 2 ≤ x.length := by
          have := congrArg List.length h2
          rw [List.length_take, List.length_drop, Array.length_toList] at this
          have e : x.length = x.cps.size := rfl
          simp at this
          (first | lia | omega)
        have ih := IH (n - 2) (by (first | lia | omega)) (i + 2) (i + 2) (by (first | lia | omega)) (Nat.le_refl _)
        rw [partsFrom]
        obtain ⟨p, r, hp⟩ := partsFrom_ne x 2 (i + 2) (ps (x.cps.toList.drop (i + 2)) (i + 2))
        have e0 : (Str.ofString ">>").length = 2 := gg_len
        rw [hp] at ih ⊢
        rw [show Str.join (S [1]) (strSub x a i :: p :: r) = strSub x a i ++ S [1] ++ Str.join (S [1]) (p :: r) from rfl, ih, sub_S, S_append, S_append]
        congr 1
        have e1 := drop_chr hl
        rw [e1] at h2 ⊢
        have e2 : x.cps.toList.drop (i + 2) = (x.cps.toList.drop (i + 1)).drop 1 := by rw [List.drop_drop]
        cases q : x.cps.toList.drop (i + 1) with
        | nil => rw [q] at h2; simp at h2
        | cons d rr =>
          rw [q] at h2
          simp at h2
          rw [rp, if_pos h2, e2, q]
          simp
      · rename_i h2
        have ih := IH (n - 1) (by (first | lia | omega)) a (i + 1) (by (first | lia | omega)) (by (first | lia | omega))
        rw [ih]
        congr 1
        have e1 := drop_chr hl
        have e3 : (x.cps.toList.drop a).take (i + 1 - a) = (x.cps.toList.drop a).take (i - a) ++ [chr x i] := by
          have : i + 1 - a = (i - a) + 1 := by (first | lia | omega)
          rw [this, List.take_add_one]
          congr 1
          have e : (x.cps.toList.drop a)[i - a]? = x.cps.toList[i]? := by rw [List.getElem?_drop]; congr 1; (first | lia | omega)
          rw [e]
          have e4 : x.cps.toList[i]? = (x.cps.toList.drop i)[0]? := by rw [List.getElem?_drop]; rfl
          rw [e4, e1]
          rfl
        rw [e3, e1, List.append_assoc]
        congr 1
        rw [e1] at h2
        cases q : x.cps.toList.drop (i + 1) with
        | nil => rfl
        | cons d rr =>
          rw [q] at h2
          rw [rp, if_neg (fun z => h2 (by rw [z.1, z.2]; rfl))]
          rfl
    · have e : x.cps.toList.drop i = [] := drop_end (by (first | lia | omega))
      rw [e] at whole ⊢
      exact whole

theorem replace_gg (x : Str) : Txt.replace x (Str.ofString ">>") (Str.ofString "\x01") = S (rp x.cps.toList) := by
  have key := join_ps x x.length 0 0 (by (first | lia | omega)) (Nat.le_refl _)
  rw [List.drop_zero] at key
  unfold Txt.replace
  rw [occ_gg]
  split
  · rename_i h
    have h0 : ps x.cps.toList 0 = [] := by
      rw [gg_len] at h
      simpa using h
    rw [h0] at key
    rw [show Str.join (S [1]) (partsFrom x 2 0 []) = strSub x 0 x.length from rfl, sub_whole] at key
    simpa using key
  · rw [glued_eq_join, partsBetween_eq, gg_len, one_S]
    simpa using key

theorem rp_len : ∀ r : List Nat, (rp r).length ≤ r.length
  | [] => Nat.le_refl _
  | [_] => Nat.le_refl _
  | c :: d :: r => by
    rw [rp]
    split
    · have := rp_len r
      simp
      (first | lia | omega)
    · have := rp_len (d :: r)
      simp at this ⊢
      (first | lia | omega)

/- the marks that the law's own reader tells, sign by sign; h is the word that is held -/
noncomputable def lm : List Nat → List Nat → List Tk
  | _, [] => []
  | h, c :: r => if c = 1 ∨ isB c = true ∨ isS c = true then (if h = [] then [] else [h]) ++ ((if isB c = true then [] else if c = 1 then [[62, 62]] else [[c]]) ++ lm [] r) else lm (h ++ [c]) r

theorem lm_sign {c : Nat} (h : List Nat) (r : List Nat) (hc : c = 1 ∨ isB c = true ∨ isS c = true) : lm h (c :: r) = (if h = [] then [] else [h]) ++ ((if isB c = true then [] else if c = 1 then [[62, 62]] else [[c]]) ++ lm [] r) := by
  rw [lm, if_pos hc]
theorem lm_word {c : Nat} (h : List Nat) (r : List Nat) (hc : ¬ (c = 1 ∨ isB c = true ∨ isS c = true)) : lm h (c :: r) = lm (h ++ [c]) r := by
  rw [lm, if_neg hc]
theorem isW_iff (c : Nat) : isW c = true ↔ isB c = false ∧ isS c = false := by
  unfold isW
  simp

theorem rp_word {c : Nat} (hc : c ≠ 62) (r : List Nat) : rp (c :: r) = c :: rp r := by
  cases r with
  | nil => rfl
  | cons d r => rw [rp, if_neg (fun q => hc q.1)]

theorem lm_lex : ∀ (n : Nat) (r : List Nat), r.length ≤ n → (∀ c ∈ r, c ≠ 1) →
    (lm [] (rp r ++ [32]) = lex r) ∧ (∀ h, h ≠ [] → lm h (rp r ++ [32]) = (h ++ r.takeWhile isW) :: lex (r.dropWhile isW)) := by
  intro n
  have base : lm [] (rp [] ++ [32]) = lex [] ∧ (∀ h, h ≠ [] → lm h (rp [] ++ [32]) = (h ++ ([] : List Nat).takeWhile isW) :: lex (([] : List Nat).dropWhile isW)) := by
    constructor
    · rw [lex_nil]; rfl
    · intro h hh
      show lm h [32] = _
      rw [lm_sign h [] (.inr (.inl rfl)), if_neg hh, if_pos (show isB 32 = true from rfl)]
      simp [lm, lex_nil]
  induction n with
  | zero =>
    intro r hr _
    obtain rfl : r = [] := List.eq_nil_of_length_eq_zero (by (first | lia | omega))
    exact base
  | succ n ih =>
    intro r hr h1
    cases r with
    | nil => exact base
    | cons c r =>
      have hr' : r.length ≤ n := by simp at hr; (first | lia | omega)
      have h1' : ∀ c ∈ r, c ≠ 1 := fun d hd => h1 d (.tail _ hd)
      have hc1 : c ≠ 1 := h1 c (.head _)
      obtain ⟨i1, i2⟩ := ih r hr' h1'
      by_cases hw : isW c = true
      · obtain ⟨hb, hs⟩ := (isW_iff c).mp hw
        have hn : ¬ (c = 1 ∨ isB c = true ∨ isS c = true) := by simp [hc1, hb, hs]
        have hc62 : c ≠ 62 := fun q => by rw [q] at hs; revert hs; decide
        rw [rp_word hc62, List.cons_append, lm_word _ _ hn]
        refine ⟨?_, fun h hh => ?_⟩
        · rw [i2 _ (by simp), lex_word hw, List.takeWhile_cons, if_pos hw, List.dropWhile_cons, if_pos hw]
          rfl
        · rw [lm_word _ _ hn, i2 _ (by simp), List.takeWhile_cons, if_pos hw, List.dropWhile_cons, if_pos hw]
          simp
      · have hbs : isB c = true ∨ isS c = true := by
          rcases kinds c with q | q | q
          · exact .inl q
          · exact .inr q
          · exact absurd q hw
        -- what stands behind: a sign or a blank
        have go : ∃ ts, (∀ h, lm h (rp (c :: r) ++ [32]) = (if h = [] then [] else [h]) ++ ts) ∧ lex (c :: r) = ts := by
          by_cases hg : c = 62 ∧ ∃ r', r = 62 :: r'
          · obtain ⟨rfl, r', rfl⟩ := hg
            have hl : r'.length ≤ n := by simp at hr'; (first | lia | omega)
            have j := (ih r' hl (fun d hd => h1' d (.tail _ hd))).1
            refine ⟨[62, 62] :: lex r', fun h => ?_, lex_gg r'⟩
            rw [rp, if_pos ⟨rfl, rfl⟩, List.cons_append, lm_sign h _ (.inl rfl), if_neg (show ¬ isB 1 = true by decide), if_pos rfl, j]
            rfl
          · have hrp : rp (c :: r) = c :: rp r := by
              cases r with
              | nil => rfl
              | cons d r' =>
                rw [rp, if_neg]
                rintro ⟨q1, q2⟩
                exact hg ⟨q1, r', by rw [q2]⟩
            by_cases hb : isB c = true
            · refine ⟨lex r, fun h => ?_, lex_blank hb r⟩
              rw [hrp, List.cons_append, lm_sign h _ (.inr (.inl hb)), if_pos hb, i1]
              rfl
            · have hs : isS c = true := hbs.resolve_left hb
              refine ⟨[c] :: lex r, fun h => ?_, lex_sign hs ?_⟩
              · rw [hrp, List.cons_append, lm_sign h _ (.inr (.inr hs)), if_neg hb, if_neg hc1, i1]
                rfl
              · rintro ⟨q1, q2⟩
                cases r with
                | nil => cases q2
                | cons d r' => cases q2; exact hg ⟨q1, r', rfl⟩
        obtain ⟨ts, g1, g2⟩ := go
        refine ⟨?_, fun h hh => ?_⟩
        · rw [g1, if_pos rfl, g2]; rfl
        · rw [g1, if_neg hh, List.takeWhile_cons, if_neg hw, List.dropWhile_cons, if_neg hw, g2]
          simp
theorem lm_is (r : List Nat) (h : ∀ c ∈ r, c ≠ 1) : lm [] (rp r ++ [32]) = lex r := (lm_lex r.length r (Nat.le_refl _) h).1
end

section
open PySem

inductive CutR where
  | bad
  | no
  | at (i : Nat)
  deriving DecidableEq

/- where the law cuts a list of marks -/
noncomputable def lCut (sg : Tk) : Nat → Nat → List Tk → CutR
  | deep, _, [] => if deep = 0 then .no else .bad
  | deep, i, k :: r => if k = [40] then lCut sg (deep + 1) (i + 1) r else if k = [41] then (if deep = 0 then .bad else lCut sg (deep - 1) (i + 1) r) else if k = sg ∧ deep = 0 then .at i else lCut sg deep (i + 1) r

/- the signs at a list's end that send it to the back -/
noncomputable def unback : Nat → List Tk → List Tk × Nat
  | 0, ts => (ts, 0)
  | n + 1, ts => if ts.getLast? = some [38] then ((unback n ts.dropLast).1, (unback n ts.dropLast).2 + 1) else (ts, 0)
noncomputable def backs : Nat → Tree → Tree
  | 0, t => t
  | n + 1, t => .back (backs n t)

noncomputable def isRedM (k : Tk) : Bool := k = [60] || k = [62] || k = [62, 62]
noncomputable def isOpM (k : Tk) : Bool := k = [124] || k = [38] || k = [59] || k = [40] || k = [41]
/- what the law's reader of one command makes of its rest -/
noncomputable def lRest (brk : Bool) : Nat → List Tk → Rd → List Tk → Option (List Tk × Rd)
  | _, a, rd, [] => some (a, rd)
  | 0, _, _, _ :: _ => none
  | n + 1, a, rd, k :: ts => if isRedM k then (match ts with
      | [] => none
      | p :: ts' => if isRedM p || isOpM p then none else lRest brk n a (rd ++ [(kd k, p)]) ts') else if isOpM k || brk then none else lRest brk n (a ++ [k]) rd ts
/- the places of the brackets that close the first -/
noncomputable def closes (ts : List Tk) : List Nat := (List.range ts.length).filter fun i => decide (ts[i]? = some [41]) && decide (lCut [] 0 0 ((ts.take i).drop 1) = .no)

mutual
noncomputable def lLine : Nat → List Tk → Option Tree
  | 0, _ => none
  | n + 1, ts => match lCut [59] 0 0 ts with
    | .bad => none
    | .no => (lPipe n (unback ts.length ts).1).map (backs (unback ts.length ts).2)
    | .at i => match (lPipe n (unback (ts.take i).length (ts.take i)).1).map (backs (unback (ts.take i).length (ts.take i)).2) with
      | none => none
      | some t => match lLine n (ts.drop (i + 1)) with
        | none => none
        | some r => some (.pair 59 t r)
noncomputable def lPipe : Nat → List Tk → Option Tree
  | 0, _ => none
  | n + 1, ts => match lCut [124] 0 0 ts with
    | .bad => none
    | .no => lOne n ts
    | .at i => match lOne n (ts.take i), lPipe n (ts.drop (i + 1)) with
      | some t, some r => some (.pair 124 t r)
      | _, _ => none
noncomputable def lOne : Nat → List Tk → Option Tree
  | 0, _ => none
  | n + 1, ts => if ts.head? = some [40] then (match closes ts with
      | [] => none
      | c :: _ => match lLine n ((ts.take c).drop 1) with
        | none => none
        | some b => match lRest true ts.length [] [] (ts.drop (c + 1)) with
          | none => none
          | some (a, rd) => if a.length > 9 then none else some (appR b rd))
    else match lRest false ts.length [] [] ts with
      | none => none
      | some (a, rd) => if a.length > 9 then none else some (appR (.run a) rd)
end
end

section
open PySem

/- a mark that is a word -/
noncomputable def WdM (k : Tk) : Prop := k ≠ [] ∧ ∀ c ∈ k, isW c = true
/- the marks that a text can have -/
noncomputable def okM (k : Tk) : Prop := WdM k ∨ isRedM k = true ∨ isOpM k = true

theorem isRedM_iff {k : Tk} : isRedM k = true ↔ k = [60] ∨ k = [62] ∨ k = [62, 62] := by
  unfold isRedM
  simp [or_assoc]
theorem isOpM_iff {k : Tk} : isOpM k = true ↔ k = [124] ∨ k = [38] ∨ k = [59] ∨ k = [40] ∨ k = [41] := by
  unfold isOpM
  simp [or_assoc]
theorem WdM.hd {k : Tk} (h : WdM k) : isW (hd0 k) = true := by
  obtain ⟨h1, h2⟩ := h
  cases k with
  | nil => exact absurd rfl h1
  | cons c r => exact h2 c (.head _)
theorem WdM.ne {k : Tk} (h : WdM k) {c : Nat} (r : Tk) (hc : isW c = false) : k ≠ c :: r := fun e => by
  have := h.hd
  rw [e] at this
  exact absurd (this.symm.trans hc) (by decide)
theorem WdM.notRed {k : Tk} (h : WdM k) : isRedM k = false := by
  cases q : isRedM k with
  | false => rfl
  | true =>
    rcases isRedM_iff.mp q with e | e | e
    · exact absurd e (h.ne _ (by decide))
    · exact absurd e (h.ne _ (by decide))
    · exact absurd e (h.ne _ (by decide))
theorem WdM.notOp {k : Tk} (h : WdM k) : isOpM k = false := by
  cases q : isOpM k with
  | false => rfl
  | true =>
    rcases isOpM_iff.mp q with e | e | e | e | e <;> exact absurd e (h.ne _ (by decide))
theorem okM.word {k : Tk} (h : okM k) (h1 : isRedM k = false) (h2 : isOpM k = false) : WdM k := by
  rcases h with h | h | h
  · exact h
  · rw [h1] at h; cases h
  · rw [h2] at h; cases h
/- how the parser sees a mark -/
theorem okM.red {k : Tk} (h : okM k) : isRed k = isRedM k := by
  rcases h with h | h | h
  · rw [h.notRed]
    have := h.hd
    unfold isRed
    have e1 : hd0 k ≠ 60 := fun e => by rw [e] at this; cases this
    have e2 : hd0 k ≠ 62 := fun e => by rw [e] at this; cases this
    simp [e1, e2]
  · rw [h]
    rcases isRedM_iff.mp h with e | e | e <;> rw [e] <;> rfl
  · rcases isOpM_iff.mp h with e | e | e | e | e <;> rw [e] <;> rfl
theorem okM.wd {k : Tk} (h : okM k) (q : isWd k = true) : WdM k := by
  rcases h with h | h | h
  · exact h
  · rcases isRedM_iff.mp h with e | e | e <;> rw [e] at q <;> cases q
  · rcases isOpM_iff.mp h with e | e | e | e | e <;> rw [e] at q <;> cases q
theorem okM.hd {k : Tk} (h : okM k) {c : Nat} (hc : c = 124 ∨ c = 38 ∨ c = 59 ∨ c = 40 ∨ c = 41) (q : hd0 k = c) : k = [c] := by
  rcases h with h | h | h
  · have := h.hd
    rw [q] at this
    rcases hc with rfl | rfl | rfl | rfl | rfl <;> cases this
  · rcases isRedM_iff.mp h with e | e | e <;> subst e <;> rcases hc with rfl | rfl | rfl | rfl | rfl <;> cases q
  · rcases isOpM_iff.mp h with e | e | e | e | e <;> subst e <;> cases q <;> rfl

/- words and redirections in any order -/
inductive Items : List Tk → List Tk → Rd → Prop
  | nil : Items [] [] []
  | word {k : Tk} {ts a : List Tk} {rd : Rd} : WdM k → Items ts a rd → Items (k :: ts) (k :: a) rd
  | red {k p : Tk} {ts a : List Tk} {rd : Rd} : isRedM k = true → WdM p → Items ts a rd → Items (k :: p :: ts) a ((kd k, p) :: rd)

theorem Items.append {u a u' a' : List Tk} {rd rd' : Rd} (h : Items u a rd) (h' : Items u' a' rd') : Items (u ++ u') (a ++ a') (rd ++ rd') := by
  induction h with
  | nil => exact h'
  | word w _ ih => exact .word w ih
  | red r p _ ih => exact .red r p ih

/- how a line is built of its marks: 0 a command, 1 a pipe, 2 a line -/
inductive G : Nat → List Tk → Tree → Prop
  | run {ts a : List Tk} {rd : Rd} : Items ts a rd → a.length ≤ 9 → G 0 ts (appR (.run a) rd)
  | block {v r : List Tk} {t : Tree} {rd : Rd} : G 2 v t → Items r [] rd → G 0 ([40] :: (v ++ [41] :: r)) (appR t rd)
  | cmd {ts : List Tk} {t : Tree} : G 0 ts t → G 1 ts t
  | pipe {c v : List Tk} {t1 t2 : Tree} : G 0 c t1 → G 1 v t2 → G 1 (c ++ [124] :: v) (.pair 124 t1 t2)
  | back {p : List Tk} {t : Tree} (m : Nat) : G 1 p t → G 2 (p ++ List.replicate m [38]) (backs m t)
  | seq {p v : List Tk} {t t2 : Tree} (m : Nat) : G 1 p t → G 2 v t2 → G 2 (p ++ List.replicate m [38] ++ [59] :: v) (.pair 59 (backs m t) t2)

/- the law's reader: it reads what is built so -/

noncomputable def cutSg (sg : Tk) : Prop := sg = [] ∨ sg = [59] ∨ sg = [124]
theorem lCut_other {sg k : Tk} {d i : Nat} {r : List Tk} (h1 : k ≠ [40]) (h2 : k ≠ [41]) (h3 : ¬ (k = sg ∧ d = 0)) : lCut sg d i (k :: r) = lCut sg d (i + 1) r := by
  rw [lCut, if_neg h1, if_neg h2, if_neg h3]
theorem lCut_open {sg : Tk} {d i : Nat} {r : List Tk} : lCut sg d i ([40] :: r) = lCut sg (d + 1) (i + 1) r := by
  rw [lCut, if_pos rfl]
theorem lCut_close {sg : Tk} {d i : Nat} {r : List Tk} : lCut sg (d + 1) i ([41] :: r) = lCut sg d (i + 1) r := by
  rw [lCut, if_neg (by decide), if_pos rfl, if_neg (by (first | lia | omega)), Nat.add_sub_cancel]
theorem WdM.noSg {k sg : Tk} (h : WdM k) (hs : cutSg sg) : k ≠ sg := fun e => by
  rcases hs with q | q | q
  · exact h.1 (e.trans q)
  · exact absurd (e.trans q) (h.ne _ (by decide))
  · exact absurd (e.trans q) (h.ne _ (by decide))
theorem lCut_word {sg k : Tk} {d i : Nat} {r : List Tk} (h : WdM k) (hs : cutSg sg) : lCut sg d i (k :: r) = lCut sg d (i + 1) r :=
  lCut_other (h.ne _ (by decide)) (h.ne _ (by decide)) fun q => h.noSg hs q.1
theorem lCut_red {sg k : Tk} {d i : Nat} {r : List Tk} (h : isRedM k = true) (hs : cutSg sg) : lCut sg d i (k :: r) = lCut sg d (i + 1) r := by
  refine lCut_other ?_ ?_ ?_
  · rcases isRedM_iff.mp h with e | e | e <;> rw [e] <;> decide
  · rcases isRedM_iff.mp h with e | e | e <;> rw [e] <;> decide
  · rintro ⟨q, _⟩
    rcases isRedM_iff.mp h with e | e | e <;> rcases hs with z | z | z <;> rw [e, z] at q <;> cases q
theorem items_skip {ts a : List Tk} {rd : Rd} (h : Items ts a rd) {sg : Tk} (hs : cutSg sg) : ∀ d i r, lCut sg d i (ts ++ r) = lCut sg d (i + ts.length) r := by
  induction h with
  | nil => intro d i r; rfl
  | word w _ ih => intro d i r; rw [List.cons_append, lCut_word w hs, ih, List.length_cons]; congr 1; (first | lia | omega)
  | red q p _ ih => intro d i r; rw [List.cons_append, List.cons_append, lCut_red q hs, lCut_word p hs, ih, List.length_cons, List.length_cons]; congr 1; (first | lia | omega)
theorem rep_skip {sg : Tk} (hs : cutSg sg) (d : Nat) : ∀ m i r, lCut sg d i (List.replicate m [38] ++ r) = lCut sg d (i + m) r := by
  intro m
  induction m with
  | zero => intro i r; rfl
  | succ m ih =>
    intro i r
    rw [List.replicate_succ, List.cons_append, lCut_other (by decide) (by decide) (fun q => by rcases hs with z | z | z <;> rw [z] at q <;> cases q.1), ih]
    congr 1
    (first | lia | omega)
theorem G_skip {lv : Nat} {ts : List Tk} {t : Tree} (h : G lv ts t) : ∀ {sg : Tk} (d i : Nat) (r : List Tk), cutSg sg → (0 < d ∨ sg = [] ∨ lv = 0 ∨ (lv = 1 ∧ sg = [59])) → lCut sg d i (ts ++ r) = lCut sg d (i + ts.length) r := by
  induction h with
  | run h _ => intro sg d i r hs _; exact items_skip h hs d i r
  | @block v rr t rd _ h2 ih =>
    intro sg d i r hs _
    rw [List.cons_append, lCut_open, List.append_assoc, ih (d + 1) (i + 1) _ hs (.inl (by (first | lia | omega))), List.cons_append, lCut_close, items_skip h2 hs]
    congr 1
    simp only [List.length_cons, List.length_append]
    (first | lia | omega)
  | cmd _ ih => intro sg d i r hs _; exact ih d i r hs (.inr (.inr (.inl rfl)))
  | @pipe c v t1 t2 _ _ i1 i2 =>
    intro sg d i r hs hc
    rw [List.append_assoc, i1 d i _ hs (.inr (.inr (.inl rfl))), List.cons_append, lCut_other (by decide) (by decide) (fun q => ?_), i2 d _ r hs ?_]
    · congr 1
      simp only [List.length_cons, List.length_append]
      (first | lia | omega)
    · rcases hc with q | q | q | q
      · exact .inl q
      · exact .inr (.inl q)
      · cases q
      · exact .inr (.inr (.inr q))
    · rcases hc with z | z | z | z
      · (first | lia | omega)
      · rw [z] at q; cases q.1
      · cases z
      · rw [z.2] at q; cases q.1
  | @back p t m _ ih =>
    intro sg d i r hs hc
    rw [List.append_assoc, ih d i _ hs ?_, rep_skip hs]
    · congr 1
      simp only [List.length_append, List.length_replicate]
      (first | lia | omega)
    · rcases hc with q | q | q | q
      · exact .inl q
      · exact .inr (.inl q)
      · cases q
      · cases q.1
  | @seq p v t t2 m _ _ i1 i2 =>
    intro sg d i r hs hc
    have hc' : 0 < d ∨ sg = [] := by
      rcases hc with q | q | q | q
      · exact .inl q
      · exact .inr q
      · cases q
      · cases q.1
    rw [List.append_assoc, List.append_assoc, i1 d i _ hs (by rcases hc' with q | q; exact .inl q; exact .inr (.inl q)), rep_skip hs, List.cons_append, lCut_other (by decide) (by decide) (fun q => ?_), i2 d _ r hs (by rcases hc' with q | q; exact .inl q; exact .inr (.inl q))]
    · congr 1
      simp only [List.length_cons, List.length_append, List.length_replicate]
      (first | lia | omega)
    · rcases hc' with z | z
      · (first | lia | omega)
      · rw [z] at q; cases q.1

theorem unback_rep {p : List Tk} (hp : p.getLast? ≠ some [38]) : ∀ m n, m ≤ n → unback n (p ++ List.replicate m [38]) = (p, m) := by
  intro m
  induction m with
  | zero =>
    intro n _
    rw [List.replicate_zero, List.append_nil]
    cases n with
    | zero => rfl
    | succ n => rw [unback, if_neg hp]
  | succ m ih =>
    intro n hn
    cases n with
    | zero => (first | lia | omega)
    | succ n =>
      have e : p ++ List.replicate (m + 1) [38] = p ++ List.replicate m [38] ++ [[38]] := by rw [List.replicate_succ', List.append_assoc]
      rw [unback, if_pos (by rw [e]; simp), e, List.dropLast_concat, ih n (by (first | lia | omega))]

theorem items_last {ts a : List Tk} {rd : Rd} (h : Items ts a rd) : ts.getLast? ≠ some [38] := by
  induction h with
  | nil => exact fun q => nomatch q
  | @word k ts a rd w _ ih =>
    cases ts with
    | nil => intro q; cases q; exact w.ne _ (by decide) rfl
    | cons x r => rw [List.getLast?_cons_cons]; exact ih
  | @red k p ts a rd _ w _ ih =>
    rw [List.getLast?_cons_cons]
    cases ts with
    | nil => intro q; cases q; exact w.ne _ (by decide) rfl
    | cons x r => rw [List.getLast?_cons_cons]; exact ih
theorem last_app {x : Tk} {r : List Tk} : ∀ l : List Tk, (l ++ x :: r).getLast? = (x :: r).getLast? := fun l => by
  rw [List.getLast?_append]
  cases h : (x :: r).getLast? with
  | none => simp at h
  | some y => rfl
theorem last_cons {x : Tk} (hx : x ≠ [38]) {r : List Tk} (hr : r.getLast? ≠ some [38]) : (x :: r).getLast? ≠ some [38] := by
  cases r with
  | nil => intro q; cases q; exact hx rfl
  | cons y r => rw [List.getLast?_cons_cons]; exact hr
theorem G_last {lv : Nat} {ts : List Tk} {t : Tree} (h : G lv ts t) : lv ≤ 1 → ts.getLast? ≠ some [38] := by
  induction h with
  | run h _ => intro _; exact items_last h
  | block _ h2 _ =>
    intro _
    rw [show ∀ v r : List Tk, [40] :: (v ++ [41] :: r) = ([40] :: v) ++ [41] :: r from fun _ _ => rfl, last_app]
    exact last_cons (by decide) (items_last h2)
  | cmd _ ih => intro _; exact ih (by (first | lia | omega))
  | pipe _ _ _ i2 => intro _; rw [last_app]; exact last_cons (by decide) (i2 (by (first | lia | omega)))
  | back => intro h; (first | lia | omega)
  | seq => intro h; (first | lia | omega)

theorem lRest_items {ts a : List Tk} {rd : Rd} (h : Items ts a rd) : ∀ (brk : Bool) n a0 rd0, (brk = true → a = []) → ts.length ≤ n → lRest brk n a0 rd0 ts = some (a0 ++ a, rd0 ++ rd) := by
  induction h with
  | nil =>
    intro brk n a0 rd0 _ _
    cases n <;> simp [lRest]
  | @word k ts a rd w _ ih =>
    intro brk n a0 rd0 hb hn
    cases n with
    | zero => simp at hn
    | succ n =>
      have hb' : brk = false := by
        cases brk with
        | false => rfl
        | true => exact absurd (hb rfl) (by simp)
      rw [lRest.eq_def]
      dsimp only
      rw [if_neg (by rw [w.notRed]; decide), if_neg (by rw [w.notOp, hb']; decide), ih brk n (a0 ++ [k]) rd0 (by rw [hb']; intro q; cases q) (by simpa using hn), List.append_assoc]
      rfl
  | @red k p ts a rd q w _ ih =>
    intro brk n a0 rd0 hb hn
    cases n with
    | zero => simp at hn
    | succ n =>
      rw [lRest, if_pos q, if_neg (by rw [w.notRed, w.notOp]; decide), ih brk n a0 (rd0 ++ [(kd k, p)]) hb (by simp at hn; (first | lia | omega)), List.append_assoc]
      rfl
theorem items_head {ts a : List Tk} {rd : Rd} (h : Items ts a rd) : ts.head? ≠ some [40] := by
  cases h with
  | nil => exact fun q => nomatch q
  | word w _ => intro q; cases q; exact w.ne _ (by decide) rfl
  | red q _ _ => intro e; cases e; cases q

/- the first bracket that closes -/
theorem closes_first {v r : List Tk} (hv : ∀ d i r, lCut [] d i (v ++ r) = lCut [] d (i + v.length) r) : ∃ cs, closes ([40] :: (v ++ [41] :: r)) = (v.length + 1) :: cs := by
  have hlen : ([40] :: (v ++ [41] :: r)).length = (v.length + 1) + (r.length + 1) := by simp; (first | lia | omega)
  have key : ∀ i, i < v.length + 1 → ¬ ((decide (([40] :: (v ++ [41] :: r))[i]? = some [41]) && decide (lCut [] 0 0 ((([40] :: (v ++ [41] :: r)).take i).drop 1) = .no)) = true) := by
    intro i hi h
    rw [Bool.and_eq_true] at h
    have h1 := of_decide_eq_true h.1
    have h2 := of_decide_eq_true h.2
    cases i with
    | zero => simp at h1
    | succ i =>
      rw [List.getElem?_cons_succ, List.getElem?_append_left (by (first | lia | omega))] at h1
      rw [List.take_succ_cons, List.drop_succ_cons, List.drop_zero, List.take_append_of_le_length (by (first | lia | omega))] at h2
      obtain ⟨hl, he⟩ := List.getElem?_eq_some_iff.mp h1
      have e : v = v.take i ++ [41] :: v.drop (i + 1) := by
        have := List.take_append_drop i v
        rw [List.drop_eq_getElem_cons hl, he] at this
        exact this.symm
      -- the part ahead is balanced, so the bracket is one too many
      have pass : ∀ (a : List Tk) (d i : Nat), lCut [] d i a = .no → ∀ b, lCut [] d i (a ++ b) = lCut [] 0 (i + a.length) b := by
        intro a
        induction a with
        | nil => intro d i h b; rw [lCut] at h; split at h; · rename_i q; rw [q]; rfl
                 · cases h
        | cons k a ih =>
          intro d i h b
          have hA : i + (k :: a).length = i + 1 + a.length := by simp; (first | lia | omega)
          rw [hA]
          rw [lCut] at h
          rw [List.cons_append, lCut]
          by_cases c1 : k = [40]
          · rw [if_pos c1] at h ⊢; exact ih _ _ h b
          rw [if_neg c1] at h ⊢
          by_cases c2 : k = [41]
          · rw [if_pos c2] at h ⊢
            by_cases c3 : d = 0
            · rw [if_pos c3] at h; cases h
            · rw [if_neg c3] at h ⊢; exact ih _ _ h b
          rw [if_neg c2] at h ⊢
          by_cases c3 : k = [] ∧ d = 0
          · rw [if_pos c3] at h; cases h
          · rw [if_neg c3] at h ⊢; exact ih _ _ h b
      have q1 := pass _ 0 0 h2 ([41] :: v.drop (i + 1))
      rw [← e] at q1
      have q2 := hv 0 0 []
      rw [List.append_nil] at q2
      rw [q2] at q1
      rw [lCut, if_pos rfl, lCut, if_neg (by decide), if_pos rfl, if_pos rfl] at q1
      cases q1
  have here : (decide (([40] :: (v ++ [41] :: r))[v.length + 1]? = some [41]) && decide (lCut [] 0 0 ((([40] :: (v ++ [41] :: r)).take (v.length + 1)).drop 1) = .no)) = true := by
    rw [Bool.and_eq_true]
    refine ⟨decide_eq_true ?_, decide_eq_true ?_⟩
    · rw [List.getElem?_cons_succ, List.getElem?_append_right (Nat.le_refl _), Nat.sub_self]; rfl
    · rw [List.take_succ_cons, List.drop_succ_cons, List.drop_zero, List.take_left' rfl]
      have q2 := hv 0 0 []
      rw [List.append_nil] at q2
      rw [q2, lCut, if_pos rfl]
  unfold closes
  rw [hlen, List.range_add, List.filter_append, List.filter_eq_nil_iff.mpr (fun i hi => key i (List.mem_range.mp hi)), List.nil_append, List.range_succ_eq_map, List.map_cons, Nat.add_zero]
  rw [List.filter_cons, if_pos here]
  exact ⟨_, rfl⟩
end

section
open PySem

theorem lCut_end {sg : Tk} {i : Nat} : lCut sg 0 i [] = .no := by rw [lCut, if_pos rfl]
theorem lCut_here {sg : Tk} {i : Nat} {r : List Tk} (h : sg = [59] ∨ sg = [124]) : lCut sg 0 i (sg :: r) = .at i := by
  rw [lCut, if_neg (by rcases h with e | e <;> rw [e] <;> decide), if_neg (by rcases h with e | e <;> rw [e] <;> decide), if_pos ⟨rfl, rfl⟩]
theorem take_mid {α : Type} (a : List α) (x : α) (b : List α) : (a ++ x :: b).take a.length = a := List.take_left' rfl
theorem drop_mid {α : Type} (a : List α) (x : α) (b : List α) : (a ++ x :: b).drop (a.length + 1) = b := by
  induction a with
  | nil => rfl
  | cons y a ih => exact ih

theorem lLine_at {n i : Nat} {ts : List Tk} (h : lCut [59] 0 0 ts = .at i) : lLine (n + 1) ts = match (lPipe n (unback (ts.take i).length (ts.take i)).1).map (backs (unback (ts.take i).length (ts.take i)).2) with
    | none => none
    | some t => match lLine n (ts.drop (i + 1)) with
      | none => none
      | some r => some (.pair 59 t r) := by
  rw [lLine, h]
  all_goals rfl
theorem lLine_no {n : Nat} {ts : List Tk} (h : lCut [59] 0 0 ts = .no) : lLine (n + 1) ts = (lPipe n (unback ts.length ts).1).map (backs (unback ts.length ts).2) := by
  rw [lLine, h]
theorem lPipe_at {n i : Nat} {ts : List Tk} (h : lCut [124] 0 0 ts = .at i) : lPipe (n + 1) ts = match lOne n (ts.take i), lPipe n (ts.drop (i + 1)) with
    | some t, some r => some (.pair 124 t r)
    | _, _ => none := by
  rw [lPipe, h]
  all_goals rfl
theorem lPipe_no {n : Nat} {ts : List Tk} (h : lCut [124] 0 0 ts = .no) : lPipe (n + 1) ts = lOne n ts := by
  rw [lPipe, h]

theorem G_l {lv : Nat} {ts : List Tk} {t : Tree} (h : G lv ts t) : ∀ n, (lv = 0 → 3 * ts.length + 1 ≤ n → lOne n ts = some t) ∧ (lv = 1 → 3 * ts.length + 2 ≤ n → lPipe n ts = some t) ∧ (lv = 2 → 3 * ts.length + 3 ≤ n → lLine n ts = some t) := by
  induction h with
  | @run ts a rd h ha =>
    intro n
    refine ⟨fun _ hn => ?_, fun e => by (first | lia | omega), fun e => by (first | lia | omega)⟩
    obtain ⟨n, rfl⟩ : ∃ m, n = m + 1 := ⟨n - 1, by (first | lia | omega)⟩
    rw [lOne, if_neg (items_head h), lRest_items h false _ [] [] (fun q => by cases q) (Nat.le_refl _)]
    show (if ([] ++ a).length > 9 then none else some (appR (.run ([] ++ a)) ([] ++ rd))) = _
    rw [List.nil_append, List.nil_append, if_neg (by (first | lia | omega))]
  | @block v r t rd h1 h2 ih =>
    intro n
    refine ⟨fun _ hn => ?_, fun e => by (first | lia | omega), fun e => by (first | lia | omega)⟩
    obtain ⟨n, rfl⟩ : ∃ m, n = m + 1 := ⟨n - 1, by (first | lia | omega)⟩
    obtain ⟨cs, hc⟩ := closes_first (v := v) (r := r) (fun d i r => G_skip h1 d i r (.inl rfl) (.inr (.inl rfl)))
    rw [lOne, if_pos (by rfl), hc]
    dsimp only
    have e1 : (([40] :: (v ++ [41] :: r)).take (v.length + 1)).drop 1 = v := by rw [List.take_succ_cons, List.drop_succ_cons, List.drop_zero, take_mid]
    have e2 : ([40] :: (v ++ [41] :: r)).drop (v.length + 1 + 1) = r := by rw [List.drop_succ_cons, drop_mid]
    have hl : 3 * v.length + 3 ≤ n := by simp only [List.length_cons, List.length_append] at hn; (first | lia | omega)
    rw [e1, e2, (ih n).2.2 rfl hl]
    dsimp only
    rw [lRest_items h2 true _ [] [] (fun _ => rfl) (by simp only [List.length_cons, List.length_append]; (first | lia | omega))]
    rfl
  | @cmd ts t h ih =>
    intro n
    refine ⟨fun e => by (first | lia | omega), fun _ hn => ?_, fun e => by (first | lia | omega)⟩
    obtain ⟨n, rfl⟩ : ∃ m, n = m + 1 := ⟨n - 1, by (first | lia | omega)⟩
    have hc := G_skip h (sg := [124]) 0 0 [] (.inr (.inr rfl)) (.inr (.inr (.inl rfl)))
    rw [List.append_nil, lCut_end] at hc
    rw [lPipe_no hc]
    exact (ih n).1 rfl (by (first | lia | omega))
  | @pipe c v t1 t2 h1 h2 i1 i2 =>
    intro n
    refine ⟨fun e => by (first | lia | omega), fun _ hn => ?_, fun e => by (first | lia | omega)⟩
    obtain ⟨n, rfl⟩ : ∃ m, n = m + 1 := ⟨n - 1, by (first | lia | omega)⟩
    have hc := G_skip h1 (sg := [124]) 0 0 ([124] :: v) (.inr (.inr rfl)) (.inr (.inr (.inl rfl)))
    rw [lCut_here (.inr rfl), Nat.zero_add] at hc
    simp only [List.length_cons, List.length_append] at hn
    rw [lPipe_at hc, take_mid, drop_mid, (i1 n).1 rfl (by (first | lia | omega)), (i2 n).2.1 rfl (by (first | lia | omega))]
  | @back p t m h ih =>
    intro n
    refine ⟨fun e => by (first | lia | omega), fun e => by (first | lia | omega), fun _ hn => ?_⟩
    obtain ⟨n, rfl⟩ : ∃ m, n = m + 1 := ⟨n - 1, by (first | lia | omega)⟩
    have hc := G_skip h (sg := [59]) 0 0 (List.replicate m [38] ++ []) (.inr (.inl rfl)) (.inr (.inr (.inr ⟨rfl, rfl⟩)))
    rw [rep_skip (.inr (.inl rfl)), List.append_nil, lCut_end] at hc
    simp only [List.length_append, List.length_replicate] at hn
    rw [lLine_no hc, unback_rep (G_last h (by (first | lia | omega))) m _ (by simp), (ih n).2.1 rfl (by (first | lia | omega))]
    rfl
  | @seq p v t t2 m h1 h2 i1 i2 =>
    intro n
    refine ⟨fun e => by (first | lia | omega), fun e => by (first | lia | omega), fun _ hn => ?_⟩
    obtain ⟨n, rfl⟩ : ∃ m, n = m + 1 := ⟨n - 1, by (first | lia | omega)⟩
    have hc := G_skip h1 (sg := [59]) 0 0 (List.replicate m [38] ++ ([59] :: v)) (.inr (.inl rfl)) (.inr (.inr (.inr ⟨rfl, rfl⟩)))
    rw [rep_skip (.inr (.inl rfl)), lCut_here (.inl rfl), ← List.append_assoc] at hc
    have hl : 0 + p.length + m = (p ++ List.replicate m [38]).length := by simp
    rw [hl] at hc
    simp only [List.length_append, List.length_replicate, List.length_cons] at hn
    rw [lLine_at hc, take_mid, drop_mid, unback_rep (G_last h1 (by (first | lia | omega))) m _ (by simp), (i1 n).2.1 rfl (by (first | lia | omega))]
    show (match lLine n v with | none => none | some r => some (Tree.pair 59 (backs m t) r)) = _
    rw [(i2 n).2.2 rfl (by (first | lia | omega))]

/- the law's reader reads nothing else -/

theorem lRest_back : ∀ {brk : Bool} {n : Nat} {ts a0 a : List Tk} {rd0 rd : Rd}, lRest brk n a0 rd0 ts = some (a, rd) → (∀ k ∈ ts, okM k) → ∃ a' rd', a = a0 ++ a' ∧ rd = rd0 ++ rd' ∧ Items ts a' rd' ∧ (brk = true → a' = []) := by
  intro brk n
  induction n with
  | zero =>
    intro ts a0 a rd0 rd h ho
    cases ts with
    | nil => rw [lRest] at h; cases h; exact ⟨[], [], by simp, by simp, .nil, fun _ => rfl⟩
    | cons k r => rw [lRest.eq_def] at h; cases h
  | succ n ih =>
    intro ts a0 a rd0 rd h ho
    cases ts with
    | nil => rw [lRest.eq_def] at h; cases h; exact ⟨[], [], by simp, by simp, .nil, fun _ => rfl⟩
    | cons k r =>
      rw [lRest.eq_def] at h
      dsimp only at h
      by_cases q : isRedM k = true
      · rw [if_pos q] at h
        cases r with
        | nil => cases h
        | cons p r =>
          dsimp only at h
          by_cases q2 : (isRedM p || isOpM p) = true
          · rw [if_pos q2] at h; cases h
          · rw [if_neg q2] at h
            obtain ⟨a', rd', e1, e2, e3, e4⟩ := ih h (fun z hz => ho z (.tail _ (.tail _ hz)))
            have q3 : isRedM p = false ∧ isOpM p = false := by
              cases z1 : isRedM p <;> cases z2 : isOpM p <;> simp [z1, z2] at q2 ⊢
            exact ⟨a', (kd k, p) :: rd', e1, by rw [e2, List.append_assoc]; rfl, .red q ((ho p (.tail _ (.head _))).word q3.1 q3.2) e3, e4⟩
      · rw [if_neg q] at h
        by_cases q2 : (isOpM k || brk) = true
        · rw [if_pos q2] at h; cases h
        · rw [if_neg q2] at h
          obtain ⟨a', rd', e1, e2, e3, e4⟩ := ih h (fun z hz => ho z (.tail _ hz))
          have q3 : isOpM k = false ∧ brk = false := by
            cases z1 : isOpM k <;> cases z2 : brk <;> simp [z1, z2] at q2 ⊢
          exact ⟨k :: a', rd', by rw [e1, List.append_assoc]; rfl, e2, .word ((ho k (.head _)).word (by simpa using q) q3.1) e3, fun z => by rw [q3.2] at z; cases z⟩

theorem lCut_is {sg : Tk} : ∀ {ts : List Tk} {d i j : Nat}, lCut sg d i ts = .at j → i ≤ j ∧ ts = ts.take (j - i) ++ sg :: ts.drop (j - i + 1) := by
  intro ts
  induction ts with
  | nil => intro d i j h; rw [lCut] at h; split at h <;> cases h
  | cons k r ih =>
    intro d i j h
    have step : ∀ {d}, lCut sg d (i + 1) r = .at j → i ≤ j ∧ k :: r = (k :: r).take (j - i) ++ sg :: (k :: r).drop (j - i + 1) := fun {d} h => by
      obtain ⟨h1, h2⟩ := ih h
      have e : j - i = (j - (i + 1)) + 1 := by (first | lia | omega)
      refine ⟨by (first | lia | omega), ?_⟩
      rw [e, List.take_succ_cons, List.drop_succ_cons, List.cons_append, ← h2]
    rw [lCut] at h
    by_cases c1 : k = [40]
    · rw [if_pos c1] at h; exact step h
    rw [if_neg c1] at h
    by_cases c2 : k = [41]
    · rw [if_pos c2] at h
      by_cases c3 : d = 0
      · rw [if_pos c3] at h; cases h
      · rw [if_neg c3] at h; exact step h
    rw [if_neg c2] at h
    by_cases c3 : k = sg ∧ d = 0
    · rw [if_pos c3] at h
      cases h
      rw [Nat.sub_self, c3.1]
      exact ⟨Nat.le_refl _, rfl⟩
    · rw [if_neg c3] at h; exact step h
theorem unback_is : ∀ (n : Nat) (ts : List Tk), ts = (unback n ts).1 ++ List.replicate (unback n ts).2 [38] := by
  intro n
  induction n with
  | zero => intro ts; rw [unback]; simp
  | succ n ih =>
    intro ts
    rw [unback]
    by_cases h : ts.getLast? = some [38]
    · rw [if_pos h]
      show ts = (unback n ts.dropLast).1 ++ List.replicate ((unback n ts.dropLast).2 + 1) [38]
      rw [List.replicate_succ', ← List.append_assoc, ← ih ts.dropLast]
      have hne : ts ≠ [] := by rintro rfl; cases h
      have := List.dropLast_concat_getLast hne
      rw [List.getLast?_eq_some_getLast hne] at h
      rw [Option.some.inj h] at this
      exact this.symm
    · rw [if_neg h]; simp

theorem l_G : ∀ n, (∀ {ts t}, (∀ k ∈ ts, okM k) → lLine n ts = some t → G 2 ts t) ∧ (∀ {ts t}, (∀ k ∈ ts, okM k) → lPipe n ts = some t → G 1 ts t) ∧ (∀ {ts t}, (∀ k ∈ ts, okM k) → lOne n ts = some t → G 0 ts t) := by
  intro n
  induction n with
  | zero => 
    refine ⟨?_, ?_, ?_⟩
    · intro ts t _ h; rw [lLine] at h; cases h
    · intro ts t _ h; rw [lPipe] at h; cases h
    · intro ts t _ h; rw [lOne] at h; cases h
  | succ n ih =>
    obtain ⟨iL, iP, iO⟩ := ih
    refine ⟨?_, ?_, ?_⟩
    · intro ts t ho h
      have fst : ∀ {us : List Tk} {t : Tree}, (∀ k ∈ us, okM k) → (lPipe n (unback us.length us).1).map (backs (unback us.length us).2) = some t → ∃ p t0 m, us = p ++ List.replicate m [38] ∧ G 1 p t0 ∧ t = backs m t0 := by
        intro us t ho h
        cases q : lPipe n (unback us.length us).1 with
        | none => rw [q] at h; cases h
        | some t0 =>
          rw [q] at h
          cases h
          exact ⟨_, t0, _, unback_is us.length us, iP (fun k hk => ho k (by rw [unback_is us.length us]; exact List.mem_append_left _ hk)) q, rfl⟩
      cases hc : lCut [59] 0 0 ts with
      | bad => rw [lLine, hc] at h; cases h
      | no =>
        rw [lLine_no hc] at h
        obtain ⟨p, t0, m, rfl, g, rfl⟩ := fst ho h
        exact .back m g
      | «at» i =>
        rw [lLine_at hc] at h
        have e := (lCut_is hc).2
        rw [Nat.sub_zero] at e
        cases q : (lPipe n (unback (ts.take i).length (ts.take i)).1).map (backs (unback (ts.take i).length (ts.take i)).2) with
        | none => rw [q] at h; cases h
        | some t1 =>
          rw [q] at h
          dsimp only at h
          cases q2 : lLine n (ts.drop (i + 1)) with
          | none => rw [q2] at h; cases h
          | some t2 =>
            rw [q2] at h
            cases h
            obtain ⟨p, t0, m, e1, g, rfl⟩ := fst (fun k hk => ho k (List.mem_of_mem_take hk)) q
            rw [e, e1]
            exact .seq m g (iL (fun k hk => ho k (List.mem_of_mem_drop hk)) q2)
    · intro ts t ho h
      cases hc : lCut [124] 0 0 ts with
      | bad => rw [lPipe, hc] at h; cases h
      | no => rw [lPipe_no hc] at h; exact .cmd (iO ho h)
      | «at» i =>
        rw [lPipe_at hc] at h
        have e := (lCut_is hc).2
        rw [Nat.sub_zero] at e
        cases q : lOne n (ts.take i) with
        | none => rw [q] at h; cases h
        | some t1 =>
          cases q2 : lPipe n (ts.drop (i + 1)) with
          | none => rw [q, q2] at h; cases h
          | some t2 =>
            rw [q, q2] at h
            cases h
            rw [e]
            exact .pipe (iO (fun k hk => ho k (List.mem_of_mem_take hk)) q) (iP (fun k hk => ho k (List.mem_of_mem_drop hk)) q2)
    · intro ts t ho h
      rw [lOne] at h
      by_cases c1 : ts.head? = some [40]
      · rw [if_pos c1] at h
        cases hc : closes ts with
        | nil => rw [hc] at h; cases h
        | cons c cs =>
          rw [hc] at h
          dsimp only at h
          have hm : c ∈ closes ts := by rw [hc]; exact .head _
          unfold closes at hm
          have hm2 := (List.mem_filter.mp hm).2
          rw [Bool.and_eq_true] at hm2
          have h1 : ts[c]? = some [41] := of_decide_eq_true hm2.1
          obtain ⟨hl, he⟩ := List.getElem?_eq_some_iff.mp h1
          have hc0 : c ≠ 0 := by
            rintro rfl
            cases ts with
            | nil => cases h1
            | cons x r => rw [List.head?_cons] at c1; rw [List.getElem?_cons_zero, c1] at h1; cases h1
          obtain ⟨c, rfl⟩ : ∃ m, c = m + 1 := ⟨c - 1, by (first | lia | omega)⟩
          cases ts with
          | nil => cases c1
          | cons x r =>
            rw [List.head?_cons] at c1
            cases c1
            rw [List.take_succ_cons, List.drop_succ_cons, List.drop_zero, List.drop_succ_cons] at h
            have e : r = r.take c ++ [41] :: r.drop (c + 1) := by
              have hl' : c < r.length := by simpa using hl
              have := List.take_append_drop c r
              rw [List.drop_eq_getElem_cons hl'] at this
              rw [List.getElem_cons_succ] at he
              rw [he] at this
              exact this.symm
            cases q : lLine n (r.take c) with
            | none => rw [q] at h; cases h
            | some b =>
              rw [q] at h
              dsimp only at h
              cases q2 : lRest true ([40] :: r).length [] [] (r.drop (c + 1)) with
              | none => rw [q2] at h; cases h
              | some ar =>
                obtain ⟨a, rd⟩ := ar
                rw [q2] at h
                dsimp only at h
                obtain ⟨a', rd', e1, e2, e3, e4⟩ := lRest_back q2 (fun k hk => ho k (.tail _ (List.mem_of_mem_drop hk)))
                rw [List.nil_append] at e1 e2
                subst e1 e2
                have e4 := e4 rfl
                subst e4
                rw [if_neg (by simp)] at h
                cases h
                rw [e]
                exact .block (iL (fun k hk => ho k (.tail _ (List.mem_of_mem_take hk))) q) e3
      · rw [if_neg c1] at h
        cases q2 : lRest false ts.length [] [] ts with
        | none => rw [q2] at h; cases h
        | some ar =>
          obtain ⟨a, rd⟩ := ar
          rw [q2] at h
          dsimp only at h
          obtain ⟨a', rd', e1, e2, e3, _⟩ := lRest_back q2 ho
          rw [List.nil_append] at e1 e2
          subst e1 e2
          by_cases hl : a.length > 9
          · rw [if_pos hl] at h; cases h
          · rw [if_neg hl] at h
            cases h
            exact .run e3 (by (first | lia | omega))
end

section
open PySem

/- the parser reads what is built so -/

noncomputable def headIn (sg : List Nat) (ts : List Tk) : Prop := ts = [] ∨ ∃ c r, c ∈ sg ∧ ts = [c] :: r
theorem headIn.mono {a b : List Nat} {ts : List Tk} (h : headIn a ts) (s : ∀ c ∈ a, c ∈ b) : headIn b ts := by
  rcases h with h | ⟨c, r, hc, e⟩
  · exact .inl h
  · exact .inr ⟨c, r, s c hc, e⟩
theorem pReds_end {ts : List Tk} (rd : Rd) (h : headIn [124, 38, 59, 41] ts) : pReds rd ts = some (rd, ts) := by
  refine pReds_stop rd ?_
  rcases h with rfl | ⟨c, r, hc, rfl⟩
  · rfl
  · exact decide_eq_false fun hm => by
      rw [show hd0 [c] = c from rfl] at hm
      simp only [List.mem_cons, List.not_mem_nil, or_false] at hc hm
      (first | lia | omega)
theorem pArgs_end {n : Nat} {ts : List Tk} (a : List Tk) (rd : Rd) (h : headIn [124, 38, 59, 41] ts) : pArgs (n + 1) a rd ts = some (a, rd, ts) := by
  rcases h with rfl | ⟨c, r, hc, rfl⟩
  · rw [pArgs]
  · rw [pArgs, if_pos]
    unfold isEnd
    rw [show hd0 [c] = c from rfl]
    simp only [List.mem_cons, List.not_mem_nil, or_false] at hc
    rcases hc with rfl | rfl | rfl | rfl <;> rfl
theorem WdM.hdIn {k : Tk} (h : WdM k) {sg : List Nat} (hs : ∀ c ∈ sg, isW c = false) (r : List Tk) : hdIn sg (k :: r) = false :=
  decide_eq_false fun hm => by
    have := h.hd
    rw [hs _ hm] at this
    cases this
theorem red_hd {k : Tk} (h : isRedM k = true) : hd0 k ∈ [60, 62] := by
  rcases isRedM_iff.mp h with e | e | e <;> rw [e] <;> decide

theorem items_p {ts a : List Tk} {rd : Rd} (h : Items ts a rd) : ∀ rest, headIn [124, 38, 59, 41] rest → ∃ rd1 rd2 ts1, rd = rd1 ++ rd2 ∧ ts1.length ≤ ts.length ∧ (∀ rd0, pReds rd0 (ts ++ rest) = some (rd0 ++ rd1, ts1 ++ rest)) ∧
    (∀ n a0 rd', a0.length + a.length ≤ 9 → ts1.length < n → pArgs n a0 rd' (ts1 ++ rest) = some (a0 ++ a, rd' ++ rd2, rest)) ∧ (a = [] → ts1 = [] ∧ rd2 = []) := by
  induction h with
  | nil =>
    intro rest hr
    refine ⟨[], [], [], rfl, Nat.le_refl _, fun rd0 => by rw [List.append_nil]; exact pReds_end _ hr, fun n a0 rd' _ hn => ?_, fun _ => ⟨rfl, rfl⟩⟩
    obtain ⟨n, rfl⟩ : ∃ m, n = m + 1 := ⟨n - 1, by (first | lia | omega)⟩
    rw [List.append_nil, List.append_nil]
    exact pArgs_end _ _ hr
  | @word k ts a rd w _ ih =>
    intro rest hr
    obtain ⟨rd1, rd2, ts1, e, hl, h1, h2, _⟩ := ih rest hr
    have hend : hdIn [124, 41, 38, 59] (k :: ts ++ rest) = false := w.hdIn (by decide) _
    have hred : hdIn [60, 62] (k :: ts ++ rest) = false := w.hdIn (by decide) _
    refine ⟨[], rd, k :: ts, rfl, Nat.le_refl _, fun rd0 => by rw [List.append_nil]; exact pReds_stop _ hred, fun n a0 rd' ha hn => ?_, fun q => nomatch q⟩
    obtain ⟨n, rfl⟩ : ∃ m, n = m + 1 := ⟨n - 1, by (first | lia | omega)⟩
    simp only [List.length_cons] at ha hn
    rw [List.cons_append, pArgs, if_neg (isEnd_false hend), if_pos (show isWd k = true from w.hd), if_neg (by (first | lia | omega)), h1 []]
    dsimp only
    rw [List.nil_append, h2 n (a0 ++ [k]) (rd' ++ rd1) (by simp; (first | lia | omega)) (by (first | lia | omega)), List.append_assoc, List.append_assoc, ← e]
    rfl
  | @red k p ts a rd q w _ ih =>
    intro rest hr
    obtain ⟨rd1, rd2, ts1, e, hl, h1, h2, h3⟩ := ih rest hr
    refine ⟨(kd k, p) :: rd1, rd2, ts1, by rw [e]; rfl, by simp; (first | lia | omega), fun rd0 => ?_, h2, h3⟩
    rw [List.cons_append, List.cons_append, pReds_go rd0 (red_hd q) w.hd, h1, List.append_assoc]
    rfl

theorem wt_app (a b : List Tk) : wt (a ++ b) = wt a + wt b := List.countP_append
theorem wt_one {k : Tk} (r : List Tk) (h : hd0 k = 40 ∨ hd0 k = 59 ∨ hd0 k = 124) : wt (k :: r) = 1 + wt r := by rw [wt_cons r h, Nat.add_comm]
theorem pBacks_rep {rest : List Tk} (h : rest = [] ∨ ∃ k r, rest = k :: r ∧ hd0 k ≠ 38) : ∀ m t, pBacks t (List.replicate m [38] ++ rest) = (backs m t, rest) := by
  intro m
  induction m with
  | zero =>
    intro t
    rcases h with rfl | ⟨k, r, rfl, hk⟩
    · rfl
    · show pBacks t (k :: r) = _
      rw [pBacks, if_neg hk]
      rfl
  | succ m ih =>
    intro t
    rw [List.replicate_succ, List.cons_append, pBacks, if_pos (by rfl), ih]
    have : ∀ m t, backs m (.back t) = backs (m + 1) t := by
      intro m
      induction m with
      | zero => intro t; rfl
      | succ m ih => intro t; show Tree.back (backs m (.back t)) = _; rw [ih]; rfl
    rw [this]

theorem pLine_eq (n : Nat) (ts : List Tk) : pLine (n + 1) ts = match pPipe n ts with
    | none => none
    | some (t, ts1) => match pBacks t ts1 with
      | (t', []) => some (t', [])
      | (t', k :: ts3) => if hd0 k = 59 then (match pLine n ts3 with
          | none => none
          | some (t2, ts4) => some (.pair 59 t' t2, ts4)) else some (t', k :: ts3) := by
  rw [pLine]
  all_goals rfl
theorem pPipe_eq (n : Nat) (ts : List Tk) : pPipe (n + 1) ts = match pCmd n ts with
    | none => none
    | some (t, []) => some (t, [])
    | some (t, k :: ts2) => if hd0 k = 124 then (match pPipe n ts2 with
        | none => none
        | some (t2, ts3) => some (.pair 124 t t2, ts3)) else some (t, k :: ts2) := by
  rw [pPipe]
  all_goals rfl

theorem G_p {lv : Nat} {ts : List Tk} {t : Tree} (h : G lv ts t) : ∀ rest n, (lv = 0 → headIn [124, 38, 59, 41] rest → 4 * wt ts + 2 ≤ n → pCmd n (ts ++ rest) = some (t, rest)) ∧
    (lv = 1 → headIn [38, 59, 41] rest → 4 * wt ts + 3 ≤ n → pPipe n (ts ++ rest) = some (t, rest)) ∧
    (lv = 2 → headIn [41] rest → 4 * wt ts + 4 ≤ n → pLine n (ts ++ rest) = some (t, rest)) := by
  induction h with
  | @run ts a rd h ha =>
    intro rest n
    refine ⟨fun _ hr hn => ?_, fun e => by (first | lia | omega), fun e => by (first | lia | omega)⟩
    obtain ⟨n, rfl⟩ : ∃ m, n = m + 1 := ⟨n - 1, by (first | lia | omega)⟩
    obtain ⟨rd1, rd2, ts1, e, hl, h1, h2, _⟩ := items_p h rest hr
    have hh : hdIn [40] (ts ++ rest) = false := by
      cases h with
      | nil =>
        rcases hr with rfl | ⟨c, r, hc, rfl⟩
        · rfl
        · exact decide_eq_false fun hm => by
            rw [show hd0 [c] = c from rfl] at hm
            simp only [List.mem_cons, List.not_mem_nil, or_false] at hc hm
            (first | lia | omega)
      | word w _ => exact w.hdIn (by decide) _
      | red q _ _ => exact decide_eq_false fun hm => by rcases isRedM_iff.mp q with e | e | e <;> rw [e] at hm <;> revert hm <;> decide
    have h1 := h1 []
    rw [List.nil_append] at h1
    rw [pCmd_run hh, pRun_eq h1, h2 _ [] rd1 (by simpa using ha) (by simp; (first | lia | omega)), ← e]
    rfl
  | @block v r t rd h1 h2 ih =>
    intro rest n
    refine ⟨fun _ hr hn => ?_, fun e => by (first | lia | omega), fun e => by (first | lia | omega)⟩
    have hw : wt ([40] :: (v ++ [41] :: r)) = 1 + (wt v + wt ([41] :: r)) := by rw [wt_one _ (.inl rfl), wt_app]
    rw [hw] at hn
    obtain ⟨n, rfl⟩ : ∃ m, n = m + 2 := ⟨n - 2, by (first | lia | omega)⟩
    rw [List.cons_append, pCmd, if_pos (by rfl), pBlock, List.append_assoc, List.cons_append, (ih ([41] :: (r ++ rest)) n).2.2 rfl (.inr ⟨41, _, .head _, rfl⟩) (by (first | lia | omega))]
    dsimp only
    rw [if_pos (by rfl)]
    obtain ⟨rd1, rd2, ts1, e, hl, q1, _, q3⟩ := items_p h2 rest hr
    obtain ⟨rfl, rfl⟩ := q3 rfl
    rw [q1 [], e]
    simp
  | @cmd ts t h ih =>
    intro rest n
    refine ⟨fun e => by (first | lia | omega), fun _ hr hn => ?_, fun e => by (first | lia | omega)⟩
    obtain ⟨n, rfl⟩ : ∃ m, n = m + 1 := ⟨n - 1, by (first | lia | omega)⟩
    rw [pPipe_eq, (ih rest n).1 rfl (hr.mono (by decide)) (by (first | lia | omega))]
    rcases hr with rfl | ⟨c, r, hc, rfl⟩
    · rfl
    · dsimp only
      rw [if_neg (fun q => by
        rw [show hd0 [c] = c from rfl] at q
        simp only [List.mem_cons, List.not_mem_nil, or_false] at hc
        (first | lia | omega))]
  | @pipe c v t1 t2 h1 h2 i1 i2 =>
    intro rest n
    refine ⟨fun e => by (first | lia | omega), fun _ hr hn => ?_, fun e => by (first | lia | omega)⟩
    have hw : wt (c ++ [124] :: v) = wt c + (1 + wt v) := by rw [wt_app, wt_one _ (.inr (.inr rfl))]
    rw [hw] at hn
    obtain ⟨n, rfl⟩ : ∃ m, n = m + 1 := ⟨n - 1, by (first | lia | omega)⟩
    rw [pPipe_eq, List.append_assoc, List.cons_append, (i1 ([124] :: (v ++ rest)) n).1 rfl (.inr ⟨124, _, .head _, rfl⟩) (by (first | lia | omega))]
    dsimp only
    rw [if_pos (by rfl), (i2 rest n).2.1 rfl hr (by (first | lia | omega))]
  | @back p t m h ih =>
    intro rest n
    refine ⟨fun e => by (first | lia | omega), fun e => by (first | lia | omega), fun _ hr hn => ?_⟩
    rw [wt_app] at hn
    obtain ⟨n, rfl⟩ : ∃ m, n = m + 1 := ⟨n - 1, by (first | lia | omega)⟩
    have hr2 : headIn [38, 59, 41] (List.replicate m [38] ++ rest) := by
      cases m with
      | zero => exact hr.mono (by decide)
      | succ m => exact .inr ⟨38, _, .head _, by rw [List.replicate_succ, List.cons_append]⟩
    rw [pLine_eq, List.append_assoc, (ih _ n).2.1 rfl hr2 (by (first | lia | omega))]
    dsimp only
    rw [pBacks_rep (by
      rcases hr with rfl | ⟨c, r, hc, rfl⟩
      · exact .inl rfl
      · exact .inr ⟨_, _, rfl, by rw [List.mem_singleton.mp hc]; decide⟩)]
    rcases hr with rfl | ⟨c, r, hc, rfl⟩
    · rfl
    · dsimp only
      rw [if_neg (by rw [List.mem_singleton.mp hc]; decide)]
  | @seq p v t t2 m h1 h2 i1 i2 =>
    intro rest n
    refine ⟨fun e => by (first | lia | omega), fun e => by (first | lia | omega), fun _ hr hn => ?_⟩
    rw [wt_app, wt_app, wt_one _ (.inr (.inl rfl))] at hn
    obtain ⟨n, rfl⟩ : ∃ m, n = m + 1 := ⟨n - 1, by (first | lia | omega)⟩
    have hr2 : headIn [38, 59, 41] (List.replicate m [38] ++ ([59] :: (v ++ rest))) := by
      cases m with
      | zero => exact .inr ⟨59, _, .tail _ (.head _), rfl⟩
      | succ m => exact .inr ⟨38, _, .head _, by rw [List.replicate_succ, List.cons_append]⟩
    rw [pLine_eq, List.append_assoc, List.append_assoc, List.cons_append, (i1 _ n).2.1 rfl hr2 (by (first | lia | omega))]
    dsimp only
    rw [pBacks_rep (.inr ⟨_, _, rfl, by decide⟩)]
    dsimp only
    rw [if_pos (by rfl), (i2 rest n).2.2 rfl hr (by (first | lia | omega))]

/- and nothing else -/

theorem pReds_back : ∀ (n : Nat) {ts ts' : List Tk} {rd rd' : Rd}, ts.length ≤ n → (∀ k ∈ ts, okM k) → pReds rd ts = some (rd', ts') → ∃ u rd1, ts = u ++ ts' ∧ rd' = rd ++ rd1 ∧ Items u [] rd1 := by
  intro n
  induction n with
  | zero =>
    intro ts ts' rd rd' hl ho h
    cases ts with
    | nil => rw [pReds] at h; cases h; exact ⟨[], [], rfl, by simp, .nil⟩
    | cons k r => simp at hl
  | succ n ih =>
    intro ts ts' rd rd' hl ho h
    cases ts with
    | nil => rw [pReds] at h; cases h; exact ⟨[], [], rfl, by simp, .nil⟩
    | cons k r =>
      rw [pReds_eq] at h
      by_cases q : isRed k = true
      · rw [if_pos q] at h
        cases r with
        | nil => cases h
        | cons p r =>
          dsimp only at h
          by_cases q2 : isWd p = true
          · rw [if_pos q2] at h
            obtain ⟨u, rd1, e1, e2, e3⟩ := ih (by simp at hl; (first | lia | omega)) (fun z hz => ho z (.tail _ (.tail _ hz))) h
            exact ⟨k :: p :: u, (kd k, p) :: rd1, by rw [e1]; rfl, by rw [e2, List.append_assoc]; rfl, .red ((ho k (.head _)).red ▸ q) ((ho p (.tail _ (.head _))).wd q2) e3⟩
          · rw [if_neg q2] at h; cases h
      · rw [if_neg q] at h
        cases h
        exact ⟨[], [], rfl, by simp, .nil⟩
theorem pArgs_back : ∀ (n : Nat) {ts ts' a a' : List Tk} {rd rd' : Rd}, (∀ k ∈ ts, okM k) → a.length ≤ 9 → pArgs n a rd ts = some (a', rd', ts') → ∃ u a1 rd1, ts = u ++ ts' ∧ a' = a ++ a1 ∧ rd' = rd ++ rd1 ∧ Items u a1 rd1 ∧ a'.length ≤ 9 := by
  intro n
  induction n with
  | zero => intro ts ts' a a' rd rd' _ _ h; rw [pArgs] at h; cases h
  | succ n ih =>
    intro ts ts' a a' rd rd' ho ha h
    cases ts with
    | nil => rw [pArgs] at h; cases h; exact ⟨[], [], [], rfl, by simp, by simp, .nil, ha⟩
    | cons k r =>
      rw [pArgs] at h
      by_cases q : isEnd k = true
      · rw [if_pos q] at h; cases h; exact ⟨[], [], [], rfl, by simp, by simp, .nil, ha⟩
      · rw [if_neg q] at h
        by_cases q2 : isWd k = true
        · rw [if_pos q2] at h
          by_cases q3 : a.length = 9
          · rw [if_pos q3] at h; cases h
          · rw [if_neg q3] at h
            cases hp : pReds [] r with
            | none => rw [hp] at h; cases h
            | some w =>
              obtain ⟨rd2, ts2⟩ := w
              rw [hp] at h
              dsimp only at h
              obtain ⟨u, rd1, e1, e2, e3⟩ := pReds_back _ (Nat.le_refl _) (fun z hz => ho z (.tail _ hz)) hp
              rw [List.nil_append] at e2
              subst e1 e2
              obtain ⟨u', a1, rd3, f1, f2, f3, f4, f5⟩ := ih (fun z hz => ho z (.tail _ (List.mem_append_right _ hz))) (by simp; (first | lia | omega)) h
              subst f1
              exact ⟨k :: (u ++ u'), k :: a1, rd2 ++ rd3, by simp, by rw [f2, List.append_assoc]; rfl, by rw [f3, List.append_assoc], .word ((ho k (.head _)).wd q2) (e3.append f4), f5⟩
        · rw [if_neg q2] at h; cases h
theorem pRun_back {ts ts' : List Tk} {t : Tree} (ho : ∀ k ∈ ts, okM k) (h : pRun ts = some (t, ts')) : ∃ u, ts = u ++ ts' ∧ G 0 u t := by
  cases hp : pReds [] ts with
  | none => unfold pRun at h; rw [hp] at h; cases h
  | some w =>
    obtain ⟨rd, ts1⟩ := w
    rw [pRun_eq hp] at h
    obtain ⟨u, rd1, e1, e2, e3⟩ := pReds_back _ (Nat.le_refl _) ho hp
    rw [List.nil_append] at e2
    subst e1 e2
    cases hq : pArgs (ts1.length + 1) [] rd ts1 with
    | none => rw [hq] at h; cases h
    | some w =>
      obtain ⟨a, rd2, ts2⟩ := w
      rw [hq] at h
      cases h
      obtain ⟨u', a1, rd3, f1, f2, f3, f4, f5⟩ := pArgs_back _ (fun z hz => ho z (List.mem_append_right _ hz)) (by simp) hq
      rw [List.nil_append] at f2
      subst f1 f2 f3
      refine ⟨u ++ u', by simp, ?_⟩
      exact .run (e3.append f4) f5
theorem pBacks_is : ∀ (ts : List Tk) (t : Tree), (∀ k ∈ ts, okM k) → ∃ m, ts = List.replicate m [38] ++ (pBacks t ts).2 ∧ (pBacks t ts).1 = backs m t := by
  have sh : ∀ m t, backs m (.back t) = backs (m + 1) t := by
    intro m
    induction m with
    | zero => intro t; rfl
    | succ m ih => intro t; show Tree.back (backs m (.back t)) = _; rw [ih]; rfl
  intro ts
  induction ts with
  | nil => intro t _; exact ⟨0, rfl, rfl⟩
  | cons k r ih =>
    intro t ho
    by_cases h : hd0 k = 38
    · obtain ⟨m, e1, e2⟩ := ih (.back t) (fun z hz => ho z (.tail _ hz))
      have hk := (ho k (.head _)).hd (.inr (.inl rfl)) h
      refine ⟨m + 1, ?_, ?_⟩
      · rw [pBacks, if_pos h, List.replicate_succ, List.cons_append, ← e1, hk]
      · rw [pBacks, if_pos h, e2, sh]
    · refine ⟨0, ?_, ?_⟩
      · rw [pBacks, if_neg h]; rfl
      · rw [pBacks, if_neg h]; rfl

theorem p_G : ∀ n, (∀ {ts ts' t}, (∀ k ∈ ts, okM k) → pLine n ts = some (t, ts') → ∃ u, ts = u ++ ts' ∧ G 2 u t) ∧ (∀ {ts ts' t}, (∀ k ∈ ts, okM k) → pPipe n ts = some (t, ts') → ∃ u, ts = u ++ ts' ∧ G 1 u t) ∧
    (∀ {ts ts' t}, (∀ k ∈ ts, okM k) → pCmd n ts = some (t, ts') → ∃ u, ts = u ++ ts' ∧ G 0 u t) ∧ (∀ {ts ts' t}, (∀ k ∈ ts, okM k) → pBlock n ts = some (t, ts') → ∃ u, ts = u ++ ts' ∧ G 0 ([40] :: u) t) := by
  intro n
  induction n with
  | zero =>
    refine ⟨?_, ?_, ?_, ?_⟩
    · intro ts ts' t _ h; rw [pLine] at h; cases h
    · intro ts ts' t _ h; rw [pPipe] at h; cases h
    · intro ts ts' t _ h; rw [pCmd] at h; cases h
    · intro ts ts' t _ h; rw [pBlock] at h; cases h
  | succ n ih =>
    obtain ⟨iL, iP, iC, iB⟩ := ih
    refine ⟨?_, ?_, ?_, ?_⟩
    · intro ts ts' t ho h
      rw [pLine_eq] at h
      cases hp : pPipe n ts with
      | none => rw [hp] at h; cases h
      | some w =>
        obtain ⟨t1, ts1⟩ := w
        rw [hp] at h
        dsimp only at h
        obtain ⟨u, rfl, g⟩ := iP ho hp
        obtain ⟨m, e1, e2⟩ := pBacks_is ts1 t1 (fun k hk => ho k (List.mem_append_right _ hk))
        cases hb : pBacks t1 ts1 with
        | mk t2 ts2 =>
          rw [hb] at h e1 e2
          dsimp only at e1 e2
          subst e2
          cases ts2 with
          | nil =>
            cases h
            exact ⟨u ++ List.replicate m [38], by rw [e1]; simp, .back m g⟩
          | cons k r =>
            dsimp only at h
            by_cases q : hd0 k = 59
            · rw [if_pos q] at h
              have ho2 : ∀ z ∈ ts1, okM z := fun z hz => ho z (List.mem_append_right _ hz)
              rw [e1] at ho2
              have hk := (ho2 k (List.mem_append_right _ (.head _))).hd (.inr (.inr (.inl rfl))) q
              cases hq : pLine n r with
              | none => rw [hq] at h; cases h
              | some w =>
                obtain ⟨t3, ts3⟩ := w
                rw [hq] at h
                cases h
                obtain ⟨u', rfl, g'⟩ := iL (fun z hz => ho2 z (List.mem_append_right _ (.tail _ hz))) hq
                refine ⟨u ++ List.replicate m [38] ++ [59] :: u', ?_, .seq m g g'⟩
                rw [e1, hk]
                simp
            · rw [if_neg q] at h
              cases h
              exact ⟨u ++ List.replicate m [38], by rw [e1]; simp, .back m g⟩
    · intro ts ts' t ho h
      rw [pPipe_eq] at h
      cases hp : pCmd n ts with
      | none => rw [hp] at h; cases h
      | some w =>
        obtain ⟨t1, ts1⟩ := w
        rw [hp] at h
        obtain ⟨u, rfl, g⟩ := iC ho hp
        cases ts1 with
        | nil => cases h; exact ⟨u, rfl, .cmd g⟩
        | cons k r =>
          dsimp only at h
          by_cases q : hd0 k = 124
          · rw [if_pos q] at h
            have hk := (ho k (List.mem_append_right _ (.head _))).hd (.inl rfl) q
            cases hq : pPipe n r with
            | none => rw [hq] at h; cases h
            | some w =>
              obtain ⟨t3, ts3⟩ := w
              rw [hq] at h
              cases h
              obtain ⟨u', rfl, g'⟩ := iP (fun z hz => ho z (List.mem_append_right _ (.tail _ hz))) hq
              exact ⟨u ++ [124] :: u', by rw [hk]; simp, .pipe g g'⟩
          · rw [if_neg q] at h
            cases h
            exact ⟨u, rfl, .cmd g⟩
    · intro ts ts' t ho h
      cases ts with
      | nil => rw [pCmd] at h; exact pRun_back ho h
      | cons k r =>
        rw [pCmd] at h
        by_cases q : hd0 k = 40
        · rw [if_pos q] at h
          have hk := (ho k (.head _)).hd (.inr (.inr (.inr (.inl rfl)))) q
          obtain ⟨u, rfl, g⟩ := iB (fun z hz => ho z (.tail _ hz)) h
          exact ⟨[40] :: u, by rw [hk]; rfl, g⟩
        · rw [if_neg q] at h
          exact pRun_back ho h
    · intro ts ts' t ho h
      rw [pBlock] at h
      cases hp : pLine n ts with
      | none => rw [hp] at h; cases h
      | some w =>
        obtain ⟨t1, ts1⟩ := w
        rw [hp] at h
        obtain ⟨u, rfl, g⟩ := iL ho hp
        cases ts1 with
        | nil => cases h
        | cons k r =>
          dsimp only at h
          by_cases q : hd0 k = 41
          · rw [if_pos q] at h
            have hk := (ho k (List.mem_append_right _ (.head _))).hd (.inr (.inr (.inr (.inr rfl)))) q
            cases hq : pReds [] r with
            | none => rw [hq] at h; cases h
            | some w =>
              obtain ⟨rd, ts3⟩ := w
              rw [hq] at h
              cases h
              obtain ⟨u', rd1, rfl, e2, e3⟩ := pReds_back _ (Nat.le_refl _) (fun z hz => ho z (List.mem_append_right _ (.tail _ hz))) hq
              rw [List.nil_append] at e2
              subst e2
              exact ⟨u ++ [41] :: u', by rw [hk]; simp, .block g e3⟩
          · rw [if_neg q] at h; cases h

theorem pTop_G {ts : List Tk} {t : Tree} (ho : ∀ k ∈ ts, okM k) : (match pLine (4 * wt ts + 4) ts with | some (t, []) => some t | _ => none) = some t ↔ G 2 ts t := by
  constructor
  · intro h
    cases hp : pLine (4 * wt ts + 4) ts with
    | none => rw [hp] at h; cases h
    | some w =>
      obtain ⟨t1, ts1⟩ := w
      rw [hp] at h
      cases ts1 with
      | cons k r => cases h
      | nil =>
        cases h
        obtain ⟨u, e, g⟩ := (p_G _).1 ho hp
        rw [List.append_nil] at e
        rw [e]
        exact g
  · intro g
    have := (G_p g [] (4 * wt ts + 4)).2.2 rfl (.inl rfl) (Nat.le_refl _)
    rw [List.append_nil] at this
    rw [this]
/- the two readers are one -/
theorem two_readers {ts : List Tk} (ho : ∀ k ∈ ts, okM k) {n : Nat} (hn : 3 * ts.length + 3 ≤ n) : lLine n ts = (match pLine (4 * wt ts + 4) ts with | some (t, []) => some t | _ => none) := by
  have key : ∀ t, lLine n ts = some t ↔ (match pLine (4 * wt ts + 4) ts with | some (t, []) => some t | _ => none) = some t := fun t =>
    ⟨fun h => (pTop_G ho).mpr ((l_G n).1 ho h), fun h => (G_l ((pTop_G ho).mp h) n).2.2 rfl hn⟩
  generalize (match pLine (4 * wt ts + 4) ts with | some (t, []) => some t | _ => none) = q at key ⊢
  cases q with
  | some t => exact (key t).mpr rfl
  | none =>
    cases z : lLine n ts with
    | none => rfl
    | some t => exact absurd ((key t).mp z) (by simp)
end

section
open PySem

theorem tw_app {p : Nat → Bool} {k r : List Nat} (hk : ∀ c ∈ k, p c = true) (hr : r = [] ∨ ∃ c q, r = c :: q ∧ p c = false) : (k ++ r).takeWhile p = k ∧ (k ++ r).dropWhile p = r := by
  induction k with
  | nil =>
    rcases hr with rfl | ⟨c, q, rfl, h⟩
    · exact ⟨rfl, rfl⟩
    · simp [h]
  | cons c k ih =>
    obtain ⟨i1, i2⟩ := ih (fun z hz => hk z (.tail _ hz))
    have hc := hk c (.head _)
    simp [hc, i1, i2]
theorem isW_not {c : Nat} (h : isW c = true) : isB c = false ∧ isS c = false := (isW_iff c).mp h
theorem lex_word_app {k r : List Nat} (hk : WdM k) (hr : r = [] ∨ ∃ c q, r = c :: q ∧ isW c = false) : lex (k ++ r) = k :: lex r := by
  obtain ⟨h1, h2⟩ := tw_app hk.2 hr
  cases k with
  | nil => exact absurd rfl hk.1
  | cons c k' =>
    have := lex_word (hk.2 c (.head _)) (k' ++ r)
    rw [List.cons_append] at h1 h2 ⊢
    rw [this, h1, h2]
theorem lex_ind {P : List Nat → List Tk → Prop} (hnil : P [] []) (hblank : ∀ c r, isB c = true → P r (lex r) → P (c :: r) (lex r)) (hgg : ∀ r, P r (lex r) → P (62 :: 62 :: r) ([62, 62] :: lex r))
    (hsign : ∀ c r, isS c = true → ¬ (c = 62 ∧ r.head? = some 62) → P r (lex r) → P (c :: r) ([c] :: lex r)) (hword : ∀ k r, WdM k → (r = [] ∨ ∃ c q, r = c :: q ∧ isW c = false) → P r (lex r) → P (k ++ r) (k :: lex r)) :
    ∀ n (x : List Nat), x.length ≤ n → P x (lex x) := by
  intro n
  induction n with
  | zero =>
    intro x hx
    cases x with
    | nil => rw [lex_nil]; exact hnil
    | cons c r => simp at hx
  | succ n ih =>
    intro x hx
    cases x with
    | nil => rw [lex_nil]; exact hnil
    | cons c r =>
      have hr : r.length ≤ n := by simpa using hx
      rcases kinds c with h | h | h
      · rw [lex_blank h]; exact hblank c r h (ih r hr)
      · by_cases hg : c = 62 ∧ r.head? = some 62
        · obtain ⟨rfl, hg⟩ := hg
          cases r with
          | nil => cases hg
          | cons d r =>
            cases hg
            rw [lex_gg]
            exact hgg r (ih r (by simp at hr; (first | lia | omega)))
        · rw [lex_sign h hg]; exact hsign c r h hg (ih r hr)
      · have hk : WdM ((c :: r).takeWhile isW) := by
          refine ⟨?_, fun z hz => ?_⟩
          · rw [List.takeWhile_cons, if_pos h]; exact List.cons_ne_nil _ _
          · have := List.all_takeWhile (p := isW) (l := c :: r)
            rw [List.all_eq_true] at this
            exact this z hz
        have hd : (c :: r).dropWhile isW = [] ∨ ∃ d q, (c :: r).dropWhile isW = d :: q ∧ isW d = false := by
          cases q : (c :: r).dropWhile isW with
          | nil => exact .inl rfl
          | cons d q' =>
            refine .inr ⟨d, q', rfl, ?_⟩
            have := List.head?_dropWhile_not isW (c :: r)
            rw [q] at this
            simpa using this
        have hl : ((c :: r).dropWhile isW).length ≤ n := by
          rw [List.dropWhile_cons, if_pos h]
          exact Nat.le_trans (List.dropWhile_sublist isW (l := r)).length_le hr
        rw [lex_word h]
        have := hword _ _ hk hd (ih _ hl)
        rwa [List.takeWhile_append_dropWhile] at this
theorem lex_all {P : List Nat → List Tk → Prop} (hnil : P [] []) (hblank : ∀ c r, isB c = true → P r (lex r) → P (c :: r) (lex r)) (hgg : ∀ r, P r (lex r) → P (62 :: 62 :: r) ([62, 62] :: lex r))
    (hsign : ∀ c r, isS c = true → ¬ (c = 62 ∧ r.head? = some 62) → P r (lex r) → P (c :: r) ([c] :: lex r)) (hword : ∀ k r, WdM k → (r = [] ∨ ∃ c q, r = c :: q ∧ isW c = false) → P r (lex r) → P (k ++ r) (k :: lex r)) (x : List Nat) : P x (lex x) :=
  lex_ind hnil hblank hgg hsign hword x.length x (Nat.le_refl _)

/- two texts with a blank between them -/
theorem lex_app (a b : List Nat) : lex (a ++ 32 :: b) = lex a ++ lex b := by
  refine lex_all (P := fun a ts => lex (a ++ 32 :: b) = ts ++ lex b) ?_ ?_ ?_ ?_ ?_ a
  · exact lex_blank rfl b
  · intro c r h ih; rw [List.cons_append, lex_blank h, ih]
  · intro r ih; rw [List.cons_append, List.cons_append, lex_gg, ih]; rfl
  · intro c r h hg ih
    rw [List.cons_append, lex_sign h, ih]; rfl
    rintro ⟨e, q⟩
    cases r with
    | nil => cases q
    | cons d r => exact hg ⟨e, q⟩
  · intro k r hk hr ih
    rw [List.append_assoc, lex_word_app hk, ih]; rfl
    rcases hr with rfl | ⟨c, q, rfl, h⟩
    · exact .inr ⟨32, b, rfl, by decide⟩
    · exact .inr ⟨c, _, rfl, h⟩
theorem lex_one {k : Tk} (hk : WdM k) : lex k = [k] := by
  have := lex_word_app hk (r := []) (.inl rfl)
  rwa [List.append_nil, lex_nil] at this

theorem isS_iff {c : Nat} : isS c = true ↔ c = 60 ∨ c = 124 ∨ c = 62 ∨ c = 38 ∨ c = 59 ∨ c = 40 ∨ c = 41 := by
  unfold isS
  simp
theorem sign_ok {c : Nat} (h : isS c = true) : okM [c] := by
  rcases isS_iff.mp h with rfl | rfl | rfl | rfl | rfl | rfl | rfl
  · exact .inr (.inl (by decide))
  · exact .inr (.inr (by decide))
  · exact .inr (.inl (by decide))
  · exact .inr (.inr (by decide))
  · exact .inr (.inr (by decide))
  · exact .inr (.inr (by decide))
  · exact .inr (.inr (by decide))
theorem sign_nb {c : Nat} (h : isS c = true) : isB c = false := by
  rcases isS_iff.mp h with rfl | rfl | rfl | rfl | rfl | rfl | rfl <;> decide

/- the marks of a text, and their signs -/
theorem lex_marks (x : List Nat) : ∀ k ∈ lex x, okM k ∧ k.length ≤ x.length ∧ ∀ c ∈ k, c ∈ x ∧ isB c = false := by
  refine lex_all (P := fun x ts => ∀ k ∈ ts, okM k ∧ k.length ≤ x.length ∧ ∀ c ∈ k, c ∈ x ∧ isB c = false) ?_ ?_ ?_ ?_ ?_ x
  · intro k hk; cases hk
  · intro c r _ ih k hk
    obtain ⟨h1, h2, h3⟩ := ih k hk
    exact ⟨h1, by simp; (first | lia | omega), fun z hz => ⟨.tail _ (h3 z hz).1, (h3 z hz).2⟩⟩
  · intro r ih k hk
    rcases List.mem_cons.mp hk with rfl | hk
    · refine ⟨.inr (.inl (by decide)), by simp, fun z hz => ?_⟩
      have : z = 62 := by simpa using hz
      subst this
      exact ⟨.head _, by decide⟩
    · obtain ⟨h1, h2, h3⟩ := ih k hk
      exact ⟨h1, by simp; (first | lia | omega), fun z hz => ⟨.tail _ (.tail _ (h3 z hz).1), (h3 z hz).2⟩⟩
  · intro c r hc _ ih k hk
    rcases List.mem_cons.mp hk with rfl | hk
    · refine ⟨sign_ok hc, by simp, fun z hz => ?_⟩
      have : z = c := by simpa using hz
      subst this
      exact ⟨.head _, sign_nb hc⟩
    · obtain ⟨h1, h2, h3⟩ := ih k hk
      exact ⟨h1, by simp; (first | lia | omega), fun z hz => ⟨.tail _ (h3 z hz).1, (h3 z hz).2⟩⟩
  · intro k0 r hk0 _ ih k hk
    rcases List.mem_cons.mp hk with rfl | hk
    · exact ⟨.inl hk0, by simp, fun z hz => ⟨List.mem_append_left _ hz, (isW_not (hk0.2 z hz)).1⟩⟩
    · obtain ⟨h1, h2, h3⟩ := ih k hk
      exact ⟨h1, by simp; (first | lia | omega), fun z hz => ⟨List.mem_append_right _ (h3 z hz).1, (h3 z hz).2⟩⟩
/- the marks that are signs -/
noncomputable def sgc (ts : List Tk) : Nat := ts.countP fun k => isS (hd0 k)
noncomputable def sgx (x : List Nat) : Nat := x.countP isS
theorem sgc_app (a b : List Tk) : sgc (a ++ b) = sgc a + sgc b := List.countP_append
theorem sgx_app (a b : List Nat) : sgx (a ++ b) = sgx a + sgx b := List.countP_append
theorem sgc_cons (k : Tk) (r : List Tk) : sgc (k :: r) = (if isS (hd0 k) = true then 1 else 0) + sgc r := by
  unfold sgc
  rw [List.countP_cons, Nat.add_comm]
theorem sgx_cons (c : Nat) (r : List Nat) : sgx (c :: r) = (if isS c = true then 1 else 0) + sgx r := by
  unfold sgx
  rw [List.countP_cons, Nat.add_comm]
theorem lex_sgc (x : List Nat) : sgc (lex x) ≤ sgx x ∧ (lex x).length ≤ x.length := by
  refine lex_all (P := fun x ts => sgc ts ≤ sgx x ∧ ts.length ≤ x.length) ?_ ?_ ?_ ?_ ?_ x
  · exact ⟨Nat.le_refl _, Nat.le_refl _⟩
  · intro c r _ ih; rw [sgx_cons]; exact ⟨by (first | lia | omega), by simp; (first | lia | omega)⟩
  · intro r ih
    rw [sgx_cons, sgx_cons, sgc_cons]
    exact ⟨by split <;> simp [isS] <;> (first | lia | omega), by simp; (first | lia | omega)⟩
  · intro c r _ _ ih; rw [sgx_cons, sgc_cons]; exact ⟨Nat.add_le_add_left ih.1 _, by simpa using ih.2⟩
  · intro k r hk _ ih
    have hS : isS (hd0 k) = false := (isW_not hk.hd).2
    have hpos : 0 < k.length := List.length_pos_iff.mpr hk.1
    rw [sgx_app, sgc_cons, if_neg (by rw [hS]; decide)]
    exact ⟨by (first | lia | omega), by simp; (first | lia | omega)⟩
theorem wt_le_sgc (ts : List Tk) : wt ts ≤ sgc ts := by
  unfold wt sgc
  refine List.countP_mono_left fun k _ h => ?_
  simp only [Bool.or_eq_true, decide_eq_true_eq] at h
  rcases h with (h | h) | h <;> rw [h] <;> rfl

/- trees: their size, and what a line's signs say of it -/
noncomputable def nd : Tree → Nat
  | .run _ => 0
  | .redir _ t _ => nd t + 1
  | .pair _ l r => nd l + nd r + 1
  | .back t => nd t + 1
theorem nd_appR (t : Tree) (rd : Rd) : nd (appR t rd) = nd t + rd.length := by
  induction rd generalizing t with
  | nil => rfl
  | cons p r ih => obtain ⟨k, p⟩ := p; show nd (appR (.redir k t p) r) = _; rw [ih]; simp [nd]; (first | lia | omega)
theorem nd_backs (m : Nat) (t : Tree) : nd (backs m t) = nd t + m := by
  induction m with
  | zero => rfl
  | succ m ih => show nd (.back (backs m t)) = _; simp only [nd, ih]; (first | lia | omega)
theorem items_sgc {ts a : List Tk} {rd : Rd} (h : Items ts a rd) : rd.length ≤ sgc ts := by
  induction h with
  | nil => exact Nat.le_refl _
  | word _ _ ih => rw [sgc_cons]; (first | lia | omega)
  | @red k p ts a rd q w _ ih =>
    have hk : isS (hd0 k) = true := by rcases isRedM_iff.mp q with e | e | e <;> rw [e] <;> rfl
    rw [sgc_cons, sgc_cons, if_pos hk]
    simp
    (first | lia | omega)
theorem rep_sgc (m : Nat) : sgc (List.replicate m [38]) = m := by
  induction m with
  | zero => rfl
  | succ m ih => rw [List.replicate_succ, sgc_cons, ih, if_pos (by rfl)]; (first | lia | omega)
theorem G_nd {lv : Nat} {ts : List Tk} {t : Tree} (h : G lv ts t) : nd t ≤ sgc ts := by
  induction h with
  | run h _ => rw [nd_appR]; have := items_sgc h; simp [nd]; (first | lia | omega)
  | block _ h2 ih => rw [nd_appR, sgc_cons, sgc_app, sgc_cons]; have := items_sgc h2; (first | lia | omega)
  | cmd _ ih => exact ih
  | pipe _ _ i1 i2 => rw [sgc_app, sgc_cons, if_pos (by rfl)]; simp only [nd]; (first | lia | omega)
  | back m _ ih => rw [nd_backs, sgc_app, rep_sgc]; (first | lia | omega)
  | seq m _ _ i1 i2 => rw [sgc_app, sgc_app, sgc_cons, rep_sgc, if_pos (by rfl)]; simp only [nd, nd_backs]; (first | lia | omega)

/- what the words of a tree are -/
noncomputable def AllW (P : Tk → Prop) : Tree → Prop
  | .run a => ∀ k ∈ a, P k
  | .redir _ t p => AllW P t ∧ P p
  | .pair _ l r => AllW P l ∧ AllW P r
  | .back t => AllW P t
theorem appR_wf {t : Tree} {rd : Rd} {P : Tk → Prop} (h : WF t) (ha : AllW P t) (hr : ∀ q ∈ rd, q.1 ≤ 2 ∧ Wd q.2 ∧ P q.2) : WF (appR t rd) ∧ AllW P (appR t rd) := by
  induction rd generalizing t with
  | nil => exact ⟨h, ha⟩
  | cons p r ih =>
    obtain ⟨k, p⟩ := p
    have q := hr _ (.head _)
    exact ih (t := .redir k t p) (.redir q.1 h q.2.1) ⟨ha, q.2.2⟩ fun z hz => hr z (.tail _ hz)
theorem backs_wf {t : Tree} {P : Tk → Prop} (h : WF t) (ha : AllW P t) (m : Nat) : WF (backs m t) ∧ AllW P (backs m t) := by
  induction m with
  | zero => exact ⟨h, ha⟩
  | succ m ih => exact ⟨.back ih.1, ih.2⟩
theorem kd_le (k : Tk) : kd k ≤ 2 := by unfold kd; split; (first | lia | omega); split <;> (first | lia | omega)
theorem items_wf {ts a : List Tk} {rd : Rd} {P : Tk → Prop} (h : Items ts a rd) (hp : ∀ k ∈ ts, WdM k → Wd k ∧ P k) : (∀ k ∈ a, Wd k ∧ P k) ∧ ∀ q ∈ rd, q.1 ≤ 2 ∧ Wd q.2 ∧ P q.2 := by
  induction h with
  | nil => exact ⟨(fun _ h => nomatch h), (fun _ h => nomatch h)⟩
  | word w _ ih =>
    obtain ⟨i1, i2⟩ := ih fun k hk => hp k (.tail _ hk)
    refine ⟨fun k hk => ?_, i2⟩
    rcases List.mem_cons.mp hk with rfl | hk
    · exact hp _ (.head _) w
    · exact i1 k hk
  | @red k p ts a rd q w _ ih =>
    obtain ⟨i1, i2⟩ := ih fun k hk => hp k (.tail _ (.tail _ hk))
    refine ⟨i1, fun z hz => ?_⟩
    rcases List.mem_cons.mp hz with rfl | hz
    · exact ⟨kd_le k, hp _ (.tail _ (.head _)) w⟩
    · exact i2 z hz
theorem G_wf {lv : Nat} {ts : List Tk} {t : Tree} {P : Tk → Prop} (h : G lv ts t) : (∀ k ∈ ts, WdM k → Wd k ∧ P k) → WF t ∧ AllW P t := by
  induction h with
  | run h ha =>
    intro hp
    obtain ⟨i1, i2⟩ := items_wf h hp
    exact appR_wf (.run (fun k hk => (i1 k hk).1) ha) (fun k hk => (i1 k hk).2) i2
  | block _ h2 ih =>
    intro hp
    obtain ⟨w, a⟩ := ih fun k hk => hp k (.tail _ (List.mem_append_left _ hk))
    exact appR_wf w a (items_wf h2 fun k hk => hp k (.tail _ (List.mem_append_right _ (.tail _ hk)))).2
  | cmd _ ih => exact ih
  | pipe _ _ i1 i2 =>
    intro hp
    obtain ⟨w1, a1⟩ := i1 fun k hk => hp k (List.mem_append_left _ hk)
    obtain ⟨w2, a2⟩ := i2 fun k hk => hp k (List.mem_append_right _ (.tail _ hk))
    exact ⟨.pair (.inl rfl) w1 w2, a1, a2⟩
  | back m _ ih =>
    intro hp
    obtain ⟨w, a⟩ := ih fun k hk => hp k (List.mem_append_left _ hk)
    exact backs_wf w a m
  | seq m _ _ i1 i2 =>
    intro hp
    obtain ⟨w1, a1⟩ := i1 fun k hk => hp k (List.mem_append_left _ (List.mem_append_left _ hk))
    obtain ⟨w2, a2⟩ := i2 fun k hk => hp k (List.mem_append_right _ (.tail _ hk))
    exact ⟨.pair (.inr rfl) (backs_wf w1 a1 m).1 w2, (backs_wf w1 a1 m).2, a2⟩

/- a tree's text is read as the tree -/
noncomputable def bm (b : Bool) (ts : List Tk) : List Tk := if b then ts else [40] :: (ts ++ [[41]])
noncomputable def mks : Tree → List Tk
  | .run a => a
  | .redir k t p => bm (isRR t) (mks t) ++ [sgn k, p]
  | .pair s l r => if s = 124 then bm (isRR l) (mks l) ++ [124] :: bm (!isLow r) (mks r)
    else (if isBk l then mks l else bm (!isLow l) (mks l)) ++ [59] :: mks r
  | .back t => (if isBk t then mks t else bm (!isLow t) (mks t)) ++ [[38]]

theorem Wd.m {k : Tk} (h : Wd k) : WdM k := ⟨h.1, fun c hc => (h.2 c hc).2.2⟩
theorem lex_sgn {k : Nat} (hk : k ≤ 2) : lex (sgn k) = [sgn k] := by
  obtain rfl | rfl | rfl : k = 0 ∨ k = 1 ∨ k = 2 := by (first | lia | omega)
  · exact (lex_sign (c := 60) (r := []) rfl (by simp)).trans (by rw [lex_nil]; rfl)
  · exact (lex_sign (c := 62) (r := []) rfl (by simp)).trans (by rw [lex_nil]; rfl)
  · exact (lex_gg []).trans (by rw [lex_nil]; rfl)
theorem lex_single {c : Nat} (h : isS c = true) : lex [c] = [[c]] := by
  rw [lex_sign h (by simp), lex_nil]
theorem lex_brk (b : Bool) (x : List Nat) : lex (brk b x) = bm b (lex x) := by
  cases b with
  | true => rfl
  | false =>
    show lex ([40] ++ 32 :: (x ++ 32 :: [41])) = _
    rw [lex_app, lex_app, lex_single rfl, lex_single rfl]
    rfl
theorem lex_jn : ∀ {a : List Tk}, (∀ k ∈ a, Wd k) → lex (jn a) = a
  | [], _ => lex_nil
  | [a], h => lex_one (h a (.head _)).m
  | a :: b :: r, h => by
    rw [jn, lex_app, lex_one (h a (.head _)).m, lex_jn (a := b :: r) fun k hk => h k (.tail _ hk)]
    rfl
theorem lex_sep (a b m : List Nat) : lex (a ++ [32] ++ m ++ [32] ++ b) = lex a ++ (lex m ++ lex b) := by
  have e : a ++ [32] ++ m ++ [32] ++ b = a ++ 32 :: (m ++ 32 :: b) := by simp
  rw [e, lex_app, lex_app]
theorem lex_txt {t : Tree} (h : WF t) : lex (txt t) = mks t := by
  induction h with
  | run h _ => exact lex_jn h
  | @redir k t p hk _ hp ih =>
    rw [txt, mks]
    by_cases e : brk (isRR t) (txt t) = []
    · have e2 : bm (isRR t) (mks t) = [] := by rw [← ih, ← lex_brk, e, lex_nil]
      rw [if_pos e, e2]
      have e3 : ([] : List Nat) ++ sgn k ++ [32] ++ p = sgn k ++ 32 :: p := by simp
      rw [e3, lex_app, lex_sgn hk, lex_one hp.m]
      rfl
    · rw [if_neg e, lex_sep, lex_brk, ih, lex_sgn hk, lex_one hp.m]
      rfl
  | @pair s l r hs _ _ i1 i2 =>
    rcases hs with rfl | rfl
    · have e1 : txt (.pair 124 l r) = brk (isRR l) (txt l) ++ [32] ++ [124] ++ [32] ++ brk (!isLow r) (txt r) := by rw [txt, if_pos rfl]; simp
      have e2 : mks (.pair 124 l r) = bm (isRR l) (mks l) ++ ([[124]] ++ bm (!isLow r) (mks r)) := by rw [mks, if_pos rfl]; rfl
      rw [e1, e2, lex_sep, lex_brk, lex_brk, i1, i2, lex_single rfl]
    · have e1 : txt (.pair 59 l r) = (if isBk l then txt l else brk (!isLow l) (txt l)) ++ [32] ++ [59] ++ [32] ++ txt r := by rw [txt, if_neg (by decide)]; simp
      have e2 : mks (.pair 59 l r) = (if isBk l then mks l else bm (!isLow l) (mks l)) ++ ([[59]] ++ mks r) := by rw [mks, if_neg (by decide)]; rfl
      rw [e1, e2, lex_sep, i2, lex_single rfl]
      congr 1
      by_cases q : isBk l = true
      · rw [if_pos q, if_pos q, i1]
      · rw [if_neg q, if_neg q, lex_brk, i1]
  | @back t _ ih =>
    have e1 : txt (.back t) = (if isBk t then txt t else brk (!isLow t) (txt t)) ++ 32 :: [38] := by rw [txt]
    rw [e1, mks, lex_app, lex_single rfl]
    congr 1
    by_cases q : isBk t = true
    · rw [if_pos q, if_pos q, ih]
    · rw [if_neg q, if_neg q, lex_brk, ih]

theorem Items.redS {k : Nat} {p : Tk} (hk : k ≤ 2) (hp : Wd p) : Items [sgn k, p] [] [(k, p)] := by
  have e : kd (sgn k) = k := by obtain rfl | rfl | rfl : k = 0 ∨ k = 1 ∨ k = 2 := by (first | lia | omega)
                                all_goals rfl
  have r : isRedM (sgn k) = true := by obtain rfl | rfl | rfl : k = 0 ∨ k = 1 ∨ k = 2 := by (first | lia | omega)
                                       all_goals rfl
  have := Items.red r hp.m .nil
  rwa [e] at this
theorem G_redS {u : List Tk} {t : Tree} (h : G 0 u t) {k : Nat} {p : Tk} (hk : k ≤ 2) (hp : Wd p) : G 0 (u ++ [sgn k, p]) (.redir k t p) := by
  cases h with
  | @run _ a rd h ha =>
    rw [← appR_snoc]
    have := h.append (Items.redS hk hp)
    rw [List.append_nil] at this
    exact .run this ha
  | @block v r t rd h1 h2 =>
    rw [← appR_snoc, List.cons_append, List.append_assoc, List.cons_append]
    exact .block h1 (h2.append (Items.redS hk hp))
theorem items_words {a : List Tk} (h : ∀ k ∈ a, Wd k) : Items a a [] := by
  induction a with
  | nil => exact .nil
  | cons k r ih => exact .word (h k (.head _)).m (ih fun z hz => h z (.tail _ hz))
theorem G_bm {ts : List Tk} {t : Tree} {b : Bool} (h0 : b = true → G 0 ts t) (h2 : G 2 ts t) : G 0 (bm b ts) t := by
  cases b with
  | true => exact h0 rfl
  | false =>
    have := G.block (r := []) (rd := []) h2 .nil
    exact this
theorem G_bm1 {ts : List Tk} {t : Tree} {b : Bool} (h1 : b = true → G 1 ts t) (h2 : G 2 ts t) : G 1 (bm b ts) t := by
  cases b with
  | true => exact h1 rfl
  | false => exact .cmd (G_bm (b := false) (fun q => nomatch q) h2)
theorem mks_G {t : Tree} (h : WF t) : (isRR t = true → G 0 (mks t) t) ∧ ((!isLow t) = true → G 1 (mks t) t) ∧ (∃ m p t0, (if isBk t then mks t else bm (!isLow t) (mks t)) = p ++ List.replicate m [38] ∧ G 1 p t0 ∧ t = backs m t0) ∧ G 2 (mks t) t := by
  have lift : ∀ {t : Tree}, (isRR t = true → G 0 (mks t) t) → isBk t = false → (((!isLow t) = true → G 1 (mks t) t) ∧ G 2 (mks t) t) → (isRR t = true → G 0 (mks t) t) ∧ ((!isLow t) = true → G 1 (mks t) t) ∧ (∃ m p t0, (if isBk t then mks t else bm (!isLow t) (mks t)) = p ++ List.replicate m [38] ∧ G 1 p t0 ∧ t = backs m t0) ∧ G 2 (mks t) t := by
    intro t h0 hb ⟨h1, h2⟩
    refine ⟨h0, h1, ⟨0, bm (!isLow t) (mks t), t, ?_, G_bm1 h1 h2, rfl⟩, h2⟩
    rw [if_neg (by rw [hb]; decide), List.replicate_zero, List.append_nil]
  have to2 : ∀ {t : Tree}, G 1 (mks t) t → G 2 (mks t) t := fun h => by
    have := G.back 0 h
    rwa [List.replicate_zero, List.append_nil] at this
  induction h with
  | @run a h ha =>
    have g : G 0 (mks (.run a)) (.run a) := .run (rd := []) (items_words h) ha
    exact lift (fun _ => g) rfl ⟨fun _ => .cmd g, to2 (.cmd g)⟩
  | @redir k t p hk _ hp ih =>
    have g : G 0 (mks (.redir k t p)) (.redir k t p) := G_redS (G_bm ih.1 ih.2.2.2) hk hp
    exact lift (fun _ => g) rfl ⟨fun _ => .cmd g, to2 (.cmd g)⟩
  | @pair s l r hs _ _ i1 i2 =>
    rcases hs with rfl | rfl
    · have g : G 1 (mks (.pair 124 l r)) (.pair 124 l r) := by
        rw [mks, if_pos rfl]
        exact .pipe (G_bm i1.1 i1.2.2.2) (G_bm1 i2.2.1 i2.2.2.2)
      exact lift (fun q => (nomatch q)) rfl ⟨fun _ => g, to2 g⟩
    · obtain ⟨m, p, t0, e, gp, rfl⟩ := i1.2.2.1
      have g : G 2 (mks (.pair 59 (backs m t0) r)) (.pair 59 (backs m t0) r) := by
        rw [mks, if_neg (by decide), e]
        exact .seq m gp i2.2.2.2
      exact lift (fun q => (nomatch q)) rfl ⟨(fun q => nomatch q), g⟩
  | @back t _ ih =>
    obtain ⟨m, p, t0, e, gp, rfl⟩ := ih.2.2.1
    have g : mks (.back (backs m t0)) = p ++ List.replicate (m + 1) [38] := by
      rw [mks, e, List.append_assoc, List.replicate_succ']
    refine ⟨(fun q => nomatch q), (fun q => nomatch q), ⟨m + 1, p, t0, ?_, gp, rfl⟩, ?_⟩
    · rw [if_pos (by rfl), g]
    · rw [g]
      exact .back (m + 1) gp

/- how long a tree's text is -/
noncomputable def sz : Tree → Nat
  | .run _ => 1
  | .redir _ t _ => sz t + 1
  | .pair _ l r => sz l + sz r + 1
  | .back t => sz t + 1
theorem sz_nd (t : Tree) : sz t ≤ 2 * nd t + 1 := by
  induction t with
  | run a => simp [sz, nd]
  | redir k t p ih => simp only [sz, nd]; (first | lia | omega)
  | pair c l r i1 i2 => simp only [sz, nd]; (first | lia | omega)
  | back t ih => simp only [sz, nd]; (first | lia | omega)
theorem brk_len2 (b : Bool) (x : List Nat) : (brk b x).length ≤ x.length + 4 := by cases b <;> simp [brk]
theorem jn_len2 : ∀ {a : List Tk}, (∀ k ∈ a, k.length ≤ 100) → (jn a).length ≤ 101 * a.length
  | [], _ => by simp [jn]
  | [a], h => by have := h a (.head _); simp [jn]; (first | lia | omega)
  | a :: b :: r, h => by
    have := h a (.head _)
    have ih := jn_len2 (a := b :: r) fun k hk => h k (.tail _ hk)
    simp [jn] at ih ⊢
    (first | lia | omega)
theorem sgn_len (k : Nat) : (sgn k).length ≤ 2 := by unfold sgn; split; decide; split <;> decide
theorem txt_len {t : Tree} (h : WF t) : AllW (fun k => k.length ≤ 100) t → (txt t).length ≤ 1000 * sz t := by
  induction h with
  | run h ha => intro hw; have := jn_len2 hw; rw [txt]; simp only [sz]; (first | lia | omega)
  | @redir k t p _ _ _ ih =>
    intro hw
    have := ih hw.1
    have h2 := brk_len2 (isRR t) (txt t)
    have h3 := sgn_len k
    have h4 : p.length ≤ 100 := hw.2
    have h5 : (if brk (isRR t) (txt t) = [] then [] else brk (isRR t) (txt t) ++ [32]).length ≤ (brk (isRR t) (txt t)).length + 1 := by split <;> simp
    rw [txt, List.length_append, List.length_append, List.length_append]
    simp only [sz, List.length_cons, List.length_nil]
    (first | lia | omega)
  | @pair s l r hs _ _ i1 i2 =>
    intro hw
    have j1 := i1 hw.1
    have j2 := i2 hw.2
    have b1 := brk_len2 (isRR l) (txt l)
    have b2 := brk_len2 (!isLow r) (txt r)
    have b3 := brk_len2 (!isLow l) (txt l)
    rw [txt]
    by_cases q : s = 124
    · rw [if_pos q, List.length_append, List.length_append]
      simp only [sz, List.length_cons, List.length_nil]
      (first | lia | omega)
    · rw [if_neg q, List.length_append, List.length_append]
      have b4 : (if isBk l then txt l else brk (!isLow l) (txt l)).length ≤ (txt l).length + 4 := by split <;> (first | lia | omega)
      simp only [sz, List.length_cons, List.length_nil]
      (first | lia | omega)
  | @back t _ ih =>
    intro hw
    have j1 := ih hw
    have b3 := brk_len2 (!isLow t) (txt t)
    have b4 : (if isBk t then txt t else brk (!isLow t) (txt t)).length ≤ (txt t).length + 4 := by split <;> (first | lia | omega)
    rw [txt, List.length_append]
    simp only [sz, List.length_cons, List.length_nil]
    (first | lia | omega)
/- the lines that the law makes -/
structure Line (x : List Nat) : Prop where
  len : x.length ≤ 100
  chars : ∀ c ∈ x, 32 ≤ c ∧ c < 127
  signs : sgx x ≤ 32

theorem Line.word {x : List Nat} (h : Line x) {k : Tk} (hk : k ∈ lex x) (hw : WdM k) : Wd k ∧ k.length ≤ 100 := by
  obtain ⟨_, h2, h3⟩ := lex_marks x k hk
  refine ⟨⟨hw.1, fun c hc => ?_⟩, Nat.le_trans h2 h.len⟩
  obtain ⟨q1, q2⟩ := h3 c hc
  obtain ⟨r1, r2⟩ := h.chars c q1
  refine ⟨?_, r2, hw.2 c hc⟩
  rcases Nat.lt_or_ge c 33 with z | z
  · have : c = 32 := by (first | lia | omega)
    rw [this] at q2
    cases q2
  · exact z
end

section
open PySem

noncomputable def dp (c : Nat) : Bool := c = 40 || c = 59 || c = 124
/- the signs that lead deeper -/
noncomputable def wtx (x : List Nat) : Nat := x.countP dp
theorem wtx_app (a b : List Nat) : wtx (a ++ b) = wtx a + wtx b := List.countP_append
theorem wtx_cons (c : Nat) (r : List Nat) : wtx (c :: r) = (if dp c = true then 1 else 0) + wtx r := by
  unfold wtx
  rw [List.countP_cons, Nat.add_comm]
theorem wt_cons2 (k : Tk) (r : List Tk) : wt (k :: r) = (if dp (hd0 k) = true then 1 else 0) + wt r := by
  unfold wt
  rw [List.countP_cons, Nat.add_comm]
  rfl
theorem dp_word {c : Nat} (h : isW c = true) : dp c = false := by
  have hs := (isW_not h).2
  cases q : dp c with
  | false => rfl
  | true =>
    unfold dp at q
    simp only [Bool.or_eq_true, decide_eq_true_eq] at q
    rcases q with (q | q) | q <;> rw [q] at hs <;> cases hs
theorem lex_wt (x : List Nat) : wt (lex x) ≤ wtx x := by
  refine lex_all (P := fun x ts => wt ts ≤ wtx x) ?_ ?_ ?_ ?_ ?_ x
  · exact Nat.le_refl _
  · intro c r _ ih; rw [wtx_cons]; (first | lia | omega)
  · intro r ih
    rw [wtx_cons, wtx_cons, wt_cons2]
    have e1 : dp (hd0 [62, 62]) = false := rfl
    rw [if_neg (by rw [e1]; decide)]
    (first | lia | omega)
  · intro c r _ _ ih; rw [wtx_cons, wt_cons2]; exact Nat.add_le_add_left ih _
  · intro k r hk _ ih
    rw [wtx_app, wt_cons2, if_neg (by rw [dp_word hk.hd]; decide)]
    (first | lia | omega)
theorem wtx_word {k : Tk} (h : Wd k) : wtx k = 0 := by
  unfold wtx
  rw [List.countP_eq_zero]
  intro c hc
  rw [dp_word (h.m.2 c hc)]
  decide
theorem wtx_jn : ∀ {a : List Tk}, (∀ k ∈ a, Wd k) → wtx (jn a) = 0
  | [], _ => rfl
  | [a], h => wtx_word (h a (.head _))
  | a :: b :: r, h => by
    rw [jn, wtx_app, wtx_word (h a (.head _)), wtx_cons, wtx_jn (a := b :: r) fun k hk => h k (.tail _ hk)]
    rfl
theorem wtx_brk (b : Bool) (x : List Nat) : wtx (brk b x) ≤ wtx x + 1 := by
  cases b with
  | true => simp [brk]
  | false =>
    show wtx ([40, 32] ++ x ++ [32, 41]) ≤ _
    rw [wtx_app, wtx_app]
    have e1 : wtx [40, 32] = 1 := by decide
    have e2 : wtx [32, 41] = 0 := by decide
    (first | lia | omega)
theorem wtx_txt {t : Tree} (h : WF t) : wtx (txt t) ≤ 3 * nd t := by
  induction h with
  | run h _ => rw [txt, wtx_jn h]; exact Nat.zero_le _
  | @redir k t p hk _ hp ih =>
    have h2 := wtx_brk (isRR t) (txt t)
    have h3 : wtx (sgn k) ≤ 0 := by obtain rfl | rfl | rfl : k = 0 ∨ k = 1 ∨ k = 2 := by (first | lia | omega)
                                    all_goals decide
    have h5 : wtx (if brk (isRR t) (txt t) = [] then [] else brk (isRR t) (txt t) ++ [32]) ≤ wtx (brk (isRR t) (txt t)) := by
      split
      · exact Nat.zero_le _
      · rw [wtx_app]; exact Nat.le_of_eq rfl
    have e32 : wtx [32] = 0 := by decide
    rw [txt, wtx_app, wtx_app, wtx_app, wtx_word hp]
    simp only [nd]
    (first | lia | omega)
  | @pair s l r hs _ _ i1 i2 =>
    have b1 := wtx_brk (isRR l) (txt l)
    have b2 := wtx_brk (!isLow r) (txt r)
    have b3 := wtx_brk (!isLow l) (txt l)
    have e1 : wtx [32, 124, 32] = 1 := by decide
    have e2 : wtx [32, 59, 32] = 1 := by decide
    rw [txt]
    by_cases q : s = 124
    · rw [if_pos q, wtx_app, wtx_app]
      simp only [nd]
      (first | lia | omega)
    · rw [if_neg q, wtx_app, wtx_app]
      have b4 : wtx (if isBk l then txt l else brk (!isLow l) (txt l)) ≤ wtx (txt l) + 1 := by split <;> (first | lia | omega)
      simp only [nd]
      (first | lia | omega)
  | @back t _ ih =>
    have b3 := wtx_brk (!isLow t) (txt t)
    have b4 : wtx (if isBk t then txt t else brk (!isLow t) (txt t)) ≤ wtx (txt t) + 1 := by split <;> (first | lia | omega)
    have e1 : wtx [32, 38] = 0 := by decide
    rw [txt, wtx_app]
    simp only [nd]
    (first | lia | omega)
end

open PySem PySem.W PySem.Calls PySem.Spec PyProof.Rows

local macro_rules | `(tactic| walk_at "r") => `(tactic| with_reducible assumption)

local macro_rules | `(tactic| walk_at "z") => `(tactic| first | walk_at "r" | lia)

local macro_rules | `(tactic| walk_at "3") => `(tactic| (intro h' F' N'; (try k_sweep)))

local macro_rules | `(tactic| walk_at "execs nil") => `(tactic| (k_here; with_reducible refine gen_tk ?_; set_option tactic.hygienic false in intros))

local macro_rules | `(tactic| walk_at "exec If") => `(tactic| (k_here; refine wpAny_If ?_))

local macro_rules | `(tactic| walk_at "subscriptTail") => `(tactic| (k_here; (fail_if_success (with_reducible show wpAny _ _ (subscriptTail (PySem.Expr.Name _ _) _ _ _) _ _ _)); k_dflt (refine turn_S ?_)))

local macro_rules | `(tactic| k_all) => `(tactic| assumption)

local macro_rules | `(tactic| walk_at "execs cons") => `(tactic| (k_here; refine seq_cons ?_))

section
open PySem PySem.W PySem.Calls PySem.Spec PyProof.Rows
variable {w : World} {mean : ExcName → Option Value} {mg mb : Str → Option Value} {B : Heap} {A : Around} {l : List Env} {s : Shared}

theorem fill1 (w : World) (h : Heap) : PySem.Challenge.rw_nu0084_01.Holds → (hd.heap_39 w.params).In h → True := by
  k_fill
  intros; trivial
/- the law's pool of draws -/
inductive PoolAt (h : Heap) (pl : Addr) : Prop
  | mk : ∀ p0 p1 t0 t1 n, h.get? pl = some (listOf #[.int p0 t0, .int p1 t1] n) → 0 ≤ p0 → 0 ≤ p1 → p1 < 2147483647 → PoolAt h pl
inductive TakeV (many : Int) (v : Value) : Prop
  | mk : ∀ d td, v = .int d td → 0 ≤ d → d < many → TakeV many v
inductive TakeOut (many : Int) (pl : Addr) (s : Shared) (v : Value) (h' : Heap) : Prop
  | mk : TakeV many v → Step [pl] s.heap h' → PoolAt h' pl → TakeOut many pl s v h'
theorem take_gives (am : Amb w mean mg mb B A l s.heap) (rm : Room A 30 100) {pl : Addr} {p0 p1 : Int} {t0 t1 : Tok} {n : Nat} (hl : s.heap.get? pl = some (listOf #[.int p0 t0, .int p1 t1] n)) (hpl : B.get? pl = none)
    (b0 : 0 ≤ p0) (b1 : 0 ≤ p1) (b2 : p1 < 2147483647) {many : Int} {tm : Tok} (m0 : 1 ≤ many) (m1 : many ≤ 16) :
    Gives w A 297 [.ref pl, .int many tm] s (TakeOut many pl s) := by
  have T := am.top
  have X := am.inK
  refine call_ok (by k_is) (by k_is) am rm.ok (binds := [("pool", .ref pl), ("many", .int many tm)]) (BindsTo.of_eq rfl) (locs rfl) ((pl, listOf #[.int p0 t0, .int p1 t1] n) :: others B s.heap [pl]) ?_ ?_
  · refine all_cons ?_ ?_
    · exact ⟨hl, hpl⟩
    · exact fun p hp => others_here p hp
  · intro L h₁ tk₁ R _ F N am' _ hR
    have hoth := others_ne (B := B) (h := s.heap) (ex := [pl]) (.head _)
    w_strict (k_steps)
    all_goals (try dsimp only)
    · refine hR _ _ _ ⟨⟨_, _, rfl, ?_, ?_⟩, step_of (by assumption) (by assumption) am.stays fun p hp => .tail _ hp, _, _, _, _, _, News.get (by assumption) (.head _), ?_, ?_, ?_⟩
      · exact Int.fmod_nonneg_of_pos _ (by lia)
      · exact Int.fmod_lt_of_pos _ (by lia)
      · exact Int.fdiv_nonneg b0 (by lia)
      · exact b1
      · exact b2
    · refine hR _ _ _ ⟨⟨_, _, rfl, ?_, ?_⟩, step_of (by assumption) (by assumption) am.stays fun p hp => .tail _ hp, _, _, _, _, _, News.get (by assumption) (.head _), ?_, ?_, ?_⟩
      · exact Int.fmod_nonneg_of_pos _ (by lia)
      · exact Int.fmod_lt_of_pos _ (by lia)
      · exact b0
      · exact Int.fmod_nonneg_of_pos _ (by decide)
      · exact Int.fmod_lt_of_pos _ (by decide)
end

section
open PySem PySem.W PySem.Calls PySem.Spec PyProof.Rows
variable {w : World} {mean : ExcName → Option Value} {mg mb : Str → Option Value} {B : Heap} {A : Around} {l : List Env} {s : Shared}


local macro_rules | `(tactic| walk_at "subscriptTail") => `(tactic| (k_here; (with_reducible show wpAny _ _ (subscriptTail _ _ (Value.str _ _) (Value.int _ _)) _ _ _); with_unfolding_all refine item_str (by first | decide | exact fits_of (by lia) (by lia)) (by lia) (by lia) (fun _ => ?_) rfl (fun _ => rfl)))
noncomputable abbrev scanD (w : World) (x : Str) (i : Int) (k1 tx k2 ti : Tok) : Obj := dictOf [⟨PyData.keyHash w.params (Str.ofString "line"), .str (Str.ofString "line") k1, .str x tx⟩, ⟨PyData.keyHash w.params (Str.ofString "place"), .str (Str.ofString "place") k2, .int i ti⟩] 2

structure ScanAt (w : World) (h : Heap) (sc dx : Addr) (x : Str) (i : Int) : Prop where
  inst : h.get? sc = some (instObj 209 dx)
  dict : ∃ k1 tx k2 ti, h.get? dx = some (scanD w x i k1 tx k2 ti)

theorem ScanAt.of_news {B h : Heap} {L sc dx : Addr} {x : Str} {i : Int} {k1 tx k2 ti : Tok} {rest : List (Addr × Obj)} (N : News B L h ((sc, instObj 209 dx) :: (dx, scanD w x i k1 tx k2 ti) :: rest)) : ScanAt w h sc dx x i :=
  ⟨(N _ (.head _)).1, k1, tx, k2, ti, (N _ (.tail _ (.head _))).1⟩

inductive BlanksLoop (x : Str) (j : Nat) (s : Shared) (B : Heap) (L : Addr) (sc : Addr) (dx : Addr) (w : World) (n : Nat) (s' : Shared) : Prop
  | mk : ∀ h' tk' j' k1 tx k2 ti, (n = x.length - j') → (j' ≤ x.length) → (spanN isB x j' = spanN isB x j) → (s' = { s with heap := h', toks := tk' }) → (Fr B L h' (fun y => [(Str.ofString "self", Value.ref sc)].lookup y)) → (News B L h' ((sc, instObj 209 dx) :: (dx, scanD w x j' k1 tx k2 ti) :: others B s.heap [dx])) → BlanksLoop x j s B L sc dx w n s'
theorem blanks_spec (am : Amb w mean mg mb B A l s.heap) (rm : Room A 2 20) {sc dx : Addr} {x : Str} {j : Nat} (S : ScanAt w s.heap sc dx x j) (hsc : B.get? sc = none) (fd : Free B l dx)
    (hx : x.length ≤ 1048576) (hj : j ≤ x.length) : Gives w A 171 [.ref sc] s (fun v h' => v = .none ∧ Step [dx] s.heap h' ∧ ScanAt w h' sc dx x (spanN isB x j)) := by
  have T := am.top
  have X := am.inK
  obtain ⟨S1, k1, tx, k2, ti, S2⟩ := S
  have hne : sc ≠ dx := fun e => by rw [e, S2] at S1; cases S1
  refine call_ok (by k_is) (by k_is) am rm.ok (binds := [("self", .ref sc)]) (BindsTo.of_eq rfl) (locs rfl) ((sc, instObj 209 dx) :: (dx, scanD w x j k1 tx k2 ti) :: others B s.heap [dx]) ?_ ?_
  · refine all_cons ?_ (all_cons ?_ ?_)
    · exact ⟨S1, hsc⟩
    · exact ⟨S2, fd.base⟩
    · exact fun p hp => others_here p hp
  · intro L h₁ tk₁ R _ F N am' _ hR
    have hoth := others_ne (B := B) (h := s.heap) (ex := [dx]) (.head _)
    refine wpAny_execs_cons ?_
    refine while_ok (BlanksLoop x j s B L sc dx w) ?_ (x.length - j) ⟨h₁, _, j, k1, tx, k2, ti, rfl, hj, rfl, rfl, F, N⟩
    rintro n s' ⟨h', tk', j', k1, tx, k2, ti, rfl, hj', hsp, rfl, F, N⟩
    w_strict (k_steps)
    all_goals (try dsimp only)
    · have hb : isB (chr x j') = false := by
        have := in_blanks (x := x) (j := j') (by first | (simp +arith only; done) | lia | omega)
        simp_all
      refine hR _ _ _ ⟨rfl, step_of (by assumption) (by assumption) am.stays fun p hp => .tail _ (.tail _ hp), ?_⟩
      rw [← hsp, spanN_stop (.inr hb)]
      exact ScanAt.of_news (by assumption)
    · have hb : isB (chr x j') = true := by
        have := in_blanks (x := x) (j := j') (by first | (simp +arith only; done) | lia | omega)
        simp_all
      exact ⟨x.length - (j' + 1), by (first | lia | omega), _, _, j' + 1, _, _, _, _, rfl, by (first | lia | omega), (spanN_step (by first | (simp +arith only; done) | lia | omega) hb).trans hsp, rfl, by assumption, by assumption⟩
    · refine hR _ _ _ ⟨rfl, step_of (by assumption) (by assumption) am.stays fun p hp => .tail _ (.tail _ hp), ?_⟩
      rw [← hsp, spanN_stop (.inl (by first | (simp +arith only; done) | lia | omega))]
      exact ScanAt.of_news (by assumption)

local macro_rules | `(tactic| walk_at "call ref") => `(tactic| (k_here; refine stop_here ?_))

inductive After (B : Heap) (L : Addr) (h' : Heap) (m : Str → Option Value) (sc : Addr) (dx : Addr) (w : World) (x : Str) (i' : Int) (rest : List (Addr × Obj))  : Prop
  | mk : (Fr B L h' m) → ∀ k1 tx k2 ti rest', (News B L h' ((sc, instObj 209 dx) :: (dx, scanD w x i' k1 tx k2 ti) :: rest')) → ((∀ p ∈ rest', p.1 ≠ dx)) → ((∀ p ∈ rest, p ∈ rest')) → ((∀ a o, h'.get? a = some o → a ≠ L → a ≠ dx → B.get? a = none → (a, o) ∈ rest')) → After B L h' m sc dx w x i' rest
/- behind a call that turned the scanner alone -/
theorem after {h h' : Heap} {L sc dx : Addr} {m : Str → Option Value} {x : Str} {i i' : Int} {k1 tx k2 ti : Tok} {rest : List (Addr × Obj)} (F : Fr B L h m) (N : News B L h ((sc, instObj 209 dx) :: (dx, scanD w x i k1 tx k2 ti) :: rest))
    (hd : ∀ p ∈ rest, p.1 ≠ dx) (st : Step [dx] h h') (S : ScanAt w h' sc dx x i') :
    After B L h' m sc dx w x i' rest := by
  obtain ⟨S1, k1, tx, k2, ti, S2⟩ := S
  have n1 := N _ (.head _)
  have n2 := N _ (.tail _ (.head _))
  obtain ⟨F', rest', N', a1, a2, a3⟩ := snap (X := [dx]) (ex := [(sc, instObj 209 dx), (dx, scanD w x i _ _ _ _)]) (rest := rest) F N st (fun hm => n2.2.1 (List.mem_singleton.mp hm).symm) (fun a hm => by rw [List.mem_singleton.mp hm]; exact n2.2.2)
    [(sc, instObj 209 dx), (dx, scanD w x i' k1 tx k2 ti)] (fun p hp => by
      rcases List.mem_cons.mp hp with rfl | hp
      · exact ⟨S1, n1.2⟩
      · rw [List.mem_singleton.mp hp]; exact ⟨S2, n2.2⟩)
  refine ⟨F', k1, tx, k2, ti, rest', N', a3 dx (.head _), fun p hp => a1 p hp (fun hm => hd p hp (List.mem_singleton.mp hm)) (fun hm => hd p hp (List.mem_singleton.mp hm)), fun a o e h1 h2 h3 => a2 a o e h1 (fun hm => h2 (List.mem_singleton.mp hm)) h3⟩

theorem next_is_spec (am : Amb w mean mg mb B A l s.heap) (rm : Room A 4 30) {sc dx : Addr} {x sg : Str} {ts : Tok} {j : Nat} (S : ScanAt w s.heap sc dx x j) (hsc : B.get? sc = none) (fd : Free B l dx)
    (hx : x.length ≤ 1048576) (hj : j ≤ x.length) : Gives w A 178 [.ref sc, .str sg ts] s (fun v h' => v = .bool (decide (spanN isB x j < x.length) && decide (chr x (spanN isB x j) ∈ sg.cps.toList)) ∧ Step [dx] s.heap h' ∧ ScanAt w h' sc dx x (spanN isB x j)) := by
  have T := am.top
  have X := am.inK
  have S0 := S
  obtain ⟨S1, k1, tx, k2, ti, S2⟩ := S
  have hne : sc ≠ dx := fun e => by rw [e, S2] at S1; cases S1
  refine call_ok (by k_is) (by k_is) am rm.ok (binds := [("self", .ref sc), ("signs", .str sg ts)]) (BindsTo.of_eq rfl) (locs rfl) ((sc, instObj 209 dx) :: (dx, scanD w x j k1 tx k2 ti) :: others B s.heap [dx]) ?_ ?_
  · refine all_cons ?_ (all_cons ?_ ?_)
    · exact ⟨S1, hsc⟩
    · exact ⟨S2, fd.base⟩
    · exact fun p hp => others_here p hp
  · intro L h₁ tk₁ R _ F N am' _ hR
    have hoth := others_ne (B := B) (h := s.heap) (ex := [dx]) (.head _)
    w_strict (k_steps)
    · show wpAny _ _ _ _ _ _
      refine (blanks_spec am' (rm.deeper.less (by decide) (by decide)) (ScanAt.of_news N) hsc (fd.push (N _ (.tail _ (.head _))).2.1 rfl) hx hj).use ?_
      rintro v h' tk' ⟨rfl, st, S'⟩
      obtain ⟨F₂, k1, tx, k2, ti, rest, N₂, hoth₂, hsub, hall⟩ := after F N hoth st S'
      clear F N
      (try dsimp only)
      w_strict (k_steps)
      · refine hR _ _ _ ⟨?_, step_of (by assumption) (by assumption) am.stays fun p hp => .tail _ (.tail _ (hsub p hp)), ScanAt.of_news (by assumption)⟩
        rw [in_item _ (by first | (simp +arith only; done) | lia | omega), Bool.not_not, decide_eq_true (p := spanN isB x j < x.length) (by first | (simp +arith only; done) | lia | omega), Bool.true_and]
      · refine hR _ _ _ ⟨?_, step_of (by assumption) (by assumption) am.stays fun p hp => .tail _ (.tail _ (hsub p hp)), ScanAt.of_news (by assumption)⟩
        have e : decide ((spanN isB x j : Int) < (x.length : Int)) = false := decide_eq_false (by first | (simp +arith only; done) | lia | omega)
        rw [e, decide_eq_false (p := spanN isB x j < x.length) (by first | (simp +arith only; done) | lia | omega), Bool.false_and]
end

local macro_rules | `(tactic| walk_at "subscriptTail") => `(tactic| (k_here; (with_reducible show wpAny _ _ (subscriptTail _ _ (Value.str _ _) (Value.int _ _)) _ _ _); with_unfolding_all refine item_str (by first | decide | exact fits_of (by lia) (by lia)) (by lia) (by lia) (fun _ => ?_) rfl (fun _ => rfl)))

local macro_rules | `(tactic| walk_at "call ref") => `(tactic| (k_here; refine stop_here ?_))

section
open PySem PySem.W PySem.Calls PySem.Spec PyProof.Rows
variable {w : World} {mean : ExcName → Option Value} {mg mb : Str → Option Value} {B : Heap} {A : Around} {l : List Env} {s : Shared}


/- the ledger at a scanner's method's start -/
theorem scan_news {sc dx : Addr} {x : Str} {i : Int} {k1 tx k2 ti : Tok} (S1 : s.heap.get? sc = some (instObj 209 dx)) (S2 : s.heap.get? dx = some (scanD w x i k1 tx k2 ti)) (hsc : B.get? sc = none) (fd : Free B l dx) :
    ∀ p ∈ (sc, instObj 209 dx) :: (dx, scanD w x i k1 tx k2 ti) :: others B s.heap [dx], s.heap.get? p.1 = some p.2 ∧ B.get? p.1 = none := by
  refine all_cons ?_ (all_cons ?_ ?_)
  · exact ⟨S1, hsc⟩
  · exact ⟨S2, fd.base⟩
  · exact fun p hp => others_here p hp

theorem at_end_spec (am : Amb w mean mg mb B A l s.heap) (rm : Room A 4 30) {sc dx : Addr} {x : Str} {j : Nat} (S : ScanAt w s.heap sc dx x j) (hsc : B.get? sc = none) (fd : Free B l dx)
    (hx : x.length ≤ 1048576) (hj : j ≤ x.length) : Gives w A 185 [.ref sc] s (fun v h' => v = .bool (decide (spanN isB x j = x.length)) ∧ Step [dx] s.heap h' ∧ ScanAt w h' sc dx x (spanN isB x j)) := by
  have T := am.top
  have X := am.inK
  obtain ⟨S1, k1, tx, k2, ti, S2⟩ := S
  have hne : sc ≠ dx := fun e => by rw [e, S2] at S1; cases S1
  refine call_ok (by k_is) (by k_is) am rm.ok (binds := [("self", .ref sc)]) (BindsTo.of_eq rfl) (locs rfl) ((sc, instObj 209 dx) :: (dx, scanD w x j k1 tx k2 ti) :: others B s.heap [dx]) (scan_news S1 S2 hsc fd) ?_
  intro L h₁ tk₁ R _ F N am' _ hR
  have hoth := others_ne (B := B) (h := s.heap) (ex := [dx]) (.head _)
  w_strict (k_steps)
  show wpAny _ _ _ _ _ _
  refine (blanks_spec am' (rm.deeper.less (by decide) (by decide)) (ScanAt.of_news N) hsc (fd.push (N _ (.tail _ (.head _))).2.1 rfl) hx hj).use ?_
  rintro v h' tk' ⟨rfl, st, S'⟩
  obtain ⟨F₂, k1, tx, k2, ti, rest, N₂, hoth₂, hsub, hall⟩ := after F N hoth st S'
  clear F N
  (try dsimp only)
  have hle := spanN_le isB hj
  w_strict (k_steps)
  refine hR _ _ _ ⟨?_, step_of (by assumption) (by assumption) am.stays fun p hp => .tail _ (.tail _ (hsub p hp)), ScanAt.of_news (by assumption)⟩
  congr 1
  rw [Bool.eq_iff_iff, beq_iff_eq, decide_eq_true_eq]
  (first | lia | omega)

theorem sign_spec (am : Amb w mean mg mb B A l s.heap) (rm : Room A 4 30) {sc dx : Addr} {x : Str} {j : Nat} (S : ScanAt w s.heap sc dx x j) (hsc : B.get? sc = none) (fd : Free B l dx)
    (hx : x.length ≤ 1048576) (hj : j < x.length) : Gives w A 192 [.ref sc] s (fun v h' => (∃ t, v = .str (if chr x j = 62 ∧ j + 1 < x.length ∧ chr x (j + 1) = 62 then Str.ofString ">>" else ⟨#[chr x j]⟩) t) ∧ Step [dx] s.heap h' ∧
      ScanAt w h' sc dx x ((if chr x j = 62 ∧ j + 1 < x.length ∧ chr x (j + 1) = 62 then j + 2 else j + 1 : Nat) : Int)) := by
  have T := am.top
  have X := am.inK
  obtain ⟨S1, k1, tx, k2, ti, S2⟩ := S
  have hne : sc ≠ dx := fun e => by rw [e, S2] at S1; cases S1
  refine call_ok (by k_is) (by k_is) am rm.ok (binds := [("self", .ref sc)]) (BindsTo.of_eq rfl) (locs rfl) ((sc, instObj 209 dx) :: (dx, scanD w x j k1 tx k2 ti) :: others B s.heap [dx]) (scan_news S1 S2 hsc fd) ?_
  intro L h₁ tk₁ R _ F N am' _ hR
  have hoth := others_ne (B := B) (h := s.heap) (ex := [dx]) (.head _)
  w_strict (k_steps)
  all_goals (try dsimp only)
  all_goals (have e1 : ((j : Int) + 1) = ((j + 1 : Nat) : Int) := rfl)
  all_goals (have g1 := item_beq hj (Str.ofString ">") 62 gt_is)
  · have g2 := item_beq (x := x) (j := j + 1) (by first | (simp +arith only; done) | lia | omega) (Str.ofString ">") 62 gt_is
    rw [← e1] at g2
    have hc : chr x j = 62 ∧ j + 1 < x.length ∧ chr x (j + 1) = 62 := ⟨of_decide_eq_true (g1.symm.trans (by assumption)), by (first | lia | omega), of_decide_eq_true (g2.symm.trans (by assumption))⟩
    refine hR _ _ _ ⟨⟨_, by rw [if_pos hc]⟩, step_of (by assumption) (by assumption) am.stays fun p hp => .tail _ (.tail _ hp), ?_⟩
    rw [if_pos hc]
    exact ScanAt.of_news (by assumption)
  · have g2 := item_beq (x := x) (j := j + 1) (by first | (simp +arith only; done) | lia | omega) (Str.ofString ">") 62 gt_is
    rw [← e1] at g2
    have hc : ¬ (chr x j = 62 ∧ j + 1 < x.length ∧ chr x (j + 1) = 62) := fun hc => of_decide_eq_false (g2.symm.trans (by assumption)) hc.2.2
    refine hR _ _ _ ⟨⟨_, by rw [if_neg hc, item_eq hj]⟩, step_of (by assumption) (by assumption) am.stays fun p hp => .tail _ (.tail _ hp), ?_⟩
    rw [if_neg hc]
    exact ScanAt.of_news (by assumption)
  · have hc : ¬ (chr x j = 62 ∧ j + 1 < x.length ∧ chr x (j + 1) = 62) := fun hc => by (first | lia | omega)
    refine hR _ _ _ ⟨⟨_, by rw [if_neg hc, item_eq hj]⟩, step_of (by assumption) (by assumption) am.stays fun p hp => .tail _ (.tail _ hp), ?_⟩
    rw [if_neg hc]
    exact ScanAt.of_news (by assumption)
  · have hc : ¬ (chr x j = 62 ∧ j + 1 < x.length ∧ chr x (j + 1) = 62) := fun hc => of_decide_eq_false (g1.symm.trans (by assumption)) hc.1
    refine hR _ _ _ ⟨⟨_, by rw [if_neg hc, item_eq hj]⟩, step_of (by assumption) (by assumption) am.stays fun p hp => .tail _ (.tail _ hp), ?_⟩
    rw [if_neg hc]
    exact ScanAt.of_news (by assumption)
end

local macro_rules | `(tactic| walk_at "exec While BoolOp cons nil") => `(tactic| (k_here; refine stop_here ?_))

local macro_rules | `(tactic| walk_at "exec While Call cons nil") => `(tactic| (k_here; refine stop_here ?_))

local macro_rules | `(tactic| walk_at "exec While Compare cons nil") => `(tactic| (k_here; refine stop_here ?_))

section
open PySem PySem.W PySem.Calls PySem.Spec PyProof.Rows
variable {w : World} {mean : ExcName → Option Value} {mg mb : Str → Option Value} {B : Heap} {A : Around} {l : List Env} {s : Shared}


theorem is_word_spec (am : Amb w mean mg mb B A l s.heap) (rm : Room A 6 40) {sc dx : Addr} {x : Str} {j : Nat} (S : ScanAt w s.heap sc dx x j) (hsc : B.get? sc = none) (fd : Free B l dx)
    (hx : x.length ≤ 1048576) (hj : j ≤ x.length) : Gives w A 199 [.ref sc] s (fun v h' => v = .bool (decide (spanN isB x j < x.length) && !isS (chr x (spanN isB x j))) ∧ Step [dx] s.heap h' ∧ ScanAt w h' sc dx x (spanN isB x j)) := by
  have T := am.top
  have X := am.inK
  obtain ⟨S1, k1, tx, k2, ti, S2⟩ := S
  have hne : sc ≠ dx := fun e => by rw [e, S2] at S1; cases S1
  refine call_ok (by k_is) (by k_is) am rm.ok (binds := [("self", .ref sc)]) (BindsTo.of_eq rfl) (locs rfl) ((sc, instObj 209 dx) :: (dx, scanD w x j k1 tx k2 ti) :: others B s.heap [dx]) (scan_news S1 S2 hsc fd) ?_
  intro L h₁ tk₁ R _ F N am' _ hR
  have hoth := others_ne (B := B) (h := s.heap) (ex := [dx]) (.head _)
  w_strict (k_steps)
  show wpAny _ _ _ _ _ _
  refine (at_end_spec am' (rm.deeper.less (by decide) (by decide)) (ScanAt.of_news N) hsc (fd.push (N _ (.tail _ (.head _))).2.1 rfl) hx hj).use ?_
  rintro v h' tk' ⟨rfl, st, S'⟩
  obtain ⟨F₂, k1, tx, k2, ti, rest, N₂, hoth₂, hsub, hall⟩ := after F N hoth st S'
  clear F N
  (try dsimp only)
  have hle := spanN_le isB hj
  w_strict (k_steps)
  · refine hR _ _ _ ⟨?_, step_of (by assumption) (by assumption) am.stays fun p hp => .tail _ (.tail _ (hsub p hp)), ScanAt.of_news (by assumption)⟩
    congr 1
    rw [decide_eq_true (p := spanN isB x j = x.length) (by assumption), decide_eq_false (p := spanN isB x j < x.length) (by first | (simp +arith only; done) | lia | omega)]
    rfl
  · have hlt : spanN isB x j < x.length := by (first | lia | omega)
    refine hR _ _ _ ⟨?_, step_of (by assumption) (by assumption) am.stays fun p hp => .tail _ (.tail _ (hsub p hp)), ScanAt.of_news (by assumption)⟩
    congr 1
    rw [in_signs hlt, decide_eq_true hlt, Bool.not_not, Bool.true_and]

inductive WordLoop (x : Str) (j : Nat) (s : Shared) (B : Heap) (L : Addr) (tb : Tok) (sc : Addr) (dx : Addr) (w : World) (rest : List (Addr × Obj)) (n : Nat) (s' : Shared) : Prop
  | mk : ∀ h' tk' j' k1 tx k2 ti, (n = x.length - j') → (j' ≤ x.length) → (spanN isB x j ≤ j') → (spanN isW x j' = spanN isW x (spanN isB x j)) → (s' = { s with heap := h', toks := tk' }) → (Fr B L h' (fun y => if y = Str.ofString "begin" then some (Value.int ((spanN isB x j : Nat) : Int) tb) else [(Str.ofString "self", Value.ref sc)].lookup y)) → (News B L h' ((sc, instObj 209 dx) :: (dx, scanD w x j' k1 tx k2 ti) :: rest)) → WordLoop x j s B L tb sc dx w rest n s'
theorem word_spec (am : Amb w mean mg mb B A l s.heap) (rm : Room A 4 30) {sc dx : Addr} {x : Str} {j : Nat} (S : ScanAt w s.heap sc dx x j) (hsc : B.get? sc = none) (fd : Free B l dx)
    (hx : x.length ≤ 1048576) (hj : j ≤ x.length) : Gives w A 206 [.ref sc] s (fun v h' => (∃ t, v = .str (Txt.slice x (some (spanN isB x j : Int)) (some (spanN isW x (spanN isB x j) : Int))) t) ∧ Step [dx] s.heap h' ∧
      ScanAt w h' sc dx x (spanN isW x (spanN isB x j))) := by
  have T := am.top
  have X := am.inK
  obtain ⟨S1, k1, tx, k2, ti, S2⟩ := S
  have hne : sc ≠ dx := fun e => by rw [e, S2] at S1; cases S1
  refine call_ok (by k_is) (by k_is) am rm.ok (binds := [("self", .ref sc)]) (BindsTo.of_eq rfl) (locs rfl) ((sc, instObj 209 dx) :: (dx, scanD w x j k1 tx k2 ti) :: others B s.heap [dx]) (scan_news S1 S2 hsc fd) ?_
  intro L h₁ tk₁ R _ F N am' _ hR
  have hoth := others_ne (B := B) (h := s.heap) (ex := [dx]) (.head _)
  w_strict (k_steps)
  show wpAny _ _ _ _ _ _
  refine (blanks_spec am' (rm.deeper.less (by decide) (by decide)) (ScanAt.of_news N) hsc (fd.push (N _ (.tail _ (.head _))).2.1 rfl) hx hj).use ?_
  rintro v h' tk' ⟨rfl, st, S'⟩
  obtain ⟨F₂, k1, tx, k2, ti, rest, N₂, hoth₂, hsub, hall⟩ := after F N hoth st S'
  clear F N
  (try dsimp only)
  have hle := spanN_le isB hj
  w_strict (k_steps)
  show wpAny _ _ _ _ _ _
  rename Fr _ _ _ _ => F₄
  rename News _ _ _ _ => N₄
  have F₅ : ∃ tb, Fr B L _ (fun y => if y = Str.ofString "begin" then some (Value.int ((spanN isB x j : Nat) : Int) tb) else [(Str.ofString "self", Value.ref sc)].lookup y) := ⟨_, F₄⟩
  clear F₄
  obtain ⟨tb, F₄⟩ := F₅
  refine while_ok (WordLoop x j s B L tb sc dx w rest) ?_ (x.length - spanN isB x j) ⟨_, _, spanN isB x j, _, _, _, _, rfl, hle, Nat.le_refl _, rfl, rfl, F₄, N₄⟩
  clear F₄ N₄
  rintro n s' ⟨h', tk', j', k1, tx, k2, ti, rfl, hj', hge, hsp, rfl, F, N⟩
  w_strict (k_steps)
  all_goals (try dsimp only)
  · have hb : isW (chr x j') = true := (in_both (x := x) (j := j') (by first | (simp +arith only; done) | lia | omega)).symm.trans (by assumption)
    exact ⟨x.length - (j' + 1), by (first | lia | omega), _, _, j' + 1, _, _, _, _, rfl, by (first | lia | omega), by (first | lia | omega), (spanN_step (by first | (simp +arith only; done) | lia | omega) hb).trans hsp, rfl, by assumption, by assumption⟩
  · have hb : isW (chr x j') = false := (in_both (x := x) (j := j') (by first | (simp +arith only; done) | lia | omega)).symm.trans (by assumption)
    have e : j' = spanN isW x (spanN isB x j) := by rw [← hsp, spanN_stop (.inr hb)]
    refine hR _ _ _ ⟨⟨_, by rw [← e]⟩, step_of (by assumption) (by assumption) am.stays fun p hp => .tail _ (.tail _ (hsub p hp)), ?_⟩
    rw [← e]
    exact ScanAt.of_news (by assumption)
  · have e : j' = spanN isW x (spanN isB x j) := by rw [← hsp, spanN_stop (.inl (by first | (simp +arith only; done) | lia | omega))]
    refine hR _ _ _ ⟨⟨_, by rw [← e]⟩, step_of (by assumption) (by assumption) am.stays fun p hp => .tail _ (.tail _ (hsub p hp)), ?_⟩
    rw [← e]
    exact ScanAt.of_news (by assumption)
end

section
open PySem PySem.W PySem.Calls PySem.Spec PyProof.Rows
variable {w : World} {mean : ExcName → Option Value} {mg mb : Str → Option Value} {B : Heap} {A : Around} {l : List Env} {s : Shared}


noncomputable abbrev ent (w : World) (n : String) (k : Tok) (v : Value) : DictEntry := ⟨PyData.keyHash w.params (Str.ofString n), .str (Str.ofString n) k, v⟩

/- a new object of the text's class C, its dict filled as od says -/
inductive Made (C : Addr) (h h' : Heap) (v : Value) (Od : Obj → Prop) : Prop
  | mk : ∀ x dx od, v = .ref x → Step [] h h' → h.get? x = none → h.get? dx = none → x ≠ dx → h'.get? x = some (instObj C dx) → h'.get? dx = some od → Od od → Made C h h' v Od

theorem not_base {h : Heap} {a : Addr} (st : B.StaysIn h) (e : h.get? a = none) : B.get? a = none := by
  cases q : B.get? a with
  | none => rfl
  | some o => rw [st a o q] at e; cases e

theorem Amb.make {C : Addr} {vals : List Value} {h h' : Heap} (am : Amb w mean mg mb B A l h) (st : ∀ a o, h.get? a = some o → h'.get? a = some o) (hsz : h.objs.size ≤ h'.objs.size) :
    Amb w mean mg mb B (A.under (.builtin "type.__call__" ⟨.ref C :: vals, []⟩)) l h' :=
  ⟨am.frames, fun b o e => st b o (am.stays b o e), am.funs.of_keeps fun b o e _ => ⟨o, st b o e, rfl⟩, Nat.le_trans am.size hsz, am.inK, am.top, am.hand⟩
theorem Room.make {C : Addr} {vals : List Value} {d u : Nat} (r : Room A (d + 1) (u + 1)) : Room (A.under (.builtin "type.__call__" ⟨.ref C :: vals, []⟩)) d u :=
  ⟨by have := r.depth; rw [depth_under_make]; (first | lia | omega), by have := r.units; rw [units_under_make]; (first | lia | omega)⟩

theorem push_some {h : Heap} {o : Obj} (hf : o.isFreed = false := by rfl) : (h.push o).get? h.objs.size = some o := Heap.get?_push_size _ hf
theorem none_at_end {h : Heap} {n : Nat} (hn : h.objs.size ≤ n) : h.get? n = none := by
  cases q : h.get? n with
  | none => rfl
  | some o => exact absurd (Heap.lt_size q) (Nat.not_lt.mpr hn)

/- a call of a class of the text with an __init__ of its own -/
theorem new_core {C fI : Addr} {args : List Value} {d u : Nat} {Od : Heap → Obj → Prop} (am : Amb w mean mg mb B A l s.heap)
    (hm : makesIn (hd.heap_39 w.params) C = true) (hi : findIn (hd.heap_39 w.params) (.ref C) "__init__" = some (some (.ref fI))) (hf : typeIn (hd.heap_39 w.params) (.ref fI) = some (.type "function"))
    (rm : Room A (d + 1) (u + 1))
    (init : ∀ (A' : Around) (s' : Shared) (x dx : Addr), Amb w mean mg mb B A' l s'.heap → Room A' d u → s'.heap.get? x = some (instObj C dx) → s'.heap.get? dx = some (dictOf [] 0) → B.get? x = none → Free B l dx → (∀ a o, s.heap.get? a = some o → s'.heap.get? a = some o ∧ a ≠ dx) →
      Gives w A' fI (.ref x :: args) s' (fun v h' => v = .none ∧ Step [dx] s'.heap h' ∧ ∃ od, h'.get? dx = some od ∧ Od h' od)) :
    Gives w A C args s (fun v h' => Made C s.heap h' v (Od h')) := by
  intro R k
  have X := am.inK.keeps am.stays
  obtain ⟨hh, g, dr, t, os⟩ := s
  have sz : ((hh.push emptyDict).push (instObj C hh.objs.size)).objs.size = hh.objs.size + 2 := by rw [Heap.size_push, Heap.size_push]
  have keep : ∀ a o, hh.get? a = some o → ((hh.push emptyDict).push (instObj C hh.objs.size)).get? a = some o := fun a o e => Heap.get?_push_of_some _ (Heap.get?_push_of_some _ e)
  have hx : ((hh.push emptyDict).push (instObj C hh.objs.size)).get? (hh.objs.size + 1) = some (instObj C hh.objs.size) := by
    have := push_some (h := hh.push emptyDict) (o := instObj C hh.objs.size)
    rwa [Heap.size_push] at this
  have hdx : ((hh.push emptyDict).push (instObj C hh.objs.size)).get? hh.objs.size = some (dictOf [] 0) := Heap.get?_push_of_some _ (push_some (h := hh) (o := emptyDict))
  have fdx : Free B l hh.objs.size := ⟨not_base am.stays (none_at_end (Nat.le_refl _)), fun hm => by
    obtain ⟨_, o, ho, _⟩ := am.funs.mem hm
    exact absurd (Heap.lt_size ho) (Nat.lt_irrefl _)⟩
  refine make_core (makes_of X hm) (looks_findIn X hi) (fun self => bind_fn X self hf) (.inl rfl) ?_
  refine init _ ⟨_, g, dr, t, os⟩ (hh.objs.size + 1) hh.objs.size (am.make keep (show hh.objs.size ≤ ((hh.push emptyDict).push (instObj C hh.objs.size)).objs.size from by rw [sz]; exact Nat.le_add_right _ _)) rm.make hx hdx (not_base am.stays (none_at_end (Nat.le_succ _))) fdx (fun a o e => ⟨keep a o e, Nat.ne_of_lt (Heap.lt_size e)⟩) _ ?_
  rintro v h' tk' ⟨rfl, st, od, ho, hOd⟩
  refine ⟨rfl, k _ _ _ ⟨_, hh.objs.size, od, rfl, fun a o e _ => st a o (keep a o e) (fun hm => ?_), none_at_end (Nat.le_succ _), none_at_end (Nat.le_refl _), Nat.succ_ne_self _, st _ _ hx (fun hm => ?_), ho, hOd⟩⟩
  · exact absurd (List.mem_singleton.mp hm) (Nat.ne_of_lt (Heap.lt_size e))
  · exact absurd (List.mem_singleton.mp hm) (Nat.succ_ne_self _)

theorem init_news {x dx C : Addr} {od : Obj} (S1 : s.heap.get? x = some (instObj C dx)) (S2 : s.heap.get? dx = some od) (hx : B.get? x = none) (fd : Free B l dx) :
    ∀ p ∈ (x, instObj C dx) :: (dx, od) :: others B s.heap [dx], s.heap.get? p.1 = some p.2 ∧ B.get? p.1 = none := by
  refine all_cons ?_ (all_cons ?_ ?_)
  · exact ⟨S1, hx⟩
  · exact ⟨S2, fd.base⟩
  · exact fun p hp => others_here p hp

theorem allLt_mem {d : Addr} {l : List (Addr × Obj)} (h : AllLt d l) : ∀ p ∈ l, p.1 < d := by
  induction l with
  | nil => intro p hp; cases hp
  | cons q r ih =>
    refine all_cons ?_ ?_
    · exact h.1
    · exact fun p hp => ih h.2 p hp

theorem fresh_of {D dx L : Addr} {o : Obj} {h h' h₂ : Heap} {rest : List (Addr × Obj)} (up : ∀ a o, h.get? a = some o → h'.get? a = some o ∧ a ≠ dx) (N : News B L h₂ ((D, o) :: rest)) (l1 : AllLt D (others B h' [dx])) : h.get? D = none := by
  cases q : h.get? D with
  | none => rfl
  | some o =>
    have u := up _ _ q
    exact absurd (allLt_mem l1 (D, o) (mem_others.mpr ⟨u.1, fun hm => u.2 (List.mem_singleton.mp hm), (N _ (.head _)).2.2⟩)) (Nat.lt_irrefl _)

theorem new_redirect (am : Amb w mean mg mb B A l s.heap) (rm : Room A 3 30) (c p md ds : Value) :
    Gives w A 104 [c, p, md, ds] s (fun v h' => Made 104 s.heap h' v fun od => ∃ k1 k2 k3 k4, od = dictOf [ent w "command" k1 c, ent w "path" k2 p, ent w "mode" k3 md, ent w "descriptor" k4 ds] 4) := by
  refine new_core (fI := 101) am (by k_is) (by k_is) (by k_is) (rm.less (d' := 3) (u' := 30) (by decide) (by decide)) fun A' s' x dx am rm S1 S2 hx fd _ => ?_
  have T := am.top
  have X := am.inK
  have hne : x ≠ dx := fun e => by rw [e, S2] at S1; cases S1
  refine call_ok (by k_is) (by k_is) am rm.ok (binds := [("self", .ref x), ("command", c), ("path", p), ("mode", md), ("descriptor", ds)]) (BindsTo.of_eq rfl) (locs rfl) ((x, instObj 104 dx) :: (dx, dictOf [] 0) :: others B s'.heap [dx]) (init_news S1 S2 hx fd) ?_
  intro L h₁ tk₁ R _ F N am' _ hR
  have hoth := others_ne (B := B) (h := s'.heap) (ex := [dx]) (.head _)
  w_strict (k_steps)
  all_goals (try dsimp only)
  refine hR _ _ _ ⟨rfl, step_of (by assumption) (by assumption) am.stays fun p hp => .tail _ (.tail _ hp), _, News.get (by assumption) (.tail _ (.head _)), _, _, _, _, rfl⟩

theorem new_pair (am : Amb w mean mg mb B A l s.heap) (rm : Room A 3 30) (c p md : Value) :
    Gives w A 125 [c, p, md] s (fun v h' => Made 125 s.heap h' v fun od => ∃ k1 k2 k3, od = dictOf [ent w "sign" k1 c, ent w "left" k2 p, ent w "right" k3 md] 3) := by
  refine new_core (fI := 122) am (by k_is) (by k_is) (by k_is) (rm.less (d' := 3) (u' := 30) (by decide) (by decide)) fun A' s' x dx am rm S1 S2 hx fd _ => ?_
  have T := am.top
  have X := am.inK
  have hne : x ≠ dx := fun e => by rw [e, S2] at S1; cases S1
  refine call_ok (by k_is) (by k_is) am rm.ok (binds := [("self", .ref x), ("sign", c), ("left", p), ("right", md)]) (BindsTo.of_eq rfl) (locs rfl) ((x, instObj 125 dx) :: (dx, dictOf [] 0) :: others B s'.heap [dx]) (init_news S1 S2 hx fd) ?_
  intro L h₁ tk₁ R _ F N am' _ hR
  have hoth := others_ne (B := B) (h := s'.heap) (ex := [dx]) (.head _)
  w_strict (k_steps)
  all_goals (try dsimp only)
  refine hR _ _ _ ⟨rfl, step_of (by assumption) (by assumption) am.stays fun p hp => .tail _ (.tail _ hp), _, News.get (by assumption) (.tail _ (.head _)), _, _, _, rfl⟩

theorem new_back (am : Amb w mean mg mb B A l s.heap) (rm : Room A 3 30) (c : Value) :
    Gives w A 146 [c] s (fun v h' => Made 146 s.heap h' v fun od => ∃ k1, od = dictOf [ent w "command" k1 c] 1) := by
  refine new_core (fI := 143) am (by k_is) (by k_is) (by k_is) (rm.less (d' := 3) (u' := 30) (by decide) (by decide)) fun A' s' x dx am rm S1 S2 hx fd _ => ?_
  have T := am.top
  have X := am.inK
  have hne : x ≠ dx := fun e => by rw [e, S2] at S1; cases S1
  refine call_ok (by k_is) (by k_is) am rm.ok (binds := [("self", .ref x), ("command", c)]) (BindsTo.of_eq rfl) (locs rfl) ((x, instObj 146 dx) :: (dx, dictOf [] 0) :: others B s'.heap [dx]) (init_news S1 S2 hx fd) ?_
  intro L h₁ tk₁ R _ F N am' _ hR
  have hoth := others_ne (B := B) (h := s'.heap) (ex := [dx]) (.head _)
  w_strict (k_steps)
  all_goals (try dsimp only)
  refine hR _ _ _ ⟨rfl, step_of (by assumption) (by assumption) am.stays fun p hp => .tail _ (.tail _ hp), _, News.get (by assumption) (.tail _ (.head _)), _, rfl⟩

theorem new_scanner (am : Amb w mean mg mb B A l s.heap) (rm : Room A 3 30) (x : Str) (tx : Tok) :
    Gives w A 209 [.str x tx] s (fun v h' => Made 209 s.heap h' v fun od => ∃ k1 k2 ti, od = scanD w x 0 k1 tx k2 ti) := by
  refine new_core (fI := 164) am (by k_is) (by k_is) (by k_is) (rm.less (d' := 3) (u' := 30) (by decide) (by decide)) fun A' s' y dx am rm S1 S2 hx fd _ => ?_
  have T := am.top
  have X := am.inK
  have hne : y ≠ dx := fun e => by rw [e, S2] at S1; cases S1
  refine call_ok (by k_is) (by k_is) am rm.ok (binds := [("self", .ref y), ("line", .str x tx)]) (BindsTo.of_eq rfl) (locs rfl) ((y, instObj 209 dx) :: (dx, dictOf [] 0) :: others B s'.heap [dx]) (init_news S1 S2 hx fd) ?_
  intro L h₁ tk₁ R _ F N am' _ hR
  have hoth := others_ne (B := B) (h := s'.heap) (ex := [dx]) (.head _)
  w_strict (k_steps)
  all_goals (try dsimp only)
  refine hR _ _ _ ⟨rfl, step_of (by assumption) (by assumption) am.stays fun p hp => .tail _ (.tail _ hp), _, News.get (by assumption) (.tail _ (.head _)), _, _, _, rfl⟩

theorem new_run (am : Amb w mean mg mb B A l s.heap) (rm : Room A 3 30) {al : Addr} {n : Nat} (ha : s.heap.get? al = some (listOf #[] n)) (hal : B.get? al = none) :
    Gives w A 83 [.ref al] s (fun v h' => Made 83 s.heap h' v fun od => ∃ k1 a2 n2, od = dictOf [ent w "arguments" k1 (.ref a2)] 1 ∧ s.heap.get? a2 = none ∧ h'.get? a2 = some (listOf #[] n2)) := by
  refine new_core (fI := 80) (Od := fun h' od => ∃ k1 a2 n2, od = dictOf [ent w "arguments" k1 (.ref a2)] 1 ∧ s.heap.get? a2 = none ∧ h'.get? a2 = some (listOf #[] n2)) am (by k_is) (by k_is) (by k_is) (rm.less (d' := 3) (u' := 30) (by decide) (by decide)) fun A' s' x dx am rm S1 S2 hx fd up => ?_
  have T := am.top
  have X := am.inK
  have hne : x ≠ dx := fun e => by rw [e, S2] at S1; cases S1
  have hla := (up _ _ ha).1
  have hne2 : al ≠ dx := (up _ _ ha).2
  refine call_ok (by k_is) (by k_is) am rm.ok (binds := [("self", .ref x), ("arguments", .ref al)]) (BindsTo.of_eq rfl) (locs rfl) ((x, instObj 83 dx) :: (dx, dictOf [] 0) :: (al, listOf #[] n) :: others B s'.heap [dx]) ?_ ?_
  · refine all_cons ?_ (all_cons ?_ (all_cons ?_ ?_))
    · exact ⟨S1, hx⟩
    · exact ⟨S2, fd.base⟩
    · exact ⟨hla, hal⟩
    · exact fun p hp => others_here p hp
  intro L h₁ tk₁ R _ F N am' up₂ hR
  have hoth := others_ne (B := B) (h := s'.heap) (ex := [dx]) (.head _)
  w_strict (k_steps)
  all_goals (try dsimp only)
  rename (_ ∧ _ ∧ _ ∧ AllLt _ _) => l1
  rename News _ _ _ _ => N₂
  have fresh := fresh_of up N₂ l1.2.2.2
  clear l1
  refine hR _ _ _ ⟨rfl, step_of (by assumption) (by assumption) am.stays fun p hp => .tail _ (.tail _ (.tail _ (.tail _ hp))), _, News.get (by assumption) (.tail _ (.tail _ (.head _))), _, _, _, rfl, fresh, News.get (by assumption) (.head _)⟩
end

section
open PySem PySem.W PySem.Calls PySem.Spec PyProof.Rows
variable {w : World} {mean : ExcName → Option Value} {mg mb : Str → Option Value} {B : Heap} {A : Around} {l : List Env} {s : Shared}


section
variable {prog : Program} {R : Result → Shared → Prop} {E : Value → Shared → Prop} {h : Heap} {g : Array GenState} {d : Drawn} {t : Nat} {os : OsState}
variable {nm q : Str} {C N : Addr} {bs bm : List Value} {hdct : Bool} {sn : List Str} {sub : List Value} {ab : Bool} {col : Option Bool} {dd : Option Addr} {k0 k1 k2 k3 k5 : Option Value}

/- what the line of bases of a class of the text is to hold so that it is a ValueError -/
structure ErrLine (bm : List Value) : Prop where
  val : bm.contains (.type "ValueError") = true
  attr : bm.contains (.type "AttributeError") = false
  name : bm.contains (.type "NameError") = false

theorem err_check (T : ErrLine bm) {M : Model} {rest : List Value} {Q : Unit → Shared → Prop} (hC : h.get? C = some (excClassObj nm q C N bs bm hdct sn sub ab col dd k0 k1 k2 k3 k5 "ValueError.__new__"))
    (hq : Q () ⟨h, g, d, t, os⟩) : wpAny M A (checkBuiltinCall "ValueError.__new__" ⟨.ref C :: rest, []⟩) Q E ⟨h, g, d, t, os⟩ := by
  have F := PySem.F.excBase_ValueError
  have hcont : (Value.ref C :: bm).contains (.type "ValueError") = true := by rw [List.contains_cons, T.val, Bool.or_true]
  simp only [checkBuiltinCall, F.newKind, F.newSplit, F.newRow]
  repeat (first | refine wpAny_loadPart_at hC ?_ | (refine wpAny_isSubtype_exc hC ?_; rw [hcont]) | refine wpAny_staticBase_exc hC ?_ | refine wpAny_madeBy_exc hC ?_ | simp only [bne_self_eq_false, Bool.false_eq_true, if_false] | wp_step)
  exact hq

theorem err_new (T : ErrLine bm) {rest : List Value} (hC : h.get? C = some (excClassObj nm q C N bs bm hdct sn sub ab col dd k0 k1 k2 k3 k5 "ValueError.__new__")) (hrest : rest.length ≤ sizeLine)
    (hq : R (.ok (.ret (.ref (h.objs.size + 1)))) ⟨(h.push { cls := .type "tuple", data := .seq rest.toArray }).push
      { cls := .ref C, data := .fields #[.ref h.objs.size, .none, .none, .none, .bool false, .none] }, g, d, t, os⟩) :
    codeAny (model prog w) A (.builtin "ValueError.__new__" ⟨.ref C :: rest, []⟩) R ⟨h, g, d, t, os⟩ := by
  have F := PySem.F.excBase_ValueError
  have hends := F.ends
  have c1 : (Value.ref C :: bm).contains (.type "ValueError") = true := by rw [List.contains_cons, T.val, Bool.or_true]
  have c2 : (Value.ref C :: bm).contains (.type "AttributeError") = false := by rw [List.contains_cons, T.attr]; rfl
  have c3 : (Value.ref C :: bm).contains (.type "NameError") = false := by rw [List.contains_cons, T.name]; rfl
  refine codeAny_builtinAt F.entry ?_
  unfold Builtin.«BaseException.__new__»
  refine PySem.wpAt_bind ?_
  show PySem.wpAt _ _ _ (stack >>= _) _ _ _
  refine PySem.wpAt_bind (PySem.wpAt_stack fun p below => PySem.wpAt_of_wpAny ?_)
  wp_walk
  refine PySem.wpAt_of_wpAny ?_
  rw [F.owner]
  repeat (first | with_reducible refine wpAny_madeHere_exc F.canon hC ?_ | with_reducible refine wpAny_loadPart_at hC ?_ | (with_reducible refine wpAny_isSubtype_exc hC ?_; first | rw [c1] | rw [c2] | rw [c3]) | wp_step)
  show R _ _
  rw [Heap.size_push]
  exact hq

/- a call of a class of the text that is a ValueError and has an __init__ of its own -/
theorem err_call (T : ErrLine bm) {K : Frag} (X : K.In h) {rest : List Value} {fI : Addr} {Q : Value → Shared → Prop} (hC : h.get? C = some (excClassObj nm q C N bs bm hdct sn sub ab col dd k0 k1 k2 k3 k5 "ValueError.__new__")) (hrest : rest.length ≤ sizeLine)
    (hi : findIn K (.ref C) "__init__" = some (some (.ref fI))) (hf : typeIn K (.ref fI) = some (.type "function"))
    (hq : codeAny (model prog w) (A.under (.builtin "type.__call__" ⟨.ref C :: rest, []⟩)) (.call (.ref fI) ⟨.ref (h.objs.size + 1) :: rest, []⟩) (fun r s' => match r with | .ok (.ret v) => v = .none ∧ Q (.ref (h.objs.size + 1)) s' | .ok _ => False | .error e => E e s')
      ⟨(h.push { cls := .type "tuple", data := .seq rest.toArray }).push { cls := .ref C, data := .fields #[.ref h.objs.size, .none, .none, .none, .bool false, .none] }, g, d, t, os⟩) :
    wpAny (model prog w) A (call (.ref C) rest) Q E ⟨h, g, d, t, os⟩ := by
  have F := PySem.F.excBase_ValueError
  have f1 := tc_lookup
  have f2 := tc_bind (.ref C)
  have hT : (⟨h, g, d, t, os⟩ : Shared).TypeIs (.ref C) "type" := ⟨_, hC, rfl⟩
  refine wpAny_call (codeAny_of_tree ?_)
  show wpAny _ _ (callAny (.ref C) _) _ _ _
  repeat (any_goals (first | assumption | with_reducible refine wpAny_loadPart_at hC ?_ | wp_step))
  refine ⟨rfl, ?_⟩
  refine codeAny_call_builtin_at (Code.quiet_builtin _ (by decide +kernel)) entry_typeCall (wpAny_check_type_call_sub hC ?_)
  repeat (first | with_reducible refine wpAny_loadPart_at hC ?_ | with_reducible refine wpAny_madeBy_exc hC ?_ | wp_step)
  refine codeAny_call_builtin_code (Code.quiet_builtin _ F.quiet) (err_check T hC ?_)
  refine err_new T hC hrest ?_
  show wpAny _ _ _ _ _ _
  have up : ∀ b o, h.get? b = some o → ((h.push { cls := .type "tuple", data := .seq rest.toArray }).push { cls := .ref C, data := .fields #[.ref h.objs.size, .none, .none, .none, .bool false, .none] }).get? b = some o :=
    fun b o e => Heap.get?_push_of_some _ (Heap.get?_push_of_some _ e)
  have hC₁ := up _ _ hC
  have X₁ := X.keeps up
  have hget : ((h.push { cls := .type "tuple", data := .seq rest.toArray }).push
      { cls := .ref C, data := .fields #[.ref h.objs.size, .none, .none, .none, .bool false, .none] }).get? (h.objs.size + 1) = some
      { cls := .ref C, data := .fields #[.ref h.objs.size, .none, .none, .none, .bool false, .none] } := by heap_get
  have hcC : (Value.ref C :: bm).contains (.ref C) = true := by simp
  unfold isInstance
  repeat (first | with_reducible refine wpAny_loadPart_at hget ?_ | (with_reducible refine wpAny_isSubtype_exc hC₁ ?_; rw [hcC]) | wp_step)
  dsimp only
  refine wpAny_isSubtype_exc hC₁ ?_
  rw [hcC]
  repeat (first | with_reducible refine wpAny_loadPart_at hget ?_ | wp_step)
  show wpAny _ _ (typeLookup (.ref C) _) _ _ _
  refine (looks_findIn X₁ hi).here ?_
  refine wpAny_holding (wpAny_bind ((bind_fn X₁ _ hf).here ?_))
  refine wpAny_bind (wpAny_call (codeAny_mono hq fun r s' hr => ?_))
  rcases r with e | (v | _ | _ | _) <;> first | exact hr | exact hr.elim | skip
  obtain ⟨rfl, hr⟩ := hr
  wp_walk
  exact hr
end
end

section
open PySem PySem.W PySem.Calls PySem.Spec PyProof.Rows
variable {w : World} {mean : ExcName → Option Value} {mg mb : Str → Option Value} {B : Heap} {A : Around} {l : List Env} {s : Shared}


noncomputable abbrev excO (C t : Addr) (dd : Option Addr) : Obj := { cls := .ref C, dict := dd, data := .fields #[.ref t, .none, .none, .none, .bool false, .none] }

section
open Builtin Builtin.ObjectAttr
variable {prog : Program} {K : Frag} {E : Value → Shared → Prop}

theorem store_raw {d : Addr} {name : Str} {tk : Tok} {v : Value} {es es' : List DictEntry} {n n' : Nat} {Q : Fin → Shared → Prop} (D : s.heap.get? d = some (dictOf es n)) (hl : (getL name es).isSome = true)
    (e : (putL name (PyData.keyHash w.params name) (.str name s.toks) v es, putN name es n) = (es', n')) (hz : es'.length ≤ 1000)
    (h : ∀ h', Heap.SameBut d s.heap h' → h'.get? d = some (dictOf es' n') → Q (.done (.ret .none)) { s with heap := h', toks := s.toks + 1 }) : wpAny (model prog w) A (storeInDict d (.str name tk) name v) Q E s := by
  obtain ⟨e1, e2⟩ := Prod.mk.inj e
  have pn : Obj.putName name (PyData.keyHash w.params name) (.str name s.toks) v (dictOf es n) = dictOf es' n' := by rw [putName_dict, e1, e2]
  have D' : (s.heap.update d (Obj.putName name (PyData.keyHash w.params name) (.str name s.toks) v)).get? d = some (dictOf es' n') := by
    rw [← pn]
    exact Heap.get?_update_self _ D (by rw [pn]; rfl)
  have fin := h _ (Heap.SameBut.update ..) D'
  unfold storeInDict newKeyGuard
  refine wpAny_bind (wpAny_pure (wpAny_bind ?_))
  unfold nsSet
  refine wpAny_bind (wpAny_bind (wpAny_askSetting (wpAny_pure (wpAny_bind (wpAny_mkText (wpAny_bind (wpAny_loadPart D ?_)))))))
  have c : (!es.toArray.any (·.key.isStr name) && es.toArray.any (·.refKey)) = false := by
    rw [← Array.any_toList, ← Array.any_toList]
    unfold getL at hl
    split at hl
    · rename_i en he
      rw [List.any_eq_true.mpr ⟨en, List.mem_of_find?_eq_some he, List.find?_some he⟩]; rfl
    · split at hl
      · cases hl
      · rename_i z; rw [Bool.not_eq_true] at z; rw [z, Bool.and_false]
  dsimp only
  rw [aRefKeyMayBeTheName_at, c]
  refine wpAny_updatePart D ?_
  refine wpAny_bind (wpAny_lookBehind D' (pastItsLine_dict (by rw [List.size_toArray, sizeLine_eq]; (first | lia | omega))) ?_)
  exact wpAny_pure fin

theorem osa_exc {x C : Addr} {ox : Obj} {od : Option Obj} {name : Str} {tk : Tok} {v : Value} {cd : ClassData} {R : Result → Shared → Prop} (X : K.In s.heap) (I : InstAt s.heap x ox C od)
    (hc : clsIn K C = some cd) (hmr : mroIn K C (.type "object") = some true) (hpass : refuseLoop (.ref x) "__setattr__" cd.mro = pure ()) (ha : findIn K (.ref C) name = some none)
    (h : wpAny (model prog w) A.in1 (storeInOwnDict (.ref x) (.ref C) (.str name tk) name v false) (fun fin s' => match fin with | .done f => R (.ok f) s' | .again _ => False) (fun e s' => R (.error e) s') s) :
    codeAny (model prog w) A (.call (.builtin "object.__setattr__") ⟨[.ref x, .str name tk, v], []⟩) R s := by
  have SF := PySem.F.store_object
  have sub : Looks (model prog w) s.heap (isInstance (.ref x) (.type "object")) true := I.type.andThen (looks_mroIn X hmr)
  refine codeAny_call_builtin SF.slot.plain SF.entry (@check_slot (model prog w) _ _ s "object.__setattr__" "object" "__setattr__" (.ref x) [.str name tk, v] [] _ SF.kind SF.split sub (SF.args (.ref x) (.str name tk) v) ?_)
  have hm : Looks (model prog w) s.heap (mroOf (.ref C)) cd.mro := (looks_clsIn X hc).andThen .now
  have L3 : Looks (model prog w) s.heap (storeTaker? none) none := .now
  rw [osa_eq, refuse_eq]
  refine wpAny_bind (wpAny_bind (I.type.here (wpAny_bind (hm.here ?_))))
  rw [hpass]
  refine wpAny_pure (wpAny_bind (I.type.here (wpAny_bind ((looks_findIn X ha).here (wpAny_bind (L3.here ?_))))))
  refine wpAny_mono h (fun fin s' q => ?_) fun _ _ q => q
  rcases fin with f | c
  · exact q
  · exact q.elim

/- a store into an object whose line of bases ends in built-in types that let it pass -/
theorem set_open {x C : Addr} {ox : Obj} {od : Option Obj} {name : Str} {v : Value} {cd : ClassData} {Q : Unit → Shared → Prop} (X : K.In s.heap) (I : InstAt s.heap x ox C od)
    (hs : findIn K (.ref C) "__setattr__" = some (some (.builtin "object.__setattr__"))) (hc : clsIn K C = some cd) (hmr : mroIn K C (.type "object") = some true) (hpass : refuseLoop (.ref x) "__setattr__" cd.mro = pure ())
    (ha : findIn K (.ref C) name = some none)
    (h : wpAny (model prog w) A.in1 (storeInOwnDict (.ref x) (.ref C) (.str name s.toks) name v false) (fun fin s' => match fin with | .done (.ret _) => Q () s' | _ => False) E { s with toks := s.toks + 1 }) :
    wpAny (model prog w) A (setAttr (.ref x) name v) Q E s := by
  refine set_plain X I hs (osa_exc (s := { s with toks := s.toks + 1 }) X I hc hmr hpass ha (wpAny_mono h (fun fin s' q => ?_) fun _ _ q => q))
  rcases fin with (v | _ | _ | _) | c
  · exact q.elim
  · exact q.elim
  · exact q.elim
  · exact q
  · exact q.elim

/- the first store into an exception: its dict is made -/
theorem set_first {x C t : Addr} {name : Str} {v : Value} {cd : ClassData} {Q : Unit → Shared → Prop} (X : K.In s.heap) (hx : s.heap.get? x = some (excO C t none))
    (hs : findIn K (.ref C) "__setattr__" = some (some (.builtin "object.__setattr__"))) (hc : clsIn K C = some cd) (hh : cd.hasDict = true) (hmr : mroIn K C (.type "object") = some true) (hpass : refuseLoop (.ref x) "__setattr__" cd.mro = pure ())
    (ha : findIn K (.ref C) name = some none)
    (h : ∀ h' k, (∀ a o, s.heap.get? a = some o → a ≠ x → h'.get? a = some o) → h'.get? x = some (excO C t (some s.heap.objs.size)) → h'.get? s.heap.objs.size = some (dictOf [⟨PyData.keyHash w.params name, .str name k, v⟩] 1) → Q () { s with heap := h', toks := s.toks + 2 }) :
    wpAny (model prog w) A (setAttr (.ref x) name v) Q E s := by
  refine set_open X (ox := excO C t none) (od := none) ⟨hx, rfl, rfl, trivial⟩ hs hc hmr hpass ha ?_
  have cc := looks_clsIn (M := model prog w) X hc
  refine wpAny_bind (wpAny_pure (wpAny_bind (wpAny_bind (wpAny_loadPart (s := { s with toks := s.toks + 1 }) hx (wpAny_bind ((looks_clsIn (M := model prog w) (h := s.heap) X hc).here (s := { s with toks := s.toks + 1 }) ?_))))))
  rw [hh]
  show wpAny _ _ (alloc { cls := .type "dict", data := .dict #[] } >>= fun d => update x (fun o => { o with dict := some d }) >>= fun _ => dictMade (.ref C) x d) _ _ _
  refine wpAny_bind (wpAny_alloc (wpAny_bind (wpAny_update (o := excO C t none) (Heap.get?_push_of_some _ hx) ?_)))
  refine wpAny_pure ?_
  have hxd : x ≠ s.heap.objs.size := Nat.ne_of_lt (Heap.lt_size hx)
  have sb : Heap.SameBut x (s.heap.push { cls := .type "dict", data := .dict #[] }) ((s.heap.push { cls := .type "dict", data := .dict #[] }).update x fun o => { o with dict := some s.heap.objs.size }) := Heap.SameBut.update ..
  have gx := Heap.get?_update_self (fun o : Obj => { o with dict := some s.heap.objs.size }) (Heap.get?_push_of_some { cls := .type "dict", data := .dict #[] } hx) rfl
  refine store_raw (s := { s with heap := (s.heap.push { cls := .type "dict", data := .dict #[] }).update x fun o => { o with dict := some s.heap.objs.size }, toks := s.toks + 1 }) (es := []) (n := 0)
    ((sb.2 _ (Ne.symm hxd)).trans (Heap.get?_push_size _ rfl)) rfl rfl (by show 1 ≤ 1000; decide) fun h' sb' D' => ?_
  refine h h' (s.toks + 1) (fun a o e hn => (sb'.2 _ (Nat.ne_of_lt (Heap.lt_size e))).trans ((sb.2 _ hn).trans (Heap.get?_push_of_some _ e))) ((sb'.2 _ hxd).trans gx) D'

/- a later store of a new name -/
theorem set_next {x C t dd : Addr} {name : Str} {v : Value} {cd : ClassData} {es : List DictEntry} {n : Nat} {Q : Unit → Shared → Prop} (X : K.In s.heap) (hx : s.heap.get? x = some (excO C t (some dd))) (hd : s.heap.get? dd = some (dictOf es n))
    (hs : findIn K (.ref C) "__setattr__" = some (some (.builtin "object.__setattr__"))) (hc : clsIn K C = some cd) (hh : cd.hasDict = true) (hmr : mroIn K C (.type "object") = some true) (hpass : refuseLoop (.ref x) "__setattr__" cd.mro = pure ())
    (ha : findIn K (.ref C) name = some none) (hl : (getL name es).isSome = true) (hz : (putL name (PyData.keyHash w.params name) (.str name (s.toks + 1)) v es).length ≤ 1000)
    (h : ∀ h' es' n', (∀ a o, s.heap.get? a = some o → a ≠ dd → h'.get? a = some o) → h'.get? dd = some (dictOf es' n') → Q () { s with heap := h', toks := s.toks + 2 }) :
    wpAny (model prog w) A (setAttr (.ref x) name v) Q E s := by
  refine set_open X (ox := excO C t (some dd)) (od := some (dictOf es n)) ⟨hx, rfl, rfl, hd⟩ hs hc hmr hpass ha ?_
  unfold storeInOwnDict
  refine wpAny_bind (wpAny_pure (wpAny_bind (wpAny_bind (wpAny_loadPart (s := { s with toks := s.toks + 1 }) hx (wpAny_bind ((looks_clsIn (M := model prog w) (h := s.heap) X hc).here (s := { s with toks := s.toks + 1 }) ?_))))))
  rw [hh]
  refine wpAny_pure (a := some dd) ?_
  exact store_raw (s := { s with toks := s.toks + 1 }) hd hl rfl hz fun h' sb' D' => h h' _ _ (fun a o e hn => (sb'.2 _ hn).trans e) D'
end
end

section
open PySem PySem.W PySem.Calls PySem.Spec PyProof.Rows
variable {w : World} {mean : ExcName → Option Value} {mg mb : Str → Option Value} {B : Heap} {A : Around} {l : List Env} {s : Shared}


section
variable {prog : Program} {E : Value → Shared → Prop} {h : Heap} {g : Array GenState} {d : Drawn} {t : Nat} {os : OsState}
variable {nm q : Str} {C N : Addr} {bs bm : List Value} {hdct : Bool} {sn : List Str} {sub : List Value} {ab : Bool} {col : Option Bool} {dd : Option Addr} {k0 k1 k2 k3 k5 : Option Value}

theorem err_check_init (T : ErrLine bm) {M : Model} {e : Addr} {oe : Obj} {rest : List Value} {Q : Unit → Shared → Prop}
    (hC : h.get? C = some (excClassObj nm q C N bs bm hdct sn sub ab col dd k0 k1 k2 k3 k5 "ValueError.__new__")) (he : h.get? e = some oe) (hcls : oe.cls = .ref C) (hq : Q () ⟨h, g, d, t, os⟩) :
    wpAny M A (checkBuiltinCall "ValueError.__init__" ⟨.ref e :: rest, []⟩) Q E ⟨h, g, d, t, os⟩ := by
  have F := PySem.F.excBase_ValueError
  have hcB : (Value.ref C :: bm).contains (.type "ValueError") = true := by rw [List.contains_cons, T.val, Bool.or_true]
  have hshort := F.noStar
  simp only [checkBuiltinCall, F.initKind, F.initSplit, F.initRow]
  repeat (first | (with_reducible refine wpAny_loadPart_at he ?_; rw [hcls]) | with_reducible refine wpAny_loadPart_at hC ?_ | (with_reducible refine wpAny_isSubtype_exc hC ?_; rw [hcB]) | wp_step)
  refine wpAny_onRaise ?_
  rw [show ∀ (a b : String) (n : Nat), Bind.check ⟨.positional, "*", "ValueError", .self, [⟨"args", .varPos, false⟩]⟩ a b n (List.map (fun x => x.fst) ({ pos := Value.ref e :: rest } : Args).kw) = pure () from
    fun a b n => check_star_args _ _ _ _ _ _]
  exact wpAny_pure hq

theorem err_init (T : ErrLine bm) {e t₀ : Addr} {rest : List Value} {Q : Value → Shared → Prop}
    (hC : h.get? C = some (excClassObj nm q C N bs bm hdct sn sub ab col dd k0 k1 k2 k3 k5 "ValueError.__new__")) (he : h.get? e = some (excO C t₀ none)) (hrest : rest.length ≤ sizeLine)
    (hq : ∀ h', (∀ a o, h.get? a = some o → a ≠ e → h'.get? a = some o) → h'.get? e = some (excO C h.objs.size none) → Q .none ⟨h', g, d, t, os⟩) :
    wpAny (model prog w) A (call (.builtin "ValueError.__init__") (.ref e :: rest)) Q E ⟨h, g, d, t, os⟩ := by
  have F := PySem.F.excBase_ValueError
  refine wpAny_call (codeAny_call_builtin F.init.plain F.initEntry (err_check_init T hC he rfl ?_))
  wp_walk
  refine hq _ (fun a o q hn => (Heap.get?_update_ne _ _ _ _ hn).trans (Heap.get?_push_of_some _ q)) ?_
  rw [Heap.get?_update_self _ (Heap.get?_push_of_some _ he) rfl]
  rfl
end

inductive After1 (B : Heap) (L : Addr) (h' : Heap) (m : Str → Option Value) (e : Addr) (o' : Obj) (rest : List (Addr × Obj))  : Prop
  | mk : (Fr B L h' m) → ∀ rest', (News B L h' ((e, o') :: rest')) → ((∀ p ∈ rest', p.1 ≠ e)) → ((∀ p ∈ rest, p ∈ rest')) → ((∀ a o, h'.get? a = some o → a ≠ L → a ≠ e → B.get? a = none → (a, o) ∈ rest')) → After1 B L h' m e o' rest
/- behind a step that turned one object alone -/
theorem after1 {h h' : Heap} {L e : Addr} {m : Str → Option Value} {o o' : Obj} {rest : List (Addr × Obj)} (F : Fr B L h m) (N : News B L h ((e, o) :: rest))
    (hd : ∀ p ∈ rest, p.1 ≠ e) (st : Step [e] h h') (S : h'.get? e = some o') :
    After1 B L h' m e o' rest := by
  have n1 := N _ (.head _)
  obtain ⟨F', rest', N', a1, a2, a3⟩ := snap (X := [e]) (ex := [(e, o)]) (rest := rest) F N st (fun hm => n1.2.1 (List.mem_singleton.mp hm).symm) (fun a hm => by rw [List.mem_singleton.mp hm]; exact n1.2.2)
    [(e, o')] (fun p hp => by rw [List.mem_singleton.mp hp]; exact ⟨S, n1.2⟩)
  exact ⟨F', rest', N', a3 e (.head _), fun p hp => a1 p hp (fun hm => hd p hp (List.mem_singleton.mp hm)) (fun hm => hd p hp (List.mem_singleton.mp hm)), fun a o e' h1 h2 h3 => a2 a o e' h1 (fun hm => h2 (List.mem_singleton.mp hm)) h3⟩

theorem bad_line : ErrLine [.ref 32, .type "ValueError", .type "Exception", .type "BaseException", .type "object"] := ⟨by decide +kernel, by decide +kernel, by decide +kernel⟩
theorem bad_pass (x : Addr) : refuseLoop (.ref x) "__setattr__" [.ref 64, .ref 32, .type "ValueError", .type "Exception", .type "BaseException", .type "object"] = pure () := by
  rw [refuseLoop_ref, refuseLoop_ref]
  kernel_rfl

noncomputable abbrev badCls : Obj := excClassObj (Str.ofString "BadText") (Str.ofString "BadText") 64 63 [.ref 32] [.ref 32, .type "ValueError", .type "Exception", .type "BaseException", .type "object"] true [] [] false none none
  (some (.ref 48)) none (some (.str (Str.ofString "BadText") 233)) (some (.str (Str.ofString "BadText") 241)) (some (.bool true)) "ValueError.__new__"
theorem bad_cls {h : Heap} (X : (hd.heap_39 w.params).In h) : h.get? 64 = some badCls := X _ _ (by k_is)

/- a store into one of the text's refusals -/
theorem bad_set_first {x t : Addr} {E : Value → Shared → Prop} {name : Str} {v : Value} {Q : Unit → Shared → Prop} (X : (hd.heap_39 w.params).In s.heap) (hx : s.heap.get? x = some (excO 64 t none))
    (ha : findIn (hd.heap_39 w.params) (.ref 64) name = some none)
    (h : ∀ h' k, (∀ a o, s.heap.get? a = some o → a ≠ x → h'.get? a = some o) → h'.get? x = some (excO 64 t (some s.heap.objs.size)) → h'.get? s.heap.objs.size = some (dictOf [⟨PyData.keyHash w.params name, .str name k, v⟩] 1) → Q () { s with heap := h', toks := s.toks + 2 }) :
    wpAny (model PySem.Challenge.rw_nu0084_01.row.prog w) A (setAttr (.ref x) name v) Q E s := by
  refine set_first (K := hd.heap_39 w.params) X hx (by k_is) (by k_is) (by rfl) (by k_is) (bad_pass x) ha h
theorem bad_set_next {x t dd : Addr} {E : Value → Shared → Prop} {name : Str} {v : Value} {es : List DictEntry} {n : Nat} {Q : Unit → Shared → Prop} (X : (hd.heap_39 w.params).In s.heap) (hx : s.heap.get? x = some (excO 64 t (some dd))) (hd' : s.heap.get? dd = some (dictOf es n))
    (ha : findIn (hd.heap_39 w.params) (.ref 64) name = some none) (hl : (getL name es).isSome = true) (hz : (putL name (PyData.keyHash w.params name) (.str name (s.toks + 1)) v es).length ≤ 1000)
    (h : ∀ h' es' n', (∀ a o, s.heap.get? a = some o → a ≠ dd → h'.get? a = some o) → h'.get? dd = some (dictOf es' n') → Q () { s with heap := h', toks := s.toks + 2 }) :
    wpAny (model PySem.Challenge.rw_nu0084_01.row.prog w) A (setAttr (.ref x) name v) Q E s := by
  refine set_next (K := hd.heap_39 w.params) X hx hd' (by k_is) (by k_is) (by rfl) (by k_is) (bad_pass x) ha hl hz h

theorem getm_ve {pl : Sem Bool} {E : Value → Shared → Prop} {Q : Value × List Value → Shared → Prop} {L : Addr} {m : Str → Option Value} (X : (hd.heap_39 w.params).In B) (F : Fr B L s.heap m) (h : Q (.builtin "ValueError.__init__", []) { s with toks := s.toks + 1 }) :
    wpAny (model PySem.Challenge.rw_nu0084_01.row.prog w) A (getMethod (.type "ValueError") (Str.ofString "__init__") pl) Q E s := by
  have q1 : typeOf (.type "ValueError") = pure (.type "type") := by kernel_rfl
  have q2 : Manifest.isStub "ValueError" = false := by decide +kernel
  have q3 : findCls (hd.heap_39 w.params) (.type "ValueError") (.type "type") (Str.ofString "__init__") = some (.val (.builtin "ValueError.__init__")) := by k_is
  have q4 : handedIn (.builtin "ValueError.__init__") = true := by decide +kernel
  refine' method_type (T := "ValueError") (v := .builtin "ValueError.__init__") (name := Str.ofString "__init__") (K := hd.heap_39 w.params) ?a ?b ?c ?d ?e ?f ?g
  case c => exact q1
  case d => exact q2
  case e => exact q3
  case f => exact q4
  case g => exact h
  case a => exact F
  case b => exact X

theorem board_init (am : Amb w mean mg mb B A l s.heap) (rm : Room A 6 60) {e t : Addr} {r : Str} {u : Tok} (he : s.heap.get? e = some (excO 64 t none)) (heB : Free B l e) :
    Gives w A 29 [.ref e, .str r u] s (fun v h' => v = .none ∧ Step [e] s.heap h' ∧ ∃ t' dd, h'.get? e = some (excO 64 t' (some dd)) ∧ ∃ k, h'.get? dd = some (dictOf [ent w "reason" k (.str r u)] 1) ∧ s.heap.get? dd = none) := by
  have T := am.top
  have X := am.inK
  refine call_ok (by k_is) (by k_is) am rm.ok (binds := [("self", .ref e), ("reason", .str r u)]) ?_ (locs rfl) ((e, excO 64 t none) :: others B s.heap [e]) ?_ ?_
  · exact binds_K (am.inK.keeps am.stays) rfl (by k_is) rfl rfl rfl
  · refine all_cons ?_ ?_
    · exact ⟨he, heB.base⟩
    · exact fun p hp => others_here p hp
  intro L h₁ tk₁ R _ F N am' up hR
  have hoth := others_ne (B := B) (h := s.heap) (ex := [e]) (.head _)
  w_strict (k_steps)
  refine getm_ve X F ?_
  w_strict (k_steps)
  have hC := bad_cls (X.keeps F.keep)
  refine err_init bad_line hC (N _ (.head _)).1 (by show 1 ≤ sizeLine; rw [sizeLine_eq]; (first | lia | omega)) fun h₂ st₂ he₂ => ?_
  obtain ⟨F₂, rest, N₂, hoth₂, hsub, hall⟩ := after1 F N hoth (fun a o e hn => st₂ a o e fun q => hn (List.mem_singleton.mpr q)) he₂
  clear F N
  w_strict (k_steps)
  refine bad_set_first (X.keeps F₂.keep) (N₂ _ (.head _)).1 (by k_is) fun h₃ k st₃ he₃ hd₃ => ?_
  obtain ⟨F₃, rest₃, N₃, hoth₃, hsub₃, hall₃⟩ := after1 F₂ N₂ hoth₂ (fun a o e hn => st₃ a o e fun q => hn (List.mem_singleton.mpr q)) he₃
  have fresh : s.heap.get? h₂.objs.size = none := by
    cases q : s.heap.get? h₂.objs.size with
    | none => rfl
    | some o =>
      have q' := st₂ _ o (up _ _ q) (Nat.ne_of_gt (Heap.lt_size he₂))
      exact absurd (Heap.lt_size q') (Nat.lt_irrefl _)
  clear F₂ N₂
  w_strict (k_steps)
  refine hR _ _ _ ⟨rfl, step_of (by assumption) (by assumption) am.stays fun p hp => .tail _ (hsub₃ _ (hsub _ hp)), _, _, (N₃ _ (.head _)).1, _, hd₃, fresh⟩

theorem bad_init (am : Amb w mean mg mb B A l s.heap) (rm : Room A 10 80) {e t : Addr} {r : Str} {u u1 : Tok} (he : s.heap.get? e = some (excO 64 t none)) (heB : Free B l e) (hr : r.length ≤ 1100000) :
    Gives w A 61 [.ref e, .int 1 u1, .str r u] s (fun v h' => v = .none ∧ Step [e] s.heap h' ∧ ∃ t' dd, h'.get? e = some (excO 64 t' (some dd))) := by
  have T := am.top
  have X := am.inK
  refine call_ok (by k_is) (by k_is) am rm.ok (binds := [("self", .ref e), ("line", .int 1 u1), ("reason", .str r u)]) (BindsTo.of_eq rfl) (locs rfl) ((e, excO 64 t none) :: others B s.heap [e]) ?_ ?_
  · refine all_cons ?_ ?_
    · exact ⟨he, heB.base⟩
    · exact fun p hp => others_here p hp
  intro L h₁ tk₁ R _ F N am' up hR
  have hoth := others_ne (B := B) (h := s.heap) (ex := [e]) (.head _)
  w_strict (k_steps)
  show wpAny _ _ _ _ _ _
  refine (board_init am' (rm.deeper.less (by decide) (by decide)) (N _ (.head _)).1 (heB.push (N _ (.head _)).2.1 rfl)).use ?_
  rintro v h₂ tk₂ ⟨rfl, st₂, t', dd, he₂, k, hdd, hfr⟩
  obtain ⟨F₂, rest, N₂, hoth₂, hsub, hall⟩ := after1 F N hoth st₂ he₂
  clear F N
  (try dsimp only)
  w_strict (k_steps)
  refine bad_set_next (X.keeps F₂.keep) he₂ hdd (by k_is) (by rfl) (by show 2 ≤ 1000; decide) fun h₃ es' n' st₃ hd₃ => ?_
  have hne : e ≠ dd := fun q => by rw [q, hdd] at he₂; cases he₂
  w_strict (k_steps)
  refine hR _ _ _ ⟨rfl, fun a o q hn => st₃ _ _ (st₂ _ _ (up _ _ q) hn) (fun z => ?_), t', dd, st₃ _ _ he₂ hne⟩
  rw [z] at q
  rw [up _ _ q] at hfr
  cases hfr

/- an exception of the text's class BadText that no frame has seen yet -/
noncomputable def BadNew (h h' : Heap) (v : Value) : Prop := ∃ e t dd, v = .ref e ∧ Step [] h h' ∧ h.get? e = none ∧ h'.get? e = some (excO 64 t (some dd))

theorem new_bad (am : Amb w mean mg mb B A l s.heap) (rm : Room A 11 90) {r : Str} {u u1 : Tok} (hr : r.length ≤ 1100000) : wpAny (model PySem.Challenge.rw_nu0084_01.row.prog w) A (call (.ref 64) [.int 1 u1, .str r u]) (fun v s' => BadNew s.heap s'.heap v ∧ s' = { s with heap := s'.heap, toks := s'.toks }) (fun _ _ => False) s := by
  have X := am.inK.keeps am.stays
  obtain ⟨hh, g, dr, t, os⟩ := s
  refine err_call bad_line X (bad_cls X) (by show 2 ≤ sizeLine; rw [sizeLine_eq]; (first | lia | omega)) (by k_is) (by k_is) ?_
  have sz : ((hh.push { cls := .type "tuple", data := .seq [Value.int 1 u1, Value.str r u].toArray }).push { cls := .ref 64, data := .fields #[.ref hh.objs.size, .none, .none, .none, .bool false, .none] }).objs.size = hh.objs.size + 2 := by rw [Heap.size_push, Heap.size_push]
  have up : ∀ a o, hh.get? a = some o → ((hh.push { cls := .type "tuple", data := .seq [Value.int 1 u1, Value.str r u].toArray }).push { cls := .ref 64, data := .fields #[.ref hh.objs.size, .none, .none, .none, .bool false, .none] }).get? a = some o := fun a o e => Heap.get?_push_of_some _ (Heap.get?_push_of_some _ e)
  have he : ((hh.push { cls := .type "tuple", data := .seq [Value.int 1 u1, Value.str r u].toArray }).push { cls := .ref 64, data := .fields #[.ref hh.objs.size, .none, .none, .none, .bool false, .none] }).get? (hh.objs.size + 1) = some (excO 64 hh.objs.size none) := by
    have := push_some (h := hh.push { cls := .type "tuple", data := .seq [Value.int 1 u1, Value.str r u].toArray }) (o := excO 64 hh.objs.size none)
    rwa [Heap.size_push] at this
  have fe : Free B l (hh.objs.size + 1) := ⟨not_base am.stays (none_at_end (Nat.le_succ _)), fun hm => by
    obtain ⟨_, o, ho, _⟩ := am.funs.mem hm
    exact absurd (Heap.lt_size ho) (by show ¬ hh.objs.size + 1 < hh.objs.size; (first | lia | omega))⟩
  refine bad_init (s := ⟨(hh.push { cls := .type "tuple", data := .seq [Value.int 1 u1, Value.str r u].toArray }).push { cls := .ref 64, data := .fields #[.ref hh.objs.size, .none, .none, .none, .bool false, .none] }, g, dr, t, os⟩)
    (am.make up (by show hh.objs.size ≤ _; rw [sz]; (first | lia | omega))) (rm.make.less (by decide) (by decide)) he fe hr _ ?_
  rintro v h' tk' ⟨rfl, st, t', dd, he'⟩
  exact ⟨rfl, ⟨_, t', dd, rfl, fun a o q hn => st a o (up a o q) (fun hm => absurd (List.mem_singleton.mp hm) (Nat.ne_of_lt (Nat.lt_succ_of_lt (Heap.lt_size q)))), none_at_end (Nat.le_succ _), he'⟩, rfl⟩

theorem fault_spec (am : Amb w mean mg mb B A l s.heap) (rm : Room A 12 100) {r : Str} {u : Tok} (hr : r.length ≤ 1100000) : Gives w A 220 [.str r u] s (fun v h' => BadNew s.heap h' v) := by
  have T := am.top
  have X := am.inK
  refine call_ok (by k_is) (by k_is) am rm.ok (binds := [("reason", .str r u)]) (BindsTo.of_eq rfl) (locs rfl) (others B s.heap []) others_here ?_
  intro L h₁ tk₁ R _ F N am' up hR
  w_strict (k_steps)
  show wpAny _ _ _ _ _ _
  refine wpAny_mono (new_bad (s := ⟨h₁, s.gens, s.drawn, _, s.os⟩) am' (rm.deeper.less (by decide) (by decide)) hr) ?_ fun _ _ z => z
  rintro v s' ⟨⟨e, t, dd, rfl, st, hn, he⟩, hs⟩
  rw [hs]
  w_strict (k_steps)
  refine hR _ _ _ ⟨e, t, dd, rfl, fun a o q hn => st a o (up a o q) hn, ?_, he⟩
  cases q : s.heap.get? e with
  | none => rfl
  | some o => rw [up _ _ q] at hn; cases hn
end

section
open PySem PySem.W PySem.Calls PySem.Spec PyProof.Rows
variable {w : World} {mean : ExcName → Option Value} {mg mb : Str → Option Value} {B : Heap} {A : Around} {l : List Env} {s : Shared}


/- all that is no record stands in h' as it stood in h, up to its slots -/
noncomputable def UpTo (W : List Addr) (h h' : Heap) : Prop := ∀ b o, h.get? b = some o → b ∉ W → (∀ vs, o.data ≠ .fields vs) → ∃ sl, h'.get? b = some { o with slots := sl }
theorem Step.upTo {W : List Addr} {h h' : Heap} (x : Step W h h') : UpTo W h h' := fun b o e n _ => ⟨o.slots, x b o e n⟩
theorem UpTo.trans {W : List Addr} {h₁ h₂ h₃ : Heap} (x : UpTo W h₁ h₂) (y : UpTo W h₂ h₃) : UpTo W h₁ h₃ := fun b o e n hn =>
  let ⟨_, e₁⟩ := x b o e n hn; let ⟨sl, e₂⟩ := y b _ e₁ n hn; ⟨sl, e₂⟩
theorem UpTo.slots {W : List Addr} {h₁ h₂ h₃ : Heap} (x : UpTo W h₁ h₂) (y : h₂.UpToSlots h₃) : UpTo W h₁ h₃ := fun b o e n hn =>
  let ⟨_, e₁⟩ := x b o e n hn; let ⟨sl, e₂⟩ := y b _ e₁ hn; ⟨sl, e₂⟩
/- what a call that raises BadText leaves -/
noncomputable def BadOut (B : Heap) (l : List Env) (W : List Addr) (h : Heap) (e : Addr) (h' : Heap) : Prop := (∃ a0, Heap.FlyingW B l e (.ref 64) a0 h') ∧ UpTo W h h'

/- a BadText under way in the frame env -/
noncomputable def BadIn (B : Heap) (l : List Env) (W : List Addr) (h : Heap) (env : Env) (e : Addr) (h' : Heap) : Prop :=
  ((∃ a0, Heap.FlyingW B (env :: l) e (.ref 64) a0 h') ∨ (∃ a0 L, env.frame = some L ∧ Heap.HeldW B (env :: l) e (.ref 64) a0 L h') ∨
    (B.StaysIn h' ∧ B.get? e = none ∧ h'.FunFrames B (env :: l) ∧ ∃ t dd, h'.get? e = some (excO 64 t dd))) ∧ UpTo W h h'

noncomputable def BadE (C : Prop) (B : Heap) (l : List Env) (W : List Addr) (s : Shared) (env : Env) : Value → Shared → Prop :=
  fun v s' => C ∧ ∃ e tk, v = .ref e ∧ s' = { s with heap := s'.heap, toks := tk } ∧ BadIn B l W s.heap env e s'.heap

section
variable {M : Model} {E : Value → Shared → Prop} {env : Env} {L e : Addr} {W : List Addr} {h₀ : Heap} {Q : Unit → Shared → Prop}

theorem bad_leaves (hfr : A.frames = some (env :: l)) (hf : env.frame = some L) (x : BadIn B l W h₀ env e s.heap) (hQ : ∀ h', BadOut B l W h₀ e h' → Q () { s with heap := h' }) : wpAny M A (leaving env (.ref e)) Q E s := by
  obtain ⟨x, u⟩ := x
  rcases x with ⟨a0, x⟩ | ⟨a0, L', hf', x⟩ | ⟨x1, x2, x3, t, dd, x4⟩
  · exact wpAny_leaves_onW hfr hf x fun h' y1 y2 => hQ h' ⟨⟨a0, y1⟩, u.slots y2⟩
  · unfold leaving
    refine wpAny_bind (wpAny_noteFrame_againW hf' x.2.2.2 ?_)
    refine wpAny_landsW x fun h' hfl hu => ?_
    obtain ⟨k1, k2, ⟨_, _, k3⟩, k4⟩ := hfl
    exact hQ h' ⟨⟨a0, k1, k2, k3, k4⟩, u.slots hu⟩
  · refine wpAny_leaving_firstW (a0 := .ref t) hfr x3 hf x4 x1 x2 rfl rfl rfl fun h' hL => ?_
    obtain ⟨k1, ⟨_, _, k2⟩, k3, k4⟩ := hL
    exact hQ h' ⟨⟨_, k1, x2, k2, k3⟩, u.slots k4⟩

theorem bad_notes (hfr : A.frames = some (env :: l)) (hf : env.frame = some L) (x : BadIn B l W h₀ env e s.heap) (hQ : ∀ h', (∃ a0, Heap.HeldW B (env :: l) e (.ref 64) a0 L h') → UpTo W h₀ h' → Q () { s with heap := h' }) : wpAny M A (noteFrame (.ref e) env) Q E s := by
  obtain ⟨x, u⟩ := x
  rcases x with ⟨a0, x⟩ | ⟨a0, L', hf', x⟩ | ⟨x1, x2, x3, t, dd, x4⟩
  · exact wpAny_looks_onW hfr hf x fun h' y1 y2 => hQ h' ⟨a0, y1⟩ (u.slots y2)
  · rw [hf] at hf'
    cases hf'
    exact wpAny_noteFrame_againW hf x.2.2.2 (hQ _ ⟨a0, x⟩ u)
  · unfold noteFrame
    simp only [hf]
    refine wpAny_bind (wpAny_field (i := 1) (x := .none) x4 (vs := #[.ref t, .none, .none, .none, .bool false, .none]) rfl rfl ?_)
    rw [if_neg (show ¬ ((Value.none != Value.none) = true) by decide)]
    refine wpAny_entryW (a0 := .ref t) hfr x3 hf x4 x1 x2 rfl (by show 1 < 6; decide) rfl fun h' hN => ?_
    obtain ⟨k1, k2, k3, k4⟩ := hN
    exact hQ h' ⟨_, k1, x2, k2, k3⟩ (u.slots k4)

theorem held_again {a0 : Value} (hh : Heap.HeldW B (env :: l) e (.ref 64) a0 L s.heap) (hQ : ∀ h', Heap.HeldW B (env :: l) e (.ref 64) a0 L h' → s.heap.UpToSlots h' → Q () { s with heap := h' }) : wpAny M A (setFlight (.ref e) (some L)) Q E s := by
  obtain ⟨hkb, hen, hl, oe, vs, T, oT, ts, he, hcls, hd, h1, hnT, hTe, hT, hdT, h3⟩ := hh
  have hsz3 : 3 < ts.size := (Array.getElem?_eq_some_iff.mp h3).1
  have other : ∀ b, b ≠ T → (s.heap.update T (Obj.mapFields (·.setIfInBounds 3 ((some L).elim Value.none fun f => rawInt f)))).get? b = s.heap.get? b :=
    fun b hb => Heap.get?_update_other _ _ (Ne.symm hb)
  have noRecord : ∀ b o, s.heap.get? b = some o → (∀ vs, o.data ≠ .fields vs) → b ≠ T := fun b o hb hnf q => by
    rw [q, hT] at hb; injection hb with hb; subst hb; exact hnf ts hdT
  unfold setFlight
  refine wpAny_bind (wpAny_field he hd h1 ?_)
  rw [if_pos (show (Value.ref T != Value.none) = true from by simp)]
  refine wpAny_setField hT hdT hsz3 (hQ _ ⟨fun b o hbo => (other b fun q => by rw [q, hnT] at hbo; cases hbo).trans (hkb b o hbo), hen,
    hl.of_keeps fun b o hb hnf => ⟨o, (other b (noRecord b o hb hnf)).trans hb, rfl⟩, ?_⟩ fun b o hb hnf => ⟨o.slots, (other b (noRecord b o hb hnf)).trans hb⟩)
  exact ⟨oe, vs, T, _, _, (other e (Ne.symm hTe)).trans he, hcls, hd, h1, hnT, hTe, Heap.get?_update_self _ hT (Obj.isFreed_of_fields (Obj.data_mapFields hdT _)), Obj.data_mapFields hdT _, by simp [hsz3]⟩

theorem bad_passes {C : Prop} (hfr : A.frames = some (env :: l)) (hf : env.frame = some L) : PassesOwn M A env (BadE C B l W s env) := by
  rintro v s' ⟨hC, e, tk, rfl, hs, x⟩
  show wpAny M A (noteFrame (.ref e) env) _ _ s'
  refine bad_notes hfr hf x fun h' hh u => ?_
  obtain ⟨a0, hh⟩ := hh
  obtain ⟨y1, y2, y3, oe, vs, T, oT, ts, he, hcls, hd, h1, r⟩ := hh
  show wpAny M A (field (.ref e) 1 >>= _) _ _ _
  refine wpAny_bind (wpAny_field (s := { s' with heap := h' }) he hd h1 ?_)
  rw [if_neg (by simp)]
  rw [hf]
  refine held_again (s := { s' with heap := h' }) ⟨y1, y2, y3, oe, vs, T, oT, ts, he, hcls, hd, h1, r⟩ fun h'' hh' u' => ?_
  exact ⟨hC, e, tk, rfl, by rw [hs], .inr (.inl ⟨a0, L, hf, hh'⟩), u.slots u'⟩
end

section
variable {env : Env} {L e : Addr} {W : List Addr} {h₀ : Heap}
/- entering a def that may raise BadText -/
theorem call_or {name qual : Str} {params : Arguments} {body : List Stmt} {scope : Scope} {dV kV doc pm cdv ct oc : Value} {an od : Option Addr} {osl : Array (Option Value)} {f : Addr} {args : List Value} {binds : List (Str × Value)} {P : Value → Heap → Prop} (C : Prop) (W : List Addr)
    (ho : (hd.heap_39 w.params).lookup f = some ⟨oc, od, .func (fnOf name qual params body scope dV kV doc pm an cdv ct), osl⟩) (hcd : codeIn (hd.heap_39 w.params) cdv qual = true)
    (m : Amb w mean mg mb B A l s.heap) (hroom : A.depth < recursionLimit)
    (hbind : BindsTo s (fnOf name qual params body scope dV kV doc pm an cdv ct) ⟨args, []⟩ binds) (hloc : ∀ y ∈ binds, scope.names.lookup y.1 = some .local)
    (news : List (Addr × Obj)) (hnews : ∀ p ∈ news, s.heap.get? p.1 = some p.2 ∧ B.get? p.1 = none)
    (h : ∀ L h₁ tk₁ (R E' : Value → Shared → Prop), L = s.heap.objs.size → Fr B L h₁ (fun y => binds.reverse.lookup y) → News B L h₁ news → Amb w mean mg mb B (A.deeper (envOf qual scope L f cdv)) (envOf qual scope L f cdv :: l) h₁ →
      (∀ a o, s.heap.get? a = some o → h₁.get? a = some o) → (∀ v h' tk', P v h' → R v { s with heap := h', toks := tk' }) →
      (∀ v s', BadE C B l W s (envOf qual scope L f cdv) v s' → E' v s') → PassesOwn (model PySem.Challenge.rw_nu0084_01.row.prog w) (A.deeper (envOf qual scope L f cdv)) (envOf qual scope L f cdv) E' →
      wpAny (model PySem.Challenge.rw_nu0084_01.row.prog w) (A.deeper (envOf qual scope L f cdv)) (execs body (envOf qual scope L f cdv))
        (retQ R) E' { s with heap := h₁, toks := tk₁ })
    (hco : scope.isCoroutine = false := by rfl) (hgen : scope.isGenerator = false := by rfl) (hk : scope.kind = .function := by rfl)
    (hcell : ∀ x ∈ scope.names, x.2 ≠ .cell := by decide) : GivesOr w A f args s P (fun e h' => C ∧ BadOut B l W s.heap e h') := fun R k kb =>
  call_raw ho hcd m hroom hbind hloc news hnews (fun L h₁ e F N am st => wpAny_mono (h L h₁ _ (fun v s' => R (.ok (.ret v)) s') (BadE C B l W s (envOf qual scope L f cdv)) e F N am st k (fun _ _ q => q) (bad_passes am.frames rfl)) (fun fl _ q => by cases fl <;> exact q) fun v s' q => by
    obtain ⟨hC, e, tk, rfl, hs, x⟩ := q
    refine bad_leaves am.frames rfl x fun h' y => ?_
    rw [hs]
    exact kb e h' tk ⟨hC, y⟩) hco hgen hk hcell

/- raise of a refusal just made -/
theorem raise_bad {E : Value → Shared → Prop} {x : Sem Value} {Q : Flow → Shared → Prop} (hh : A.handled = none)
    (h : wpAny (model PySem.Challenge.rw_nu0084_01.row.prog w) A x (fun v s₁ => ∃ e t dd, v = .ref e ∧ (hd.heap_39 w.params).In s₁.heap ∧ s₁.heap.get? e = some (excO 64 t dd) ∧ E (.ref e) s₁) E s) :
    wpAny (model PySem.Challenge.rw_nu0084_01.row.prog w) A (raiseStmt env (some x) none) Q E s := by
  have hcB : (Value.ref 64 :: [.ref 32, .type "ValueError", .type "Exception", .type "BaseException", .type "object"]).contains (.type "BaseException") = true := by decide +kernel
  unfold raiseStmt
  refine wpAny_bind (wpAny_mono h (fun v s₁ h₁ => ?_) fun _ _ x => x)
  obtain ⟨e, t, dd, rfl, X, he, hE⟩ := h₁
  have hC := bad_cls X
  obtain ⟨hp, g, d, tk, os⟩ := s₁
  repeat (first | with_reducible refine wpAny_loadPart_at he ?_ | with_reducible refine wpAny_loadPart_at hC ?_ | (with_reducible refine wpAny_isSubtype_exc hC ?_; rw [hcB]) | wp_step)
  exact wpAny_raiseNew_none hh hE
end
end

section
open PySem PySem.W PySem.Calls PySem.Spec PyProof.Rows
variable {w : World} {mean : ExcName → Option Value} {mg mb : Str → Option Value} {B : Heap} {A : Around} {l : List Env} {s : Shared}


/- what stands at heap h and is neither B's, nor a frame's, nor the scanner's dict -/
noncomputable def Own (B : Heap) (l : List Env) (dx : Addr) (h : Heap) (a : Addr) (o : Obj) : Prop := h.get? a = some o ∧ Free B l a ∧ a ≠ dx
/- the same, in the ledger's tail -/
noncomputable def InR (B : Heap) (l : List Env) (rest : List (Addr × Obj)) (a : Addr) (o : Obj) : Prop := (a, o) ∈ rest ∧ Free B l a

inductive StrsI : List Value → List Tk → Prop
  | nil : StrsI [] []
  | cons {a : Tk} {t : Tok} {vs : List Value} {r : List Tk} : StrsI vs r → StrsI (.str (S a) t :: vs) (a :: r)
theorem StrsI.snoc {vs : List Value} {r : List Tk} (h : StrsI vs r) (a : Tk) (t : Tok) : StrsI (vs ++ [.str (S a) t]) (r ++ [a]) := by
  induction h with
  | nil => exact .cons .nil
  | cons _ ih => exact .cons ih
theorem StrsI.length {vs : List Value} {r : List Tk} (h : StrsI vs r) : vs.length = r.length := by
  induction h with
  | nil => rfl
  | cons _ ih => simp [ih]
noncomputable def modeOf (k : Nat) : Int := if k = 0 then 0 else if k = 1 then 1537 else 2561
noncomputable def descOf (k : Nat) : Int := if k = 0 then 0 else 1

inductive RedObj (w : World) (P : Addr → Obj → Prop) (x : Addr) (v : Value) (k : Nat) (p : Tk) : Prop
  | mk : ∀ (dx : Addr) (k1 k2 k3 k4 tp tm td : Tok), P x (instObj 104 dx) → P dx (dictOf [ent w "command" k1 v, ent w "path" k2 (.str (S p) tp), ent w "mode" k3 (.int (modeOf k) tm), ent w "descriptor" k4 (.int (descOf k) td)] 4) → RedObj w P x v k p

inductive TreeIn (w : World) (P : Addr → Obj → Prop) : Value → Tree → Prop
  | run {x dx al : Addr} {k : Tok} {n : Nat} {vs : Array Value} {a : List Tk} : P x (instObj 83 dx) → P dx (dictOf [ent w "arguments" k (.ref al)] 1) → P al (listOf vs n) → StrsI vs.toList a → TreeIn w P (.ref x) (.run a)
  | redir {x : Addr} {v : Value} {k : Nat} {t : Tree} {p : Tk} : RedObj w P x v k p → TreeIn w P v t → TreeIn w P (.ref x) (.redir k t p)
  | pair {x dx : Addr} {k1 k2 k3 ts : Tok} {v1 v2 : Value} {s : Nat} {t1 t2 : Tree} : P x (instObj 125 dx) → P dx (dictOf [ent w "sign" k1 (.str (S [s]) ts), ent w "left" k2 v1, ent w "right" k3 v2] 3) → TreeIn w P v1 t1 → TreeIn w P v2 t2 → TreeIn w P (.ref x) (.pair s t1 t2)
  | back {x dx : Addr} {k1 : Tok} {v : Value} {t : Tree} : P x (instObj 146 dx) → P dx (dictOf [ent w "command" k1 v] 1) → TreeIn w P v t → TreeIn w P (.ref x) (.back t)

inductive RedIn (w : World) (P : Addr → Obj → Prop) (v0 : Value) : Value → Rd → Prop
  | nil : RedIn w P v0 v0 []
  | snoc {x : Addr} {v : Value} {rd : Rd} {k : Nat} {p : Tk} : RedIn w P v0 v rd → RedObj w P x v k p → RedIn w P v0 (.ref x) (rd ++ [(k, p)])

theorem RedObj.mono {P P' : Addr → Obj → Prop} (hp : ∀ a o, P a o → P' a o) {x : Addr} {v : Value} {k : Nat} {p : Tk} (h : RedObj w P x v k p) : RedObj w P' x v k p :=
  let ⟨dx, k1, k2, k3, k4, tp, tm, td, a, b⟩ := h; ⟨dx, k1, k2, k3, k4, tp, tm, td, hp _ _ a, hp _ _ b⟩
theorem TreeIn.mono {P P' : Addr → Obj → Prop} (hp : ∀ a o, P a o → P' a o) {v : Value} {t : Tree} (h : TreeIn w P v t) : TreeIn w P' v t := by
  induction h with
  | run a b c d => exact .run (hp _ _ a) (hp _ _ b) (hp _ _ c) d
  | redir a _ ih => exact .redir (a.mono hp) ih
  | pair a b _ _ i1 i2 => exact .pair (hp _ _ a) (hp _ _ b) i1 i2
  | back a b _ ih => exact .back (hp _ _ a) (hp _ _ b) ih
theorem RedIn.mono {P P' : Addr → Obj → Prop} (hp : ∀ a o, P a o → P' a o) {v0 v : Value} {rd : Rd} (h : RedIn w P v0 v rd) : RedIn w P' v0 v rd := by
  induction h with
  | nil => exact .nil
  | snoc _ b ih => exact .snoc ih (b.mono hp)
theorem RedIn.tree {P : Addr → Obj → Prop} {v0 v : Value} {rd : Rd} {t : Tree} (h : RedIn w P v0 v rd) (ht : TreeIn w P v0 t) : TreeIn w P v (appR t rd) := by
  induction h with
  | nil => exact ht
  | snoc _ b ih => rw [appR_snoc]; exact .redir b ih
theorem RedIn.trans {P : Addr → Obj → Prop} {v0 v1 v2 : Value} {a b : Rd} (x : RedIn w P v0 v1 a) (y : RedIn w P v1 v2 b) : RedIn w P v0 v2 (a ++ b) := by
  induction y with
  | nil => rw [List.append_nil]; exact x
  | snoc _ c ih => rw [← List.append_assoc]; exact .snoc ih c

theorem Free.drop {a : Addr} {env : Env} (x : Free B (env :: l) a) : Free B l a := ⟨x.base, fun hm => x.frame (by
  rw [List.filterMap_cons]
  cases env.frame with
  | none => exact hm
  | some L => exact .tail _ hm)⟩
theorem Free.ne {a L : Addr} {env : Env} (x : Free B (env :: l) a) (e : env.frame = some L) : a ≠ L := fun q => x.frame (by rw [List.filterMap_cons, e, q]; exact .head _)

/- back from a call -/
theorem own_out {h : Heap} {L dx : Addr} {rest : List (Addr × Obj)} {env : Env} (hall : ∀ a o, h.get? a = some o → a ≠ L → a ≠ dx → B.get? a = none → (a, o) ∈ rest) (he : env.frame = some L) : ∀ a o, Own B (env :: l) dx h a o → InR B l rest a o :=
  fun a o q => ⟨hall a o q.1 (q.2.1.ne he) q.2.2 q.2.1.base, q.2.1.drop⟩
/- out of a def -/
theorem own_end {h : Heap} {L dx : Addr} {news rest : List (Addr × Obj)} (N : News B L h news) (hs : ∀ p ∈ rest, p ∈ news) (hd : ∀ p ∈ rest, p.1 ≠ dx) : ∀ a o, InR B l rest a o → Own B l dx h a o :=
  fun _ _ q => ⟨(N _ (hs _ q.1)).1, q.2, hd _ q.1⟩
theorem inR_sub {rest rest' : List (Addr × Obj)} (hs : ∀ p ∈ rest, p ∈ rest') : ∀ a o, InR B l rest a o → InR B l rest' a o := fun _ _ q => ⟨hs _ q.1, q.2⟩

theorem fr_congr {h : Heap} {L : Addr} {m m' : Str → Option Value} (F : Fr B L h m) (e : ∀ y, m y = m' y) : Fr B L h m' := by
  rw [← show m = m' from funext e]
  exact F

theorem lk1 (n1 : Str) (a : Value) (y : Str) : [(n1, a)].reverse.lookup y = if y = n1 then some a else none := by
  show List.lookup y [(n1, a)] = _
  unfold List.lookup
  by_cases h1 : y = n1
  · rw [if_pos h1, beq_iff_eq.mpr h1]
  · rw [if_neg h1, beq_eq_false_iff_ne.mpr h1]
    rfl
theorem lk2 (n1 n2 : Str) (a b : Value) (y : Str) : [(n1, a), (n2, b)].reverse.lookup y = if y = n2 then some b else if y = n1 then some a else none := by
  show List.lookup y [(n2, b), (n1, a)] = _
  unfold List.lookup
  by_cases h1 : y = n2
  · rw [if_pos h1, beq_iff_eq.mpr h1]
  · rw [if_neg h1, beq_eq_false_iff_ne.mpr h1]
    exact lk1 n1 a y

/- a new object of the text's own, met in the ledger's tail -/
theorem made_out {C : Addr} {h h' : Heap} {L dx : Addr} {v : Value} {Od : Obj → Prop} {rest : List (Addr × Obj)} {env : Env} (m : Made C h h' v Od) (hf : h.FunFrames B (env :: l)) (hB : B.StaysIn h) (he : env.frame = some L) (hdx : h.get? dx ≠ none)
    (hall : ∀ a o, h'.get? a = some o → a ≠ L → a ≠ dx → B.get? a = none → (a, o) ∈ rest) : ∃ x d od, v = .ref x ∧ InR B l rest x (instObj C d) ∧ InR B l rest d od ∧ Od od := by
  obtain ⟨x, d, od, rfl, st, n1, n2, ne, g1, g2, o⟩ := m
  have fr : ∀ a, h.get? a = none → Free B (env :: l) a := fun a q => ⟨not_base hB q, fun hm => by
    obtain ⟨_, o, ho, _⟩ := hf.mem hm
    rw [q] at ho; cases ho⟩
  have nd : ∀ a, h.get? a = none → a ≠ dx := fun a q z => hdx (by rw [← z]; exact q)
  exact ⟨x, d, od, rfl, ⟨hall _ _ g1 ((fr _ n1).ne he) (nd _ n1) (fr _ n1).base, (fr _ n1).drop⟩, ⟨hall _ _ g2 ((fr _ n2).ne he) (nd _ n2) (fr _ n2).base, (fr _ n2).drop⟩, o⟩

/- a place from which a mark is seen at once -/
noncomputable def At (x : Str) (j : Nat) : Prop := j ≤ x.length ∧ ∀ k ts, tl x j = k :: ts → j < x.length ∧ chr x j = hd0 k
theorem at_span {x : Str} {j : Nat} (hj : j ≤ x.length) : At x (spanN isB x j) := ⟨spanN_le _ hj, fun k ts e => by
  rw [tl_skip] at e
  by_cases q : spanN isB x j < x.length
  · obtain ⟨k', ts', e', hk⟩ := tl_cons q
    rw [e] at e'
    cases e'
    exact ⟨q, hk.symm⟩
  · have := spanN_le isB hj
    rw [tl_end (by first | (simp +arith only; done) | lia | omega)] at e
    cases e⟩

/- what a question at the scanner gives -/
inductive TkB (w : World) (s : Shared) (sc dx : Addr) (x : Str) (j : Nat) (b : Bool) (v : Value) (h' : Heap) : Prop
  | mk : v = .bool b → Step [dx] s.heap h' → ∀ j' : Nat, ScanAt w h' sc dx x (j' : Nat) → At x j' → tl x j' = tl x j → TkB w s sc dx x j b v h'
/- what the taking of a mark gives -/
inductive TkT (w : World) (s : Shared) (sc dx : Addr) (x : Str) (k : Tk) (ts : List Tk) (v : Value) (h' : Heap) : Prop
  | mk : ∀ t, v = .str (S k) t → Step [dx] s.heap h' → ∀ j' : Nat, ScanAt w h' sc dx x (j' : Nat) → j' ≤ x.length → tl x j' = ts → TkT w s sc dx x k ts v h'
theorem use_B {f : Addr} {args : List Value} {sc dx : Addr} {x : Str} {j : Nat} {b : Bool} (g : Gives w A f args s (TkB w s sc dx x j b)) {Q E : Value → Shared → Prop}
    (h : ∀ h' tk', Step [dx] s.heap h' → ∀ j' : Nat, ScanAt w h' sc dx x (j' : Nat) → At x j' → tl x j' = tl x j → Q (.bool b) { s with heap := h', toks := tk' }) : wpAny (model PySem.Challenge.rw_nu0084_01.row.prog w) A (call (.ref f) args) Q E s :=
  g.use fun _ h' tk' p => by
    obtain ⟨rfl, a, j', b, c, d⟩ := p
    exact h h' tk' a j' b c d
theorem use_T {f : Addr} {args : List Value} {sc dx : Addr} {x : Str} {k : Tk} {ts : List Tk} (g : Gives w A f args s (TkT w s sc dx x k ts)) {Q E : Value → Shared → Prop}
    (h : ∀ h' tk' t, Step [dx] s.heap h' → ∀ j' : Nat, ScanAt w h' sc dx x (j' : Nat) → j' ≤ x.length → tl x j' = ts → Q (.str (S k) t) { s with heap := h', toks := tk' }) : wpAny (model PySem.Challenge.rw_nu0084_01.row.prog w) A (call (.ref f) args) Q E s :=
  g.use fun _ h' tk' p => by
    obtain ⟨t, rfl, a, j', b, c, d⟩ := p
    exact h h' tk' t a j' b c d
section
variable {sc dx : Addr} {x : Str} {j : Nat}
theorem next_tk {sg : Str} {ts : Tok} (am : Amb w mean mg mb B A l s.heap) (rm : Room A 4 30) (S : ScanAt w s.heap sc dx x j) (hsc : B.get? sc = none) (fd : Free B l dx) (hx : x.length ≤ 1048576) (hj : j ≤ x.length) :
    Gives w A 178 [.ref sc, .str sg ts] s (TkB w s sc dx x j (hdIn sg.cps.toList (tl x j))) :=
  (next_is_spec am rm S hsc fd hx hj).imp fun v h' q => .mk (by rw [q.1, tl_next hj]) q.2.1 _ q.2.2 (at_span hj) (tl_skip x j)
theorem at_end_tk (am : Amb w mean mg mb B A l s.heap) (rm : Room A 4 30) (S : ScanAt w s.heap sc dx x j) (hsc : B.get? sc = none) (fd : Free B l dx) (hx : x.length ≤ 1048576) (hj : j ≤ x.length) :
    Gives w A 185 [.ref sc] s (TkB w s sc dx x j (decide (tl x j = []))) :=
  (at_end_spec am rm S hsc fd hx hj).imp fun v h' q => .mk (by rw [q.1]; congr 1; rw [decide_eq_decide]; exact tl_end_iff hj) q.2.1 _ q.2.2 (at_span hj) (tl_skip x j)
theorem is_word_tk (am : Amb w mean mg mb B A l s.heap) (rm : Room A 6 40) (S : ScanAt w s.heap sc dx x j) (hsc : B.get? sc = none) (fd : Free B l dx) (hx : x.length ≤ 1048576) (hj : j ≤ x.length) :
    Gives w A 199 [.ref sc] s (TkB w s sc dx x j (hdWd (tl x j))) :=
  (is_word_spec am rm S hsc fd hx hj).imp fun v h' q => .mk (by rw [q.1, tl_word_next hj]) q.2.1 _ q.2.2 (at_span hj) (tl_skip x j)
theorem sign_tk (am : Amb w mean mg mb B A l s.heap) (rm : Room A 4 30) (S' : ScanAt w s.heap sc dx x j) (hsc : B.get? sc = none) (fd : Free B l dx) (hx : x.length ≤ 1048576) (hj : At x j) {k : Tk} {ts : List Tk} (e : tl x j = k :: ts) (hk : isS (hd0 k) = true) :
    Gives w A 192 [.ref sc] s (TkT w s sc dx x k ts) := by
  obtain ⟨h1, h2⟩ := hj.2 _ _ e
  obtain ⟨k', e1, e2⟩ := tl_sign h1 (by rw [h2]; exact hk)
  rw [e] at e1
  injection e1 with e3 e4
  subst e3
  refine (sign_spec am rm S' hsc fd hx h1).imp fun v h' ⟨⟨t, a⟩, b, c⟩ => ⟨t, by rw [a, e2], b, _, c, ?_, e4.symm⟩
  split <;> (first | lia | omega)
theorem word_tk (am : Amb w mean mg mb B A l s.heap) (rm : Room A 4 30) (S' : ScanAt w s.heap sc dx x j) (hsc : B.get? sc = none) (fd : Free B l dx) (hx : x.length ≤ 1048576) (hj : j ≤ x.length) {k : Tk} {ts : List Tk} (e : tl x j = k :: ts) (hk : isWd k = true) :
    Gives w A 206 [.ref sc] s (TkT w s sc dx x k ts) := by
  have q := at_span hj
  rw [← tl_skip] at e
  obtain ⟨h1, h2⟩ := q.2 _ _ e
  have e1 := tl_word h1 (by rw [h2]; exact hk)
  rw [e] at e1
  injection e1 with e3 e4
  exact (word_spec am rm S' hsc fd hx hj).imp fun v h' ⟨⟨t, a⟩, b, c⟩ => ⟨t, by rw [a, word_eq x (spanN_le _ hj), e3], b, _, c, spanN_le _ (spanN_le _ hj), e4.symm⟩
end

theorem exec_raise {env : Env} {E : Value → Shared → Prop} {x : PySem.Expr} {pos : Pos} {Q : Flow → Shared → Prop} (hh : A.handled = none)
    (h : wpAny (model PySem.Challenge.rw_nu0084_01.row.prog w) A (eval x env) (fun v s₁ => ∃ e t dd, v = .ref e ∧ (hd.heap_39 w.params).In s₁.heap ∧ s₁.heap.get? e = some (excO 64 t dd) ∧ E (.ref e) s₁) E s) :
    wpAny (model PySem.Challenge.rw_nu0084_01.row.prog w) A (exec (.Raise (some x) none pos) env) Q E s := by
  rw [arm_exec_Raise]
  show wpAny _ A (do standAt pos; raiseStmt env (some (do let v ← eval x env; standAt pos; pure v)) none) Q E s
  exact wpAny_bind (wpAny_standAt (raise_bad hh (wpAny_bind (wpAny_mono h (fun v s₁ h₁ => wpAny_bind (wpAny_standAt (wpAny_pure h₁))) fun _ _ x => x))))

/- a refusal just made in a frame, ready to be raised -/
theorem bad_ready {s₀ : Shared} {C : Prop} {env : Env} {W : List Addr} {L : Addr} {m : Str → Option Value} {news : List (Addr × Obj)} {h' : Heap} {v : Value} {tk : Nat} (am : Amb w mean mg mb B A l s₀.heap) {h : Heap} (F : Fr B L h m) (N : News B L h news) (hs : ∀ p ∈ others B s₀.heap W, p ∈ news)
    (hW : ∀ a ∈ W, Free B l a) (hf : env.frame = some L) (hk : env.scope.kind = .function) (hC : C) (bn : BadNew h h' v) {E' : Value → Shared → Prop} (hE : ∀ v s', BadE C B l W s₀ env v s' → E' v s') :
    ∃ e t dd, v = .ref e ∧ (hd.heap_39 w.params).In h' ∧ h'.get? e = some (excO 64 t dd) ∧ E' (.ref e) { s₀ with heap := h', toks := tk } := by
  obtain ⟨e, t, dd, rfl, st, hn, he⟩ := bn
  have a := amb_now am F N hs hW hf hk
  have st' : ∀ b o, h.get? b = some o → h'.get? b = some o := fun b o q => st b o q (fun hm => nomatch hm)
  have hB : B.StaysIn h' := fun b o q => st' b o (F.keep b o q)
  refine ⟨e, t, some dd, rfl, am.inK.keeps hB, he, hE _ _ ⟨hC, e, tk, rfl, rfl, .inr (.inr ⟨hB, not_base F.keep hn, a.funs.of_keeps fun b o q _ => ⟨o, st' b o q, rfl⟩, t, some dd, he⟩), ?_⟩⟩
  exact (step_of F N am.stays hs).upTo.trans (st.weaken (fun _ hm => nomatch hm)).upTo
inductive AfterMade (B : Heap) (L : Addr) (h' : Heap) (m : Str → Option Value) (sc : Addr) (dx : Addr) (w : World) (x : Str) (i : Int) (rest : List (Addr × Obj)) (v : Value) (l : List Env) (C : Addr) (Od : Obj → Prop)  : Prop
  | mk : (Fr B L h' m) → ∀ k1 tx k2 ti rest', (News B L h' ((sc, instObj 209 dx) :: (dx, scanD w x i k1 tx k2 ti) :: rest')) → ((∀ p ∈ rest', p.1 ≠ dx)) → ((∀ p ∈ rest, p ∈ rest')) → ∀ y d od, (v = .ref y) → (InR B l rest' y (instObj C d)) → (InR B l rest' d od) → (Od od) → AfterMade B L h' m sc dx w x i rest v l C Od
/- behind the making of an object of the text's own -/
theorem after_made {h₀ h h' : Heap} {C L sc dx : Addr} {m : Str → Option Value} {x : Str} {i : Int} {k1 tx k2 ti : Tok} {rest : List (Addr × Obj)} {v : Value} {Od : Obj → Prop} {env : Env} (am : Amb w mean mg mb B A l h₀) (F : Fr B L h m)
    (N : News B L h ((sc, instObj 209 dx) :: (dx, scanD w x i k1 tx k2 ti) :: rest)) (hs : ∀ p ∈ others B h₀ [dx], p ∈ rest) (hW : ∀ a ∈ [dx], Free B l a) (hf : env.frame = some L) (hk : env.scope.kind = .function)
    (hd : ∀ p ∈ rest, p.1 ≠ dx) (md : Made C h h' v Od) :
    AfterMade B L h' m sc dx w x i rest v l C Od := by
  have st : Step [] h h' := by obtain ⟨_, _, _, _, st, _⟩ := md; exact st
  have n1 := (N _ (.head _)).1
  have n2 := (N _ (.tail _ (.head _))).1
  obtain ⟨F', k1', tx', k2', ti', rest', N', a1, a2, a3⟩ := after F N hd (st.weaken fun _ hm => nomatch hm) (i' := i) ⟨st _ _ n1 (fun hm => nomatch hm), _, _, _, _, st _ _ n2 (fun hm => nomatch hm)⟩
  have a := amb_now am F N (fun p hp => .tail _ (.tail _ (hs _ hp))) hW hf hk
  obtain ⟨y, d, od, e1, i1, i2, o1⟩ := made_out md a.funs F.keep hf (by rw [n2]; exact Option.some_ne_none _) a3
  exact ⟨F', k1', tx', k2', ti', rest', N', a1, a2, y, d, od, e1, i1, i2, o1⟩

theorem S_beq (k : Tk) (y : Str) (c : Tk) (hy : y = S c) : (S k == y) = decide (k = c) := by
  rw [hy, Bool.eq_iff_iff, beq_iff_eq, decide_eq_true_eq]
  constructor
  · intro e
    injection e with e
    injection e with e
  · intro e
    rw [e]
theorem lt_S : Str.ofString "<" = S [60] := by decide +kernel
theorem gt_S : Str.ofString ">" = S [62] := by decide +kernel

/- an exception that comes out of a callee -/
theorem bad_through {s₀ : Shared} {C : Prop} {env : Env} {W : List Addr} {L e : Addr} {m : Str → Option Value} {news : List (Addr × Obj)} {h' : Heap} {tk : Nat} (am : Amb w mean mg mb B A l s₀.heap) {h : Heap} (F : Fr B L h m) (N : News B L h news) (hs : ∀ p ∈ others B s₀.heap W, p ∈ news)
    (hC : C) (bo : BadOut B (env :: l) W h e h') {E' : Value → Shared → Prop} (hE : ∀ v s', BadE C B l W s₀ env v s' → E' v s') : E' (.ref e) { s₀ with heap := h', toks := tk } :=
  hE _ _ ⟨hC, e, tk, rfl, rfl, .inl bo.1, (step_of F N am.stays hs).upTo.trans bo.2⟩
end

section
open PySem PySem.W PySem.Calls PySem.Spec PyProof.Rows
variable {w : World} {mean : ExcName → Option Value} {mg mb : Str → Option Value} {B : Heap} {A : Around} {l : List Env} {s : Shared}


section
variable {sc dx : Addr} {x : Str} {j : Nat}

noncomputable def redMap (sc : Addr) (v : Value) (pv sv : Option Value) : Str → Option Value := fun y => if y = Str.ofString "command" then some v else if y = Str.ofString "path" then pv else if y = Str.ofString "sign" then sv else if y = Str.ofString "scanner" then some (.ref sc) else none
theorem redMap_command {sc : Addr} {v : Value} {pv : Option Value} {sv : Option Value} {z : Value} {y : Str} : (if y = Str.ofString "command" then some z else redMap sc v pv sv y) = redMap sc z pv sv y := by
  by_cases q : y = Str.ofString "command"
  · subst q; rfl
  · rw [if_neg q]; unfold redMap; simp only [if_neg q]
theorem redMap_path {sc : Addr} {v : Value} {pv : Option Value} {sv : Option Value} {z : Option Value} {y : Str} : (if y = Str.ofString "path" then z else redMap sc v pv sv y) = redMap sc v z sv y := by
  by_cases q : y = Str.ofString "path"
  · subst q; rfl
  · rw [if_neg q]; unfold redMap; simp only [if_neg q]
theorem redMap_sign {sc : Addr} {v : Value} {pv : Option Value} {sv : Option Value} {z : Option Value} {y : Str} : (if y = Str.ofString "sign" then z else redMap sc v pv sv y) = redMap sc v pv z y := by
  by_cases q : y = Str.ofString "sign"
  · subst q; rfl
  · rw [if_neg q]; unfold redMap; simp only [if_neg q]

inductive RedsOut (x : Str) (j : Nat) (w : World) (sc : Addr) (dx : Addr) (s : Shared) (B : Heap) (l : List Env) (cmd : Value) (v : Value) (h' : Heap) : Prop
  | mk : ∀ rd j', (pReds [] (tl x j) = some (rd, tl x j')) → (j' ≤ x.length) → (ScanAt w h' sc dx x (j' : Nat)) → (Step [dx] s.heap h') → (RedIn w (Own B l dx h') cmd v rd) → RedsOut x j w sc dx s B l cmd v h'
inductive RedsLoop (x : Str) (s : Shared) (B : Heap) (L : Addr) (sc : Addr) (dx : Addr) (w : World) (l : List Env) (cmd : Value) (j : Nat) (n : Nat) (s' : Shared) : Prop
  | mk : ∀ h' tk' j' k1 tx k2 ti v pv sv rd rest, (n = (tl x j').length) → (j' ≤ x.length) → (s' = { s with heap := h', toks := tk' }) → (Fr B L h' (redMap sc v pv sv)) → (News B L h' ((sc, instObj 209 dx) :: (dx, scanD w x (j' : Nat) k1 tx k2 ti) :: rest)) → ((∀ p ∈ rest, p.1 ≠ dx)) → ((∀ p ∈ others B s.heap [dx], p ∈ rest)) → (RedIn w (InR B l rest) cmd v rd) → (pReds rd (tl x j') = pReds [] (tl x j)) → RedsLoop x s B L sc dx w l cmd j n s'
theorem redirects_spec (am : Amb w mean mg mb B A l s.heap) (rm : Room A 16 140) (S0 : ScanAt w s.heap sc dx x j) (hsc : B.get? sc = none) (fd : Free B l dx) (hx : x.length ≤ 1048576) (hj : j ≤ x.length) (cmd : Value) :
    GivesOr w A 248 [.ref sc, cmd] s (RedsOut x j w sc dx s B l cmd)
      (fun e h' => pReds [] (tl x j) = none ∧ BadOut B l [dx] s.heap e h') := by
  have T := am.top
  have X := am.inK
  obtain ⟨S1, k1, tx, k2, ti, S2⟩ := S0
  have hne : sc ≠ dx := fun e => by rw [e, S2] at S1; cases S1
  refine call_or (pReds [] (tl x j) = none) [dx] (by k_is) (by k_is) am rm.ok (binds := [("scanner", .ref sc), ("command", cmd)]) (BindsTo.of_eq rfl) (locs rfl) ((sc, instObj 209 dx) :: (dx, scanD w x j k1 tx k2 ti) :: others B s.heap [dx]) (scan_news S1 S2 hsc fd) ?_
  intro L h₁ tk₁ R E _ F N am' up hR hE hP
  have hoth := others_ne (B := B) (h := s.heap) (ex := [dx]) (.head _)
  refine wpAny_execs_cons ?_
  have F' : Fr B L h₁ (redMap sc cmd none none) := fr_congr F fun y => by
    rw [lk2]
    unfold redMap
    by_cases q0 : y = Str.ofString "command"
    · subst q0; rfl
    by_cases q1 : y = Str.ofString "path"
    · subst q1; rfl
    by_cases q2 : y = Str.ofString "sign"
    · subst q2; rfl
    by_cases q3 : y = Str.ofString "scanner"
    · subst q3; rfl
    simp only [if_neg q0, if_neg q1, if_neg q2, if_neg q3]
  refine while_rule (RedsLoop x s B L sc dx w l cmd j) ?_ _
    ⟨h₁, _, j, k1, tx, k2, ti, cmd, none, none, [], _, rfl, hj, rfl, F', N, hoth, fun _ h => h, .nil, rfl⟩ hP
  rintro n s' ⟨h', tk', j', k1, tx, k2, ti, v, pv, sv, rd, rest, rfl, hj', rfl, F, N, hoth, hsub, hrd, hp⟩
  w_strict (k_steps)
  have hW : ∀ a ∈ [dx], Free B l a := fun a ha => by rw [List.mem_singleton.mp ha]; exact fd
  show wpAny _ _ _ _ _ _
  refine use_B (next_tk (amb_now (W := [dx]) am F N (fun p hp => .tail _ (.tail _ (hsub _ hp))) hW (by rfl) (by rfl)) (rm.deeper.less (by decide) (by decide)) (ScanAt.of_news N) hsc (fd.push (N _ (.tail _ (.head _))).2.1 (by rfl)) hx hj') ?_
  intro hN tkN st j₂ Sn ha htl
  have aft := after F N hoth st Sn
  clear hoth F N st Sn
  obtain ⟨FN, k1, tx, k2, ti, restN, NN, hoth, hsN, hall⟩ := aft
  replace hrd := hrd.mono (inR_sub hsN)
  replace hsub : ∀ p ∈ others B s.heap [dx], p ∈ restN := fun p hp => hsN _ (hsub _ hp)
  clear hsN
  (try dsimp only)
  rw [← htl] at hp ⊢
  rw [sg_lt]
  clear htl hj'
  w_strict (k_steps)
  · obtain ⟨k, ts, e, hk⟩ := hdIn_true (by assumption)
    have hkS : isS (hd0 k) = true := by
      have hk : hd0 k = 60 ∨ hd0 k = 62 := by simpa using hk
      rcases hk with q | q <;> rw [q] <;> rfl
    rw [e] at hp ⊢
    rename Fr _ _ _ _ => F
    rename News _ _ _ _ => N
    show wpAny _ _ _ _ _ _
    refine use_T (sign_tk (amb_now (W := [dx]) am F N (fun p hp => .tail _ (.tail _ (hsub _ hp))) hW (by rfl) (by rfl)) (rm.deeper.less (by decide) (by decide)) (ScanAt.of_news N) hsc (fd.push (N _ (.tail _ (.head _))).2.1 (by rfl)) hx ha e hkS) ?_
    intro hN tkN t1 st j₃ Sn hj₃ htl
    have aft := after F N hoth st Sn
    clear hoth F N st Sn
    obtain ⟨FN, k1, tx, k2, ti, restN, NN, hoth, hsN, hall⟩ := aft
    replace hrd := hrd.mono (inR_sub hsN)
    replace hsub : ∀ p ∈ others B s.heap [dx], p ∈ restN := fun p hp => hsN _ (hsub _ hp)
    clear hsN
    (try dsimp only)
    subst htl
    w_strict (k_steps)
    rename Fr _ _ _ _ => F
    rename News _ _ _ _ => N
    show wpAny _ _ _ _ _ _
    refine use_B (is_word_tk (amb_now (W := [dx]) am F N (fun p hp => .tail _ (.tail _ (hsub _ hp))) hW (by rfl) (by rfl)) (rm.deeper.less (by decide) (by decide)) (ScanAt.of_news N) hsc (fd.push (N _ (.tail _ (.head _))).2.1 (by rfl)) hx hj₃) ?_
    intro hN tkN st j₄ Sn ha₄ htl
    have aft := after F N hoth st Sn
    clear hoth F N st Sn
    obtain ⟨FN, k1, tx, k2, ti, restN, NN, hoth, hsN, hall⟩ := aft
    replace hrd := hrd.mono (inR_sub hsN)
    replace hsub : ∀ p ∈ others B s.heap [dx], p ∈ restN := fun p hp => hsN _ (hsub _ hp)
    clear hsN
    (try dsimp only)
    rw [← htl] at hp ⊢
    clear htl
    w_strict (k_steps)
    · obtain ⟨p, ts', e', hpw⟩ := hdWd_true (by assumption)
      rw [e'] at hp ⊢
      rw [pReds_go rd hk hpw] at hp
      rename Fr _ _ _ _ => F
      rename News _ _ _ _ => N
      show wpAny _ _ _ _ _ _
      refine use_T (word_tk (amb_now (W := [dx]) am F N (fun p hp => .tail _ (.tail _ (hsub _ hp))) hW (by rfl) (by rfl)) (rm.deeper.less (by decide) (by decide)) (ScanAt.of_news N) hsc (fd.push (N _ (.tail _ (.head _))).2.1 (by rfl)) hx ha₄.1 e' hpw) ?_
      intro hN tkN t2 st j₅ Sn hj₅ htl
      have aft := after F N hoth st Sn
      clear hoth F N st Sn
      obtain ⟨FN, k1, tx, k2, ti, restN, NN, hoth, hsN, hall⟩ := aft
      replace hrd := hrd.mono (inR_sub hsN)
      replace hsub : ∀ p ∈ others B s.heap [dx], p ∈ restN := fun p hp => hsN _ (hsub _ hp)
      clear hsN
      (try dsimp only)
      subst htl
      w_strict (k_steps)
      · rename Fr _ _ _ _ => F
        rename News _ _ _ _ => N
        show wpAny _ _ _ _ _ _
        refine (new_redirect (amb_now (W := [dx]) am F N (fun p hp => .tail _ (.tail _ (hsub _ hp))) hW (by rfl) (by rfl)) (rm.deeper.less (by decide) (by decide)) _ _ _ _).use ?_
        intro v' hN tkN md
        obtain ⟨FN, k1, tx, k2, ti, restN, NN, hothN, hsN, y, d, od, rfl, i1, i2, q1, q2, q3, q4, rfl⟩ := after_made (env := envOf (Str.ofString "parse_redirects") { kind := ScopeKind.function, names := [(Str.ofString "scanner", NameKind.local), (Str.ofString "command", NameKind.local), (Str.ofString "sign", NameKind.local), (Str.ofString "path", NameKind.local), (Str.ofString "fault", NameKind.globalImplicit), (Str.ofString "Redirect", NameKind.globalImplicit), (Str.ofString "READ", NameKind.globalImplicit), (Str.ofString "INPUT", NameKind.globalImplicit), (Str.ofString "WRITE", NameKind.globalImplicit), (Str.ofString "CREATE", NameKind.globalImplicit), (Str.ofString "EMPTY", NameKind.globalImplicit), (Str.ofString "OUTPUT", NameKind.globalImplicit), (Str.ofString "AT_END", NameKind.globalImplicit)], isGenerator := false, isCoroutine := false } L 248 (Value.ref 247)) am F N hsub hW rfl rfl hoth md
        have hrdN := hrd.mono (inR_sub hsN)
        have hsubN : ∀ p ∈ others B s.heap [dx], p ∈ restN := fun p hp => hsN _ (hsub _ hp)
        clear F N hsub hoth hsN hrd
        (try dsimp only)
        w_strict (k_steps)
        rename Fr _ _ _ _ => F
        rename News _ _ _ _ => N
        have ek : kd k = 0 := by
          unfold kd
          rw [if_pos (of_decide_eq_true ((S_beq k _ _ lt_S).symm.trans (by assumption)))]
        refine ⟨_, ?_, _, _, j₅, k1, tx, k2, ti, .ref y, _, _, rd ++ [(kd k, p)], restN, rfl, hj₅, rfl, fr_congr F (m' := redMap sc (.ref y) (some (.str (S p) t2)) (some (.str (S k) t1))) fun y => ?_, N, hothN, hsubN, .snoc hrdN ?_, hp⟩
        · simp
          (first | lia | omega)
        · ((simp only [redMap_command, redMap_path, redMap_sign]); try rfl)
        · rw [ek]
          exact ⟨d, q1, q2, q3, q4, _, _, _, i1, i2⟩
      · rename Fr _ _ _ _ => F
        rename News _ _ _ _ => N
        show wpAny _ _ _ _ _ _
        refine (new_redirect (amb_now (W := [dx]) am F N (fun p hp => .tail _ (.tail _ (hsub _ hp))) hW (by rfl) (by rfl)) (rm.deeper.less (by decide) (by decide)) _ _ _ _).use ?_
        intro v' hN tkN md
        obtain ⟨FN, k1, tx, k2, ti, restN, NN, hothN, hsN, y, d, od, rfl, i1, i2, q1, q2, q3, q4, rfl⟩ := after_made (env := envOf (Str.ofString "parse_redirects") { kind := ScopeKind.function, names := [(Str.ofString "scanner", NameKind.local), (Str.ofString "command", NameKind.local), (Str.ofString "sign", NameKind.local), (Str.ofString "path", NameKind.local), (Str.ofString "fault", NameKind.globalImplicit), (Str.ofString "Redirect", NameKind.globalImplicit), (Str.ofString "READ", NameKind.globalImplicit), (Str.ofString "INPUT", NameKind.globalImplicit), (Str.ofString "WRITE", NameKind.globalImplicit), (Str.ofString "CREATE", NameKind.globalImplicit), (Str.ofString "EMPTY", NameKind.globalImplicit), (Str.ofString "OUTPUT", NameKind.globalImplicit), (Str.ofString "AT_END", NameKind.globalImplicit)], isGenerator := false, isCoroutine := false } L 248 (Value.ref 247)) am F N hsub hW rfl rfl hoth md
        have hrdN := hrd.mono (inR_sub hsN)
        have hsubN : ∀ p ∈ others B s.heap [dx], p ∈ restN := fun p hp => hsN _ (hsub _ hp)
        clear F N hsub hoth hsN hrd
        (try dsimp only)
        w_strict (k_steps)
        rename Fr _ _ _ _ => F
        rename News _ _ _ _ => N
        have ek : kd k = 1 := by
          unfold kd
          rw [if_neg (of_decide_eq_false ((S_beq k _ _ lt_S).symm.trans (by assumption))), if_pos (of_decide_eq_true ((S_beq k _ _ gt_S).symm.trans (by assumption)))]
        refine ⟨_, ?_, _, _, j₅, k1, tx, k2, ti, .ref y, _, _, rd ++ [(kd k, p)], restN, rfl, hj₅, rfl, fr_congr F (m' := redMap sc (.ref y) (some (.str (S p) t2)) (some (.str (S k) t1))) fun y => ?_, N, hothN, hsubN, .snoc hrdN ?_, hp⟩
        · simp
          (first | lia | omega)
        · ((simp only [redMap_command, redMap_path, redMap_sign]); try rfl)
        · rw [ek]
          exact ⟨d, q1, q2, q3, q4, _, _, _, i1, i2⟩
      · rename Fr _ _ _ _ => F
        rename News _ _ _ _ => N
        show wpAny _ _ _ _ _ _
        refine (new_redirect (amb_now (W := [dx]) am F N (fun p hp => .tail _ (.tail _ (hsub _ hp))) hW (by rfl) (by rfl)) (rm.deeper.less (by decide) (by decide)) _ _ _ _).use ?_
        intro v' hN tkN md
        obtain ⟨FN, k1, tx, k2, ti, restN, NN, hothN, hsN, y, d, od, rfl, i1, i2, q1, q2, q3, q4, rfl⟩ := after_made (env := envOf (Str.ofString "parse_redirects") { kind := ScopeKind.function, names := [(Str.ofString "scanner", NameKind.local), (Str.ofString "command", NameKind.local), (Str.ofString "sign", NameKind.local), (Str.ofString "path", NameKind.local), (Str.ofString "fault", NameKind.globalImplicit), (Str.ofString "Redirect", NameKind.globalImplicit), (Str.ofString "READ", NameKind.globalImplicit), (Str.ofString "INPUT", NameKind.globalImplicit), (Str.ofString "WRITE", NameKind.globalImplicit), (Str.ofString "CREATE", NameKind.globalImplicit), (Str.ofString "EMPTY", NameKind.globalImplicit), (Str.ofString "OUTPUT", NameKind.globalImplicit), (Str.ofString "AT_END", NameKind.globalImplicit)], isGenerator := false, isCoroutine := false } L 248 (Value.ref 247)) am F N hsub hW rfl rfl hoth md
        have hrdN := hrd.mono (inR_sub hsN)
        have hsubN : ∀ p ∈ others B s.heap [dx], p ∈ restN := fun p hp => hsN _ (hsub _ hp)
        clear F N hsub hoth hsN hrd
        (try dsimp only)
        w_strict (k_steps)
        rename Fr _ _ _ _ => F
        rename News _ _ _ _ => N
        have ek : kd k = 2 := by
          unfold kd
          rw [if_neg (of_decide_eq_false ((S_beq k _ _ lt_S).symm.trans (by assumption))), if_neg (of_decide_eq_false ((S_beq k _ _ gt_S).symm.trans (by assumption)))]
        refine ⟨_, ?_, _, _, j₅, k1, tx, k2, ti, .ref y, _, _, rd ++ [(kd k, p)], restN, rfl, hj₅, rfl, fr_congr F (m' := redMap sc (.ref y) (some (.str (S p) t2)) (some (.str (S k) t1))) fun y => ?_, N, hothN, hsubN, .snoc hrdN ?_, hp⟩
        · simp
          (first | lia | omega)
        · ((simp only [redMap_command, redMap_path, redMap_sign]); try rfl)
        · rw [ek]
          exact ⟨d, q1, q2, q3, q4, _, _, _, i1, i2⟩
    · rename Fr _ _ _ _ => F
      rename News _ _ _ _ => N
      refine exec_raise am.hand ?_
      w_strict (k_steps)
      rename Fr _ _ _ _ => F
      rename News _ _ _ _ => N
      show wpAny _ _ _ _ _ _
      refine (fault_spec (amb_now (W := [dx]) am F N (fun p hp => .tail _ (.tail _ (hsub _ hp))) hW (by rfl) (by rfl)) (rm.deeper.less (by decide) (by decide)) (by decide +kernel)).use ?_
      intro v' h' tk' bn
      refine bad_ready am F N (fun p hp => .tail _ (.tail _ (hsub _ hp))) hW rfl rfl ?_ bn hE
      rw [← hp, pReds_bad rd hk (by assumption)]
  · rename Fr _ _ _ _ => F
    rename News _ _ _ _ => N
    rw [pReds_stop rd (by assumption)] at hp
    (try dsimp only)
    refine hR _ _ _ ⟨rd, j₂, hp.symm, ha.1, ScanAt.of_news N, step_of F N am.stays (fun p hp => .tail _ (.tail _ (hsub _ hp))), hrd.mono (own_end N (fun _ h => .tail _ (.tail _ h)) hoth)⟩
end
end

section
open PySem PySem.W PySem.Calls PySem.Spec PyProof.Rows
variable {w : World} {mean : ExcName → Option Value} {mg mb : Str → Option Value} {B : Heap} {A : Around} {l : List Env} {s : Shared}


section
variable (w mean mg mb B)
inductive PostI (r : Option (Tree × List Tk)) (x : Str) (w : World) (sc : Addr) (dx : Addr) (s : Shared) (B : Heap) (l : List Env) (v : Value) (h' : Heap) : Prop
  | mk : ∀ t j', (r = some (t, tl x j')) → (j' ≤ x.length) → (ScanAt w h' sc dx x (j' : Nat)) → (Step [dx] s.heap h') → (TreeIn w (Own B l dx h') v t) → PostI r x w sc dx s B l v h'
noncomputable def Post (l : List Env) (dx sc : Addr) (x : Str) (s : Shared) (r : Option (Tree × List Tk)) : Value → Heap → Prop :=
  PostI r x w sc dx s B l
noncomputable def BadP (l : List Env) (dx : Addr) (s : Shared) (r : Option (Tree × List Tk)) : Addr → Heap → Prop := fun e h' => r = none ∧ BadOut B l [dx] s.heap e h'

/- what a def that reads from a place on gives, for n levels below it -/
noncomputable def Reads1 (f : Addr) (n need : Nat) (p : List Tk → Option (Tree × List Tk)) : Prop :=
  ∀ {A : Around} {l : List Env} {s : Shared} {sc dx : Addr} {x : Str} {j : Nat}, Amb w mean mg mb B A l s.heap → Room A (n + 30) (3 * n + 300) → ScanAt w s.heap sc dx x (j : Nat) → B.get? sc = none → Free B l dx → x.length ≤ 1048576 → j ≤ x.length →
    4 * wt (tl x j) + need ≤ n → GivesOr w A f [.ref sc] s (Post w B l dx sc x s (p (tl x j))) (BadP B l dx s (p (tl x j)))
/- the same of parse_block, that stands at its opening bracket -/
noncomputable def Reads2 (n : Nat) : Prop :=
  ∀ {A : Around} {l : List Env} {s : Shared} {sc dx : Addr} {x : Str} {j : Nat} {k : Tk} {ts : List Tk}, Amb w mean mg mb B A l s.heap → Room A (n + 30) (3 * n + 300) → ScanAt w s.heap sc dx x (j : Nat) → B.get? sc = none → Free B l dx → x.length ≤ 1048576 → At x j →
    tl x j = k :: ts → hd0 k = 40 → 4 * wt ts + 5 ≤ n → GivesOr w A 255 [.ref sc] s (Post w B l dx sc x s (pBlock n ts)) (BadP B l dx s (pBlock n ts))
end

noncomputable def map2 (a b : String) (v1 v2 : Option Value) : Str → Option Value := fun y => if y = Str.ofString a then v1 else if y = Str.ofString b then v2 else none

theorem pipe_step {n : Nat} (cmd : Reads1 w mean mg mb B 262 n 2 (pCmd n)) (pipe : Reads1 w mean mg mb B 241 n 3 (pPipe n)) : Reads1 w mean mg mb B 241 (n + 1) 3 (pPipe (n + 1)) := by
  intro A l s sc dx x j am rm S0 hsc fd hx hj hn
  have T := am.top
  have X := am.inK
  obtain ⟨S1, k1, tx, k2, ti, S2⟩ := S0
  have hne : sc ≠ dx := fun e => by rw [e, S2] at S1; cases S1
  refine call_or (pPipe (n + 1) (tl x j) = none) [dx] (by k_is) (by k_is) am rm.ok (binds := [("scanner", .ref sc)]) (BindsTo.of_eq rfl) (locs rfl) ((sc, instObj 209 dx) :: (dx, scanD w x j k1 tx k2 ti) :: others B s.heap [dx]) (scan_news S1 S2 hsc fd) ?_
  intro L h₁ tk₁ R E _ F N am' up hR hE hP
  have hoth := others_ne (B := B) (h := s.heap) (ex := [dx]) (.head _)
  have hW : ∀ a ∈ [dx], Free B l a := fun a ha => by rw [List.mem_singleton.mp ha]; exact fd
  have hsub : ∀ p ∈ others B s.heap [dx], p ∈ others B s.heap [dx] := fun _ h => h
  w_strict (k_steps)
  rename Fr _ _ _ _ => F
  rename News _ _ _ _ => N
  show wpAny _ _ _ _ _ _
  refine (cmd (amb_now (W := [dx]) am F N (fun p hp => .tail _ (.tail _ (hsub _ hp))) hW (by rfl) (by rfl)) (rm.deeper.less (by first | (simp +arith only; done) | lia | omega) (by first | (simp +arith only; done) | lia | omega)) (ScanAt.of_news N) hsc (fd.push (N _ (.tail _ (.head _))).2.1 (by rfl)) hx hj (by first | (simp +arith only; done) | lia | omega)).use ?_ ?_
  rotate_left
  · rintro e hN tkN ⟨hC, bo⟩
    refine bad_through am F N (fun p hp => .tail _ (.tail _ (hsub _ hp))) ?_ bo hE
    rw [pPipe, hC]
  rintro v hN tkN ⟨t, j₂, e, hj₂, Sn, st, tr⟩
  have aft := after F N hoth st Sn
  clear hoth F N st Sn
  obtain ⟨FN, k1, tx, k2, ti, restN, NN, hoth, hsN, hall⟩ := aft
  replace hsub : ∀ p ∈ others B s.heap [dx], p ∈ restN := fun p hp => hsN _ (hsub _ hp)
  clear hsN
  (try dsimp only)
  have tr1 := tr.mono (own_out hall rfl)
  clear tr
  w_strict (k_steps)
  rename Fr _ _ _ _ => F
  rename News _ _ _ _ => N
  show wpAny _ _ _ _ _ _
  refine use_B (next_tk (amb_now (W := [dx]) am F N (fun p hp => .tail _ (.tail _ (hsub _ hp))) hW (by rfl) (by rfl)) (rm.deeper.less (by first | (simp +arith only; done) | lia | omega) (by first | (simp +arith only; done) | lia | omega)) (ScanAt.of_news N) hsc (fd.push (N _ (.tail _ (.head _))).2.1 (by rfl)) hx hj₂) ?_
  intro hN tkN st j₃ Sn ha₃ htl
  have aft := after F N hoth st Sn
  clear hoth F N st Sn
  obtain ⟨FN, k1, tx, k2, ti, restN, NN, hoth, hsN, hall⟩ := aft
  replace tr1 := tr1.mono (inR_sub hsN)
  replace hsub : ∀ p ∈ others B s.heap [dx], p ∈ restN := fun p hp => hsN _ (hsub _ hp)
  clear hsN
  (try dsimp only)
  rw [← htl] at e
  rw [← htl, bar_lt]
  clear htl hj₂
  w_strict (k_steps)
  · obtain ⟨k, ts, e2, hk⟩ := hdIn_true (by assumption)
    have hk' : hd0 k = 124 := by simpa using hk
    have hkS : isS (hd0 k) = true := by rw [hk']; decide
    rw [e2] at e
    rename Fr _ _ _ _ => F
    rename News _ _ _ _ => N
    show wpAny _ _ _ _ _ _
    refine use_T (sign_tk (amb_now (W := [dx]) am F N (fun p hp => .tail _ (.tail _ (hsub _ hp))) hW (by rfl) (by rfl)) (rm.deeper.less (by first | (simp +arith only; done) | lia | omega) (by first | (simp +arith only; done) | lia | omega)) (ScanAt.of_news N) hsc (fd.push (N _ (.tail _ (.head _))).2.1 (by rfl)) hx ha₃ e2 hkS) ?_
    intro hN tkN t1 st j₄ Sn hj₄ htl
    have aft := after F N hoth st Sn
    clear hoth F N st Sn
    obtain ⟨FN, k1, tx, k2, ti, restN, NN, hoth, hsN, hall⟩ := aft
    replace tr1 := tr1.mono (inR_sub hsN)
    replace hsub : ∀ p ∈ others B s.heap [dx], p ∈ restN := fun p hp => hsN _ (hsub _ hp)
    clear hsN
    (try dsimp only)
    subst htl
    have wle : 4 * wt (tl x j₄) + 3 ≤ n := by
      have a1 := wtCmd e
      rw [wt_cons _ (.inr (.inr hk'))] at a1
      (first | lia | omega)
    w_strict (k_steps)
    rename Fr _ _ _ _ => F
    rename News _ _ _ _ => N
    show wpAny _ _ _ _ _ _
    refine (pipe (amb_now (W := [dx]) am F N (fun p hp => .tail _ (.tail _ (hsub _ hp))) hW (by rfl) (by rfl)) (rm.deeper.less (by first | (simp +arith only; done) | lia | omega) (by first | (simp +arith only; done) | lia | omega)) (ScanAt.of_news N) hsc (fd.push (N _ (.tail _ (.head _))).2.1 (by rfl)) hx hj₄ wle).use ?_ ?_
    rotate_left
    · rintro e' hN tkN ⟨hC, bo⟩
      refine bad_through am F N (fun p hp => .tail _ (.tail _ (hsub _ hp))) ?_ bo hE
      rw [pPipe, e]
      show (if hd0 k = 124 then _ else _) = none
      rw [if_pos hk', hC]
    rintro v2 hN tkN ⟨t2, j₅, e5, hj₅, Sn, st, tr⟩
    have aft := after F N hoth st Sn
    clear hoth F N st Sn
    obtain ⟨FN, k1, tx, k2, ti, restN, NN, hoth, hsN, hall⟩ := aft
    replace tr1 := tr1.mono (inR_sub hsN)
    replace hsub : ∀ p ∈ others B s.heap [dx], p ∈ restN := fun p hp => hsN _ (hsub _ hp)
    clear hsN
    (try dsimp only)
    have tr2 := tr.mono (own_out hall rfl)
    clear tr
    w_strict (k_steps)
    rename Fr _ _ _ _ => F
    rename News _ _ _ _ => N
    show wpAny _ _ _ _ _ _
    refine (new_pair (amb_now (W := [dx]) am F N (fun p hp => .tail _ (.tail _ (hsub _ hp))) hW (by rfl) (by rfl)) (rm.deeper.less (by first | (simp +arith only; done) | lia | omega) (by first | (simp +arith only; done) | lia | omega)) _ _ _).use ?_
    intro v' hN tkN md
    have aft := after_made (env := (envOf (Str.ofString "parse_pipe") { kind := ScopeKind.function, names := [(Str.ofString "scanner", NameKind.local), (Str.ofString "found", NameKind.local), (Str.ofString "parse_command", NameKind.globalImplicit), (Str.ofString "Pair", NameKind.globalImplicit), (Str.ofString "parse_pipe", NameKind.globalImplicit)], isGenerator := false, isCoroutine := false } L 241 (Value.ref 240))) am F N hsub hW rfl rfl hoth md
    clear hoth F N
    obtain ⟨FN, k1, tx, k2, ti, restN, NN, hoth, hsN, y, d, od, rfl, i1, i2, q1, q2, q3, rfl⟩ := aft
    replace tr1 := tr1.mono (inR_sub hsN)
    replace tr2 := tr2.mono (inR_sub hsN)
    replace hsub : ∀ p ∈ others B s.heap [dx], p ∈ restN := fun p hp => hsN _ (hsub _ hp)
    clear hsN
    (try dsimp only)
    w_strict (k_steps)
    rename Fr _ _ _ _ => F
    rename News _ _ _ _ => N
    refine hR _ _ _ ⟨.pair 124 t t2, j₅, ?_, hj₅, ScanAt.of_news N, step_of F N am.stays (fun p hp => .tail _ (.tail _ (hsub _ hp))), .pair (own_end N (fun _ h => .tail _ (.tail _ h)) hoth _ _ i1) (own_end N (fun _ h => .tail _ (.tail _ h)) hoth _ _ i2) (tr1.mono (own_end N (fun _ h => .tail _ (.tail _ h)) hoth)) (tr2.mono (own_end N (fun _ h => .tail _ (.tail _ h)) hoth))⟩
    rw [pPipe, e]
    show (if hd0 k = 124 then _ else _) = _
    rw [if_pos hk', e5]
  · rename Fr _ _ _ _ => F
    rename News _ _ _ _ => N
    (try dsimp only)
    refine hR _ _ _ ⟨t, j₃, ?_, ha₃.1, ScanAt.of_news N, step_of F N am.stays (fun p hp => .tail _ (.tail _ (hsub _ hp))), tr1.mono (own_end N (fun _ h => .tail _ (.tail _ h)) hoth)⟩
    rw [pPipe, e]
    cases q : tl x j₃ with
    | nil => rfl
    | cons k ts =>
      show (if hd0 k = 124 then _ else _) = _
      rw [if_neg]
      intro hk
      have := hdIn_false (q ▸ (by assumption : hdIn [124] (tl x j₃) = false))
      exact this (by rw [hk]; exact .head _)

inductive LineLoop (x : Str) (s : Shared) (B : Heap) (L : Addr) (sc : Addr) (dx : Addr) (w : World) (l : List Env) (t : Tree) (j₂ : Nat) (m : Nat) (s' : Shared) : Prop
  | mk : ∀ h' tk' j' k1 tx k2 ti v t' rest, (m = (tl x j').length) → (j' ≤ x.length) → (s' = { s with heap := h', toks := tk' }) → (Fr B L h' (map2 "found" "scanner" (some v) (some (.ref sc)))) → (News B L h' ((sc, instObj 209 dx) :: (dx, scanD w x (j' : Nat) k1 tx k2 ti) :: rest)) → ((∀ p ∈ rest, p.1 ≠ dx)) → ((∀ p ∈ others B s.heap [dx], p ∈ rest)) → (TreeIn w (InR B l rest) v t') → (pBacks t' (tl x j') = pBacks t (tl x j₂)) → LineLoop x s B L sc dx w l t j₂ m s'
theorem line_step {n : Nat} (pipe : Reads1 w mean mg mb B 241 n 3 (pPipe n)) (line : Reads1 w mean mg mb B 234 n 4 (pLine n)) : Reads1 w mean mg mb B 234 (n + 1) 4 (pLine (n + 1)) := by
  intro A l s sc dx x j am rm S0 hsc fd hx hj hn
  have T := am.top
  have X := am.inK
  obtain ⟨S1, k1, tx, k2, ti, S2⟩ := S0
  have hne : sc ≠ dx := fun e => by rw [e, S2] at S1; cases S1
  refine call_or (pLine (n + 1) (tl x j) = none) [dx] (by k_is) (by k_is) am rm.ok (binds := [("scanner", .ref sc)]) (BindsTo.of_eq rfl) (locs rfl) ((sc, instObj 209 dx) :: (dx, scanD w x j k1 tx k2 ti) :: others B s.heap [dx]) (scan_news S1 S2 hsc fd) ?_
  intro L h₁ tk₁ R E _ F N am' up hR hE hP
  have hoth := others_ne (B := B) (h := s.heap) (ex := [dx]) (.head _)
  have hW : ∀ a ∈ [dx], Free B l a := fun a ha => by rw [List.mem_singleton.mp ha]; exact fd
  have hsub : ∀ p ∈ others B s.heap [dx], p ∈ others B s.heap [dx] := fun _ h => h
  w_strict (k_steps)
  rename Fr _ _ _ _ => F
  rename News _ _ _ _ => N
  show wpAny _ _ _ _ _ _
  refine (pipe (amb_now (W := [dx]) am F N (fun p hp => .tail _ (.tail _ (hsub _ hp))) hW (by rfl) (by rfl)) (rm.deeper.less (by first | (simp +arith only; done) | lia | omega) (by first | (simp +arith only; done) | lia | omega)) (ScanAt.of_news N) hsc (fd.push (N _ (.tail _ (.head _))).2.1 (by rfl)) hx hj (by first | (simp +arith only; done) | lia | omega)).use ?_ ?_
  rotate_left
  · rintro e' hN tkN ⟨hC, bo⟩
    refine bad_through am F N (fun p hp => .tail _ (.tail _ (hsub _ hp))) ?_ bo hE
    rw [pLine, hC]
  rintro v hN tkN ⟨t, j₂, e, hj₂, Sn, st, tr⟩
  have aft := after F N hoth st Sn
  clear hoth F N st Sn
  obtain ⟨FN, k1, tx, k2, ti, restN, NN, hoth, hsN, hall⟩ := aft
  replace hsub : ∀ p ∈ others B s.heap [dx], p ∈ restN := fun p hp => hsN _ (hsub _ hp)
  clear hsN
  (try dsimp only)
  have tr1 := tr.mono (own_out hall rfl)
  clear tr
  w_strict (k_steps)
  rename Fr _ _ _ _ => F
  rename News _ _ _ _ => N
  have F' : Fr B L _ (map2 "found" "scanner" (some v) (some (.ref sc))) := fr_congr F fun y => by
    unfold map2
    by_cases q0 : y = Str.ofString "found"
    · subst q0; rfl
    by_cases q1 : y = Str.ofString "scanner"
    · subst q1; rfl
    rw [if_neg q0, if_neg q0, if_neg q1, lk1, if_neg q1]
  show wpAny _ _ _ _ _ _
  refine while_ok (LineLoop x s B L sc dx w l t j₂) ?_ _
    ⟨_, _, j₂, _, _, _, _, v, t, _, rfl, hj₂, rfl, F', N, hoth, hsub, tr1, rfl⟩
  clear F' F N hoth hsub tr1
  rintro m s' ⟨h', tk', j', k1, tx, k2, ti, v, t', rest, rfl, hj', rfl, F, N, hoth, hsub, tr1, hp⟩
  w_strict (k_steps)
  rename Fr _ _ _ _ => F
  rename News _ _ _ _ => N
  show wpAny _ _ _ _ _ _
  refine use_B (next_tk (amb_now (W := [dx]) am F N (fun p hp => .tail _ (.tail _ (hsub _ hp))) hW (by rfl) (by rfl)) (rm.deeper.less (by first | (simp +arith only; done) | lia | omega) (by first | (simp +arith only; done) | lia | omega)) (ScanAt.of_news N) hsc (fd.push (N _ (.tail _ (.head _))).2.1 (by rfl)) hx hj') ?_
  intro hN tkN st j₃ Sn ha₃ htl
  have aft := after F N hoth st Sn
  clear hoth F N st Sn
  obtain ⟨FN, k1, tx, k2, ti, restN, NN, hoth, hsN, hall⟩ := aft
  replace tr1 := tr1.mono (inR_sub hsN)
  replace hsub : ∀ p ∈ others B s.heap [dx], p ∈ restN := fun p hp => hsN _ (hsub _ hp)
  clear hsN
  (try dsimp only)
  rw [← htl] at hp ⊢
  rw [amp_lt]
  clear htl hj'
  w_strict (k_steps)
  · obtain ⟨k, ts, e2, hk⟩ := hdIn_true (by assumption)
    have hk' : hd0 k = 38 := by simpa using hk
    have hkS : isS (hd0 k) = true := by rw [hk']; decide
    rw [e2] at hp ⊢
    rw [pBacks, if_pos hk'] at hp
    rename Fr _ _ _ _ => F
    rename News _ _ _ _ => N
    show wpAny _ _ _ _ _ _
    refine use_T (sign_tk (amb_now (W := [dx]) am F N (fun p hp => .tail _ (.tail _ (hsub _ hp))) hW (by rfl) (by rfl)) (rm.deeper.less (by first | (simp +arith only; done) | lia | omega) (by first | (simp +arith only; done) | lia | omega)) (ScanAt.of_news N) hsc (fd.push (N _ (.tail _ (.head _))).2.1 (by rfl)) hx ha₃ e2 hkS) ?_
    intro hN tkN t1 st j₄ Sn hj₄ htl
    have aft := after F N hoth st Sn
    clear hoth F N st Sn
    obtain ⟨FN, k1, tx, k2, ti, restN, NN, hoth, hsN, hall⟩ := aft
    replace tr1 := tr1.mono (inR_sub hsN)
    replace hsub : ∀ p ∈ others B s.heap [dx], p ∈ restN := fun p hp => hsN _ (hsub _ hp)
    clear hsN
    (try dsimp only)
    subst htl
    w_strict (k_steps)
    rename Fr _ _ _ _ => F
    rename News _ _ _ _ => N
    show wpAny _ _ _ _ _ _
    refine (new_back (amb_now (W := [dx]) am F N (fun p hp => .tail _ (.tail _ (hsub _ hp))) hW (by rfl) (by rfl)) (rm.deeper.less (by first | (simp +arith only; done) | lia | omega) (by first | (simp +arith only; done) | lia | omega)) _).use ?_
    intro v' hN tkN md
    have aft := after_made (env := (envOf (Str.ofString "parse_line") { kind := ScopeKind.function, names := [(Str.ofString "scanner", NameKind.local), (Str.ofString "found", NameKind.local), (Str.ofString "parse_pipe", NameKind.globalImplicit), (Str.ofString "Back", NameKind.globalImplicit), (Str.ofString "Pair", NameKind.globalImplicit), (Str.ofString "parse_line", NameKind.globalImplicit)], isGenerator := false, isCoroutine := false } L 234 (Value.ref 233))) am F N hsub hW rfl rfl hoth md
    clear hoth F N
    obtain ⟨FN, k1, tx, k2, ti, restN, NN, hoth, hsN, y, d, od, rfl, i1, i2, q1, rfl⟩ := aft
    replace tr1 := tr1.mono (inR_sub hsN)
    replace hsub : ∀ p ∈ others B s.heap [dx], p ∈ restN := fun p hp => hsN _ (hsub _ hp)
    clear hsN
    (try dsimp only)
    w_strict (k_steps)
    rename Fr _ _ _ _ => F
    rename News _ _ _ _ => N
    refine ⟨_, ?_, _, _, j₄, k1, tx, k2, ti, .ref y, .back t', restN, rfl, hj₄, rfl, fr_congr F (m' := map2 "found" "scanner" (some (.ref y)) (some (.ref sc))) fun y => ?_, N, hoth, hsub, .back i1 i2 tr1, hp⟩
    · simp
    · unfold map2
      by_cases q0 : y = Str.ofString "found"
      · subst q0; rfl
      by_cases q1 : y = Str.ofString "scanner"
      · subst q1; rfl
      simp only [if_neg q0, if_neg q1]
  · have hp' : pBacks t (tl x j₂) = (t', tl x j₃) := by
      rw [← hp]
      cases q : tl x j₃ with
      | nil => rw [pBacks]
      | cons k ts =>
        rw [pBacks, if_neg]
        intro hk
        have := hdIn_false (q ▸ (by assumption : hdIn [38] (tl x j₃) = false))
        exact this (by rw [hk]; exact .head _)
    clear hp
    rename Fr _ _ _ _ => F
    rename News _ _ _ _ => N
    show wpAny _ _ _ _ _ _
    refine use_B (next_tk (amb_now (W := [dx]) am F N (fun p hp => .tail _ (.tail _ (hsub _ hp))) hW (by rfl) (by rfl)) (rm.deeper.less (by first | (simp +arith only; done) | lia | omega) (by first | (simp +arith only; done) | lia | omega)) (ScanAt.of_news N) hsc (fd.push (N _ (.tail _ (.head _))).2.1 (by rfl)) hx ha₃.1) ?_
    intro hN tkN st j₄ Sn ha₄ htl
    have aft := after F N hoth st Sn
    clear hoth F N st Sn
    obtain ⟨FN, k1, tx, k2, ti, restN, NN, hoth, hsN, hall⟩ := aft
    replace tr1 := tr1.mono (inR_sub hsN)
    replace hsub : ∀ p ∈ others B s.heap [dx], p ∈ restN := fun p hp => hsN _ (hsub _ hp)
    clear hsN
    (try dsimp only)
    rw [← htl] at hp'
    rw [← htl, semi_lt]
    clear htl ha₃
    w_strict (k_steps)
    · obtain ⟨k, ts, e2, hk⟩ := hdIn_true (by assumption)
      have hk' : hd0 k = 59 := by simpa using hk
      have hkS : isS (hd0 k) = true := by rw [hk']; decide
      rw [e2] at hp'
      rename Fr _ _ _ _ => F
      rename News _ _ _ _ => N
      show wpAny _ _ _ _ _ _
      refine use_T (sign_tk (amb_now (W := [dx]) am F N (fun p hp => .tail _ (.tail _ (hsub _ hp))) hW (by rfl) (by rfl)) (rm.deeper.less (by first | (simp +arith only; done) | lia | omega) (by first | (simp +arith only; done) | lia | omega)) (ScanAt.of_news N) hsc (fd.push (N _ (.tail _ (.head _))).2.1 (by rfl)) hx ha₄ e2 hkS) ?_
      intro hN tkN t1 st j₅ Sn hj₅ htl
      have aft := after F N hoth st Sn
      clear hoth F N st Sn
      obtain ⟨FN, k1, tx, k2, ti, restN, NN, hoth, hsN, hall⟩ := aft
      replace tr1 := tr1.mono (inR_sub hsN)
      replace hsub : ∀ p ∈ others B s.heap [dx], p ∈ restN := fun p hp => hsN _ (hsub _ hp)
      clear hsN
      (try dsimp only)
      subst htl
      have wle : 4 * wt (tl x j₅) + 4 ≤ n := by
        have a1 := wtPipe e
        have a2 := wtBacks t (tl x j₂)
        rw [hp', wt_cons _ (.inr (.inl hk'))] at a2
        (first | lia | omega)
      w_strict (k_steps)
      rename Fr _ _ _ _ => F
      rename News _ _ _ _ => N
      show wpAny _ _ _ _ _ _
      refine (line (amb_now (W := [dx]) am F N (fun p hp => .tail _ (.tail _ (hsub _ hp))) hW (by rfl) (by rfl)) (rm.deeper.less (by first | (simp +arith only; done) | lia | omega) (by first | (simp +arith only; done) | lia | omega)) (ScanAt.of_news N) hsc (fd.push (N _ (.tail _ (.head _))).2.1 (by rfl)) hx hj₅ wle).use ?_ ?_
      rotate_left
      · rintro e' hN tkN ⟨hC, bo⟩
        refine bad_through am F N (fun p hp => .tail _ (.tail _ (hsub _ hp))) ?_ bo hE
        rw [pLine, e]
        (try dsimp only)
        rw [hp']
        show (if hd0 k = 59 then _ else _) = none
        rw [if_pos hk', hC]
      rintro v2 hN tkN ⟨t2, j₆, e6, hj₆, Sn, st, tr⟩
      have aft := after F N hoth st Sn
      clear hoth F N st Sn
      obtain ⟨FN, k1, tx, k2, ti, restN, NN, hoth, hsN, hall⟩ := aft
      replace tr1 := tr1.mono (inR_sub hsN)
      replace hsub : ∀ p ∈ others B s.heap [dx], p ∈ restN := fun p hp => hsN _ (hsub _ hp)
      clear hsN
      (try dsimp only)
      have tr2 := tr.mono (own_out hall rfl)
      clear tr
      w_strict (k_steps)
      rename Fr _ _ _ _ => F
      rename News _ _ _ _ => N
      show wpAny _ _ _ _ _ _
      refine (new_pair (amb_now (W := [dx]) am F N (fun p hp => .tail _ (.tail _ (hsub _ hp))) hW (by rfl) (by rfl)) (rm.deeper.less (by first | (simp +arith only; done) | lia | omega) (by first | (simp +arith only; done) | lia | omega)) _ _ _).use ?_
      intro v' hN tkN md
      have aft := after_made (env := (envOf (Str.ofString "parse_line") { kind := ScopeKind.function, names := [(Str.ofString "scanner", NameKind.local), (Str.ofString "found", NameKind.local), (Str.ofString "parse_pipe", NameKind.globalImplicit), (Str.ofString "Back", NameKind.globalImplicit), (Str.ofString "Pair", NameKind.globalImplicit), (Str.ofString "parse_line", NameKind.globalImplicit)], isGenerator := false, isCoroutine := false } L 234 (Value.ref 233))) am F N hsub hW rfl rfl hoth md
      clear hoth F N
      obtain ⟨FN, k1, tx, k2, ti, restN, NN, hoth, hsN, y, d, od, rfl, i1, i2, q1, q2, q3, rfl⟩ := aft
      replace tr1 := tr1.mono (inR_sub hsN)
      replace tr2 := tr2.mono (inR_sub hsN)
      replace hsub : ∀ p ∈ others B s.heap [dx], p ∈ restN := fun p hp => hsN _ (hsub _ hp)
      clear hsN
      (try dsimp only)
      w_strict (k_steps)
      rename Fr _ _ _ _ => F
      rename News _ _ _ _ => N
      refine hR _ _ _ ⟨.pair 59 t' t2, j₆, ?_, hj₆, ScanAt.of_news N, step_of F N am.stays (fun p hp => .tail _ (.tail _ (hsub _ hp))), .pair (own_end N (fun _ h => .tail _ (.tail _ h)) hoth _ _ i1) (own_end N (fun _ h => .tail _ (.tail _ h)) hoth _ _ i2) (tr1.mono (own_end N (fun _ h => .tail _ (.tail _ h)) hoth)) (tr2.mono (own_end N (fun _ h => .tail _ (.tail _ h)) hoth))⟩
      rw [pLine, e]
      (try dsimp only)
      rw [hp']
      show (if hd0 k = 59 then _ else _) = _
      rw [if_pos hk', e6]
    · rename Fr _ _ _ _ => F
      rename News _ _ _ _ => N
      (try dsimp only)
      refine hR _ _ _ ⟨t', j₄, ?_, ha₄.1, ScanAt.of_news N, step_of F N am.stays (fun p hp => .tail _ (.tail _ (hsub _ hp))), tr1.mono (own_end N (fun _ h => .tail _ (.tail _ h)) hoth)⟩
      rw [pLine, e]
      (try dsimp only)
      rw [hp']
      cases q : tl x j₄ with
      | nil => rfl
      | cons k ts =>
        show (if hd0 k = 59 then _ else _) = _
        rw [if_neg]
        intro hk
        have := hdIn_false (q ▸ (by assumption : hdIn [59] (tl x j₄) = false))
        exact this (by rw [hk]; exact .head _)
end

section
open PySem PySem.W PySem.Calls PySem.Spec PyProof.Rows
variable {w : World} {mean : ExcName → Option Value} {mg mb : Str → Option Value} {B : Heap} {A : Around} {l : List Env} {s : Shared}


theorem block_step {n : Nat} (line : Reads1 w mean mg mb B 234 n 4 (pLine n)) : Reads2 w mean mg mb B (n + 1) := by
  intro A l s sc dx x j k₀ ts am rm S0 hsc fd hx hj e0 hk0 hn
  have T := am.top
  have X := am.inK
  obtain ⟨S1, k1, tx, k2, ti, S2⟩ := S0
  have hne : sc ≠ dx := fun e => by rw [e, S2] at S1; cases S1
  refine call_or (pBlock (n + 1) ts = none) [dx] (by k_is) (by k_is) am rm.ok (binds := [("scanner", .ref sc)]) (BindsTo.of_eq rfl) (locs rfl) ((sc, instObj 209 dx) :: (dx, scanD w x j k1 tx k2 ti) :: others B s.heap [dx]) (scan_news S1 S2 hsc fd) ?_
  intro L h₁ tk₁ R E _ F N am' up hR hE hP
  have hoth := others_ne (B := B) (h := s.heap) (ex := [dx]) (.head _)
  have hW : ∀ a ∈ [dx], Free B l a := fun a ha => by rw [List.mem_singleton.mp ha]; exact fd
  have hsub : ∀ p ∈ others B s.heap [dx], p ∈ others B s.heap [dx] := fun _ h => h
  w_strict (k_steps)
  rename Fr _ _ _ _ => F
  rename News _ _ _ _ => N
  show wpAny _ _ _ _ _ _
  refine use_T (sign_tk (amb_now (W := [dx]) am F N (fun p hp => .tail _ (.tail _ (hsub _ hp))) hW (by rfl) (by rfl)) (rm.deeper.less (by first | (simp +arith only; done) | lia | omega) (by first | (simp +arith only; done) | lia | omega)) (ScanAt.of_news N) hsc (fd.push (N _ (.tail _ (.head _))).2.1 (by rfl)) hx hj e0 (by rw [hk0]; decide)) ?_
  intro hN tkN t1 st j₁ Sn hj₁ htl
  have aft := after F N hoth st Sn
  clear hoth F N st Sn
  obtain ⟨FN, k1, tx, k2, ti, restN, NN, hoth, hsN, hall⟩ := aft
  replace hsub : ∀ p ∈ others B s.heap [dx], p ∈ restN := fun p hp => hsN _ (hsub _ hp)
  clear hsN
  (try dsimp only)
  subst htl
  w_strict (k_steps)
  rename Fr _ _ _ _ => F
  rename News _ _ _ _ => N
  show wpAny _ _ _ _ _ _
  refine (line (amb_now (W := [dx]) am F N (fun p hp => .tail _ (.tail _ (hsub _ hp))) hW (by rfl) (by rfl)) (rm.deeper.less (by first | (simp +arith only; done) | lia | omega) (by first | (simp +arith only; done) | lia | omega)) (ScanAt.of_news N) hsc (fd.push (N _ (.tail _ (.head _))).2.1 (by rfl)) hx hj₁ (by first | (simp +arith only; done) | lia | omega)).use ?_ ?_
  rotate_left
  · rintro e' hN tkN ⟨hC, bo⟩
    refine bad_through am F N (fun p hp => .tail _ (.tail _ (hsub _ hp))) ?_ bo hE
    rw [pBlock, hC]
  rintro v hN tkN ⟨t, j₂, e, hj₂, Sn, st, tr⟩
  have aft := after F N hoth st Sn
  clear hoth F N st Sn
  obtain ⟨FN, k1, tx, k2, ti, restN, NN, hoth, hsN, hall⟩ := aft
  replace hsub : ∀ p ∈ others B s.heap [dx], p ∈ restN := fun p hp => hsN _ (hsub _ hp)
  clear hsN
  (try dsimp only)
  have tr1 := tr.mono (own_out hall rfl)
  clear tr
  w_strict (k_steps)
  rename Fr _ _ _ _ => F
  rename News _ _ _ _ => N
  show wpAny _ _ _ _ _ _
  refine use_B (next_tk (amb_now (W := [dx]) am F N (fun p hp => .tail _ (.tail _ (hsub _ hp))) hW (by rfl) (by rfl)) (rm.deeper.less (by first | (simp +arith only; done) | lia | omega) (by first | (simp +arith only; done) | lia | omega)) (ScanAt.of_news N) hsc (fd.push (N _ (.tail _ (.head _))).2.1 (by rfl)) hx hj₂) ?_
  intro hN tkN st j₃ Sn ha₃ htl
  have aft := after F N hoth st Sn
  clear hoth F N st Sn
  obtain ⟨FN, k1, tx, k2, ti, restN, NN, hoth, hsN, hall⟩ := aft
  replace tr1 := tr1.mono (inR_sub hsN)
  replace hsub : ∀ p ∈ others B s.heap [dx], p ∈ restN := fun p hp => hsN _ (hsub _ hp)
  clear hsN
  (try dsimp only)
  rw [← htl] at e
  rw [← htl, close_lt]
  clear htl hj₂
  w_strict (k_steps)
  · obtain ⟨k, ts2, e2, hk⟩ := hdIn_true (by assumption)
    have hk' : hd0 k = 41 := by simpa using hk
    have hkS : isS (hd0 k) = true := by rw [hk']; decide
    rw [e2] at e
    rename Fr _ _ _ _ => F
    rename News _ _ _ _ => N
    show wpAny _ _ _ _ _ _
    refine use_T (sign_tk (amb_now (W := [dx]) am F N (fun p hp => .tail _ (.tail _ (hsub _ hp))) hW (by rfl) (by rfl)) (rm.deeper.less (by first | (simp +arith only; done) | lia | omega) (by first | (simp +arith only; done) | lia | omega)) (ScanAt.of_news N) hsc (fd.push (N _ (.tail _ (.head _))).2.1 (by rfl)) hx ha₃ e2 hkS) ?_
    intro hN tkN t1 st j₄ Sn hj₄ htl
    have aft := after F N hoth st Sn
    clear hoth F N st Sn
    obtain ⟨FN, k1, tx, k2, ti, restN, NN, hoth, hsN, hall⟩ := aft
    replace tr1 := tr1.mono (inR_sub hsN)
    replace hsub : ∀ p ∈ others B s.heap [dx], p ∈ restN := fun p hp => hsN _ (hsub _ hp)
    clear hsN
    (try dsimp only)
    subst htl
    w_strict (k_steps)
    rename Fr _ _ _ _ => F
    rename News _ _ _ _ => N
    show wpAny _ _ _ _ _ _
    refine (redirects_spec (amb_now (W := [dx]) am F N (fun p hp => .tail _ (.tail _ (hsub _ hp))) hW (by rfl) (by rfl)) (rm.deeper.less (by first | (simp +arith only; done) | lia | omega) (by first | (simp +arith only; done) | lia | omega)) (ScanAt.of_news N) hsc (fd.push (N _ (.tail _ (.head _))).2.1 (by rfl)) hx hj₄ _).use ?_ ?_
    rotate_left
    · rintro e' hN tkN ⟨hC, bo⟩
      refine bad_through am F N (fun p hp => .tail _ (.tail _ (hsub _ hp))) ?_ bo hE
      rw [pBlock, e]
      show (if hd0 k = 41 then _ else _) = none
      rw [if_pos hk', hC]
    rintro v2 hN tkN ⟨rd, j₅, e5, hj₅, Sn, st, ri⟩
    have aft := after F N hoth st Sn
    clear hoth F N st Sn
    obtain ⟨FN, k1, tx, k2, ti, restN, NN, hoth, hsN, hall⟩ := aft
    replace tr1 := tr1.mono (inR_sub hsN)
    replace hsub : ∀ p ∈ others B s.heap [dx], p ∈ restN := fun p hp => hsN _ (hsub _ hp)
    clear hsN
    (try dsimp only)
    have ri1 := ri.mono (own_out hall rfl)
    clear ri
    w_strict (k_steps)
    rename Fr _ _ _ _ => F
    rename News _ _ _ _ => N
    (try dsimp only)
    refine hR _ _ _ ⟨appR t rd, j₅, ?_, hj₅, ScanAt.of_news N, step_of F N am.stays (fun p hp => .tail _ (.tail _ (hsub _ hp))), (ri1.tree tr1).mono (own_end N (fun _ h => .tail _ (.tail _ h)) hoth)⟩
    rw [pBlock, e]
    show (if hd0 k = 41 then _ else _) = _
    rw [if_pos hk', e5]
  · rename Fr _ _ _ _ => F
    rename News _ _ _ _ => N
    refine exec_raise am.hand ?_
    w_strict (k_steps)
    rename Fr _ _ _ _ => F
    rename News _ _ _ _ => N
    show wpAny _ _ _ _ _ _
    refine (fault_spec (amb_now (W := [dx]) am F N (fun p hp => .tail _ (.tail _ (hsub _ hp))) hW (by rfl) (by rfl)) (rm.deeper.less (by first | (simp +arith only; done) | lia | omega) (by first | (simp +arith only; done) | lia | omega)) (by decide +kernel)).use ?_
    intro v' h' tk' bn
    refine bad_ready am F N (fun p hp => .tail _ (.tail _ (hsub _ hp))) hW rfl rfl ?_ bn hE
    rw [pBlock, e]
    cases q : tl x j₃ with
    | nil => rfl
    | cons k ts =>
      show (if hd0 k = 41 then _ else _) = none
      rw [if_neg]
      intro hk
      have := hdIn_false (q ▸ (by assumption : hdIn [41] (tl x j₃) = false))
      exact this (by rw [hk]; exact .head _)
end

section
open PySem PySem.W PySem.Calls PySem.Spec PyProof.Rows
variable {w : World} {mean : ExcName → Option Value} {mg mb : Str → Option Value} {B : Heap} {A : Around} {l : List Env} {s : Shared}


inductive After2 (B : Heap) (L : Addr) (h' : Heap) (m : Str → Option Value) (sc : Addr) (dx : Addr) (w : World) (x : Str) (i' : Int) (al : Addr) (lo : Obj) (rest : List (Addr × Obj))  : Prop
  | mk : (Fr B L h' m) → ∀ k1 tx k2 ti rest', (News B L h' ((sc, instObj 209 dx) :: (dx, scanD w x i' k1 tx k2 ti) :: (al, lo) :: rest')) → ((∀ p ∈ rest', p.1 ≠ dx)) → ((∀ p ∈ rest', p.1 ≠ al)) → ((∀ p ∈ rest, p ∈ rest')) → ((∀ a o, h'.get? a = some o → a ≠ L → a ≠ dx → a ≠ al → B.get? a = none → (a, o) ∈ rest')) → After2 B L h' m sc dx w x i' al lo rest
/- behind a call that turned the scanner alone, a list of the def's own at hand -/
theorem after2 {h h' : Heap} {L sc dx al : Addr} {m : Str → Option Value} {x : Str} {i i' : Int} {k1 tx k2 ti : Tok} {lo : Obj} {rest : List (Addr × Obj)} (F : Fr B L h m) (N : News B L h ((sc, instObj 209 dx) :: (dx, scanD w x i k1 tx k2 ti) :: (al, lo) :: rest))
    (hd : ∀ p ∈ rest, p.1 ≠ dx) (hd2 : ∀ p ∈ rest, p.1 ≠ al) (hal : al ≠ dx) (st : Step [dx] h h') (S : ScanAt w h' sc dx x i') :
    After2 B L h' m sc dx w x i' al lo rest := by
  obtain ⟨S1, k1, tx, k2, ti, S2⟩ := S
  have n1 := N _ (.head _)
  have n2 := N _ (.tail _ (.head _))
  have n3 := N _ (.tail _ (.tail _ (.head _)))
  obtain ⟨F', rest', N', a1, a2, a3⟩ := snap (X := [dx, al]) (ex := [(sc, instObj 209 dx), (dx, scanD w x i _ _ _ _), (al, lo)]) (rest := rest) F N st (fun hm => n2.2.1 (List.mem_singleton.mp hm).symm) (fun a hm => by rw [List.mem_singleton.mp hm]; exact n2.2.2)
    [(sc, instObj 209 dx), (dx, scanD w x i' k1 tx k2 ti), (al, lo)] (fun p hp => by
      rcases List.mem_cons.mp hp with rfl | hp
      · exact ⟨S1, n1.2⟩
      rcases List.mem_cons.mp hp with rfl | hp
      · exact ⟨S2, n2.2⟩
      · rw [List.mem_singleton.mp hp]; exact ⟨st _ _ n3.1 (fun hm => hal (List.mem_singleton.mp hm)), n3.2⟩)
  have nx : ∀ a, a ≠ dx → a ≠ al → a ∉ [dx, al] := fun a q1 q2 hm => by
    rcases List.mem_cons.mp hm with e | e
    · exact q1 e
    · exact q2 (List.mem_singleton.mp e)
  exact ⟨F', k1, tx, k2, ti, rest', N', a3 dx (.head _), a3 al (.tail _ (.head _)), fun p hp => a1 p hp (fun hm => hd p hp (List.mem_singleton.mp hm)) (nx _ (hd p hp) (hd2 p hp)), fun a o e h1 h2 h3 h4 => a2 a o e h1 (nx _ h2 h3) h4⟩

inductive AfterRun (B : Heap) (L : Addr) (h' : Heap) (m : Str → Option Value) (sc : Addr) (dx : Addr) (w : World) (x : Str) (i : Int) (k1 : Tok) (tx : Tok) (k2 : Tok) (ti : Tok) (l : List Env) (rest : List (Addr × Obj)) (v : Value)  : Prop
  | mk : (Fr B L h' m) → ∀ rest' al n2, (News B L h' ((sc, instObj 209 dx) :: (dx, scanD w x i k1 tx k2 ti) :: (al, listOf #[] n2) :: rest')) → ((∀ p ∈ rest', p.1 ≠ dx)) → ((∀ p ∈ rest', p.1 ≠ al)) → (al ≠ dx) → (Free B l al) → ((∀ p ∈ rest, p ∈ rest')) → ∀ y d ka, (v = .ref y) → (InR B l rest' y (instObj 83 d)) → (InR B l rest' d (dictOf [ent w "arguments" ka (.ref al)] 1)) → AfterRun B L h' m sc dx w x i k1 tx k2 ti l rest v
theorem after_run {h₀ h h' : Heap} {L sc dx : Addr} {m : Str → Option Value} {x : Str} {i : Int} {k1 tx k2 ti : Tok} {rest : List (Addr × Obj)} {v : Value} {env : Env} (am : Amb w mean mg mb B A l h₀) (F : Fr B L h m)
    (N : News B L h ((sc, instObj 209 dx) :: (dx, scanD w x i k1 tx k2 ti) :: rest)) (hs : ∀ p ∈ others B h₀ [dx], p ∈ rest) (hW : ∀ a ∈ [dx], Free B l a) (hf : env.frame = some L) (hk : env.scope.kind = .function)
    (hd : ∀ p ∈ rest, p.1 ≠ dx) (md : Made 83 h h' v fun od => ∃ k1 a2 n2, od = dictOf [ent w "arguments" k1 (.ref a2)] 1 ∧ h.get? a2 = none ∧ h'.get? a2 = some (listOf #[] n2)) :
    AfterRun B L h' m sc dx w x i k1 tx k2 ti l rest v := by
  obtain ⟨y, d, od, rfl, st, f1, f2, ne, g1, g2, ka, al, n2, rfl, f3, g3⟩ := md
  have st' : ∀ a o, h.get? a = some o → h'.get? a = some o := fun a o q => st a o q (fun hm => nomatch hm)
  have a := amb_now am F N (fun p hp => .tail _ (.tail _ (hs _ hp))) hW hf hk
  have n1 := N _ (.head _)
  have n2' := N _ (.tail _ (.head _))
  have fr : ∀ a, h.get? a = none → Free B (env :: l) a := fun b q => ⟨not_base F.keep q, fun hm => by
    obtain ⟨_, o, ho, _⟩ := a.funs.mem hm
    rw [q] at ho; cases ho⟩
  have nd : ∀ a, h.get? a = none → a ≠ dx := fun a q z => by rw [z, n2'.1] at q; cases q
  have ny : y ≠ al := fun q => by rw [q, g3] at g1; cases g1
  have nd2 : d ≠ al := fun q => by
    rw [q, g3] at g2
    have := congrArg (fun o : Option Obj => o.map (·.cls)) g2
    revert this
    simp
  obtain ⟨F', rest', N', a1, a2, a3⟩ := snap (X := [dx, al]) (ex := [(sc, instObj 209 dx), (dx, scanD w x i k1 tx k2 ti)]) (rest := rest) F N st (fun hm => nomatch hm) (fun a hm => nomatch hm)
    [(sc, instObj 209 dx), (dx, scanD w x i k1 tx k2 ti), (al, listOf #[] n2)] (fun p hp => by
      rcases List.mem_cons.mp hp with rfl | hp
      · exact ⟨st' _ _ n1.1, n1.2⟩
      rcases List.mem_cons.mp hp with rfl | hp
      · exact ⟨st' _ _ n2'.1, n2'.2⟩
      · rw [List.mem_singleton.mp hp]; exact ⟨g3, (fr _ f3).ne hf, (fr _ f3).base⟩)
  have nx : ∀ a, a ≠ dx → a ≠ al → a ∉ [dx, al] := fun a q1 q2 hm => by
    rcases List.mem_cons.mp hm with e | e
    · exact q1 e
    · exact q2 (List.mem_singleton.mp e)
  refine ⟨F', rest', al, n2, N', a3 dx (.head _), a3 al (.tail _ (.head _)), nd _ f3, (fr _ f3).drop, fun p hp => a1 p hp (fun hm => nomatch hm) (nx _ (hd p hp) fun q => ?_), y, d, ka, rfl,
    ⟨a2 _ _ g1 ((fr _ f1).ne hf) (nx _ (nd _ f1) ny) (fr _ f1).base, (fr _ f1).drop⟩, ⟨a2 _ _ g2 ((fr _ f2).ne hf) (nx _ (nd _ f2) nd2) (fr _ f2).base, (fr _ f2).drop⟩⟩
  have := (N p (.tail _ (.tail _ hp))).1
  rw [q, f3] at this
  cases this

/- no part of a redirection is a list -/
theorem RedObj.mono' {P P' : Addr → Obj → Prop} (hp : ∀ a o, o.cls ≠ .type "list" → P a o → P' a o) {x : Addr} {v : Value} {k : Nat} {p : Tk} (h : RedObj w P x v k p) : RedObj w P' x v k p :=
  let ⟨dx, k1, k2, k3, k4, tp, tm, td, a, b⟩ := h; ⟨dx, k1, k2, k3, k4, tp, tm, td, hp _ _ (fun q => nomatch q) a, hp _ _ (fun q => by injection q with q; revert q; decide) b⟩
theorem RedIn.mono' {P P' : Addr → Obj → Prop} (hp : ∀ a o, o.cls ≠ .type "list" → P a o → P' a o) {v0 v : Value} {rd : Rd} (h : RedIn w P v0 v rd) : RedIn w P' v0 v rd := by
  induction h with
  | nil => exact .nil
  | snoc _ b ih => exact .snoc ih (b.mono' hp)
theorem own_out' {h : Heap} {L dx al : Addr} {rest : List (Addr × Obj)} {env : Env} {vs : Array Value} {c : Nat} (hal : h.get? al = some (listOf vs c)) (hall : ∀ a o, h.get? a = some o → a ≠ L → a ≠ dx → a ≠ al → B.get? a = none → (a, o) ∈ rest) (he : env.frame = some L) :
    ∀ a o, o.cls ≠ .type "list" → Own B (env :: l) dx h a o → InR B l rest a o :=
  fun a o hc q => ⟨hall a o q.1 (q.2.1.ne he) q.2.2 (fun z => hc (by
    have h1 := q.1
    rw [z, hal] at h1
    cases h1
    rfl)) q.2.1.base, q.2.1.drop⟩
end

local macro_rules | `(tactic| walk_at "call builtin:len") => `(tactic| (k_here; (with_reducible show wpAny _ _ (call _ [Value.ref _]) _ _ _); with_unfolding_all refine len_list (News.isList (by assumption) (by k_mem)) (by walk_at "z") ?_))

local macro_rules | `(tactic| walk_at "call builtin:list.append") => `(tactic| (k_here; (with_unfolding_all refine append_K (by k_asm) (by k_asm) (by k_upd) ?_ (by rw [sizeLine_eq]; first | exact Nat.le_trans (m := 10000) (by walk_at "r") (by decide) | lia)); walk_at "3"))

local macro_rules | `(tactic| k_ne) => `(tactic| first | assumption | exact Ne.symm (by assumption))

section

section
open PySem PySem.W PySem.Calls PySem.Spec PyProof.Rows
variable {w : World} {mean : ExcName → Option Value} {mg mb : Str → Option Value} {B : Heap} {A : Around} {l : List Env} {s : Shared}


noncomputable def map3 (v1 v2 v3 : Option Value) : Str → Option Value := fun y => if y = Str.ofString "found" then v1 else if y = Str.ofString "program" then v2 else if y = Str.ofString "scanner" then v3 else none

inductive CmdLoop (x : Str) (s : Shared) (B : Heap) (L : Addr) (pa : Addr) (sc : Addr) (dx : Addr) (w : World) (al : Addr) (l : List Env) (d : Addr) (ka : Tok) (j₂ : Nat) (rd0 : Rd) (m : Nat) (s' : Shared) : Prop
  | mk : ∀ h' tk' j' k1 tx k2 ti v vs c args rd rest f, (m = (tl x j').length) → (j' ≤ x.length) → (s' = { s with heap := h', toks := tk' }) → (Fr B L h' (map3 (some v) (some (.ref pa)) (some (.ref sc)))) → (News B L h' ((sc, instObj 209 dx) :: (dx, scanD w x (j' : Nat) k1 tx k2 ti) :: (al, listOf vs c) :: rest)) → ((∀ p ∈ rest, p.1 ≠ dx)) → ((∀ p ∈ rest, p.1 ≠ al)) → ((∀ p ∈ others B s.heap [dx], p ∈ rest)) → (InR B l rest pa (instObj 83 d)) → (InR B l rest d (dictOf [ent w "arguments" ka (.ref al)] 1)) → (StrsI vs.toList args) → (args.length ≤ 9) → (RedIn w (InR B l rest) (.ref pa) v rd) → ((tl x j').length < f) → (pArgs f args rd (tl x j') = pArgs ((tl x j₂).length + 1) [] rd0 (tl x j₂)) → CmdLoop x s B L pa sc dx w al l d ka j₂ rd0 m s'
theorem cmd_step {n : Nat} (block : Reads2 w mean mg mb B n) : Reads1 w mean mg mb B 262 (n + 1) 2 (pCmd (n + 1)) := by
  intro A l s sc dx x j am rm S0 hsc fd hx hj hn
  have T := am.top
  have X := am.inK
  obtain ⟨S1, k1, tx, k2, ti, S2⟩ := S0
  have hne : sc ≠ dx := fun e => by rw [e, S2] at S1; cases S1
  refine call_or (pCmd (n + 1) (tl x j) = none) [dx] (by k_is) (by k_is) am rm.ok (binds := [("scanner", .ref sc)]) (BindsTo.of_eq rfl) (locs rfl) ((sc, instObj 209 dx) :: (dx, scanD w x j k1 tx k2 ti) :: others B s.heap [dx]) (scan_news S1 S2 hsc fd) ?_
  intro L h₁ tk₁ R E _ F N am' up hR hE hP
  have hoth := others_ne (B := B) (h := s.heap) (ex := [dx]) (.head _)
  have hW : ∀ a ∈ [dx], Free B l a := fun a ha => by rw [List.mem_singleton.mp ha]; exact fd
  have hsub : ∀ p ∈ others B s.heap [dx], p ∈ others B s.heap [dx] := fun _ h => h
  w_strict (k_steps)
  rename Fr _ _ _ _ => F
  rename News _ _ _ _ => N
  show wpAny _ _ _ _ _ _
  refine use_B (next_tk (amb_now (W := [dx]) am F N (fun p hp => .tail _ (.tail _ (hsub _ hp))) hW (by rfl) (by rfl)) (rm.deeper.less (by first | (simp +arith only; done) | lia | omega) (by first | (simp +arith only; done) | lia | omega)) (ScanAt.of_news N) hsc (fd.push (N _ (.tail _ (.head _))).2.1 (by rfl)) hx hj) ?_
  intro hN tkN st j₁ Sn ha₁ htl
  have aft := after F N hoth st Sn
  clear hoth F N st Sn
  obtain ⟨FN, k1, tx, k2, ti, restN, NN, hoth, hsN, hall⟩ := aft
  replace hsub : ∀ p ∈ others B s.heap [dx], p ∈ restN := fun p hp => hsN _ (hsub _ hp)
  clear hsN
  (try dsimp only)
  rw [← htl] at hn hR hE ⊢
  rw [open_lt]
  clear htl hj
  w_strict (k_steps)
  · obtain ⟨k, ts, e2, hk⟩ := hdIn_true (by assumption)
    have hk' : hd0 k = 40 := by simpa using hk
    have ep : pCmd (n + 1) (k :: ts) = pBlock n ts := by rw [pCmd, if_pos hk']
    rw [e2, wt_cons _ (.inl hk')] at hn
    rw [e2, ep] at hR hE
    rename Fr _ _ _ _ => F
    rename News _ _ _ _ => N
    show wpAny _ _ _ _ _ _
    refine (block (amb_now (W := [dx]) am F N (fun p hp => .tail _ (.tail _ (hsub _ hp))) hW (by rfl) (by rfl)) (rm.deeper.less (by first | (simp +arith only; done) | lia | omega) (by first | (simp +arith only; done) | lia | omega)) (ScanAt.of_news N) hsc (fd.push (N _ (.tail _ (.head _))).2.1 (by rfl)) hx ha₁ e2 hk' (by first | (simp +arith only; done) | lia | omega)).use ?_ ?_
    rotate_left
    · rintro e' hN tkN ⟨hC, bo⟩
      refine bad_through am F N (fun p hp => .tail _ (.tail _ (hsub _ hp))) ?_ bo hE
      exact hC
    rintro v hN tkN ⟨t, j₂, e, hj₂, Sn, st, tr⟩
    have aft := after F N hoth st Sn
    clear hoth F N st Sn
    obtain ⟨FN, k1, tx, k2, ti, restN, NN, hoth, hsN, hall⟩ := aft
    have tr1 := tr.mono (own_out hall rfl)
    replace hsub : ∀ p ∈ others B s.heap [dx], p ∈ restN := fun p hp => hsN _ (hsub _ hp)
    clear hsN tr
    (try dsimp only)
    w_strict (k_steps)
    rename Fr _ _ _ _ => F
    rename News _ _ _ _ => N
    (try dsimp only)
    exact hR _ _ _ ⟨t, j₂, e, hj₂, ScanAt.of_news N, step_of F N am.stays (fun p hp => .tail _ (.tail _ (hsub _ hp))), tr1.mono (own_end N (fun _ h => .tail _ (.tail _ h)) hoth)⟩
  · rw [pCmd_run (by assumption)] at hR hE
    w_strict (k_steps)
    rename Fr _ _ _ _ => F
    rename News _ _ _ _ => N
    show wpAny _ _ _ _ _ _
    refine (new_run (amb_now (W := [dx]) am F N (fun p hp => .tail _ (.tail _ (.tail _ (hsub _ hp)))) hW (by rfl) (by rfl)) (rm.deeper.less (by first | (simp +arith only; done) | lia | omega) (by first | (simp +arith only; done) | lia | omega)) (N _ (.head _)).1 (N _ (.head _)).2.2).use ?_
    intro v' hN tkN md
    have aft := after_run (env := (envOf (Str.ofString "parse_command") { kind := ScopeKind.function, names := [(Str.ofString "scanner", NameKind.local), (Str.ofString "program", NameKind.local), (Str.ofString "found", NameKind.local), (Str.ofString "parse_block", NameKind.globalImplicit), (Str.ofString "Run", NameKind.globalImplicit), (Str.ofString "parse_redirects", NameKind.globalImplicit), (Str.ofString "fault", NameKind.globalImplicit), (Str.ofString "len", NameKind.globalImplicit), (Str.ofString "MOST_ARGUMENTS", NameKind.globalImplicit)], isGenerator := false, isCoroutine := false } L 262 (Value.ref 261))) am F (fun p hp => N p (.tail _ hp)) hsub hW rfl rfl hoth md
    clear hoth F N md
    obtain ⟨FN, rest, al, c, NN, hoth, hot2, hal, hfal, hsN, pa, d, ka, rfl, i1, i2⟩ := aft
    replace hsub : ∀ p ∈ others B s.heap [dx], p ∈ rest := fun p hp => hsN _ (hsub _ hp)
    clear hsN
    (try dsimp only)
    w_strict (k_steps)
    rename Fr _ _ _ _ => F
    rename News _ _ _ _ => N
    show wpAny _ _ _ _ _ _
    refine (redirects_spec (amb_now (W := [dx]) am F N (fun p hp => .tail _ (.tail _ (.tail _ (hsub _ hp)))) hW (by rfl) (by rfl)) (rm.deeper.less (by first | (simp +arith only; done) | lia | omega) (by first | (simp +arith only; done) | lia | omega)) (ScanAt.of_news N) hsc (fd.push (N _ (.tail _ (.head _))).2.1 (by rfl)) hx ha₁.1 _).use ?_ ?_
    rotate_left
    · rintro e' hN tkN ⟨hC, bo⟩
      refine bad_through am F N (fun p hp => .tail _ (.tail _ (.tail _ (hsub _ hp)))) ?_ bo hE
      unfold pRun
      rw [hC]
    rintro v0 hN tkN ⟨rd0, j₂, e2, hj₂, Sn, st, ri⟩
    have aft := after2 F N hoth hot2 hal st Sn
    clear hoth hot2 F N st Sn
    obtain ⟨FN, k1, tx, k2, ti, restN, NN, hoth, hot2, hsN, hall⟩ := aft
    replace hsub : ∀ p ∈ others B s.heap [dx], p ∈ restN := fun p hp => hsN _ (hsub _ hp)
    replace i1 := inR_sub hsN _ _ i1
    replace i2 := inR_sub hsN _ _ i2
    clear hsN
    (try dsimp only)
    have ri1 := ri.mono' (own_out' (NN _ (.tail _ (.tail _ (.head _)))).1 hall rfl)
    clear ri hall
    w_strict (k_steps)
    rename Fr _ _ _ _ => F
    rename News _ _ _ _ => N
    have F' : Fr B L _ (map3 (some v0) (some (.ref pa)) (some (.ref sc))) := fr_congr F fun y => by
      unfold map3
      by_cases q0 : y = Str.ofString "found"
      · subst q0; rfl
      by_cases q1 : y = Str.ofString "program"
      · subst q1; rfl
      by_cases q2 : y = Str.ofString "scanner"
      · subst q2; rfl
      rw [if_neg q0, if_neg q1, if_neg q0, if_neg q1, if_neg q2, lk1, if_neg q2]
    show wpAny _ _ _ _ _ _
    refine while_rule (CmdLoop x s B L pa sc dx w al l d ka j₂ rd0) ?_ _
      ⟨_, _, j₂, _, _, _, _, v0, #[], _, [], rd0, _, _, rfl, hj₂, rfl, F', N, hoth, hot2, hsub, i1, i2, .nil, Nat.zero_le _, ri1, Nat.lt_succ_self _, rfl⟩ hP
    have ep := pRun_eq e2
    clear F' F N hoth hot2 hsub ri1 i1 i2
    rintro m s' ⟨h', tk', j', k1, tx, k2, ti, v, vs, c, args, rd, rest, f, rfl, hj', rfl, F, N, hoth, hot2, hsub, i1, i2, hvs, hl9, ri1, hf, hp⟩
    w_strict (k_steps)
    rename Fr _ _ _ _ => F
    rename News _ _ _ _ => N
    show wpAny _ _ _ _ _ _
    refine use_B (at_end_tk (amb_now (W := [dx]) am F N (fun p hp => .tail _ (.tail _ (.tail _ (hsub _ hp)))) hW (by rfl) (by rfl)) (rm.deeper.less (by first | (simp +arith only; done) | lia | omega) (by first | (simp +arith only; done) | lia | omega)) (ScanAt.of_news N) hsc (fd.push (N _ (.tail _ (.head _))).2.1 (by rfl)) hx hj') ?_
    intro hN tkN st j₃ Sn ha₃ htl
    have aft := after2 F N hoth hot2 hal st Sn
    clear hoth hot2 F N st Sn
    obtain ⟨FN, k1, tx, k2, ti, restN, NN, hoth, hot2, hsN, hall⟩ := aft
    replace ri1 := ri1.mono (inR_sub hsN)
    replace hsub : ∀ p ∈ others B s.heap [dx], p ∈ restN := fun p hp => hsN _ (hsub _ hp)
    replace i1 := inR_sub hsN _ _ i1
    replace i2 := inR_sub hsN _ _ i2
    clear hsN
    (try dsimp only)
    rw [← htl] at hp hf ⊢
    clear htl hj'
    w_strict (k_steps)
    · have e0 : tl x j₃ = [] := by assumption
      rename Fr _ _ _ _ => F
      rename News _ _ _ _ => N
      (try dsimp only)
      rw [pArgs_stop args rd hf (.inl e0)] at hp
      refine hR _ _ _ ⟨appR (.run args) rd, j₃, ?_, ha₃.1, ScanAt.of_news N, step_of F N am.stays (fun p hp => .tail _ (.tail _ (.tail _ (hsub _ hp)))), (ri1.mono (own_end N (fun _ h => .tail _ (.tail _ (.tail _ h))) hoth)).tree (.run (own_end N (fun _ h => .tail _ (.tail _ (.tail _ h))) hoth _ _ i1) (own_end N (fun _ h => .tail _ (.tail _ (.tail _ h))) hoth _ _ i2) ⟨(N _ (.tail _ (.tail _ (.head _)))).1, hfal, hal⟩ hvs)⟩
      rw [ep, ← hp]
      rfl
    · have ne0 : ¬ tl x j₃ = [] := by assumption
      rename Fr _ _ _ _ => F
      rename News _ _ _ _ => N
      show wpAny _ _ _ _ _ _
      refine use_B (next_tk (amb_now (W := [dx]) am F N (fun p hp => .tail _ (.tail _ (.tail _ (hsub _ hp)))) hW (by rfl) (by rfl)) (rm.deeper.less (by first | (simp +arith only; done) | lia | omega) (by first | (simp +arith only; done) | lia | omega)) (ScanAt.of_news N) hsc (fd.push (N _ (.tail _ (.head _))).2.1 (by rfl)) hx ha₃.1) ?_
      intro hN tkN st j₄ Sn ha₄ htl
      have aft := after2 F N hoth hot2 hal st Sn
      clear hoth hot2 F N st Sn
      obtain ⟨FN, k1, tx, k2, ti, restN, NN, hoth, hot2, hsN, hall⟩ := aft
      replace ri1 := ri1.mono (inR_sub hsN)
      replace hsub : ∀ p ∈ others B s.heap [dx], p ∈ restN := fun p hp => hsN _ (hsub _ hp)
      replace i1 := inR_sub hsN _ _ i1
      replace i2 := inR_sub hsN _ _ i2
      clear hsN
      (try dsimp only)
      rw [← htl] at hp hf ne0
      rw [← htl, end_lt]
      clear htl ha₃
      w_strict (k_steps)
      · have e1 : hdIn [124, 41, 38, 59] (tl x j₄) = true := by assumption
        rename Fr _ _ _ _ => F
        rename News _ _ _ _ => N
        (try dsimp only)
        rw [pArgs_stop args rd hf (.inr e1)] at hp
        refine hR _ _ _ ⟨appR (.run args) rd, j₄, ?_, ha₄.1, ScanAt.of_news N, step_of F N am.stays (fun p hp => .tail _ (.tail _ (.tail _ (hsub _ hp)))), (ri1.mono (own_end N (fun _ h => .tail _ (.tail _ (.tail _ h))) hoth)).tree (.run (own_end N (fun _ h => .tail _ (.tail _ (.tail _ h))) hoth _ _ i1) (own_end N (fun _ h => .tail _ (.tail _ (.tail _ h))) hoth _ _ i2) ⟨(N _ (.tail _ (.tail _ (.head _)))).1, hfal, hal⟩ hvs)⟩
        rw [ep, ← hp]
        rfl
      · have ne1 : hdIn [124, 41, 38, 59] (tl x j₄) = false := by assumption
        rename Fr _ _ _ _ => F
        rename News _ _ _ _ => N
        show wpAny _ _ _ _ _ _
        refine use_B (is_word_tk (amb_now (W := [dx]) am F N (fun p hp => .tail _ (.tail _ (.tail _ (hsub _ hp)))) hW (by rfl) (by rfl)) (rm.deeper.less (by first | (simp +arith only; done) | lia | omega) (by first | (simp +arith only; done) | lia | omega)) (ScanAt.of_news N) hsc (fd.push (N _ (.tail _ (.head _))).2.1 (by rfl)) hx ha₄.1) ?_
        intro hN tkN st j₅ Sn ha₅ htl
        have aft := after2 F N hoth hot2 hal st Sn
        clear hoth hot2 F N st Sn
        obtain ⟨FN, k1, tx, k2, ti, restN, NN, hoth, hot2, hsN, hall⟩ := aft
        replace ri1 := ri1.mono (inR_sub hsN)
        replace hsub : ∀ p ∈ others B s.heap [dx], p ∈ restN := fun p hp => hsN _ (hsub _ hp)
        replace i1 := inR_sub hsN _ _ i1
        replace i2 := inR_sub hsN _ _ i2
        clear hsN
        (try dsimp only)
        rw [← htl] at hp hf ne0 ne1
        rw [← htl]
        clear htl ha₄
        have hda : dx ≠ al := Ne.symm hal
        have nea : sc ≠ al := fun q => by
          have h1 := (NN _ (.head _)).1
          have h3 := (NN _ (.tail _ (.tail _ (.head _)))).1
          rw [← q, h1] at h3
          cases h3
        have nep : pa ≠ al := hot2 _ i1.1
        have ned : d ≠ al := hot2 _ i2.1
        have NE : News B L hN ((sc, instObj 209 dx) :: (dx, scanD w x (j₅ : Nat) k1 tx k2 ti) :: (al, listOf vs c) :: (pa, instObj 83 d) :: (d, dictOf [ent w "arguments" ka (.ref al)] 1) :: restN) := all_cons (NN _ (.head _)) (all_cons (NN _ (.tail _ (.head _))) (all_cons (NN _ (.tail _ (.tail _ (.head _)))) (all_cons (NN _ (.tail _ (.tail _ (.tail _ i1.1)))) (all_cons (NN _ (.tail _ (.tail _ (.tail _ i2.1)))) (fun p hp => NN _ (.tail _ (.tail _ (.tail _ hp))))))))
        have hx0 : ∀ p ∈ (pa, instObj 83 d) :: (d, dictOf [ent w "arguments" ka (.ref al)] 1) :: restN, p ∈ restN := all_cons (i1.1) (all_cons (i2.1) (fun p hp => hp))
        have hothX : ∀ p ∈ (pa, instObj 83 d) :: (d, dictOf [ent w "arguments" ka (.ref al)] 1) :: restN, p.1 ≠ dx := fun p hp => hoth _ (hx0 p hp)
        have hot2X : ∀ p ∈ (pa, instObj 83 d) :: (d, dictOf [ent w "arguments" ka (.ref al)] 1) :: restN, p.1 ≠ al := fun p hp => hot2 _ (hx0 p hp)
        have hsubX : ∀ p ∈ others B s.heap [dx], p ∈ (pa, instObj 83 d) :: (d, dictOf [ent w "arguments" ka (.ref al)] 1) :: restN := fun p hp => .tail _ (.tail _ (hsub _ hp))
        have ri1X := ri1.mono (inR_sub (l := l) (rest' := (pa, instObj 83 d) :: (d, dictOf [ent w "arguments" ka (.ref al)] 1) :: restN) fun p hp => .tail _ (.tail _ hp))
        have i1X : InR B l ((pa, instObj 83 d) :: (d, dictOf [ent w "arguments" ka (.ref al)] 1) :: restN) pa (instObj 83 d) := ⟨.head _, i1.2⟩
        have i2X : InR B l ((pa, instObj 83 d) :: (d, dictOf [ent w "arguments" ka (.ref al)] 1) :: restN) d (dictOf [ent w "arguments" ka (.ref al)] 1) := ⟨.tail _ (.head _), i2.2⟩
        clear NN hoth hot2 hsub ri1 i1 i2 hall
        have NN := NE
        have hoth := hothX
        have hot2 := hot2X
        have hsub := hsubX
        have ri1 := ri1X
        have i1 := i1X
        have i2 := i2X
        clear NE hothX hot2X hsubX ri1X i1X i2X
        have hvz : vs.size ≤ 9 := by
          have h1 := hvs.length
          rw [Array.length_toList] at h1
          (first | lia | omega)
        w_strict (k_steps)
        · have hw : hdWd (tl x j₅) = true := by assumption
          rename Fr _ _ _ _ => F
          rename News _ _ _ _ => N
          refine exec_raise am.hand ?_
          w_strict (k_steps)
          rename Fr _ _ _ _ => F
          rename News _ _ _ _ => N
          show wpAny _ _ _ _ _ _
          refine (fault_spec (amb_now (W := [dx]) am F N (fun p hp => .tail _ (.tail _ (.tail _ (hsub _ hp)))) hW (by rfl) (by rfl)) (rm.deeper.less (by first | (simp +arith only; done) | lia | omega) (by first | (simp +arith only; done) | lia | omega)) (by decide +kernel)).use ?_
          intro v' h' tk' bn
          refine bad_ready am F N (fun p hp => .tail _ (.tail _ (.tail _ (hsub _ hp)))) hW rfl rfl ?_ bn hE
          obtain ⟨k, ts, e5, hwk⟩ := hdWd_true hw
          rw [e5] at hp ne1 hf
          obtain ⟨f, rfl⟩ : ∃ f', f = f' + 1 := ⟨f - 1, by simp at hf; (first | lia | omega)⟩
          rw [pArgs_eq args rd ne1, if_pos hwk, if_pos (by have h1 := hvs.length; rw [Array.length_toList] at h1; (first | lia | omega))] at hp
          rw [ep, ← hp]
          rfl
        · have hw : hdWd (tl x j₅) = true := by assumption
          obtain ⟨k, ts, e5, hwk⟩ := hdWd_true hw
          have hlen : ¬ args.length = 9 := fun q => by
            have h1 := hvs.length
            rw [Array.length_toList] at h1
            have h2 : (vs.size : Int) ≠ 10 - 1 := by assumption
            (first | lia | omega)
          rw [e5] at hp ne1 hf ⊢
          obtain ⟨f, rfl⟩ : ∃ f', f = f' + 1 := ⟨f - 1, by simp at hf; (first | lia | omega)⟩
          rw [pArgs_eq args rd ne1, if_pos hwk, if_neg hlen] at hp
          rename Fr _ _ _ _ => F
          rename News _ _ _ _ => N
          show wpAny _ _ _ _ _ _
          refine use_T (word_tk (amb_now (W := [dx]) am F N (fun p hp => .tail _ (.tail _ (.tail _ (hsub _ hp)))) hW (by rfl) (by rfl)) (rm.deeper.less (by first | (simp +arith only; done) | lia | omega) (by first | (simp +arith only; done) | lia | omega)) (ScanAt.of_news N) hsc (fd.push (N _ (.tail _ (.head _))).2.1 (by rfl)) hx ha₅.1 e5 hwk) ?_
          intro hN tkN t1 st j₆ Sn hj₆ htl
          have aft := after2 F N hoth hot2 hal st Sn
          clear hoth hot2 F N st Sn
          obtain ⟨FN, k1, tx, k2, ti, restN, NN, hoth, hot2, hsN, hall⟩ := aft
          replace ri1 := ri1.mono (inR_sub hsN)
          replace hsub : ∀ p ∈ others B s.heap [dx], p ∈ restN := fun p hp => hsN _ (hsub _ hp)
          replace i1 := inR_sub hsN _ _ i1
          replace i2 := inR_sub hsN _ _ i2
          clear hsN
          (try dsimp only)
          subst htl
          clear ha₅ hall
          w_strict (k_steps)
          rename Fr _ _ _ _ => F
          rename News _ _ _ _ => N
          show wpAny _ _ _ _ _ _
          refine (redirects_spec (amb_now (W := [dx]) am F N (fun p hp => .tail _ (.tail _ (.tail _ (hsub _ hp)))) hW (by rfl) (by rfl)) (rm.deeper.less (by first | (simp +arith only; done) | lia | omega) (by first | (simp +arith only; done) | lia | omega)) (ScanAt.of_news N) hsc (fd.push (N _ (.tail _ (.head _))).2.1 (by rfl)) hx hj₆ _).use ?_ ?_
          rotate_left
          · rintro e' hN tkN ⟨hC, bo⟩
            refine bad_through am F N (fun p hp => .tail _ (.tail _ (.tail _ (hsub _ hp)))) ?_ bo hE
            rw [hC] at hp
            rw [ep, ← hp]
            rfl
          rintro _ hN tkN ⟨rd2, j₇, e7, hj₇, Sn, st, ri⟩
          have aft := after2 F N hoth hot2 hal st Sn
          clear hoth hot2 F N st Sn
          obtain ⟨FN, k1, tx, k2, ti, restN, NN, hoth, hot2, hsN, hall⟩ := aft
          replace ri1 := ri1.mono (inR_sub hsN)
          replace hsub : ∀ p ∈ others B s.heap [dx], p ∈ restN := fun p hp => hsN _ (hsub _ hp)
          replace i1 := inR_sub hsN _ _ i1
          replace i2 := inR_sub hsN _ _ i2
          clear hsN
          (try dsimp only)
          have ri2 := ri.mono' (own_out' (NN _ (.tail _ (.tail _ (.head _)))).1 hall rfl)
          clear ri hall
          rw [e7] at hp
          w_strict (k_steps)
          rename Fr _ _ _ _ => F
          rename News _ _ _ _ => N
          have hl7 := pReds_len e7
          refine ⟨_, ?_, _, _, j₇, _, _, _, _, _, _, _, args ++ [k], rd ++ rd2, _, f, rfl, hj₇, rfl, fr_congr F (m' := map3 (some _) (some (.ref pa)) (some (.ref sc))) fun y => ?_, N, hoth, hot2, hsub, i1, i2, ?_, ?_, ri1.trans ri2, ?_, hp⟩
          · simp
            (first | lia | omega)
          · unfold map3
            by_cases q0 : y = Str.ofString "found"
            · subst q0; rfl
            by_cases q1 : y = Str.ofString "program"
            · subst q1; rfl
            by_cases q2 : y = Str.ofString "scanner"
            · subst q2; rfl
            simp only [if_neg q0, if_neg q1, if_neg q2]
          · rw [Array.toList_push]
            exact hvs.snoc k t1
          · simp
            (first | lia | omega)
          · simp at hf
            (first | lia | omega)
        · have hw : hdWd (tl x j₅) = false := by assumption
          rename Fr _ _ _ _ => F
          rename News _ _ _ _ => N
          refine exec_raise am.hand ?_
          w_strict (k_steps)
          rename Fr _ _ _ _ => F
          rename News _ _ _ _ => N
          show wpAny _ _ _ _ _ _
          refine (fault_spec (amb_now (W := [dx]) am F N (fun p hp => .tail _ (.tail _ (.tail _ (hsub _ hp)))) hW (by rfl) (by rfl)) (rm.deeper.less (by first | (simp +arith only; done) | lia | omega) (by first | (simp +arith only; done) | lia | omega)) (by decide +kernel)).use ?_
          intro v' h' tk' bn
          refine bad_ready am F N (fun p hp => .tail _ (.tail _ (.tail _ (hsub _ hp)))) hW rfl rfl ?_ bn hE
          obtain ⟨k, ts, e5⟩ : ∃ k ts, tl x j₅ = k :: ts := by
            cases q : tl x j₅ with
            | nil => exact absurd q ne0
            | cons k ts => exact ⟨k, ts, rfl⟩
          rw [e5] at hp ne1 hf hw
          obtain ⟨f, rfl⟩ : ∃ f', f = f' + 1 := ⟨f - 1, by simp at hf; (first | lia | omega)⟩
          rw [pArgs_eq args rd ne1, if_neg (by rw [show isWd k = false from hw]; exact Bool.false_ne_true)] at hp
          rw [ep, ← hp]
          rfl
end

section
open PySem PySem.W PySem.Calls PySem.Spec PyProof.Rows
variable {w : World} {mean : ExcName → Option Value} {mg mb : Str → Option Value} {B : Heap} {A : Around} {l : List Env} {s : Shared}


theorem reads : ∀ n, Reads1 w mean mg mb B 262 n 2 (pCmd n) ∧ Reads1 w mean mg mb B 241 n 3 (pPipe n) ∧ Reads1 w mean mg mb B 234 n 4 (pLine n) ∧ Reads2 w mean mg mb B n := by
  intro n
  induction n with
  | zero =>
    refine ⟨?_, ?_, ?_, ?_⟩
    · intro A l s sc dx x j _ _ _ _ _ _ _ hn; (first | lia | omega)
    · intro A l s sc dx x j _ _ _ _ _ _ _ hn; (first | lia | omega)
    · intro A l s sc dx x j _ _ _ _ _ _ _ hn; (first | lia | omega)
    · intro A l s sc dx x j k ts _ _ _ _ _ _ _ _ _ hn; (first | lia | omega)
  | succ n ih => exact ⟨cmd_step ih.2.2.2, pipe_step ih.1 ih.2.1, line_step ih.2.1 ih.2.2.1, block_step ih.2.2.1⟩

noncomputable def pTop (ts : List Tk) : Option Tree := match pLine (4 * wt ts + 4) ts with
  | some (t, []) => some t
  | _ => none

/- what stands at heap h and is neither B's nor a frame's -/
noncomputable def Ow (B : Heap) (l : List Env) (h : Heap) (a : Addr) (o : Obj) : Prop := h.get? a = some o ∧ Free B l a
theorem own_ow {h : Heap} {dx : Addr} : ∀ a o, Own B l dx h a o → Ow B l h a o := fun _ _ q => ⟨q.1, q.2.1⟩

theorem Amb.free {h : Heap} (am : Amb w mean mg mb B A l h) {a : Addr} (q : h.get? a = none) : Free B l a := ⟨not_base am.stays q, fun hm => by
  obtain ⟨_, o, ho, _⟩ := am.funs.mem hm
  rw [q] at ho; cases ho⟩

/- an exception that comes out of a callee that turned new objects alone -/
theorem bad_through0 {s₀ : Shared} {C : Prop} {env : Env} {W : List Addr} {e : Addr} {h' : Heap} {tk : Nat} {h : Heap} (up : Step [] s₀.heap h) (hW : ∀ a ∈ W, s₀.heap.get? a = none)
    (hC : C) (bo : BadOut B (env :: l) W h e h') {E' : Value → Shared → Prop} (hE : ∀ v s', BadE C B l [] s₀ env v s' → E' v s') : E' (.ref e) { s₀ with heap := h', toks := tk } := by
  refine hE _ _ ⟨hC, e, tk, rfl, rfl, .inl bo.1, fun b o q hn nf => ?_⟩
  obtain ⟨sl, q'⟩ := bo.2 b o (up b o q (fun hm => nomatch hm)) (fun hm => by rw [hW b hm] at q; cases q) nf
  exact ⟨sl, q'⟩

inductive AfterScan (B : Heap) (L : Addr) (h' : Heap) (m : Str → Option Value) (v : Value) (w : World) (x : Str) (rest : List (Addr × Obj)) (l : List Env) (h : Heap)  : Prop
  | mk : (Fr B L h' m) → ∀ sc dx k1 tx k2 ti rest', (v = .ref sc) → (News B L h' ((sc, instObj 209 dx) :: (dx, scanD w x (0 : Nat) k1 tx k2 ti) :: rest')) → ((∀ p ∈ rest', p.1 ≠ dx)) → ((∀ p ∈ rest, p ∈ rest')) → (Free B l dx) → (B.get? sc = none) → (h.get? dx = none) → (dx ≠ L) → AfterScan B L h' m v w x rest l h
/- behind the making of a scanner -/
theorem after_scan {h₀ h h' : Heap} {L : Addr} {m : Str → Option Value} {x : Str} {rest : List (Addr × Obj)} {v : Value} {env : Env} (am : Amb w mean mg mb B A l h₀) (F : Fr B L h m)
    (N : News B L h rest) (hs : ∀ p ∈ others B h₀ [], p ∈ rest) (hf : env.frame = some L) (hk : env.scope.kind = .function)
    (md : Made 209 h h' v fun od => ∃ k1 tx k2 ti, od = scanD w x 0 k1 tx k2 ti) :
    AfterScan B L h' m v w x rest l h := by
  obtain ⟨y, d, od, rfl, st, f1, f2, ne, g1, g2, k1, tx, k2, ti, rfl⟩ := md
  have a := amb_now am F N hs (fun _ hm => nomatch hm) hf hk
  have q1 := a.free f1
  have q2 := a.free f2
  obtain ⟨F', rest', N', a1, a2, a3⟩ := snap (X := [d]) (ex := []) (rest := rest) F N st (fun hm => nomatch hm) (fun a hm => nomatch hm)
    [(y, instObj 209 d), (d, scanD w x (0 : Nat) k1 tx k2 ti)] (fun p hp => by
      rcases List.mem_cons.mp hp with rfl | hp
      · exact ⟨g1, q1.ne hf, q1.base⟩
      · rw [List.mem_singleton.mp hp]; exact ⟨g2, q2.ne hf, q2.base⟩)
  refine ⟨F', y, d, k1, tx, k2, ti, rest', rfl, N', a3 d (.head _), fun p hp => a1 p hp (fun hm => nomatch hm) (fun hm => ?_), q2.drop, q1.base, f2, q2.ne hf⟩
  have := (N p hp).1
  rw [List.mem_singleton.mp hm, f2] at this
  cases this

theorem Made.imp {C : Addr} {h h' : Heap} {v : Value} {Od Od' : Obj → Prop} (m : Made C h h' v Od) (f : ∀ o, Od o → Od' o) : Made C h h' v Od' := by
  obtain ⟨x, dx, od, e, st, a, b, c, d, g, o⟩ := m
  exact ⟨x, dx, od, e, st, a, b, c, d, g, f _ o⟩
inductive ParseOut (x : Str) (s : Shared) (w : World) (B : Heap) (l : List Env) (v : Value) (h' : Heap) : Prop
  | mk : ∀ t, (pTop (lex x.cps.toList) = some t) → (Step [] s.heap h') → (TreeIn w (Ow B l h') v t) → ParseOut x s w B l v h'
theorem parse_spec (am : Amb w mean mg mb B A l s.heap) {x : Str} {tx : Tok} (hx : x.length ≤ 1000000) (rm : Room A (4 * wt (lex x.cps.toList) + 60) (12 * wt (lex x.cps.toList) + 500)) :
    GivesOr w A 227 [.str x tx] s (ParseOut x s w B l) (fun e h' => pTop (lex x.cps.toList) = none ∧ BadOut B l [] s.heap e h') := by
  have T := am.top
  have X := am.inK
  refine call_or (pTop (lex x.cps.toList) = none) [] (by k_is) (by k_is) am rm.ok (binds := [("line", .str x tx)]) (BindsTo.of_eq rfl) (locs rfl) (others B s.heap []) others_here ?_
  intro L h₁ tk₁ R E _ F N am' up hR hE hP
  have hW : ∀ a ∈ ([] : List Addr), Free B l a := fun _ hm => nomatch hm
  w_strict (k_steps)
  rename Fr _ _ _ _ => F
  rename News _ _ _ _ => N
  show wpAny _ _ _ _ _ _
  refine (new_scanner (amb_now (W := []) am F N (fun p hp => hp) hW (by rfl) (by rfl)) (rm.deeper.less (by first | (simp +arith only; done) | lia | omega) (by first | (simp +arith only; done) | lia | omega)) x tx).use ?_
  intro v hN tkN md
  have st0 := step_of F N am.stays (W := []) (fun p hp => hp)
  have st1 : Step [] s.heap hN := st0.trans (by obtain ⟨_, _, _, _, st, _⟩ := md; exact st)
  obtain ⟨FN, sc, dx, k1, tx2, k2, ti, rest, rfl, NN, hoth, hs, fd, hsc, hdx, hdL⟩ := after_scan (env := (envOf (Str.ofString "parse") { kind := ScopeKind.function, names := [(Str.ofString "line", NameKind.local), (Str.ofString "scanner", NameKind.local), (Str.ofString "found", NameKind.local), (Str.ofString "isinstance", NameKind.globalImplicit), (Str.ofString "str", NameKind.globalImplicit), (Str.ofString "BadArgument", NameKind.globalImplicit), (Str.ofString "Scanner", NameKind.globalImplicit), (Str.ofString "parse_line", NameKind.globalImplicit), (Str.ofString "fault", NameKind.globalImplicit)], isGenerator := false, isCoroutine := false } L 227 (Value.ref 226))) am F N (fun p hp => hp) rfl rfl (md.imp fun od ⟨k1, k2, ti, e⟩ => ⟨k1, _, k2, ti, e⟩)
  have hdx0 : s.heap.get? dx = none := by
    cases q : s.heap.get? dx with
    | none => rfl
    | some o => rw [st0 _ _ q (fun hm => nomatch hm)] at hdx; cases hdx
  clear F N md hdx
  have hsub : ∀ p ∈ others B s.heap [], p ∈ rest := hs
  clear hs
  (try dsimp only)
  w_strict (k_steps)
  rename Fr _ _ _ _ => F
  rename News _ _ _ _ => N
  show wpAny _ _ _ _ _ _
  refine ((reads (4 * wt (lex x.cps.toList) + 4)).2.2.1 (amb_now (W := []) am F N (fun p hp => .tail _ (.tail _ (hsub _ hp))) hW (by rfl) (by rfl)) (rm.deeper.less (by first | (simp +arith only; done) | lia | omega) (by first | (simp +arith only; done) | lia | omega)) (ScanAt.of_news N) hsc (fd.push (N _ (.tail _ (.head _))).2.1 (by rfl)) (by first | (simp +arith only; done) | lia | omega) (Nat.zero_le _) (Nat.le_refl _)).use ?_ ?_
  rotate_left
  · rintro e' hN tkN ⟨hC, bo⟩
    refine bad_through0 (step_of F N am.stays (fun p hp => .tail _ (.tail _ (hsub _ hp)))) (W := ([dx])) (fun a hm => by rw [List.mem_singleton.mp hm]; exact hdx0) ?_ bo hE
    unfold pTop
    rw [show pLine (4 * wt (lex x.cps.toList) + 4) (lex x.cps.toList) = none from hC]
  rintro _ hN tkN ⟨t, j₂, e2, hj₂, Sn, st, tr⟩
  have aft := after F N hoth st Sn
  clear hoth F N st Sn
  obtain ⟨FN, k1, tx, k2, ti, restN, NN, hoth, hsN, hall⟩ := aft
  replace hsub : ∀ p ∈ others B s.heap [], p ∈ restN := fun p hp => hsN _ (hsub _ hp)
  clear hsN
  (try dsimp only)

  have tr1 := tr.mono (own_out hall rfl)
  clear tr
  w_strict (k_steps)
  rename Fr _ _ _ _ => F
  rename News _ _ _ _ => N
  show wpAny _ _ _ _ _ _
  refine use_B (at_end_tk (amb_now (W := []) am F N (fun p hp => .tail _ (.tail _ (hsub _ hp))) hW (by rfl) (by rfl)) (rm.deeper.less (by first | (simp +arith only; done) | lia | omega) (by first | (simp +arith only; done) | lia | omega)) (ScanAt.of_news N) hsc (fd.push (N _ (.tail _ (.head _))).2.1 (by rfl)) (by first | (simp +arith only; done) | lia | omega) hj₂) ?_
  intro hN tkN st j₃ Sn ha₃ htl
  have aft := after F N hoth st Sn
  clear hoth F N st Sn
  obtain ⟨FN, k1, tx, k2, ti, restN, NN, hoth, hsN, hall⟩ := aft
  replace tr1 := tr1.mono (inR_sub hsN)
  replace hsub : ∀ p ∈ others B s.heap [], p ∈ restN := fun p hp => hsN _ (hsub _ hp)
  clear hsN
  (try dsimp only)

  rw [← htl] at e2
  rw [← htl]
  clear htl hj₂
  w_strict (k_steps)
  · have e0 : tl x j₃ = [] := by assumption
    rename Fr _ _ _ _ => F
    rename News _ _ _ _ => N
    refine hR _ _ _ ⟨t, ?_, step_of F N am.stays (fun p hp => .tail _ (.tail _ (hsub _ hp))), (tr1.mono (own_end N (fun _ h => .tail _ (.tail _ h)) hoth)).mono own_ow⟩
    unfold pTop
    rw [show pLine (4 * wt (lex x.cps.toList) + 4) (lex x.cps.toList) = some (t, tl x j₃) from e2, e0]
  · have ne0 : ¬ tl x j₃ = [] := by assumption
    refine exec_raise am.hand ?_
    w_strict (k_steps)
    rename Fr _ _ _ _ => F
    rename News _ _ _ _ => N
    show wpAny _ _ _ _ _ _
    refine (fault_spec (amb_now (W := []) am F N (fun p hp => .tail _ (.tail _ (hsub _ hp))) hW (by rfl) (by rfl)) (rm.deeper.less (by first | (simp +arith only; done) | lia | omega) (by first | (simp +arith only; done) | lia | omega)) ?_).use ?_
    · have h1 : (Str.ofString "leftovers: ").length = 11 := by decide +kernel
      (first | lia | omega)
    intro v' h' tk' bn
    refine bad_ready am F N (fun p hp => .tail _ (.tail _ (hsub _ hp))) hW rfl rfl ?_ bn hE
    unfold pTop
    rw [show pLine (4 * wt (lex x.cps.toList) + 4) (lex x.cps.toList) = some (t, tl x j₃) from e2]
    cases q : tl x j₃ with
    | nil => exact absurd q ne0
    | cons k ts => rfl
end

section
open PySem PySem.W PySem.Calls PySem.Spec PyProof.Rows
local macro_rules | `(tactic| walk_at "call builtin:str.join") => `(tactic| (k_here; refine join_listW (News.isList (by assumption) (by k_mem)) (by assumption) (by decide +kernel) (by assumption) (fun _ _ => ?_)))
variable {w : World} {mean : ExcName → Option Value} {mg mb : Str → Option Value} {B : Heap} {A : Around} {l : List Env} {s : Shared}


section
variable {E : Value → Shared → Prop} {x y : Str} {t u : Tok} {Q : Value → Shared → Prop} {K1 K2 : Nat}
theorem add_K (hx : x.length ≤ K1) (hy : y.length ≤ K2) (hs : K1 + K2 ≤ 16777216) (h : (x ++ y).length ≤ K1 + K2 → ∀ t' k, Q (.str (x ++ y) t') { s with toks := k }) :
    wpAny (model PySem.Challenge.rw_nu0084_01.row.prog w) A (binaryOp .Add (.str x t) (.str y u)) Q E s :=
  KXadd.add hx hy hs fun t' k _ => h (by rw [Str.length_append]; exact Nat.add_le_add hx hy) t' k
theorem lit_a : (Str.ofString " ").length ≤ 1 := by decide +kernel
theorem lit_b : (Str.ofString "( ").length ≤ 2 := by decide +kernel
theorem lit_c : (Str.ofString " &").length ≤ 2 := by decide +kernel
theorem lit_g : (Str.ofString " )").length ≤ 2 := by decide +kernel
theorem lit_h : (Str.ofString " | ").length ≤ 3 := by decide +kernel
theorem lit_i : (Str.ofString " ; ").length ≤ 3 := by decide +kernel
end
local macro_rules | `(tactic| walk_at "binaryOp Add str str") => `(tactic| (k_here; refine add_K (by walk_at "r") (by walk_at "r") (by exact Nat.le_of_ble_eq_true rfl) (fun _ _ _ => ?_)))
theorem noW : ∀ a ∈ ([] : List Addr), Free B l a := fun _ hm => nomatch hm
theorem news_tail {h : Heap} {L : Addr} {a : Addr × Obj} {r : List (Addr × Obj)} (N : News B L h (a :: r)) : News B L h r := fun p hp => N p (.tail _ hp)
inductive AfterKeep (B : Heap) (L : Addr) (h' : Heap) (m : Str → Option Value) (ex : List (Addr × Obj)) (rest : List (Addr × Obj))  : Prop
  | mk : (Fr B L h' m) → ∀ rest', (News B L h' (ex ++ rest')) → ((∀ p ∈ rest, p ∈ rest')) → ((∀ a o, h'.get? a = some o → a ≠ L → B.get? a = none → (a, o) ∈ rest')) → AfterKeep B L h' m ex rest
/- behind a call that made new objects alone -/
theorem after_keep {h h' : Heap} {L : Addr} {m : Str → Option Value} (ex : List (Addr × Obj)) {rest : List (Addr × Obj)} (F : Fr B L h m) (N : News B L h (ex ++ rest)) (st : Step [] h h') :
    AfterKeep B L h' m ex rest := by
  obtain ⟨F', rest', N', a1, a2, _⟩ := snap (X := []) (ex := ex) (rest := rest) F N st (fun hm => nomatch hm) (fun _ hm => nomatch hm) ex (fun p hp => by
    have q := N p (List.mem_append_left _ hp)
    exact ⟨st _ _ q.1 (fun hm => nomatch hm), q.2⟩)
  exact ⟨F', rest', N', fun p hp => a1 p hp (fun hm => nomatch hm) (fun hm => nomatch hm), fun a o e h1 h2 => a2 a o e h1 (fun hm => nomatch hm) h2⟩

/- what stood at the def's start, as a callee sees it -/
theorem ow_in {h₀ h : Heap} {L : Addr} {news : List (Addr × Obj)} {env : Env} (N : News B L h news) (hs : ∀ p ∈ others B h₀ [], p ∈ news) (he : env.frame = some L) : ∀ a o, Ow B l h₀ a o → Ow B (env :: l) h a o := fun a o q => by
  have n := N _ (hs (a, o) (mem_others.mpr ⟨q.1, (fun hm => nomatch hm), q.2.base⟩))
  exact ⟨n.1, q.2.push n.2.1 he⟩
theorem StrsI.are {vs : List Value} {a : List Tk} (h : StrsI vs a) : StrsAre vs (a.map S) := by
  induction h with
  | nil => exact .nil
  | cons _ ih => exact .cons _ _ ih

noncomputable def ht : Tree → Nat
  | .run _ => 0
  | .redir _ t _ => ht t + 1
  | .pair _ l r => max (ht l) (ht r) + 1
  | .back t => ht t + 1

theorem jn_len : ∀ a : List Tk, ((a.map S).map (·.length)).sum + (a.map S).length ≤ (jn a).length + 1
  | [] => by simp [jn]
  | [a] => by simp [jn, S_len]
  | a :: b :: r => by
    have ih := jn_len (b :: r)
    simp [jn, S_len] at ih ⊢
    (first | lia | omega)

section
variable (w mean mg mb B)
/- what text_of (269), grouped (276) and piped (283) tell -/
noncomputable def Tells (f : Addr) (t : Tree) (d u : Nat) (g : List Nat) : Prop :=
  ∀ {A : Around} {l : List Env} {s : Shared} {v : Value}, Amb w mean mg mb B A l s.heap → Room A (2 * ht t + d) (6 * ht t + u) → TreeIn w (Ow B l s.heap) v t → WF t → g.length ≤ 900000 →
    Gives w A f [v] s (fun r h' => (∃ tk, r = .str (S g) tk) ∧ Step [] s.heap h')
end
noncomputable def clsOf : Tree → Addr
  | .run _ => 83
  | .redir _ _ _ => 104
  | .pair _ _ _ => 125
  | .back _ => 146
inductive TreeInst (v : Value) (P : Addr → Obj → Prop) (t : Tree)  : Prop
  | mk : ∀ y d es n, (v = .ref y) → (P y (instObj (clsOf t) d)) → (P d (dictOf es n)) → TreeInst v P t
theorem TreeIn.inst {P : Addr → Obj → Prop} {v : Value} {t : Tree} (h : TreeIn w P v t) : TreeInst v P t := by
  cases h with
  | run a b _ _ => exact ⟨_, _, _, _, rfl, a, b⟩
  | redir a _ => obtain ⟨_, _, _, _, _, _, _, _, a, b⟩ := a; exact ⟨_, _, _, _, rfl, a, b⟩
  | pair a b _ _ => exact ⟨_, _, _, _, rfl, a, b⟩
  | back a b _ => exact ⟨_, _, _, _, rfl, a, b⟩
theorem text_run {a : List Tk} : Tells w mean mg mb B 269 (.run a) 3 40 (txt (.run a)) := by
  intro A l s v am rm tr wf hg
  have T := am.top
  have X := am.inK
  cases tr with
  | @run x dx al k n vs _ h1 h2 h3 hvs =>
  have hsa := hvs.are
  have hsum : ((a.map S).map (·.length)).sum + (a.map S).length ≤ 1048576 := by
    have := jn_len a
    have h2 : (jn a).length ≤ 900000 := hg
    (first | lia | omega)
  refine call_ok (by k_is) (by k_is) am rm.ok (binds := [("tree", .ref x)]) (BindsTo.of_eq rfl) (locs rfl) ((x, instObj 83 dx) :: (dx, dictOf [ent w "arguments" k (.ref al)] 1) :: (al, listOf vs n) :: others B s.heap []) ?_ ?_
  · refine all_cons ?_ (all_cons ?_ (all_cons ?_ ?_))
    · exact ⟨h1.1, h1.2.base⟩
    · exact ⟨h2.1, h2.2.base⟩
    · exact ⟨h3.1, h3.2.base⟩
    · exact fun p hp => others_here p hp
  intro L h₁ tk₁ R _ F N am' _ hR
  w_strict (k_steps)
  refine hR _ _ _ ⟨⟨_, by rw [sp_S, join_S]; rfl⟩, step_of (by assumption) (by assumption) am.stays fun p hp => .tail _ (.tail _ (.tail _ hp))⟩

theorem amp_S : Str.ofString " &" = S [32, 38] := by decide +kernel
theorem opn_S : Str.ofString "( " = S [40, 32] := by decide +kernel
theorem cls_S : Str.ofString " )" = S [32, 41] := by decide +kernel
theorem modeOf0 : modeOf 0 = 0 := rfl
theorem modeOf1 : modeOf 1 = 1537 := rfl
theorem modeOf2 : modeOf 2 = 2561 := rfl
theorem brk_len (b : Bool) (x : List Nat) : x.length ≤ (brk b x).length := by
  cases b <;> simp [brk] <;> (first | lia | omega)
theorem txt_redir_len {k : Nat} {t : Tree} {p : Tk} : (grp t).length + p.length ≤ (txt (.redir k t p)).length ∧ (txt t).length ≤ (grp t).length := by
  refine ⟨?_, brk_len _ _⟩
  rw [txt]
  unfold grp
  split
  · rename_i h
    rw [h]
    simp
    (first | lia | omega)
  · simp
    (first | lia | omega)

theorem use_S {f : Addr} {v : Value} {g : List Nat} (gv : Gives w A f [v] s (fun r h' => (∃ tk, r = .str (S g) tk) ∧ Step [] s.heap h')) {Q E : Value → Shared → Prop}
    (h : ∀ h' tk' t, Step [] s.heap h' → Q (.str (S g) t) { s with heap := h', toks := tk' }) : wpAny (model PySem.Challenge.rw_nu0084_01.row.prog w) A (call (.ref f) [v]) Q E s :=
  gv.use fun _ h' tk' p => by
    obtain ⟨⟨t, rfl⟩, st⟩ := p
    exact h h' tk' t st
theorem brk_up (b : Bool) (x : List Nat) : (brk b x).length ≤ x.length + 4 := by
  cases b <;> simp [brk]
theorem sT {t : Tree} (h : (txt t).length ≤ 900000) : (S (txt t)).length ≤ 900000 ∧ (S (grp t)).length ≤ 900004 ∧ (S (ppd t)).length ≤ 900004 := by
  rw [S_len, S_len, S_len]
  exact ⟨h, Nat.le_trans (brk_up _ _) (Nat.add_le_add_right h 4), Nat.le_trans (brk_up _ _) (Nat.add_le_add_right h 4)⟩
/- an end that the walk is to leave alone -/
structure Halt (P : Prop) : Prop where
  out : P
/- said in the context: the walk is to go on where it would stop -/
inductive GoOn : Prop where
  | mk
/- behind the choice of a redirection's sign -/
inductive SgnPost (s : Shared) (B : Heap) (L x : Addr) (k : Nat) (led : List (Addr × Obj)) (f : Flow) (s₁ : Shared) : Prop
  | mk : f = .next → ∀ hh tkk t, s₁ = { s with heap := hh, toks := tkk } → Fr B L hh (fun y => if y = Str.ofString "sign" then some (.str (S (sgn k)) t) else [(Str.ofString "tree", Value.ref x)].lookup y) → News B L hh led → SgnPost s B L x k led f s₁
theorem sgn_le (k : Nat) : (sgn k).length ≤ 2 := by unfold sgn; split; decide; split <;> decide
local macro_rules | `(tactic| walk_at "go") => `(tactic| fail_if_success (have : GoOn := by walk_at "r"))
local macro_rules | `(tactic| walk_at "ifx") => `(tactic| with_reducible show wpAny _ _ (exec (Stmt.Assign _ (PySem.Expr.IfExp _ _ _ _) _) _) _ _ _)
local macro_rules | `(tactic| walk_at "exec Assign") => `(tactic| (k_here; walk_at "ifx"; walk_at "go"; refine stop_here ?_))
theorem text_redir {k : Nat} {t : Tree} {p : Tk} (ih : Tells w mean mg mb B 276 t 4 43 (grp t)) : Tells w mean mg mb B 269 (.redir k t p) 3 40 (txt (.redir k t p)) := by
  intro A l s v am rm tr wf hg
  have T := am.top
  have X := am.inK
  cases tr with
  | @redir x v1 _ _ _ ro tr1 =>
  obtain ⟨dx, k1, k2, k3, k4, tp, tm, td, h1, h2⟩ := ro
  cases wf with
  | redir hk wf1 hp =>
  obtain ⟨y1, dy, es, en, rfl, hy, hdy⟩ := tr1.inst
  obtain ⟨g1, g2⟩ := txt_redir_len (k := k) (t := t) (p := p)
  have hht : ht (.redir k t p) = ht t + 1 := rfl
  rw [hht] at rm
  have l1 : (S p).length = p.length := S_len p
  have l2 : (S (grp t)).length = (grp t).length := S_len _
  obtain ⟨b1, b2, b3⟩ := sT (t := t) (by first | (simp +arith only; done) | lia | omega)
  have la := lit_a
  have b4 : (S p).length ≤ 900000 := by (first | lia | omega)
  refine call_ok (by k_is) (by k_is) am rm.ok (binds := [("tree", .ref x)]) (BindsTo.of_eq rfl) (locs rfl) ((x, instObj 104 dx) :: (dx, dictOf [ent w "command" k1 (.ref y1), ent w "path" k2 (.str (S p) tp), ent w "mode" k3 (.int (modeOf k) tm), ent w "descriptor" k4 (.int (descOf k) td)] 4) :: others B s.heap []) ?_ ?_
  · refine all_cons ?_ (all_cons ?_ ?_)
    · exact ⟨h1.1, h1.2.base⟩
    · exact ⟨h2.1, h2.2.base⟩
    · exact fun p hp => others_here p hp
  intro L h₁ tk₁ R _ F N am' _ hR
  have hsub : ∀ p ∈ others B s.heap [], p ∈ others B s.heap [] := fun _ h => h
  w_strict (k_steps)
  rename Fr _ _ _ _ => F
  rename News _ _ _ _ => N
  show wpAny _ _ _ _ _ _
  refine wpAny_mono (Q := fun f s₁ => Halt (SgnPost s B L x k ((x, instObj 104 dx) :: (dx, dictOf [ent w "command" k1 (.ref y1), ent w "path" k2 (.str (S p) tp), ent w "mode" k3 (.int (modeOf k) tm), ent w "descriptor" k4 (.int (descOf k) td)] 4) :: others B s.heap []) f s₁)) ?_ ?_ (fun _ _ e => e)
  · have go : GoOn := .mk
    obtain rfl | rfl | rfl : k = 0 ∨ k = 1 ∨ k = 2 := by clear b1 b2 b3 b4 l1 l2 g1 g2; (first | lia | omega)
    · rw [modeOf0] at N
      w_strict (k_steps)
      rename Fr _ _ _ _ => F9
      rename News _ _ _ _ => N9
      rw [lt_S] at F9
      exact Halt.mk ⟨rfl, _, _, _, rfl, fr_congr F9 fun y => rfl, N9⟩
    · rw [modeOf1] at N
      w_strict (k_steps)
      rename Fr _ _ _ _ => F9
      rename News _ _ _ _ => N9
      rw [gt_S] at F9
      exact Halt.mk ⟨rfl, _, _, _, rfl, fr_congr F9 fun y => rfl, N9⟩
    · rw [modeOf2] at N
      w_strict (k_steps)
      rename Fr _ _ _ _ => F9
      rename News _ _ _ _ => N9
      rw [ggS] at F9
      exact Halt.mk ⟨rfl, _, _, _, rfl, fr_congr F9 fun y => rfl, N9⟩
  clear F N
  rintro f s₁ ⟨⟨rfl, hh, tkk, t1, rfl, F, N⟩⟩
  have zk : (S (sgn k)).length ≤ 2 := by rw [S_len]; exact sgn_le k
  w_strict (k_steps)
  rename Fr _ _ _ _ => F
  rename News _ _ _ _ => N
  show wpAny _ _ _ _ _ _
  refine use_S (ih (amb_now (W := []) am F N (fun p hp => .tail _ (.tail _ ((hsub _ hp)))) noW (by rfl) (by rfl)) (rm.deeper.less (by first | (simp +arith only; done) | lia | omega) (by first | (simp +arith only; done) | lia | omega)) (tr1.mono (ow_in N (fun p hp => .tail _ (.tail _ (hsub _ hp))) (by rfl))) wf1 (by first | (simp +arith only; done) | lia | omega)) ?_
  intro hN tkN tk st
  obtain ⟨FN, restN, NN, hsN, hall⟩ := after_keep [(x, instObj 104 dx), (dx, dictOf [ent w "command" k1 (.ref y1), ent w "path" k2 (.str (S p) tp), ent w "mode" k3 (.int (modeOf k) tm), ent w "descriptor" k4 (.int (descOf k) td)] 4)] F N st
  have NN : News B L hN ((x, instObj 104 dx) :: (dx, dictOf [ent w "command" k1 (.ref y1), ent w "path" k2 (.str (S p) tp), ent w "mode" k3 (.int (modeOf k) tm), ent w "descriptor" k4 (.int (descOf k) td)] 4) :: restN) := NN
  replace hsub : ∀ p ∈ others B s.heap [], p ∈ restN := fun p hp => hsN _ (hsub _ hp)
  clear F N st hsN
  w_strict (k_steps)
  refine hR _ _ _ ⟨⟨_, by rw [sp_S, S_append, S_append, S_append, S_append, strip_redir wf1 hp]⟩, step_of (by assumption) (by assumption) am.stays fun p hp => .tail _ (.tail _ (hsub _ hp))⟩

theorem back_len {t : Tree} : (if isBk t then txt t else ppd t).length + 2 ≤ (txt (.back t)).length ∧ (txt t).length ≤ (if isBk t then txt t else ppd t).length := by
  constructor
  · rw [txt]
    simp [ppd]
  · split
    · exact Nat.le_refl _
    · exact brk_len _ _

theorem text_back {t : Tree} (ih1 : Tells w mean mg mb B 269 t 3 40 (txt t)) (ih2 : Tells w mean mg mb B 283 t 4 43 (ppd t)) : Tells w mean mg mb B 269 (.back t) 3 40 (txt (.back t)) := by
  intro A l s v am rm tr wf hg
  have T := am.top
  have X := am.inK
  cases tr with
  | @back x dx k1 v1 _ h1 h2 tr1 =>
  cases wf with
  | back wf1 =>
  obtain ⟨y1, dy, es, en, rfl, hy, hdy⟩ := tr1.inst
  obtain ⟨g1, g2⟩ := back_len (t := t)
  have l1 : (S (txt t)).length = (txt t).length := S_len _
  have l2 : (S (ppd t)).length = (ppd t).length := S_len _
  obtain ⟨b1, b2, b3⟩ := sT (t := t) (by first | (simp +arith only; done) | lia | omega)
  have lc := lit_c
  have hht : ht (.back t) = ht t + 1 := rfl
  rw [hht] at rm
  cases t with
  | run a =>
    have hy : Ow B l s.heap y1 (instObj 83 dy) := hy
    have e0 : (if isBk (.run a) then txt (.run a) else ppd (.run a)) = ppd (.run a) := rfl
    rw [e0] at g1 g2
    refine call_ok (by k_is) (by k_is) am rm.ok (binds := [("tree", .ref x)]) (BindsTo.of_eq rfl) (locs rfl) ((x, instObj 146 dx) :: (dx, dictOf [ent w "command" k1 (.ref y1)] 1) :: (y1, instObj 83 dy) :: (dy, dictOf es en) :: others B s.heap []) ?_ ?_
    · refine all_cons ?_ (all_cons ?_ (all_cons ?_ (all_cons ?_ ?_)))
      · exact ⟨h1.1, h1.2.base⟩
      · exact ⟨h2.1, h2.2.base⟩
      · exact ⟨hy.1, hy.2.base⟩
      · exact ⟨hdy.1, hdy.2.base⟩
      · exact fun p hp => others_here p hp
    intro L h₁ tk₁ R _ F N am' _ hR
    have hsub : ∀ p ∈ others B s.heap [], p ∈ others B s.heap [] := fun _ h => h
    w_strict (k_steps)
    rename Fr _ _ _ _ => F
    rename News _ _ _ _ => N
    show wpAny _ _ _ _ _ _
    refine use_S (ih2 (amb_now (W := []) am F N (fun p hp => .tail _ (.tail _ (.tail _ (.tail _ ((hsub _ hp)))))) noW (by rfl) (by rfl)) (rm.deeper.less (by first | (simp +arith only; done) | lia | omega) (by first | (simp +arith only; done) | lia | omega)) (tr1.mono (ow_in N (fun p hp => .tail _ (.tail _ (.tail _ (.tail _ (hsub _ hp))))) (by rfl))) wf1 (by first | (simp +arith only; done) | lia | omega)) ?_
    intro hN tkN tk st
    obtain ⟨FN, restN, NN, hsN, hall⟩ := after_keep [(x, instObj 146 dx), (dx, dictOf [ent w "command" k1 (.ref y1)] 1), (y1, instObj 83 dy), (dy, dictOf es en)] F N st
    have NN : News B L hN ((x, instObj 146 dx) :: (dx, dictOf [ent w "command" k1 (.ref y1)] 1) :: (y1, instObj 83 dy) :: (dy, dictOf es en) :: restN) := NN
    replace hsub : ∀ p ∈ others B s.heap [], p ∈ restN := fun p hp => hsN _ (hsub _ hp)
    clear F N st hsN
    (try dsimp only)
    w_strict (k_steps)
    refine hR _ _ _ ⟨⟨_, by rw [amp_S, S_append]; rfl⟩, step_of (by assumption) (by assumption) am.stays (fun p hp => .tail _ (.tail _ (.tail _ (.tail _ (hsub _ hp)))))⟩
  | redir k t p =>
    have hy : Ow B l s.heap y1 (instObj 104 dy) := hy
    have e0 : (if isBk (.redir k t p) then txt (.redir k t p) else ppd (.redir k t p)) = ppd (.redir k t p) := rfl
    rw [e0] at g1 g2
    refine call_ok (by k_is) (by k_is) am rm.ok (binds := [("tree", .ref x)]) (BindsTo.of_eq rfl) (locs rfl) ((x, instObj 146 dx) :: (dx, dictOf [ent w "command" k1 (.ref y1)] 1) :: (y1, instObj 104 dy) :: (dy, dictOf es en) :: others B s.heap []) ?_ ?_
    · refine all_cons ?_ (all_cons ?_ (all_cons ?_ (all_cons ?_ ?_)))
      · exact ⟨h1.1, h1.2.base⟩
      · exact ⟨h2.1, h2.2.base⟩
      · exact ⟨hy.1, hy.2.base⟩
      · exact ⟨hdy.1, hdy.2.base⟩
      · exact fun p hp => others_here p hp
    intro L h₁ tk₁ R _ F N am' _ hR
    have hsub : ∀ p ∈ others B s.heap [], p ∈ others B s.heap [] := fun _ h => h
    w_strict (k_steps)
    rename Fr _ _ _ _ => F
    rename News _ _ _ _ => N
    show wpAny _ _ _ _ _ _
    refine use_S (ih2 (amb_now (W := []) am F N (fun p hp => .tail _ (.tail _ (.tail _ (.tail _ ((hsub _ hp)))))) noW (by rfl) (by rfl)) (rm.deeper.less (by first | (simp +arith only; done) | lia | omega) (by first | (simp +arith only; done) | lia | omega)) (tr1.mono (ow_in N (fun p hp => .tail _ (.tail _ (.tail _ (.tail _ (hsub _ hp))))) (by rfl))) wf1 (by first | (simp +arith only; done) | lia | omega)) ?_
    intro hN tkN tk st
    obtain ⟨FN, restN, NN, hsN, hall⟩ := after_keep [(x, instObj 146 dx), (dx, dictOf [ent w "command" k1 (.ref y1)] 1), (y1, instObj 104 dy), (dy, dictOf es en)] F N st
    have NN : News B L hN ((x, instObj 146 dx) :: (dx, dictOf [ent w "command" k1 (.ref y1)] 1) :: (y1, instObj 104 dy) :: (dy, dictOf es en) :: restN) := NN
    replace hsub : ∀ p ∈ others B s.heap [], p ∈ restN := fun p hp => hsN _ (hsub _ hp)
    clear F N st hsN
    (try dsimp only)
    w_strict (k_steps)
    refine hR _ _ _ ⟨⟨_, by rw [amp_S, S_append]; rfl⟩, step_of (by assumption) (by assumption) am.stays (fun p hp => .tail _ (.tail _ (.tail _ (.tail _ (hsub _ hp)))))⟩
  | pair k t p =>
    have hy : Ow B l s.heap y1 (instObj 125 dy) := hy
    have e0 : (if isBk (.pair k t p) then txt (.pair k t p) else ppd (.pair k t p)) = ppd (.pair k t p) := rfl
    rw [e0] at g1 g2
    refine call_ok (by k_is) (by k_is) am rm.ok (binds := [("tree", .ref x)]) (BindsTo.of_eq rfl) (locs rfl) ((x, instObj 146 dx) :: (dx, dictOf [ent w "command" k1 (.ref y1)] 1) :: (y1, instObj 125 dy) :: (dy, dictOf es en) :: others B s.heap []) ?_ ?_
    · refine all_cons ?_ (all_cons ?_ (all_cons ?_ (all_cons ?_ ?_)))
      · exact ⟨h1.1, h1.2.base⟩
      · exact ⟨h2.1, h2.2.base⟩
      · exact ⟨hy.1, hy.2.base⟩
      · exact ⟨hdy.1, hdy.2.base⟩
      · exact fun p hp => others_here p hp
    intro L h₁ tk₁ R _ F N am' _ hR
    have hsub : ∀ p ∈ others B s.heap [], p ∈ others B s.heap [] := fun _ h => h
    w_strict (k_steps)
    rename Fr _ _ _ _ => F
    rename News _ _ _ _ => N
    show wpAny _ _ _ _ _ _
    refine use_S (ih2 (amb_now (W := []) am F N (fun p hp => .tail _ (.tail _ (.tail _ (.tail _ ((hsub _ hp)))))) noW (by rfl) (by rfl)) (rm.deeper.less (by first | (simp +arith only; done) | lia | omega) (by first | (simp +arith only; done) | lia | omega)) (tr1.mono (ow_in N (fun p hp => .tail _ (.tail _ (.tail _ (.tail _ (hsub _ hp))))) (by rfl))) wf1 (by first | (simp +arith only; done) | lia | omega)) ?_
    intro hN tkN tk st
    obtain ⟨FN, restN, NN, hsN, hall⟩ := after_keep [(x, instObj 146 dx), (dx, dictOf [ent w "command" k1 (.ref y1)] 1), (y1, instObj 125 dy), (dy, dictOf es en)] F N st
    have NN : News B L hN ((x, instObj 146 dx) :: (dx, dictOf [ent w "command" k1 (.ref y1)] 1) :: (y1, instObj 125 dy) :: (dy, dictOf es en) :: restN) := NN
    replace hsub : ∀ p ∈ others B s.heap [], p ∈ restN := fun p hp => hsN _ (hsub _ hp)
    clear F N st hsN
    (try dsimp only)
    w_strict (k_steps)
    refine hR _ _ _ ⟨⟨_, by rw [amp_S, S_append]; rfl⟩, step_of (by assumption) (by assumption) am.stays (fun p hp => .tail _ (.tail _ (.tail _ (.tail _ (hsub _ hp)))))⟩
  | back t =>
    have hy : Ow B l s.heap y1 (instObj 146 dy) := hy
    have e0 : (if isBk (.back t) then txt (.back t) else ppd (.back t)) = txt (.back t) := rfl
    rw [e0] at g1 g2
    refine call_ok (by k_is) (by k_is) am rm.ok (binds := [("tree", .ref x)]) (BindsTo.of_eq rfl) (locs rfl) ((x, instObj 146 dx) :: (dx, dictOf [ent w "command" k1 (.ref y1)] 1) :: (y1, instObj 146 dy) :: (dy, dictOf es en) :: others B s.heap []) ?_ ?_
    · refine all_cons ?_ (all_cons ?_ (all_cons ?_ (all_cons ?_ ?_)))
      · exact ⟨h1.1, h1.2.base⟩
      · exact ⟨h2.1, h2.2.base⟩
      · exact ⟨hy.1, hy.2.base⟩
      · exact ⟨hdy.1, hdy.2.base⟩
      · exact fun p hp => others_here p hp
    intro L h₁ tk₁ R _ F N am' _ hR
    have hsub : ∀ p ∈ others B s.heap [], p ∈ others B s.heap [] := fun _ h => h
    w_strict (k_steps)
    rename Fr _ _ _ _ => F
    rename News _ _ _ _ => N
    show wpAny _ _ _ _ _ _
    refine use_S (ih1 (amb_now (W := []) am F N (fun p hp => .tail _ (.tail _ (.tail _ (.tail _ ((hsub _ hp)))))) noW (by rfl) (by rfl)) (rm.deeper.less (by first | (simp +arith only; done) | lia | omega) (by first | (simp +arith only; done) | lia | omega)) (tr1.mono (ow_in N (fun p hp => .tail _ (.tail _ (.tail _ (.tail _ (hsub _ hp))))) (by rfl))) wf1 (by first | (simp +arith only; done) | lia | omega)) ?_
    intro hN tkN tk st
    obtain ⟨FN, restN, NN, hsN, hall⟩ := after_keep [(x, instObj 146 dx), (dx, dictOf [ent w "command" k1 (.ref y1)] 1), (y1, instObj 146 dy), (dy, dictOf es en)] F N st
    have NN : News B L hN ((x, instObj 146 dx) :: (dx, dictOf [ent w "command" k1 (.ref y1)] 1) :: (y1, instObj 146 dy) :: (dy, dictOf es en) :: restN) := NN
    replace hsub : ∀ p ∈ others B s.heap [], p ∈ restN := fun p hp => hsN _ (hsub _ hp)
    clear F N st hsN
    (try dsimp only)
    w_strict (k_steps)
    refine hR _ _ _ ⟨⟨_, by rw [amp_S, S_append]; rfl⟩, step_of (by assumption) (by assumption) am.stays (fun p hp => .tail _ (.tail _ (.tail _ (.tail _ (hsub _ hp)))))⟩

theorem grouped_spec {t : Tree} (ih : Tells w mean mg mb B 269 t 3 40 (txt t)) : Tells w mean mg mb B 276 t 4 43 (grp t) := by
  intro A l s v am rm tr wf hg
  have T := am.top
  have X := am.inK
  obtain ⟨y1, dy, es, en, rfl, hy, hdy⟩ := tr.inst
  have g2 : (txt t).length ≤ (grp t).length := brk_len _ _
  have l1 : (S (txt t)).length = (txt t).length := S_len _
  obtain ⟨b1, b2, b3⟩ := sT (t := t) (by first | (simp +arith only; done) | lia | omega)
  have lb := lit_b
  have lg := lit_g
  cases t with
  | run a =>
    have hy : Ow B l s.heap y1 (instObj 83 dy) := hy
    refine call_ok (by k_is) (by k_is) am rm.ok (binds := [("tree", .ref y1)]) (BindsTo.of_eq rfl) (locs rfl) ((y1, instObj 83 dy) :: (dy, dictOf es en) :: others B s.heap []) ?_ ?_
    · refine all_cons ?_ (all_cons ?_ ?_)
      · exact ⟨hy.1, hy.2.base⟩
      · exact ⟨hdy.1, hdy.2.base⟩
      · exact fun p hp => others_here p hp
    intro L h₁ tk₁ R _ F N am' _ hR
    have hsub : ∀ p ∈ others B s.heap [], p ∈ others B s.heap [] := fun _ h => h
    w_strict (k_steps)
    rename News _ _ _ _ => N0
    have N := news_tail N0
    clear N0
    rename Fr _ _ _ _ => F
    rename News _ _ _ _ => N
    show wpAny _ _ _ _ _ _
    refine use_S (ih (amb_now (W := []) am F N (fun p hp => .tail _ (.tail _ ((hsub _ hp)))) noW (by rfl) (by rfl)) (rm.deeper.less (by first | (simp +arith only; done) | lia | omega) (by first | (simp +arith only; done) | lia | omega)) (tr.mono (ow_in N (fun p hp => .tail _ (.tail _ (hsub _ hp))) (by rfl))) wf (by first | (simp +arith only; done) | lia | omega)) ?_
    intro hN tkN tk st
    obtain ⟨FN, restN, NN, hsN, hall⟩ := after_keep [(y1, instObj 83 dy), (dy, dictOf es en)] F N st
    have NN : News B L hN ((y1, instObj 83 dy) :: (dy, dictOf es en) :: restN) := NN
    replace hsub : ∀ p ∈ others B s.heap [], p ∈ restN := fun p hp => hsN _ (hsub _ hp)
    clear F N st hsN
    (try dsimp only)
    w_strict (k_steps)
    refine hR _ _ _ ⟨⟨_, by rfl⟩, step_of (by assumption) (by assumption) am.stays (fun p hp => .tail _ (.tail _ (hsub _ hp)))⟩
  | redir k t p =>
    have hy : Ow B l s.heap y1 (instObj 104 dy) := hy
    refine call_ok (by k_is) (by k_is) am rm.ok (binds := [("tree", .ref y1)]) (BindsTo.of_eq rfl) (locs rfl) ((y1, instObj 104 dy) :: (dy, dictOf es en) :: others B s.heap []) ?_ ?_
    · refine all_cons ?_ (all_cons ?_ ?_)
      · exact ⟨hy.1, hy.2.base⟩
      · exact ⟨hdy.1, hdy.2.base⟩
      · exact fun p hp => others_here p hp
    intro L h₁ tk₁ R _ F N am' _ hR
    have hsub : ∀ p ∈ others B s.heap [], p ∈ others B s.heap [] := fun _ h => h
    w_strict (k_steps)
    rename News _ _ _ _ => N0
    have N := news_tail N0
    clear N0
    rename Fr _ _ _ _ => F
    rename News _ _ _ _ => N
    show wpAny _ _ _ _ _ _
    refine use_S (ih (amb_now (W := []) am F N (fun p hp => .tail _ (.tail _ ((hsub _ hp)))) noW (by rfl) (by rfl)) (rm.deeper.less (by first | (simp +arith only; done) | lia | omega) (by first | (simp +arith only; done) | lia | omega)) (tr.mono (ow_in N (fun p hp => .tail _ (.tail _ (hsub _ hp))) (by rfl))) wf (by first | (simp +arith only; done) | lia | omega)) ?_
    intro hN tkN tk st
    obtain ⟨FN, restN, NN, hsN, hall⟩ := after_keep [(y1, instObj 104 dy), (dy, dictOf es en)] F N st
    have NN : News B L hN ((y1, instObj 104 dy) :: (dy, dictOf es en) :: restN) := NN
    replace hsub : ∀ p ∈ others B s.heap [], p ∈ restN := fun p hp => hsN _ (hsub _ hp)
    clear F N st hsN
    (try dsimp only)
    w_strict (k_steps)
    refine hR _ _ _ ⟨⟨_, by rfl⟩, step_of (by assumption) (by assumption) am.stays (fun p hp => .tail _ (.tail _ (hsub _ hp)))⟩
  | pair k t p =>
    have hy : Ow B l s.heap y1 (instObj 125 dy) := hy
    refine call_ok (by k_is) (by k_is) am rm.ok (binds := [("tree", .ref y1)]) (BindsTo.of_eq rfl) (locs rfl) ((y1, instObj 125 dy) :: (dy, dictOf es en) :: others B s.heap []) ?_ ?_
    · refine all_cons ?_ (all_cons ?_ ?_)
      · exact ⟨hy.1, hy.2.base⟩
      · exact ⟨hdy.1, hdy.2.base⟩
      · exact fun p hp => others_here p hp
    intro L h₁ tk₁ R _ F N am' _ hR
    have hsub : ∀ p ∈ others B s.heap [], p ∈ others B s.heap [] := fun _ h => h
    w_strict (k_steps)
    rename News _ _ _ _ => N0
    have N := news_tail N0
    clear N0
    rename Fr _ _ _ _ => F
    rename News _ _ _ _ => N
    show wpAny _ _ _ _ _ _
    refine use_S (ih (amb_now (W := []) am F N (fun p hp => .tail _ (.tail _ ((hsub _ hp)))) noW (by rfl) (by rfl)) (rm.deeper.less (by first | (simp +arith only; done) | lia | omega) (by first | (simp +arith only; done) | lia | omega)) (tr.mono (ow_in N (fun p hp => .tail _ (.tail _ (hsub _ hp))) (by rfl))) wf (by first | (simp +arith only; done) | lia | omega)) ?_
    intro hN tkN tk st
    obtain ⟨FN, restN, NN, hsN, hall⟩ := after_keep [(y1, instObj 125 dy), (dy, dictOf es en)] F N st
    have NN : News B L hN ((y1, instObj 125 dy) :: (dy, dictOf es en) :: restN) := NN
    replace hsub : ∀ p ∈ others B s.heap [], p ∈ restN := fun p hp => hsN _ (hsub _ hp)
    clear F N st hsN
    (try dsimp only)
    w_strict (k_steps)
    refine hR _ _ _ ⟨⟨_, by rw [opn_S, cls_S, S_append, S_append]; rfl⟩, step_of (by assumption) (by assumption) am.stays (fun p hp => .tail _ (.tail _ (hsub _ hp)))⟩
  | back t =>
    have hy : Ow B l s.heap y1 (instObj 146 dy) := hy
    refine call_ok (by k_is) (by k_is) am rm.ok (binds := [("tree", .ref y1)]) (BindsTo.of_eq rfl) (locs rfl) ((y1, instObj 146 dy) :: (dy, dictOf es en) :: others B s.heap []) ?_ ?_
    · refine all_cons ?_ (all_cons ?_ ?_)
      · exact ⟨hy.1, hy.2.base⟩
      · exact ⟨hdy.1, hdy.2.base⟩
      · exact fun p hp => others_here p hp
    intro L h₁ tk₁ R _ F N am' _ hR
    have hsub : ∀ p ∈ others B s.heap [], p ∈ others B s.heap [] := fun _ h => h
    w_strict (k_steps)
    rename News _ _ _ _ => N0
    have N := news_tail N0
    clear N0
    rename Fr _ _ _ _ => F
    rename News _ _ _ _ => N
    show wpAny _ _ _ _ _ _
    refine use_S (ih (amb_now (W := []) am F N (fun p hp => .tail _ (.tail _ ((hsub _ hp)))) noW (by rfl) (by rfl)) (rm.deeper.less (by first | (simp +arith only; done) | lia | omega) (by first | (simp +arith only; done) | lia | omega)) (tr.mono (ow_in N (fun p hp => .tail _ (.tail _ (hsub _ hp))) (by rfl))) wf (by first | (simp +arith only; done) | lia | omega)) ?_
    intro hN tkN tk st
    obtain ⟨FN, restN, NN, hsN, hall⟩ := after_keep [(y1, instObj 146 dy), (dy, dictOf es en)] F N st
    have NN : News B L hN ((y1, instObj 146 dy) :: (dy, dictOf es en) :: restN) := NN
    replace hsub : ∀ p ∈ others B s.heap [], p ∈ restN := fun p hp => hsN _ (hsub _ hp)
    clear F N st hsN
    (try dsimp only)
    w_strict (k_steps)
    refine hR _ _ _ ⟨⟨_, by rw [opn_S, cls_S, S_append, S_append]; rfl⟩, step_of (by assumption) (by assumption) am.stays (fun p hp => .tail _ (.tail _ (hsub _ hp)))⟩

theorem piped_spec {t : Tree} (ih : Tells w mean mg mb B 269 t 3 40 (txt t)) : Tells w mean mg mb B 283 t 4 43 (ppd t) := by
  intro A l s v am rm tr wf hg
  have T := am.top
  have X := am.inK
  have g2 : (txt t).length ≤ (ppd t).length := brk_len _ _
  have l1 : (S (txt t)).length = (txt t).length := S_len _
  obtain ⟨b1, b2, b3⟩ := sT (t := t) (by first | (simp +arith only; done) | lia | omega)
  have lb := lit_b
  have lg := lit_g
  cases wf with
  | @run a q1 q2 =>
    obtain ⟨y1, dy, es, en, rfl, hy, hdy⟩ := tr.inst
    have hy : Ow B l s.heap y1 (instObj 83 dy) := hy
    refine call_ok (by k_is) (by k_is) am rm.ok (binds := [("tree", .ref y1)]) (BindsTo.of_eq rfl) (locs rfl) ((y1, instObj 83 dy) :: (dy, dictOf es en) :: others B s.heap []) ?_ ?_
    · refine all_cons ?_ (all_cons ?_ ?_)
      · exact ⟨hy.1, hy.2.base⟩
      · exact ⟨hdy.1, hdy.2.base⟩
      · exact fun p hp => others_here p hp
    intro L h₁ tk₁ R _ F N am' _ hR
    have hsub : ∀ p ∈ others B s.heap [], p ∈ others B s.heap [] := fun _ h => h
    w_strict (k_steps)
    rename Fr _ _ _ _ => F
    rename News _ _ _ _ => N
    show wpAny _ _ _ _ _ _
    refine use_S (ih (amb_now (W := []) am F N (fun p hp => .tail _ (.tail _ ((hsub _ hp)))) noW (by rfl) (by rfl)) (rm.deeper.less (by first | (simp +arith only; done) | lia | omega) (by first | (simp +arith only; done) | lia | omega)) (tr.mono (ow_in N (fun p hp => .tail _ (.tail _ (hsub _ hp))) (by rfl))) (.run q1 q2) (by first | (simp +arith only; done) | lia | omega)) ?_
    intro hN tkN tk st
    obtain ⟨FN, restN, NN, hsN, hall⟩ := after_keep [(y1, instObj 83 dy), (dy, dictOf es en)] F N st
    have NN : News B L hN ((y1, instObj 83 dy) :: (dy, dictOf es en) :: restN) := NN
    replace hsub : ∀ p ∈ others B s.heap [], p ∈ restN := fun p hp => hsN _ (hsub _ hp)
    clear F N st hsN
    (try dsimp only)
    w_strict (k_steps)
    refine hR _ _ _ ⟨⟨_, by rfl⟩, step_of (by assumption) (by assumption) am.stays (fun p hp => .tail _ (.tail _ (hsub _ hp)))⟩
  | @redir k t p q1 q2 q3 =>
    obtain ⟨y1, dy, es, en, rfl, hy, hdy⟩ := tr.inst
    have hy : Ow B l s.heap y1 (instObj 104 dy) := hy
    refine call_ok (by k_is) (by k_is) am rm.ok (binds := [("tree", .ref y1)]) (BindsTo.of_eq rfl) (locs rfl) ((y1, instObj 104 dy) :: (dy, dictOf es en) :: others B s.heap []) ?_ ?_
    · refine all_cons ?_ (all_cons ?_ ?_)
      · exact ⟨hy.1, hy.2.base⟩
      · exact ⟨hdy.1, hdy.2.base⟩
      · exact fun p hp => others_here p hp
    intro L h₁ tk₁ R _ F N am' _ hR
    have hsub : ∀ p ∈ others B s.heap [], p ∈ others B s.heap [] := fun _ h => h
    w_strict (k_steps)
    rename Fr _ _ _ _ => F
    rename News _ _ _ _ => N
    show wpAny _ _ _ _ _ _
    refine use_S (ih (amb_now (W := []) am F N (fun p hp => .tail _ (.tail _ ((hsub _ hp)))) noW (by rfl) (by rfl)) (rm.deeper.less (by first | (simp +arith only; done) | lia | omega) (by first | (simp +arith only; done) | lia | omega)) (tr.mono (ow_in N (fun p hp => .tail _ (.tail _ (hsub _ hp))) (by rfl))) (.redir q1 q2 q3) (by first | (simp +arith only; done) | lia | omega)) ?_
    intro hN tkN tk st
    obtain ⟨FN, restN, NN, hsN, hall⟩ := after_keep [(y1, instObj 104 dy), (dy, dictOf es en)] F N st
    have NN : News B L hN ((y1, instObj 104 dy) :: (dy, dictOf es en) :: restN) := NN
    replace hsub : ∀ p ∈ others B s.heap [], p ∈ restN := fun p hp => hsN _ (hsub _ hp)
    clear F N st hsN
    (try dsimp only)
    w_strict (k_steps)
    refine hR _ _ _ ⟨⟨_, by rfl⟩, step_of (by assumption) (by assumption) am.stays (fun p hp => .tail _ (.tail _ (hsub _ hp)))⟩
  | @back t q1 =>
    obtain ⟨y1, dy, es, en, rfl, hy, hdy⟩ := tr.inst
    have hy : Ow B l s.heap y1 (instObj 146 dy) := hy
    refine call_ok (by k_is) (by k_is) am rm.ok (binds := [("tree", .ref y1)]) (BindsTo.of_eq rfl) (locs rfl) ((y1, instObj 146 dy) :: (dy, dictOf es en) :: others B s.heap []) ?_ ?_
    · refine all_cons ?_ (all_cons ?_ ?_)
      · exact ⟨hy.1, hy.2.base⟩
      · exact ⟨hdy.1, hdy.2.base⟩
      · exact fun p hp => others_here p hp
    intro L h₁ tk₁ R _ F N am' _ hR
    have hsub : ∀ p ∈ others B s.heap [], p ∈ others B s.heap [] := fun _ h => h
    w_strict (k_steps)
    rename Fr _ _ _ _ => F
    rename News _ _ _ _ => N
    show wpAny _ _ _ _ _ _
    refine use_S (ih (amb_now (W := []) am F N (fun p hp => .tail _ (.tail _ ((hsub _ hp)))) noW (by rfl) (by rfl)) (rm.deeper.less (by first | (simp +arith only; done) | lia | omega) (by first | (simp +arith only; done) | lia | omega)) (tr.mono (ow_in N (fun p hp => .tail _ (.tail _ (hsub _ hp))) (by rfl))) (.back q1) (by first | (simp +arith only; done) | lia | omega)) ?_
    intro hN tkN tk st
    obtain ⟨FN, restN, NN, hsN, hall⟩ := after_keep [(y1, instObj 146 dy), (dy, dictOf es en)] F N st
    have NN : News B L hN ((y1, instObj 146 dy) :: (dy, dictOf es en) :: restN) := NN
    replace hsub : ∀ p ∈ others B s.heap [], p ∈ restN := fun p hp => hsN _ (hsub _ hp)
    clear F N st hsN
    (try dsimp only)
    w_strict (k_steps)
    refine hR _ _ _ ⟨⟨_, by rw [opn_S, cls_S, S_append, S_append]; rfl⟩, step_of (by assumption) (by assumption) am.stays (fun p hp => .tail _ (.tail _ (hsub _ hp)))⟩
  | @pair sg t1 t2 q1 q2 q3 =>
    have tr0 := tr
    cases tr with
    | @pair y1 dy k1 k2 k3 ts v1 v2 _ _ _ hy hdy tr1 tr2 =>
    have tr := tr0
    clear tr0
    rcases q1 with rfl | rfl
    · rw [← bar_S] at hdy
      refine call_ok (by k_is) (by k_is) am rm.ok (binds := [("tree", .ref y1)]) (BindsTo.of_eq rfl) (locs rfl) ((y1, instObj 125 dy) :: (dy, dictOf [ent w "sign" k1 (.str (Str.ofString "|") ts), ent w "left" k2 v1, ent w "right" k3 v2] 3) :: others B s.heap []) ?_ ?_
      · refine all_cons ?_ (all_cons ?_ ?_)
        · exact ⟨hy.1, hy.2.base⟩
        · exact ⟨hdy.1, hdy.2.base⟩
        · exact fun p hp => others_here p hp
      intro L h₁ tk₁ R _ F N am' _ hR
      have hsub : ∀ p ∈ others B s.heap [], p ∈ others B s.heap [] := fun _ h => h
      w_strict (k_steps)
      rename Fr _ _ _ _ => F
      rename News _ _ _ _ => N
      show wpAny _ _ _ _ _ _
      refine use_S (ih (amb_now (W := []) am F N (fun p hp => .tail _ (.tail _ ((hsub _ hp)))) noW (by rfl) (by rfl)) (rm.deeper.less (by first | (simp +arith only; done) | lia | omega) (by first | (simp +arith only; done) | lia | omega)) (tr.mono (ow_in N (fun p hp => .tail _ (.tail _ (hsub _ hp))) (by rfl))) (.pair (.inl rfl) q2 q3) (by first | (simp +arith only; done) | lia | omega)) ?_
      intro hN tkN tk st
      obtain ⟨FN, restN, NN, hsN, hall⟩ := after_keep [(y1, instObj 125 dy), (dy, dictOf [ent w "sign" k1 (.str (Str.ofString "|") ts), ent w "left" k2 v1, ent w "right" k3 v2] 3)] F N st
      have NN : News B L hN ((y1, instObj 125 dy) :: (dy, dictOf [ent w "sign" k1 (.str (Str.ofString "|") ts), ent w "left" k2 v1, ent w "right" k3 v2] 3) :: restN) := NN
      replace hsub : ∀ p ∈ others B s.heap [], p ∈ restN := fun p hp => hsN _ (hsub _ hp)
      clear F N st hsN
      (try dsimp only)
      w_strict (k_steps)
      refine hR _ _ _ ⟨⟨_, by rfl⟩, step_of (by assumption) (by assumption) am.stays (fun p hp => .tail _ (.tail _ (hsub _ hp)))⟩
    · rw [← semi_S] at hdy
      refine call_ok (by k_is) (by k_is) am rm.ok (binds := [("tree", .ref y1)]) (BindsTo.of_eq rfl) (locs rfl) ((y1, instObj 125 dy) :: (dy, dictOf [ent w "sign" k1 (.str (Str.ofString ";") ts), ent w "left" k2 v1, ent w "right" k3 v2] 3) :: others B s.heap []) ?_ ?_
      · refine all_cons ?_ (all_cons ?_ ?_)
        · exact ⟨hy.1, hy.2.base⟩
        · exact ⟨hdy.1, hdy.2.base⟩
        · exact fun p hp => others_here p hp
      intro L h₁ tk₁ R _ F N am' _ hR
      have hsub : ∀ p ∈ others B s.heap [], p ∈ others B s.heap [] := fun _ h => h
      w_strict (k_steps)
      rename Fr _ _ _ _ => F
      rename News _ _ _ _ => N
      show wpAny _ _ _ _ _ _
      refine use_S (ih (amb_now (W := []) am F N (fun p hp => .tail _ (.tail _ ((hsub _ hp)))) noW (by rfl) (by rfl)) (rm.deeper.less (by first | (simp +arith only; done) | lia | omega) (by first | (simp +arith only; done) | lia | omega)) (tr.mono (ow_in N (fun p hp => .tail _ (.tail _ (hsub _ hp))) (by rfl))) (.pair (.inr rfl) q2 q3) (by first | (simp +arith only; done) | lia | omega)) ?_
      intro hN tkN tk st
      obtain ⟨FN, restN, NN, hsN, hall⟩ := after_keep [(y1, instObj 125 dy), (dy, dictOf [ent w "sign" k1 (.str (Str.ofString ";") ts), ent w "left" k2 v1, ent w "right" k3 v2] 3)] F N st
      have NN : News B L hN ((y1, instObj 125 dy) :: (dy, dictOf [ent w "sign" k1 (.str (Str.ofString ";") ts), ent w "left" k2 v1, ent w "right" k3 v2] 3) :: restN) := NN
      replace hsub : ∀ p ∈ others B s.heap [], p ∈ restN := fun p hp => hsN _ (hsub _ hp)
      clear F N st hsN
      (try dsimp only)
      w_strict (k_steps)
      refine hR _ _ _ ⟨⟨_, by rw [opn_S, cls_S, S_append, S_append]; rfl⟩, step_of (by assumption) (by assumption) am.stays (fun p hp => .tail _ (.tail _ (hsub _ hp)))⟩
end

section
open PySem PySem.W PySem.Calls PySem.Spec PyProof.Rows
local macro_rules | `(tactic| walk_at "binaryOp Add str str") => `(tactic| (k_here; refine add_K (by walk_at "r") (by walk_at "r") (by exact Nat.le_of_ble_eq_true rfl) (fun _ _ _ => ?_)))
variable {w : World} {mean : ExcName → Option Value} {mg mb : Str → Option Value} {B : Heap} {A : Around} {l : List Env} {s : Shared}


theorem pipe_S : Str.ofString " | " = S [32, 124, 32] := by decide +kernel
theorem then_S : Str.ofString " ; " = S [32, 59, 32] := by decide +kernel
theorem pipe_len {l r : Tree} : (grp l).length + (ppd r).length ≤ (txt (.pair 124 l r)).length := by
  rw [txt, if_pos rfl]
  simp [grp, ppd]
  (first | lia | omega)
theorem then_len {l r : Tree} : (if isBk l then txt l else ppd l).length + (txt r).length ≤ (txt (.pair 59 l r)).length := by
  have e : txt (.pair 59 l r) = (if isBk l then txt l else ppd l) ++ [32, 59, 32] ++ txt r := by
    rw [txt, if_neg (show ¬ (59 = 124) by decide)]
    rfl
  rw [e, List.length_append, List.length_append]
  simp only [List.length_cons, List.length_nil]
  (first | lia | omega)

theorem lin2 {a b k k' : Nat} (m : a ≤ b) (h : k ≤ k' + 2) : 2 * a + k ≤ 2 * (b + 1) + k' := by (first | lia | omega)
theorem lin6 {a b k k' : Nat} (m : a ≤ b) (h : k ≤ k' + 6) : 6 * a + k ≤ 6 * (b + 1) + k' := by (first | lia | omega)
theorem text_pair {c : Nat} {t1 t2 : Tree} (ih1 : Tells w mean mg mb B 269 t1 3 40 (txt t1)) (ih2 : Tells w mean mg mb B 283 t1 4 43 (ppd t1)) (ih3 : Tells w mean mg mb B 276 t1 4 43 (grp t1))
    (jh1 : Tells w mean mg mb B 269 t2 3 40 (txt t2)) (jh2 : Tells w mean mg mb B 283 t2 4 43 (ppd t2)) : Tells w mean mg mb B 269 (.pair c t1 t2) 3 40 (txt (.pair c t1 t2)) := by
  intro A l s v am rm tr wf hg
  have T := am.top
  have X := am.inK
  cases tr with
  | @pair x dx k1 k2 k3 ts v1 v2 _ _ _ h1 h2 tr1 tr2 =>
  cases wf with
  | pair hc wf1 wf2 =>
  obtain ⟨y1, dy, es, en, rfl, hy, hdy⟩ := tr1.inst
  obtain ⟨y2, dy2, es2, en2, rfl, _, _⟩ := tr2.inst
  have l1 : (S (txt t1)).length = (txt t1).length := S_len _
  have l2 : (S (ppd t1)).length = (ppd t1).length := S_len _
  have l3 : (S (grp t1)).length = (grp t1).length := S_len _
  have l4 : (S (txt t2)).length = (txt t2).length := S_len _
  have l5 : (S (ppd t2)).length = (ppd t2).length := S_len _
  have hht : ht (.pair c t1 t2) = max (ht t1) (ht t2) + 1 := rfl
  rw [hht] at rm
  have m1 : ht t1 ≤ max (ht t1) (ht t2) := Nat.le_max_left _ _
  have m2 : ht t2 ≤ max (ht t1) (ht t2) := Nat.le_max_right _ _
  generalize max (ht t1) (ht t2) = mx at rm m1 m2
  rcases hc with rfl | rfl
  · rw [← bar_S] at h2
    have g1 := pipe_len (l := t1) (r := t2)
    have q1 : (txt t1).length ≤ (grp t1).length := brk_len _ _
    have q2 : (txt t2).length ≤ (ppd t2).length := brk_len _ _
    have lh := lit_h
    obtain ⟨b1, b2, b3⟩ := sT (t := t1) (by first | (simp +arith only; done) | exact lin2 m1 (by decide) | exact lin2 m2 (by decide) | exact lin6 m1 (by decide) | exact lin6 m2 (by decide) | assumption | lia | omega)
    obtain ⟨c1, c2, c3⟩ := sT (t := t2) (by first | (simp +arith only; done) | exact lin2 m1 (by decide) | exact lin2 m2 (by decide) | exact lin6 m1 (by decide) | exact lin6 m2 (by decide) | assumption | lia | omega)
    have d1 : (grp t1).length ≤ 900000 := by (first | lia | omega)
    have d2 : (ppd t2).length ≤ 900000 := by (first | lia | omega)
    clear q1 q2
    refine call_ok (by k_is) (by k_is) am rm.ok (binds := [("tree", .ref x)]) (BindsTo.of_eq rfl) (locs rfl) ((x, instObj 125 dx) :: (dx, dictOf [ent w "sign" k1 (.str (Str.ofString "|") ts), ent w "left" k2 (.ref y1), ent w "right" k3 (.ref y2)] 3) :: others B s.heap []) ?_ ?_
    · refine all_cons ?_ (all_cons ?_ ?_)
      · exact ⟨h1.1, h1.2.base⟩
      · exact ⟨h2.1, h2.2.base⟩
      · exact fun p hp => others_here p hp
    intro L h₁ tk₁ R _ F N am' _ hR
    have hsub : ∀ p ∈ others B s.heap [], p ∈ others B s.heap [] := fun _ h => h
    w_strict (k_steps)
    rename Fr _ _ _ _ => F
    rename News _ _ _ _ => N
    show wpAny _ _ _ _ _ _
    refine use_S (ih3 (amb_now (W := []) am F N (fun p hp => .tail _ (.tail _ ((hsub _ hp)))) noW (by rfl) (by rfl)) (rm.deeper.less (by first | (simp +arith only; done) | exact lin2 m1 (by decide) | exact lin2 m2 (by decide) | exact lin6 m1 (by decide) | exact lin6 m2 (by decide) | assumption | lia | omega) (by first | (simp +arith only; done) | exact lin2 m1 (by decide) | exact lin2 m2 (by decide) | exact lin6 m1 (by decide) | exact lin6 m2 (by decide) | assumption | lia | omega)) (tr1.mono (ow_in N (fun p hp => .tail _ (.tail _ (hsub _ hp))) (by rfl))) wf1 (by first | (simp +arith only; done) | exact lin2 m1 (by decide) | exact lin2 m2 (by decide) | exact lin6 m1 (by decide) | exact lin6 m2 (by decide) | assumption | lia | omega)) ?_
    intro hN tkN tk st
    obtain ⟨FN, restN, NN, hsN, hall⟩ := after_keep [(x, instObj 125 dx), (dx, dictOf [ent w "sign" k1 (.str (Str.ofString "|") ts), ent w "left" k2 (.ref y1), ent w "right" k3 (.ref y2)] 3)] F N st
    have NN : News B L hN ((x, instObj 125 dx) :: (dx, dictOf [ent w "sign" k1 (.str (Str.ofString "|") ts), ent w "left" k2 (.ref y1), ent w "right" k3 (.ref y2)] 3) :: restN) := NN
    replace hsub : ∀ p ∈ others B s.heap [], p ∈ restN := fun p hp => hsN _ (hsub _ hp)
    clear F N st hsN
    (try dsimp only)
    w_strict (k_steps)
    rename Fr _ _ _ _ => F
    rename News _ _ _ _ => N
    show wpAny _ _ _ _ _ _
    refine use_S (jh2 (amb_now (W := []) am F N (fun p hp => .tail _ (.tail _ ((hsub _ hp)))) noW (by rfl) (by rfl)) (rm.deeper.less (by first | (simp +arith only; done) | exact lin2 m1 (by decide) | exact lin2 m2 (by decide) | exact lin6 m1 (by decide) | exact lin6 m2 (by decide) | assumption | lia | omega) (by first | (simp +arith only; done) | exact lin2 m1 (by decide) | exact lin2 m2 (by decide) | exact lin6 m1 (by decide) | exact lin6 m2 (by decide) | assumption | lia | omega)) (tr2.mono (ow_in N (fun p hp => .tail _ (.tail _ (hsub _ hp))) (by rfl))) wf2 (by first | (simp +arith only; done) | exact lin2 m1 (by decide) | exact lin2 m2 (by decide) | exact lin6 m1 (by decide) | exact lin6 m2 (by decide) | assumption | lia | omega)) ?_
    intro hN tkN tk2 st
    obtain ⟨FN, restN, NN, hsN, hall⟩ := after_keep [(x, instObj 125 dx), (dx, dictOf [ent w "sign" k1 (.str (Str.ofString "|") ts), ent w "left" k2 (.ref y1), ent w "right" k3 (.ref y2)] 3)] F N st
    have NN : News B L hN ((x, instObj 125 dx) :: (dx, dictOf [ent w "sign" k1 (.str (Str.ofString "|") ts), ent w "left" k2 (.ref y1), ent w "right" k3 (.ref y2)] 3) :: restN) := NN
    replace hsub : ∀ p ∈ others B s.heap [], p ∈ restN := fun p hp => hsN _ (hsub _ hp)
    clear F N st hsN
    (try dsimp only)
    w_strict (k_steps)
    refine hR _ _ _ ⟨⟨_, by rw [pipe_S, S_append, S_append]; rfl⟩, step_of (by assumption) (by assumption) am.stays (fun p hp => .tail _ (.tail _ (hsub _ hp)))⟩
  · rw [← semi_S] at h2
    have g1 := then_len (l := t1) (r := t2)
    have q1 : (txt t1).length ≤ (if isBk t1 then txt t1 else ppd t1).length := (back_len (t := t1)).2
    have li := lit_i
    obtain ⟨b1, b2, b3⟩ := sT (t := t1) (by first | (simp +arith only; done) | exact lin2 m1 (by decide) | exact lin2 m2 (by decide) | exact lin6 m1 (by decide) | exact lin6 m2 (by decide) | assumption | lia | omega)
    obtain ⟨c1, c2, c3⟩ := sT (t := t2) (by first | (simp +arith only; done) | exact lin2 m1 (by decide) | exact lin2 m2 (by decide) | exact lin6 m1 (by decide) | exact lin6 m2 (by decide) | assumption | lia | omega)
    have d1 : (txt t2).length ≤ 900000 := by (first | lia | omega)
    have d2 : (if isBk t1 then txt t1 else ppd t1).length ≤ 900000 := by (first | lia | omega)
    clear q1
    cases t1 with
    | run a =>
      have hy : Ow B l s.heap y1 (instObj 83 dy) := hy
      have e0 : (if isBk (.run a) then txt (.run a) else ppd (.run a)) = ppd (.run a) := rfl
      rw [e0] at g1 d2
      refine call_ok (by k_is) (by k_is) am rm.ok (binds := [("tree", .ref x)]) (BindsTo.of_eq rfl) (locs rfl) ((x, instObj 125 dx) :: (dx, dictOf [ent w "sign" k1 (.str (Str.ofString ";") ts), ent w "left" k2 (.ref y1), ent w "right" k3 (.ref y2)] 3) :: (y1, instObj 83 dy) :: (dy, dictOf es en) :: others B s.heap []) ?_ ?_
      · refine all_cons ?_ (all_cons ?_ (all_cons ?_ (all_cons ?_ ?_)))
        · exact ⟨h1.1, h1.2.base⟩
        · exact ⟨h2.1, h2.2.base⟩
        · exact ⟨hy.1, hy.2.base⟩
        · exact ⟨hdy.1, hdy.2.base⟩
        · exact fun p hp => others_here p hp
      intro L h₁ tk₁ R _ F N am' _ hR
      have hsub : ∀ p ∈ others B s.heap [], p ∈ others B s.heap [] := fun _ h => h
      w_strict (k_steps)
      rename Fr _ _ _ _ => F
      rename News _ _ _ _ => N
      show wpAny _ _ _ _ _ _
      refine use_S (ih2 (amb_now (W := []) am F N (fun p hp => .tail _ (.tail _ (.tail _ (.tail _ ((hsub _ hp)))))) noW (by rfl) (by rfl)) (rm.deeper.less (by first | (simp +arith only; done) | exact lin2 m1 (by decide) | exact lin2 m2 (by decide) | exact lin6 m1 (by decide) | exact lin6 m2 (by decide) | assumption | lia | omega) (by first | (simp +arith only; done) | exact lin2 m1 (by decide) | exact lin2 m2 (by decide) | exact lin6 m1 (by decide) | exact lin6 m2 (by decide) | assumption | lia | omega)) (tr1.mono (ow_in N (fun p hp => .tail _ (.tail _ (.tail _ (.tail _ (hsub _ hp))))) (by rfl))) wf1 (by first | (simp +arith only; done) | exact lin2 m1 (by decide) | exact lin2 m2 (by decide) | exact lin6 m1 (by decide) | exact lin6 m2 (by decide) | assumption | lia | omega)) ?_
      intro hN tkN tk st
      obtain ⟨FN, restN, NN, hsN, hall⟩ := after_keep [(x, instObj 125 dx), (dx, dictOf [ent w "sign" k1 (.str (Str.ofString ";") ts), ent w "left" k2 (.ref y1), ent w "right" k3 (.ref y2)] 3), (y1, instObj 83 dy), (dy, dictOf es en)] F N st
      have NN : News B L hN ((x, instObj 125 dx) :: (dx, dictOf [ent w "sign" k1 (.str (Str.ofString ";") ts), ent w "left" k2 (.ref y1), ent w "right" k3 (.ref y2)] 3) :: (y1, instObj 83 dy) :: (dy, dictOf es en) :: restN) := NN
      replace hsub : ∀ p ∈ others B s.heap [], p ∈ restN := fun p hp => hsN _ (hsub _ hp)
      clear F N st hsN
      (try dsimp only)
      w_strict (k_steps)
      rename Fr _ _ _ _ => F
      rename News _ _ _ _ => N
      show wpAny _ _ _ _ _ _
      refine use_S (jh1 (amb_now (W := []) am F N (fun p hp => .tail _ (.tail _ (.tail _ (.tail _ ((hsub _ hp)))))) noW (by rfl) (by rfl)) (rm.deeper.less (by first | (simp +arith only; done) | exact lin2 m1 (by decide) | exact lin2 m2 (by decide) | exact lin6 m1 (by decide) | exact lin6 m2 (by decide) | assumption | lia | omega) (by first | (simp +arith only; done) | exact lin2 m1 (by decide) | exact lin2 m2 (by decide) | exact lin6 m1 (by decide) | exact lin6 m2 (by decide) | assumption | lia | omega)) (tr2.mono (ow_in N (fun p hp => .tail _ (.tail _ (.tail _ (.tail _ (hsub _ hp))))) (by rfl))) wf2 (by first | (simp +arith only; done) | exact lin2 m1 (by decide) | exact lin2 m2 (by decide) | exact lin6 m1 (by decide) | exact lin6 m2 (by decide) | assumption | lia | omega)) ?_
      intro hN tkN tk2 st
      obtain ⟨FN, restN, NN, hsN, hall⟩ := after_keep [(x, instObj 125 dx), (dx, dictOf [ent w "sign" k1 (.str (Str.ofString ";") ts), ent w "left" k2 (.ref y1), ent w "right" k3 (.ref y2)] 3), (y1, instObj 83 dy), (dy, dictOf es en)] F N st
      have NN : News B L hN ((x, instObj 125 dx) :: (dx, dictOf [ent w "sign" k1 (.str (Str.ofString ";") ts), ent w "left" k2 (.ref y1), ent w "right" k3 (.ref y2)] 3) :: (y1, instObj 83 dy) :: (dy, dictOf es en) :: restN) := NN
      replace hsub : ∀ p ∈ others B s.heap [], p ∈ restN := fun p hp => hsN _ (hsub _ hp)
      clear F N st hsN
      (try dsimp only)
      w_strict (k_steps)
      refine hR _ _ _ ⟨⟨_, by rw [then_S, S_append, S_append]; rfl⟩, step_of (by assumption) (by assumption) am.stays (fun p hp => .tail _ (.tail _ (.tail _ (.tail _ (hsub _ hp)))))⟩
    | redir k t p =>
      have hy : Ow B l s.heap y1 (instObj 104 dy) := hy
      have e0 : (if isBk (.redir k t p) then txt (.redir k t p) else ppd (.redir k t p)) = ppd (.redir k t p) := rfl
      rw [e0] at g1 d2
      refine call_ok (by k_is) (by k_is) am rm.ok (binds := [("tree", .ref x)]) (BindsTo.of_eq rfl) (locs rfl) ((x, instObj 125 dx) :: (dx, dictOf [ent w "sign" k1 (.str (Str.ofString ";") ts), ent w "left" k2 (.ref y1), ent w "right" k3 (.ref y2)] 3) :: (y1, instObj 104 dy) :: (dy, dictOf es en) :: others B s.heap []) ?_ ?_
      · refine all_cons ?_ (all_cons ?_ (all_cons ?_ (all_cons ?_ ?_)))
        · exact ⟨h1.1, h1.2.base⟩
        · exact ⟨h2.1, h2.2.base⟩
        · exact ⟨hy.1, hy.2.base⟩
        · exact ⟨hdy.1, hdy.2.base⟩
        · exact fun p hp => others_here p hp
      intro L h₁ tk₁ R _ F N am' _ hR
      have hsub : ∀ p ∈ others B s.heap [], p ∈ others B s.heap [] := fun _ h => h
      w_strict (k_steps)
      rename Fr _ _ _ _ => F
      rename News _ _ _ _ => N
      show wpAny _ _ _ _ _ _
      refine use_S (ih2 (amb_now (W := []) am F N (fun p hp => .tail _ (.tail _ (.tail _ (.tail _ ((hsub _ hp)))))) noW (by rfl) (by rfl)) (rm.deeper.less (by first | (simp +arith only; done) | exact lin2 m1 (by decide) | exact lin2 m2 (by decide) | exact lin6 m1 (by decide) | exact lin6 m2 (by decide) | assumption | lia | omega) (by first | (simp +arith only; done) | exact lin2 m1 (by decide) | exact lin2 m2 (by decide) | exact lin6 m1 (by decide) | exact lin6 m2 (by decide) | assumption | lia | omega)) (tr1.mono (ow_in N (fun p hp => .tail _ (.tail _ (.tail _ (.tail _ (hsub _ hp))))) (by rfl))) wf1 (by first | (simp +arith only; done) | exact lin2 m1 (by decide) | exact lin2 m2 (by decide) | exact lin6 m1 (by decide) | exact lin6 m2 (by decide) | assumption | lia | omega)) ?_
      intro hN tkN tk st
      obtain ⟨FN, restN, NN, hsN, hall⟩ := after_keep [(x, instObj 125 dx), (dx, dictOf [ent w "sign" k1 (.str (Str.ofString ";") ts), ent w "left" k2 (.ref y1), ent w "right" k3 (.ref y2)] 3), (y1, instObj 104 dy), (dy, dictOf es en)] F N st
      have NN : News B L hN ((x, instObj 125 dx) :: (dx, dictOf [ent w "sign" k1 (.str (Str.ofString ";") ts), ent w "left" k2 (.ref y1), ent w "right" k3 (.ref y2)] 3) :: (y1, instObj 104 dy) :: (dy, dictOf es en) :: restN) := NN
      replace hsub : ∀ p ∈ others B s.heap [], p ∈ restN := fun p hp => hsN _ (hsub _ hp)
      clear F N st hsN
      (try dsimp only)
      w_strict (k_steps)
      rename Fr _ _ _ _ => F
      rename News _ _ _ _ => N
      show wpAny _ _ _ _ _ _
      refine use_S (jh1 (amb_now (W := []) am F N (fun p hp => .tail _ (.tail _ (.tail _ (.tail _ ((hsub _ hp)))))) noW (by rfl) (by rfl)) (rm.deeper.less (by first | (simp +arith only; done) | exact lin2 m1 (by decide) | exact lin2 m2 (by decide) | exact lin6 m1 (by decide) | exact lin6 m2 (by decide) | assumption | lia | omega) (by first | (simp +arith only; done) | exact lin2 m1 (by decide) | exact lin2 m2 (by decide) | exact lin6 m1 (by decide) | exact lin6 m2 (by decide) | assumption | lia | omega)) (tr2.mono (ow_in N (fun p hp => .tail _ (.tail _ (.tail _ (.tail _ (hsub _ hp))))) (by rfl))) wf2 (by first | (simp +arith only; done) | exact lin2 m1 (by decide) | exact lin2 m2 (by decide) | exact lin6 m1 (by decide) | exact lin6 m2 (by decide) | assumption | lia | omega)) ?_
      intro hN tkN tk2 st
      obtain ⟨FN, restN, NN, hsN, hall⟩ := after_keep [(x, instObj 125 dx), (dx, dictOf [ent w "sign" k1 (.str (Str.ofString ";") ts), ent w "left" k2 (.ref y1), ent w "right" k3 (.ref y2)] 3), (y1, instObj 104 dy), (dy, dictOf es en)] F N st
      have NN : News B L hN ((x, instObj 125 dx) :: (dx, dictOf [ent w "sign" k1 (.str (Str.ofString ";") ts), ent w "left" k2 (.ref y1), ent w "right" k3 (.ref y2)] 3) :: (y1, instObj 104 dy) :: (dy, dictOf es en) :: restN) := NN
      replace hsub : ∀ p ∈ others B s.heap [], p ∈ restN := fun p hp => hsN _ (hsub _ hp)
      clear F N st hsN
      (try dsimp only)
      w_strict (k_steps)
      refine hR _ _ _ ⟨⟨_, by rw [then_S, S_append, S_append]; rfl⟩, step_of (by assumption) (by assumption) am.stays (fun p hp => .tail _ (.tail _ (.tail _ (.tail _ (hsub _ hp)))))⟩
    | pair k t p =>
      have hy : Ow B l s.heap y1 (instObj 125 dy) := hy
      have e0 : (if isBk (.pair k t p) then txt (.pair k t p) else ppd (.pair k t p)) = ppd (.pair k t p) := rfl
      rw [e0] at g1 d2
      refine call_ok (by k_is) (by k_is) am rm.ok (binds := [("tree", .ref x)]) (BindsTo.of_eq rfl) (locs rfl) ((x, instObj 125 dx) :: (dx, dictOf [ent w "sign" k1 (.str (Str.ofString ";") ts), ent w "left" k2 (.ref y1), ent w "right" k3 (.ref y2)] 3) :: (y1, instObj 125 dy) :: (dy, dictOf es en) :: others B s.heap []) ?_ ?_
      · refine all_cons ?_ (all_cons ?_ (all_cons ?_ (all_cons ?_ ?_)))
        · exact ⟨h1.1, h1.2.base⟩
        · exact ⟨h2.1, h2.2.base⟩
        · exact ⟨hy.1, hy.2.base⟩
        · exact ⟨hdy.1, hdy.2.base⟩
        · exact fun p hp => others_here p hp
      intro L h₁ tk₁ R _ F N am' _ hR
      have hsub : ∀ p ∈ others B s.heap [], p ∈ others B s.heap [] := fun _ h => h
      w_strict (k_steps)
      rename Fr _ _ _ _ => F
      rename News _ _ _ _ => N
      show wpAny _ _ _ _ _ _
      refine use_S (ih2 (amb_now (W := []) am F N (fun p hp => .tail _ (.tail _ (.tail _ (.tail _ ((hsub _ hp)))))) noW (by rfl) (by rfl)) (rm.deeper.less (by first | (simp +arith only; done) | exact lin2 m1 (by decide) | exact lin2 m2 (by decide) | exact lin6 m1 (by decide) | exact lin6 m2 (by decide) | assumption | lia | omega) (by first | (simp +arith only; done) | exact lin2 m1 (by decide) | exact lin2 m2 (by decide) | exact lin6 m1 (by decide) | exact lin6 m2 (by decide) | assumption | lia | omega)) (tr1.mono (ow_in N (fun p hp => .tail _ (.tail _ (.tail _ (.tail _ (hsub _ hp))))) (by rfl))) wf1 (by first | (simp +arith only; done) | exact lin2 m1 (by decide) | exact lin2 m2 (by decide) | exact lin6 m1 (by decide) | exact lin6 m2 (by decide) | assumption | lia | omega)) ?_
      intro hN tkN tk st
      obtain ⟨FN, restN, NN, hsN, hall⟩ := after_keep [(x, instObj 125 dx), (dx, dictOf [ent w "sign" k1 (.str (Str.ofString ";") ts), ent w "left" k2 (.ref y1), ent w "right" k3 (.ref y2)] 3), (y1, instObj 125 dy), (dy, dictOf es en)] F N st
      have NN : News B L hN ((x, instObj 125 dx) :: (dx, dictOf [ent w "sign" k1 (.str (Str.ofString ";") ts), ent w "left" k2 (.ref y1), ent w "right" k3 (.ref y2)] 3) :: (y1, instObj 125 dy) :: (dy, dictOf es en) :: restN) := NN
      replace hsub : ∀ p ∈ others B s.heap [], p ∈ restN := fun p hp => hsN _ (hsub _ hp)
      clear F N st hsN
      (try dsimp only)
      w_strict (k_steps)
      rename Fr _ _ _ _ => F
      rename News _ _ _ _ => N
      show wpAny _ _ _ _ _ _
      refine use_S (jh1 (amb_now (W := []) am F N (fun p hp => .tail _ (.tail _ (.tail _ (.tail _ ((hsub _ hp)))))) noW (by rfl) (by rfl)) (rm.deeper.less (by first | (simp +arith only; done) | exact lin2 m1 (by decide) | exact lin2 m2 (by decide) | exact lin6 m1 (by decide) | exact lin6 m2 (by decide) | assumption | lia | omega) (by first | (simp +arith only; done) | exact lin2 m1 (by decide) | exact lin2 m2 (by decide) | exact lin6 m1 (by decide) | exact lin6 m2 (by decide) | assumption | lia | omega)) (tr2.mono (ow_in N (fun p hp => .tail _ (.tail _ (.tail _ (.tail _ (hsub _ hp))))) (by rfl))) wf2 (by first | (simp +arith only; done) | exact lin2 m1 (by decide) | exact lin2 m2 (by decide) | exact lin6 m1 (by decide) | exact lin6 m2 (by decide) | assumption | lia | omega)) ?_
      intro hN tkN tk2 st
      obtain ⟨FN, restN, NN, hsN, hall⟩ := after_keep [(x, instObj 125 dx), (dx, dictOf [ent w "sign" k1 (.str (Str.ofString ";") ts), ent w "left" k2 (.ref y1), ent w "right" k3 (.ref y2)] 3), (y1, instObj 125 dy), (dy, dictOf es en)] F N st
      have NN : News B L hN ((x, instObj 125 dx) :: (dx, dictOf [ent w "sign" k1 (.str (Str.ofString ";") ts), ent w "left" k2 (.ref y1), ent w "right" k3 (.ref y2)] 3) :: (y1, instObj 125 dy) :: (dy, dictOf es en) :: restN) := NN
      replace hsub : ∀ p ∈ others B s.heap [], p ∈ restN := fun p hp => hsN _ (hsub _ hp)
      clear F N st hsN
      (try dsimp only)
      w_strict (k_steps)
      refine hR _ _ _ ⟨⟨_, by rw [then_S, S_append, S_append]; rfl⟩, step_of (by assumption) (by assumption) am.stays (fun p hp => .tail _ (.tail _ (.tail _ (.tail _ (hsub _ hp)))))⟩
    | back t =>
      have hy : Ow B l s.heap y1 (instObj 146 dy) := hy
      have e0 : (if isBk (.back t) then txt (.back t) else ppd (.back t)) = txt (.back t) := rfl
      rw [e0] at g1 d2
      refine call_ok (by k_is) (by k_is) am rm.ok (binds := [("tree", .ref x)]) (BindsTo.of_eq rfl) (locs rfl) ((x, instObj 125 dx) :: (dx, dictOf [ent w "sign" k1 (.str (Str.ofString ";") ts), ent w "left" k2 (.ref y1), ent w "right" k3 (.ref y2)] 3) :: (y1, instObj 146 dy) :: (dy, dictOf es en) :: others B s.heap []) ?_ ?_
      · refine all_cons ?_ (all_cons ?_ (all_cons ?_ (all_cons ?_ ?_)))
        · exact ⟨h1.1, h1.2.base⟩
        · exact ⟨h2.1, h2.2.base⟩
        · exact ⟨hy.1, hy.2.base⟩
        · exact ⟨hdy.1, hdy.2.base⟩
        · exact fun p hp => others_here p hp
      intro L h₁ tk₁ R _ F N am' _ hR
      have hsub : ∀ p ∈ others B s.heap [], p ∈ others B s.heap [] := fun _ h => h
      w_strict (k_steps)
      rename Fr _ _ _ _ => F
      rename News _ _ _ _ => N
      show wpAny _ _ _ _ _ _
      refine use_S (ih1 (amb_now (W := []) am F N (fun p hp => .tail _ (.tail _ (.tail _ (.tail _ ((hsub _ hp)))))) noW (by rfl) (by rfl)) (rm.deeper.less (by first | (simp +arith only; done) | exact lin2 m1 (by decide) | exact lin2 m2 (by decide) | exact lin6 m1 (by decide) | exact lin6 m2 (by decide) | assumption | lia | omega) (by first | (simp +arith only; done) | exact lin2 m1 (by decide) | exact lin2 m2 (by decide) | exact lin6 m1 (by decide) | exact lin6 m2 (by decide) | assumption | lia | omega)) (tr1.mono (ow_in N (fun p hp => .tail _ (.tail _ (.tail _ (.tail _ (hsub _ hp))))) (by rfl))) wf1 (by first | (simp +arith only; done) | exact lin2 m1 (by decide) | exact lin2 m2 (by decide) | exact lin6 m1 (by decide) | exact lin6 m2 (by decide) | assumption | lia | omega)) ?_
      intro hN tkN tk st
      obtain ⟨FN, restN, NN, hsN, hall⟩ := after_keep [(x, instObj 125 dx), (dx, dictOf [ent w "sign" k1 (.str (Str.ofString ";") ts), ent w "left" k2 (.ref y1), ent w "right" k3 (.ref y2)] 3), (y1, instObj 146 dy), (dy, dictOf es en)] F N st
      have NN : News B L hN ((x, instObj 125 dx) :: (dx, dictOf [ent w "sign" k1 (.str (Str.ofString ";") ts), ent w "left" k2 (.ref y1), ent w "right" k3 (.ref y2)] 3) :: (y1, instObj 146 dy) :: (dy, dictOf es en) :: restN) := NN
      replace hsub : ∀ p ∈ others B s.heap [], p ∈ restN := fun p hp => hsN _ (hsub _ hp)
      clear F N st hsN
      (try dsimp only)
      w_strict (k_steps)
      rename Fr _ _ _ _ => F
      rename News _ _ _ _ => N
      show wpAny _ _ _ _ _ _
      refine use_S (jh1 (amb_now (W := []) am F N (fun p hp => .tail _ (.tail _ (.tail _ (.tail _ ((hsub _ hp)))))) noW (by rfl) (by rfl)) (rm.deeper.less (by first | (simp +arith only; done) | exact lin2 m1 (by decide) | exact lin2 m2 (by decide) | exact lin6 m1 (by decide) | exact lin6 m2 (by decide) | assumption | lia | omega) (by first | (simp +arith only; done) | exact lin2 m1 (by decide) | exact lin2 m2 (by decide) | exact lin6 m1 (by decide) | exact lin6 m2 (by decide) | assumption | lia | omega)) (tr2.mono (ow_in N (fun p hp => .tail _ (.tail _ (.tail _ (.tail _ (hsub _ hp))))) (by rfl))) wf2 (by first | (simp +arith only; done) | exact lin2 m1 (by decide) | exact lin2 m2 (by decide) | exact lin6 m1 (by decide) | exact lin6 m2 (by decide) | assumption | lia | omega)) ?_
      intro hN tkN tk2 st
      obtain ⟨FN, restN, NN, hsN, hall⟩ := after_keep [(x, instObj 125 dx), (dx, dictOf [ent w "sign" k1 (.str (Str.ofString ";") ts), ent w "left" k2 (.ref y1), ent w "right" k3 (.ref y2)] 3), (y1, instObj 146 dy), (dy, dictOf es en)] F N st
      have NN : News B L hN ((x, instObj 125 dx) :: (dx, dictOf [ent w "sign" k1 (.str (Str.ofString ";") ts), ent w "left" k2 (.ref y1), ent w "right" k3 (.ref y2)] 3) :: (y1, instObj 146 dy) :: (dy, dictOf es en) :: restN) := NN
      replace hsub : ∀ p ∈ others B s.heap [], p ∈ restN := fun p hp => hsN _ (hsub _ hp)
      clear F N st hsN
      (try dsimp only)
      w_strict (k_steps)
      refine hR _ _ _ ⟨⟨_, by rw [then_S, S_append, S_append]; rfl⟩, step_of (by assumption) (by assumption) am.stays (fun p hp => .tail _ (.tail _ (.tail _ (.tail _ (hsub _ hp)))))⟩

theorem texts : ∀ t : Tree, Tells w mean mg mb B 269 t 3 40 (txt t) := by
  intro t
  induction t with
  | run a => exact text_run
  | redir k t p ih => exact text_redir (grouped_spec ih)
  | pair c t1 t2 i1 i2 => exact text_pair i1 (piped_spec i1) (grouped_spec i1) i2 (piped_spec i2)
  | back t ih => exact text_back ih (piped_spec ih)
end

local macro_rules | `(tactic| walk_at "pyIter str") => `(tactic| (k_here; refine stop_here ?_))

local macro_rules | `(tactic| walk_at "pyIter ref") => `(tactic| (k_here; refine stop_here ?_))

local macro_rules | `(tactic| walk_at "exec For Name BinOp cons nil") => `(tactic| (k_here; refine stop_here ?_))

local macro_rules | `(tactic| walk_at "unpackItems ref") => `(tactic| (k_here; (with_unfolding_all refine unpackItemsN_ (by k_asm) (by k_asm) (News.isTup (by k_asm) (by k_mem)) (Amb.hand (by assumption)) (by rfl) ?_); walk_at "3"))

local macro_rules | `(tactic| walk_at "assign Tuple") => `(tactic| (k_here; (with_unfolding_all refine unpackN_ (by k_asm) (by k_asm) (News.isTup (by k_asm) (by k_mem)) (Amb.hand (by assumption)) (by rfl) (by rfl) ?_); walk_at "3"))

section

section
open PySem PySem.W PySem.Calls PySem.Spec PyProof.Rows
local macro_rules | `(tactic| walk_at "call builtin:str.replace") => `(tactic| (k_here; refine SC.replaceW (by lia) (by lia) (by lia) (by decide +kernel) (by lia) (by decide +kernel) (fun _ _ => ?_); (try dsimp only)))
variable {w : World} {mean : ExcName → Option Value} {mg mb : Str → Option Value} {B : Heap} {A : Around} {l : List Env} {s : Shared}


section
/- entering a def that never raises, the first token told -/
theorem call_okT {name qual : Str} {params : Arguments} {body : List Stmt} {scope : Scope} {dV kV doc pm cdv ct oc : Value} {an od : Option Addr} {osl : Array (Option Value)} {f : Addr} {args : List Value} {binds : List (Str × Value)} {P : Value → Heap → Prop}
    (ho : (hd.heap_39 w.params).lookup f = some ⟨oc, od, .func (fnOf name qual params body scope dV kV doc pm an cdv ct), osl⟩) (hcd : codeIn (hd.heap_39 w.params) cdv qual = true)
    (m : Amb w mean mg mb B A l s.heap) (hroom : A.depth < recursionLimit)
    (hbind : BindsTo s (fnOf name qual params body scope dV kV doc pm an cdv ct) ⟨args, []⟩ binds) (hloc : ∀ y ∈ binds, scope.names.lookup y.1 = some .local)
    (news : List (Addr × Obj)) (hnews : ∀ p ∈ news, s.heap.get? p.1 = some p.2 ∧ B.get? p.1 = none)
    (h : ∀ L h₁ tk₁ (R : Value → Shared → Prop), L = s.heap.objs.size → binds.length ≤ tk₁ → Fr B L h₁ (fun y => binds.reverse.lookup y) → News B L h₁ news → Amb w mean mg mb B (A.deeper (envOf qual scope L f cdv)) (envOf qual scope L f cdv :: l) h₁ →
      (∀ a o, s.heap.get? a = some o → h₁.get? a = some o) → (∀ v h' tk', P v h' → R v { s with heap := h', toks := tk' }) →
      wpAny (model PySem.Challenge.rw_nu0084_01.row.prog w) (A.deeper (envOf qual scope L f cdv)) (execs body (envOf qual scope L f cdv))
        (retQ R) (fun _ _ => False) { s with heap := h₁, toks := tk₁ })
    (hco : scope.isCoroutine = false := by rfl) (hgen : scope.isGenerator = false := by rfl) (hk : scope.kind = .function := by rfl)
    (hcell : ∀ x ∈ scope.names, x.2 ≠ .cell := by decide) : Gives w A f args s P := fun R k =>
  call_raw ho hcd m hroom hbind hloc news hnews (fun L h₁ e F N am st => wpAny_mono (h L h₁ _ (fun v s' => R (.ok (.ret v)) s') e (Nat.le_add_left _ _) F N am st k) (fun fl _ q => by cases fl <;> exact q) fun _ _ q => q.elim) hco hgen hk hcell
end
inductive OwnEnd (B : Heap) (L : Addr) (wr : List Addr) (own : List (Addr × Obj)) (Jn : (Str → Option Value) → List (Addr × Obj) → Prop) (up : Heap → Nat → Shared) (s₃ : Shared) : Prop
  | mk : ∀ h' tk' m₂ news₂, s₃ = up h' tk' → Fr B L h' m₂ → News B L h' (own ++ news₂) → (∀ p ∈ news₂, p.1 ∉ wr) → Jn m₂ news₂ → OwnEnd B L wr own Jn up s₃
inductive PairEnd (B : Heap) (L : Addr) (I : Addr) (own : List (Addr × Obj)) (Jn : (Str → Option Value) → List (Addr × Obj) → Prop) (up : Heap → Nat → Shared) (s₃ : Shared) : Prop
  | mk : ∀ h' tk' m₂ news₂, s₃ = up h' tk' → Fr B L h' m₂ → News B L h' (own ++ news₂) → (∀ p ∈ news₂, p.1 ≠ I) → Jn m₂ news₂ → PairEnd B L I own Jn up s₃
inductive KeepEnd (B : Heap) (L : Addr) (news : List (Addr × Obj)) (Jn : (Str → Option Value) → Prop) (up : Heap → Nat → Shared) (s₃ : Shared) : Prop
  | mk : ∀ h' tk' m₂, s₃ = up h' tk' → Fr B L h' m₂ → News B L h' news → Jn m₂ → KeepEnd B L news Jn up s₃
noncomputable abbrev turnQ (T : Shared → Prop) (Q : Flow → Shared → Prop) : Flow → Shared → Prop := fun f s₂ => match f with
  | .next | .cont => Stop (T s₂)
  | .brk => Q .next s₂
  | .ret v => Q (.ret v) s₂
section
variable {prog : Program} {E : Value → Shared → Prop} {env : Env} {x : Str} {body : List Stmt} {Q : Flow → Shared → Prop}
/- a for's turns, over a ledger that the turns may turn -/
theorem for_own {I : Addr} {fp wr : List Addr} {n : Nat} {P : Nat → Value → Prop} {St : Nat → Heap → Prop} {m : Str → Option Value} {news : List (Addr × Obj)} (J : Nat → (Str → Option Value) → List (Addr × Obj) → Prop)
    (W : Walks prog w A I fp wr n P St) (hLf : env.locals ∉ fp) (hwr : ∀ b ∈ wr, B.get? b = none) (hnw : ∀ p ∈ news, p.1 ∉ wr) (hst : St 0 s.heap) (F : Fr B env.locals s.heap m) (N : News B env.locals s.heap news) (h0 : J 0 m news)
    (turn : ∀ i v m₁ news₁ own h tk, i < n → P i v → J i m₁ news₁ → (∀ p ∈ news₁, p.1 ∉ wr) → (∀ p ∈ own, p.1 ∈ fp) → (∀ b ∈ fp, B.get? b = none → ∀ o, h.get? b = some o → (b, o) ∈ own) → St (i + 1) h →
      Fr B env.locals h (fun y => if y = x then some v else m₁ y) → News B env.locals h (own ++ news₁) →
      wpAny (model prog w) A (execs body env) (turnQ (OwnEnd B env.locals wr own (J (i + 1)) (fun h t => { s with heap := h, toks := t })) Q) E { s with heap := h, toks := tk })
    (done : ∀ h' tk m' news', Fr B env.locals h' m' → News B env.locals h' news' → J n m' news' → Q .next { s with heap := h', toks := tk }) :
    LoopAtV prog w A B env x body Q E (.ref I) s := by
  refine ⟨I, fp, wr, n, P, St, m, news, J, rfl, W, hLf, hwr, hnw, hst, F, N, h0, ?_, fun h' tk m' news' F' N' _ hJ => done h' tk m' news' F' N' hJ⟩
  rintro i v m₁ news₁ s₁ own ⟨h, tk, rfl⟩ hi hP hJ hoff hown _ hall hst' F₁ N₁
  refine wpAny_mono (turn i v m₁ news₁ own h tk hi hP hJ hoff hown hall hst' F₁ N₁) (fun f s₂ q => ?_) fun _ _ e => e
  cases f with
  | ret v => exact .ret q
  | brk => exact .brk q
  | next =>
    obtain ⟨h', tk', m₂, news₂, rfl, F', N', hn, hj⟩ := q
    exact .next (LoopStepU.intro (s₁ := { s with heap := h, toks := tk }) F' N' hn hj)
  | cont =>
    obtain ⟨h', tk', m₂, news₂, rfl, F', N', hn, hj⟩ := q
    exact .cont (LoopStepU.intro (s₁ := { s with heap := h, toks := tk }) F' N' hn hj)

/- a for over a text's signs -/
theorem for_str {xt : Str} {tx : Tok} {m : Str → Option Value} {news : List (Addr × Obj)} (J : Nat → (Str → Option Value) → List (Addr × Obj) → Prop) (hh : A.handled = none)
    (F : Fr B env.locals s.heap m) (N : News B env.locals s.heap news) (h0 : J 0 m news)
    (turn : ∀ i c u m₁ news₁ I own h tk, xt.cps[i]? = some c → J i m₁ news₁ → (∀ p ∈ news₁, p.1 ≠ I) → (∀ p ∈ own, p.1 = I) →
      Fr B env.locals h (fun y => if y = x then some (.str ⟨#[c]⟩ u) else m₁ y) → News B env.locals h (own ++ news₁) →
      wpAny (model prog w) A (execs body env) (turnQ (PairEnd B env.locals I own (J (i + 1)) (fun h t => { s with heap := h, toks := t })) Q) E { s with heap := h, toks := tk })
    (done : ∀ h' tk m' news', Fr B env.locals h' m' → News B env.locals h' news' → J xt.length m' news' → Q .next { s with heap := h', toks := tk }) :
    wpAny (model prog w) A (pyIter (.str xt tx)) (fun it s₂ => LoopAtV prog w A B env x body Q E it s₂) E s := by
  refine wpAny_pyIter_str fun o St hW hst => ?_
  refine for_own (n := xt.cps.size) J (hW A hh) ?_ ?_ ?_ hst (F.push _) (fun p hp => ⟨Heap.get?_push_of_some _ (N p hp).1, (N p hp).2⟩) h0 ?_ done
  · intro hm
    exact absurd F.ns.lt ((List.mem_singleton.mp hm) ▸ Nat.lt_irrefl _)
  · intro b hb
    rw [List.mem_singleton.mp hb]
    exact next_is_new F
  · intro p hp hI
    exact absurd (Heap.lt_size (N p hp).1) ((List.mem_singleton.mp hI) ▸ Nat.lt_irrefl _)
  · rintro i v m₁ news₁ own h tk hi ⟨c, u, hc, rfl⟩ hJ hoff hown _ _ F₁ N₁
    refine wpAny_mono (turn i c u m₁ news₁ s.heap.objs.size own h tk hc hJ (fun p hp q => hoff p hp (List.mem_singleton.mpr q)) (fun p hp => List.mem_singleton.mp (hown p hp)) F₁ N₁) (fun f s₂ q => ?_) fun _ _ e => e
    cases f with
    | ret v => exact q
    | brk => exact q
    | next =>
      obtain ⟨h', tk', m₂, news₂, e, F', N', hn, hj⟩ := q
      exact ⟨h', tk', m₂, news₂, e, F', N', fun p hp q => hn p hp (List.mem_singleton.mp q), hj⟩
    | cont =>
      obtain ⟨h', tk', m₂, news₂, e, F', N', hn, hj⟩ := q
      exact ⟨h', tk', m₂, news₂, e, F', N', fun p hp q => hn p hp (List.mem_singleton.mp q), hj⟩
end

theorem nT {b : Bool} (h : (!b) = true) : b = false := by cases b <;> first | rfl | cases h
theorem nF {b : Bool} (h : (!b) = false) : b = true := by cases b <;> first | rfl | cases h
theorem all_lt : (Str.ofString " \t\x0d\n\x0b<|>&;()\x01").cps.toList = [32, 9, 13, 10, 11, 60, 124, 62, 38, 59, 40, 41, 1] := by decide +kernel
theorem in_all (c : Nat) : (Builtin.Str.occurrences (Str.ofString " \t\x0d\n\x0b<|>&;()\x01") ⟨#[c]⟩ 0 (Str.ofString " \t\x0d\n\x0b<|>&;()\x01").length 1).isEmpty = !decide (c = 1 ∨ isB c = true ∨ isS c = true) := by
  have := StrLaws.found_one (Str.ofString " \t\x0d\n\x0b<|>&;()\x01") c
  rw [all_lt] at this
  rw [← Bool.not_not (b := List.isEmpty _), this]
  congr 1
  rw [decide_eq_decide]
  have e : (isB c = true ∨ isS c = true) ↔ c ∈ [32, 9, 13, 10, 11] ++ [60, 124, 62, 38, 59, 40, 41] := by
    rw [List.mem_append, ← List.contains_iff_mem, ← List.contains_iff_mem]
    exact Iff.rfl
  rw [e, ← List.mem_cons]
  exact List.Perm.mem_iff (by decide +kernel)
theorem in_bl (c : Nat) : (Builtin.Str.occurrences (Str.ofString " \t\x0d\n\x0b") ⟨#[c]⟩ 0 (Str.ofString " \t\x0d\n\x0b").length 1).isEmpty = !isB c := by
  have := StrLaws.found_one (Str.ofString " \t\x0d\n\x0b") c
  rw [blanks_are] at this
  rw [← Bool.not_not (b := List.isEmpty _), this]
  congr 1
  rw [Bool.eq_iff_iff]
  unfold isB
  simp
theorem is_one (c : Nat) : ((⟨#[c]⟩ : Str) == Str.ofString "\x01") = decide (c = 1) := by
  have := S_beq [c] (Str.ofString "\x01") [1] one_S
  refine Eq.trans this ?_
  simp
theorem is_held (k : Tk) : (S k != Str.ofString "") = !decide (k = []) := by
  have := S_beq k (Str.ofString "") [] (by decide +kernel)
  show (!(S k == Str.ofString "")) = _
  rw [this]
theorem fresh0 {h : Heap} {a : Addr} (l1 : ∀ p ∈ others B h [], p.1 < a) (hB : B.get? a = none) : h.get? a = none := by
  cases q : h.get? a with
  | none => rfl
  | some o => exact absurd (l1 (a, o) (mem_others.mpr ⟨q, (fun hm => nomatch hm), hB⟩)) (Nat.lt_irrefl _)
noncomputable def marksMap (line held : Value) (fa : Addr) (lt : Option Value) : Str → Option Value := fun y => if y = Str.ofString "letter" then lt else if y = Str.ofString "held" then some held else if y = Str.ofString "found" then some (.ref fa) else if y = Str.ofString "line" then some line else none
theorem marksMap_letter {line : Value} {held : Value} {fa : Addr} {lt : Option Value} {z : Option Value} {y : Str} : (if y = Str.ofString "letter" then z else marksMap line held fa lt y) = marksMap line held fa z y := by
  by_cases q : y = Str.ofString "letter"
  · subst q; rfl
  · rw [if_neg q]; unfold marksMap; simp only [if_neg q]
theorem marksMap_held {line : Value} {held : Value} {fa : Addr} {lt : Option Value} {z : Value} {y : Str} : (if y = Str.ofString "held" then some z else marksMap line held fa lt y) = marksMap line z fa lt y := by
  by_cases q : y = Str.ofString "held"
  · subst q; rfl
  · rw [if_neg q]; unfold marksMap; simp only [if_neg q]

inductive MarksOut (s : Shared) (B : Heap) (l : List Env) (x : Str) (v : Value) (h' : Heap) : Prop
  | mk : ∀ al vs c, (v = .ref al) → (Step [] s.heap h') → (h'.get? al = some (listOf vs c)) → (Free B l al) → (StrsI vs.toList (lm [] (rp x.cps.toList ++ [32]))) → MarksOut s B l x v h'
inductive MarksLoop (x : Str) (tx : Tok) (fa : Addr) (B : Heap) (s : Shared) (i : Nat) (m₁ : Str → Option Value) (news₁ : List (Addr × Obj)) : Prop
  | mk : ∀ held th vs c lt Fs, (m₁ = marksMap (.str x tx) (.str (S held) th) fa lt) → (news₁ = (fa, listOf vs c) :: others B s.heap []) → (StrsI vs.toList Fs) → (Fs ++ lm held ((rp x.cps.toList ++ [32]).drop i) = lm [] (rp x.cps.toList ++ [32])) → (held.length ≤ i) → (vs.size ≤ 2 * i) → MarksLoop x tx fa B s i m₁ news₁
theorem marks_spec (am : Amb w mean mg mb B A l s.heap) {x : Str} {tx : Tok} (hx : x.length ≤ 1000) (rm : Room A 10 100) :
    Gives w A 304 [.str x tx] s (MarksOut s B l x) := by
  have T := am.top
  have X := am.inK
  refine call_okT (by k_is) (by k_is) am rm.ok (binds := [("line", .str x tx)]) (BindsTo.of_eq rfl) (locs rfl) (others B s.heap []) ?_ ?_
  · intro p hp
    · exact others_here p hp
  intro L h₁ tk₁ R _ htk F N am' _ hR
  have hsub : ∀ p ∈ others B s.heap [], p ∈ others B s.heap [] := fun _ h => h

  replace htk : 1 ≤ tk₁ := htk
  w_strict (k_steps)
  rename_i fa h4 l1 D9 h3 l2 h2 h1 h0 F N0
  have hlr : (Txt.replace x (Str.ofString ">>") (Str.ofString "")).length ≤ 1000 := by
    rw [replace_gg, S_len]
    have := rp_len x.cps.toList
    rw [Array.length_toList] at this
    exact Nat.le_trans this hx
  show wpAny _ _ _ _ _ _
  refine For_invV B rfl rfl ?_ (hE := .never)
  w_strict (k_steps)
  show wpAny _ _ _ _ _ _
  rw [replace_gg, sp_S, S_append] at *
  have N := news_tail N0
  clear N0
  have F' : Fr B L _ (marksMap (.str x tx) (.str (S []) tk₁) fa none) := fr_congr F fun y => by
    unfold marksMap
    by_cases q0 : y = Str.ofString "letter"
    · subst q0; rfl
    by_cases q1 : y = Str.ofString "held"
    · subst q1; rfl
    by_cases q2 : y = Str.ofString "found"
    · subst q2; rfl
    by_cases q3 : y = Str.ofString "line"
    · subst q3; rfl
    rw [if_neg q0, if_neg q1, if_neg q2, if_neg q3, if_neg q1, if_neg q2, lk1, if_neg q3]
  have hrl : (rp x.cps.toList ++ [32]).length ≤ 1001 := by
    have h1 := rp_len x.cps.toList
    rw [Array.length_toList] at h1
    have h2 : x.cps.size ≤ 1000 := hx
    rw [List.length_append, List.length_singleton]
    exact Nat.succ_le_succ (Nat.le_trans h1 h2)
  have hfo : ∀ p ∈ others B s.heap [], p.1 ≠ fa := fun p hp => Nat.ne_of_lt (l1 p hp)
  refine for_str (m := marksMap (.str x tx) (.str (S []) tk₁) fa none) (MarksLoop x tx fa B s) am'.hand F' N ⟨[], tk₁, #[], 0, none, [], rfl, rfl, .nil, rfl, Nat.le_refl _, Nat.le_refl _⟩ ?_ ?_
  · rintro i c u m₁ news₁ I own hB tkB hc ⟨held, th, vs, cc, lt, Fs, rfl, rfl, hvs, hlm, hlen, hsz⟩ hoff hown F1 N1
    have hi : i < (rp x.cps.toList ++ [32]).length := by
      have := (Array.getElem?_eq_some_iff.mp hc).1
      simpa [S] using this
    have hfI : fa ≠ I := hoff _ (.head _)
    have hX : ∀ p ∈ own ++ others B s.heap [], p.1 ≠ fa := fun p hp => by
      rcases List.mem_append.mp hp with hp | hp
      · rw [hown p hp]; exact Ne.symm hfI
      · exact hfo p hp
    have N2 : News B L hB ((fa, listOf vs cc) :: (own ++ others B s.heap [])) := fun p hp => by
      rcases List.mem_cons.mp hp with rfl | hp
      · exact N1 _ (List.mem_append_right _ (.head _))
      rcases List.mem_append.mp hp with hp | hp
      · exact N1 _ (List.mem_append_left _ hp)
      · exact N1 _ (List.mem_append_right _ (.tail _ hp))
    clear N1
    have hdr : (rp x.cps.toList ++ [32]).drop i = c :: (rp x.cps.toList ++ [32]).drop (i + 1) := by
      rw [List.drop_eq_getElem_cons hi]
      congr 1
      obtain ⟨q1, q2⟩ := Array.getElem?_eq_some_iff.mp hc
      rw [← q2]
      rfl
    rw [hdr] at hlm
    have hl1 : (S held).length ≤ 1100 := by rw [S_len]; (first | lia | omega)
    have hl2 : (⟨#[c]⟩ : Str).length = 1 := rfl
    have fin : ∀ (held' : List Nat) (th' : Tok) (vs' : Array Value) (c' : Nat) (Fs' : List Tk) (hh : Heap) (tkk : Nat), Fr B L hh (marksMap (.str x tx) (.str (S held') th') fa (some (.str ⟨#[c]⟩ u))) → News B L hh ((fa, listOf vs' c') :: (own ++ others B s.heap [])) →
        StrsI vs'.toList Fs' → Fs' ++ lm held' ((rp x.cps.toList ++ [32]).drop (i + 1)) = Fs ++ lm held (c :: (rp x.cps.toList ++ [32]).drop (i + 1)) → held'.length ≤ i + 1 → vs'.size ≤ 2 * (i + 1) →
        Stop (PairEnd B L I own (MarksLoop x tx fa B s (i + 1)) (fun h t => { s with heap := h, toks := t }) { s with heap := hh, toks := tkk }) := by
      intro held' th' vs' c' Fs' hh tkk F5 N5 z1 z2 z3 z4
      refine ⟨hh, tkk, _, (fa, listOf vs' c') :: others B s.heap [], rfl, F5, fun p hp => ?_, fun p hp => ?_, held', th', vs', c', _, Fs', rfl, rfl, z1, z2.trans hlm, z3, z4⟩
      · rcases List.mem_append.mp hp with hp | hp
        · exact N5 _ (.tail _ (List.mem_append_left _ hp))
        rcases List.mem_cons.mp hp with rfl | hp
        · exact N5 _ (.head _)
        · exact N5 _ (.tail _ (List.mem_append_right _ hp))
      · rcases List.mem_cons.mp hp with rfl | hp
        · exact hfI
        · exact hoff _ (.tail _ hp)
    have hvz : vs.size + 2 ≤ 2 * (i + 1) := by (first | lia | omega)
    w_strict (k_steps)
    · have z : ¬ (c = 1 ∨ isB c = true ∨ isS c = true) := of_decide_eq_false (nT ((in_all c).symm.trans (by assumption)))
      rw [show S held ++ (⟨#[c]⟩ : Str) = S (held ++ [c]) from S_append held [c]] at *
      exact fin (held ++ [c]) _ vs cc Fs _ _ (fr_congr (by assumption) fun y => by
        ((simp only [marksMap_letter, marksMap_held]); try rfl)) (by assumption) hvs (by rw [lm_word _ _ z]) (by simp; (first | lia | omega)) (by first | (simp +arith only; done) | lia | omega)
    · have z : c = 1 ∨ isB c = true ∨ isS c = true := of_decide_eq_true (nF ((in_all c).symm.trans (by assumption)))
      have z1 : isB c = false := by have := (in_bl c).symm.trans (by assumption); simpa using this
      have z2 : c = 1 := of_decide_eq_true ((is_one c).symm.trans (by assumption))
      have z3 : ¬ held = [] := of_decide_eq_false (nT ((is_held held).symm.trans (by assumption)))
      rw [ggS] at *
      refine fin [] _ _ _ ((Fs ++ [held]) ++ [[62, 62]]) _ _ (fr_congr (by assumption) fun y => by
        ((simp only [marksMap_letter, marksMap_held]); try rfl)) (by assumption) (by rw [Array.toList_push, Array.toList_push]; exact (hvs.snoc _ _).snoc _ _) (by rw [lm_sign _ _ z, if_neg z3, if_neg (by rw [z1]; exact Bool.false_ne_true), if_pos z2]; simp) (Nat.zero_le _) (by rw [Array.size_push, Array.size_push]; (first | lia | omega))
    · have z : c = 1 ∨ isB c = true ∨ isS c = true := of_decide_eq_true (nF ((in_all c).symm.trans (by assumption)))
      have z1 : isB c = false := by have := (in_bl c).symm.trans (by assumption); simpa using this
      have z2 : ¬ c = 1 := of_decide_eq_false ((is_one c).symm.trans (by assumption))
      have z3 : ¬ held = [] := of_decide_eq_false (nT ((is_held held).symm.trans (by assumption)))
      refine fin [] _ _ _ ((Fs ++ [held]) ++ [[c]]) _ _ (fr_congr (by assumption) fun y => by
        ((simp only [marksMap_letter, marksMap_held]); try rfl)) (by assumption) (by rw [Array.toList_push, Array.toList_push]; exact (hvs.snoc _ _).snoc _ _) (by rw [lm_sign _ _ z, if_neg z3, if_neg (by rw [z1]; exact Bool.false_ne_true), if_neg z2]; simp) (Nat.zero_le _) (by rw [Array.size_push, Array.size_push]; (first | lia | omega))
    · have z : c = 1 ∨ isB c = true ∨ isS c = true := of_decide_eq_true (nF ((in_all c).symm.trans (by assumption)))
      have z1 : isB c = true := by have := (in_bl c).symm.trans (by assumption); simpa using this
      have z3 : ¬ held = [] := of_decide_eq_false (nT ((is_held held).symm.trans (by assumption)))
      refine fin [] _ _ _ (Fs ++ [held]) _ _ (fr_congr (by assumption) fun y => by
        ((simp only [marksMap_letter, marksMap_held]); try rfl)) (by assumption) (by rw [Array.toList_push]; exact hvs.snoc _ _) (by rw [lm_sign _ _ z, if_neg z3, if_pos z1]; simp) (Nat.zero_le _) (by rw [Array.size_push]; (first | lia | omega))
    · have z : c = 1 ∨ isB c = true ∨ isS c = true := of_decide_eq_true (nF ((in_all c).symm.trans (by assumption)))
      have z1 : isB c = false := by have := (in_bl c).symm.trans (by assumption); simpa using this
      have z2 : c = 1 := of_decide_eq_true ((is_one c).symm.trans (by assumption))
      have z3 : held = [] := of_decide_eq_true (nF ((is_held held).symm.trans (by assumption)))
      rw [ggS] at *
      refine fin [] _ _ _ (Fs ++ [[62, 62]]) _ _ (fr_congr (by assumption) fun y => by
        ((simp only [marksMap_letter, marksMap_held]); try rfl)) (by assumption) (by rw [Array.toList_push]; exact hvs.snoc _ _) (by rw [lm_sign _ _ z, if_pos z3, if_neg (by rw [z1]; exact Bool.false_ne_true), if_pos z2]; simp) (Nat.zero_le _) (by rw [Array.size_push]; (first | lia | omega))
    · have z : c = 1 ∨ isB c = true ∨ isS c = true := of_decide_eq_true (nF ((in_all c).symm.trans (by assumption)))
      have z1 : isB c = false := by have := (in_bl c).symm.trans (by assumption); simpa using this
      have z2 : ¬ c = 1 := of_decide_eq_false ((is_one c).symm.trans (by assumption))
      have z3 : held = [] := of_decide_eq_true (nF ((is_held held).symm.trans (by assumption)))
      refine fin [] _ _ _ (Fs ++ [[c]]) _ _ (fr_congr (by assumption) fun y => by
        ((simp only [marksMap_letter, marksMap_held]); try rfl)) (by assumption) (by rw [Array.toList_push]; exact hvs.snoc _ _) (by rw [lm_sign _ _ z, if_pos z3, if_neg (by rw [z1]; exact Bool.false_ne_true), if_neg z2]; simp) (Nat.zero_le _) (by rw [Array.size_push]; (first | lia | omega))
    · have z : c = 1 ∨ isB c = true ∨ isS c = true := of_decide_eq_true (nF ((in_all c).symm.trans (by assumption)))
      have z1 : isB c = true := by have := (in_bl c).symm.trans (by assumption); simpa using this
      have z3 : held = [] := of_decide_eq_true (nF ((is_held held).symm.trans (by assumption)))
      refine fin [] _ _ _ Fs _ _ (fr_congr (by assumption) fun y => by
        ((simp only [marksMap_letter, marksMap_held]); try rfl)) (by assumption) hvs (by rw [lm_sign _ _ z, if_pos z3, if_pos z1]; simp) (Nat.zero_le _) (by first | (simp +arith only; done) | lia | omega)
  · rintro h' tk' m' news' F9 N9 ⟨held, th, vs, cc, lt, Fs, rfl, rfl, hvs, hlm, hlen, hsz⟩
    have hz : (rp x.cps.toList ++ [32]).drop (S (rp x.cps.toList ++ [32])).length = [] := by rw [S_len]; exact List.drop_length
    rw [hz] at hlm
    simp only [lm, List.append_nil] at hlm
    w_strict (k_steps)
    rename News _ _ _ _ => N9
    rename Fr _ _ _ _ => F9
    have hB := (N9 _ (.head _)).2.2
    refine hR _ _ _ ⟨fa, vs, cc, rfl, step_of F9 N9 am.stays (fun p hp => .tail _ hp), (N9 _ (.head _)).1, am.free (fresh0 l1 hB), ?_⟩
    rw [← hlm]
    exact hvs
end

local macro_rules | `(tactic| walk_at "call type:enumerate") => `(tactic| (k_here; refine stop_here ?_))

section
open PySem PySem.W PySem.Calls PySem.Spec PyProof.Rows
variable {w : World} {mean : ExcName → Option Value} {mg mb : Str → Option Value} {B : Heap} {A : Around} {l : List Env} {s : Shared}


theorem StrsI.get {vs : List Value} {r : List Tk} (h : StrsI vs r) : ∀ {i : Nat} {v : Value}, vs[i]? = some v → ∃ k t, r[i]? = some k ∧ v = .str (S k) t := by
  induction h with
  | nil => intro i v e; cases i <;> cases e
  | @cons a t vs r _ ih =>
    intro i v e
    cases i with
    | zero => cases e; exact ⟨a, t, rfl, rfl⟩
    | succ i => exact ih (i := i) (by simpa using e)

section
variable {prog : Program} {E : Value → Shared → Prop} {env : Env} {xi xc : Str} {body : List Stmt} {Q : Flow → Shared → Prop}
/- a for over enumerate of a list, whose turns turn names alone -/
theorem for_enum {l : Addr} {items : Array Value} {m : Str → Option Value} {news : List (Addr × Obj)} (J : Nat → (Str → Option Value) → Prop) (hh : A.handled = none)
    (F : Fr B env.locals s.heap m) (N : News B env.locals s.heap news) (hl : s.heap.IsList l items) (hlL : l ≠ env.locals) (h0 : J 0 m)
    (turn : ∀ (i : Nat) v t m₁ own h tk, items[i]? = some v → J i m₁ →
      Fr B env.locals h (fun y => if y = xc then some v else if y = xi then some (.int (i : Int) t) else m₁ y) → News B env.locals h (own ++ news) →
      wpAny (model prog w) A (execs body env) (turnQ (KeepEnd B env.locals (own ++ news) (J (i + 1)) (fun h t => { s with heap := h, toks := t })) Q) E { s with heap := h, toks := tk })
    (done : ∀ h' tk m', Fr B env.locals h' m' → News B env.locals h' news → J items.size m' → Q .next { s with heap := h', toks := tk }) :
    wpAny (model prog w) A (call (.type "enumerate") [.ref l]) (fun xv s₁ => wpAny (model prog w) A (pyIter xv) (fun it s₂ => PairAt3 prog w A B env xi xc body Q E it s₂) E s₁) E s := by
  obtain ⟨ol, hol, hcl⟩ := id hl
  have hlt := Heap.lt_size hol
  refine call_enumerate_list hl fun h' he hit hz hk => ?_
  refine wpAny_pyIter_enum he ?_
  have F' : Fr B env.locals h' m := ⟨F.ns.at' fun o e => hk _ o e, fun b o e => hk b o (F.keep b o e), F.above⟩
  have N' : News B env.locals h' news := fun p hp => ⟨hk _ _ (N p hp).1, (N p hp).2⟩
  have hL := F.ns.lt
  have hlh : h'.IsList l items := hl.at fun o e => hk _ o e
  refine ⟨_, _, _, _, _, _, _, (fun i v0 v1 => ∃ t, items[i]? = some v1 ∧ v0 = .int i t), m, news, fun i m₁ news₁ => news₁ = news ∧ J i m₁, rfl,
    WalksT.enumerate hh (s.heap.objs.size + 1) s.heap.objs.size l (Nat.succ_ne_self _) (Nat.ne_of_lt (Nat.lt_succ_of_lt hlt)) (Nat.ne_of_lt hlt) items, ?_, ?_, ?_, ?_, ⟨⟨_, he⟩, hit, hlh⟩, F', N', ⟨rfl, h0⟩, ?_, ?_⟩
  · rintro i vals ⟨t, x, hx, rfl⟩
    exact ⟨_, _, rfl, t, hx, rfl⟩
  · intro hm
    rcases List.mem_cons.mp hm with e | hm
    · exact absurd hL (by rw [e]; exact Nat.not_lt.mpr (Nat.le_succ _))
    rcases List.mem_cons.mp hm with e | hm
    · exact absurd hL (by rw [e]; exact Nat.lt_irrefl _)
    · exact hlL (List.mem_singleton.mp hm).symm
  · have nb : ∀ b, s.heap.objs.size ≤ b → B.get? b = none := fun b hb => by
      cases q : B.get? b with
      | none => rfl
      | some o => exact absurd (Heap.lt_size (F.keep b o q)) (Nat.not_lt.mpr hb)
    intro b hb
    rcases List.mem_cons.mp hb with rfl | hb
    · exact nb _ (Nat.le_succ _)
    · rw [List.mem_singleton.mp hb]; exact nb _ (Nat.le_refl _)
  · intro p hp hm
    have := Heap.lt_size (N p hp).1
    rcases List.mem_cons.mp hm with e | hm
    · rw [e] at this; exact absurd this (Nat.not_lt.mpr (Nat.le_succ _))
    · rw [List.mem_singleton.mp hm] at this; exact absurd this (Nat.lt_irrefl _)
  · rintro i v0 v1 m₁ news₁ s₁ own ⟨h, tk, rfl⟩ hi ⟨t, hx, rfl⟩ ⟨rfl, hJ⟩ _ _ F₁ N₁
    refine wpAny_mono (turn i v1 t m₁ own h tk hx hJ F₁ N₁) (fun f s₂ q => ?_) fun _ _ e => e
    cases f with
    | ret v => exact q
    | brk => exact q
    | next =>
      obtain ⟨h', tk', m₂, rfl, F₂, N₂, j⟩ := q
      exact ⟨rfl, h', tk', m₂, news₁, rfl, F₂, N₂, rfl, rfl, j⟩
    | cont =>
      obtain ⟨h', tk', m₂, rfl, F₂, N₂, j⟩ := q
      exact ⟨rfl, h', tk', m₂, news₁, rfl, F₂, N₂, rfl, rfl, j⟩
  · rintro h' tk m' news' F₁ N₁ _ ⟨rfl, hJ⟩
    exact done h' tk m' F₁ N₁ hJ
end

theorem open_S : Str.ofString "(" = S [40] := by decide +kernel
theorem close_S : Str.ofString ")" = S [41] := by decide +kernel
noncomputable def CutV (v : Value) : CutR → Prop
  | .bad => ∃ t, v = .str (S [98, 97, 100]) t
  | .no => v = .none
  | .at i => ∃ t, v = .int (i : Int) t
noncomputable def cutMap (marks sign deep : Value) (a m : Option Value) : Str → Option Value := fun y => if y = Str.ofString "mark" then m else if y = Str.ofString "at" then a else if y = Str.ofString "deep" then some deep else if y = Str.ofString "sign" then some sign else if y = Str.ofString "marks" then some marks else none
theorem cutMap_mark {marks : Value} {sign : Value} {deep : Value} {a : Option Value} {m : Option Value} {z : Option Value} {y : Str} : (if y = Str.ofString "mark" then z else cutMap marks sign deep a m y) = cutMap marks sign deep a z y := by
  by_cases q : y = Str.ofString "mark"
  · subst q; rfl
  · rw [if_neg q]; unfold cutMap; simp only [if_neg q]
theorem cutMap_at {marks : Value} {sign : Value} {deep : Value} {a : Option Value} {m : Option Value} {z : Option Value} {y : Str} : (if y = Str.ofString "at" then z else cutMap marks sign deep a m y) = cutMap marks sign deep z m y := by
  by_cases q : y = Str.ofString "at"
  · subst q; rfl
  · rw [if_neg q]; unfold cutMap; simp only [if_neg q]
theorem cutMap_deep {marks : Value} {sign : Value} {deep : Value} {a : Option Value} {m : Option Value} {z : Value} {y : Str} : (if y = Str.ofString "deep" then some z else cutMap marks sign deep a m y) = cutMap marks sign z a m y := by
  by_cases q : y = Str.ofString "deep"
  · subst q; rfl
  · rw [if_neg q]; unfold cutMap; simp only [if_neg q]

inductive CutLoop (al : Addr) (sg : Tk) (tg : Tok) (ts : List Tk) (i : Nat) (m : Str → Option Value) : Prop
  | mk : ∀ deep td a mk, (m = cutMap (.ref al) (.str (S sg) tg) (.int (deep : Nat) td) a mk) → (lCut sg deep i (ts.drop i) = lCut sg 0 0 ts) → (deep ≤ i) → CutLoop al sg tg ts i m
theorem cut_spec (am : Amb w mean mg mb B A l s.heap) (rm : Room A 10 100) {al : Addr} {c : Nat} {vs : Array Value} {ts : List Tk} {sg : Tk} {tg : Tok} (ha : Ow B l s.heap al (listOf vs c)) (hvs : StrsI vs.toList ts) (hn : vs.size ≤ 10000) :
    Gives w A 311 [.ref al, .str (S sg) tg] s (fun v h' => CutV v (lCut sg 0 0 ts) ∧ Step [] s.heap h') := by
  have T := am.top
  have X := am.inK
  refine call_ok (by k_is) (by k_is) am rm.ok (binds := [("marks", .ref al), ("sign", .str (S sg) tg)]) (BindsTo.of_eq rfl) (locs rfl) ((al, listOf vs c) :: others B s.heap []) ?_ ?_
  · refine all_cons ?_ ?_
    · exact ⟨ha.1, ha.2.base⟩
    · exact fun p hp => others_here p hp
  intro L h₁ tk₁ R _ F N am' _ hR
  have hsub : ∀ p ∈ others B s.heap [], p ∈ others B s.heap [] := fun _ h => h

  w_strict (k_steps)
  refine For_pair3 B am'.hand rfl rfl rfl ?_ (by intro _; rfl) (hE := .never)
  w_strict (k_steps)
  rename Fr _ _ _ _ => F
  rename News _ _ _ _ => N
  show wpAny _ _ _ _ _ _
  have F' : ∃ td, Fr B L _ (cutMap (.ref al) (.str (S sg) tg) (.int 0 td) none none) := ⟨_, fr_congr F fun y => by
    unfold cutMap
    by_cases q0 : y = Str.ofString "mark"
    · subst q0; rfl
    by_cases q1 : y = Str.ofString "at"
    · subst q1; rfl
    by_cases q2 : y = Str.ofString "deep"
    · subst q2; rfl
    by_cases q3 : y = Str.ofString "sign"
    · subst q3; rfl
    by_cases q4 : y = Str.ofString "marks"
    · subst q4; rfl
    rw [if_neg q0, if_neg q1, if_neg q2, if_neg q3, if_neg q4, if_neg q2, lk2, if_neg q3, if_neg q4]⟩
  obtain ⟨td, F'⟩ := F'
  clear F
  have hlL : al ≠ L := (N _ (.head _)).2.1
  refine for_enum (CutLoop al sg tg ts) am'.hand F' N (News.isList N (.head _)) hlL ⟨0, td, none, none, rfl, rfl, Nat.le_refl _⟩ ?_ ?_
  · clear F' N
    rintro i v t m₁ own hB tkB hv ⟨deep, td, a, mk, rfl, hc, hd'⟩ F N
    obtain ⟨k, tv, hk, rfl⟩ := hvs.get (i := i) (v := v) (by simpa using hv)
    have hi : i < vs.size := (Array.getElem?_eq_some_iff.mp hv).1
    have hdr : ts.drop i = k :: ts.drop (i + 1) := by
      obtain ⟨q1, q2⟩ := List.getElem?_eq_some_iff.mp hk
      rw [List.drop_eq_getElem_cons q1, q2]
    rw [hdr] at hc
    have fin : ∀ (deep' : Nat) (td' : Tok) (hh : Heap) (tkk : Nat), Fr B L hh (cutMap (.ref al) (.str (S sg) tg) (.int (deep' : Nat) td') (some (.int (i : Nat) t)) (some (.str (S k) tv))) → News B L hh (own ++ (al, listOf vs c) :: others B s.heap []) →
        lCut sg deep' (i + 1) (ts.drop (i + 1)) = lCut sg 0 0 ts → deep' ≤ i + 1 →
        Stop (KeepEnd B L (own ++ (al, listOf vs c) :: others B s.heap []) (CutLoop al sg tg ts (i + 1)) (fun h t => { s with heap := h, toks := t }) { s with heap := hh, toks := tkk }) := fun deep' td' hh tkk F5 N5 z1 z2 =>
      ⟨hh, tkk, _, rfl, F5, N5, deep', td', _, _, rfl, z1, z2⟩
    w_strict (k_steps)
    · have z : k = [40] := of_decide_eq_true ((S_beq k _ _ open_S).symm.trans (by assumption))
      refine fin (deep + 1) _ _ _ (fr_congr (by assumption) fun y => by
        ((simp only [cutMap_mark, cutMap_at, cutMap_deep]); try rfl)) (by assumption) ?_ (by first | (simp +arith only; done) | lia | omega)
      rw [← hc, lCut, if_pos z]
    · have z : ¬ k = [40] := of_decide_eq_false ((S_beq k _ _ open_S).symm.trans (by assumption))
      have z2 : k = [41] := of_decide_eq_true ((S_beq k _ _ close_S).symm.trans (by assumption))
      have z3 : deep = 0 := by (first | lia | omega)
      refine hR _ _ _ ⟨?_, step_of (by assumption) (by assumption) am.stays fun p hp => List.mem_append_right _ (.tail _ hp)⟩
      rw [← hc, lCut, if_neg z, if_pos z2, if_pos z3]
      exact ⟨_, rfl⟩
    · have z : ¬ k = [40] := of_decide_eq_false ((S_beq k _ _ open_S).symm.trans (by assumption))
      have z2 : k = [41] := of_decide_eq_true ((S_beq k _ _ close_S).symm.trans (by assumption))
      obtain ⟨d, rfl⟩ : ∃ d, deep = d + 1 := ⟨deep - 1, by (first | lia | omega)⟩
      have z3 : ((d + 1 : Nat) : Int) - 1 = (d : Int) := by (first | lia | omega)
      rename Fr _ _ _ _ => F5
      rw [z3] at F5
      refine fin d _ _ _ (fr_congr F5 fun y => by
        ((simp only [cutMap_mark, cutMap_at, cutMap_deep]); try rfl)) (by assumption) ?_ (by first | (simp +arith only; done) | lia | omega)
      rw [← hc, lCut, if_neg z, if_pos z2, if_neg (by first | (simp +arith only; done) | lia | omega), Nat.add_sub_cancel]
    · have z : ¬ k = [40] := of_decide_eq_false ((S_beq k _ _ open_S).symm.trans (by assumption))
      have z2 : ¬ k = [41] := of_decide_eq_false ((S_beq k _ _ close_S).symm.trans (by assumption))
      have z3 : k = sg := of_decide_eq_true ((S_beq k _ sg rfl).symm.trans (by assumption))
      have z4 : deep = 0 := by (first | lia | omega)
      refine hR _ _ _ ⟨?_, step_of (by assumption) (by assumption) am.stays fun p hp => List.mem_append_right _ (.tail _ hp)⟩
      rw [← hc, lCut, if_neg z, if_neg z2, if_pos ⟨z3, z4⟩]
      exact ⟨_, rfl⟩
    · have z : ¬ k = [40] := of_decide_eq_false ((S_beq k _ _ open_S).symm.trans (by assumption))
      have z2 : ¬ k = [41] := of_decide_eq_false ((S_beq k _ _ close_S).symm.trans (by assumption))
      have z4 : ¬ deep = 0 := by (first | lia | omega)
      refine fin deep td _ _ (fr_congr (by assumption) fun y => by
        ((simp only [cutMap_mark, cutMap_at, cutMap_deep]); try rfl)) (by assumption) ?_ (by first | (simp +arith only; done) | lia | omega)
      rw [← hc, lCut, if_neg z, if_neg z2, if_neg (fun q => z4 q.2)]
    · have z : ¬ k = [40] := of_decide_eq_false ((S_beq k _ _ open_S).symm.trans (by assumption))
      have z2 : ¬ k = [41] := of_decide_eq_false ((S_beq k _ _ close_S).symm.trans (by assumption))
      have z3 : ¬ k = sg := of_decide_eq_false ((S_beq k _ sg rfl).symm.trans (by assumption))
      refine fin deep td _ _ (fr_congr (by assumption) fun y => by
        ((simp only [cutMap_mark, cutMap_at, cutMap_deep]); try rfl)) (by assumption) ?_ (by first | (simp +arith only; done) | lia | omega)
      rw [← hc, lCut, if_neg z, if_neg z2, if_neg (fun q => z3 q.1)]
  · clear F' N
    rintro h' tk' m' F N ⟨deep, td, a, mk, rfl, hc, hd'⟩
    have hz : ts.drop vs.size = [] := by
      have h1 := hvs.length
      rw [Array.length_toList] at h1
      rw [h1]
      exact List.drop_length
    rw [hz] at hc
    w_strict (k_steps)
    · refine hR _ _ _ ⟨?_, step_of (by assumption) (by assumption) am.stays fun p hp => .tail _ hp⟩
      rw [← hc, lCut, if_pos (by first | (simp +arith only; done) | lia | omega)]
      rfl
    · refine hR _ _ _ ⟨?_, step_of (by assumption) (by assumption) am.stays fun p hp => .tail _ hp⟩
      rw [← hc, lCut, if_neg (by first | (simp +arith only; done) | lia | omega)]
      exact ⟨_, rfl⟩
end

end

end

local macro_rules | `(tactic| walk_at "pyIter str") => `(tactic| (k_here; refine stop_here ?_))

local macro_rules | `(tactic| walk_at "pyIter ref") => `(tactic| (k_here; refine stop_here ?_))

local macro_rules | `(tactic| walk_at "exec For Name BinOp cons nil") => `(tactic| (k_here; refine stop_here ?_))

local macro_rules | `(tactic| walk_at "unpackItems ref") => `(tactic| (k_here; (with_unfolding_all refine unpackItemsN_ (by k_asm) (by k_asm) (News.isTup (by k_asm) (by k_mem)) (Amb.hand (by assumption)) (by rfl) ?_); walk_at "3"))

local macro_rules | `(tactic| walk_at "assign Tuple") => `(tactic| (k_here; (with_unfolding_all refine unpackN_ (by k_asm) (by k_asm) (News.isTup (by k_asm) (by k_mem)) (Amb.hand (by assumption)) (by rfl) (by rfl) ?_); walk_at "3"))

local macro_rules | `(tactic| walk_at "call type:enumerate") => `(tactic| (k_here; refine stop_here ?_))

section
open PySem PySem.W PySem.Calls PySem.Spec PyProof.Rows
variable {w : World} {mean : ExcName → Option Value} {mg mb : Str → Option Value} {B : Heap} {A : Around} {l : List Env} {s : Shared}

theorem StrsI.drop {vs : List Value} {r : List Tk} (h : StrsI vs r) : ∀ n, StrsI (vs.drop n) (r.drop n) := by
  induction h with
  | nil => intro n; rw [List.drop_nil, List.drop_nil]; exact .nil
  | cons h ih =>
    intro n
    cases n with
    | zero => exact .cons h
    | succ n => exact ih n
theorem StrsI.take {vs : List Value} {r : List Tk} (h : StrsI vs r) : ∀ n, StrsI (vs.take n) (r.take n) := by
  induction h with
  | nil => intro n; rw [List.take_nil, List.take_nil]; exact .nil
  | cons h ih =>
    intro n
    cases n with
    | zero => exact .nil
    | succ n => exact .cons (ih n)
theorem StrsI.at {vs : List Value} {r : List Tk} (h : StrsI vs r) : ∀ {i : Nat} {k : Tk}, r[i]? = some k → ∃ t, vs[i]? = some (.str (S k) t) := by
  induction h with
  | nil => intro i k e; cases i <;> cases e
  | @cons a t vs r _ ih =>
    intro i k e
    cases i with
    | zero => cases e; exact ⟨t, rfl⟩
    | succ i => exact ih (i := i) (by simpa using e)
theorem StrsI.size {its : Array Value} {r : List Tk} (h : StrsI its.toList r) : its.size = r.length := by
  have := h.length
  rwa [Array.length_toList] at this

section
variable {its : Array Value} {ts : List Tk} {x y : Int} {i j : Nat}
theorem sl_run (h : StrsI its.toList ts) (hx : x = (i : Int)) (hy : y = (j : Int)) : ∃ zs : List Value, slicePick its (some x) (some y) none = zs.toArray ∧ StrsI zs ((ts.drop i).take (j - i)) := by
  subst hx hy
  have e : sliceBounds (some (i : Int)) (some (j : Int)) none its.size = (((min i its.size : Nat) : Int), ((min j its.size : Nat) : Int), 1) := by
    simp only [sliceBounds, Option.getD_none, show (1 : Int) > 0 by decide, if_true, if_neg (show ¬ ((i : Int) < 0) by (first | lia | omega)), if_neg (show ¬ ((j : Int) < 0) by (first | lia | omega))]
    congr 1
    · (first | lia | omega)
    · congr 1
      (first | lia | omega)
  refine ⟨_, kmk_pick_nat _ e, ?_⟩
  have hsz := h.size
  have e2 : (ts.drop i).take (j - i) = (ts.drop (min i its.size)).take (min j its.size - min i its.size) := by
    rw [hsz]
    by_cases hi : i ≤ ts.length
    · rw [Nat.min_eq_left hi]
      by_cases hj : j ≤ ts.length
      · rw [Nat.min_eq_left hj]
      · rw [Nat.min_eq_right (by first | (simp +arith only; done) | lia | omega), List.take_of_length_le (by rw [List.length_drop]; (first | lia | omega)), List.take_of_length_le (by rw [List.length_drop]; (first | lia | omega))]
    · have m1 : min i ts.length = ts.length := by (first | lia | omega)
      rw [m1, List.drop_of_length_le (show ts.length ≤ i by (first | lia | omega)), List.drop_of_length_le (Nat.le_refl _)]
      simp
  rw [e2]
  exact (h.drop _).take _
theorem sl_upto (h : StrsI its.toList ts) (hy : y = (j : Int)) : ∃ zs : List Value, slicePick its none (some y) none = zs.toArray ∧ StrsI zs (ts.take j) := by
  subst hy
  have e : sliceBounds none (some (j : Int)) none its.size = (((0 : Nat) : Int), ((min j its.size : Nat) : Int), 1) := by
    simp only [sliceBounds, Option.getD_none, show (1 : Int) > 0 by decide, if_true, if_neg (show ¬ ((j : Int) < 0) by (first | lia | omega))]
    congr 1
    congr 1
    (first | lia | omega)
  refine ⟨_, kmk_pick_nat _ e, ?_⟩
  rw [List.drop_zero, Nat.sub_zero, ← Array.length_toList, kmk_take_min]
  exact h.take _
theorem sl_from (h : StrsI its.toList ts) (hx : x = (i : Int)) : ∃ zs : List Value, slicePick its (some x) none none = zs.toArray ∧ StrsI zs (ts.drop i) := by
  subst hx
  have e : sliceBounds (some (i : Int)) none none its.size = (((min i its.size : Nat) : Int), ((its.size : Nat) : Int), 1) := by
    simp only [sliceBounds, Option.getD_none, show (1 : Int) > 0 by decide, if_true, if_neg (show ¬ ((i : Int) < 0) by (first | lia | omega))]
    congr 1
    (first | lia | omega)
  refine ⟨_, kmk_pick_nat _ e, ?_⟩
  rw [List.take_of_length_le (by rw [List.length_drop, Array.length_toList]; (first | lia | omega)), ← Array.length_toList, kmk_drop_min]
  exact h.drop _
theorem last_cut (n : Nat) : max 0 (min (-1 + (n : Int)) (n : Int)) = ((n - 1 : Nat) : Int) := by
  cases n with
  | zero => rfl
  | succ n =>
    have e : (-1 : Int) + ((n + 1 : Nat) : Int) = (n : Int) := by rw [Int.natCast_succ, Int.add_comm]; exact Int.add_neg_cancel_right _ _
    rw [e, Int.min_eq_left (Int.ofNat_le.mpr (Nat.le_succ n)), Int.max_eq_right (Int.natCast_nonneg n)]
    rfl
theorem sl_last (h : StrsI its.toList ts) : ∃ zs : List Value, slicePick its none (some (-1)) none = zs.toArray ∧ StrsI zs ts.dropLast := by
  have e : sliceBounds none (some (-1)) none its.size = (((0 : Nat) : Int), ((its.size - 1 : Nat) : Int), 1) := by
    simp only [sliceBounds, Option.getD_none, show (1 : Int) > 0 by decide, if_true, if_pos (show (-1 : Int) < 0 by decide)]
    congr 1
    congr 1
    exact last_cut _
  refine ⟨_, kmk_pick_nat _ e, ?_⟩
  rw [List.drop_zero, Nat.sub_zero, List.dropLast_eq_take, ← h.size]
  exact h.take _
end

section
variable {prog : Program} {E : Value → Shared → Prop} {L lst : Addr} {m : Str → Option Value} {news : List (Addr × Obj)} {value slice : PySem.Expr} {its : Array Value} {c : Nat} {vl vu : Value} {lo hi : Option Int} {ts us : List Tk} {Q : Value → Shared → Prop}
theorem slice_S (F : Fr B L s.heap m) (N : News B L s.heap news) (hm : (lst, listOf its c) ∈ news) (hvs : StrsI its.toList ts) (pl : IsPart vl lo) (pu : IsPart vu hi) (e : ∃ zs : List Value, slicePick its lo hi none = zs.toArray ∧ StrsI zs us) (hz : its.size ≤ 10000)
    (h : ∀ D ws h', Fr B L h' m → News B L h' ((D, listOf ws 0) :: news) → (∀ p ∈ news, p.1 < D) → StrsI ws.toList us → ws.size ≤ its.size → Q (.ref D) { s with heap := h' })
    (hs : subscripted slice false (.ref lst) (.ref s.heap.objs.size) = operate [.ref s.heap.objs.size, .ref lst] (getItem (.ref lst) (.ref s.heap.objs.size))) (ht : ∀ r, letTemporaryGo value (.ref lst) r = pure ()) :
    wpAny (model prog w) A (subscriptTail value slice (.ref lst) (.ref s.heap.objs.size)) Q E { s with heap := s.heap.push { cls := .type "slice", data := .fields #[vl, vu, .none] } } := by
  obtain ⟨zs, e, hz2⟩ := e
  have hle := slicePick_size_le its lo hi none
  rw [e] at hle
  refine kmk_slice F N (News.isList N hm) pl pu (fun D h' F' N' l1 => h D zs.toArray h' F' (by rw [← e]; exact N') l1 hz2 hle) hs ht (by rw [sizeLine_eq]; (first | lia | omega))
theorem item_S {x : Int} {u : Tok} {i : Nat} {k : Tk} (N : News B L s.heap news) (hm : (lst, listOf its c) ∈ news) (hvs : StrsI its.toList ts) (hx : x = (i : Int)) (hk : ts[i]? = some k) (hz : its.size ≤ 10000) (h : ∀ t, Q (.str (S k) t) s)
    (hs : subscripted slice false (.ref lst) (.int x u) = operate [.ref lst, .int x u] (getItem (.ref lst) (.int x u))) (hg : ∀ r, letTemporaryGo value (.ref lst) r = pure ()) :
    wpAny (model prog w) A (subscriptTail value slice (.ref lst) (.int x u)) Q E s := by
  subst hx
  obtain ⟨t, ht⟩ := hvs.at hk
  have hi : i < its.size := by
    have := (List.getElem?_eq_some_iff.mp ht).1
    simpa using this
  exact item_list (News.isList N hm) (by first | (simp +arith only; done) | lia | omega) (by first | (simp +arith only; done) | lia | omega) (x := .str (S k) t) (by simpa using ht) (h t) hs hg
theorem last_at (n : Nat) : seqIndex? (-1) (n + 1) = some (n + 1 - 1) := by
  unfold seqIndex?
  simp
  (first | lia | omega)
theorem last_S {u : Tok} {k : Tk} (N : News B L s.heap news) (hm : (lst, listOf its c) ∈ news) (hvs : StrsI its.toList ts) (hk : ts.getLast? = some k) (hz : its.size ≤ 10000) (h : ∀ t, Q (.str (S k) t) s)
    (hs : subscripted slice false (.ref lst) (.int (-1) u) = operate [.ref lst, .int (-1) u] (getItem (.ref lst) (.int (-1) u))) :
    wpAny (model prog w) A (subscriptTail value slice (.ref lst) (.int (-1) u)) Q E s := by
  rw [List.getLast?_eq_getElem?] at hk
  obtain ⟨t, ht⟩ := hvs.at hk
  have hsz := hvs.size
  have hl := hvs.length
  have hpos : 0 < ts.length := by
    rcases Nat.eq_zero_or_pos ts.length with q | q
    · rw [q] at hk
      have := (List.getElem?_eq_some_iff.mp hk).1
      (first | lia | omega)
    · exact q
  have hL : s.heap.IsList lst its.toList.toArray := by rw [Array.toArray_toList]; exact News.isList N hm
  refine kde_neg (vs := its.toList) (j := ts.length - 1) hL (by decide) (by decide) ?_ ht (h t) hs
  unfold seqIndex?
  rw [hl]
  clear hk ht h hL hs hsz hl hz hvs
  cases hn : ts.length with
  | zero => rw [hn] at hpos; exact absurd hpos (Nat.lt_irrefl _)
  | succ n => exact last_at n

theorem cmp_bad {av : Value} {r : CutR} {t : Tok} (h : CutV av r) (hq : Q (.bool (decide (r = .bad))) s) : wpAny (model prog w) A (compareOp .Eq av (.str (Str.ofString "bad") t)) Q E s := by
  cases r with
  | bad =>
    obtain ⟨t, rfl⟩ := h
    refine eq_str ?_
    rw [show (S [98, 97, 100] == Str.ofString "bad") = true from by decide +kernel]
    exact hq
  | no =>
    have e : av = .none := h
    subst e
    exact EqNone.eq_none_str hq
  | «at» i =>
    obtain ⟨t, rfl⟩ := h
    exact EqMixed.eq_int_str hq

noncomputable def okTs (ts : List Tk) : Prop := ∀ k ∈ ts, ∀ c ∈ k, c < 127
theorem strOk_S {k : Tk} (h : ∀ c ∈ k, c < 127) : PyData.strOk (S k) = true := by
  unfold PyData.strOk S
  rw [Array.all_eq_true']
  intro c hc
  have := h c (by simpa using hc)
  exact decide_eq_true (by first | (simp +arith only; done) | lia | omega)
theorem StrsI.reads {h : Heap} {vs : List Value} {ts : List Tk} (x : StrsI vs ts) : ReadsAll h vs (ts.map fun k => .str (S k)) [] := by
  induction x with
  | nil => exact .nil
  | cons _ ih => exact ReadsAll.cons (.str _ _) ih
theorem canLay_strs {ts : List Tk} (h : okTs ts) : PyData.canLayAll0 (ts.map fun k => .str (S k)) = true := by
  induction ts with
  | nil => rfl
  | cons k r ih =>
    simp only [List.map_cons, PyData.canLayAll0, PyData.canLay0, Bool.and_eq_true]
    exact ⟨strOk_S (h k (.head _)), ih fun z hz => h z (.tail _ hz)⟩
theorem Room.units64 {d u : Nat} (r : Room A d (u + 64)) : A.units + 64 < cLine := by
  have := r.units
  show A.units + 64 < 9900
  (first | lia | omega)
theorem ne_nil {b : Addr} {c2 : Nat} (N : News B L s.heap news) (hm : (lst, listOf its c) ∈ news) (hvs : StrsI its.toList ts) (ho : okTs ts) (hb : (b, listOf #[] c2) ∈ news) (hu : A.units + 64 < cLine) {q : Bool} (hq : decide (ts = []) = q) (h : Q (.bool (!q)) s) :
    wpAny (model prog w) A (compareOp .NotEq (.ref lst) (.ref b)) Q E s := by
  subst hq
  refine SeqAt.compareNe_reads (reads_list_at (N.get hm) rfl rfl hvs.reads) (reads_list_at (N.get hb) rfl rfl .nil) ?_ rfl ?_ ?_
  · exact canLay_strs ho
  · have : min (PyData.depth (.list (ts.map fun k => .str (S k)))) (PyData.depth (.list [])) ≤ 64 := Nat.le_trans (Nat.min_le_right _ _) (by decide)
    (first | lia | omega)
  · have e : PyData.eqv (.list (ts.map fun k => .str (S k))) (.list []) = decide (ts = []) := by
      cases ts with
      | nil => rfl
      | cons k r => rfl
    rw [e]
    exact h
end


section
variable {prog : Program} {E : Value → Shared → Prop} {env : Env} {x : Str} {body : List Stmt} {Q : Flow → Shared → Prop}
/- a for over a range, whose turns make new objects -/
theorem for_range {r : Addr} {a₀ b₀ : Int} {t₀ u₀ v₀ : Tok} {n : Nat} {m : Str → Option Value} {news : List (Addr × Obj)} (J : Nat → (Str → Option Value) → List (Addr × Obj) → Prop) (hh : A.handled = none)
    (hr : IsRange s.heap r a₀ b₀ 1 t₀ u₀ v₀) (hsmall : Builtin.Range.small a₀ b₀ 1 = true) (hn : Builtin.Range.rangeSize a₀ b₀ 1 = (n : Int)) (F : Fr B env.locals s.heap m) (N : News B env.locals s.heap news) (h0 : J 0 m news)
    (turn : ∀ i t m₁ news₁ I own o h tk, i < n → J i m₁ news₁ → (∀ p ∈ news₁, p.1 ≠ I) → (∀ p ∈ own, p.1 = I) → (I, o) ∈ own →
      Fr B env.locals h (fun y => if y = x then some (.int (a₀ + (i : Nat) * 1) t) else m₁ y) → News B env.locals h (own ++ news₁) →
      wpAny (model prog w) A (execs body env) (turnQ (PairEnd B env.locals I own (J (i + 1)) (fun h t => { s with heap := h, toks := t })) Q) E { s with heap := h, toks := tk })
    (done : ∀ h' tk m' news', Fr B env.locals h' m' → News B env.locals h' news' → J n m' news' → Q .next { s with heap := h', toks := tk }) :
    wpAny (model prog w) A (pyIter (.ref r)) (fun it s₂ => LoopAtV prog w A B env x body Q E it s₂) E s := by
  refine wpAny_pyIter_range hr hsmall ?_
  have W : Walks prog w A s.heap.objs.size [s.heap.objs.size] [s.heap.objs.size] n (fun i v => i < n ∧ ∃ t, v = .int (a₀ + i * 1) t)
      (fun i h => IsRangeIter h s.heap.objs.size (a₀ + (i : Nat) * 1) ((n : Int) - (i : Nat)) 1) := (Walks.range hh _ a₀ 1 n).bound
  refine for_own J W ?_ ?_ ?_ (by show IsRangeIter _ _ _ _ _; rw [hn]; simpa using Heap.get?_push_size _ rfl) (F.push _) (fun p hp => ⟨Heap.get?_push_of_some _ (N p hp).1, (N p hp).2⟩) h0 ?_ done
  · intro hm
    exact absurd F.ns.lt ((List.mem_singleton.mp hm) ▸ Nat.lt_irrefl _)
  · intro b hb
    rw [List.mem_singleton.mp hb]
    exact next_is_new F
  · intro p hp hI
    exact absurd (Heap.lt_size (N p hp).1) ((List.mem_singleton.mp hI) ▸ Nat.lt_irrefl _)
  · rintro i v m₁ news₁ own h tk hi ⟨_, t, rfl⟩ hJ hoff hown hall hst F₁ N₁
    have ho : (s.heap.objs.size, _) ∈ own := hall _ (.head _) (next_is_new F) _ hst
    refine wpAny_mono (turn i t m₁ news₁ s.heap.objs.size own _ h tk hi hJ (fun p hp q => hoff p hp (List.mem_singleton.mpr q)) (fun p hp => List.mem_singleton.mp (hown p hp)) ho F₁ N₁) (fun f s₂ q => ?_) fun _ _ e => e
    cases f with
    | ret v => exact q
    | brk => exact q
    | next =>
      obtain ⟨h', tk', m₂, news₂, e, F', N', hn, hj⟩ := q
      exact ⟨h', tk', m₂, news₂, e, F', N', fun p hp q => hn p hp (List.mem_singleton.mp q), hj⟩
    | cont =>
      obtain ⟨h', tk', m₂, news₂, e, F', N', hn, hj⟩ := q
      exact ⟨h', tk', m₂, news₂, e, F', N', fun p hp q => hn p hp (List.mem_singleton.mp q), hj⟩
end

theorem units_of {h : Heap} {d u : Nat} (_ : Amb w mean mg mb B A l h) (r : Room A d (u + 64)) : A.units + 64 < cLine := r.units64
theorem news_sub {h : Heap} {L : Addr} {a b : List (Addr × Obj)} (N : News B L h a) (hs : ∀ p ∈ b, p ∈ a) : News B L h b := fun p hp => N p (hs p hp)
theorem sub1 {α : Type} {x : α} {a : List α} (hx : x ∈ a) : ∀ p ∈ x :: a, p ∈ a := fun p hp => by
  rcases List.mem_cons.mp hp with rfl | hp
  · exact hx
  · exact hp
theorem sub2 {α : Type} {x y : α} {a : List α} (hx : x ∈ a) (hy : y ∈ a) : ∀ p ∈ x :: y :: a, p ∈ a := fun p hp => by
  rcases List.mem_cons.mp hp with rfl | hp
  · exact hx
  · exact sub1 hy p hp
/- a new object is no frame's -/
theorem free_new {h : Heap} (am : Amb w mean mg mb B A l h) {led : List (Addr × Obj)} {D : Addr} (hs : ∀ p ∈ others B h [], p ∈ led) (l0 : ∀ p ∈ led, p.1 < D) (hB : B.get? D = none) : Free B l D :=
  am.free (fresh0 (fun p hp => l0 p (hs p hp)) hB)
/- out of a call that made new objects alone -/
theorem ow_out {h : Heap} {L : Addr} {rest : List (Addr × Obj)} {env : Env} (hall : ∀ a o, h.get? a = some o → a ≠ L → B.get? a = none → (a, o) ∈ rest) (he : env.frame = some L) : ∀ a o, Ow B (env :: l) h a o → InR B l rest a o :=
  fun a o q => ⟨hall a o q.1 (q.2.ne he) q.2.base, q.2.drop⟩
/- what stands at h, is no frame's, and is younger than h₀ -/
noncomputable def OwF (B : Heap) (l : List Env) (h₀ h : Heap) (a : Addr) (o : Obj) : Prop := Ow B l h a o ∧ h₀.get? a = none
noncomputable def InF (B : Heap) (l : List Env) (h₀ : Heap) (rest : List (Addr × Obj)) (a : Addr) (o : Obj) : Prop := InR B l rest a o ∧ h₀.get? a = none
theorem inF_sub {h₀ : Heap} {rest rest' : List (Addr × Obj)} (hs : ∀ p ∈ rest, p ∈ rest') : ∀ a o, InF B l h₀ rest a o → InF B l h₀ rest' a o := fun _ _ q => ⟨⟨hs _ q.1.1, q.1.2⟩, q.2⟩
theorem inF_ow {h₀ h : Heap} {L : Addr} {news rest : List (Addr × Obj)} (N : News B L h news) (hs : ∀ p ∈ rest, p ∈ news) : ∀ a o, InF B l h₀ rest a o → OwF B l h₀ h a o := fun _ _ q => ⟨⟨(N _ (hs _ q.1.1)).1, q.1.2⟩, q.2⟩
theorem none_up {h₀ h : Heap} (up : Step [] h₀ h) {a : Addr} (q : h.get? a = none) : h₀.get? a = none := by
  cases e : h₀.get? a with
  | none => rfl
  | some o => rw [up _ _ e (fun hm => nomatch hm)] at q; cases q
theorem owf_out {h₀ h h' : Heap} {L : Addr} {rest : List (Addr × Obj)} {env : Env} (up : Step [] h₀ h) (hall : ∀ a o, h'.get? a = some o → a ≠ L → B.get? a = none → (a, o) ∈ rest) (he : env.frame = some L) : ∀ a o, OwF B (env :: l) h h' a o → InF B l h₀ rest a o :=
  fun a o q => ⟨ow_out hall he a o q.1, none_up up q.2⟩
inductive AfterKeepX (B : Heap) (L : Addr) (h' : Heap) (m : Str → Option Value) (ex : List (Addr × Obj)) (rest : List (Addr × Obj)) (X : List Addr)  : Prop
  | mk : (Fr B L h' m) → ∀ rest', (News B L h' (ex ++ rest')) → ((∀ p ∈ rest, p ∈ rest')) → ((∀ p ∈ rest', p.1 ∉ X)) → ((∀ a o, h'.get? a = some o → a ≠ L → a ∉ X → B.get? a = none → (a, o) ∈ rest')) → AfterKeepX B L h' m ex rest X
/- out of a call, all but the addresses X -/
theorem after_keepX {h h' : Heap} {L : Addr} {m : Str → Option Value} (X : List Addr) (ex : List (Addr × Obj)) {rest : List (Addr × Obj)} (F : Fr B L h m) (N : News B L h (ex ++ rest)) (hX : ∀ p ∈ rest, p.1 ∉ X) (st : Step [] h h') :
    AfterKeepX B L h' m ex rest X := by
  obtain ⟨F', rest', N', a1, a2, a3⟩ := snap (X := X) (ex := ex) (rest := rest) F N st (fun hm => nomatch hm) (fun _ hm => nomatch hm) ex (fun p hp => by
    have q := N p (List.mem_append_left _ hp)
    exact ⟨st _ _ q.1 (fun hm => nomatch hm), q.2⟩)
  exact ⟨F', rest', N', fun p hp => a1 p hp (fun hm => nomatch hm) (hX p hp), fun p hp hm => a3 _ hm p hp rfl, a2⟩
/- out of such a call: what is younger than the call is none of X -/
theorem owf_outX {h₀ h h' : Heap} {L : Addr} {X : List Addr} {rest : List (Addr × Obj)} {env : Env} (up : Step [] h₀ h) (hX : ∀ a ∈ X, h.get? a ≠ none) (hall : ∀ a o, h'.get? a = some o → a ≠ L → a ∉ X → B.get? a = none → (a, o) ∈ rest) (he : env.frame = some L) :
    ∀ a o, OwF B (env :: l) h h' a o → InF B l h₀ rest a o :=
  fun a o q => ⟨⟨hall a o q.1.1 (q.1.2.ne he) (fun hm => hX a hm q.2) q.1.2.base, q.1.2.drop⟩, none_up up q.2⟩
theorem okTs.sub {a b : List Tk} (h : okTs b) (s : ∀ k ∈ a, k ∈ b) : okTs a := fun k hk => h k (s k hk)

/- the law's tuples -/
noncomputable abbrev tupO (its : Array Value) : Obj := { cls := .type "tuple", data := .seq its }
inductive ShIn (P : Addr → Obj → Prop) : Value → Tree → Prop
  | run {x al : Addr} {t : Tok} {n : Nat} {vs : Array Value} {a : List Tk} : P x (tupO #[.str (S [114, 117, 110]) t, .ref al]) → P al (listOf vs n) → StrsI vs.toList a → ShIn P (.ref x) (.run a)
  | redir {x : Addr} {v : Value} {k : Nat} {t : Tree} {p : Tk} {t1 t2 : Tok} : P x (tupO #[.str (S (sgn k)) t1, v, .str (S p) t2]) → ShIn P v t → ShIn P (.ref x) (.redir k t p)
  | pair {x : Addr} {v1 v2 : Value} {c : Nat} {t1 t2 : Tree} {u : Tok} : P x (tupO #[.str (S [c]) u, v1, v2]) → ShIn P v1 t1 → ShIn P v2 t2 → ShIn P (.ref x) (.pair c t1 t2)
  | back {x : Addr} {v : Value} {t : Tree} {u : Tok} : P x (tupO #[.str (S [98, 97, 99, 107]) u, v]) → ShIn P v t → ShIn P (.ref x) (.back t)
theorem ShIn.mono {P P' : Addr → Obj → Prop} (hp : ∀ a o, P a o → P' a o) {v : Value} {t : Tree} (h : ShIn P v t) : ShIn P' v t := by
  induction h with
  | run a b c => exact .run (hp _ _ a) (hp _ _ b) c
  | redir a _ ih => exact .redir (hp _ _ a) ih
  | pair a _ _ i1 i2 => exact .pair (hp _ _ a) i1 i2
  | back a _ ih => exact .back (hp _ _ a) ih
noncomputable def ShO (P : Addr → Obj → Prop) (v : Value) : Option Tree → Prop
  | none => v = .none
  | some t => ShIn P v t
theorem ShO.mono {P P' : Addr → Obj → Prop} (hp : ∀ a o, P a o → P' a o) {v : Value} {r : Option Tree} (h : ShO P v r) : ShO P' v r := by
  cases r with
  | none => exact h
  | some t => exact ShIn.mono hp h
inductive ShRef (v : Value) (P : Addr → Obj → Prop)  : Prop
  | mk : ∀ x its, (v = .ref x) → (P x (tupO its)) → ShRef v P
theorem ShIn.isRef {P : Addr → Obj → Prop} {v : Value} {t : Tree} (h : ShIn P v t) : ShRef v P := by
  cases h with
  | run a _ _ => exact ⟨_, _, rfl, a⟩
  | redir a _ => exact ⟨_, _, rfl, a⟩
  | pair a _ _ => exact ⟨_, _, rfl, a⟩
  | back a _ => exact ⟨_, _, rfl, a⟩

/- a shape as data -/
noncomputable def shD : Tree → PyData
  | .run a => .tuple [.str (S [114, 117, 110]), .list (a.map fun k => .str (S k))]
  | .redir k t p => .tuple [.str (S (sgn k)), shD t, .str (S p)]
  | .pair c t1 t2 => .tuple [.str (S [c]), shD t1, shD t2]
  | .back t => .tuple [.str (S [98, 97, 99, 107]), shD t]
theorem ShIn.reads {h : Heap} {P : Addr → Obj → Prop} (hp : ∀ a o, P a o → h.get? a = some o) {v : Value} {t : Tree} (x : ShIn P v t) : ∃ as, Reads h v (shD t) as := by
  induction x with
  | run a b c => exact ⟨_, Reads.tuple (hp _ _ a) rfl rfl (.cons (.str _ _) (.cons (reads_list_at (hp _ _ b) rfl rfl c.reads) .nil))⟩
  | redir a _ ih => obtain ⟨as, q⟩ := ih; exact ⟨_, Reads.tuple (hp _ _ a) rfl rfl (.cons (.str _ _) (.cons q (.cons (.str _ _) .nil)))⟩
  | pair a _ _ i1 i2 => obtain ⟨as, q⟩ := i1; obtain ⟨bs, q2⟩ := i2; exact ⟨_, Reads.tuple (hp _ _ a) rfl rfl (.cons (.str _ _) (.cons q (.cons q2 .nil)))⟩
  | back a _ ih => obtain ⟨as, q⟩ := ih; exact ⟨_, Reads.tuple (hp _ _ a) rfl rfl (.cons (.str _ _) (.cons q .nil))⟩
theorem eqvAll_strs : ∀ ts : List Tk, PyData.eqvAll (ts.map fun k => .str (S k)) (ts.map fun k => .str (S k)) = true
  | [] => rfl
  | k :: r => by simp only [List.map_cons, PyData.eqvAll, PyData.eqv, beq_self_eq_true, Bool.true_and]; exact eqvAll_strs r
theorem shD_eqv (t : Tree) : PyData.eqv (shD t) (shD t) = true := by
  induction t with
  | run a => simp only [shD, PyData.eqv, PyData.eqvAll, beq_self_eq_true, Bool.true_and, eqvAll_strs, Bool.and_self]
  | redir k t p ih => simp only [shD, PyData.eqv, PyData.eqvAll, beq_self_eq_true, Bool.true_and, ih, Bool.and_self]
  | pair c t1 t2 i1 i2 => simp only [shD, PyData.eqv, PyData.eqvAll, beq_self_eq_true, Bool.true_and, i1, i2, Bool.and_self]
  | back t ih => simp only [shD, PyData.eqv, PyData.eqvAll, beq_self_eq_true, Bool.true_and, ih, Bool.and_self]
theorem shD_lay {t : Tree} (h : WF t) : (shD t).canLay0 = true := by
  have wd : ∀ {k : Tk}, Wd k → PyData.strOk (S k) = true := fun h => strOk_S fun c hc => (h.2 c hc).2.1
  induction h with
  | run h _ => simp only [shD, PyData.canLay0, PyData.canLayAll0, Bool.and_true, Bool.and_eq_true]; exact ⟨strOk_S (by decide), canLay_strs fun k hk c hc => ((h k hk).2 c hc).2.1⟩
  | @redir k t p hk _ hp ih => simp only [shD, PyData.canLay0, PyData.canLayAll0, Bool.and_true, Bool.and_eq_true]; exact ⟨strOk_S (by unfold sgn; split; decide; split <;> decide), ih, wd hp⟩
  | pair hc _ _ i1 i2 => simp only [shD, PyData.canLay0, PyData.canLayAll0, Bool.and_true, Bool.and_eq_true]; exact ⟨strOk_S (by rcases hc with rfl | rfl <;> decide), i1, i2⟩
  | back _ ih => simp only [shD, PyData.canLay0, PyData.canLayAll0, Bool.and_true, Bool.and_eq_true]; exact ⟨strOk_S (by decide), ih⟩
theorem shD_depth (t : Tree) : (shD t).depth ≤ ht t + 3 := by
  have st : ∀ ts : List Tk, PyData.depthAll (ts.map fun k => .str (S k)) ≤ 1 := by
    intro ts
    induction ts with
    | nil => simp [PyData.depthAll]
    | cons k r ih => simp only [List.map_cons, PyData.depthAll, PyData.depth]; (first | lia | omega)
  have z : ∀ n : Nat, max 0 0 ≤ n := fun n => Nat.max_le.mpr ⟨Nat.zero_le n, Nat.zero_le n⟩
  induction t with
  | run a => exact Nat.succ_le_succ (m := 2) (Nat.max_le.mpr ⟨Nat.zero_le _, Nat.max_le.mpr ⟨Nat.succ_le_succ (st a), Nat.zero_le _⟩⟩)
  | redir k t p ih => exact Nat.succ_le_succ (m := ht t + 3) (Nat.max_le.mpr ⟨Nat.zero_le _, Nat.max_le.mpr ⟨ih, z _⟩⟩)
  | pair c t1 t2 i1 i2 => exact Nat.succ_le_succ (m := max (ht t1) (ht t2) + 3) (Nat.max_le.mpr ⟨Nat.zero_le _, Nat.max_le.mpr ⟨Nat.le_trans i1 (Nat.add_le_add_right (Nat.le_max_left _ _) 3), Nat.max_le.mpr ⟨Nat.le_trans i2 (Nat.add_le_add_right (Nat.le_max_right _ _) 3), Nat.zero_le _⟩⟩⟩)
  | back t ih => exact Nat.succ_le_succ (m := ht t + 3) (Nat.max_le.mpr ⟨Nat.zero_le _, Nat.max_le.mpr ⟨ih, Nat.zero_le _⟩⟩)
end

section

local macro_rules | `(tactic| walk_at "go") => `(tactic| fail_if_success (have : GoOn := by walk_at "r"))

local macro_rules | `(tactic| walk_at "subscriptTail Name Slice ref ref") => `(tactic| (k_here; (with_unfolding_all refine slice_S (by k_asm) (by k_asm) (by k_mem) (by walk_at "r") (by constructor) (by constructor) (by (first | apply sl_last | apply sl_upto | apply sl_from | apply sl_run) <;> first | rfl | walk_at "z") (by walk_at "z") ?_ (by rfl) (fun _ => by rfl)); intro _ _ _ _ _ l1 _ _; have l0' := l1; (try k_lt l1); (try k_sweep)))

local macro_rules | `(tactic| walk_at "subscriptTail Name UnaryOp ref int") => `(tactic| (k_here; with_unfolding_all refine last_S (by k_asm) (by k_mem) (by walk_at "r") (by walk_at "r") (by walk_at "z") (fun _ => ?_) (by rfl)))

local macro_rules | `(tactic| walk_at "it") => `(tactic| (k_here; with_unfolding_all refine item_S (by k_asm) (by k_mem) (by walk_at "r") (by rfl) (by first | walk_at "r" | rfl) (by walk_at "z") (fun _ => ?_) (by rfl) (fun _ => by rfl)))

local macro_rules | `(tactic| walk_at "subscriptTail Name Constant ref int") => `(tactic| walk_at "it")

local macro_rules | `(tactic| walk_at "subscriptTail Name Name ref int") => `(tactic| walk_at "it")

local macro_rules | `(tactic| walk_at "compareOp NotEq ref ref") => `(tactic| (k_here; with_unfolding_all refine ne_nil (by k_asm) (by k_mem) (by walk_at "r") (by walk_at "r") (by k_mem) (by walk_at "r") (by walk_at "r") ?_))

section

local macro_rules | `(tactic| walk_at "compareOp Eq str") => `(tactic| (k_here; with_reducible refine cmp_bad (by assumption) ?_))

section
open PySem PySem.W PySem.Calls PySem.Spec PyProof.Rows
local macro_rules | `(tactic| walk_at "exec Assign cons IfExp") => `(tactic| (k_here; walk_at "go"; refine stop_here ?_))
local macro_rules | `(tactic| walk_at "exec For Name Call cons nil") => `(tactic| (k_here; refine stop_here ?_))
variable {w : World} {mean : ExcName → Option Value} {mg mb : Str → Option Value} {B : Heap} {A : Around} {l : List Env} {s : Shared}


section
variable (w mean mg mb B)
/- what a reader of the law tells of a list of marks -/
noncomputable def ReadL (f : Addr) (n need : Nat) (p : List Tk → Option Tree) : Prop :=
  ∀ {A : Around} {l : List Env} {s : Shared} {al : Addr} {c : Nat} {vs : Array Value} {ts : List Tk}, Amb w mean mg mb B A l s.heap → Room A (n + 20) (3 * n + 300) → Ow B l s.heap al (listOf vs c) → StrsI vs.toList ts → okTs ts → ts.length ≤ 5000 →
    3 * ts.length + need ≤ n → Gives w A f [.ref al] s (fun v h' => ShO (OwF B l s.heap h') v (p ts) ∧ Step [] s.heap h')
end
theorem back_S : Str.ofString "back" = S [98, 97, 99, 107] := by decide +kernel
noncomputable def cutTo (ts : List Tk) : CutR → List Tk
  | .at i => ts.take i
  | _ => ts
/- the shape of a line's first -/
noncomputable def lFst (n : Nat) (ts : List Tk) : Option Tree := (lPipe n (unback ts.length ts).1).map (backs (unback ts.length ts).2)
noncomputable def lEnd (n : Nat) (ts : List Tk) : CutR → Option Tree
  | .bad => none
  | .no => lFst n ts
  | .at i => (lFst n (ts.take i)).bind fun t => (lLine n (ts.drop (i + 1))).map fun r => Tree.pair 59 t r
theorem lLine_eq (n : Nat) (ts : List Tk) : lLine (n + 1) ts = lEnd n ts (lCut [59] 0 0 ts) := by
  rw [lLine]
  cases lCut [59] 0 0 ts with
  | bad => rfl
  | no => rfl
  | «at» i =>
    show (match lFst n (ts.take i) with
      | none => none
      | some t => match lLine n (ts.drop (i + 1)) with
        | none => none
        | some r => some (.pair 59 t r)) = (lFst n (ts.take i)).bind fun t => (lLine n (ts.drop (i + 1))).map fun r => Tree.pair 59 t r
    cases lFst n (ts.take i) with
    | none => rfl
    | some t => cases lLine n (ts.drop (i + 1)) <;> rfl
theorem shape_back {h : Heap} {L D : Addr} {tok : Tok} {v : Value} {t : Tree} {a b : List (Addr × Obj)} (_ : News B L h ((D, tupO #[.str (S [98, 97, 99, 107]) tok, v]) :: (a ++ b))) {h₀ : Heap} (hf : Free B l D) (hn : h₀.get? D = none) (hs : ShIn (InF B l h₀ b) v t) :
    ShIn (InF B l h₀ ((D, tupO #[.str (S [98, 97, 99, 107]) tok, v]) :: b)) (.ref D) (.back t) := .back ⟨⟨.head _, hf⟩, hn⟩ (hs.mono (inF_sub fun p hp => .tail _ hp))
theorem lCut_lt {sg : Tk} : ∀ (ts : List Tk) (d i j : Nat), lCut sg d i ts = .at j → i ≤ j ∧ j < i + ts.length := by
  intro ts
  induction ts with
  | nil => intro d i j h; rw [lCut] at h; split at h <;> cases h
  | cons k r ih =>
    intro d i j h
    rw [lCut] at h
    split at h
    · have := ih _ _ _ h; simp; (first | lia | omega)
    split at h
    · split at h
      · cases h
      · have := ih _ _ _ h; simp; (first | lia | omega)
    split at h
    · cases h; simp
    · have := ih _ _ _ h; simp; (first | lia | omega)
theorem unback_step {ts : List Tk} (h : ts.getLast? = some [38]) : (unback ts.length ts).1 = (unback ts.dropLast.length ts.dropLast).1 ∧ (unback ts.length ts).2 = (unback ts.dropLast.length ts.dropLast).2 + 1 := by
  have hl : ts.dropLast.length + 1 = ts.length := by
    cases ts with
    | nil => cases h
    | cons k r => simp
  rw [← hl, unback, if_pos h]
  exact ⟨rfl, rfl⟩
theorem unback_stop {ts : List Tk} (h : ts.getLast? ≠ some [38]) : unback ts.length ts = (ts, 0) := by
  cases ts.length with
  | zero => rfl
  | succ n => rw [unback, if_neg h]
theorem amp1_S : Str.ofString "&" = S [38] := by decide +kernel
noncomputable def lnMap (v0 v1 v2 v3 v4 v5 v6 : Option Value) : Str → Option Value := fun y => if y = Str.ofString "marks" then v0 else if y = Str.ofString "at" then v1 else if y = Str.ofString "first" then v2 else if y = Str.ofString "backs" then v3 else if y = Str.ofString "shape" then v4 else if y = Str.ofString "turn" then v5 else if y = Str.ofString "rest" then v6 else none
theorem lnMap_first {v0 : Option Value} {v1 : Option Value} {v2 : Option Value} {v3 : Option Value} {v4 : Option Value} {v5 : Option Value} {v6 : Option Value} {z : Option Value} {y : Str} : (if y = Str.ofString "first" then z else lnMap v0 v1 v2 v3 v4 v5 v6 y) = lnMap v0 v1 z v3 v4 v5 v6 y := by
  by_cases q : y = Str.ofString "first"
  · subst q; rfl
  · rw [if_neg q]; unfold lnMap; simp only [if_neg q]
theorem lnMap_backs {v0 : Option Value} {v1 : Option Value} {v2 : Option Value} {v3 : Option Value} {v4 : Option Value} {v5 : Option Value} {v6 : Option Value} {z : Option Value} {y : Str} : (if y = Str.ofString "backs" then z else lnMap v0 v1 v2 v3 v4 v5 v6 y) = lnMap v0 v1 v2 z v4 v5 v6 y := by
  by_cases q : y = Str.ofString "backs"
  · subst q; rfl
  · rw [if_neg q]; unfold lnMap; simp only [if_neg q]
theorem lnMap_shape {v0 : Option Value} {v1 : Option Value} {v2 : Option Value} {v3 : Option Value} {v4 : Option Value} {v5 : Option Value} {v6 : Option Value} {z : Option Value} {y : Str} : (if y = Str.ofString "shape" then z else lnMap v0 v1 v2 v3 v4 v5 v6 y) = lnMap v0 v1 v2 v3 z v5 v6 y := by
  by_cases q : y = Str.ofString "shape"
  · subst q; rfl
  · rw [if_neg q]; unfold lnMap; simp only [if_neg q]
theorem lnMap_turn {v0 : Option Value} {v1 : Option Value} {v2 : Option Value} {v3 : Option Value} {v4 : Option Value} {v5 : Option Value} {v6 : Option Value} {z : Option Value} {y : Str} : (if y = Str.ofString "turn" then z else lnMap v0 v1 v2 v3 v4 v5 v6 y) = lnMap v0 v1 v2 v3 v4 z v6 y := by
  by_cases q : y = Str.ofString "turn"
  · subst q; rfl
  · rw [if_neg q]; unfold lnMap; simp only [if_neg q]
inductive LnPost1 (s : Shared) (B : Heap) (L : Addr) (al : Addr) (av : Value) (vs : Array Value) (c : Nat) (l : List Env) (ts : List Tk) (f : Flow) (s₁ : Shared) : Prop
  | mk : (f = .next) → ∀ hh tkk fl fv fc rest, (s₁ = { s with heap := hh, toks := tkk }) → (Fr B L hh (lnMap (some (.ref al)) (some av) (some (.ref fl)) none none none none)) → (News B L hh ((fl, listOf fv fc) :: (al, listOf vs c) :: rest)) → ((∀ p ∈ others B s.heap [], p ∈ rest)) → (Free B l fl) → (StrsI fv.toList (cutTo ts (lCut [59] 0 0 ts))) → LnPost1 s B L al av vs c l ts f s₁
inductive LnPost2 (s : Shared) (B : Heap) (L : Addr) (al : Addr) (av : Value) (vs : Array Value) (c : Nat) (l : List Env) (fts : List Tk) (f : Flow) (s₁ : Shared) : Prop
  | mk : (f = .next) → ∀ hh tkk fl fv fc rest cur b tb, (s₁ = { s with heap := hh, toks := tkk }) → (Fr B L hh (lnMap (some (.ref al)) (some av) (some (.ref fl)) (some (.int ((b : Nat) : Int) tb)) none none none)) → (News B L hh ((fl, listOf fv fc) :: (al, listOf vs c) :: rest)) → ((∀ p ∈ others B s.heap [], p ∈ rest)) → (Free B l fl) → (StrsI fv.toList cur) → (unback fts.length fts = (cur, b)) → (cur.length ≤ fts.length) → (okTs cur) → (b ≤ fts.length) → LnPost2 s B L al av vs c l fts f s₁
inductive LnLoop (s : Shared) (B : Heap) (L : Addr) (al : Addr) (av : Value) (vs : Array Value) (c : Nat) (l : List Env) (fts : List Tk) (m : Nat) (s₁ : Shared) : Prop
  | mk : ∀ hh tkk fl fv fc rest cur b tb, (m = cur.length) → (s₁ = { s with heap := hh, toks := tkk }) → (Fr B L hh (lnMap (some (.ref al)) (some av) (some (.ref fl)) (some (.int ((b : Nat) : Int) tb)) none none none)) → (News B L hh ((fl, listOf fv fc) :: (al, listOf vs c) :: rest)) → ((∀ p ∈ others B s.heap [], p ∈ rest)) → (Free B l fl) → (StrsI fv.toList cur) → ((unback cur.length cur).1 = (unback fts.length fts).1) → ((unback cur.length cur).2 + b = (unback fts.length fts).2) → (cur.length + b = fts.length) → (okTs cur) → LnLoop s B L al av vs c l fts m s₁
inductive LnTurn (al : Addr) (av : Value) (fl : Addr) (b : Nat) (tb : Tok) (vs : Array Value) (c : Nat) (B : Heap) (s : Shared) (l : List Env) (n : Nat) (cur : List Tk) (i : Nat) (m₁ : Str → Option Value) (news₁ : List (Addr × Obj)) : Prop
  | mk : ∀ sv tv, (m₁ = lnMap (some (.ref al)) (some av) (some (.ref fl)) (some (.int ((b : Nat) : Int) tb)) (some sv) tv none) → ((∀ p ∈ (al, listOf vs c) :: others B s.heap [], p ∈ news₁)) → (ShO (InF B l s.heap news₁) sv ((lPipe n cur).map (backs i))) → LnTurn al av fl b tb vs c B s l n cur i m₁ news₁
theorem line_stepL {n : Nat} (pipe : ReadL w mean mg mb B 325 n 2 (lPipe n)) (line : ReadL w mean mg mb B 318 n 3 (lLine n)) : ReadL w mean mg mb B 318 (n + 1) 3 (lLine (n + 1)) := by
  intro A l s al c vs ts am rm ha hvs hok hlen hn
  have T := am.top
  have X := am.inK
  have hvz : vs.size ≤ 5000 := by rw [hvs.size]; exact hlen
  have hvb : vs.size ≤ 10000 := Nat.le_trans hvz (by decide)
  refine call_ok (by k_is) (by k_is) am rm.ok (binds := [("marks", .ref al)]) (BindsTo.of_eq rfl) (locs rfl) ((al, listOf vs c) :: others B s.heap []) ?_ ?_
  · refine all_cons ?_ ?_
    · exact ⟨ha.1, ha.2.base⟩
    · exact fun p hp => others_here p hp
  intro L h₁ tk₁ R _ F N am' _ hR
  have hsub : ∀ p ∈ others B s.heap [], p ∈ others B s.heap [] := fun _ h => h

  have hu := units_of am' (u := 36) (rm.less (d' := 1) (u' := 103) (by first | (simp +arith only; done) | lia | omega) (by first | (simp +arith only; done) | lia | omega)).deeper
  w_strict (k_steps)
  show wpAny _ _ _ _ _ _
  rw [semi_S]
  rename Fr _ _ _ _ => F
  rename News _ _ _ _ => N
  show wpAny _ _ _ _ _ _
  refine Gives.use (cut_spec (amb_now (W := []) am F N (fun p hp => .tail _ ((hsub _ hp))) noW (by rfl) (by rfl)) (rm.deeper.less (by first | (simp +arith only; done) | lia | omega) (by first | (simp +arith only; done) | lia | omega)) ⟨(N _ (.head _)).1, ha.2.push (N _ (.head _)).2.1 (by rfl)⟩ hvs (by rw [hvs.size]; (first | lia | omega))) ?_
  have up0 : Step [] s.heap _ := step_of F N am.stays (fun p hp => .tail _ ((hsub _ hp)))
  rintro av hN tkN ⟨hcv, st⟩
  obtain ⟨FN, restN, NN, hsN, hall⟩ := after_keep [(al, listOf vs c)] F N st
  have NN : News B L hN ((al, listOf vs c) :: restN) := NN
  replace hsub : ∀ p ∈ others B s.heap [], p ∈ restN := fun p hp => hsN _ (hsub _ hp)
  clear F N st hsN
  (try dsimp only)

  w_strict (k_steps)
  · refine hR _ _ _ ⟨?_, step_of (by assumption) (by assumption) am.stays (fun p hp => .tail _ (hsub _ hp))⟩
    rw [lLine_eq, show lCut [59] 0 0 ts = .bad by assumption]
    rfl
  have hnb : ¬ lCut [59] 0 0 ts = .bad := by assumption
  rename Fr _ _ _ _ => F
  rename News _ _ _ _ => N
  have F' : Fr B L _ (lnMap (some (.ref al)) (some av) none none none none none) := fr_congr F fun y => by
    unfold lnMap
    by_cases q0 : y = Str.ofString "marks"
    · subst q0; rfl
    by_cases q1 : y = Str.ofString "at"
    · subst q1; rfl
    by_cases q2 : y = Str.ofString "first"
    · subst q2; rfl
    by_cases q3 : y = Str.ofString "backs"
    · subst q3; rfl
    by_cases q4 : y = Str.ofString "shape"
    · subst q4; rfl
    by_cases q5 : y = Str.ofString "turn"
    · subst q5; rfl
    by_cases q6 : y = Str.ofString "rest"
    · subst q6; rfl
    simp only [if_neg q0, if_neg q1, if_neg q2, if_neg q3, if_neg q4, if_neg q5, if_neg q6, lk1]
  clear F hall
  have hlen2 : ∀ r, (cutTo ts r).length ≤ ts.length := fun r => by
    cases r with
    | «at» i => show (ts.take i).length ≤ _; rw [List.length_take]; exact Nat.min_le_right _ _
    | bad => exact Nat.le_refl _
    | no => exact Nat.le_refl _
  have hok2 : ∀ r, okTs (cutTo ts r) := fun r => by
    cases r with
    | «at» i => exact hok.sub fun k hk => List.mem_of_mem_take hk
    | bad => exact hok
    | no => exact hok
  show wpAny _ _ _ _ _ _
  refine wpAny_mono (Q := fun f s₁ => Halt (LnPost1 s B L al av vs c l ts f s₁)) ?_ ?_ (fun _ _ e => e)
  · have go : GoOn := .mk
    generalize hr : lCut [59] 0 0 ts = r at hcv hnb
    cases r with
    | bad => exact absurd rfl hnb
    | no =>
      have e : av = .none := hcv
      subst e
      w_strict (k_steps)
      rename Fr _ _ _ _ => F
      rename News _ _ _ _ => N
      refine .mk ?_
      exact ⟨rfl, _, _, al, vs, c, _, rfl, fr_congr F fun y => by
        ((simp only [lnMap_first, lnMap_backs, lnMap_shape, lnMap_turn]); try rfl)
        , news_sub N (sub1 (.head _)), hsub, ha.2, by rw [hr]; exact hvs⟩
    | «at» i =>
      obtain ⟨ti, rfl⟩ := hcv
      have hi := lCut_lt _ _ _ _ hr
      w_strict (k_steps)
      rename Fr _ _ _ _ => F
      rename News _ _ _ _ => N
      rename StrsI _ _ => hS
      rename (∀ p : Addr × Obj, p ∈ _ → p.1 < _) => l0
      refine .mk ?_
      exact ⟨rfl, _, _, _, _, _, _, rfl, fr_congr F fun y => by
        ((simp only [lnMap_first, lnMap_backs, lnMap_shape, lnMap_turn]); try rfl)
        , N, hsub, free_new am (fun p hp => .tail _ (hsub _ hp)) l0 (N _ (.head _)).2.2, by rw [hr]; exact hS⟩
  clear F' N hsub
  rintro f s₁ ⟨⟨rfl, hh, tkk, fl, fv, fc, rest, rfl, F, N, hsub, hfl, hfv⟩⟩
  generalize hfts : cutTo ts (lCut [59] 0 0 ts) = fts at hfv
  have hfl2 : fts.length ≤ ts.length := by rw [← hfts]; exact hlen2 _
  have hfo : okTs fts := by rw [← hfts]; exact hok2 _
  (try dsimp only)
  w_strict (k_steps)
  rename Fr _ _ _ _ => F
  rename News _ _ _ _ => N
  show wpAny _ _ _ _ _ _
  refine wpAny_mono (Q := fun f s₁ => Halt (LnPost2 s B L al av vs c l fts f s₁)) (while_ok
    (LnLoop s B L al av vs c l fts)
    ?_ _ ⟨_, _, fl, fv, fc, rest, fts, 0, _, rfl, rfl, fr_congr F fun y => by
      ((simp only [lnMap_first, lnMap_backs, lnMap_shape, lnMap_turn]); try rfl)
      , N, hsub, hfl, hfv, rfl, rfl, Nat.add_zero _, hfo⟩) ?_ (fun _ _ e => e)
  · clear F N hsub hfl hfv fl fv fc rest hh tkk
    rintro m s₁ ⟨hh, tkk, fl, fv, fc, rest, cur, b, tb, rfl, rfl, F, N, hsub, hfl, hfv, hu1, hu2, hcl, hco⟩
    have hfz : fv.size ≤ 5000 := by rw [hfv.size]; (first | lia | omega)
    rcases List.eq_nil_or_concat cur with hnil | ⟨ini, k, hcat⟩
    · have hd0 : decide (cur = []) = true := decide_eq_true hnil
      w_strict (k_steps)
      rename Fr _ _ _ _ => F9
      rename News _ _ _ _ => N9
      have hst : unback cur.length cur = (cur, 0) := unback_stop (by rw [hnil]; exact fun q => nomatch q)
      rw [hst] at hu1 hu2
      refine .mk ?_
      exact ⟨rfl, _, _, fl, fv, fc, _, cur, b, tb, rfl, F9, news_sub N9 (sub2 (.tail _ (.head _)) (.tail _ (.tail _ (.head _)))), fun p hp => .tail _ (.tail _ (.tail _ (hsub p hp))), hfl, hfv, Prod.ext hu1.symm (by show (unback fts.length fts).2 = b; (first | lia | omega)), by (first | lia | omega), hco, by (first | lia | omega)⟩
    · have hd0 : decide (cur = []) = false := decide_eq_false (by rw [hcat]; simp)
      have hk : cur.getLast? = some k := by rw [hcat]; simp
      w_strict (k_steps)
      · have hka : k = [38] := of_decide_eq_true ((S_beq k _ _ amp1_S).symm.trans (by assumption))
        rename Fr _ _ _ _ => F9
        rename News _ _ _ _ => N9
        rename StrsI _ _ => hS
        rename (∀ p : Addr × Obj, p ∈ _ → p.1 < _) => l0
        obtain ⟨ub1, ub2⟩ := unback_step (ts := cur) (by rw [hk, hka])
        have hlc : cur.dropLast.length + 1 = cur.length := by rw [hcat]; simp
        refine ⟨cur.dropLast.length, by (first | lia | omega), _, _, _, _, _, _, cur.dropLast, b + 1, _, rfl, rfl, fr_congr F9 (m' := lnMap (some (.ref al)) (some av) (some (.ref _)) (some (.int ((b + 1 : Nat) : Int) _)) none none none) fun y => by
          ((simp only [lnMap_first, lnMap_backs, lnMap_shape, lnMap_turn]); try rfl)
          , news_sub N9 (sub2 (.tail _ (.head _)) (.tail _ (.tail _ (.tail _ (.tail _ (.head _)))))), fun p hp => .tail _ (.tail _ (.tail _ (.tail _ (.tail _ (hsub p hp))))),
          free_new am (fun p hp => .tail _ (.tail _ (.tail _ (hsub p hp)))) l0 (N9 _ (.tail _ (.head _))).2.2, hS, by rw [← ub1]; exact hu1, by (first | lia | omega), by (first | lia | omega), hco.sub fun z hz => List.dropLast_subset _ hz⟩
      · have hka : ¬ k = [38] := of_decide_eq_false ((S_beq k _ _ amp1_S).symm.trans (by assumption))
        rename Fr _ _ _ _ => F9
        rename News _ _ _ _ => N9
        have hst : unback cur.length cur = (cur, 0) := unback_stop (by rw [hk]; exact fun q => hka (Option.some.inj q))
        rw [hst] at hu1 hu2
        refine .mk ?_
        exact ⟨rfl, _, _, fl, fv, fc, _, cur, b, tb, rfl, F9, news_sub N9 (sub2 (.tail _ (.head _)) (.tail _ (.tail _ (.head _)))), fun p hp => .tail _ (.tail _ (.tail _ (hsub p hp))), hfl, hfv, Prod.ext hu1.symm (by show (unback fts.length fts).2 = b; (first | lia | omega)), by (first | lia | omega), hco, by (first | lia | omega)⟩
  clear F N hsub hfl hfv fl fv fc rest hh tkk
  rintro f s₁ ⟨⟨rfl, hh, tkk, fl, fv, fc, rest, cur, b, tb, rfl, F, N, hsub, hfl, hfv, hub, hcl, hco, hbl⟩⟩
  (try dsimp only)
  w_strict (k_steps)
  rename Fr _ _ _ _ => F
  rename News _ _ _ _ => N
  show wpAny _ _ _ _ _ _
  refine Gives.use (pipe (amb_now (W := []) am F N (fun p hp => .tail _ (.tail _ ((hsub _ hp)))) noW (by rfl) (by rfl)) (rm.deeper.less (by first | (simp +arith only; done) | lia | omega) (by first | (simp +arith only; done) | lia | omega)) ⟨(N _ (.head _)).1, hfl.push (N _ (.head _)).2.1 (by rfl)⟩ hfv hco (by first | (simp +arith only; done) | lia | omega) (by first | (simp +arith only; done) | lia | omega)) ?_
  have up0 : Step [] s.heap _ := step_of F N am.stays (fun p hp => .tail _ (.tail _ ((hsub _ hp))))
  rintro sv hN tkN ⟨hsv, st⟩
  obtain ⟨FN, restN, NN, hsN, hall⟩ := after_keep [(fl, listOf fv fc), (al, listOf vs c)] F N st
  have NN : News B L hN ((fl, listOf fv fc) :: (al, listOf vs c) :: restN) := NN
  replace hsub : ∀ p ∈ others B s.heap [], p ∈ restN := fun p hp => hsN _ (hsub _ hp)
  clear F N st hsN
  (try dsimp only)
  have hsv := hsv.mono (owf_out up0 hall rfl)
  w_strict (k_steps)
  refine For_invV B rfl rfl ?_ (hE := .never)
  w_strict (k_steps)
  rename Fr _ _ _ _ => F9
  rename News _ _ _ _ => N9
  rename IsRange _ _ _ _ _ _ _ _ => hrg
  show wpAny _ _ _ _ _ _
  refine for_range (m := lnMap (some (.ref al)) (some av) (some (.ref fl)) (some (.int ((b : Nat) : Int) tb)) (some sv) none none) (n := b) (LnTurn al av fl b tb vs c B s l n cur) am'.hand hrg (small_one (by first | (simp +arith only; done) | lia | omega) (by first | (simp +arith only; done) | lia | omega) (by first | (simp +arith only; done) | lia | omega) (by first | (simp +arith only; done) | lia | omega)) (by rw [rangeSize_nat]; simp) (fr_congr F9 fun y => by
      ((simp only [lnMap_first, lnMap_backs, lnMap_shape, lnMap_turn]); try rfl)
      ) N9 ⟨sv, none, rfl, fun p hp => by
        rcases List.mem_cons.mp hp with rfl | hp
        · exact .tail _ (.head _)
        · exact .tail _ (.tail _ (hsub p hp)), ?_⟩ ?_ ?_
  · have e : (lPipe n cur).map (backs 0) = lPipe n cur := by cases lPipe n cur <;> rfl
    rw [e]
    exact hsv.mono (inF_sub fun p hp => .tail _ (.tail _ hp))
  · clear F9 N9 hrg hsv hall hsub
    rintro i t m₁ news₁ I own o h tk hi ⟨sv, tv, rfl, hsub, hsv⟩ hoff hown hIo F1 N1
    have go : GoOn := .mk
    cases hp : lPipe n cur with
    | none =>
      rw [hp] at hsv
      have e : sv = .none := hsv
      subst e
      w_strict (k_steps)
      rename Fr _ _ _ _ => F9
      rename News _ _ _ _ => N9
      exact ⟨_, _, _, news₁, rfl, fr_congr F9 (m' := lnMap (some (.ref al)) (some av) (some (.ref fl)) (some (.int ((b : Nat) : Int) tb)) (some .none) (some _) none) fun y => by
        ((simp only [lnMap_first, lnMap_backs, lnMap_shape, lnMap_turn]); try rfl)
        , N9, hoff, .none, _, rfl, hsub, by rw [hp]; rfl⟩
    | some t0 =>
      rw [hp] at hsv
      have hsv : ShIn (InF B l s.heap news₁) sv (backs i t0) := hsv
      obtain ⟨xs, its, rfl, hxs⟩ := hsv.isRef
      w_strict (k_steps)
      rename Fr _ _ _ _ => F9
      rename News _ _ _ _ => N9
      rename (∀ p : Addr × Obj, p ∈ _ → p.1 < _) => l0
      rw [back_S] at N9
      have hx := shape_back N9 (free_new am (fun p hp => List.mem_append_right _ (hsub p (.tail _ hp))) l0 (N9 _ (.head _)).2.2) (fresh0 (fun p hp => l0 p (List.mem_append_right _ (hsub p (.tail _ hp)))) (N9 _ (.head _)).2.2) hsv
      refine ⟨_, _, _, _ :: news₁, rfl, fr_congr F9 (m' := lnMap (some (.ref al)) (some av) (some (.ref fl)) (some (.int ((b : Nat) : Int) tb)) (some (.ref _)) (some _) none) fun y => by
        ((simp only [lnMap_first, lnMap_backs, lnMap_shape, lnMap_turn]); try rfl)
        , ?_, ?_, .ref _, _, rfl, fun p hp => .tail _ (hsub p hp), by rw [hp]; exact hx⟩
      · intro p hp
        rcases List.mem_append.mp hp with hp | hp
        · exact N9 _ (.tail _ (List.mem_append_left _ hp))
        rcases List.mem_cons.mp hp with rfl | hp
        · exact N9 _ (.head _)
        · exact N9 _ (.tail _ (List.mem_append_right _ hp))
      · refine all_cons ?_ ?_
        · exact Ne.symm (Nat.ne_of_lt (l0 _ (List.mem_append_left _ hIo)))
        · exact fun p hp => hoff p hp
  · clear F9 N9 hrg hsv hall hsub
    rintro h' tk' m' news' F N ⟨sv, tv, rfl, hsub, hsv⟩
    have N' : News B L h' ((al, listOf vs c) :: news') := news_sub N (sub1 (hsub _ (.head _)))
    have hs' : ∀ p ∈ others B s.heap [], p ∈ news' := fun p hp => hsub _ (.tail _ hp)
    have hfst : lFst n fts = (lPipe n cur).map (backs b) := by unfold lFst; rw [hub]
    clear N hsub
    have hsub := hs'
    have N := N'
    clear hs' N'
    have up : Step [] s.heap h' := step_of F N am.stays fun p hp => .tail _ (hsub p hp)
    rw [lLine_eq] at hR
    generalize hq : (lPipe n cur).map (backs b) = q at hsv hfst
    generalize hr : lCut [59] 0 0 ts = r at hcv hnb hfts hR
    (try dsimp only)
    cases r with
    | bad => exact absurd rfl hnb
    | no =>
      have e : av = .none := hcv
      subst e
      have hfts : ts = fts := hfts
      have hE : lEnd n ts .no = q := by rw [← hfst, ← hfts]; rfl
      rw [hE] at hR
      cases q with
      | none =>
        have e : sv = .none := hsv
        subst e
        w_strict (k_steps)
        exact hR _ _ _ ⟨rfl, step_of (by assumption) (by assumption) am.stays fun p hp => .tail _ (hsub p hp)⟩
      | some t0 =>
        have hsv : ShIn (InF B l s.heap news') sv t0 := hsv
        obtain ⟨xs, its, rfl, hxs⟩ := hsv.isRef
        w_strict (k_steps)
        rename Fr _ _ _ _ => F9
        rename News _ _ _ _ => N9
        exact hR _ _ _ ⟨hsv.mono (inF_ow N9 fun p hp => .tail _ hp), step_of F9 N9 am.stays fun p hp => .tail _ (hsub p hp)⟩
    | «at» i =>
      obtain ⟨ti, rfl⟩ := hcv
      have hi := lCut_lt _ _ _ _ hr
      have hfts : ts.take i = fts := hfts
      have hE : lEnd n ts (.at i) = q.bind fun t => (lLine n (ts.drop (i + 1))).map fun r => Tree.pair 59 t r := by
        show (lFst n (ts.take i)).bind _ = _
        rw [hfts, hfst]
      rw [hE] at hR
      cases q with
      | none =>
        have e : sv = .none := hsv
        subst e
        w_strict (k_steps)
        exact hR _ _ _ ⟨rfl, step_of (by assumption) (by assumption) am.stays fun p hp => .tail _ (hsub p hp)⟩
      | some t0 =>
        have hsv : ShIn (InF B l s.heap news') sv t0 := hsv
        obtain ⟨xs, its, rfl, hxs⟩ := hsv.isRef
        w_strict (k_steps)
        rename_i D ws h5 F5 N5 hS hZ l0 l1
        have hS : StrsI ws.toList (ts.drop (i + 1)) := hS
        have hfD : Free B l D := free_new am (fun p hp => .tail _ (hsub p hp)) l0 (N5 _ (.head _)).2.2
        rename Fr _ _ _ _ => F
        rename News _ _ _ _ => N
        show wpAny _ _ _ _ _ _
        refine Gives.use (line (amb_now (W := []) am F N (fun p hp => .tail _ (.tail _ ((hsub _ hp)))) noW (by rfl) (by rfl)) (rm.deeper.less (by first | (simp +arith only; done) | lia | omega) (by first | (simp +arith only; done) | lia | omega)) ⟨(N _ (.head _)).1, hfD.push (N _ (.head _)).2.1 (by rfl)⟩ hS (hok.sub fun z hz => List.mem_of_mem_drop hz) (by rw [List.length_drop]; (first | lia | omega)) (by rw [List.length_drop]; (first | lia | omega))) ?_
        have up0 : Step [] s.heap _ := step_of F N am.stays (fun p hp => .tail _ (.tail _ ((hsub _ hp))))
        rintro rv hN tkN ⟨hrv, st⟩
        obtain ⟨FN, restN, NN, hsN, hall⟩ := after_keep [(D, listOf ws 0), (al, listOf vs c)] F N st
        have NN : News B L hN ((D, listOf ws 0) :: (al, listOf vs c) :: restN) := NN
        have hsv := hsv.mono (inF_sub hsN)
        replace hsub : ∀ p ∈ others B s.heap [], p ∈ restN := fun p hp => hsN _ (hsub _ hp)
        clear F N st hsN
        (try dsimp only)

        have hrv := hrv.mono (owf_out up0 hall rfl)
        cases hq2 : lLine n (ts.drop (i + 1)) with
        | none =>
          rw [hq2] at hrv hR
          have e : rv = .none := hrv
          subst e
          w_strict (k_steps)
          exact hR _ _ _ ⟨rfl, step_of (by assumption) (by assumption) am.stays fun p hp => .tail _ (.tail _ (hsub p hp))⟩
        | some t2 =>
          rw [hq2] at hrv hR
          have hrv : ShIn (InF B l s.heap restN) rv t2 := hrv
          obtain ⟨xr, itr, rfl, hxr⟩ := hrv.isRef
          w_strict (k_steps)
          rename_i h6 tk6 D2 h7 F7 N7 l7
          have hn2 := fresh0 (fun p hp => allLt_mem l7.2.2 p (hsub p hp)) (N7 _ (.head _)).2.2
          have hf2 : Free B l D2 := am.free hn2
          exact hR _ _ _ ⟨.pair ⟨⟨(N7 _ (.head _)).1, hf2⟩, hn2⟩ (hsv.mono (inF_ow N7 fun p hp => .tail _ (.tail _ (.tail _ hp)))) (hrv.mono (inF_ow N7 fun p hp => .tail _ (.tail _ (.tail _ hp)))), step_of F7 N7 am.stays fun p hp => .tail _ (.tail _ (.tail _ (hsub p hp)))⟩
end

section
open PySem PySem.W PySem.Calls PySem.Spec PyProof.Rows
local macro_rules | `(tactic| walk_at "exec If") => `(tactic| (k_here; walk_at "go"; refine stop_here ?_))
variable {w : World} {mean : ExcName → Option Value} {mg mb : Str → Option Value} {B : Heap} {A : Around} {l : List Env} {s : Shared}


noncomputable def pEnd (n : Nat) (ts : List Tk) : CutR → Option Tree
  | .bad => none
  | .no => lOne n ts
  | .at i => (lOne n (ts.take i)).bind fun t => (lPipe n (ts.drop (i + 1))).map fun r => Tree.pair 124 t r
theorem lPipe_eq (n : Nat) (ts : List Tk) : lPipe (n + 1) ts = pEnd n ts (lCut [124] 0 0 ts) := by
  rw [lPipe]
  cases lCut [124] 0 0 ts with
  | bad => rfl
  | no => rfl
  | «at» i =>
    show (match lOne n (ts.take i), lPipe n (ts.drop (i + 1)) with
      | some t, some r => some (Tree.pair 124 t r)
      | _, _ => none) = (lOne n (ts.take i)).bind fun t => (lPipe n (ts.drop (i + 1))).map fun r => Tree.pair 124 t r
    cases lOne n (ts.take i) with
    | none => rfl
    | some t => cases lPipe n (ts.drop (i + 1)) <;> rfl

theorem pipe_stepL {n : Nat} (one : ReadL w mean mg mb B 330 n 1 (lOne n)) (pipe : ReadL w mean mg mb B 325 n 2 (lPipe n)) : ReadL w mean mg mb B 325 (n + 1) 2 (lPipe (n + 1)) := by
  intro A l s al c vs ts am rm ha hvs hok hlen hn
  have T := am.top
  have X := am.inK
  have hvz : vs.size ≤ 5000 := by rw [hvs.size]; exact hlen
  have hvb : vs.size ≤ 10000 := Nat.le_trans hvz (by decide)
  refine call_ok (by k_is) (by k_is) am rm.ok (binds := [("marks", .ref al)]) (BindsTo.of_eq rfl) (locs rfl) ((al, listOf vs c) :: others B s.heap []) ?_ ?_
  · refine all_cons ?_ ?_
    · exact ⟨ha.1, ha.2.base⟩
    · exact fun p hp => others_here p hp
  intro L h₁ tk₁ R _ F N am' _ hR
  have hsub : ∀ p ∈ others B s.heap [], p ∈ others B s.heap [] := fun _ h => h

  have hu := units_of am' (u := 36) (rm.less (d' := 1) (u' := 103) (by first | (simp +arith only; done) | lia | omega) (by first | (simp +arith only; done) | lia | omega)).deeper
  w_strict (k_steps)
  show wpAny _ _ _ _ _ _
  rw [bar_S]
  rename Fr _ _ _ _ => F
  rename News _ _ _ _ => N
  show wpAny _ _ _ _ _ _
  refine Gives.use (cut_spec (amb_now (W := []) am F N (fun p hp => .tail _ ((hsub _ hp))) noW (by rfl) (by rfl)) (rm.deeper.less (by first | (simp +arith only; done) | lia | omega) (by first | (simp +arith only; done) | lia | omega)) ⟨(N _ (.head _)).1, ha.2.push (N _ (.head _)).2.1 (by rfl)⟩ hvs (by rw [hvs.size]; (first | lia | omega))) ?_
  have up0 : Step [] s.heap _ := step_of F N am.stays (fun p hp => .tail _ ((hsub _ hp)))
  rintro av hN tkN ⟨hcv, st⟩
  obtain ⟨FN, restN, NN, hsN, hall⟩ := after_keep [(al, listOf vs c)] F N st
  have NN : News B L hN ((al, listOf vs c) :: restN) := NN
  replace hsub : ∀ p ∈ others B s.heap [], p ∈ restN := fun p hp => hsN _ (hsub _ hp)
  clear F N st hsN
  (try dsimp only)

  have go : GoOn := .mk
  w_strict (k_steps)
  · refine hR _ _ _ ⟨?_, step_of (by assumption) (by assumption) am.stays (fun p hp => .tail _ (hsub _ hp))⟩
    rw [lPipe_eq, show lCut [124] 0 0 ts = .bad by assumption]
    rfl
  have hnb : ¬ lCut [124] 0 0 ts = .bad := by assumption
  rw [lPipe_eq] at hR
  clear hall
  generalize hr : lCut [124] 0 0 ts = r at hcv hnb hR
  cases r with
  | bad => exact absurd rfl hnb
  | no =>
    have e : av = .none := hcv
    subst e
    w_strict (k_steps)
    rename Fr _ _ _ _ => F
    rename News _ _ _ _ => N
    show wpAny _ _ _ _ _ _
    refine Gives.use (one (amb_now (W := []) am F N (fun p hp => .tail _ ((hsub _ hp))) noW (by rfl) (by rfl)) (rm.deeper.less (by first | (simp +arith only; done) | lia | omega) (by first | (simp +arith only; done) | lia | omega)) ⟨(N _ (.head _)).1, ha.2.push (N _ (.head _)).2.1 (by rfl)⟩ hvs hok (by first | (simp +arith only; done) | lia | omega) (by first | (simp +arith only; done) | lia | omega)) ?_
    have up0 : Step [] s.heap _ := step_of F N am.stays (fun p hp => .tail _ ((hsub _ hp)))
    rintro sv hN tkN ⟨hsv, st⟩
    obtain ⟨FN, restN, NN, hsN, hall⟩ := after_keep [(al, listOf vs c)] F N st
    have NN : News B L hN ((al, listOf vs c) :: restN) := NN
    replace hsub : ∀ p ∈ others B s.heap [], p ∈ restN := fun p hp => hsN _ (hsub _ hp)
    clear F N st hsN
    (try dsimp only)

    have hsv := hsv.mono (owf_out up0 hall rfl)
    w_strict (k_steps)
    rename Fr _ _ _ _ => F9
    rename News _ _ _ _ => N9
    exact hR _ _ _ ⟨hsv.mono (inF_ow N9 fun p hp => .tail _ hp), step_of F9 N9 am.stays fun p hp => .tail _ (hsub p hp)⟩
  | «at» i =>
    obtain ⟨ti, rfl⟩ := hcv
    have hi := lCut_lt _ _ _ _ hr
    w_strict (k_steps)
    rename_i D ws h5 F5 N5 hS hZ l0 l1
    have hfD : Free B l D := free_new am (fun p hp => .tail _ (hsub p hp)) l0 (N5 _ (.head _)).2.2
    rename Fr _ _ _ _ => F
    rename News _ _ _ _ => N
    show wpAny _ _ _ _ _ _
    refine Gives.use (one (amb_now (W := []) am F N (fun p hp => .tail _ (.tail _ ((hsub _ hp)))) noW (by rfl) (by rfl)) (rm.deeper.less (by first | (simp +arith only; done) | lia | omega) (by first | (simp +arith only; done) | lia | omega)) ⟨(N _ (.head _)).1, hfD.push (N _ (.head _)).2.1 (by rfl)⟩ hS (hok.sub fun z hz => List.mem_of_mem_take hz) (by rw [List.length_take]; (first | lia | omega)) (by rw [List.length_take]; (first | lia | omega))) ?_
    have up0 : Step [] s.heap _ := step_of F N am.stays (fun p hp => .tail _ (.tail _ ((hsub _ hp))))
    rintro sv hN tkN ⟨hsv, st⟩
    obtain ⟨FN, restN, NN, hsN, hall⟩ := after_keep [(D, listOf ws 0), (al, listOf vs c)] F N st
    have NN : News B L hN ((D, listOf ws 0) :: (al, listOf vs c) :: restN) := NN
    replace hsub : ∀ p ∈ others B s.heap [], p ∈ restN := fun p hp => hsN _ (hsub _ hp)
    clear F N st hsN
    (try dsimp only)

    have hsv := hsv.mono (owf_out up0 hall rfl)
    clear hall
    w_strict (k_steps)
    rename_i D2 ws2 h6 F6 N6 hS2 hZ2 l02 l12
    have hS2 : StrsI ws2.toList (ts.drop (i + 1)) := hS2
    have hfD2 : Free B l D2 := free_new am (fun p hp => .tail _ (.tail _ (hsub p hp))) l02 (N6 _ (.head _)).2.2
    rename Fr _ _ _ _ => F
    rename News _ _ _ _ => N
    show wpAny _ _ _ _ _ _
    refine Gives.use (pipe (amb_now (W := []) am F N (fun p hp => .tail _ (.tail _ (.tail _ ((hsub _ hp))))) noW (by rfl) (by rfl)) (rm.deeper.less (by first | (simp +arith only; done) | lia | omega) (by first | (simp +arith only; done) | lia | omega)) ⟨(N _ (.head _)).1, hfD2.push (N _ (.head _)).2.1 (by rfl)⟩ hS2 (hok.sub fun z hz => List.mem_of_mem_drop hz) (by rw [List.length_drop]; (first | lia | omega)) (by rw [List.length_drop]; (first | lia | omega))) ?_
    have up0 : Step [] s.heap _ := step_of F N am.stays (fun p hp => .tail _ (.tail _ (.tail _ ((hsub _ hp)))))
    rintro rv hN tkN ⟨hrv, st⟩
    obtain ⟨FN, restN, NN, hsN, hall⟩ := after_keep [(D2, listOf ws2 0), (D, listOf ws 0), (al, listOf vs c)] F N st
    have NN : News B L hN ((D2, listOf ws2 0) :: (D, listOf ws 0) :: (al, listOf vs c) :: restN) := NN
    have hsv := hsv.mono (inF_sub hsN)
    replace hsub : ∀ p ∈ others B s.heap [], p ∈ restN := fun p hp => hsN _ (hsub _ hp)
    clear F N st hsN
    (try dsimp only)

    have hrv := hrv.mono (owf_out up0 hall rfl)
    clear hall
    have hE : pEnd n ts (.at i) = (lOne n (ts.take i)).bind fun t => (lPipe n (ts.drop (i + 1))).map fun r => Tree.pair 124 t r := rfl
    rw [hE] at hR
    generalize lOne n (ts.take i) = q1 at hsv hR
    generalize lPipe n (ts.drop (i + 1)) = q2 at hrv hR
    cases q1 with
    | none =>
      have e : sv = .none := hsv
      subst e
      cases q2 with
      | none =>
        have e : rv = .none := hrv
        subst e
        w_strict (k_steps)
        exact hR _ _ _ ⟨rfl, step_of (by assumption) (by assumption) am.stays fun p hp => by repeat (first | exact hsub p hp | apply List.Mem.tail)⟩
      | some t2 =>
        have hrv : ShIn (InF B l s.heap restN) rv t2 := hrv
        obtain ⟨xr, itr, rfl, hxr⟩ := hrv.isRef
        w_strict (k_steps)
        exact hR _ _ _ ⟨rfl, step_of (by assumption) (by assumption) am.stays fun p hp => by repeat (first | exact hsub p hp | apply List.Mem.tail)⟩
    | some t1 =>
      have hsv : ShIn (InF B l s.heap restN) sv t1 := hsv
      obtain ⟨xs, its, rfl, hxs⟩ := hsv.isRef
      cases q2 with
      | none =>
        have e : rv = .none := hrv
        subst e
        w_strict (k_steps)
        exact hR _ _ _ ⟨rfl, step_of (by assumption) (by assumption) am.stays fun p hp => by repeat (first | exact hsub p hp | apply List.Mem.tail)⟩
      | some t2 =>
        have hrv : ShIn (InF B l s.heap restN) rv t2 := hrv
        obtain ⟨xr, itr, rfl, hxr⟩ := hrv.isRef
        w_strict (k_steps)
        rename_i D9 h9 F9 N9 l9
        have hn9 := fresh0 (fun p hp => allLt_mem l9.2.2.2.2 p (hsub p hp)) (N9 _ (.head _)).2.2
        have hf9 : Free B l D9 := am.free hn9
        exact hR _ _ _ ⟨.pair ⟨⟨(N9 _ (.head _)).1, hf9⟩, hn9⟩ (hsv.mono (inF_ow N9 fun p hp => .tail _ (.tail _ (.tail _ (.tail _ (.tail _ hp)))))) (hrv.mono (inF_ow N9 fun p hp => .tail _ (.tail _ (.tail _ (.tail _ (.tail _ hp)))))), step_of F9 N9 am.stays fun p hp => .tail _ (.tail _ (.tail _ (.tail _ (.tail _ (hsub p hp)))))⟩
end

end

section
open PySem PySem.W PySem.Calls PySem.Spec PyProof.Rows
variable {w : World} {mean : ExcName → Option Value} {mg mb : Str → Option Value} {B : Heap} {A : Around} {l : List Env} {s : Shared}

section
/- entering a def that never raises, whose names may be cells -/
theorem call_okC {name qual : Str} {params : Arguments} {body : List Stmt} {scope : Scope} {dV kV doc pm cdv ct oc : Value} {an od : Option Addr} {osl : Array (Option Value)} {f : Addr} {args : List Value} {binds : List (Str × Value)} {P : Value → Heap → Prop}
    (ho : (hd.heap_39 w.params).lookup f = some ⟨oc, od, .func (fnOf name qual params body scope dV kV doc pm an cdv ct), osl⟩) (hcd : codeIn (hd.heap_39 w.params) cdv qual = true)
    (m : Amb w mean mg mb B A l s.heap) (hroom : A.depth < recursionLimit)
    (hbind : BindsTo s (fnOf name qual params body scope dV kV doc pm an cdv ct) ⟨args, []⟩ binds)
    (hkind : ∀ n, KindsOk scope n binds) (hnd : ((cellsFrom 0 scope.names []).map (·.1)).Nodup)
    (news : List (Addr × Obj)) (hnews : ∀ p ∈ news, s.heap.get? p.1 = some p.2 ∧ B.get? p.1 = none)
    (h : ∀ L h₁ tk₁ cells (R : Value → Shared → Prop), L = s.heap.objs.size → Fr B L h₁ (bindL (envOfC qual scope L f cdv).kindOf binds fun _ => none) → News B L h₁ (cells ++ news) →
      CellsAre (bindC (envOfC qual scope L f cdv).kindOf binds fun _ => none) (cellsFrom (L + 1) scope.names []) cells →
      Amb w mean mg mb B (A.deeper (envOfC qual scope L f cdv)) (envOfC qual scope L f cdv :: l) h₁ →
      (∀ a o, s.heap.get? a = some o → h₁.get? a = some o) → (∀ v h' tk', P v h' → R v { s with heap := h', toks := tk' }) →
      wpAny (model PySem.Challenge.rw_nu0084_01.row.prog w) (A.deeper (envOfC qual scope L f cdv)) (execs body (envOfC qual scope L f cdv))
        (retQ R) (fun _ _ => False) { s with heap := h₁, toks := tk₁ })
    (hco : scope.isCoroutine = false := by rfl) (hgen : scope.isGenerator = false := by rfl) (hk : scope.kind = .function := by rfl) : Gives w A f args s P := fun R k => by
  have X := m.inK.keeps m.stays
  refine codeAny_call_function hroom (X _ _ ho) rfl hco hgen rfl (codeRec_of X hcd) (hbind _ _ _ _ ?_)
  refine wpAny_newFunctionEnv_cells hk (kinds_of (hkind _)) fun env' he s' x => ?_
  subst he
  refine ⟨(m.top.nolimit.keeps m.stays).keeps x.toInCall.keep, codeAny_func ?_⟩
  obtain ⟨h₁, tk, rfl, _⟩ := x.done
  have hk₁ := x.toInCall.keep
  obtain ⟨cells, NC, Y⟩ := Cl.news (h₀ := s.heap) (Nat.le_refl _) fun n c hm => ⟨x.cell n c (lookup_of_mem_nodup (cellsFrom_names scope.names 0 (s.heap.objs.size + 1) [] [] rfl ▸ hnd) hm), x.above n c hm⟩
  have F : Fr B s.heap.objs.size h₁ (bindL (envOfC qual scope s.heap.objs.size f cdv).kindOf binds fun _ => none) := ⟨x.toInCall.ns, fun b o e => hk₁ b o (m.stays b o e), m.size⟩
  have hLB : B.get? s.heap.objs.size = none := by
    cases hq : B.get? s.heap.objs.size with
    | none => rfl
    | some o => exact absurd (Nat.lt_of_lt_of_le (Heap.lt_size hq) m.size) (Nat.lt_irrefl _)
  have N : News B s.heap.objs.size h₁ (cells ++ news) := fun p hp => by
    rcases List.mem_append.mp hp with hp | hp
    · exact ⟨(NC p hp).1, (NC p hp).2.1, not_base m.stays (NC p hp).2.2⟩
    · exact ⟨hk₁ _ _ (hnews p hp).1, Nat.ne_of_lt (Heap.lt_size (hnews p hp).1), (hnews p hp).2⟩
  refine wpAny_mono (h _ h₁ tk cells (fun v s' => R (.ok (.ret v)) s') rfl F N Y ⟨Around.frames_deeper m.frames, F.keep, ?_, Nat.le_trans m.size (Nat.le_of_lt F.ns.lt), m.inK, m.top, m.hand⟩ hk₁ k) (fun fl _ q => by cases fl <;> exact q) fun _ _ q => q.elim
  exact .cons (by show scope.kind ≠ .module; rw [hk]; decide) rfl F.ns hLB (m.funs.of_keeps fun b o e _ => ⟨o, hk₁ b o e, rfl⟩)
end
theorem CellsAre.one {cm : Str → Option Value} {n₁ : Str} {c₁ : Addr} {cells : List (Addr × Obj)} (x : CellsAre cm [(n₁, c₁)] cells) : ∃ o₁, cells = [(c₁, o₁)] ∧ o₁.data = .cell (cm n₁) := by
  cases x with | cons h r => cases r with | nil => exact ⟨_, rfl, h⟩
section
variable {prog : Program} {E : Value → Shared → Prop} {L lst : Addr} {news : List (Addr × Obj)} {value slice : PySem.Expr} {Q : Value → Shared → Prop}
theorem eq_nilI {b : Addr} {c c2 : Nat} {ys : List Value} {ns : List Int} (N : News B L s.heap news) (hm : (lst, listOf ys.toArray c) ∈ news) (hi : IntsAre ys ns) (hb : (b, listOf #[] c2) ∈ news) (hu : A.units + 64 < cLine) {q : Bool} (hq : decide (ns = []) = q) (h : Q (.bool q) s) :
    wpAny (model prog w) A (compareOp .Eq (.ref lst) (.ref b)) Q E s := by
  subst hq
  exact eq_intsK (vs := ys) (us := []) (News.isList N hm) hi (News.isList N hb) .nil hu h
theorem item_I {x : Int} {u : Tok} {i : Nat} {c : Nat} {ys : List Value} {ns : List Int} {k : Int} (N : News B L s.heap news) (hm : (lst, listOf ys.toArray c) ∈ news) (hi : IntsAre ys ns) (hx : x = (i : Int)) (hk : ns[i]? = some k) (hz : ys.length ≤ 10000) (h : ∀ t, Q (.int k t) s)
    (hs : subscripted slice false (.ref lst) (.int x u) = operate [.ref lst, .int x u] (getItem (.ref lst) (.int x u))) (hg : ∀ r, letTemporaryGo value (.ref lst) r = pure ()) :
    wpAny (model prog w) A (subscriptTail value slice (.ref lst) (.int x u)) Q E s := by
  subst hx
  obtain ⟨t, ht⟩ := hi.get i k hk
  have hl : i < ys.length := (List.getElem?_eq_some_iff.mp ht).1
  exact item_list (News.isList N hm) (by first | (simp +arith only; done) | lia | omega) (by first | (simp +arith only; done) | lia | omega) (x := .int k t) (by simpa using ht) (h t) hs hg
theorem in_S {tp : Addr} {its : Array Value} {ys : List Str} {k : Tk} {t : Tok} {q : Bool} (N : News B L s.heap news) (hm : (tp, tupO its) ∈ news) (hi : StrsAre its.toList ys) (hq : ys.any (· == S k) = q) (h : Q (.bool q) s) :
    wpAny (model prog w) A (compareOp .In (.str (S k) t) (.ref tp)) Q E s := by
  subst hq
  exact in_tuple_strs (News.isTup N hm) hi h
end
theorem any_one (a k : Tk) : (S a == S k) = decide (k = a) := by
  rw [S_beq a (S k) k rfl, decide_eq_decide]
  exact ⟨Eq.symm, Eq.symm⟩
theorem any_red (k : Tk) : [Str.ofString "<", Str.ofString ">", Str.ofString ">>"].any (· == S k) = isRedM k := by
  rw [lt_S, gt_S, ggS]
  simp only [List.any_cons, List.any_nil, any_one, Bool.or_false]
  unfold isRedM
  rw [Bool.or_assoc]
theorem any_op (k : Tk) : [Str.ofString "|", Str.ofString "&", Str.ofString ";", Str.ofString "(", Str.ofString ")"].any (· == S k) = isOpM k := by
  rw [bar_S, amp1_S, semi_S, open_S, close_S]
  simp only [List.any_cons, List.any_nil, any_one, Bool.or_false]
  unfold isOpM
  simp only [Bool.or_assoc]
theorem any_all (k : Tk) : [Str.ofString "<", Str.ofString ">", Str.ofString ">>", Str.ofString "|", Str.ofString "&", Str.ofString ";", Str.ofString "(", Str.ofString ")"].any (· == S k) = (isRedM k || isOpM k) := by
  rw [lt_S, gt_S, ggS, bar_S, amp1_S, semi_S, open_S, close_S]
  simp only [List.any_cons, List.any_nil, any_one, Bool.or_false]
  unfold isRedM isOpM
  simp only [Bool.or_assoc]
theorem run_S : Str.ofString "run" = S [114, 117, 110] := by decide +kernel
theorem nil_S : Str.ofString "" = S [] := by decide +kernel

section
open LCg LCt
variable {prog : Program} {h₀ : Heap} {L : Addr} {m : Str → Option Value} {env : Env}
/- a comprehension's turns, by what holds of the list that is built -/
theorem rest_ind {ct elt : PySem.Expr} {x : Str} {scope : Scope} {cl : List (Str × Addr)} {S : List (Addr × Obj) → Prop} {P : Nat → Value → Prop} {Fin : List Value → List (Addr × Obj) → Prop} (n : Nat) (J : Nat → List Value → List (Addr × Obj) → Prop)
    (step : ∀ i ys news, i < n → J i ys news → ∀ v I oI C oC D m₂ h tk (E' : Value → Shared → Prop), P i v → NsObj oC m₂ → m₂ x = some v → Fr h₀ L h m → News h₀ L h ((I, oI) :: (C, oC) :: (D, lst ys) :: news) → Off3 I C D news → ((@Ne Nat I C) ∧ (@Ne Nat I D) ∧ (@Ne Nat C D)) →
      wpAny (model prog w) A (isTrue ct (compEnvC scope cl C env) (eval ct (compEnvC scope cl C env))) (fun ok s' => if ok = true then
        wpAny (model prog w) A (eval elt (compEnvC scope cl C env)) (CompEnd h₀ L m { s with heap := h, toks := tk } I oI C oC D (lst ys) S (fun y news' => J (i + 1) (ys ++ [y]) news')) E' s'
        else CompEnd h₀ L m { s with heap := h, toks := tk } I oI C oC D (lst ys) S (fun _ news' => J (i + 1) ys news') Value.none s') E' { s with heap := h, toks := tk })
    (fin : ∀ ys news, J n ys news → Fin ys news) : ∀ k i ys news, i + k = n → J i ys news → CompRestT prog w A h₀ L m env ct elt x scope cl s S P Fin k i ys news := by
  intro k
  induction k with
  | zero =>
    intro i ys news hik hj
    obtain rfl : i = n := by (first | lia | omega)
    exact CompRestT.zero (fin _ _ hj)
  | succ k ih =>
    intro i ys news hik hj
    refine CompRestT.succ fun v I oI C oC D m₂ h tk E' hP hC hx F N off ne => ?_
    have up : ∀ {ys' : List Value} {y : Value} {s' : Shared}, CompEnd h₀ L m { s with heap := h, toks := tk } I oI C oC D (lst ys) S (fun _ news' => J (i + 1) ys' news') y s' →
        CompEnd h₀ L m { s with heap := h, toks := tk } I oI C oC D (lst ys) S (fun _ news' => CompRestT prog w A h₀ L m env ct elt x scope cl s S P Fin k (i + 1) ys' news') y s' := by
      rintro ys' y s' ⟨h', tk', news', e, F', N', o', hS, hj'⟩
      exact ⟨h', tk', news', e, F', N', o', hS, ih _ _ _ (by first | (simp +arith only; done) | lia | omega) hj'⟩
    refine wpAny_mono (step i ys news (by first | (simp +arith only; done) | lia | omega) hj v I oI C oC D m₂ h tk E' hP hC hx F N off ne) (fun ok s' q => ?_) fun _ _ e => e
    cases ok with
    | true =>
      simp only [if_true] at q ⊢
      refine wpAny_mono q (fun y s'' q2 => ?_) fun _ _ e => e
      obtain ⟨h', tk', news', e, F', N', o', hS, hj'⟩ := q2
      exact ⟨h', tk', news', e, F', N', o', hS, ih _ _ _ (by first | (simp +arith only; done) | lia | omega) hj'⟩
    | false =>
      simp only [Bool.false_eq_true, if_false] at q ⊢
      exact up q
end

noncomputable def oHead (n : Nat) (ts : List Tk) : Option (Option Tree × List Tk) :=
  if ts.head? = some [40] then (match closes ts with | [] => none | c :: _ => (lLine n ((ts.take c).drop 1)).map fun b => (some b, ts.drop (c + 1))) else some (none, ts)
noncomputable def oFin (b : Option Tree) : List Tk × Rd → Option Tree := fun q => if q.1.length > 9 then none else some (appR (b.getD (.run q.1)) q.2)
theorem lOne_eq (n : Nat) (ts : List Tk) : lOne (n + 1) ts = (oHead n ts).bind fun p => (lRest (decide (ts.head? = some [40])) ts.length [] [] p.2).bind (oFin p.1) := by
  rw [lOne]
  unfold oHead
  by_cases h : ts.head? = some [40]
  · rw [if_pos h, if_pos h, decide_eq_true h]
    cases closes ts with
    | nil => rfl
    | cons c r =>
      dsimp only
      cases lLine n ((ts.take c).drop 1) with
      | none => rfl
      | some b =>
        show (match lRest true ts.length [] [] (ts.drop (c + 1)) with
          | none => none
          | some (a, rd) => if a.length > 9 then none else some (appR b rd)) = (lRest true ts.length [] [] (ts.drop (c + 1))).bind (oFin (some b))
        cases lRest true ts.length [] [] (ts.drop (c + 1)) <;> rfl
  · rw [if_neg h, if_neg h, decide_eq_false h]
    show (match lRest false ts.length [] [] ts with
      | none => none
      | some (a, rd) => if a.length > 9 then none else some (appR (.run a) rd)) = (lRest false ts.length [] [] ts).bind (oFin none)
    cases lRest false ts.length [] [] ts <;> rfl
end

section
open PySem PySem.W PySem.Calls PySem.Spec PyProof.Rows
theorem news_cons {B h : Heap} {L a : Addr} {o : Obj} {l r : List (Addr × Obj)} (N : News B L h l) (hm : (a, o) ∈ l) (hr : News B L h r) : News B L h ((a, o) :: r) := fun p hp => by
  rcases List.mem_cons.mp hp with rfl | hp
  · exact N _ hm
  · exact hr p hp
section
variable {prog : Program} {w : World} {A : Around} {E : Value → Shared → Prop} {s : Shared} {env : Env} {B : Heap} {xi xc : Str} {body : List Stmt} {Q : Flow → Shared → Prop}
/- said in the context: the walk is to go on at a second stop -/
inductive GoOn2 : Prop where
  | mk
inductive PairLoop (B : Heap) (env : Env) (I : Addr) (St : Nat → Heap → Prop) (J : Nat → (Str → Option Value) → List (Addr × Obj) → Prop) (n : Nat) (s₂ : Shared) (k : Nat) (s' : Shared) : Prop
  | mk : ∀ H tk m' news' i, s' = { s₂ with heap := H, toks := tk } → St i H → Fr B env.locals H m' → News B env.locals H news' → (∀ p ∈ news', p.1 ≠ I) → J i m' news' → i ≤ n → k = n + 1 - i → PairLoop B env I St J n s₂ k s'
/- a turn of a loop over pairs -/
noncomputable def PairTurn (B : Heap) (env : Env) (I : Addr) (own : List (Addr × Obj)) (Jn : (Str → Option Value) → List (Addr × Obj) → Prop) (Q : Flow → Shared → Prop) (s : Shared) (f : Flow) (s₃ : Shared) : Prop :=
  match f with
  | .next | .cont => Stop (PairEnd B env.locals I own Jn (fun h t => { s with heap := h, toks := t }) s₃)
  | .brk => Q .next s₃
  | .ret v => Q (.ret v) s₃
inductive PairAtU (prog : Program) (w : World) (A : Around) (B : Heap) (env : Env) (xi xc : Str) (body : List Stmt) (Q : Flow → Shared → Prop) (E : Value → Shared → Prop) (it : Value) (s₂ : Shared) : Prop
  | mk : ∀ (I : Addr) (fp : List Addr) (n : Nat) (a b : Nat → Value) (St : Nat → Heap → Prop) (Mid : Nat → Addr → Heap → Prop) (m : Str → Option Value) (news : List (Addr × Obj)) (J : Nat → (Str → Option Value) → List (Addr × Obj) → Prop),
    (it = .ref I) → (WalksU prog w A I fp [I] n (fun j v => v = #[a j, b j]) St Mid) → (env.locals ∉ fp) → (B.get? I = none) → ((∀ p ∈ news, p.1 ≠ I)) → ((∀ j h, St j h → ∃ o, h.get? I = some o)) → (St 0 s₂.heap) → (Fr B env.locals s₂.heap m) → (News B env.locals s₂.heap news) → (J 0 m news) → ((∀ i m₁ news₁ own o h tk, i < n → J i m₁ news₁ → (∀ p ∈ news₁, p.1 ≠ I) → (∀ p ∈ own, p.1 ∈ fp) → (I, o) ∈ own →
      Fr B env.locals h (fun y => if y = xc then some (b i) else if y = xi then some (a i) else m₁ y) → News B env.locals h (own ++ news₁) →
      wpAny (model prog w) A (execs body env) (PairTurn B env I own (J (i + 1)) Q { s₂ with heap := h, toks := tk }) E { s₂ with heap := h, toks := tk })) → (∀ h' tk m' news', Fr B env.locals h' m' → News B env.locals h' news' → J n m' news' → Q .next { s₂ with heap := h', toks := tk }) → PairAtU prog w A B env xi xc body Q E it s₂

theorem For_pairsU {pk pv pt pos : Pos} {x1 : Nat} {iter : PySem.Expr} (hh : A.handled = none) (hxi : env.kindOf xi = some .local) (hxc : env.kindOf xc = some .local)
    (hp : (env.scope.kind == .class || (env.scope.kind == .module && env.locals != env.globals)) = false)
    (h : wpAny (model prog w) A (eval iter env) (fun xv s₁ => wpAny (model prog w) A (pyIter xv) (fun it s₂ => PairAtU prog w A B env xi xc body Q E it s₂) E s₁) E s)
    (hs : ∀ x, foldedSetIterable iter env x = pure x) (hE : PassesOwn (model prog w) A env E := by passes_own) :
    wpAny (model prog w) A (exec (.For (.Tuple [.Name xi pk, .Name xc pv] x1 pt) iter body [] pos) env) Q E s := by
  refine wpAny_For (wpAny_mono h (fun xv s₁ h₁ => wpAny_mono h₁ (fun it s₂ h₂ => ?_) fun _ _ e => e) fun _ _ e => e) hs
  obtain ⟨I, fp, n, a, b, St, Mid, m, news, J, rfl, W, hLf, hI, hnI, hSt, hst, F, N, h0, turn, done⟩ := h₂
  have hLI : env.locals ≠ I := fun e => hLf (W.sub _ (by rw [e]; exact .head _))
  refine codeAny_forLoop_any (PairLoop B env I St J n s₂) ?_ (n + 1)
    ⟨s₂.heap, s₂.toks, m, news, 0, rfl, hst, F, N, hnI, h0, Nat.zero_le _, rfl⟩
  rintro k s' ⟨H, tk, m', news', i, rfl, hst', F', N', hn', hJ, hi, rfl⟩
  have out : ∀ b, b ∉ [I] ↔ b ≠ I := fun b => by simp
  have next : ∀ h₁ : Heap, (∀ b o, b ∉ [I] → H.get? b = some o → h₁.get? b = some o) → Fr B env.locals h₁ m' ∧ News B env.locals h₁ news' := fun h₁ hk =>
    ⟨⟨F'.ns.at' fun o e => hk _ o ((out _).mpr hLI) e, fun b o e => hk b o ((out _).mpr fun q => by rw [q, hI] at e; cases e) (F'.keep b o e), F'.above⟩, fun p hp => ⟨hk _ _ ((out _).mpr (hn' p hp)) (N' p hp).1, (N' p hp).2⟩⟩
  by_cases hlt : i < n
  · refine W.item i _ _ _ hlt hst' fun T vals h₁ tk₁ hP hT hMid hk₁ => ?_
    have hP : vals = #[a i, b i] := hP
    subst hP
    refine W.go _ x1 pt i T _ _ _ hMid fun h₂ hst₂ hk₂ => ?_
    have ht₂ : h₂.IsTuple T #[a i, b i] := hT.at fun o e => hk₂ T o (W.apart i T h₁ hMid) e
    refine wpAny_assign_Tuple hh ht₂ rfl rfl fun h₃ hx₃ => ?_
    have up₃ : ∀ b o, h₂.get? b = some o → h₃.get? b = some o := fun b o x => hx₃ b o (Nat.ne_of_lt (Heap.lt_size x)) x
    obtain ⟨F₃, N₃⟩ := next h₃ fun b o hb x => up₃ b o (hk₂ b o hb (hk₁ b o hb x))
    show wpAny _ A (do holding [b i] (assign (.Name xi pk) env (a i)); do holding [] (assign (.Name xc pv) env (b i)); pure ()) _ _ _
    refine wpAny_bind (wpAny_holding (wpAny_assign_Name (wpAny_storeName_local hxi F₃.ns (fun h₄ hn₄ hs₄ => ?_) hp)))
    have F₄ := F₃.set hn₄ hs₄
    refine wpAny_bind (wpAny_holding (wpAny_assign_Name (wpAny_storeName_local hxc F₄.ns (fun h₅ hn₅ hs₅ => wpAny_pure ?_) hp)))
    have F₅ := F₄.set hn₅ hs₅
    have N₅ : News B env.locals h₅ news' := (N₃.set hs₄).set hs₅
    have hst₅ : St (i + 1) h₅ := W.frame _ _ _ hst₂ fun b hb o e => hs₅.extBut b o (fun q => hLf (q ▸ hb)) (hs₄.extBut b o (fun q => hLf (q ▸ hb)) (up₃ b o e))
    obtain ⟨oI, hoI⟩ := hSt _ _ hst₅
    have hIo : (I, oI) ∈ ownOf B fp h₅ := mem_ownOf (W.sub _ (.head _)) hI hoI
    refine wpAny_passesOwn hE (wpAny_mono (turn i m' news' (ownOf B fp h₅) oI h₅ _ hlt hJ hn' ownOf_sub hIo F₅ ((news_ownOf hLf).append N₅)) (fun f s₃ h₆ => ?_) fun _ _ e => e)
    have fin : PairEnd B env.locals I (ownOf B fp h₅) (J (i + 1)) (fun h t => { s₂ with heap := h, toks := t }) s₃ →
        ∃ m, m < n + 1 - i ∧ PairLoop B env I St J n s₂ m s₃ := by
      rintro ⟨h₇, tk₆, m₂, news₂, rfl, F₆, N₆, hn₆, hJ₆⟩
      refine ⟨n + 1 - (i + 1), by (first | lia | omega), h₇, tk₆, m₂, news₂, i + 1, rfl, ?_, F₆, N₆.right, hn₆, hJ₆, hlt, rfl⟩
      refine W.frame _ _ _ hst₅ fun b hb o e => ?_
      cases hn : B.get? b with
      | some o₀ =>
        have : o₀ = o := by have q := F₅.keep b o₀ hn; rw [e] at q; exact (Option.some.inj q).symm
        exact this ▸ F₆.keep b o₀ hn
      | none => exact (N₆ _ (List.mem_append_left _ (mem_ownOf hb hn e))).1
    cases f with
    | ret v => exact h₆
    | brk => exact h₆
    | cont => exact fin h₆
    | next => exact fin h₆
  · have hin : i = n := by (first | lia | omega)
    subst hin
    refine W.done _ _ _ hst' fun h₁ tk₁ hk₁ => wpAny_execs_nil ?_
    obtain ⟨F₁, N₁⟩ := next h₁ hk₁
    exact done h₁ tk₁ m' news' F₁ N₁ hJ

/- a for over a list of pairs, whose turns make new objects -/
theorem for_pairs {la : Addr} {lv : Array Value} {lc : Nat} {T : Nat → Addr} {a b : Nat → Value} {m : Str → Option Value} {news : List (Addr × Obj)} (J : Nat → (Str → Option Value) → List (Addr × Obj) → Prop) (hh : A.handled = none)
    (F : Fr B env.locals s.heap m) (N : News B env.locals s.heap news) (hl : (la, listOf lv lc) ∈ news) (hT : ∀ j, j < lv.size → lv[j]? = some (.ref (T j)) ∧ (T j, ({ cls := .type "tuple", data := .seq #[a j, b j] } : Obj)) ∈ news) (h0 : J 0 m news)
    (turn : ∀ i m₁ news₁ I own o h tk, i < lv.size → J i m₁ news₁ → (∀ p ∈ news₁, p.1 ≠ I) → (I, o) ∈ own →
      Fr B env.locals h (fun y => if y = xc then some (b i) else if y = xi then some (a i) else m₁ y) → News B env.locals h (own ++ news₁) →
      wpAny (model prog w) A (execs body env) (PairTurn B env I own (J (i + 1)) Q { s with heap := h, toks := tk }) E { s with heap := h, toks := tk })
    (done : ∀ h' tk m' news', Fr B env.locals h' m' → News B env.locals h' news' → J lv.size m' news' → Q .next { s with heap := h', toks := tk }) :
    wpAny (model prog w) A (pyIter (.ref la)) (fun it s₂ => PairAtU prog w A B env xi xc body Q E it s₂) E s := by
  have hL : s.heap.IsList la lv := News.isList N hl
  have lt : ∀ p ∈ news, p.1 ≠ s.heap.objs.size := fun p hp => Nat.ne_of_lt (Heap.lt_size (N p hp).1)
  refine wpAny_pyIter_list hL ?_
  refine ⟨s.heap.objs.size, _, lv.size, a, b, _, _, m, news, J, rfl, WalksU.listOfTuples hh s.heap.objs.size la (lt _ hl) lv T (fun j => #[a j, b j]) (fun j hj => (hT j hj).1) (fun j hj => lt _ (hT j hj).2), ?_, next_is_new F, lt, ?_, ?_, F.push _, fun p hp => ⟨Heap.get?_push_of_some _ (N p hp).1, (N p hp).2⟩, h0, ?_, done⟩
  · intro hm
    rcases List.mem_cons.mp hm with e | hm
    · exact absurd F.ns.lt (e ▸ Nat.lt_irrefl _)
    rcases List.mem_cons.mp hm with e | hm
    · exact (N _ hl).2.1 e.symm
    · obtain ⟨j, hj, e⟩ := List.mem_map.mp hm
      exact (N _ (hT j (List.mem_range.mp hj)).2).2.1 e
  · rintro j h ⟨⟨o, ho, _⟩, _⟩
    exact ⟨o, ho⟩
  · refine ⟨⟨_, Heap.get?_push_size _ rfl, rfl, rfl⟩, hL.push _, fun k hk => ?_⟩
    exact (News.isTup N (hT k hk).2).push _
  · intro i m₁ news₁ own o h tk hi hJ hoff _ hIo F₁ N₁
    exact turn i m₁ news₁ s.heap.objs.size own o h tk hi hJ hoff hIo F₁ N₁
end
end

section
open PySem PySem.W PySem.Calls PySem.Spec PyProof.Rows
local macro_rules | `(tactic| walk_at "compareOp Eq ref ref") => `(tactic| (k_here; with_unfolding_all refine eq_nilI (by k_asm) (by k_mem) (by walk_at "r") (by k_mem) (by walk_at "r") (by walk_at "r") ?_))
local macro_rules | `(tactic| walk_at "compareOp In str ref") => `(tactic| (k_here; (with_reducible show wpAny _ _ (compareOp _ (Value.str (S _) _) _) _ _ _); with_unfolding_all refine in_S (by k_asm) (by k_mem) (by (repeat constructor); done) (by first | exact any_red _ | exact any_all _ | exact any_op _) ?_))
local macro_rules | `(tactic| walk_at "subscriptTail Name Constant ref int") => `(tactic| (k_here; with_unfolding_all refine item_I (by k_asm) (by k_mem) (by walk_at "r") (by rfl) (by first | walk_at "r" | rfl) (by walk_at "z") (fun _ => ?_) (by rfl) (fun _ => by rfl)))
local macro_rules | `(tactic| walk_at "ifx") => `(tactic| with_reducible show wpAny _ _ (exec (Stmt.Assign _ (PySem.Expr.IfExp _ _ _ _) _) _) _ _ _)
local macro_rules | `(tactic| walk_at "exec Assign") => `(tactic| (k_here; walk_at "ifx"; (fail_if_success (have : GoOn2 := by walk_at "r")); refine stop_here ?_))
local macro_rules | `(tactic| walk_at "exec For") => `(tactic| (k_here; refine stop_here ?_))
local macro_rules | `(tactic| walk_at "exec Assign cons ListComp") => `(tactic| (k_here; refine stop_here ?_))
local macro_rules | `(tactic| walk_at "CompSrcT") => `(tactic| (k_here; refine stop_here ?_))
local macro_rules | `(tactic| walk_at "CompEnd") => `(tactic| (refine stop_here ?_))
local macro_rules | `(tactic| walk_at "exec If") => `(tactic| (k_here; walk_at "go"; refine stop_here ?_))
variable {w : World} {mean : ExcName → Option Value} {mg mb : Str → Option Value} {B : Heap} {A : Around} {l : List Env} {s : Shared}

noncomputable def onMap (v1 v2 v3 v4 v5 v6 v7 v8 : Option Value) : Str → Option Value := fun y => if y = Str.ofString "terms" then v1 else if y = Str.ofString "leads" then v2 else if y = Str.ofString "rest" then v3 else if y = Str.ofString "block" then v4 else if y = Str.ofString "close" then v5 else if y = Str.ofString "shape" then v6 else if y = Str.ofString "sign" then v7 else if y = Str.ofString "path" then v8 else none
theorem onMap_terms {v1 : Option Value} {v2 : Option Value} {v3 : Option Value} {v4 : Option Value} {v5 : Option Value} {v6 : Option Value} {v7 : Option Value} {v8 : Option Value} {z : Option Value} {y : Str} : (if y = Str.ofString "terms" then z else onMap v1 v2 v3 v4 v5 v6 v7 v8 y) = onMap z v2 v3 v4 v5 v6 v7 v8 y := by
  by_cases q : y = Str.ofString "terms"
  · subst q; rfl
  · rw [if_neg q]; unfold onMap; simp only [if_neg q]
theorem onMap_leads {v1 : Option Value} {v2 : Option Value} {v3 : Option Value} {v4 : Option Value} {v5 : Option Value} {v6 : Option Value} {v7 : Option Value} {v8 : Option Value} {z : Option Value} {y : Str} : (if y = Str.ofString "leads" then z else onMap v1 v2 v3 v4 v5 v6 v7 v8 y) = onMap v1 z v3 v4 v5 v6 v7 v8 y := by
  by_cases q : y = Str.ofString "leads"
  · subst q; rfl
  · rw [if_neg q]; unfold onMap; simp only [if_neg q]
theorem onMap_rest {v1 : Option Value} {v2 : Option Value} {v3 : Option Value} {v4 : Option Value} {v5 : Option Value} {v6 : Option Value} {v7 : Option Value} {v8 : Option Value} {z : Option Value} {y : Str} : (if y = Str.ofString "rest" then z else onMap v1 v2 v3 v4 v5 v6 v7 v8 y) = onMap v1 v2 z v4 v5 v6 v7 v8 y := by
  by_cases q : y = Str.ofString "rest"
  · subst q; rfl
  · rw [if_neg q]; unfold onMap; simp only [if_neg q]
theorem onMap_block {v1 : Option Value} {v2 : Option Value} {v3 : Option Value} {v4 : Option Value} {v5 : Option Value} {v6 : Option Value} {v7 : Option Value} {v8 : Option Value} {z : Option Value} {y : Str} : (if y = Str.ofString "block" then z else onMap v1 v2 v3 v4 v5 v6 v7 v8 y) = onMap v1 v2 v3 z v5 v6 v7 v8 y := by
  by_cases q : y = Str.ofString "block"
  · subst q; rfl
  · rw [if_neg q]; unfold onMap; simp only [if_neg q]
theorem onMap_close {v1 : Option Value} {v2 : Option Value} {v3 : Option Value} {v4 : Option Value} {v5 : Option Value} {v6 : Option Value} {v7 : Option Value} {v8 : Option Value} {z : Option Value} {y : Str} : (if y = Str.ofString "close" then z else onMap v1 v2 v3 v4 v5 v6 v7 v8 y) = onMap v1 v2 v3 v4 z v6 v7 v8 y := by
  by_cases q : y = Str.ofString "close"
  · subst q; rfl
  · rw [if_neg q]; unfold onMap; simp only [if_neg q]
theorem onMap_shape {v1 : Option Value} {v2 : Option Value} {v3 : Option Value} {v4 : Option Value} {v5 : Option Value} {v6 : Option Value} {v7 : Option Value} {v8 : Option Value} {z : Option Value} {y : Str} : (if y = Str.ofString "shape" then z else onMap v1 v2 v3 v4 v5 v6 v7 v8 y) = onMap v1 v2 v3 v4 v5 z v7 v8 y := by
  by_cases q : y = Str.ofString "shape"
  · subst q; rfl
  · rw [if_neg q]; unfold onMap; simp only [if_neg q]
theorem onMap_sign {v1 : Option Value} {v2 : Option Value} {v3 : Option Value} {v4 : Option Value} {v5 : Option Value} {v6 : Option Value} {v7 : Option Value} {v8 : Option Value} {z : Option Value} {y : Str} : (if y = Str.ofString "sign" then z else onMap v1 v2 v3 v4 v5 v6 v7 v8 y) = onMap v1 v2 v3 v4 v5 v6 z v8 y := by
  by_cases q : y = Str.ofString "sign"
  · subst q; rfl
  · rw [if_neg q]; unfold onMap; simp only [if_neg q]
theorem onMap_path {v1 : Option Value} {v2 : Option Value} {v3 : Option Value} {v4 : Option Value} {v5 : Option Value} {v6 : Option Value} {v7 : Option Value} {v8 : Option Value} {z : Option Value} {y : Str} : (if y = Str.ofString "path" then z else onMap v1 v2 v3 v4 v5 v6 v7 v8 y) = onMap v1 v2 v3 v4 v5 v6 v7 z y := by
  by_cases q : y = Str.ofString "path"
  · subst q; rfl
  · rw [if_neg q]; unfold onMap; simp only [if_neg q]

noncomputable def BlockV (B : Heap) (l : List Env) (h₀ : Heap) (rest : List (Addr × Obj)) (bv : Value) : Option Tree → Prop
  | none => bv = .none
  | some b => ShIn (InF B l h₀ rest) bv b
noncomputable def closeAt (ts : List Tk) (i : Nat) : Bool := decide (ts[i]? = some [41]) && decide (lCut [] 0 0 ((ts.take i).drop 1) = .no)
theorem closes_succ (ts : List Tk) (i : Nat) : (List.range (i + 1)).filter (closeAt ts) = (List.range i).filter (closeAt ts) ++ (if closeAt ts i then [i] else []) := by
  rw [List.range_succ, List.filter_append]
  congr 1
  cases h : closeAt ts i <;> simp [h]

/- the redirections that the law's list holds -/
inductive LeadsIn (rest : List (Addr × Obj)) : List Value → Rd → Prop
  | nil : LeadsIn rest [] []
  | cons {x : Addr} {k : Nat} {p : Tk} {t1 t2 : Tok} {vs : List Value} {rd : Rd} : (x, tupO #[.str (S (sgn k)) t1, .str (S p) t2]) ∈ rest → LeadsIn rest vs rd → LeadsIn rest (.ref x :: vs) ((k, p) :: rd)
theorem LeadsIn.mono {rest rest' : List (Addr × Obj)} (hs : ∀ p ∈ rest, p ∈ rest') {vs : List Value} {rd : Rd} (h : LeadsIn rest vs rd) : LeadsIn rest' vs rd := by
  induction h with
  | nil => exact .nil
  | cons a _ ih => exact .cons (hs _ a) ih
theorem LeadsIn.snoc {rest : List (Addr × Obj)} {vs : List Value} {rd : Rd} (h : LeadsIn rest vs rd) {x : Addr} {k : Nat} {p : Tk} {t1 t2 : Tok} (hx : (x, tupO #[.str (S (sgn k)) t1, .str (S p) t2]) ∈ rest) : LeadsIn rest (vs ++ [.ref x]) (rd ++ [(k, p)]) := by
  induction h with
  | nil => exact .cons hx .nil
  | cons a _ ih => exact .cons a ih
theorem LeadsIn.length {rest : List (Addr × Obj)} {vs : List Value} {rd : Rd} (h : LeadsIn rest vs rd) : vs.length = rd.length := by
  induction h with
  | nil => rfl
  | cons _ _ ih => simp [ih]
theorem LeadsIn.size {rest : List (Addr × Obj)} {lv : Array Value} {rd : Rd} (h : LeadsIn rest lv.toList rd) : lv.size = rd.length := by
  have := h.length
  rwa [Array.length_toList] at this
theorem oHead_sub {n : Nat} {ts rts : List Tk} {bt : Option Tree} (h : oHead n ts = some (bt, rts)) : rts.length ≤ ts.length ∧ ∀ k ∈ rts, k ∈ ts := by
  unfold oHead at h
  by_cases q : ts.head? = some [40]
  · rw [if_pos q] at h
    cases hc : closes ts with
    | nil => rw [hc] at h; cases h
    | cons c cs =>
      rw [hc] at h
      dsimp only at h
      cases q2 : lLine n ((ts.take c).drop 1) with
      | none => rw [q2] at h; cases h
      | some b =>
        rw [q2] at h
        cases h
        exact ⟨by rw [List.length_drop]; (first | lia | omega), fun k hk => List.mem_of_mem_drop hk⟩
  · rw [if_neg q] at h
    cases h
    exact ⟨Nat.le_refl _, fun _ h => h⟩
theorem LeadsIn.get {rest : List (Addr × Obj)} {vs : List Value} {rd : Rd} (h : LeadsIn rest vs rd) : ∃ (T : Nat → Addr) (a b : Nat → Value), ∀ j, j < vs.length → vs[j]? = some (.ref (T j)) ∧ (T j, tupO #[a j, b j]) ∈ rest ∧ ∃ k p t1 t2, rd[j]? = some (k, p) ∧ a j = .str (S (sgn k)) t1 ∧ b j = .str (S p) t2 := by
  induction h with
  | nil => exact ⟨fun _ => 0, fun _ => .none, fun _ => .none, fun j hj => by simp at hj⟩
  | @cons x k p t1 t2 vs rd hm _ ih =>
    obtain ⟨T, a, b, ih⟩ := ih
    refine ⟨fun j => match j with | 0 => x | j + 1 => T j, fun j => match j with | 0 => .str (S (sgn k)) t1 | j + 1 => a j, fun j => match j with | 0 => .str (S p) t2 | j + 1 => b j, fun j hj => ?_⟩
    cases j with
    | zero => exact ⟨rfl, hm, k, p, t1, t2, rfl, rfl, rfl⟩
    | succ j => exact ih j (by simpa using hj)
theorem BlockV.mono {h₀ : Heap} {rest rest' : List (Addr × Obj)} {bv : Value} {bt : Option Tree} (h : BlockV B l h₀ rest bv bt) (hs : ∀ p ∈ rest, p ∈ rest') : BlockV B l h₀ rest' bv bt := by
  cases bt with
  | none => exact h
  | some b => exact ShIn.mono (inF_sub hs) h
theorem sgn_kd {k : Tk} (h : isRedM k = true) : sgn (kd k) = k := by
  unfold isRedM at h
  simp only [Bool.or_eq_true, decide_eq_true_eq] at h
  rcases h with (e | e) | e <;> rw [e] <;> rfl
theorem xl2 {h : Heap} {L ta la : Addr} {o1 o2 : Obj} {led : List (Addr × Obj)} (N : News B L h led) (h1 : (ta, o1) ∈ led) (h2 : (la, o2) ∈ led) : ∀ a ∈ [ta, la], h.get? a ≠ none := fun a hm => by
  rcases List.mem_cons.mp hm with rfl | hm
  · rw [(N _ h1).1]; exact fun q => nomatch q
  · rw [List.mem_singleton.mp hm, (N _ h2).1]; exact fun q => nomatch q
inductive OnHead (s : Shared) (B : Heap) (L : Addr) (co : Obj) (al : Addr) (vs : Array Value) (c : Nat) (l : List Env) (n : Nat) (ts : List Tk) (f : Flow) (s₁ : Shared) : Prop
  | mk : ∀ hh tkk rl rv rc rts bv ta la cv bt rest, (f = .next) → (s₁ = { s with heap := hh, toks := tkk }) → (Fr B L hh (onMap (some (.ref ta)) (some (.ref la)) (some (.ref rl)) (some bv) cv none none none)) → (News B L hh ((ta, listOf #[] 0) :: (la, listOf #[] 0) :: (L + 1, co) :: (al, listOf vs c) :: (rl, listOf rv rc) :: rest)) → ((∀ p ∈ others B s.heap [], p ∈ rest)) → (Free B l rl) → (Free B l ta) → (Free B l la) → (s.heap.get? ta = none) → (ta ≠ la) → (ta ≠ L + 1) → (la ≠ L + 1) → (ta ≠ rl) → (la ≠ rl) → (ta ≠ al) → (la ≠ al) → ((∀ p ∈ rest, p.1 ∉ [ta, la])) → (StrsI rv.toList rts) → (oHead n ts = some (bt, rts)) → (BlockV B l s.heap rest bv bt) → OnHead s B L co al vs c l n ts f s₁
inductive OnRest (ts : List Tk) (rts : List Tk) (s : Shared) (B : Heap) (L : Addr) (ta : Addr) (la : Addr) (bv : Value) (cv : Option Value) (co : Obj) (al : Addr) (vs : Array Value) (c : Nat) (l : List Env) (bt : Option Tree) (f : Flow) (s₁ : Shared) : Prop
  | mk : ∀ hh tkk rl rv rc tv tc lv lc cur a rd n' rest, (f = .next) → (lRest (decide (ts.head? = some [40])) ts.length [] [] rts = some (a, rd)) → (s₁ = { s with heap := hh, toks := tkk }) → (Fr B L hh (onMap (some (.ref ta)) (some (.ref la)) (some (.ref rl)) (some bv) cv none none none)) → (News B L hh ((ta, listOf tv tc) :: (la, listOf lv lc) :: (L + 1, co) :: (al, listOf vs c) :: (rl, listOf rv rc) :: rest)) → ((∀ p ∈ others B s.heap [], p ∈ rest)) → ((∀ p ∈ rest, p.1 ∉ [ta, la])) → (ta ≠ rl) → (la ≠ rl) → (Free B l rl) → (StrsI rv.toList cur) → (StrsI tv.toList a) → (LeadsIn rest lv.toList rd) → (BlockV B l s.heap rest bv bt) → (lRest (decide (ts.head? = some [40])) n' a rd cur = lRest (decide (ts.head? = some [40])) ts.length [] [] rts) → (cur.length ≤ n') → (a.length + rd.length + cur.length ≤ ts.length) → (okTs cur) → OnRest ts rts s B L ta la bv cv co al vs c l bt f s₁
inductive OnShape (s : Shared) (B : Heap) (L : Addr) (ta : Addr) (la : Addr) (rl : Addr) (bv : Value) (cv : Option Value) (tv : Array Value) (tc : Nat) (lv : Array Value) (lc : Nat) (co : Obj) (al : Addr) (vs : Array Value) (c : Nat) (rd : Rd) (l : List Env) (bt : Option Tree) (a : List Tk) (f : Flow) (s₁ : Shared) : Prop
  | mk : (f = .next) → ∀ hh tkk sv rest', (s₁ = { s with heap := hh, toks := tkk }) → (Fr B L hh (onMap (some (.ref ta)) (some (.ref la)) (some (.ref rl)) (some bv) cv (some sv) none none)) → (News B L hh ((ta, listOf tv tc) :: (la, listOf lv lc) :: (L + 1, co) :: (al, listOf vs c) :: rest')) → ((∀ p ∈ others B s.heap [], p ∈ rest')) → (LeadsIn rest' lv.toList rd) → (ShIn (InF B l s.heap ((ta, listOf tv tc) :: rest')) sv (bt.getD (.run a))) → OnShape s B L ta la rl bv cv tv tc lv lc co al vs c rd l bt a f s₁
inductive OnNo1 (s : Shared) (n : Nat) (ts : List Tk) (f : Flow) (s₁ : Shared) : Prop
  | mk : ∀ v hh tkk, (f = .ret v) → (s₁ = { s with heap := hh, toks := tkk }) → (Step [] s.heap hh) → (v = .none) → (oHead n ts = none) → OnNo1 s n ts f s₁
inductive OnNo2 (s : Shared) (ts : List Tk) (rts : List Tk) (f : Flow) (s₁ : Shared) : Prop
  | mk : ∀ v hh tkk, (f = .ret v) → (s₁ = { s with heap := hh, toks := tkk }) → (Step [] s.heap hh) → (v = .none) → (lRest (decide (ts.head? = some [40])) ts.length [] [] rts = none) → OnNo2 s ts rts f s₁
inductive OnLoop (s : Shared) (B : Heap) (L : Addr) (ta : Addr) (la : Addr) (bv : Value) (cv : Option Value) (co : Obj) (al : Addr) (vs : Array Value) (c : Nat) (l : List Env) (bt : Option Tree) (ts : List Tk) (rts : List Tk) (m : Nat) (s₁ : Shared) : Prop
  | mk : ∀ hh tkk rl rv rc tv tc lv lc cur a rd n' rest, (m = cur.length) → (s₁ = { s with heap := hh, toks := tkk }) → (Fr B L hh (onMap (some (.ref ta)) (some (.ref la)) (some (.ref rl)) (some bv) cv none none none)) → (News B L hh ((ta, listOf tv tc) :: (la, listOf lv lc) :: (L + 1, co) :: (al, listOf vs c) :: (rl, listOf rv rc) :: rest)) → ((∀ p ∈ others B s.heap [], p ∈ rest)) → ((∀ p ∈ rest, p.1 ∉ [ta, la])) → (ta ≠ rl) → (la ≠ rl) → (Free B l rl) → (StrsI rv.toList cur) → (StrsI tv.toList a) → (LeadsIn rest lv.toList rd) → (BlockV B l s.heap rest bv bt) → (lRest (decide (ts.head? = some [40])) n' a rd cur = lRest (decide (ts.head? = some [40])) ts.length [] [] rts) → (cur.length ≤ n') → (a.length + rd.length + cur.length ≤ ts.length) → (okTs cur) → OnLoop s B L ta la bv cv co al vs c l bt ts rts m s₁
inductive OnComp (ta : Addr) (la : Addr) (L : Addr) (co : Obj) (al : Addr) (vs : Array Value) (c : Nat) (B : Heap) (s : Shared) (ts : List Tk) (i : Nat) (ys : List Value) (news : List (Addr × Obj)) : Prop
  | mk : ∀ rest, (news = (ta, listOf #[] 0) :: (la, listOf #[] 0) :: (L + 1, co) :: (al, listOf vs c) :: rest) → ((∀ p ∈ others B s.heap [], p ∈ rest)) → ((∀ p ∈ rest, p.1 ∉ [ta, la])) → (IntsAre ys (((List.range i).filter (closeAt ts)).map fun i : Nat => (i : Int))) → OnComp ta la L co al vs c B s ts i ys news
inductive OnTurn (ta : Addr) (la : Addr) (rl : Addr) (bv : Value) (cv : Option Value) (tv : Array Value) (tc : Nat) (lv : Array Value) (lc : Nat) (L : Addr) (co : Obj) (al : Addr) (vs : Array Value) (c : Nat) (B : Heap) (s : Shared) (l : List Env) (bt : Option Tree) (a : List Tk) (rd : Rd) (i : Nat) (m₁ : Str → Option Value) (news₁ : List (Addr × Obj)) : Prop
  | mk : ∀ sv sg pt rest', (m₁ = onMap (some (.ref ta)) (some (.ref la)) (some (.ref rl)) (some bv) cv (some sv) sg pt) → (news₁ = (ta, listOf tv tc) :: (la, listOf lv lc) :: (L + 1, co) :: (al, listOf vs c) :: rest') → ((∀ p ∈ others B s.heap [], p ∈ rest')) → (ShIn (InF B l s.heap ((ta, listOf tv tc) :: rest')) sv (appR (bt.getD (.run a)) (rd.take i))) → OnTurn ta la rl bv cv tv tc lv lc L co al vs c B s l bt a rd i m₁ news₁
theorem one_stepL {n : Nat} (line : ReadL w mean mg mb B 318 n 3 (lLine n)) : ReadL w mean mg mb B 330 (n + 1) 1 (lOne (n + 1)) := by
  intro A l s al c vs ts am rm ha hvs hok hlen hn
  have T := am.top
  have X := am.inK
  have hvz : vs.size ≤ 5000 := by rw [hvs.size]; exact hlen
  have hvb : vs.size ≤ 10000 := Nat.le_trans hvz (by decide)
  refine call_okC (by k_is) (by k_is) am rm.ok (binds := [("marks", .ref al)]) (BindsTo.of_eq rfl) (fun n => ⟨.inr ⟨rfl, rfl⟩, trivial⟩) (by decide) ((al, listOf vs c) :: others B s.heap []) ?_ ?_
  · refine all_cons ?_ ?_
    · exact ⟨ha.1, ha.2.base⟩
    · exact fun p hp => others_here p hp
  intro L h₁ tk₁ cells R eL F N hcl am' _ hR
  obtain ⟨co, rfl, hco⟩ := CellsAre.one hcl
  have hco : co.data = .cell (some (.ref al)) := hco
  have N : News B L h₁ ((L + 1, co) :: (al, listOf vs c) :: others B s.heap []) := N
  have F : Fr B L h₁ (onMap none none none none none none none none) := fr_congr F fun y => by
    unfold onMap
    simp only [ite_self]
    rfl
  have hsub : ∀ p ∈ others B s.heap [], p ∈ others B s.heap [] := fun _ h => h
  have hu := units_of am' (u := 36) (rm.less (d' := 1) (u' := 103) (by first | (simp +arith only; done) | lia | omega) (by first | (simp +arith only; done) | lia | omega)).deeper
  w_strict (k_steps)
  rename_i ta h2 l1 la h3 l2 D h4 l3 h5 h6 h7 h8 h9 F9 N9
  have n1 : ta ≠ la := Nat.ne_of_lt l2.1
  have n2 : ta ≠ L + 1 := Nat.ne_of_gt l1.1
  have n3 : la ≠ L + 1 := Nat.ne_of_gt l2.2.1
  have n4 : ta ≠ al := Nat.ne_of_gt l1.2.1
  have n5 : la ≠ al := Nat.ne_of_gt l2.2.2.1
  have hn1 : s.heap.get? ta = none := fresh0 (fun p hp => allLt_mem l1.2.2 p hp) (N9 _ (.tail _ (.tail _ (.head _)))).2.2
  have hn2 : s.heap.get? la = none := fresh0 (fun p hp => allLt_mem l2.2.2.2 p hp) (N9 _ (.tail _ (.head _))).2.2
  have hft : Free B l ta := am.free hn1
  have hfla : Free B l la := am.free hn2
  have hX : ∀ p ∈ others B s.heap [], p.1 ∉ [ta, la] := fun p hp hm => by
    have q := (others_here p hp).1
    rcases List.mem_cons.mp hm with e | hm
    · rw [e, hn1] at q; cases q
    · rw [List.mem_singleton.mp hm, hn2] at q; cases q
  show wpAny _ _ _ _ _ _
  refine wpAny_mono (Q := fun f s₁ => Halt ((OnHead s B L co al vs c l n ts f s₁) ∨
    (OnNo1 s n ts f s₁))) ?_ ?_ (fun _ _ e => e)
  · have go : GoOn := .mk
    by_cases hp : ts.head? = some [40]
    · obtain ⟨r, hts⟩ : ∃ r, ts = [40] :: r := by
        cases ts with
        | nil => cases hp
        | cons k r => cases hp; exact ⟨r, rfl⟩
      have hd0 : decide (ts = []) = false := decide_eq_false (by rw [hts]; exact fun q => nomatch q)
      have hk : ts[0]? = some [40] := by rw [hts]; rfl
      have hq : (S [40] == Str.ofString "(") = true := by decide +kernel
      w_strict (k_steps)
      rename Fr _ _ _ _ => F
      rename News _ _ _ _ => N
      show wpAny _ _ _ _ _ _
      refine LCt.Assign_ListComp_T (F₀ := F) (by rfl) (by with_unfolding_all rfl) (by with_unfolding_all rfl) (by decide) (by rfl) (by decide) (by rfl) (by rfl) (by rfl) ?_
      w_strict (k_steps)
      rename Fr _ _ _ _ => F5
      rename News _ _ _ _ => N5
      rename IsRange _ _ _ _ _ _ _ _ => hrg
      show LCt.CompSrcT _ _ _ _ _ _ _ _ _ _ _ _ _ _ _
      refine LCt.CompSrcT.range (n := ts.length) (news := (ta, listOf #[] 0) :: (la, listOf #[] 0) :: (L + 1, co) :: (al, listOf vs c) :: others B s.heap []) am'.hand F5 (news_sub N5 (fun p hp => by repeat (first | exact hp | (rcases List.mem_cons.mp hp with rfl | hp; (first | exact .head _ | exact .tail _ (.head _) | exact .tail _ (.tail _ (.head _)) | exact .tail _ (.tail _ (.tail _ (.head _))) | exact .tail _ (.tail _ (.tail _ (.tail _ (.head _)))) | exact .tail _ (.tail _ (.tail _ (.tail _ (.tail _ (.head _))))))) | apply List.Mem.tail))) hrg (small_one (by first | (simp +arith only; done) | lia | omega) (by first | (simp +arith only; done) | lia | omega) (by first | (simp +arith only; done) | lia | omega) (by first | (simp +arith only; done) | lia | omega)) (by rw [hvs.size]; exact rangeSize_nat _ _) (by rw [PySem.sizeLine_eq]; (first | lia | omega)) ?_
      intro g
      refine rest_ind ts.length (OnComp ta la L co al vs c B s ts) ?_ ?_ _ 0 [] _ (by first | (simp +arith only; done) | lia | omega) ⟨_, rfl, hsub, hX, .nil⟩
      · clear F5 N5 hrg
        rintro i ys news hi ⟨rest, rfl, hsub, hXr, hys⟩ v I oI C oC D m₂ h tk E' ⟨t, rfl⟩ hC hx F N off ne
        rw [Int.zero_add] at hx
        have offm := off.mem
        obtain ⟨ne1, ne2, ne3⟩ := ne
        obtain ⟨k, hk⟩ : ∃ k, ts[i]? = some k := ⟨ts[i], List.getElem?_eq_getElem hi⟩
        by_cases hk41 : k = [41]
        · have hq : (S k == Str.ofString ")") = true := (S_beq k _ _ close_S).trans (decide_eq_true hk41)
          have hcd : (ts.take i).drop 1 = (ts.drop 1).take (i - 1) := List.drop_take ..
          have hX3 : ∀ p ∈ rest, p.1 ∉ [I, C, D, ta, la] := fun p hp hm => by
            have q := offm p (.tail _ (.tail _ (.tail _ (.tail _ hp))))
            rcases List.mem_cons.mp hm with e | hm
            · exact q.1 e
            rcases List.mem_cons.mp hm with e | hm
            · exact q.2.1 e
            rcases List.mem_cons.mp hm with e | hm
            · exact q.2.2 e
            exact hXr p hp hm
          w_strict (k_steps)
          rename Fr _ _ _ _ => F9
          rename News _ _ _ _ => N9
          rename StrsI _ _ => hS
          rename (∀ p : Addr × Obj, p ∈ _ → p.1 < _) => l0
          rename Array.size _ ≤ _ => hZ
          show wpAny _ _ _ _ _ _
          rw [nil_S]
          refine Gives.use (cut_spec (amb_now (W := []) am F9 N9 (fun p hp => by repeat (first | exact hsub p hp | apply List.Mem.tail)) noW (by rfl) (by rfl)) (rm.deeper.less (by first | (simp +arith only; done) | lia | omega) (by first | (simp +arith only; done) | lia | omega)) ⟨(N9 _ (.head _)).1, (free_new am (fun p hp => by repeat (first | exact hsub p hp | apply List.Mem.tail)) l0 (N9 _ (.head _)).2.2).push (N9 _ (.head _)).2.1 (by rfl)⟩ hS (by first | (simp +arith only; done) | lia | omega)) ?_
          rintro cv hN tkN ⟨hcv, st⟩
          obtain ⟨FN, restN, NN, hsN, hXN, _⟩ := after_keepX [I, C, D, ta, la] [_, (I, oI), (C, oC), (D, LCg.lst ys), (ta, listOf #[] 0), (la, listOf #[] 0), (L + 1, co), (al, listOf vs c)] F9 N9 hX3 st
          have NN : News B L hN (_ :: (I, oI) :: (C, oC) :: (D, LCg.lst ys) :: (ta, listOf #[] 0) :: (la, listOf #[] 0) :: (L + 1, co) :: (al, listOf vs c) :: restN) := NN
          have NN := news_sub NN (fun p hp => List.mem_cons_of_mem _ hp)
          have hsubN : ∀ p ∈ others B s.heap [], p ∈ restN := fun p hp => hsN _ (hsub _ hp)
          have offN : LCg.Off3 I C D ((ta, listOf #[] 0) :: (la, listOf #[] 0) :: (L + 1, co) :: (al, listOf vs c) :: restN) := LCg.Off3.of fun p hp => by
            rcases List.mem_cons.mp hp with rfl | hp
            · exact offm _ (.head _)
            rcases List.mem_cons.mp hp with rfl | hp
            · exact offm _ (.tail _ (.head _))
            rcases List.mem_cons.mp hp with rfl | hp
            · exact offm _ (.tail _ (.tail _ (.head _)))
            rcases List.mem_cons.mp hp with rfl | hp
            · exact offm _ (.tail _ (.tail _ (.tail _ (.head _))))
            · have q := hXN p hp
              exact ⟨fun e => q (e ▸ .head _), fun e => q (e ▸ .tail _ (.head _)), fun e => q (e ▸ .tail _ (.tail _ (.head _)))⟩
          have hXNr : ∀ p ∈ restN, p.1 ∉ [ta, la] := fun p hp hm => hXN p hp (.tail _ (.tail _ (.tail _ hm)))
          clear F9 N9 st hS l0 hZ hsub hX3 hXr off
          (try dsimp only)
          generalize hr : lCut [] 0 0 ((ts.drop 1).take (i - 1)) = r at hcv
          have hcl0 : closeAt ts i = decide (r = .no) := by
            unfold closeAt
            rw [hk, hk41, hcd, hr, decide_eq_true rfl, Bool.true_and]
          cases r with
          | bad =>
            obtain ⟨tb, rfl⟩ := hcv
            w_strict (k_steps)
            rename Fr _ _ _ _ => F9
            rename News _ _ _ _ => N9
            exact ⟨_, _, _, rfl, F9, N9, offN, trivial, restN, rfl, hsubN, hXNr, by rw [closes_succ, hcl0]; simpa using hys⟩
          | no =>
            have e : cv = .none := hcv
            subst e
            w_strict (k_steps)
            rename Fr _ _ _ _ => F9
            rename News _ _ _ _ => N9
            exact ⟨_, _, _, rfl, F9, N9, offN, trivial, restN, rfl, hsubN, hXNr, by rw [closes_succ, hcl0, List.map_append]; exact IntsAre.append hys (.cons _ _ .nil)⟩
          | «at» j =>
            obtain ⟨tb, rfl⟩ := hcv
            w_strict (k_steps)
            rename Fr _ _ _ _ => F9
            rename News _ _ _ _ => N9
            exact ⟨_, _, _, rfl, F9, N9, offN, trivial, restN, rfl, hsubN, hXNr, by rw [closes_succ, hcl0]; simpa using hys⟩
        · have hq : (S k == Str.ofString ")") = false := (S_beq k _ _ close_S).trans (decide_eq_false hk41)
          have hcl0 : closeAt ts i = false := by
            unfold closeAt
            rw [hk, decide_eq_false (fun e => hk41 (Option.some.inj e))]
            rfl
          w_strict (k_steps)
          rename Fr _ _ _ _ => F9
          rename News _ _ _ _ => N9
          exact ⟨_, _, _, rfl, F9, N9, off, trivial, rest, rfl, hsub, hXr, by rw [closes_succ, hcl0]; simpa using hys⟩
      · intro ys news ⟨rest, e, hsub, hXr, hys⟩
        subst e
        intro D h tk F N off
        have hys : IntsAre ys ((closes ts).map fun i : Nat => (i : Int)) := hys
        show wpAny _ _ _ _ _ _
        cases hc : closes ts with
        | nil =>
          rw [hc] at hys
          have hd0 : decide ((([] : List Nat).map fun i : Nat => (i : Int)) = []) = true := rfl
          w_strict (k_steps)
          rename Fr _ _ _ _ => F9
          rename News _ _ _ _ => N9
          refine Halt.mk (Or.inr ⟨_, _, _, rfl, rfl, step_of F9 N9 am.stays (fun p hp => by repeat (first | exact hsub p hp | apply List.Mem.tail)), rfl, ?_⟩)
          unfold oHead
          rw [if_pos hp, hc]
        | cons cc cs =>
          have hoH : oHead n ts = (lLine n ((ts.drop 1).take (cc - 1))).map fun b => (some b, ts.drop (cc + 1)) := by
            unfold oHead
            rw [if_pos hp, hc, ← List.drop_take]
          rw [hc] at hys
          have hd0 : decide (((cc :: cs).map fun i : Nat => (i : Int)) = []) = false := rfl
          have hk0 : ((cc :: cs).map fun i : Nat => (i : Int))[0]? = some (cc : Int) := rfl
          have hd2 : (cc :: cs).length ≤ ts.length := by rw [← hc]; unfold closes; exact Nat.le_trans (List.length_filter_le _ _) (by simp)
          have hccl : cc < ts.length := by
            have : cc ∈ closes ts := by rw [hc]; exact .head _
            unfold closes at this
            exact List.mem_range.mp (List.mem_filter.mp this).1
          have hyl : ys.length ≤ 10000 := by
            have := hys.length
            simp at this hd2 ⊢
            (first | lia | omega)
          w_strict (k_steps)
          rename Fr _ _ _ _ => F9
          rename News _ _ _ _ => N8
          rename StrsI _ _ => hS
          rename (∀ p : Addr × Obj, p ∈ _ → p.1 < _) => l0
          rename Array.size _ ≤ _ => hZ
          have N9 : News B L _ ((_, _) :: (D, LCg.lst ys) :: (ta, listOf #[] 0) :: (la, listOf #[] 0) :: (L + 1, co) :: (al, listOf vs c) :: rest) := news_cons N8 (by k_mem) (news_cons N8 (by k_mem) (news_cons N8 (by k_mem) (news_cons N8 (by k_mem) (news_cons N8 (by k_mem) (news_cons N8 (by k_mem) (news_sub N8 (fun p hp => by repeat (first | exact hp | apply List.Mem.tail))))))))
          show wpAny _ _ _ _ _ _
          refine Gives.use (line (amb_now (W := []) am F9 N9 (fun p hp => by repeat (first | exact hsub p hp | apply List.Mem.tail)) noW (by rfl) (by rfl)) (rm.deeper.less (by first | (simp +arith only; done) | lia | omega) (by first | (simp +arith only; done) | lia | omega)) ⟨(N9 _ (.head _)).1, (free_new am (fun p hp => by repeat (first | exact hsub p hp | apply List.Mem.tail)) l0 (N9 _ (.head _)).2.2).push (N9 _ (.head _)).2.1 (by rfl)⟩ hS (hok.sub fun z hz => List.mem_of_mem_drop (List.mem_of_mem_take hz)) (by rw [List.length_take, List.length_drop]; (first | lia | omega)) (by rw [List.length_take, List.length_drop]; (first | lia | omega))) ?_
          have up0 : Step [] s.heap _ := step_of F9 N9 am.stays (fun p hp => by repeat (first | exact hsub p hp | apply List.Mem.tail))
          have hXl := xl2 (ta := ta) (la := la) N9 (by k_mem) (by k_mem)
          rintro bv hN tkN ⟨hbv, st⟩
          obtain ⟨FN, restN, NN, hsN, hXN, hall⟩ := after_keepX [ta, la] [_, (D, LCg.lst ys), (ta, listOf #[] 0), (la, listOf #[] 0), (L + 1, co), (al, listOf vs c)] F9 N9 hXr st
          have NN : News B L hN (_ :: (D, LCg.lst ys) :: (ta, listOf #[] 0) :: (la, listOf #[] 0) :: (L + 1, co) :: (al, listOf vs c) :: restN) := NN
          have NN := news_sub NN (fun p hp => List.mem_cons_of_mem _ hp)
          have hbv := hbv.mono (owf_outX up0 hXl hall rfl)
          have hsubN : ∀ p ∈ others B s.heap [], p ∈ restN := fun p hp => hsN _ (hsub _ hp)
          clear F9 N9 N8 st hS l0 hZ hsub hXr off hsN hall hXl up0
          (try dsimp only)
          cases hq2 : lLine n ((ts.drop 1).take (cc - 1)) with
          | none =>
            rw [hq2] at hbv hoH
            have e : bv = .none := hbv
            subst e
            w_strict (k_steps)
            rename Fr _ _ _ _ => F9
            rename News _ _ _ _ => N9
            exact Halt.mk (Or.inr ⟨_, _, _, rfl, rfl, step_of F9 N9 am.stays (fun p hp => by repeat (first | exact hsubN p hp | apply List.Mem.tail)), rfl, hoH⟩)
          | some b =>
            rw [hq2] at hbv hoH
            have hbv : ShIn (InF B l s.heap restN) bv b := hbv
            obtain ⟨xb, itb, rfl, hxb⟩ := hbv.isRef
            w_strict (k_steps)
            rename Fr _ _ _ _ => F9
            rename News _ _ _ _ => N9
            rename StrsI _ _ => hS
            rename (∀ p : Addr × Obj, p ∈ _ → p.1 < _) => l0
            have r1 := l0 (ta, listOf #[] 0) (by k_mem)
            have r2 := l0 (la, listOf #[] 0) (by k_mem)
            exact Halt.mk (Or.inl ⟨_, _, _, _, 0, ts.drop (cc + 1), .ref xb, ta, la, some (.ref D), some b, restN, rfl, rfl, fr_congr F9 fun y => by
              ((simp only [onMap_terms, onMap_leads, onMap_rest, onMap_block, onMap_close, onMap_shape, onMap_sign, onMap_path]); try rfl)
              try rfl
              , news_cons N9 (by k_mem) (news_cons N9 (by k_mem) (news_cons N9 (by k_mem) (news_cons N9 (by k_mem) (news_cons N9 (by k_mem) (news_sub N9 (fun p hp => by repeat (first | exact hp | apply List.Mem.tail))))))), hsubN, free_new am (fun p hp => by repeat (first | exact hsubN p hp | apply List.Mem.tail)) l0 (N9 _ (.tail _ (.head _))).2.2, hft, hfla, hn1, n1, n2, n3, Nat.ne_of_lt r1, Nat.ne_of_lt r2, n4, n5, hXN, hS, hoH, hbv⟩)
    · have hE : oHead n ts = some (none, ts) := by unfold oHead; rw [if_neg hp]
      have fin : ∀ hh tkk, Fr B L hh (onMap (some (.ref ta)) (some (.ref la)) (some (.ref al)) (some .none) none none none none) → News B L hh ((ta, listOf #[] 0) :: (la, listOf #[] 0) :: (L + 1, co) :: (al, listOf vs c) :: (al, listOf vs c) :: others B s.heap []) →
          (fun f s₁ => Halt ((OnHead s B L co al vs c l n ts f s₁) ∨
    (OnNo1 s n ts f s₁))) Flow.next { s with heap := hh, toks := tkk } := fun hh tkk F5 N5 =>
        ⟨.inl ⟨hh, tkk, al, vs, c, ts, .none, ta, la, none, none, _, rfl, rfl, F5, N5, hsub, ha.2, hft, hfla, hn1, n1, n2, n3, n4, n5, n4, n5, hX, hvs, hE, rfl⟩⟩
      rcases (show ts = [] ∨ ∃ k r, ts = k :: r from by cases ts with | nil => exact .inl rfl | cons k r => exact .inr ⟨k, r, rfl⟩) with hts | ⟨k, r, hts⟩
      · have hd0 : decide (ts = []) = true := decide_eq_true hts
        w_strict (k_steps)
        rename Fr _ _ _ _ => F5
        rename News _ _ _ _ => N5
        exact fin _ _ (fr_congr F5 fun y => by
          ((simp only [onMap_terms, onMap_leads, onMap_rest, onMap_block, onMap_close, onMap_shape, onMap_sign, onMap_path]); try rfl)
          try rfl
          ) (all_cons (N5 _ (.tail _ (.tail _ (.tail _ (.head _))))) (all_cons (N5 _ (.tail _ (.tail _ (.head _)))) (all_cons (N5 _ (.tail _ (.tail _ (.tail _ (.tail _ (.head _)))))) (all_cons (N5 _ (.tail _ (.tail _ (.tail _ (.tail _ (.tail _ (.head _))))))) (all_cons (N5 _ (.tail _ (.tail _ (.tail _ (.tail _ (.tail _ (.head _))))))) (fun p hp => N5 _ (.tail _ (.tail _ (.tail _ (.tail _ (.tail _ (.tail _ hp))))))))))))
      · have hd0 : decide (ts = []) = false := decide_eq_false (by rw [hts]; simp)
        have hk : ts[0]? = some k := by rw [hts]; rfl
        have hq : (S k == Str.ofString "(") = false := (S_beq k _ _ open_S).trans (decide_eq_false fun q => hp (by rw [hts, q]; rfl))
        w_strict (k_steps)
        rename Fr _ _ _ _ => F5
        rename News _ _ _ _ => N5
        exact fin _ _ (fr_congr F5 fun y => by
          ((simp only [onMap_terms, onMap_leads, onMap_rest, onMap_block, onMap_close, onMap_shape, onMap_sign, onMap_path]); try rfl)
          try rfl
          ) (all_cons (N5 _ (.tail _ (.tail _ (.tail _ (.head _))))) (all_cons (N5 _ (.tail _ (.tail _ (.head _)))) (all_cons (N5 _ (.tail _ (.tail _ (.tail _ (.tail _ (.head _)))))) (all_cons (N5 _ (.tail _ (.tail _ (.tail _ (.tail _ (.tail _ (.head _))))))) (all_cons (N5 _ (.tail _ (.tail _ (.tail _ (.tail _ (.tail _ (.head _))))))) (fun p hp => N5 _ (.tail _ (.tail _ (.tail _ (.tail _ (.tail _ (.tail _ hp))))))))))))
  clear hX hfla hft hn1 hn2 n1 n2 n3 n4 n5 N9 F9 l1 l2 l3
  rintro f s₁ ⟨(⟨hh, tkk, rl, rv, rc, rts, bv, ta, la, cv, bt, rest, rfl, rfl, F, N, hsub, hfr, hfta, hfla, hn1, n1, n2, n3, n4, n5, n6, n7, hX, hrs, hoH, hbv⟩ | ⟨v, hh, tkk, rfl, rfl, st, rfl, hoH⟩)⟩
  rotate_left
  · (try dsimp only)
    refine hR _ _ _ ⟨?_, st⟩
    rw [lOne_eq, hoH]
    exact rfl
  have hR : ∀ v h' tk', ShO (OwF B l s.heap h') v ((lRest (decide (ts.head? = some [40])) ts.length [] [] rts).bind (oFin bt)) ∧ Step [] s.heap h' → R v { s with heap := h', toks := tk' } := by
    rw [lOne_eq, hoH] at hR
    exact hR
  have hsb := oHead_sub hoH
  clear hoH
  (try dsimp only)
  w_strict (k_steps)
  rename Fr _ _ _ _ => F
  rename News _ _ _ _ => N
  show wpAny _ _ _ _ _ _
  refine wpAny_mono (Q := fun f s₁ => Halt ((OnRest ts rts s B L ta la bv cv co al vs c l bt f s₁) ∨
      (OnNo2 s ts rts f s₁))) (while_ok
    (OnLoop s B L ta la bv cv co al vs c l bt ts rts)
    ?_ _ ⟨_, _, rl, rv, rc, _, _, _, _, rts, [], [], ts.length, rest, rfl, rfl, F, news_cons N (by k_mem) (news_cons N (by k_mem) (news_cons N (by k_mem) (news_cons N (by k_mem) (news_cons N (by k_mem) (news_sub N (fun p hp => by repeat (first | exact hp | apply List.Mem.tail))))))), hsub, hX, n4, n5, hfr, hrs, .nil, .nil, hbv, rfl, hsb.1, by simpa using hsb.1, hok.sub hsb.2⟩) ?_ (fun _ _ e => e)
  · clear F N hsub hX n4 n5 hfr hrs hbv rest rl rv rc hh tkk
    rintro m s₁ ⟨hh, tkk, rl, rv, rc, tv, tc, lv, lc, cur, a, rd, n', rest, rfl, rfl, F, N, hsub, hX, n4, n5, hfr, hrs, htv, hlv, hbv, hE, hcn, hcl, hoc⟩
    have hXt : ∀ p ∈ rest, p.1 ≠ ta := fun p hp e => hX p hp (e ▸ .head _)
    have hXl : ∀ p ∈ rest, p.1 ≠ la := fun p hp e => hX p hp (e ▸ .tail _ (.head _))
    have go : GoOn := .mk
    have hrz : rv.size = cur.length := hrs.size
    have htz : tv.size = a.length := htv.size
    have hlz : lv.size = rd.length := hlv.size
    have hrb : rv.size ≤ 10000 := by (first | lia | omega)
    have htb : tv.size ≤ 10000 := by (first | lia | omega)
    have hlb : lv.size ≤ 10000 := by (first | lia | omega)
    cases cur with
    | nil =>
      have hd0 : decide (([] : List Tk) = []) = true := rfl
      w_strict (k_steps)
      rename Fr _ _ _ _ => F9
      rename News _ _ _ _ => N9
      exact Halt.mk (Or.inl ⟨_, _, rl, rv, rc, tv, tc, lv, lc, [], a, rd, n', rest, rfl, hE.symm.trans (by cases n' <;> simp [lRest]), rfl, F9, news_sub N9 (fun p hp => .tail _ hp), hsub, hX, n4, n5, hfr, hrs, htv, hlv, hbv, hE, hcn, hcl, hoc⟩)
    | cons k r =>
      have hd0 : decide (k :: r = []) = false := decide_eq_false (fun q => nomatch q)
      have hk : (k :: r)[0]? = some k := rfl
      obtain ⟨n', rfl⟩ : ∃ m, n' = m + 1 := ⟨n' - 1, by simp at hcn; (first | lia | omega)⟩
      by_cases hr1 : isRedM k = true
      · cases r with
        | nil =>
          have hz1 : rv.size = 1 := hrz
          w_strict (k_steps)
          rename Fr _ _ _ _ => F9
          rename News _ _ _ _ => N9
          exact Halt.mk (Or.inr ⟨_, _, _, rfl, rfl, step_of F9 N9 am.stays (fun p hp => by repeat (first | exact hsub p hp | apply List.Mem.tail)), rfl, by rw [← hE, lRest.eq_def]; (try dsimp only); rw [if_pos hr1]⟩)
        | cons p r =>
          have hz1 : rv.size = r.length + 2 := hrz
          have hkp : (k :: p :: r)[1]? = some p := rfl
          by_cases hr2 : (isRedM p || isOpM p) = true
          · w_strict (k_steps)
            rename Fr _ _ _ _ => F9
            rename News _ _ _ _ => N9
            exact Halt.mk (Or.inr ⟨_, _, _, rfl, rfl, step_of F9 N9 am.stays (fun p hp => by repeat (first | exact hsub p hp | apply List.Mem.tail)), rfl, by rw [← hE, lRest.eq_def]; (try dsimp only); rw [if_pos hr1]; (try dsimp only); rw [if_pos hr2]⟩)
          · have hr2 : (isRedM p || isOpM p) = false := by simpa using hr2
            w_strict (k_steps)
            rename_i D1 hA l1 hB D2 ws hC hS hZ l0 l2 hD F9 N9
            have r1 := l0 (ta, listOf tv tc) (by k_mem)
            have r2 := l0 (la, listOf _ _) (by k_mem)
            have q1 : ta < D1 := l1.2.2.2.1
            have q2 : la < D1 := l1.2.2.2.2.1
            refine ⟨r.length, by simp; (first | lia | omega), _, _, D2, ws, 0, tv, tc, _, _, r, a, rd ++ [(kd k, p)], n', (D1, tupO #[.str (S k) _, .str (S p) _]) :: rest, rfl, rfl, fr_congr F9 (m' := onMap (some (.ref ta)) (some (.ref la)) (some (.ref D2)) (some bv) cv none none none) fun y => by
              ((simp only [onMap_terms, onMap_leads, onMap_rest, onMap_block, onMap_close, onMap_shape, onMap_sign, onMap_path]); try rfl)
              try rfl
              , news_cons N9 (by k_mem) (news_cons N9 (by k_mem) (news_cons N9 (by k_mem) (news_cons N9 (by k_mem) (news_cons N9 (by k_mem) (news_cons N9 (by k_mem) (news_sub N9 (fun p hp => by repeat (first | exact hp | apply List.Mem.tail)))))))), fun p hp => .tail _ (hsub p hp), fun p hp => ?_, Nat.ne_of_lt r1, Nat.ne_of_lt r2, free_new am (fun p hp => by repeat (first | exact hsub p hp | apply List.Mem.tail)) l0 (N9 _ (.head _)).2.2, hS, htv, ?_, hbv.mono (fun p hp => .tail _ hp), ?_, by simp at hcn ⊢; (first | lia | omega), by simp at hcl ⊢; (first | lia | omega), hoc.sub (fun z hz => .tail _ (.tail _ hz))⟩
            · rcases List.mem_cons.mp hp with rfl | hp
              · intro hm
                rcases List.mem_cons.mp hm with e | hm
                · exact absurd q1 (by rw [show D1 = ta from e]; exact Nat.lt_irrefl _)
                · exact absurd q2 (by rw [show D1 = la from List.mem_singleton.mp hm]; exact Nat.lt_irrefl _)
              · exact hX p hp
            · rw [Array.toList_push]
              exact (hlv.mono (fun p hp => .tail _ hp)).snoc (by rw [sgn_kd hr1]; exact .head _)
            · rw [← hE]
              conv => rhs; rw [lRest.eq_def]
              (try dsimp only)
              rw [if_pos hr1]
              (try dsimp only)
              rw [if_neg (by rw [hr2]; decide)]
      · have hr1 : isRedM k = false := by simpa using hr1
        obtain ⟨k0, r0, hts⟩ : ∃ k0 r0, ts = k0 :: r0 := by
          cases ts with
          | nil => simp at hcl
          | cons k0 r0 => exact ⟨k0, r0, rfl⟩
        have hk0 : ts[0]? = some k0 := by rw [hts]; rfl
        by_cases hr2 : isOpM k = true
        · w_strict (k_steps)
          rename Fr _ _ _ _ => F9
          rename News _ _ _ _ => N9
          exact Halt.mk (Or.inr ⟨_, _, _, rfl, rfl, step_of F9 N9 am.stays (fun p hp => by repeat (first | exact hsub p hp | apply List.Mem.tail)), rfl, by rw [← hE, lRest.eq_def]; (try dsimp only); rw [if_neg (by rw [hr1]; decide), if_pos (by rw [hr2]; rfl)]⟩)
        · have hr2 : isOpM k = false := by simpa using hr2
          by_cases hr3 : ts.head? = some [40]
          · have hq : (S k0 == Str.ofString "(") = true := by rw [hts] at hr3; cases hr3; decide +kernel
            w_strict (k_steps)
            rename Fr _ _ _ _ => F9
            rename News _ _ _ _ => N9
            exact Halt.mk (Or.inr ⟨_, _, _, rfl, rfl, step_of F9 N9 am.stays (fun p hp => by repeat (first | exact hsub p hp | apply List.Mem.tail)), rfl, by rw [← hE, lRest.eq_def]; (try dsimp only); rw [if_neg (by rw [hr1]; decide), if_pos (by rw [hr2, decide_eq_true hr3]; rfl)]⟩)
          · have hq : (S k0 == Str.ofString "(") = false := (S_beq k0 _ _ open_S).trans (decide_eq_false fun q => hr3 (by rw [hts, q]; rfl))
            w_strict (k_steps)
            rename_i D2 ws hC hS hZ l0 l2 hD F9 N9
            have r1 := l0 (ta, listOf _ _) (by k_mem)
            have r2 := l0 (la, listOf lv lc) (by k_mem)
            refine ⟨r.length, by simp, _, _, D2, ws, 0, _, _, lv, lc, r, a ++ [k], rd, n', rest, rfl, rfl, fr_congr F9 (m' := onMap (some (.ref ta)) (some (.ref la)) (some (.ref D2)) (some bv) cv none none none) fun y => by
              ((simp only [onMap_terms, onMap_leads, onMap_rest, onMap_block, onMap_close, onMap_shape, onMap_sign, onMap_path]); try rfl)
              try rfl
              , news_cons N9 (by k_mem) (news_cons N9 (by k_mem) (news_cons N9 (by k_mem) (news_cons N9 (by k_mem) (news_cons N9 (by k_mem) (news_sub N9 (fun p hp => by repeat (first | exact hp | apply List.Mem.tail))))))), hsub, hX, Nat.ne_of_lt r1, Nat.ne_of_lt r2, free_new am (fun p hp => by repeat (first | exact hsub p hp | apply List.Mem.tail)) l0 (N9 _ (.head _)).2.2, hS, ?_, hlv, hbv, ?_, by simp at hcn ⊢; (first | lia | omega), by simp at hcl ⊢; (first | lia | omega), hoc.sub (fun z hz => .tail _ hz)⟩
            · rw [Array.toList_push]
              exact htv.snoc k _
            · rw [← hE]
              conv => rhs; rw [lRest.eq_def]
              (try dsimp only)
              rw [if_neg (by rw [hr1]; decide), if_neg (by rw [hr2, decide_eq_false hr3]; decide)]
  clear F N hsub hX n4 n5 hfr hrs hbv
  rintro f s₁ ⟨(⟨hh, tkk, rl, rv, rc, tv, tc, lv, lc, cur, a, rd, n', rest, rfl, hA, rfl, F, N, hsub, hX, n4, n5, hfr, hrs, htv, hlv, hbv, hE, hcn, hcl, hoc⟩ | ⟨v, hh, tkk, rfl, rfl, st, rfl, hA⟩)⟩
  rotate_left
  · (try dsimp only)
    refine hR _ _ _ ⟨?_, st⟩
    rw [hA]
    exact rfl
  rw [hA] at hR
  have hR : ∀ v h' tk', ShO (OwF B l s.heap h') v (oFin bt (a, rd)) ∧ Step [] s.heap h' → R v { s with heap := h', toks := tk' } := hR
  clear hA hE hcn hrs hoc hfr n4 n5
  have htz : tv.size = a.length := htv.size
  have hlz : lv.size = rd.length := hlv.size
  (try dsimp only)
  have go : GoOn := .mk
  by_cases h9 : a.length > 9
  · w_strict (k_steps)
    rename Fr _ _ _ _ => F9
    rename News _ _ _ _ => N9
    exact hR _ _ _ ⟨by unfold oFin; rw [if_pos h9]; exact rfl, step_of F9 N9 am.stays (fun p hp => by repeat (first | exact hsub p hp | apply List.Mem.tail))⟩
  have hR : ∀ v h' tk', ShIn (OwF B l s.heap h') v (appR (bt.getD (.run a)) rd) ∧ Step [] s.heap h' → R v { s with heap := h', toks := tk' } := fun v h' tk' q => hR v h' tk' ⟨by unfold oFin; rw [if_neg h9]; exact q.1, q.2⟩
  w_strict (k_steps)
  rename Fr _ _ _ _ => F
  rename News _ _ _ _ => N
  show wpAny _ _ _ _ _ _
  refine wpAny_mono (Q := fun f s₁ => Halt (OnShape s B L ta la rl bv cv tv tc lv lc co al vs c rd l bt a f s₁)) ?_ ?_ (fun _ _ e => e)
  · have go : GoOn2 := .mk
    cases bt with
    | none =>
      have e : bv = .none := hbv
      subst e
      w_strict (k_steps)
      rename Fr _ _ _ _ => F9
      rename News _ _ _ _ => N9
      rename (_ < _ ∧ _) => l0
      rw [run_S] at N9
      have hnD := fresh0 (fun p hp => allLt_mem l0.2.2.2.2.2 p (hsub p hp)) (N9 _ (.head _)).2.2
      exact Halt.mk ⟨rfl, _, _, _, (_, _) :: rest, rfl, fr_congr F9 fun y => by
        ((simp only [onMap_terms, onMap_leads, onMap_rest, onMap_block, onMap_close, onMap_shape, onMap_sign, onMap_path]); try rfl)
        try rfl
        , news_cons N9 (by k_mem) (news_cons N9 (by k_mem) (news_cons N9 (by k_mem) (news_cons N9 (by k_mem) (news_cons N9 (by k_mem) (news_sub N9 (fun p hp => by repeat (first | exact hp | apply List.Mem.tail))))))), fun p hp => .tail _ (hsub p hp), hlv.mono (fun p hp => .tail _ hp), .run ⟨⟨.tail _ (.head _), am.free hnD⟩, hnD⟩ ⟨⟨.head _, hfta⟩, hn1⟩ htv⟩
    | some b =>
      have hbv : ShIn (InF B l s.heap rest) bv b := hbv
      obtain ⟨xb, itb, rfl, hxb⟩ := hbv.isRef
      w_strict (k_steps)
      rename Fr _ _ _ _ => F9
      rename News _ _ _ _ => N9
      exact Halt.mk ⟨rfl, _, _, _, rest, rfl, fr_congr F9 fun y => by
        ((simp only [onMap_terms, onMap_leads, onMap_rest, onMap_block, onMap_close, onMap_shape, onMap_sign, onMap_path]); try rfl)
        try rfl
        , news_cons N9 (by k_mem) (news_cons N9 (by k_mem) (news_cons N9 (by k_mem) (news_cons N9 (by k_mem) (news_sub N9 (fun p hp => by repeat (first | exact hp | apply List.Mem.tail)))))), hsub, hlv, hbv.mono (inF_sub fun p hp => .tail _ hp)⟩
  clear F N hsub hX hlv hbv
  rintro f s₁ ⟨⟨rfl, hh, tkk, sv, rest', rfl, F, N, hsub, hlv, hsv⟩⟩
  (try dsimp only)
  w_strict (k_steps)
  rename Fr _ _ _ _ => F
  rename News _ _ _ _ => N
  show wpAny _ _ _ _ _ _
  refine For_pairsU (B := B) am'.hand rfl rfl rfl ?_ (by intro _; rfl) (hE := .never)
  w_strict (k_steps)
  rename Fr _ _ _ _ => F
  rename News _ _ _ _ => N
  show wpAny _ _ _ _ _ _
  obtain ⟨T2, fa, fb, hT2⟩ := hlv.get
  refine for_pairs (lv := lv) (lc := lc) (T := T2) (a := fa) (b := fb) (OnTurn ta la rl bv cv tv tc lv lc L co al vs c B s l bt a rd)
    am'.hand F N (by k_mem) (fun j hj => ⟨by simpa using (hT2 j (by simpa using hj)).1, .tail _ (.tail _ (.tail _ (.tail _ (hT2 j (by simpa using hj)).2.1)))⟩) ⟨sv, none, none, rest', rfl, rfl, hsub, hsv⟩ ?_ ?_
  · clear F N hsub hsv
    rintro i m₁ news₁ I own o h tk hi ⟨sv, sg, pt, rest', rfl, rfl, hsub, hsv⟩ hoff hIo F N
    obtain ⟨xs, its, rfl, hxs⟩ := hsv.isRef
    obtain ⟨k, p, t1, t2, hrd, ea, eb⟩ := (hT2 i (by simpa using hi)).2.2
    rw [ea, eb] at F
    w_strict (k_steps)
    rename_i D hA F8 N8 l0 hB F9 N9
    have hnD := fresh0 (fun p hp => l0 p (List.mem_append_right _ (.tail _ (.tail _ (.tail _ (.tail _ (hsub p hp))))))) (N9 _ (.head _)).2.2
    have ht1 : rd.take (i + 1) = rd.take i ++ [(k, p)] := by rw [List.take_add_one, hrd]; rfl
    refine ⟨_, _, _, (ta, listOf tv tc) :: (la, listOf lv lc) :: (L + 1, co) :: (al, listOf vs c) :: (D, tupO #[.str (S (sgn k)) t1, .ref xs, .str (S p) t2]) :: rest', rfl, fr_congr F9 (m' := onMap (some (.ref ta)) (some (.ref la)) (some (.ref rl)) (some bv) cv (some (.ref D)) (some (.str (S (sgn k)) t1)) (some (.str (S p) t2))) fun y => by
      ((simp only [onMap_terms, onMap_leads, onMap_rest, onMap_block, onMap_close, onMap_shape, onMap_sign, onMap_path]); try rfl)
      try rfl
      , fun q hq => ?_, fun q hq => ?_, _, _, _, (D, tupO #[.str (S (sgn k)) t1, .ref xs, .str (S p) t2]) :: rest', rfl, rfl, fun p hp => .tail _ (hsub p hp), ?_⟩
    · rcases List.mem_append.mp hq with hq | hq
      · exact N9 _ (.tail _ (List.mem_append_left _ hq))
      rcases List.mem_cons.mp hq with rfl | hq
      · exact N9 _ (.tail _ (List.mem_append_right _ (.head _)))
      rcases List.mem_cons.mp hq with rfl | hq
      · exact N9 _ (.tail _ (List.mem_append_right _ (.tail _ (.head _))))
      rcases List.mem_cons.mp hq with rfl | hq
      · exact N9 _ (.tail _ (List.mem_append_right _ (.tail _ (.tail _ (.head _)))))
      rcases List.mem_cons.mp hq with rfl | hq
      · exact N9 _ (.tail _ (List.mem_append_right _ (.tail _ (.tail _ (.tail _ (.head _))))))
      rcases List.mem_cons.mp hq with rfl | hq
      · exact N9 _ (.head _)
      · exact N9 _ (.tail _ (List.mem_append_right _ (.tail _ (.tail _ (.tail _ (.tail _ hq))))))
    · rcases List.mem_cons.mp hq with rfl | hq
      · exact hoff _ (.head _)
      rcases List.mem_cons.mp hq with rfl | hq
      · exact hoff _ (.tail _ (.head _))
      rcases List.mem_cons.mp hq with rfl | hq
      · exact hoff _ (.tail _ (.tail _ (.head _)))
      rcases List.mem_cons.mp hq with rfl | hq
      · exact hoff _ (.tail _ (.tail _ (.tail _ (.head _))))
      rcases List.mem_cons.mp hq with rfl | hq
      · exact Ne.symm (Nat.ne_of_lt (l0 _ (List.mem_append_left _ hIo)))
      · exact hoff _ (.tail _ (.tail _ (.tail _ (.tail _ hq))))
    · rw [ht1, appR_snoc]
      exact .redir ⟨⟨.tail _ (.head _), am.free hnD⟩, hnD⟩ (hsv.mono (inF_sub (all_cons (.head _) (fun q hq => .tail _ (.tail _ hq)))))
  · clear F N hsub hsv
    rintro h' tk' m' news' F N ⟨sv, sg, pt, rest', rfl, rfl, hsub, hsv⟩
    rw [hlz, List.take_length] at hsv
    obtain ⟨xs, its, rfl, hxs⟩ := hsv.isRef
    (try dsimp only)
    w_strict (k_steps)
    exact hR _ _ _ ⟨hsv.mono (inF_ow N (all_cons (.head _) (fun q hq => .tail _ (.tail _ (.tail _ (.tail _ hq)))))), step_of F N am.stays (fun p hp => by repeat (first | exact hsub p hp | apply List.Mem.tail))⟩

theorem readsL : ∀ n, ReadL w mean mg mb B 330 n 1 (lOne n) ∧ ReadL w mean mg mb B 325 n 2 (lPipe n) ∧ ReadL w mean mg mb B 318 n 3 (lLine n) := by
  intro n
  induction n with
  | zero =>
    refine ⟨?_, ?_, ?_⟩
    · intro A l s al c vs ts _ _ _ _ _ _ hn; (first | lia | omega)
    · intro A l s al c vs ts _ _ _ _ _ _ hn; (first | lia | omega)
    · intro A l s al c vs ts _ _ _ _ _ _ hn; (first | lia | omega)
  | succ n ih => exact ⟨one_stepL ih.2.2, pipe_stepL ih.1 ih.2.1, line_stepL ih.2.1 ih.2.2⟩
end

end

section
open PySem PySem.W PySem.Calls PySem.Spec PyProof.Rows
local macro_rules | `(tactic| walk_at "ite") => `(tactic| (k_here; with_reducible first | refine ite_tt ?_ | refine ite_ff ?_))
local macro_rules | `(tactic| walk_at "exec Assign cons Dict") => `(tactic| (k_here; refine stop_here ?_))
local macro_rules | `(tactic| walk_at "eval Dict") => `(tactic| (k_here; refine stop_here ?_))
local macro_rules | `(tactic| walk_at "TupStores") => `(tactic| (k_here; refine stop_here ?_))
local macro_rules | `(tactic| walk_at "call builtin:dict.get") => `(tactic| (k_here; refine stop_here ?_))
variable {w : World} {mean : ExcName → Option Value} {mg mb : Str → Option Value} {B : Heap} {A : Around} {l : List Env} {s : Shared}


section
variable (w mean mg mb B)
/- what _law_shape tells of a tree -/
noncomputable def Shapes (t : Tree) : Prop :=
  ∀ {A : Around} {l : List Env} {s : Shared} {v : Value}, Amb w mean mg mb B A l s.heap → Room A (ht t + 3) (3 * ht t + 120) → TreeIn w (Ow B l s.heap) v t → WF t →
    Gives w A 337 [v] s (fun r h' => ShIn (Ow B l h') r t ∧ Step [] s.heap h')
end
theorem ow_of {h h' : Heap} {L : Addr} {a : Addr} {o : Obj} {news : List (Addr × Obj)} (N : News B L h' news) (hm : (a, o) ∈ news) (q : Ow B l h a o) : Ow B l h' a o := ⟨(N _ hm).1, q.2⟩
theorem inR_ow2 {h : Heap} {L : Addr} {news rest : List (Addr × Obj)} (N : News B L h news) (hs : ∀ p ∈ rest, p ∈ news) : ∀ a o, InR B l rest a o → Ow B l h a o := fun _ _ q => ⟨(N _ (hs _ q.1)).1, q.2⟩
theorem shape_run {a : List Tk} : Shapes w mean mg mb B (.run a) := by
  intro A l s v am rm tr wf
  have T := am.top
  have X := am.inK
  cases tr with
  | @run x dx al k n vs _ h1 h2 h3 hvs =>
  refine call_ok (by k_is) (by k_is) am rm.ok (binds := [("tree", .ref x)]) (BindsTo.of_eq rfl) (locs rfl) ((x, instObj 83 dx) :: (dx, dictOf [ent w "arguments" k (.ref al)] 1) :: (al, listOf vs n) :: others B s.heap []) ?_ ?_
  · refine all_cons ?_ (all_cons ?_ (all_cons ?_ ?_))
    · exact ⟨h1.1, h1.2.base⟩
    · exact ⟨h2.1, h2.2.base⟩
    · exact ⟨h3.1, h3.2.base⟩
    · exact fun p hp => others_here p hp
  intro L h₁ tk₁ R _ F N am' _ hR
  have hsub : ∀ p ∈ others B s.heap [], p ∈ others B s.heap [] := fun _ h => h
  w_strict (k_steps)
  rename Fr _ _ _ _ => F9
  rename News _ _ _ _ => N9
  rename (_ < _ ∧ _) => l0
  rw [run_S] at N9
  have hnD := fresh0 (fun p hp => allLt_mem l0.2.2.2 p (hsub p hp)) (N9 _ (.head _)).2.2
  exact hR _ _ _ ⟨.run ⟨(N9 _ (.head _)).1, am.free hnD⟩ (ow_of N9 (by k_mem) h3) hvs, step_of F9 N9 am.stays (fun p hp => by repeat (first | exact hsub p hp | apply List.Mem.tail))⟩

theorem shape_bk {t : Tree} (ih : Shapes w mean mg mb B t) : Shapes w mean mg mb B (.back t) := by
  intro A l s v am rm tr wf
  have T := am.top
  have X := am.inK
  cases tr with
  | @back x dx k1 v1 _ h1 h2 tr1 =>
  cases wf with
  | back wf1 =>
  obtain ⟨y1, dy, es, en, rfl, hy, hdy⟩ := tr1.inst
  have hht : ht (.back t) = ht t + 1 := rfl
  rw [hht] at rm
  refine call_ok (by k_is) (by k_is) am rm.ok (binds := [("tree", .ref x)]) (BindsTo.of_eq rfl) (locs rfl) ((x, instObj 146 dx) :: (dx, dictOf [ent w "command" k1 (.ref y1)] 1) :: others B s.heap []) ?_ ?_
  · refine all_cons ?_ (all_cons ?_ ?_)
    · exact ⟨h1.1, h1.2.base⟩
    · exact ⟨h2.1, h2.2.base⟩
    · exact fun p hp => others_here p hp
  intro L h₁ tk₁ R _ F N am' _ hR
  have hsub : ∀ p ∈ others B s.heap [], p ∈ others B s.heap [] := fun _ h => h
  w_strict (k_steps)
  rename Fr _ _ _ _ => F
  rename News _ _ _ _ => N
  show wpAny _ _ _ _ _ _
  refine Gives.use (ih (amb_now (W := []) am F N (fun p hp => by repeat (first | exact hsub p hp | apply List.Mem.tail)) noW (by rfl) (by rfl)) (rm.deeper.less (by first | (simp +arith only; done) | lia | omega) (by first | (simp +arith only; done) | lia | omega)) (tr1.mono (ow_in N (fun p hp => by repeat (first | exact hsub p hp | apply List.Mem.tail)) (by rfl))) wf1) ?_
  rintro rv1 hN tkN ⟨hr, st⟩
  obtain ⟨FN, restN, NN, hsN, hall⟩ := after_keep [(x, instObj 146 dx), (dx, dictOf [ent w "command" k1 (.ref y1)] 1)] F N st
  have NN : News B L hN ((x, instObj 146 dx) :: (dx, dictOf [ent w "command" k1 (.ref y1)] 1) :: restN) := NN
  have hs1 := hr.mono (ow_out hall rfl)
  replace hsub : ∀ p ∈ others B s.heap [], p ∈ restN := fun p hp => hsN _ (hsub _ hp)
  clear F N st hsN hall hr
  obtain ⟨xs1, its1, rfl, hxs1⟩ := hs1.isRef
  (try dsimp only)
  w_strict (k_steps)
  rename Fr _ _ _ _ => F9
  rename News _ _ _ _ => N9
  rename (_ < _ ∧ _) => l0
  rw [back_S] at N9
  have hnD := fresh0 (fun p hp => allLt_mem l0.2.2 p (hsub p hp)) (N9 _ (.head _)).2.2
  exact hR _ _ _ ⟨.back ⟨(N9 _ (.head _)).1, am.free hnD⟩ (hs1.mono (inR_ow2 N9 fun p hp => .tail _ (.tail _ (.tail _ hp)))), step_of F9 N9 am.stays (fun p hp => by repeat (first | exact hsub p hp | apply List.Mem.tail))⟩

theorem shape_pair {c : Nat} {t1 t2 : Tree} (i1 : Shapes w mean mg mb B t1) (i2 : Shapes w mean mg mb B t2) : Shapes w mean mg mb B (.pair c t1 t2) := by
  intro A l s v am rm tr wf
  have T := am.top
  have X := am.inK
  cases tr with
  | @pair x dx k1 k2 k3 ts v1 v2 _ _ _ h1 h2 tr1 tr2 =>
  cases wf with
  | pair hc wf1 wf2 =>
  obtain ⟨y1, dy, es, en, rfl, hy, hdy⟩ := tr1.inst
  obtain ⟨y2, dy2, es2, en2, rfl, _, _⟩ := tr2.inst
  have hht : ht (.pair c t1 t2) = max (ht t1) (ht t2) + 1 := rfl
  rw [hht] at rm
  have m1 : ht t1 ≤ max (ht t1) (ht t2) := Nat.le_max_left _ _
  have m2 : ht t2 ≤ max (ht t1) (ht t2) := Nat.le_max_right _ _
  generalize max (ht t1) (ht t2) = mx at rm m1 m2
  refine call_ok (by k_is) (by k_is) am rm.ok (binds := [("tree", .ref x)]) (BindsTo.of_eq rfl) (locs rfl) ((x, instObj 125 dx) :: (dx, dictOf [ent w "sign" k1 (.str (S [c]) ts), ent w "left" k2 (.ref y1), ent w "right" k3 (.ref y2)] 3) :: others B s.heap []) ?_ ?_
  · refine all_cons ?_ (all_cons ?_ ?_)
    · exact ⟨h1.1, h1.2.base⟩
    · exact ⟨h2.1, h2.2.base⟩
    · exact fun p hp => others_here p hp
  intro L h₁ tk₁ R _ F N am' _ hR
  have hsub : ∀ p ∈ others B s.heap [], p ∈ others B s.heap [] := fun _ h => h
  w_strict (k_steps)
  rename Fr _ _ _ _ => F
  rename News _ _ _ _ => N
  show wpAny _ _ _ _ _ _
  refine Gives.use (i1 (amb_now (W := []) am F N (fun p hp => by repeat (first | exact hsub p hp | apply List.Mem.tail)) noW (by rfl) (by rfl)) (rm.deeper.less (by first | (simp +arith only; done) | lia | omega) (by first | (simp +arith only; done) | lia | omega)) (tr1.mono (ow_in N (fun p hp => by repeat (first | exact hsub p hp | apply List.Mem.tail)) (by rfl))) wf1) ?_
  rintro rv1 hN tkN ⟨hr, st⟩
  obtain ⟨FN, restN, NN, hsN, hall⟩ := after_keep [(x, instObj 125 dx), (dx, dictOf [ent w "sign" k1 (.str (S [c]) ts), ent w "left" k2 (.ref y1), ent w "right" k3 (.ref y2)] 3)] F N st
  have NN : News B L hN ((x, instObj 125 dx) :: (dx, dictOf [ent w "sign" k1 (.str (S [c]) ts), ent w "left" k2 (.ref y1), ent w "right" k3 (.ref y2)] 3) :: restN) := NN
  have hs1 := hr.mono (ow_out hall rfl)
  replace hsub : ∀ p ∈ others B s.heap [], p ∈ restN := fun p hp => hsN _ (hsub _ hp)
  clear F N st hsN hall hr
  obtain ⟨xs1, its1, rfl, hxs1⟩ := hs1.isRef
  (try dsimp only)
  w_strict (k_steps)
  rename Fr _ _ _ _ => F
  rename News _ _ _ _ => N
  show wpAny _ _ _ _ _ _
  refine Gives.use (i2 (amb_now (W := []) am F N (fun p hp => by repeat (first | exact hsub p hp | apply List.Mem.tail)) noW (by rfl) (by rfl)) (rm.deeper.less (by first | (simp +arith only; done) | lia | omega) (by first | (simp +arith only; done) | lia | omega)) (tr2.mono (ow_in N (fun p hp => by repeat (first | exact hsub p hp | apply List.Mem.tail)) (by rfl))) wf2) ?_
  rintro rv2 hN tkN ⟨hr, st⟩
  obtain ⟨FN, restN, NN, hsN, hall⟩ := after_keep [(x, instObj 125 dx), (dx, dictOf [ent w "sign" k1 (.str (S [c]) ts), ent w "left" k2 (.ref y1), ent w "right" k3 (.ref y2)] 3)] F N st
  have NN : News B L hN ((x, instObj 125 dx) :: (dx, dictOf [ent w "sign" k1 (.str (S [c]) ts), ent w "left" k2 (.ref y1), ent w "right" k3 (.ref y2)] 3) :: restN) := NN
  have hs2 := hr.mono (ow_out hall rfl)
  replace hsub : ∀ p ∈ others B s.heap [], p ∈ restN := fun p hp => hsN _ (hsub _ hp)
  replace hs1 := hs1.mono (inR_sub hsN)
  clear F N st hsN hall hr
  obtain ⟨xs2, its2, rfl, hxs2⟩ := hs2.isRef
  (try dsimp only)
  w_strict (k_steps)
  rename Fr _ _ _ _ => F9
  rename News _ _ _ _ => N9
  rename (_ < _ ∧ _) => l0
  have hnD := fresh0 (fun p hp => allLt_mem l0.2.2 p (hsub p hp)) (N9 _ (.head _)).2.2
  exact hR _ _ _ ⟨.pair ⟨(N9 _ (.head _)).1, am.free hnD⟩ (hs1.mono (inR_ow2 N9 fun p hp => .tail _ (.tail _ (.tail _ hp)))) (hs2.mono (inR_ow2 N9 fun p hp => .tail _ (.tail _ (.tail _ hp)))), step_of F9 N9 am.stays (fun p hp => by repeat (first | exact hsub p hp | apply List.Mem.tail))⟩

theorem swaps_dict (ks : List (Option PySem.Expr)) (vs : List PySem.Expr) (pos : Pos) (t : Option PySem.Expr) (n : Nat) (env : Env) : swapsWith (.Dict ks vs pos) t n env = pure false := rfl
theorem kinds_get {k : Nat} (hk : k ≤ 2) : (lookup (encTuple PyData.int [modeOf k, descOf k]) (putAllT [(encTuple PyData.int [0, 0], PyData.str (Str.ofString "<")), (encTuple PyData.int [1537, 1], PyData.str (Str.ofString ">")), (encTuple PyData.int [2561, 1], PyData.str (Str.ofString ">>"))] [])).getD .none = PyData.str (S (sgn k)) := by
  obtain rfl | rfl | rfl : k = 0 ∨ k = 1 ∨ k = 2 := by (first | lia | omega)
  · rw [lt_S, gt_S, ggS]; rfl
  · rw [lt_S, gt_S, ggS]; rfl
  · rw [lt_S, gt_S, ggS]; rfl
theorem shape_redir {k : Nat} {t : Tree} {p : Tk} (ih : Shapes w mean mg mb B t) : Shapes w mean mg mb B (.redir k t p) := by
  intro A l s v am rm tr wf
  have T := am.top
  have X := am.inK
  cases tr with
  | @redir x v1 _ _ _ ro tr1 =>
  obtain ⟨dx, k1, k2, k3, k4, tp, tm, td, h1, h2⟩ := ro
  cases wf with
  | redir hk wf1 hp =>
  obtain ⟨y1, dy, es, en, rfl, hy, hdy⟩ := tr1.inst
  have hht : ht (.redir k t p) = ht t + 1 := rfl
  rw [hht] at rm
  refine call_ok (by k_is) (by k_is) am rm.ok (binds := [("tree", .ref x)]) (BindsTo.of_eq rfl) (locs rfl) ((x, instObj 104 dx) :: (dx, dictOf [ent w "command" k1 (.ref y1), ent w "path" k2 (.str (S p) tp), ent w "mode" k3 (.int (modeOf k) tm), ent w "descriptor" k4 (.int (descOf k) td)] 4) :: others B s.heap []) ?_ ?_
  · refine all_cons ?_ (all_cons ?_ ?_)
    · exact ⟨h1.1, h1.2.base⟩
    · exact ⟨h2.1, h2.2.base⟩
    · exact fun p hp => others_here p hp
  intro L h₁ tk₁ R _ F N am' _ hR
  have hsub : ∀ p ∈ others B s.heap [], p ∈ others B s.heap [] := fun _ h => h
  w_strict (k_steps)
  show wpAny _ _ _ _ _ _
  with_reducible refine' wpAny_Assign_Name ?_ ?hs
  case hs => exact swaps_dict ..
  rename Fr _ _ _ _ => F
  rename News _ _ _ _ => N0
  have hbig := modules_low am.top.nolimit
  show wpAny _ _ (eval _ _) _ _ _
  with_reducible refine' Dict_tup_made ?k1 F N0 hbig ?k2 ?k3 ?k4 ?k5 ?_
  case k1 => with_unfolding_all rfl
  case k2 => with_unfolding_all rfl
  case k3 => with_unfolding_all rfl
  case k4 => exact List.cons_ne_nil _ _
  case k5 => with_unfolding_all decide
  have hnd : ∀ q ∈ (x, instObj 104 dx) :: (dx, dictOf [ent w "command" k1 (.ref y1), ent w "path" k2 (.str (S p) tp), ent w "mode" k3 (.int (modeOf k) tm), ent w "descriptor" k4 (.int (descOf k) td)] 4) :: others B s.heap [], q.1 ≠ h₁.objs.size := fun q hq => Nat.ne_of_lt (Heap.lt_size (N0 q hq).1)
  intro o F N hlo hdo
  w_strict (k_steps)
  rename Fr _ _ _ _ => F
  rename News _ _ _ _ => N
  show TupStores _ _ _ _ _ _ _ _
  refine TupStores.intro (knd := intKind _ _) (enc := PyData.int) PyProof.V.same_int (Room.unitsOk (d := 1) (u := 10) (rm.deeper.less (by first | (simp +arith only; done) | lia | omega) (by first | (simp +arith only; done) | lia | omega))) F N (TupTab.ofEmpty (by tupd_mem) hlo hdo) (by tupd_keys_int; done) ?_ (by rw [PySem.sizeLine_eq]; decide)
  intro h2 news2 tk2 F N T keep
  have m1 : ∀ q ∈ (x, instObj 104 dx) :: (dx, dictOf [ent w "command" k1 (.ref y1), ent w "path" k2 (.str (S p) tp), ent w "mode" k3 (.int (modeOf k) tm), ent w "descriptor" k4 (.int (descOf k) td)] 4) :: others B s.heap [], q ∈ news2 := fun q hq => keep q (by repeat (first | exact hq | apply List.Mem.tail)) (hnd q hq)
  have N := news_sub N (sub2 (m1 _ (.head _)) (m1 _ (.tail _ (.head _))))
  have T := (T.cons (dx, dictOf [ent w "command" k1 (.ref y1), ent w "path" k2 (.str (S p) tp), ent w "mode" k3 (.int (modeOf k) tm), ent w "descriptor" k4 (.int (descOf k) td)] 4)).cons (x, instObj 104 dx)
  have hsub : ∀ p ∈ others B s.heap [], p ∈ news2 := fun p hp => m1 p (.tail _ (.tail _ hp))
  clear m1 keep hnd hlo hdo
  (try dsimp only)
  w_strict (k_steps)
  rename Fr _ _ _ _ => F
  rename News _ _ _ _ => N
  rename TupTab _ _ _ _ _ => T
  show wpAny _ _ _ _ _ _
  refine call_get1_tupTab_eq (knd := intKind _ _) (enc := PyData.int) (dv := PyData.str (S (sgn k))) PyProof.V.same_int (Nat.lt_of_le_of_lt (Nat.add_le_add_left (show 1 ≤ 64 by decide) _) (units_of am' (u := 36) (rm.less (d' := 1) (u' := 103) (by first | (simp +arith only; done) | lia | omega) (by first | (simp +arith only; done) | lia | omega)).deeper)) N (T.cons _) (.head _) (TupKeyObj.made (by tuptab_items_int)) (kinds_get hk) ?_
  intro kv hkv
  obtain ⟨tkv, rfl⟩ : ∃ t, kv = .str (S (sgn k)) t := by cases hkv s.heap; exact ⟨_, rfl⟩
  have N := news_tail N
  clear T hkv
  (try dsimp only)
  w_strict (k_steps)
  rename Fr _ _ _ _ => F
  rename News _ _ _ _ => N
  show wpAny _ _ _ _ _ _
  rename Fr _ _ _ _ => F
  rename News _ _ _ _ => N
  show wpAny _ _ _ _ _ _
  refine Gives.use (ih (amb_now (W := []) am F N (fun p hp => by repeat (first | exact hsub p hp | apply List.Mem.tail)) noW (by rfl) (by rfl)) (rm.deeper.less (by first | (simp +arith only; done) | lia | omega) (by first | (simp +arith only; done) | lia | omega)) (tr1.mono (ow_in N (fun p hp => by repeat (first | exact hsub p hp | apply List.Mem.tail)) (by rfl))) wf1) ?_
  rintro rv1 hN tkN ⟨hr, st⟩
  obtain ⟨FN, restN, NN, hsN, hall⟩ := after_keep [(x, instObj 104 dx), (dx, dictOf [ent w "command" k1 (.ref y1), ent w "path" k2 (.str (S p) tp), ent w "mode" k3 (.int (modeOf k) tm), ent w "descriptor" k4 (.int (descOf k) td)] 4)] F N st
  have NN : News B L hN ((x, instObj 104 dx) :: (dx, dictOf [ent w "command" k1 (.ref y1), ent w "path" k2 (.str (S p) tp), ent w "mode" k3 (.int (modeOf k) tm), ent w "descriptor" k4 (.int (descOf k) td)] 4) :: restN) := NN
  have hs1 := hr.mono (ow_out hall rfl)
  replace hsub : ∀ p ∈ others B s.heap [], p ∈ restN := fun p hp => hsN _ (hsub _ hp)
  clear F N st hsN hall hr
  obtain ⟨xs1, its1, rfl, hxs1⟩ := hs1.isRef
  (try dsimp only)
  w_strict (k_steps)
  rename Fr _ _ _ _ => F9
  rename News _ _ _ _ => N9
  rename (_ < _ ∧ _) => l0
  have hnD := fresh0 (fun p hp => allLt_mem l0.2.2 p (hsub p hp)) (N9 _ (.head _)).2.2
  exact hR _ _ _ ⟨.redir ⟨(N9 _ (.head _)).1, am.free hnD⟩ (hs1.mono (inR_ow2 N9 fun p hp => .tail _ (.tail _ (.tail _ hp)))), step_of F9 N9 am.stays (fun p hp => by repeat (first | exact hsub p hp | apply List.Mem.tail))⟩

theorem shapes : ∀ t : Tree, Shapes w mean mg mb B t := by
  intro t
  induction t with
  | run a => exact shape_run
  | redir k t p ih => exact shape_redir ih
  | pair c t1 t2 i1 i2 => exact shape_pair i1 i2
  | back t ih => exact shape_bk ih
end

section
open PySem PySem.W PySem.Calls PySem.Spec PyProof.Rows
local macro_rules | `(tactic| walk_at "compareOp Eq ref ref") => `(tactic| (k_here; refine stop_here ?_))
variable {w : World} {mean : ExcName → Option Value} {mg mb : Str → Option Value} {B : Heap} {A : Around} {l : List Env} {s : Shared}


theorem pTop_is {ts : List Tk} (ho : ∀ k ∈ ts, okM k) {t : Tree} : pTop ts = some t ↔ G 2 ts t := pTop_G ho
theorem ht_nd (t : Tree) : ht t ≤ nd t := by
  induction t with
  | run a => exact Nat.le_refl _
  | redir k t p ih => simp only [ht, nd]; (first | lia | omega)
  | pair c l r i1 i2 => simp only [ht, nd]; (first | lia | omega)
  | back t ih => simp only [ht, nd]; (first | lia | omega)
theorem Line.ok {x : List Nat} (_ : Line x) : ∀ k ∈ lex x, okM k := fun k hk => (lex_marks x k hk).1
theorem Line.okTk {x : List Nat} (h : Line x) : okTs (lex x) := fun k hk c hc => (h.chars c ((lex_marks x k hk).2.2 c hc).1).2
theorem Line.marksEq {x : List Nat} (h : Line x) : Mine.lm [] (rp x ++ [32]) = lex x := lm_is x fun c hc e => by have := (h.chars c hc).1; (first | lia | omega)
theorem Line.weight {x : List Nat} (_h : Line x) : wt (lex x) ≤ 32 := Nat.le_trans (wt_le_sgc _) (Nat.le_trans (lex_sgc x).1 _h.signs)
theorem Line.marks {x : List Nat} (h : Line x) : (lex x).length ≤ 100 := Nat.le_trans (lex_sgc x).2 h.len
theorem Line.read {x : List Nat} (h : Line x) {n : Nat} (hn : 303 ≤ n) : lLine n (lex x) = pTop (lex x) := two_readers h.ok (by have := h.marks; (first | lia | omega))
theorem Line.tree {x : List Nat} (h : Line x) {t : Tree} (ht : pTop (lex x) = some t) : WF t ∧ nd t ≤ 32 ∧ (txt t).length ≤ 65000 ∧ wt (lex (txt t)) ≤ 96 ∧ pTop (lex (txt t)) = some t := by
  have g := (pTop_is h.ok).mp ht
  obtain ⟨w, aw⟩ := G_wf (P := fun k => k.length ≤ 100) g fun k hk hw => h.word hk hw
  have hnd : nd t ≤ 32 := Nat.le_trans (G_nd g) (Nat.le_trans (lex_sgc x).1 h.signs)
  refine ⟨w, hnd, ?_, ?_, ?_⟩
  · have h1 := txt_len w aw
    have h2 := sz_nd t
    (first | lia | omega)
  · have h1 := wtx_txt w
    have h2 := lex_wt (txt t)
    (first | lia | omega)
  · have e := lex_txt w
    refine (pTop_is fun k hk => (lex_marks (txt t) k hk).1).mpr ?_
    rw [e]
    exact (mks_G w).2.2.2

/- all that is no frame stands; the frames stand up to their slots -/
noncomputable def StepU (l : List Env) (h h' : Heap) : Prop :=
  (∀ a o, h.get? a = some o → a ∉ l.filterMap (·.frame) → h'.get? a = some o) ∧ ∀ b o, h.get? b = some o → (∀ vs, o.data ≠ .fields vs) → ∃ sl, h'.get? b = some { o with slots := sl }
theorem StepU.of {l : List Env} {h h' : Heap} (st : Step [] h h') : StepU l h h' := ⟨fun a o e _ => st a o e (fun hm => nomatch hm), fun b o e _ => ⟨o.slots, st b o e (fun hm => nomatch hm)⟩⟩
/- a heap without the frames, as a ground for a call that may raise -/
theorem hide_amb {A : Around} {l : List Env} {h : Heap} (am : Amb w mean mg mb B A l h) : Amb w mean mg mb (hideAll h (l.filterMap (·.frame))) A l h := by
  have up : ∀ b o, B.get? b = some o → (hideAll h (l.filterMap (·.frame))).get? b = some o := fun b o e => hideAll_get _ (am.stays b o e) fun hm => by
    rw [(am.funs.mem hm).1] at e; cases e
  exact ⟨am.frames, fun b o e => of_hideAll _ e, funFrames_hide am.funs (fun env he a hf => List.mem_filterMap.mpr ⟨env, he, hf⟩), Nat.le_of_eq (hideAll_size _ _), am.inK.keeps up, am.top.keeps up, am.hand⟩
theorem hide_ow {A : Around} {l : List Env} {h h' : Heap} (am : Amb w mean mg mb B A l h) : ∀ a o, Ow (hideAll h (l.filterMap (·.frame))) l h' a o → Ow B l h' a o := fun a o q => by
  refine ⟨q.1, ⟨?_, q.2.frame⟩⟩
  cases e : B.get? a with
  | none => rfl
  | some o' =>
    have := hideAll_get _ (am.stays a o' e) q.2.frame
    rw [q.2.base] at this
    cases this
theorem amb_next {h₀ h₁ h : Heap} {W : List Addr} {env : Env} {L : Addr} {m : Str → Option Value} {news : List (Addr × Obj)} (_ : Amb w mean mg mb B (A.deeper env) (env :: l) h₁) (am : Amb w mean mg mb B A l h₀) (F : Fr B L h m) (N : News B L h news) (hs : ∀ p ∈ others B h₀ W, p ∈ news)
    (hW : ∀ a ∈ W, Free B l a) (hf : env.frame = some L) (hk : env.scope.kind = .function) : Amb w mean mg mb B (A.deeper env) (env :: l) h := amb_now am F N hs hW hf hk
theorem inR_push {h : Heap} {L : Addr} {news rest : List (Addr × Obj)} {env : Env} (N : News B L h news) (hs : ∀ p ∈ rest, p ∈ news) (he : env.frame = some L) : ∀ a o, InR B l rest a o → Ow B (env :: l) h a o :=
  fun a o q => ⟨(N _ (hs _ q.1)).1, q.2.push (N _ (hs _ q.1)).2.1 he⟩
section
variable {E : Value → Shared → Prop} {env : Env}
theorem handle_bad {e : Addr} {t : PySem.Expr} {b₀ : Stmt} {suite : List Stmt} {pos : Pos} {rest : List ExceptHandler} {Q : Flow → Shared → Prop}
    (h : wpAny (model PySem.Challenge.rw_nu0084_01.row.prog w) (A.mark (some (.ref e))) (eval t env) (fun c s₁ => c = .ref 64 ∧ (hd.heap_39 w.params).In s₁.heap ∧ (∃ oe, s₁.heap.get? e = some oe ∧ oe.cls = .ref 64) ∧
      wpAny (model PySem.Challenge.rw_nu0084_01.row.prog w) (A.mark (some (.ref e))) (setFlight (.ref e) none) (fun _ s₂ => wpAny (model PySem.Challenge.rw_nu0084_01.row.prog w) (A.mark (some (.ref e))) (execs (b₀ :: suite) env) Q (fun _ _ => False) s₂) (fun _ _ => False) s₁) (fun _ _ => False) s) :
    wpAny (model PySem.Challenge.rw_nu0084_01.row.prog w) A (handleBy (.ref e) env (.ExceptHandler (some t) none (b₀ :: suite) pos :: rest)) Q E s := by
  refine wpAny_handleBy_cons (codeAny_handlers_test (wpAny_mono h (fun c s₁ h₁ => ?_) fun _ _ y => y.elim)) (by intro q; cases q)
  obtain ⟨rfl, X, ⟨oe, he, hcls⟩, hk⟩ := h₁
  obtain ⟨hh, g, d, tk, os⟩ := s₁
  exact wpAny_excMatches_sub_self (bad_cls X) he hcls (by decide +kernel) (codeAny_handlers_suite (wpAny_mono hk (fun _ _ y => wpAny_mono y (fun _ _ y => y) fun _ _ y => y.elim) fun _ _ y => y.elim))
end
theorem shape_eq {prog : Program} {E : Value → Shared → Prop} {P1 P2 : Addr → Obj → Prop} {v1 v2 : Value} {t : Tree} {Q : Value → Shared → Prop} (h1 : ShIn P1 v1 t) (h2 : ShIn P2 v2 t) (p1 : ∀ a o, P1 a o → s.heap.get? a = some o) (p2 : ∀ a o, P2 a o → s.heap.get? a = some o)
    (wf : WF t) (hn : nd t ≤ 32) (hu : A.units + 64 < cLine) (h : Q (.bool true) s) : wpAny (model prog w) A (compareOp .Eq v1 v2) Q E s := by
  obtain ⟨as, r1⟩ := h1.reads p1
  obtain ⟨bs, r2⟩ := h2.reads p2
  have hd := shD_depth t
  have hh := ht_nd t
  refine SeqAt.compareEq_reads r1 r2 (shD_lay wf) (shD_lay wf) (Nat.lt_of_le_of_lt (Nat.add_le_add_left (Nat.le_trans (Nat.min_le_left _ _) (by first | (simp +arith only; done) | lia | omega)) _) hu) ?_
  rw [shD_eqv]
  exact h

theorem right_spec (am : Amb w mean mg mb B A l s.heap) {x : List Nat} (hx : Line x) {tx : Tok} (rm : Room A 500 3000) :
    Gives w A 344 [.str (S x) tx] s (fun v h' => v = .bool true ∧ StepU l s.heap h') := by
  have T := am.top
  have X := am.inK
  refine call_ok (by k_is) (by k_is) am rm.ok (binds := [("line", .str (S x) tx)]) (BindsTo.of_eq rfl) (locs rfl) (others B s.heap []) others_here ?_
  intro L h₁ tk₁ R eL F N am' _ hR
  have hsub : ∀ p ∈ others B s.heap [], p ∈ others B s.heap [] := fun _ h => h
  have hu := units_of am' (u := 36) (rm.less (d' := 1) (u' := 103) (by first | (simp +arith only; done) | lia | omega) (by first | (simp +arith only; done) | lia | omega)).deeper
  have hxl : (S x).length ≤ 100 := by rw [S_len]; exact hx.len
  w_strict (k_steps)
  rename Fr _ _ _ _ => F
  rename News _ _ _ _ => N
  show wpAny _ _ _ _ _ _
  refine Gives.use (marks_spec (amb_now (W := []) am F N (fun p hp => by repeat (first | exact hsub p hp | apply List.Mem.tail)) noW (by rfl) (by rfl)) (by first | (simp +arith only; done) | lia | omega) (rm.deeper.less (by first | (simp +arith only; done) | lia | omega) (by first | (simp +arith only; done) | lia | omega))) ?_
  rintro v hN tkN ⟨al, vs, c, rfl, st, hal, hfal, hvs⟩
  rw [S_cps, hx.marksEq] at hvs
  have hal0 : (al, listOf vs c) ∈ others B hN [L] := mem_others.mpr ⟨hal, (fun hm => hfal.frame (by rw [List.mem_singleton.mp hm]; exact .head _)), hfal.base⟩
  obtain ⟨FN, restN, NN, hsN, hall⟩ := after_keep [] F N st
  have NN := news_sub NN (sub1 (hall al _ hal (hfal.ne rfl) hfal.base))
  replace hsub : ∀ p ∈ others B s.heap [], p ∈ restN := fun p hp => hsN _ (hsub _ hp)
  clear F N st hsN
  clear hal0 hall hal
  have hfal := hfal.drop
  (try dsimp only)
  w_strict (k_steps)
  rename Fr _ _ _ _ => F
  rename News _ _ _ _ => N
  show wpAny _ _ _ _ _ _
  refine Gives.use ((readsL 303).2.2 (amb_now (W := []) am F N (fun p hp => by repeat (first | exact hsub p hp | apply List.Mem.tail)) noW (by rfl) (by rfl)) (rm.deeper.less (by first | (simp +arith only; done) | lia | omega) (by first | (simp +arith only; done) | lia | omega)) ⟨(N _ (.head _)).1, hfal.push (N _ (.head _)).2.1 (by rfl)⟩ hvs hx.okTk (by have := hx.marks; (first | lia | omega)) (by have := hx.marks; (first | lia | omega))) ?_
  have up0 : Step [] s.heap _ := step_of F N am.stays (fun p hp => by repeat (first | exact hsub p hp | apply List.Mem.tail))
  rintro dv hN tkN ⟨hdv, st⟩
  rw [hx.read (Nat.le_refl _)] at hdv
  obtain ⟨FN, restN, NN, hsN, hall⟩ := after_keep [(al, listOf vs c)] F N st
  have NN : News B L hN ((al, listOf vs c) :: restN) := NN
  have NN := news_tail NN
  replace hsub : ∀ p ∈ others B s.heap [], p ∈ restN := fun p hp => hsN _ (hsub _ hp)
  have hdv := hdv.mono (owf_out up0 hall rfl)
  clear F N st hsN hall up0
  (try dsimp only)
  w_strict (k_steps)
  rename Fr _ _ _ _ => F
  rename News _ _ _ _ => N
  have up0 : Step [] s.heap _ := step_of F N am.stays (fun p hp => by repeat (first | exact hsub p hp | apply List.Mem.tail))
  have am2 := amb_next (W := []) am' am F N (fun p hp => by repeat (first | exact hsub p hp | apply List.Mem.tail)) noW (by rfl) (by rfl)
  show wpAny _ _ _ _ _ _
  refine GivesOr.use (parse_spec (hide_amb am2) (x := S x) (by first | (simp +arith only; done) | lia | omega) (rm.deeper.less (by rw [S_cps]; have := hx.weight; (first | lia | omega)) (by rw [S_cps]; have := hx.weight; (first | lia | omega)))) ?_ ?_
  rotate_left
  · rintro e h' tk' ⟨hC, ⟨⟨a0, hfl⟩, hup⟩⟩
    rw [S_cps] at hC
    rw [hC] at hdv
    have e0 : dv = .none := hdv
    subst e0
    (try dsimp only)
    refine wpAny_looks_onW am2.frames rfl hfl fun h4 hheld4 hsm4 => ?_
    refine wpAny_landsW hheld4 fun h5 hheld hsm5 => ?_
    have hup5 := (hup.slots hsm4).slots hsm5
    have keep5 : ∀ b o, B.get? b = some o → h5.get? b = some o := fun b o q => hheld.1 b o (hideAll_get _ (F.keep b o q) fun hm => by rw [(am2.funs.mem hm).1] at q; cases q)
    have F5 := F.of_stays keep5 (fun b o q1 q2 => hup5 b o q1 (fun hm => nomatch hm) q2)
    clear hup hsm4 hsm5 hheld4 hfl
    refine handle_bad ?_
    refine wpAny_mono (Q := fun c s₁ => Halt (c = .ref 64 ∧ s₁ = { s with heap := h5, toks := tk' })) ?_ ?_ (fun _ _ q => q)
    · w_strict (k_steps)
      exact .mk ⟨rfl, rfl⟩
    rintro c s₁ ⟨⟨rfl, rfl⟩⟩
    refine ⟨rfl, am.inK.keeps keep5, hheld.there, ?_⟩
    refine lands_againW hheld fun h6 hheld6 hsm6 => ?_
    have hup6 := hup5.slots hsm6
    have keep6 : ∀ b o, B.get? b = some o → h6.get? b = some o := fun b o q => hheld6.1 b o (hideAll_get _ (F.keep b o q) fun hm => by rw [(am2.funs.mem hm).1] at q; cases q)
    have F6 := F.of_stays keep6 (fun b o q1 q2 => hup6 b o q1 (fun hm => nomatch hm) q2)
    have N6 : News B L h6 [] := fun _ hp => nomatch hp
    have out : StepU l s.heap h6 := by
      refine ⟨fun a o q hn => ?_, fun b o q hn => ?_⟩
      · have q2 := up0 a o q (fun hm => nomatch hm)
        refine hheld6.1 a o (hideAll_get _ q2 fun hm => ?_)
        rcases kts_mem hm with e | hm
        · have := Heap.lt_size q
          rw [e, eL] at this
          exact Nat.lt_irrefl _ this
        · exact hn hm
      · exact hup6 b o (up0 b o q (fun hm => nomatch hm)) (fun hm => nomatch hm) hn
    clear F5 hheld hheld6 hup5 hup6 keep5 F N up0
    (try dsimp only)
    w_strict (k_steps)
    exact hR _ _ _ ⟨rfl, out⟩
  · clear up0
    rintro v hN tkN ⟨t, ht, st, tr⟩
    rw [S_cps] at ht
    obtain ⟨wf, hnd, htl, hwt, ht2⟩ := hx.tree ht
    rw [ht] at hdv
    have hdv : ShIn (InF B l s.heap restN) dv t := hdv
    obtain ⟨xd, itd, rfl, hxd⟩ := hdv.isRef
    clear hxd
    have hht := ht_nd t
    have tr := tr.mono (hide_ow am2)
    obtain ⟨FN, rest2, NN, hsN, hall⟩ := after_keep [] F N st
    have NN : News B L hN rest2 := NN
    have tr := tr.mono (ow_out hall rfl)
    have hdv := hdv.mono (inF_sub hsN)
    replace hsub : ∀ p ∈ others B s.heap [], p ∈ rest2 := fun p hp => hsN _ (hsub p hp)
    clear F N st hsN hall am2
    obtain ⟨y1, dy, es, en, rfl, hy1, hdy⟩ := tr.inst
    clear hy1 hdy
    (try dsimp only)
    w_strict (k_steps)
    rename Fr _ _ _ _ => F
    rename News _ _ _ _ => N
    show wpAny _ _ _ _ _ _
    refine Gives.use (shapes t (amb_now (W := []) am F N (fun p hp => by repeat (first | exact hsub p hp | apply List.Mem.tail)) noW (by rfl) (by rfl)) (rm.deeper.less (by first | (simp +arith only; done) | lia | omega) (by first | (simp +arith only; done) | lia | omega)) (tr.mono (inR_push N (fun p hp => by repeat (first | exact hp | apply List.Mem.tail)) (by rfl))) wf) ?_
    rintro sv1 hN tkN ⟨hsv1, st⟩
    obtain ⟨FN, restN, NN, hsN, hall⟩ := after_keep [] F N st
    have NN : News B L hN restN := NN
    have hsv1 := hsv1.mono (ow_out hall rfl)
    have tr := tr.mono (inR_sub hsN)
    have hdv := hdv.mono (inF_sub hsN)
    replace hsub : ∀ p ∈ others B s.heap [], p ∈ restN := fun p hp => hsN _ (hsub _ hp)
    clear F N st hsN hall
    (try dsimp only)
    obtain ⟨xs1, its1, rfl, hxs1⟩ := hsv1.isRef
    clear hxs1
    w_strict (k_steps)
    rename Fr _ _ _ _ => F
    rename News _ _ _ _ => N
    show wpAny _ _ _ _ _ _
    refine shape_eq hsv1 hdv (fun a o q => (N _ (by repeat (first | exact q.1 | apply List.Mem.tail))).1) (fun a o q => (N _ (by repeat (first | exact q.1.1 | apply List.Mem.tail))).1) wf hnd hu ?_
    (try dsimp only)
    w_strict (k_steps)
    rename Fr _ _ _ _ => F
    rename News _ _ _ _ => N
    show wpAny _ _ _ _ _ _
    refine Gives.use (texts t (amb_now (W := []) am F N (fun p hp => by repeat (first | exact hsub p hp | apply List.Mem.tail)) noW (by rfl) (by rfl)) (rm.deeper.less (by first | (simp +arith only; done) | lia | omega) (by first | (simp +arith only; done) | lia | omega)) (tr.mono (inR_push N (fun p hp => by repeat (first | exact hp | apply List.Mem.tail)) (by rfl))) wf (by first | (simp +arith only; done) | lia | omega)) ?_
    rintro _ hN tkN ⟨⟨tt, rfl⟩, st⟩
    obtain ⟨FN, restN, NN, hsN, hall⟩ := after_keep [] F N st
    have NN : News B L hN restN := NN
    have hdv := hdv.mono (inF_sub hsN)
    replace hsub : ∀ p ∈ others B s.heap [], p ∈ restN := fun p hp => hsN _ (hsub _ hp)
    clear F N st hsN hall
    (try dsimp only)
    w_strict (k_steps)
    rename Fr _ _ _ _ => F
    rename News _ _ _ _ => N
    show wpAny _ _ _ _ _ _
    have hl2 : (S (txt t)).length ≤ 1000000 := by rw [S_len]; (first | lia | omega)
    refine GivesOr.use (parse_spec (amb_now (W := []) am F N (fun p hp => by repeat (first | exact hsub p hp | apply List.Mem.tail)) noW (by rfl) (by rfl)) (x := S (txt t)) hl2 (rm.deeper.less (by rw [S_cps]; (first | lia | omega)) (by rw [S_cps]; (first | lia | omega)))) ?_ ?_
    rotate_left
    · rintro e h' tk' ⟨hC, _⟩
      rw [S_cps, ht2] at hC
      cases hC
    rintro v hN tkN ⟨t2, ht3, st, tr⟩
    rw [S_cps, ht2] at ht3
    cases ht3
    obtain ⟨FN, restN, NN, hsN, hall⟩ := after_keep [] F N st
    have NN : News B L hN restN := NN
    have tr := tr.mono (ow_out hall rfl)
    have hdv := hdv.mono (inF_sub hsN)
    replace hsub : ∀ p ∈ others B s.heap [], p ∈ restN := fun p hp => hsN _ (hsub _ hp)
    clear F N st hsN hall
    (try dsimp only)
    obtain ⟨y2, dy, es, en, rfl, hy1, hdy⟩ := tr.inst
    clear hy1 hdy
    (try dsimp only)
    w_strict (k_steps)
    rename Fr _ _ _ _ => F
    rename News _ _ _ _ => N
    show wpAny _ _ _ _ _ _
    refine Gives.use (shapes t (amb_now (W := []) am F N (fun p hp => by repeat (first | exact hsub p hp | apply List.Mem.tail)) noW (by rfl) (by rfl)) (rm.deeper.less (by first | (simp +arith only; done) | lia | omega) (by first | (simp +arith only; done) | lia | omega)) (tr.mono (inR_push N (fun p hp => by repeat (first | exact hp | apply List.Mem.tail)) (by rfl))) wf) ?_
    rintro sv2 hN tkN ⟨hsv2, st⟩
    obtain ⟨FN, restN, NN, hsN, hall⟩ := after_keep [] F N st
    have NN : News B L hN restN := NN
    have hsv2 := hsv2.mono (ow_out hall rfl)
    have hdv := hdv.mono (inF_sub hsN)
    replace hsub : ∀ p ∈ others B s.heap [], p ∈ restN := fun p hp => hsN _ (hsub _ hp)
    clear F N st hsN hall
    (try dsimp only)
    obtain ⟨xs2, its2, rfl, hxs2⟩ := hsv2.isRef
    clear hxs2
    w_strict (k_steps)
    rename Fr _ _ _ _ => F
    rename News _ _ _ _ => N
    show wpAny _ _ _ _ _ _
    refine shape_eq hsv2 hdv (fun a o q => (N _ (by repeat (first | exact q.1 | apply List.Mem.tail))).1) (fun a o q => (N _ (by repeat (first | exact q.1.1 | apply List.Mem.tail))).1) wf hnd hu ?_
    (try dsimp only)
    w_strict (k_steps)
    rename Fr _ _ _ _ => F
    rename News _ _ _ _ => N
    exact hR _ _ _ ⟨rfl, StepU.of (step_of F N am.stays (fun p hp => by repeat (first | exact hsub p hp | apply List.Mem.tail)))⟩
end

section
open PySem PySem.W PySem.Calls PySem.Spec PyProof.Rows
local macro_rules | `(tactic| walk_at "exec For") => `(tactic| (k_here; refine stop_here ?_))
variable {w : World} {mean : ExcName → Option Value} {mg mb : Str → Option Value} {B : Heap} {A : Around} {l : List Env} {s : Shared}


section
variable {prog : Program} {E : Value → Shared → Prop} {env : Env} {x : Str} {body : List Stmt} {Q : Flow → Shared → Prop}
/- a for over a list of the ledger, whose turns turn names alone -/
theorem for_list {la : Addr} {lv : Array Value} {lc : Nat} {m : Str → Option Value} {news : List (Addr × Obj)} (J : Nat → (Str → Option Value) → Prop) (hh : A.handled = none)
    (F : Fr B env.locals s.heap m) (N : News B env.locals s.heap news) (hl : (la, listOf lv lc) ∈ news) (h0 : J 0 m)
    (turn : ∀ i v m₁ own h tk, lv[i]? = some v → J i m₁ → Fr B env.locals h (fun y => if y = x then some v else m₁ y) → News B env.locals h (own ++ news) →
      wpAny (model prog w) A (execs body env) (turnQ (KeepEnd B env.locals (own ++ news) (J (i + 1)) (fun h t => { s with heap := h, toks := t })) Q) E { s with heap := h, toks := tk })
    (done : ∀ h' tk m', Fr B env.locals h' m' → News B env.locals h' news → J lv.size m' → Q .next { s with heap := h', toks := tk }) :
    wpAny (model prog w) A (pyIter (.ref la)) (fun it s₂ => LoopAtV prog w A B env x body Q E it s₂) E s := by
  have hL : s.heap.IsList la lv := News.isList N hl
  have hlt : la < s.heap.objs.size := Heap.lt_size (N _ hl).1
  refine wpAny_pyIter_list hL ?_
  refine for_own (n := lv.size) (fun i m₁ news₁ => news₁ = news ∧ J i m₁) (Walks.list hh s.heap.objs.size la (Nat.ne_of_lt hlt) lv) ?_ ?_ ?_ ⟨⟨_, Heap.get?_push_size _ rfl, rfl, rfl⟩, hL.push _⟩ (F.push _) (fun p hp => ⟨Heap.get?_push_of_some _ (N p hp).1, (N p hp).2⟩) ⟨rfl, h0⟩ ?_ (fun h' tk m' news' F' N' hj => done h' tk m' F' (hj.1 ▸ N') hj.2)
  · intro hm
    rcases List.mem_cons.mp hm with e | hm
    · exact absurd F.ns.lt (e ▸ Nat.lt_irrefl _)
    · exact (N _ hl).2.1 (List.mem_singleton.mp hm).symm
  · intro b hb
    rw [List.mem_singleton.mp hb]
    exact next_is_new F
  · intro p hp hI
    exact absurd (Heap.lt_size (N p hp).1) ((List.mem_singleton.mp hI) ▸ Nat.lt_irrefl _)
  · rintro i v m₁ news₁ own h tk hi hv ⟨rfl, hJ⟩ hoff hown _ _ F₁ N₁
    refine wpAny_mono (turn i v m₁ own h tk hv hJ F₁ N₁) (fun f s₂ q => ?_) fun _ _ e => e
    cases f with
    | ret v => exact q
    | brk => exact q
    | next =>
      obtain ⟨h', tk', m₂, e, F', N', hj⟩ := q
      exact ⟨h', tk', m₂, _, e, F', N', hoff, rfl, hj⟩
    | cont =>
      obtain ⟨h', tk', m₂, e, F', N', hj⟩ := q
      exact ⟨h', tk', m₂, _, e, F', N', hoff, rfl, hj⟩
end
noncomputable def poolMap (v0 v1 v2 : Option Value) : Str → Option Value := fun y => if y = Str.ofString "script" then v0 else if y = Str.ofString "whole" then v1 else if y = Str.ofString "cell" then v2 else none
theorem poolMap_whole {v0 : Option Value} {v1 : Option Value} {v2 : Option Value} {z : Option Value} {y : Str} : (if y = Str.ofString "whole" then z else poolMap v0 v1 v2 y) = poolMap v0 z v2 y := by
  by_cases q : y = Str.ofString "whole"
  · subst q; rfl
  · rw [if_neg q]; unfold poolMap; simp only [if_neg q]
theorem poolMap_cell {v0 : Option Value} {v1 : Option Value} {v2 : Option Value} {z : Option Value} {y : Str} : (if y = Str.ofString "cell" then z else poolMap v0 v1 v2 y) = poolMap v0 v1 z y := by
  by_cases q : y = Str.ofString "cell"
  · subst q; rfl
  · rw [if_neg q]; unfold poolMap; simp only [if_neg q]

inductive PoolOut (s : Shared) (B : Heap) (l : List Env) (v : Value) (h' : Heap) : Prop
  | mk : ∀ pl p0 p1 t0 t1 n, (v = .ref pl) → (Step [] s.heap h') → (h'.get? pl = some (listOf #[.int p0 t0, .int p1 t1] n)) → (Free B l pl) → (s.heap.get? pl = none) → (0 ≤ p0) → (0 ≤ p1) → (p1 < 2147483647) → PoolOut s B l v h'
inductive PoolLoop (sl : Addr) (i : Nat) (m : Str → Option Value) : Prop
  | mk : ∀ wv tw cv, (m = poolMap (some (.ref sl)) (some (.int wv tw)) cv) → (0 ≤ wv) → (wv < 1000000000000000000000000000000000000000000000000000000000000000000000000000000000000000000) → PoolLoop sl i m
theorem pool_spec (am : Amb w mean mg mb B A l s.heap) (rm : Room A 10 300) {sl : Addr} {vs : List Value} {ns : List Int} (hL : B.IsList sl vs.toArray) (hI : IntsAre vs ns) (hn : ns.length ≤ 63) (hb : ∀ k ∈ ns, Builtin.Int.intBits k ≤ 1048576) :
    Gives w A 290 [.ref sl] s (PoolOut s B l) := by
  have T := am.top
  have X := am.inK
  have hvl := hI.length
  refine call_ok (by k_is) (by k_is) am rm.ok (binds := [("script", .ref sl)]) (BindsTo.of_eq rfl) (locs rfl) (others B s.heap []) ?_ ?_
  · intro p hp
    · exact others_here p hp
  intro L h₁ tk₁ R _ F N am' _ hR
  have hsub : ∀ p ∈ others B s.heap [], p ∈ others B s.heap [] := fun _ h => h
  w_strict (k_steps)
  show wpAny _ _ _ _ _ _
  refine For_invV B rfl rfl ?_ (hE := .never)
  w_strict (k_steps)
  rename Fr _ _ _ _ => F
  rename News _ _ _ _ => N
  rename IntsAre _ _ => hI2
  rename_i D ws _ l0 _ _ _
  show wpAny _ _ _ _ _ _
  have big : (10 : Int) ^ 90 = 1000000000000000000000000000000000000000000000000000000000000000000000000000000000000000000 := by decide
  refine for_list (lc := 0) (m := poolMap (some (.ref sl)) (some (.int 23 _)) none) (PoolLoop sl) am'.hand (fr_congr F fun y => by
    unfold poolMap
    by_cases q0 : y = Str.ofString "script"
    · subst q0; rfl
    by_cases q1 : y = Str.ofString "whole"
    · subst q1; rfl
    by_cases q2 : y = Str.ofString "cell"
    · subst q2; rfl
    simp only [if_neg q0, if_neg q1, if_neg q2]
    rw [lk1, if_neg q0]) N (.head _) ⟨23, _, none, rfl, by decide, by decide⟩ ?_ ?_
  · clear F N
    rintro i v m₁ own h tk hv ⟨wv, tw, cv, rfl, h0, h1⟩ F N
    obtain ⟨k, t, rfl, hk⟩ := hI2.at i v (by simpa using hv)
    have hkb := hb k (List.mem_of_mem_take (List.mem_of_getElem? hk))
    w_strict (k_steps)
    all_goals rename Fr _ _ _ _ => F9
    all_goals rename News _ _ _ _ => N9
    all_goals refine' ⟨_, _, _, rfl, fr_congr F9 (m' := poolMap (some (.ref sl)) (some (.int _ _)) (some (.int k t))) ?ze, N9, _, _, _, rfl, ?za, ?zb⟩
    case ze =>
      intro y
      ((simp only [poolMap_whole, poolMap_cell]); try rfl)

    case za => exact Int.fmod_nonneg_of_pos _ (by decide)
    case zb => exact Int.lt_of_lt_of_le (Int.fmod_lt_of_pos _ (by decide)) (by decide)
  · clear F N
    rintro h' tk' m' F N ⟨wv, tw, cv, rfl, h0, h1⟩
    (try dsimp only)
    w_strict (k_steps)
    rename Fr _ _ _ _ => F9
    rename News _ _ _ _ => N9
    rename (_ < _ ∧ _) => l1
    have hn0 := fresh0 (fun p hp => allLt_mem l1.2 p (hsub p hp)) (N9 _ (.head _)).2.2
    exact hR _ _ _ ⟨_, wv, _, tw, _, 0, rfl, step_of F9 N9 am.stays (fun p hp => by repeat (first | exact hsub p hp | apply List.Mem.tail)), (N9 _ (.head _)).1, am.free hn0, hn0, h0, Int.fmod_nonneg_of_pos _ (by decide), Int.fmod_lt_of_pos _ (by decide)⟩
end

section
open PySem PySem.W PySem.Calls PySem.Spec PyProof.Rows
variable {w : World} {mean : ExcName → Option Value} {mg mb : Str → Option Value} {B : Heap} {A : Around} {l : List Env} {s : Shared}


theorem StrsI.consS {x : Str} {a : Tk} {t : Tok} {vs : List Value} {r : List Tk} (e : x = S a) (h : StrsI vs r) : StrsI (.str x t :: vs) (a :: r) := e ▸ .cons h
noncomputable def termM : List Tk := [[108, 115], [99, 97, 116], [97], [102, 49], [46, 46]]
noncomputable def tailM : List Tk := [[32, 120], [], [32, 121, 32, 122]]
noncomputable def redM : List Tk := [[32, 60, 32], [62], [32, 62, 62, 32]]
theorem lt5 {x : Int} (h : x < 5) : x < ((termM.length : Nat) : Int) := h
theorem lt3 {x : Int} (h : x < 3) : x < ((tailM.length : Nat) : Int) := h
theorem term_are (a b c d e : Tok) : StrsI (#[.str (Str.ofString "ls") a, .str (Str.ofString "cat") b, .str (Str.ofString "a") c, .str (Str.ofString "f1") d, .str (Str.ofString "..") e] : Array Value).toList termM :=
  .consS (by decide +kernel) (.consS (by decide +kernel) (.consS (by decide +kernel) (.consS (by decide +kernel) (.consS (by decide +kernel) .nil))))
theorem tail_are (a b c : Tok) : StrsI (#[.str (Str.ofString " x") a, .str (Str.ofString "") b, .str (Str.ofString " y z") c] : Array Value).toList tailM :=
  .consS (by decide +kernel) (.consS (by decide +kernel) (.consS (by decide +kernel) .nil))
theorem red_are (a b c : Tok) : StrsI (#[.str (Str.ofString " < ") a, .str (Str.ofString ">") b, .str (Str.ofString " >> ") c] : Array Value).toList redM :=
  .consS (by decide +kernel) (.consS (by decide +kernel) (.consS (by decide +kernel) .nil))
section
variable {prog : Program} {E : Value → Shared → Prop} {L lst : Addr} {news : List (Addr × Obj)} {value slice : PySem.Expr} {its : Array Value} {c : Nat} {ys : List Tk} {Q : Value → Shared → Prop}
/- an item of a written menu of texts -/
theorem menu_S {x : Int} {u : Tok} (N : News B L s.heap news) (hm : (lst, listOf its c) ∈ news) (hvs : StrsI its.toList ys) (h0 : 0 ≤ x) (h1 : x < (ys.length : Int)) (h : ∀ k t, k ∈ ys → (S k).length ≤ 4 → Q (.str (S k) t) s)
    (hs : subscripted slice false (.ref lst) (.int x u) = operate [.ref lst, .int x u] (getItem (.ref lst) (.int x u))) (hg : ∀ r, letTemporaryGo value (.ref lst) r = pure ()) (hz : ys.length ≤ 100) (hy : ∀ k ∈ ys, k.length ≤ 4) :
    wpAny (model prog w) A (subscriptTail value slice (.ref lst) (.int x u)) Q E s := by
  obtain ⟨i, rfl⟩ : ∃ i : Nat, x = (i : Int) := ⟨x.toNat, by (first | lia | omega)⟩
  have hi : i < ys.length := by (first | lia | omega)
  have hk : ys[i]? = some ys[i] := List.getElem?_eq_getElem hi
  exact item_S N hm hvs rfl hk (by rw [hvs.size]; (first | lia | omega)) (fun t => h _ t (List.getElem_mem hi) (by rw [S_len]; exact hy _ (List.getElem_mem hi))) hs hg
end
local macro_rules | `(tactic| walk_at "go") => `(tactic| fail_if_success (have : GoOn := by walk_at "r"))
local macro_rules | `(tactic| walk_at "exec If") => `(tactic| (k_here; walk_at "go"; refine stop_here ?_))
local macro_rules | `(tactic| walk_at "gri") => `(tactic| with_reducible show wpAny _ _ (subscriptTail _ _ (Value.ref _) (Value.int _ _)) _ _ _)
local macro_rules | `(tactic| walk_at "subscriptTail") => `(tactic| (k_here; walk_at "gri"; with_unfolding_all refine menu_S (by k_asm) (by k_mem) (by first | exact term_are .. | exact tail_are .. | exact red_are ..) (by lia) (by first | exact lt5 (by walk_at "r") | exact lt3 (by walk_at "r")) (fun _ _ _ _ => ?_) (by rfl) (fun _ => by rfl) (by decide) (by decide)))

theorem use_take {f : Addr} {args : List Value} {many : Int} {pl : Addr} (g : Gives w A f args s (TakeOut many pl s)) {Q E : Value → Shared → Prop}
    (h : ∀ h' tk' d td, 0 ≤ d → d < many → Step [pl] s.heap h' → ∀ p0 p1 t0 t1 n, h'.get? pl = some (listOf #[.int p0 t0, .int p1 t1] n) → 0 ≤ p0 → 0 ≤ p1 → p1 < 2147483647 → Q (.int d td) { s with heap := h', toks := tk' }) :
    wpAny (model PySem.Challenge.rw_nu0084_01.row.prog w) A (call (.ref f) args) Q E s := g.use fun _ h' tk' q => by
  obtain ⟨⟨d, td, rfl, a, b⟩, st, p0, p1, t0, t1, n, hp, x, y, z⟩ := q
  exact h h' tk' d td a b st p0 p1 t0 t1 n hp x y z
theorem hot_cons {D pl : Addr} {o : Obj} {rest : List (Addr × Obj)} (l1 : pl < D) (h : ∀ p ∈ rest, p.1 ≠ pl) : ∀ p ∈ (D, o) :: rest, p.1 ≠ pl := all_cons (Ne.symm (Nat.ne_of_lt l1)) (fun p hp => h p hp)
inductive AfterPool (B : Heap) (L : Addr) (h' : Heap) (m : Str → Option Value) (pl : Addr) (o' : Obj) (ex : List (Addr × Obj)) (rest : List (Addr × Obj))  : Prop
  | mk : (Fr B L h' m) → ∀ rest', (News B L h' ((pl, o') :: (ex ++ rest'))) → ((∀ p ∈ ex ++ rest', p.1 ≠ pl)) → ((∀ p ∈ rest, p ∈ rest')) → AfterPool B L h' m pl o' ex rest
theorem after_pool {h h' : Heap} {L pl : Addr} {m : Str → Option Value} {o o' : Obj} {ex rest : List (Addr × Obj)} (F : Fr B L h m) (N : News B L h ((pl, o) :: (ex ++ rest))) (hoth : ∀ p ∈ ex ++ rest, p.1 ≠ pl) (st : Step [pl] h h') (hp : h'.get? pl = some o') :
    AfterPool B L h' m pl o' ex rest := by
  have hL : pl ≠ L := (N _ (.head _)).2.1
  obtain ⟨F', rest', N', a1, a2, a3⟩ := snap (X := [pl]) (ex := (pl, o) :: ex) (rest := rest) F N st (fun hm => hL (List.mem_singleton.mp hm).symm) (fun a hm => by rw [List.mem_singleton.mp hm]; exact (N _ (.head _)).2.2)
    ((pl, o') :: ex) (fun p hq => by
      rcases List.mem_cons.mp hq with rfl | hq
      · exact ⟨hp, (N _ (.head _)).2⟩
      · have q := N p (.tail _ (List.mem_append_left _ hq))
        exact ⟨st _ _ q.1 (fun hm => hoth p (List.mem_append_left _ hq) (List.mem_singleton.mp hm)), q.2⟩)
  refine ⟨F', rest', N', fun p hq => ?_, fun p hq => a1 p hq (fun hm => hoth p (List.mem_append_right _ hq) (List.mem_singleton.mp hm)) (fun hm => hoth p (List.mem_append_right _ hq) (List.mem_singleton.mp hm))⟩
  rcases List.mem_append.mp hq with hq | hq
  · exact hoth p (List.mem_append_left _ hq)
  · exact a3 pl (.head _) p hq

noncomputable def lenB : Nat → Nat
  | 0 => 7
  | d + 1 => 2 * lenB d + 3
noncomputable def sgB : Nat → Nat
  | 0 => 0
  | d + 1 => 2 * sgB d + 2
noncomputable def MadeOk (d : Nat) (x : List Nat) : Prop := x.length ≤ lenB d ∧ (∀ c ∈ x, 32 ≤ c ∧ c < 127) ∧ sgx x ≤ sgB d
theorem made0 {k1 k2 : Tk} (h1 : k1 ∈ termM) (h2 : k2 ∈ tailM) : MadeOk 0 (k1 ++ k2) := by
  have : ∀ k1 ∈ termM, ∀ k2 ∈ tailM, (k1 ++ k2).length ≤ 7 ∧ (∀ c ∈ k1 ++ k2, 32 ≤ c ∧ c < 127) ∧ sgx (k1 ++ k2) ≤ 0 := by decide +kernel
  exact this k1 h1 k2 h2
theorem MadeOk.up {d : Nat} {x : List Nat} (h : MadeOk 0 x) : MadeOk (d + 1) x := by
  have h1 : 7 ≤ lenB (d + 1) := by
    induction d with
    | zero => decide
    | succ d ih => rw [lenB]; (first | lia | omega)
  exact ⟨Nat.le_trans h.1 h1, h.2.1, Nat.le_trans h.2.2 (Nat.zero_le _)⟩
theorem MadeOk.mid {d : Nat} {a x b : List Nat} (h : x.length + (a.length + b.length) ≤ lenB (d + 1)) (hx : ∀ c ∈ x, 32 ≤ c ∧ c < 127) (ha : ∀ c ∈ a, 32 ≤ c ∧ c < 127) (hb : ∀ c ∈ b, 32 ≤ c ∧ c < 127) (hs : sgx x + (sgx a + sgx b) ≤ sgB (d + 1)) : MadeOk (d + 1) (a ++ x ++ b) := by
  refine ⟨by rw [List.length_append, List.length_append]; (first | lia | omega), fun c hc => ?_, by rw [sgx_app, sgx_app]; (first | lia | omega)⟩
  rcases List.mem_append.mp hc with hc | hc
  · rcases List.mem_append.mp hc with hc | hc
    · exact ha c hc
    · exact hx c hc
  · exact hb c hc
theorem made_two {d : Nat} {x1 x2 m : List Nat} (h1 : MadeOk d x1) (h2 : MadeOk d x2) (hl : m.length ≤ 3) (hm : ∀ c ∈ m, 32 ≤ c ∧ c < 127) (hs : sgx m ≤ 2) : MadeOk (d + 1) (x1 ++ m ++ x2) :=
  .mid (by have := h1.1; have := h2.1; rw [lenB]; (first | lia | omega)) hm h1.2.1 h2.2.1 (by have := h1.2.2; have := h2.2.2; rw [sgB]; (first | lia | omega))
theorem made_one {d : Nat} {x1 a b : List Nat} (h1 : MadeOk d x1) (hl : a.length + b.length ≤ 2) (hm : ∀ c ∈ a ++ b, 32 ≤ c ∧ c < 127) (hs : sgx a + sgx b ≤ 2) : MadeOk (d + 1) (a ++ x1 ++ b) :=
  .mid (by have := h1.1; rw [lenB]; (first | lia | omega)) h1.2.1 (fun c hc => hm c (List.mem_append_left _ hc)) (fun c hc => hm c (List.mem_append_right _ hc)) (by have := h1.2.2; rw [sgB]; (first | lia | omega))
theorem made_red {d : Nat} {x1 r k : List Nat} (h1 : MadeOk d x1) (hr : r ∈ redM) (hk : k ∈ termM) : MadeOk (d + 1) (x1 ++ r ++ k) := by
  have r1 : ∀ r ∈ redM, r.length ≤ 4 ∧ (∀ c ∈ r, 32 ≤ c ∧ c < 127) ∧ sgx r ≤ 2 := by decide +kernel
  have k1 : ∀ k ∈ termM, k.length ≤ 3 ∧ (∀ c ∈ k, 32 ≤ c ∧ c < 127) ∧ sgx k ≤ 0 := by decide +kernel
  obtain ⟨a1, a2, a3⟩ := r1 r hr
  obtain ⟨b1, b2, b3⟩ := k1 k hk
  have h7 : 7 ≤ lenB d := by
    cases d with
    | zero => decide
    | succ d => clear h1 a1 b1; induction d with
      | zero => decide
      | succ d ih => rw [lenB]; (first | lia | omega)
  have := h1.1
  have := h1.2.2
  refine ⟨by rw [List.length_append, List.length_append, lenB]; (first | lia | omega), fun c hc => ?_, by rw [sgx_app, sgx_app, sgB]; (first | lia | omega)⟩
  rcases List.mem_append.mp hc with hc | hc
  · rcases List.mem_append.mp hc with hc | hc
    · exact h1.2.1 c hc
    · exact a2 c hc
  · exact b2 c hc
inductive MadeV (d : Nat) (v : Value) : Prop
  | mk : ∀ x t, v = .str (S x) t → MadeOk d x → MadeV d v
inductive MadeOut (d : Nat) (pl : Addr) (s : Shared) (v : Value) (h' : Heap) : Prop
  | mk : MadeV d v → Step [pl] s.heap h' → PoolAt h' pl → MadeOut d pl s v h'
section
variable (w mean mg mb B)
/- what _law_made tells -/
noncomputable def Makes (d : Nat) : Prop :=
  ∀ {A : Around} {l : List Env} {s : Shared} {pl : Addr} {p0 p1 : Int} {t0 t1 : Tok} {n : Nat} {di : Int} {td : Tok}, Amb w mean mg mb B A l s.heap → Room A (d + 40) (3 * d + 200) → di = (d : Int) →
    s.heap.get? pl = some (listOf #[.int p0 t0, .int p1 t1] n) → Free B l pl → 0 ≤ p0 → 0 ≤ p1 → p1 < 2147483647 →
    Gives w A 351 [.ref pl, .int di td] s (MadeOut d pl s)
end
theorem use_made {f : Addr} {args : List Value} {d : Nat} {pl : Addr} (g : Gives w A f args s (MadeOut d pl s)) {Q E : Value → Shared → Prop}
    (h : ∀ h' tk' x t, MadeOk d x → Step [pl] s.heap h' → ∀ p0 p1 t0 t1 n, h'.get? pl = some (listOf #[.int p0 t0, .int p1 t1] n) → 0 ≤ p0 → 0 ≤ p1 → p1 < 2147483647 → Q (.str (S x) t) { s with heap := h', toks := tk' }) :
    wpAny (model PySem.Challenge.rw_nu0084_01.row.prog w) A (call (.ref f) args) Q E s := g.use fun _ h' tk' q => by
  obtain ⟨⟨x, t, rfl, a⟩, st, p0, p1, t0, t1, n, hp, b, y, z⟩ := q
  exact h h' tk' x t a st p0 p1 t0 t1 n hp b y z
theorem made_zero : Makes w mean mg mb B 0 := by
  intro A l s pl p00 p10 t00 t10 n0 di td am rm hdi hpl hfp b00 b10 b20
  subst hdi
  have T := am.top
  have X := am.inK
  have hW : ∀ a ∈ [pl], Free B l a := fun a hm => by rw [List.mem_singleton.mp hm]; exact hfp
  refine call_ok (by k_is) (by k_is) am rm.ok (binds := [("pool", .ref pl), ("deep", .int ((0 : Nat) : Int) td)]) (BindsTo.of_eq rfl) (locs rfl) ((pl, listOf #[.int p00 t00, .int p10 t10] n0) :: others B s.heap [pl]) ?_ ?_
  · refine all_cons ?_ ?_
    · exact ⟨hpl, hfp.base⟩
    · exact fun p hp => others_here p hp
  intro L h₁ tk₁ R _ F N am' _ hR
  have hotl := others_ne (B := B) (h := s.heap) (ex := [pl]) (.head _)
  have hsub : ∀ p ∈ others B s.heap [pl], p ∈ others B s.heap [pl] := fun _ h => h
  have go : GoOn := .mk
  w_strict (k_steps)
  rename Fr _ _ _ _ => F
  rename News _ _ _ _ => N0
  rename (_ < _ ∧ _) => l1
  show wpAny _ _ _ _ _ _
  have N : News B L _ ((pl, listOf #[.int p00 t00, .int p10 t10] n0) :: (_, _) :: others B s.heap [pl]) := news_cons N0 (by k_mem) (news_cons N0 (by k_mem) (news_sub N0 (fun p hp => by repeat (first | exact hp | apply List.Mem.tail))))
  have hot2 := fun o => hot_cons (o := o) (pl := pl) (by first | exact l1.1 | exact l1.2.1 | exact l1.2.2.1 | exact l1.2.2.2.1) hotl
  clear N0 hotl
  refine use_take (take_gives (amb_now (W := [pl]) am F N (fun p hp => by repeat (first | exact hsub p hp | apply List.Mem.tail)) hW (by rfl) (by rfl)) (rm.deeper.less (by first | (simp +arith only; done) | lia | omega) (by first | (simp +arith only; done) | lia | omega)) (N _ (.head _)).1 hfp.base b00 b10 b20 (by decide) (by decide)) ?_
  intro hN tkN d1 e1 dl1 dh1 st p01 p11 t01 t11 n1 hp' b01 b11 b21
  obtain ⟨FN, restN, NN, hothN, hsN⟩ := after_pool (ex := [_]) F N (hot2 _) st hp'
  replace hsub : ∀ p ∈ others B s.heap [pl], p ∈ restN := fun p hp => hsN _ (hsub _ hp)
  have NN : News B L hN ((pl, listOf #[.int p01 t01, .int p11 t11] n1) :: _ :: restN) := NN
  clear F N st hot2 hsN hp' b00 b10 b20
  have hotl : ∀ p ∈ restN, p.1 ≠ pl := fun p hp => hothN p (.tail _ hp)
  clear hothN
  (try dsimp only)
  w_strict (k_steps)
  rename _ ∈ termM => hk1
  rename Fr _ _ _ _ => F
  rename News _ _ _ _ => N0
  rename (_ < _ ∧ _) => l1
  show wpAny _ _ _ _ _ _
  have N : News B L _ ((pl, listOf #[.int p01 t01, .int p11 t11] n1) :: (_, _) :: restN) := news_cons N0 (by k_mem) (news_cons N0 (by k_mem) (news_sub N0 (fun p hp => by repeat (first | exact hp | apply List.Mem.tail))))
  have hot2 := fun o => hot_cons (o := o) (pl := pl) (by first | exact l1.1 | exact l1.2.1 | exact l1.2.2.1 | exact l1.2.2.2.1) hotl
  clear N0 hotl
  refine use_take (take_gives (amb_now (W := [pl]) am F N (fun p hp => by repeat (first | exact hsub p hp | apply List.Mem.tail)) hW (by rfl) (by rfl)) (rm.deeper.less (by first | (simp +arith only; done) | lia | omega) (by first | (simp +arith only; done) | lia | omega)) (N _ (.head _)).1 hfp.base b01 b11 b21 (by decide) (by decide)) ?_
  intro hN tkN d2 e2 dl2 dh2 st p02 p12 t02 t12 n2 hp' b02 b12 b22
  obtain ⟨FN, restN, NN, hothN, hsN⟩ := after_pool (ex := [_]) F N (hot2 _) st hp'
  replace hsub : ∀ p ∈ others B s.heap [pl], p ∈ restN := fun p hp => hsN _ (hsub _ hp)
  have NN : News B L hN ((pl, listOf #[.int p02 t02, .int p12 t12] n2) :: _ :: restN) := NN
  clear F N st hot2 hsN hp' b01 b11 b21
  have hotl : ∀ p ∈ restN, p.1 ≠ pl := fun p hp => hothN p (.tail _ hp)
  clear hothN
  (try dsimp only)
  w_strict (k_steps)
  rename Fr _ _ _ _ => F9
  rename News _ _ _ _ => N9
  rename _ ∈ tailM => hk2
  exact hR _ _ _ ⟨⟨_, _, by rw [S_append], made0 hk1 hk2⟩, step_of F9 N9 am.stays (fun p hp => by repeat (first | exact hsub p hp | apply List.Mem.tail)), _, _, _, _, _, (N9 _ (.head _)).1, b02, b12, b22⟩

theorem made_succ {d : Nat} (hd : d ≤ 2) (ih : Makes w mean mg mb B d) : Makes w mean mg mb B (d + 1) := by
  intro A l s pl p00 p10 t00 t10 n0 di td am rm hdi hpl hfp b00 b10 b20
  have T := am.top
  have X := am.inK
  have hlB : lenB d ≤ 37 := by obtain rfl | rfl | rfl : d = 0 ∨ d = 1 ∨ d = 2 := by (first | lia | omega)
                               all_goals decide
  have hW : ∀ a ∈ [pl], Free B l a := fun a hm => by rw [List.mem_singleton.mp hm]; exact hfp
  refine call_ok (by k_is) (by k_is) am rm.ok (binds := [("pool", .ref pl), ("deep", .int di td)]) (BindsTo.of_eq rfl) (locs rfl) ((pl, listOf #[.int p00 t00, .int p10 t10] n0) :: others B s.heap [pl]) ?_ ?_
  · refine all_cons ?_ ?_
    · exact ⟨hpl, hfp.base⟩
    · exact fun p hp => others_here p hp
  intro L h₁ tk₁ R _ F N am' _ hR
  have hotl := others_ne (B := B) (h := s.heap) (ex := [pl]) (.head _)
  have hsub : ∀ p ∈ others B s.heap [pl], p ∈ others B s.heap [pl] := fun _ h => h
  w_strict (k_steps)
  rename Fr _ _ _ _ => F
  rename News _ _ _ _ => N0
  show wpAny _ _ _ _ _ _
  have N : News B L _ ((pl, listOf #[.int p00 t00, .int p10 t10] n0) :: others B s.heap [pl]) := news_cons N0 (by k_mem) (news_sub N0 (fun p hp => by repeat (first | exact hp | apply List.Mem.tail)))
  have hot2 := hotl
  clear N0 hotl
  refine use_take (take_gives (amb_now (W := [pl]) am F N (fun p hp => by repeat (first | exact hsub p hp | apply List.Mem.tail)) hW (by rfl) (by rfl)) (rm.deeper.less (by first | (simp +arith only; done) | lia | omega) (by first | (simp +arith only; done) | lia | omega)) (N _ (.head _)).1 hfp.base b00 b10 b20 (by decide) (by decide)) ?_
  intro hN tkN d0 e0 dl0 dh0 st p01 p11 t01 t11 n1 hp' b01 b11 b21
  obtain ⟨FN, restN, NN, hothN, hsN⟩ := after_pool (ex := []) F N hot2 st hp'
  replace hsub : ∀ p ∈ others B s.heap [pl], p ∈ restN := fun p hp => hsN _ (hsub _ hp)
  have NN : News B L hN ((pl, listOf #[.int p01 t01, .int p11 t11] n1) :: restN) := NN
  clear F N st hot2 hsN hp' b00 b10 b20
  have hotl : ∀ p ∈ restN, p.1 ≠ pl := fun p hp => hothN p hp
  clear hothN
  (try dsimp only)
  w_strict (k_steps)
  rename Fr _ _ _ _ => F
  rename News _ _ _ _ => N0
  rename (_ < _ ∧ _) => l1
  show wpAny _ _ _ _ _ _
  have N : News B L _ ((pl, listOf #[.int p01 t01, .int p11 t11] n1) :: (_, _) :: restN) := news_cons N0 (by k_mem) (news_cons N0 (by k_mem) (news_sub N0 (fun p hp => by repeat (first | exact hp | apply List.Mem.tail))))
  have hot2 := fun o => hot_cons (o := o) (pl := pl) (by first | exact l1.1 | exact l1.2.1 | exact l1.2.2.1 | exact l1.2.2.2.1) hotl
  clear N0 hotl
  refine use_take (take_gives (amb_now (W := [pl]) am F N (fun p hp => by repeat (first | exact hsub p hp | apply List.Mem.tail)) hW (by rfl) (by rfl)) (rm.deeper.less (by first | (simp +arith only; done) | lia | omega) (by first | (simp +arith only; done) | lia | omega)) (N _ (.head _)).1 hfp.base b01 b11 b21 (by decide) (by decide)) ?_
  intro hN tkN d1 e1 dl1 dh1 st p02 p12 t02 t12 n2 hp' b02 b12 b22
  obtain ⟨FN, restN, NN, hothN, hsN⟩ := after_pool (ex := [_]) F N (hot2 _) st hp'
  replace hsub : ∀ p ∈ others B s.heap [pl], p ∈ restN := fun p hp => hsN _ (hsub _ hp)
  have NN : News B L hN ((pl, listOf #[.int p02 t02, .int p12 t12] n2) :: _ :: restN) := NN
  clear F N st hot2 hsN hp' b01 b11 b21
  have hotl : ∀ p ∈ restN, p.1 ≠ pl := fun p hp => hothN p (.tail _ hp)
  clear hothN
  (try dsimp only)
  w_strict (k_steps)
  rename _ ∈ termM => hk1
  have hw : d0 < 3 ∨ d0 = 3 ∨ d0 = 4 ∨ d0 = 5 ∨ d0 = 6 ∨ d0 = 7 := by (first | lia | omega)
  have go : GoOn := .mk
  rcases hw with hw | rfl | rfl | rfl | rfl | rfl
  · show wpAny _ _ _ _ _ _
    w_strict (k_steps)
    rename Fr _ _ _ _ => F
    rename News _ _ _ _ => N0
    rename (_ < _ ∧ _) => l1
    show wpAny _ _ _ _ _ _
    have N : News B L _ ((pl, listOf #[.int p02 t02, .int p12 t12] n2) :: (_, _) :: restN) := news_cons N0 (by k_mem) (news_cons N0 (by k_mem) (news_sub N0 (fun p hp => by repeat (first | exact hp | apply List.Mem.tail))))
    have hot2 := fun o => hot_cons (o := o) (pl := pl) (by first | exact l1.1 | exact l1.2.1 | exact l1.2.2.1 | exact l1.2.2.2.1) hotl
    clear N0 hotl
    refine use_take (take_gives (amb_now (W := [pl]) am F N (fun p hp => by repeat (first | exact hsub p hp | apply List.Mem.tail)) hW (by rfl) (by rfl)) (rm.deeper.less (by first | (simp +arith only; done) | lia | omega) (by first | (simp +arith only; done) | lia | omega)) (N _ (.head _)).1 hfp.base b02 b12 b22 (by decide) (by decide)) ?_
    intro hN tkN d2 e2 dl2 dh2 st p03 p13 t03 t13 n3 hp' b03 b13 b23
    obtain ⟨FN, restN, NN, hothN, hsN⟩ := after_pool (ex := [_]) F N (hot2 _) st hp'
    replace hsub : ∀ p ∈ others B s.heap [pl], p ∈ restN := fun p hp => hsN _ (hsub _ hp)
    have NN : News B L hN ((pl, listOf #[.int p03 t03, .int p13 t13] n3) :: _ :: restN) := NN
    clear F N st hot2 hsN hp' b02 b12 b22
    have hotl : ∀ p ∈ restN, p.1 ≠ pl := fun p hp => hothN p (.tail _ hp)
    clear hothN
    (try dsimp only)
    w_strict (k_steps)
    rename Fr _ _ _ _ => F9
    rename News _ _ _ _ => N9
    rename _ ∈ tailM => hk2
    exact hR _ _ _ ⟨⟨_, _, by rw [S_append], (made0 hk1 hk2).up⟩, step_of F9 N9 am.stays (fun p hp => by repeat (first | exact hsub p hp | apply List.Mem.tail)), _, _, _, _, _, (N9 (pl, listOf #[.int p03 t03, .int p13 t13] n3) (by k_mem)).1, b03, b13, b23⟩

  · show wpAny _ _ _ _ _ _
    w_strict (k_steps)
    rename Fr _ _ _ _ => F
    rename News _ _ _ _ => N0
    show wpAny _ _ _ _ _ _
    have N : News B L _ ((pl, listOf #[.int p02 t02, .int p12 t12] n2) :: restN) := news_cons N0 (by k_mem) (news_sub N0 (fun p hp => by repeat (first | exact hp | apply List.Mem.tail)))
    have hot2 := hotl
    clear N0 hotl
    refine use_made (ih (amb_now (W := [pl]) am F N (fun p hp => by repeat (first | exact hsub p hp | apply List.Mem.tail)) hW (by rfl) (by rfl)) (rm.deeper.less (by first | (simp +arith only; done) | lia | omega) (by first | (simp +arith only; done) | lia | omega)) (by first | (simp +arith only; done) | lia | omega) (N _ (.head _)).1 (hfp.push (N _ (.head _)).2.1 (by rfl)) b02 b12 b22) ?_
    intro hN tkN x1 tx1 hx1 st p03 p13 t03 t13 n3 hp' b03 b13 b23
    obtain ⟨FN, restN, NN, hothN, hsN⟩ := after_pool (ex := []) F N hot2 st hp'
    replace hsub : ∀ p ∈ others B s.heap [pl], p ∈ restN := fun p hp => hsN _ (hsub _ hp)
    have NN : News B L hN ((pl, listOf #[.int p03 t03, .int p13 t13] n3) :: restN) := NN
    clear F N st hot2 hsN hp' b02 b12 b22
    have hotl : ∀ p ∈ restN, p.1 ≠ pl := fun p hp => hothN p hp
    clear hothN
    (try dsimp only)
    have hxl1 : (S x1).length ≤ 37 := by rw [S_len]; exact Nat.le_trans hx1.1 hlB
    w_strict (k_steps)
    rename Fr _ _ _ _ => F
    rename News _ _ _ _ => N0
    show wpAny _ _ _ _ _ _
    have N : News B L _ ((pl, listOf #[.int p03 t03, .int p13 t13] n3) :: restN) := news_cons N0 (by k_mem) (news_sub N0 (fun p hp => by repeat (first | exact hp | apply List.Mem.tail)))
    have hot2 := hotl
    clear N0 hotl
    refine use_made (ih (amb_now (W := [pl]) am F N (fun p hp => by repeat (first | exact hsub p hp | apply List.Mem.tail)) hW (by rfl) (by rfl)) (rm.deeper.less (by first | (simp +arith only; done) | lia | omega) (by first | (simp +arith only; done) | lia | omega)) (by first | (simp +arith only; done) | lia | omega) (N _ (.head _)).1 (hfp.push (N _ (.head _)).2.1 (by rfl)) b03 b13 b23) ?_
    intro hN tkN x2 tx2 hx2 st p04 p14 t04 t14 n4 hp' b04 b14 b24
    obtain ⟨FN, restN, NN, hothN, hsN⟩ := after_pool (ex := []) F N hot2 st hp'
    replace hsub : ∀ p ∈ others B s.heap [pl], p ∈ restN := fun p hp => hsN _ (hsub _ hp)
    have NN : News B L hN ((pl, listOf #[.int p04 t04, .int p14 t14] n4) :: restN) := NN
    clear F N st hot2 hsN hp' b03 b13 b23
    have hotl : ∀ p ∈ restN, p.1 ≠ pl := fun p hp => hothN p hp
    clear hothN
    (try dsimp only)
    have hxl2 : (S x2).length ≤ 37 := by rw [S_len]; exact Nat.le_trans hx2.1 hlB
    w_strict (k_steps)
    rename Fr _ _ _ _ => F9
    rename News _ _ _ _ => N9
    exact hR _ _ _ ⟨⟨_, _, by rw [pipe_S, S_append, S_append], made_two hx1 hx2 (m := [32, 124, 32]) (by decide) (by decide) (by decide)⟩, step_of F9 N9 am.stays (fun p hp => by repeat (first | exact hsub p hp | apply List.Mem.tail)), _, _, _, _, _, (N9 (pl, listOf #[.int p04 t04, .int p14 t14] n4) (by k_mem)).1, b04, b14, b24⟩

  · show wpAny _ _ _ _ _ _
    w_strict (k_steps)
    rename Fr _ _ _ _ => F
    rename News _ _ _ _ => N0
    show wpAny _ _ _ _ _ _
    have N : News B L _ ((pl, listOf #[.int p02 t02, .int p12 t12] n2) :: restN) := news_cons N0 (by k_mem) (news_sub N0 (fun p hp => by repeat (first | exact hp | apply List.Mem.tail)))
    have hot2 := hotl
    clear N0 hotl
    refine use_made (ih (amb_now (W := [pl]) am F N (fun p hp => by repeat (first | exact hsub p hp | apply List.Mem.tail)) hW (by rfl) (by rfl)) (rm.deeper.less (by first | (simp +arith only; done) | lia | omega) (by first | (simp +arith only; done) | lia | omega)) (by first | (simp +arith only; done) | lia | omega) (N _ (.head _)).1 (hfp.push (N _ (.head _)).2.1 (by rfl)) b02 b12 b22) ?_
    intro hN tkN x1 tx1 hx1 st p03 p13 t03 t13 n3 hp' b03 b13 b23
    obtain ⟨FN, restN, NN, hothN, hsN⟩ := after_pool (ex := []) F N hot2 st hp'
    replace hsub : ∀ p ∈ others B s.heap [pl], p ∈ restN := fun p hp => hsN _ (hsub _ hp)
    have NN : News B L hN ((pl, listOf #[.int p03 t03, .int p13 t13] n3) :: restN) := NN
    clear F N st hot2 hsN hp' b02 b12 b22
    have hotl : ∀ p ∈ restN, p.1 ≠ pl := fun p hp => hothN p hp
    clear hothN
    (try dsimp only)
    have hxl1 : (S x1).length ≤ 37 := by rw [S_len]; exact Nat.le_trans hx1.1 hlB
    w_strict (k_steps)
    rename Fr _ _ _ _ => F
    rename News _ _ _ _ => N0
    show wpAny _ _ _ _ _ _
    have N : News B L _ ((pl, listOf #[.int p03 t03, .int p13 t13] n3) :: restN) := news_cons N0 (by k_mem) (news_sub N0 (fun p hp => by repeat (first | exact hp | apply List.Mem.tail)))
    have hot2 := hotl
    clear N0 hotl
    refine use_made (ih (amb_now (W := [pl]) am F N (fun p hp => by repeat (first | exact hsub p hp | apply List.Mem.tail)) hW (by rfl) (by rfl)) (rm.deeper.less (by first | (simp +arith only; done) | lia | omega) (by first | (simp +arith only; done) | lia | omega)) (by first | (simp +arith only; done) | lia | omega) (N _ (.head _)).1 (hfp.push (N _ (.head _)).2.1 (by rfl)) b03 b13 b23) ?_
    intro hN tkN x2 tx2 hx2 st p04 p14 t04 t14 n4 hp' b04 b14 b24
    obtain ⟨FN, restN, NN, hothN, hsN⟩ := after_pool (ex := []) F N hot2 st hp'
    replace hsub : ∀ p ∈ others B s.heap [pl], p ∈ restN := fun p hp => hsN _ (hsub _ hp)
    have NN : News B L hN ((pl, listOf #[.int p04 t04, .int p14 t14] n4) :: restN) := NN
    clear F N st hot2 hsN hp' b03 b13 b23
    have hotl : ∀ p ∈ restN, p.1 ≠ pl := fun p hp => hothN p hp
    clear hothN
    (try dsimp only)
    have hxl2 : (S x2).length ≤ 37 := by rw [S_len]; exact Nat.le_trans hx2.1 hlB
    w_strict (k_steps)
    rename Fr _ _ _ _ => F9
    rename News _ _ _ _ => N9
    exact hR _ _ _ ⟨⟨_, _, by rw [semi_S, S_append, S_append], made_two hx1 hx2 (m := [59]) (by decide) (by decide) (by decide)⟩, step_of F9 N9 am.stays (fun p hp => by repeat (first | exact hsub p hp | apply List.Mem.tail)), _, _, _, _, _, (N9 (pl, listOf #[.int p04 t04, .int p14 t14] n4) (by k_mem)).1, b04, b14, b24⟩

  · show wpAny _ _ _ _ _ _
    w_strict (k_steps)
    rename Fr _ _ _ _ => F
    rename News _ _ _ _ => N0
    show wpAny _ _ _ _ _ _
    have N : News B L _ ((pl, listOf #[.int p02 t02, .int p12 t12] n2) :: restN) := news_cons N0 (by k_mem) (news_sub N0 (fun p hp => by repeat (first | exact hp | apply List.Mem.tail)))
    have hot2 := hotl
    clear N0 hotl
    refine use_made (ih (amb_now (W := [pl]) am F N (fun p hp => by repeat (first | exact hsub p hp | apply List.Mem.tail)) hW (by rfl) (by rfl)) (rm.deeper.less (by first | (simp +arith only; done) | lia | omega) (by first | (simp +arith only; done) | lia | omega)) (by first | (simp +arith only; done) | lia | omega) (N _ (.head _)).1 (hfp.push (N _ (.head _)).2.1 (by rfl)) b02 b12 b22) ?_
    intro hN tkN x1 tx1 hx1 st p03 p13 t03 t13 n3 hp' b03 b13 b23
    obtain ⟨FN, restN, NN, hothN, hsN⟩ := after_pool (ex := []) F N hot2 st hp'
    replace hsub : ∀ p ∈ others B s.heap [pl], p ∈ restN := fun p hp => hsN _ (hsub _ hp)
    have NN : News B L hN ((pl, listOf #[.int p03 t03, .int p13 t13] n3) :: restN) := NN
    clear F N st hot2 hsN hp' b02 b12 b22
    have hotl : ∀ p ∈ restN, p.1 ≠ pl := fun p hp => hothN p hp
    clear hothN
    (try dsimp only)
    have hxl1 : (S x1).length ≤ 37 := by rw [S_len]; exact Nat.le_trans hx1.1 hlB
    w_strict (k_steps)
    rename Fr _ _ _ _ => F9
    rename News _ _ _ _ => N9
    exact hR _ _ _ ⟨⟨_, _, by rw [open_S, close_S, S_append, S_append], made_one hx1 (a := [40]) (b := [41]) (by decide) (by decide) (by decide)⟩, step_of F9 N9 am.stays (fun p hp => by repeat (first | exact hsub p hp | apply List.Mem.tail)), _, _, _, _, _, (N9 (pl, listOf #[.int p03 t03, .int p13 t13] n3) (by k_mem)).1, b03, b13, b23⟩

  · show wpAny _ _ _ _ _ _
    w_strict (k_steps)
    rename Fr _ _ _ _ => F
    rename News _ _ _ _ => N0
    show wpAny _ _ _ _ _ _
    have N : News B L _ ((pl, listOf #[.int p02 t02, .int p12 t12] n2) :: restN) := news_cons N0 (by k_mem) (news_sub N0 (fun p hp => by repeat (first | exact hp | apply List.Mem.tail)))
    have hot2 := hotl
    clear N0 hotl
    refine use_made (ih (amb_now (W := [pl]) am F N (fun p hp => by repeat (first | exact hsub p hp | apply List.Mem.tail)) hW (by rfl) (by rfl)) (rm.deeper.less (by first | (simp +arith only; done) | lia | omega) (by first | (simp +arith only; done) | lia | omega)) (by first | (simp +arith only; done) | lia | omega) (N _ (.head _)).1 (hfp.push (N _ (.head _)).2.1 (by rfl)) b02 b12 b22) ?_
    intro hN tkN x1 tx1 hx1 st p03 p13 t03 t13 n3 hp' b03 b13 b23
    obtain ⟨FN, restN, NN, hothN, hsN⟩ := after_pool (ex := []) F N hot2 st hp'
    replace hsub : ∀ p ∈ others B s.heap [pl], p ∈ restN := fun p hp => hsN _ (hsub _ hp)
    have NN : News B L hN ((pl, listOf #[.int p03 t03, .int p13 t13] n3) :: restN) := NN
    clear F N st hot2 hsN hp' b02 b12 b22
    have hotl : ∀ p ∈ restN, p.1 ≠ pl := fun p hp => hothN p hp
    clear hothN
    (try dsimp only)
    have hxl1 : (S x1).length ≤ 37 := by rw [S_len]; exact Nat.le_trans hx1.1 hlB
    w_strict (k_steps)
    rename Fr _ _ _ _ => F
    rename News _ _ _ _ => N0
    rename (_ < _ ∧ _) => l1
    show wpAny _ _ _ _ _ _
    have N : News B L _ ((pl, listOf #[.int p03 t03, .int p13 t13] n3) :: (_, _) :: restN) := news_cons N0 (by k_mem) (news_cons N0 (by k_mem) (news_sub N0 (fun p hp => by repeat (first | exact hp | apply List.Mem.tail))))
    have hot2 := fun o => hot_cons (o := o) (pl := pl) (by first | exact l1.1 | exact l1.2.1 | exact l1.2.2.1 | exact l1.2.2.2.1) hotl
    clear N0 hotl
    refine use_take (take_gives (amb_now (W := [pl]) am F N (fun p hp => by repeat (first | exact hsub p hp | apply List.Mem.tail)) hW (by rfl) (by rfl)) (rm.deeper.less (by first | (simp +arith only; done) | lia | omega) (by first | (simp +arith only; done) | lia | omega)) (N _ (.head _)).1 hfp.base b03 b13 b23 (by decide) (by decide)) ?_
    intro hN tkN d2 e2 dl2 dh2 st p04 p14 t04 t14 n4 hp' b04 b14 b24
    obtain ⟨FN, restN, NN, hothN, hsN⟩ := after_pool (ex := [_]) F N (hot2 _) st hp'
    replace hsub : ∀ p ∈ others B s.heap [pl], p ∈ restN := fun p hp => hsN _ (hsub _ hp)
    have NN : News B L hN ((pl, listOf #[.int p04 t04, .int p14 t14] n4) :: _ :: restN) := NN
    clear F N st hot2 hsN hp' b03 b13 b23
    have hotl : ∀ p ∈ restN, p.1 ≠ pl := fun p hp => hothN p (.tail _ hp)
    clear hothN
    (try dsimp only)
    w_strict (k_steps)
    rename Fr _ _ _ _ => F9
    rename News _ _ _ _ => N9
    rename _ ∈ redM => hk2
    exact hR _ _ _ ⟨⟨_, _, by rw [S_append, S_append], made_red hx1 hk2 hk1⟩, step_of F9 N9 am.stays (fun p hp => by repeat (first | exact hsub p hp | apply List.Mem.tail)), _, _, _, _, _, (N9 (pl, listOf #[.int p04 t04, .int p14 t14] n4) (by k_mem)).1, b04, b14, b24⟩

  · show wpAny _ _ _ _ _ _
    w_strict (k_steps)
    rename Fr _ _ _ _ => F
    rename News _ _ _ _ => N0
    show wpAny _ _ _ _ _ _
    have N : News B L _ ((pl, listOf #[.int p02 t02, .int p12 t12] n2) :: restN) := news_cons N0 (by k_mem) (news_sub N0 (fun p hp => by repeat (first | exact hp | apply List.Mem.tail)))
    have hot2 := hotl
    clear N0 hotl
    refine use_made (ih (amb_now (W := [pl]) am F N (fun p hp => by repeat (first | exact hsub p hp | apply List.Mem.tail)) hW (by rfl) (by rfl)) (rm.deeper.less (by first | (simp +arith only; done) | lia | omega) (by first | (simp +arith only; done) | lia | omega)) (by first | (simp +arith only; done) | lia | omega) (N _ (.head _)).1 (hfp.push (N _ (.head _)).2.1 (by rfl)) b02 b12 b22) ?_
    intro hN tkN x1 tx1 hx1 st p03 p13 t03 t13 n3 hp' b03 b13 b23
    obtain ⟨FN, restN, NN, hothN, hsN⟩ := after_pool (ex := []) F N hot2 st hp'
    replace hsub : ∀ p ∈ others B s.heap [pl], p ∈ restN := fun p hp => hsN _ (hsub _ hp)
    have NN : News B L hN ((pl, listOf #[.int p03 t03, .int p13 t13] n3) :: restN) := NN
    clear F N st hot2 hsN hp' b02 b12 b22
    have hotl : ∀ p ∈ restN, p.1 ≠ pl := fun p hp => hothN p hp
    clear hothN
    (try dsimp only)
    have hxl1 : (S x1).length ≤ 37 := by rw [S_len]; exact Nat.le_trans hx1.1 hlB
    w_strict (k_steps)
    rename Fr _ _ _ _ => F9
    rename News _ _ _ _ => N9
    exact hR _ _ _ ⟨⟨_, _, by rw [amp_S, S_append], (show MadeOk (d + 1) (x1 ++ [32, 38]) from by have q := made_one hx1 (a := []) (b := [32, 38]) (by decide) (by decide) (by decide); simpa using q)⟩, step_of F9 N9 am.stays (fun p hp => by repeat (first | exact hsub p hp | apply List.Mem.tail)), _, _, _, _, _, (N9 (pl, listOf #[.int p03 t03, .int p13 t13] n3) (by k_mem)).1, b03, b13, b23⟩

theorem makes : ∀ d, d ≤ 3 → Makes w mean mg mb B d := by
  intro d
  induction d with
  | zero => intro _; exact made_zero
  | succ d ih => intro h; exact made_succ (by first | (simp +arith only; done) | lia | omega) (ih (by first | (simp +arith only; done) | lia | omega))
end

section
open PySem PySem.W PySem.Calls PySem.Spec PyProof.Rows
local macro_rules | `(tactic| k_qdec) => `(tactic| decide +kernel)
noncomputable def partM : List Tk := [[97], [98, 99], [32], [124], [59], [38], [40], [41], [60], [62], [62, 62], [32, 100, 32]]
theorem lt12 {x : Int} (h : x < 12) : x < ((partM.length : Nat) : Int) := h
theorem part_are (a b c d e f g h i j k l : Tok) : StrsI (#[.str (Str.ofString "a") a, .str (Str.ofString "bc") b, .str (Str.ofString " ") c, .str (Str.ofString "|") d, .str (Str.ofString ";") e, .str (Str.ofString "&") f, .str (Str.ofString "(") g, .str (Str.ofString ")") h, .str (Str.ofString "<") i, .str (Str.ofString ">") j, .str (Str.ofString ">>") k, .str (Str.ofString " d ") l] : Array Value).toList partM :=
  .consS (by decide +kernel) (.consS (by decide +kernel) (.consS (by decide +kernel) (.consS (by decide +kernel) (.consS (by decide +kernel) (.consS (by decide +kernel) (.consS (by decide +kernel) (.consS (by decide +kernel) (.consS (by decide +kernel) (.consS (by decide +kernel) (.consS (by decide +kernel) (.consS (by decide +kernel) .nil)))))))))))
local macro_rules | `(tactic| walk_at "gri") => `(tactic| with_reducible show wpAny _ _ (subscriptTail _ _ (Value.ref _) (Value.int _ _)) _ _ _)
local macro_rules | `(tactic| walk_at "subscriptTail") => `(tactic| (k_here; walk_at "gri"; refine stop_here ?_))
local macro_rules | `(tactic| walk_at "go") => `(tactic| fail_if_success (have : GoOn := by walk_at "r"))
local macro_rules | `(tactic| walk_at "exec If") => `(tactic| (k_here; walk_at "go"; refine stop_here ?_))
local macro_rules | `(tactic| walk_at "exec For") => `(tactic| (k_here; refine stop_here ?_))
local macro_rules | `(tactic| walk_at "call builtin:str.join") => `(tactic| (k_here; refine stop_here ?_))
local macro_rules | `(tactic| walk_at "last call builtin:str.join") => `(tactic| (k_here; refine stop_here ?_))
variable {w : World} {mean : ExcName → Option Value} {mg mb : Str → Option Value} {B : Heap} {A : Around} {l : List Env} {s : Shared}


theorem no_others {B : Heap} {W : List Addr} {news : List (Addr × Obj)} : ∀ p ∈ others B B W, p ∈ news := fun p hp => by
  have q := mem_others.mp (show (p.1, p.2) ∈ _ from hp)
  rw [q.1] at q
  exact nomatch q.2.2
theorem after_right {h h' : Heap} {L : Addr} {m : Str → Option Value} {ex : List (Addr × Obj)} {env : Env} (F : Fr B L h m) (N : News B L h ex) (st : StepU [env] h h') (hf : env.frame = some L) : Fr B L h' m ∧ News B L h' ex := by
  have nm : ∀ a, a ≠ L → a ∉ ([env] : List Env).filterMap (·.frame) := fun a ha hm => by
    obtain ⟨e, he, q⟩ := List.mem_filterMap.mp hm
    rw [List.mem_singleton.mp he, hf] at q
    exact ha (Option.some.inj q).symm
  exact ⟨F.of_stays (fun b o e => st.1 b o (F.keep b o e) (nm b fun q => by rw [q, kts_self F] at e; cases e)) st.2, fun p hp => ⟨st.1 _ _ (N p hp).1 (nm _ (N p hp).2.1), (N p hp).2⟩⟩
theorem after_write {h h' : Heap} {L pl : Addr} {m : Str → Option Value} {o o' : Obj} {ex : List (Addr × Obj)} (F : Fr B L h m) (N : News B L h ((pl, o) :: ex)) (hex : ∀ p ∈ ex, p.1 ≠ pl) (st : Step [pl] h h') (hp : h'.get? pl = some o') : Fr B L h' m ∧ News B L h' ((pl, o') :: ex) := by
  have q := N _ (.head _)
  obtain ⟨oL, es, ep, hL, r⟩ := F.ns
  refine ⟨⟨⟨oL, es, ep, st _ _ hL (fun hm => q.2.1 (List.mem_singleton.mp hm).symm), r⟩, fun b o e => st _ _ (F.keep b o e) (fun hm => by rw [List.mem_singleton.mp hm, q.2.2] at e; cases e), F.above⟩, fun p hq => ?_⟩
  rcases List.mem_cons.mp hq with rfl | hq
  · exact ⟨hp, q.2⟩
  · exact ⟨st _ _ (N p (.tail _ hq)).1 (fun hm => hex p hq (List.mem_singleton.mp hm)), (N p (.tail _ hq)).2⟩
theorem after_new {h h' : Heap} {L : Addr} {m : Str → Option Value} {ex : List (Addr × Obj)} (F : Fr B L h m) (N : News B L h ex) (st : Step [] h h') : Fr B L h' m ∧ News B L h' ex := by
  obtain ⟨oL, es, ep, hL, r⟩ := F.ns
  exact ⟨⟨⟨oL, es, ep, st _ _ hL (fun hm => nomatch hm), r⟩, fun b o e => st _ _ (F.keep b o e) (fun hm => nomatch hm), F.above⟩, fun p hq => ⟨st _ _ (N p hq).1 (fun hm => nomatch hm), (N p hq).2⟩⟩
theorem line1 : Str.ofString "a <f >> g" = S [97, 32, 60, 102, 32, 62, 62, 32, 103] ∧ Line [97, 32, 60, 102, 32, 62, 62, 32, 103] := ⟨by decide +kernel, ⟨by decide, by decide, by decide⟩⟩
theorem line2 : Str.ofString "a & b" = S [97, 32, 38, 32, 98] ∧ Line [97, 32, 38, 32, 98] := ⟨by decide +kernel, ⟨by decide, by decide, by decide⟩⟩

theorem news_add {h : Heap} {L a : Addr} {o : Obj} {led : List (Addr × Obj)} {env : Env} (N : News B L h led) (hg : h.get? a = some o) (hf : Free B [env] a) (he : env.frame = some L) : News B L h ((a, o) :: led) := all_cons (⟨hg, hf.ne he, hf.base⟩) (fun p hp => N p hp)
theorem MadeOk.line {d : Nat} {x : List Nat} (h : MadeOk d x) (h1 : lenB d ≤ 100) (h2 : sgB d ≤ 32) : Line x := ⟨Nat.le_trans h.1 h1, h.2.1, Nat.le_trans h.2.2 h2⟩
noncomputable def lawMap (v0 v1 v2 v3 v4 : Option Value) : Str → Option Value := fun y => if y = Str.ofString "script" then v0 else if y = Str.ofString "pool" then v1 else if y = Str.ofString "parts" then v2 else if y = Str.ofString "turn" then v3 else if y = Str.ofString "part" then v4 else none
theorem lawMap_parts {v0 : Option Value} {v1 : Option Value} {v2 : Option Value} {v3 : Option Value} {v4 : Option Value} {z : Option Value} {y : Str} : (if y = Str.ofString "parts" then z else lawMap v0 v1 v2 v3 v4 y) = lawMap v0 v1 z v3 v4 y := by
  by_cases q : y = Str.ofString "parts"
  · subst q; rfl
  · rw [if_neg q]; unfold lawMap; simp only [if_neg q]
theorem lawMap_turn {v0 : Option Value} {v1 : Option Value} {v2 : Option Value} {v3 : Option Value} {v4 : Option Value} {z : Option Value} {y : Str} : (if y = Str.ofString "turn" then z else lawMap v0 v1 v2 v3 v4 y) = lawMap v0 v1 v2 z v4 y := by
  by_cases q : y = Str.ofString "turn"
  · subst q; rfl
  · rw [if_neg q]; unfold lawMap; simp only [if_neg q]
theorem lawMap_part {v0 : Option Value} {v1 : Option Value} {v2 : Option Value} {v3 : Option Value} {v4 : Option Value} {z : Option Value} {y : Str} : (if y = Str.ofString "part" then z else lawMap v0 v1 v2 v3 v4 y) = lawMap v0 v1 v2 v3 z y := by
  by_cases q : y = Str.ofString "part"
  · subst q; rfl
  · rw [if_neg q]; unfold lawMap; simp only [if_neg q]
theorem w_strs (t : Tok) : ∀ n, StrsI (List.replicate n [Value.str (Str.ofString "w") t]).flatten (List.replicate n [119]) := by
  intro n
  induction n with
  | zero => exact .nil
  | succ n ih => rw [List.replicate_succ, List.replicate_succ, List.flatten_cons]; exact .consS (by decide +kernel) ih
theorem w_line {n : Nat} (h : n = 9 ∨ n = 10) : Line (jn (List.replicate n [119])) ∧ (((List.replicate n [119]).map S).map (·.length)).sum + ((List.replicate n [119]).map S).length ≤ 1048576 := by
  rcases h with rfl | rfl
  · exact ⟨⟨by decide, by decide, by decide⟩, by decide⟩
  · exact ⟨⟨by decide, by decide, by decide⟩, by decide⟩
theorem join_E' : ∀ a : List Tk, Str.join (S []) (a.map S) = S a.flatten
  | [] => rfl
  | [a] => by
    have e : Str.join (S []) ([a].map S) = S a := rfl
    rw [e]
    simp
  | a :: b :: r => by
    have ih := join_E' (b :: r)
    have e : Str.join (S []) ((a :: b :: r).map S) = S a ++ S [] ++ Str.join (S []) ((b :: r).map S) := PyProof.Rows.join_cons_cons ..
    rw [e, ih, S_append, S_append]
    simp
theorem join_E (a : List Tk) : Txt.join (Str.ofString "") (a.map S) = S a.flatten := by
  rw [nil_S]
  exact (StrLaws.glued_eq_join ..).trans (join_E' a)
theorem part_ok : ∀ k ∈ partM, k.length ≤ 3 ∧ (∀ c ∈ k, 32 ≤ c ∧ c < 127) ∧ sgx k ≤ 2 := by decide +kernel
theorem flat_ok : ∀ {ps : List Tk}, (∀ k ∈ ps, k ∈ partM) → ps.flatten.length ≤ 3 * ps.length ∧ (∀ c ∈ ps.flatten, 32 ≤ c ∧ c < 127) ∧ sgx ps.flatten ≤ 2 * ps.length
  | [], _ => ⟨Nat.le_refl _, (fun _ h => nomatch h), Nat.le_refl _⟩
  | k :: r, h => by
    obtain ⟨a1, a2, a3⟩ := part_ok k (h k (.head _))
    obtain ⟨b1, b2, b3⟩ := flat_ok (ps := r) fun z hz => h z (.tail _ hz)
    rw [List.flatten_cons]
    refine ⟨by rw [List.length_append, List.length_cons]; (first | lia | omega), fun c hc => ?_, by rw [sgx_app, List.length_cons]; (first | lia | omega)⟩
    rcases List.mem_append.mp hc with hc | hc
    · exact a2 c hc
    · exact b2 c hc
theorem jn_ok : ∀ {ps : List Tk}, (∀ k ∈ ps, k ∈ partM) → (jn ps).length ≤ 4 * ps.length ∧ (∀ c ∈ jn ps, 32 ≤ c ∧ c < 127) ∧ sgx (jn ps) ≤ 2 * ps.length
  | [], _ => ⟨Nat.le_refl _, (fun _ h => nomatch h), Nat.le_refl _⟩
  | [k], h => by
    obtain ⟨a1, a2, a3⟩ := part_ok k (h k (.head _))
    exact ⟨by rw [jn]; simp; (first | lia | omega), a2, by rw [jn]; simp; (first | lia | omega)⟩
  | k :: b :: r, h => by
    obtain ⟨a1, a2, a3⟩ := part_ok k (h k (.head _))
    obtain ⟨b1, b2, b3⟩ := jn_ok (ps := b :: r) fun z hz => h z (.tail _ hz)
    have e32 : isS 32 = false := rfl
    rw [jn]
    refine ⟨by rw [List.length_append, List.length_cons, List.length_cons]; (first | lia | omega), fun c hc => ?_, by rw [sgx_app, sgx_cons, e32, List.length_cons]; simp only [Bool.false_eq_true, if_false]; (first | lia | omega)⟩
    rcases List.mem_append.mp hc with hc | hc
    · exact a2 c hc
    rcases List.mem_cons.mp hc with rfl | hc
    · decide
    · exact b2 c hc
theorem parts_line {ps : List Tk} (h : ∀ k ∈ ps, k ∈ partM) (hl : ps.length ≤ 16) : Line ps.flatten ∧ Line (jn ps) ∧ ((ps.map S).map (·.length)).sum + (ps.map S).length ≤ 1048576 := by
  obtain ⟨a1, a2, a3⟩ := flat_ok h
  obtain ⟨b1, b2, b3⟩ := jn_ok h
  refine ⟨⟨by (first | lia | omega), a2, by (first | lia | omega)⟩, ⟨by (first | lia | omega), b2, by (first | lia | omega)⟩, ?_⟩
  have := jn_len ps
  (first | lia | omega)
theorem turns_are {ns : List Int} (h : ¬ ((63 : Nat) : Int) < (ns.length : Int)) : ∃ n : Nat, (if (2 : Int) + 3 * (ns.length : Int) < 16 then (2 : Int) + 3 * (ns.length : Int) else 16) = (n : Int) ∧ n ≤ 16 := by
  split
  · exact ⟨2 + 3 * ns.length, by (first | lia | omega), by (first | lia | omega)⟩
  · exact ⟨16, rfl, Nat.le_refl _⟩
inductive LawPost (s1 : Shared) (sl : Addr) (pl : Addr) (f : Flow) (s₁ : Shared) : Prop
  | mk : (f = .next) → ∀ hh tkk p0 p1 t0 t1 n, (s₁ = { s1 with heap := hh, toks := tkk }) → (Fr s1.heap s1.heap.objs.size hh (lawMap (some (.ref sl)) (some (.ref pl)) none none none)) → (News s1.heap s1.heap.objs.size hh [(pl, listOf #[.int p0 t0, .int p1 t1] n)]) → (0 ≤ p0) → (0 ≤ p1) → (p1 < 2147483647) → LawPost s1 sl pl f s₁
inductive LawLoop (sl : Addr) (pl : Addr) (pa : Addr) (i : Nat) (m₁ : Str → Option Value) (news₁ : List (Addr × Obj)) : Prop
  | mk : ∀ p0 p1 t0 t1 n pv pc ps tv qv, (m₁ = lawMap (some (.ref sl)) (some (.ref pl)) (some (.ref pa)) tv qv) → (news₁ = [(pa, listOf pv pc), (pl, listOf #[.int p0 t0, .int p1 t1] n)]) → (0 ≤ p0) → (0 ≤ p1) → (p1 < 2147483647) → (StrsI pv.toList ps) → (ps.length = i) → (∀ k ∈ ps, k ∈ partM) → LawLoop sl pl pa i m₁ news₁
theorem law_holds : PySem.Challenge.rw_nu0084_01.Holds := hd rfl rfl rfl (by
  k_go0
  rename Shared => s1
  rename Addr => sl
  rename (hd.heap_39 _).In _ => KX
  rename Top _ _ _ _ _ _ => T
  rename Below _ _ _ _ => K0
  rename Fr _ _ _ _ => F
  rename News _ _ _ _ => N
  rename Heap.IsList _ _ _ => hL
  rename IntsAre _ _ => hI
  rename (¬ (_ : Int) < _) => hlen
  have am0 := (show Amb _ _ _ _ _ callerA [] _ from ⟨K0.stack, fun _ _ e => e, trivial, Nat.le_refl _, KX, T, rfl⟩)
  have rmL : ∀ env, Room (callerA.deeper env) 500 3000 := fun env => Room.deeper ⟨by decide, by decide⟩
  rename (PyData.list _).layable0 = true => hlay
  show wpAny _ _ _ _ _ _
  k_fold
  have go : GoOn := .mk
  w_strict (k_steps)
  rename Fr _ _ _ _ => F
  show wpAny _ _ _ _ _ _
  refine Gives.use (pool_spec (amb_now (W := []) am0 F N no_others noW (by rfl) (by rfl)) ((rmL _).less (by decide) (by decide)) hL hI (by first | (simp +arith only; done) | lia | omega) (fun k hk => intBits_le_of_item hk hlay)) ?_
  rintro v hN tkN ⟨pl, p0, p1, t0, t1, n, rfl, st, hpg, hfp, _, b0, b1, b2⟩
  obtain ⟨FN, NN⟩ := after_new F N st
  have NN := news_add NN hpg hfp (by rfl)
  clear F N st hpg
  (try dsimp only)
  w_strict (k_steps)
  rename Fr _ _ _ _ => F
  rename News _ _ _ _ => N
  show wpAny _ _ _ _ _ _
  rw [line1.1]
  refine Gives.use (right_spec (amb_now (W := []) am0 F N no_others noW (by rfl) (by rfl)) line1.2 (rmL _)) ?_
  rintro _ hN tkN ⟨rfl, st⟩
  obtain ⟨FN, NN⟩ := after_right F N st (by rfl)
  clear F N st
  (try dsimp only)
  w_strict (k_steps)
  rename Fr _ _ _ _ => F
  rename News _ _ _ _ => N
  show wpAny _ _ _ _ _ _
  rw [line2.1]
  refine Gives.use (right_spec (amb_now (W := []) am0 F N no_others noW (by rfl) (by rfl)) line2.2 (rmL _)) ?_
  rintro _ hN tkN ⟨rfl, st⟩
  obtain ⟨FN, NN⟩ := after_right F N st (by rfl)
  clear F N st
  (try dsimp only)
  w_strict (k_steps)
  rename Fr _ _ _ _ => F
  rename News _ _ _ _ => N0
  rename (pl < _) => l1
  show wpAny _ _ _ _ _ _
  have N : News _ _ _ ((pl, listOf #[.int p0 t0, .int p1 t1] n) :: (_, _) :: []) := news_cons N0 (by k_mem) (news_cons N0 (by k_mem) (news_sub N0 (fun p hp => by repeat (first | exact hp | apply List.Mem.tail))))
  have hex := fun o => hot_cons (o := o) l1 (fun p (hp : p ∈ []) => nomatch hp)
  clear N0
  refine use_take (take_gives (amb_now (W := [pl]) am0 F N no_others (fun a hm => by rw [List.mem_singleton.mp hm]; exact hfp.drop) (by rfl) (by rfl)) ((rmL _).less (by decide) (by decide)) (N _ (.head _)).1 hfp.base b0 b1 b2 (by decide) (by decide)) ?_
  intro hN tkN d0 e0 dl0 dh0 st p0' p1' t0' t1' n' hp' b0' b1' b2'
  obtain ⟨FN, NN⟩ := after_write F N (hex _) st hp'
  clear F N st hex hp' b0 b1 b2
  (try dsimp only)
  have hd0 : (9 + d0).toNat = 9 ∨ (9 + d0).toNat = 10 := by (first | lia | omega)
  w_strict (k_steps)
  rename Heap.IsList _ _ _ => hJ
  show wpAny _ _ _ _ _ _
  refine join_listW hJ (ys := (List.replicate (9 + d0).toNat [119]).map S) (w_strs _ _).are (by decide +kernel) (w_line hd0).2 ?_
  intro tj kj
  have ej : Txt.join (Str.ofString " ") ((List.replicate (9 + d0).toNat [119]).map S) = S (jn (List.replicate (9 + d0).toNat [119])) := by rw [sp_S, join_S]
  rw [ej]
  clear ej
  (try dsimp only)
  w_strict (k_steps)
  rename Fr _ _ _ _ => F
  rename News _ _ _ _ => N
  show wpAny _ _ _ _ _ _
  refine Gives.use (right_spec (amb_now (W := []) am0 F N no_others noW (by rfl) (by rfl)) (w_line hd0).1 (rmL _)) ?_
  rintro _ hN tkN ⟨rfl, st⟩
  obtain ⟨FN, NN⟩ := after_right F N st (by rfl)
  clear F N st
  (try dsimp only)
  clear go
  w_strict (k_steps)
  rename Fr _ _ _ _ => F
  rename News _ _ _ _ => N
  clear hJ hd0
  show wpAny _ _ _ _ _ _
  refine wpAny_mono (Q := fun f s₁ => Halt (LawPost s1 sl pl f s₁)) ?_ ?_ (fun _ _ e => e)
  · have go : GoOn := .mk
    w_strict (k_steps)
    · skip
      rename Fr _ _ _ _ => F
      rename News _ _ _ _ => N0
      show wpAny _ _ _ _ _ _
      have N : News _ _ _ ((pl, listOf #[.int p0' t0', .int p1' t1'] n') :: []) := news_cons N0 (by k_mem) (news_sub N0 (fun p hp => by repeat (first | exact hp | apply List.Mem.tail)))
      have hex : ∀ p ∈ ([] : List (Addr × Obj)), p.1 ≠ pl := fun p hp => nomatch hp
      clear N0
      refine use_made (makes 1 (by decide) (amb_now (W := [pl]) am0 F N no_others (fun a hm => by rw [List.mem_singleton.mp hm]; exact hfp.drop) (by rfl) (by rfl)) ((rmL _).less (by decide) (by decide)) rfl (N _ (.head _)).1 hfp b0' b1' b2') ?_
      intro hN tkN xm tm hxm st p0'' p1'' t0'' t1'' n'' hp' b0'' b1'' b2''
      obtain ⟨FN, NN⟩ := after_write F N hex st hp'
      clear F N st hex hp' b0' b1' b2'
      (try dsimp only)
      w_strict (k_steps)
      rename Fr _ _ _ _ => F
      rename News _ _ _ _ => N
      show wpAny _ _ _ _ _ _
      refine Gives.use (right_spec (amb_now (W := []) am0 F N no_others noW (by rfl) (by rfl)) (hxm.line (by decide) (by decide)) (rmL _)) ?_
      rintro _ hN tkN ⟨rfl, st⟩
      obtain ⟨FN, NN⟩ := after_right F N st (by rfl)
      clear F N st
      (try dsimp only)
      w_strict (k_steps)
      exact Halt.mk ⟨rfl, _, _, _, _, _, _, _, rfl, fr_congr FN fun y => by
        unfold lawMap
        by_cases q0 : y = Str.ofString "script"
        · subst q0; rfl
        by_cases q1 : y = Str.ofString "pool"
        · subst q1; rfl
        by_cases q2 : y = Str.ofString "parts"
        · subst q2; rfl
        by_cases q3 : y = Str.ofString "turn"
        · subst q3; rfl
        by_cases q4 : y = Str.ofString "part"
        · subst q4; rfl
        simp only [if_neg q0, if_neg q1, if_neg q2, if_neg q3, if_neg q4]
        first | rfl | exact (lk1 (Str.ofString "script") _ y).trans (if_neg q0)
        , NN, b0'', b1'', b2''⟩
    · skip
      rename Fr _ _ _ _ => F
      rename News _ _ _ _ => N0
      show wpAny _ _ _ _ _ _
      have N : News _ _ _ ((pl, listOf #[.int p0' t0', .int p1' t1'] n') :: []) := news_cons N0 (by k_mem) (news_sub N0 (fun p hp => by repeat (first | exact hp | apply List.Mem.tail)))
      have hex : ∀ p ∈ ([] : List (Addr × Obj)), p.1 ≠ pl := fun p hp => nomatch hp
      clear N0
      refine use_made (makes 3 (by decide) (amb_now (W := [pl]) am0 F N no_others (fun a hm => by rw [List.mem_singleton.mp hm]; exact hfp.drop) (by rfl) (by rfl)) ((rmL _).less (by decide) (by decide)) rfl (N _ (.head _)).1 hfp b0' b1' b2') ?_
      intro hN tkN xm tm hxm st p0'' p1'' t0'' t1'' n'' hp' b0'' b1'' b2''
      obtain ⟨FN, NN⟩ := after_write F N hex st hp'
      clear F N st hex hp' b0' b1' b2'
      (try dsimp only)
      w_strict (k_steps)
      rename Fr _ _ _ _ => F
      rename News _ _ _ _ => N
      show wpAny _ _ _ _ _ _
      refine Gives.use (right_spec (amb_now (W := []) am0 F N no_others noW (by rfl) (by rfl)) (hxm.line (by decide) (by decide)) (rmL _)) ?_
      rintro _ hN tkN ⟨rfl, st⟩
      obtain ⟨FN, NN⟩ := after_right F N st (by rfl)
      clear F N st
      (try dsimp only)
      w_strict (k_steps)
      exact Halt.mk ⟨rfl, _, _, _, _, _, _, _, rfl, fr_congr FN fun y => by
        unfold lawMap
        by_cases q0 : y = Str.ofString "script"
        · subst q0; rfl
        by_cases q1 : y = Str.ofString "pool"
        · subst q1; rfl
        by_cases q2 : y = Str.ofString "parts"
        · subst q2; rfl
        by_cases q3 : y = Str.ofString "turn"
        · subst q3; rfl
        by_cases q4 : y = Str.ofString "part"
        · subst q4; rfl
        simp only [if_neg q0, if_neg q1, if_neg q2, if_neg q3, if_neg q4]
        first | rfl | exact (lk1 (Str.ofString "script") _ y).trans (if_neg q0)
        , NN, b0'', b1'', b2''⟩
  rintro f s₁ ⟨⟨rfl, hh, tkk, p0, p1, t0, t1, n, rfl, F, N, b0, b1, b2⟩⟩
  (try dsimp only)
  w_strict (k_steps)
  rename Fr _ _ _ _ => F
  rename News _ _ _ _ => N
  rename IsRange _ _ _ _ _ _ _ _ => hrg
  rename (pl < _) => l1
  rename_i pa _ _ lFx _ _ Fx Nx _ _ _ _ _ _
  clear lFx Fx Nx
  show wpAny _ _ _ _ _ _
  obtain ⟨nt, hnt, hnt2⟩ := turns_are (ns := _) hlen
  rw [hnt] at hrg
  refine for_range (n := nt) (m := lawMap (some (.ref sl)) (some (.ref pl)) (some (.ref pa)) none none) (LawLoop sl pl pa)
    rfl hrg (small_one (by first | (simp +arith only; done) | lia | omega) (by first | (simp +arith only; done) | lia | omega) (by first | (simp +arith only; done) | lia | omega) (by first | (simp +arith only; done) | lia | omega)) (by rw [rangeSize_nat]; simp) (fr_congr F fun y => by
      ((simp only [lawMap_parts, lawMap_turn, lawMap_part]); try rfl)) N ⟨p0, p1, t0, t1, n, _, _, [], none, none, rfl, rfl, b0, b1, b2, .nil, rfl, fun _ h => nomatch h⟩ ?_ ?_
  · clear F N b0 b1 b2
    clear p0 p1 t0 t1 n
    rintro i t m₁ news₁ I own o h tk hi ⟨p0, p1, t0, t1, n, pv, pc, ps, tv, qv, rfl, rfl, b0, b1, b2, hps, hpl, hpm⟩ hoff hown hIo F N
    have hnp : pa ≠ pl := Nat.ne_of_gt l1
    w_strict (k_steps)
    rename Fr _ _ _ _ => F
    rename News _ _ _ _ => N0
    rename (∀ p : Addr × Obj, p ∈ _ → p.1 < _) => l0
    show wpAny _ _ _ _ _ _
    have N : News _ _ _ ((pl, listOf #[.int p0 t0, .int p1 t1] n) :: (_, _) :: (pa, listOf pv pc) :: own) := all_cons (N0 _ (.tail _ (List.mem_append_right _ (.tail _ (.head _))))) (all_cons (N0 _ (.head _)) (all_cons (N0 _ (.tail _ (List.mem_append_right _ (.head _)))) (fun p hp => N0 _ (.tail _ (List.mem_append_left _ hp)))))
    have hpI : pl ≠ I := hoff (pl, listOf #[.int p0 t0, .int p1 t1] n) (.tail _ (.head _))
    have hex : ∀ p ∈ (pa, listOf pv pc) :: own, p.1 ≠ pl := fun p hp => by
      rcases List.mem_cons.mp hp with rfl | hp
      · exact hnp
      · rw [hown p hp]; exact Ne.symm hpI
    have hex2 := fun o => hot_cons (o := o) (l0 (pl, listOf #[.int p0 t0, .int p1 t1] n) (List.mem_append_right _ (.tail _ (.head _)))) hex
    refine use_take (take_gives (amb_now (W := [pl]) am0 F N no_others (fun a hm => by rw [List.mem_singleton.mp hm]; exact hfp.drop) (by rfl) (by rfl)) ((rmL _).less (by decide) (by decide)) (N _ (.head _)).1 hfp.base b0 b1 b2 (by decide) (by decide)) ?_
    intro hN tkN d1 e1 dl1 dh1 st q0 q1 u0 u1 n1 hp' c0 c1 c2
    obtain ⟨FN, NN⟩ := after_write F N (hex2 _) st hp'
    have lD : pa < _ := l0 (pa, listOf pv pc) (List.mem_append_right _ (.head _))
    have hDpa : (_ : Addr) ≠ pa := Nat.ne_of_gt lD
    have hopa : ∀ p ∈ own, p.1 ≠ pa := fun p hp => by rw [hown p hp]; exact Ne.symm (hoff (pa, listOf pv pc) (.head _))
    clear F N N0 st hex hex2 hp' b0 b1 b2 l0
    (try dsimp only)
    have hA : StrsAre pv.toList (ps.map S) := hps.are
    have hpz : pv.size = ps.length := hps.size
    w_strict (k_steps)
    show wpAny _ _ (subscriptTail _ _ _ _) _ _ _
    rename Fr _ _ _ _ => F
    rename News _ _ _ _ => N
    refine kba_turn (value' := PySem.Expr.Name (PySem.Str.ofString "_") ⟨0, 0, 0, 0⟩) (fun _ => rfl) ?_
    with_unfolding_all refine' menu_S N (.tail _ (.head _)) (part_are ..) dl1 (lt12 dh1) ?_ ?zs ?zt (by decide) (by decide)
    case zs => with_unfolding_all rfl
    case zt => intro _; with_unfolding_all rfl
    intro km tm hkm hkl
    (try dsimp only)
    w_strict (k_steps)
    · skip
      rename Fr _ _ _ _ => F9
      rename News _ _ _ _ => N9
      exact ⟨_, _, _, [(pa, listOf (pv.push (.str (S km) tm)) (pc + 1)), (pl, listOf #[.int q0 u0, .int q1 u1] n1)], rfl, fr_congr F9 (m' := lawMap (some (.ref sl)) (some (.ref pl)) (some (.ref pa)) (some (.int (0 + ↑i * 1) t)) (some (.str (S km) tm))) fun y => by
        ((simp only [lawMap_parts, lawMap_turn, lawMap_part]); try rfl)
        , fun p hp => by
        rcases List.mem_append.mp hp with hp | hp
        · exact N9 _ (.tail _ (.tail _ (.tail _ hp)))
        rcases List.mem_cons.mp hp with rfl | hp
        · exact N9 _ (.tail _ (.tail _ (.head _)))
        · rw [List.mem_singleton.mp hp]; exact N9 _ (.head _)
        , fun p hp => by
        rcases List.mem_cons.mp hp with rfl | hp
        · exact hoff (pa, listOf pv pc) (.head _)
        · rw [List.mem_singleton.mp hp]; exact hpI
        , q0, q1, u0, u1, n1, _, _, ps ++ [km], _, _, rfl, rfl, c0, c1, c2, by rw [Array.toList_push]; exact hps.snoc _ _, by rw [List.length_append, hpl]; rfl, fun z hz => by
        rcases List.mem_append.mp hz with hz | hz
        · exact hpm z hz
        · rw [List.mem_singleton.mp hz]; exact hkm⟩
    · skip
      rename Fr _ _ _ _ => F9
      rename News _ _ _ _ => N9
      exact ⟨_, _, _, [(pa, listOf (pv.push (.str (S km) tm)) (pc + 1)), (pl, listOf #[.int q0 u0, .int q1 u1] n1)], rfl, fr_congr F9 (m' := lawMap (some (.ref sl)) (some (.ref pl)) (some (.ref pa)) (some (.int (0 + ↑i * 1) t)) (some (.str (S km) tm))) fun y => by
        ((simp only [lawMap_parts, lawMap_turn, lawMap_part]); try rfl)
        , fun p hp => by
        rcases List.mem_append.mp hp with hp | hp
        · exact N9 _ (.tail _ (.tail _ (.tail _ hp)))
        rcases List.mem_cons.mp hp with rfl | hp
        · exact N9 _ (.tail _ (.tail _ (.head _)))
        · rw [List.mem_singleton.mp hp]; exact N9 _ (.head _)
        , fun p hp => by
        rcases List.mem_cons.mp hp with rfl | hp
        · exact hoff (pa, listOf pv pc) (.head _)
        · rw [List.mem_singleton.mp hp]; exact hpI
        , q0, q1, u0, u1, n1, _, _, ps ++ [km], _, _, rfl, rfl, c0, c1, c2, by rw [Array.toList_push]; exact hps.snoc _ _, by rw [List.length_append, hpl]; rfl, fun z hz => by
        rcases List.mem_append.mp hz with hz | hz
        · exact hpm z hz
        · rw [List.mem_singleton.mp hz]; exact hkm⟩
    · skip
      rename Fr _ _ _ _ => F9
      rename News _ _ _ _ => N9
      rw [show Str.ofString "a" = S [97] from by decide +kernel] at N9
      exact ⟨_, _, _, [(pa, listOf (pv.push (.str (S [97]) _)) (pc + 1)), (pl, listOf #[.int q0 u0, .int q1 u1] n1)], rfl, fr_congr F9 (m' := lawMap (some (.ref sl)) (some (.ref pl)) (some (.ref pa)) (some (.int (0 + ↑i * 1) t)) (some (.str (S km) tm))) fun y => by
        ((simp only [lawMap_parts, lawMap_turn, lawMap_part]); try rfl)
        , fun p hp => by
        rcases List.mem_append.mp hp with hp | hp
        · exact N9 _ (.tail _ (.tail _ (.tail _ hp)))
        rcases List.mem_cons.mp hp with rfl | hp
        · exact N9 _ (.tail _ (.tail _ (.head _)))
        · rw [List.mem_singleton.mp hp]; exact N9 _ (.head _)
        , fun p hp => by
        rcases List.mem_cons.mp hp with rfl | hp
        · exact hoff (pa, listOf pv pc) (.head _)
        · rw [List.mem_singleton.mp hp]; exact hpI
        , q0, q1, u0, u1, n1, _, _, ps ++ [[97]], _, _, rfl, rfl, c0, c1, c2, by rw [Array.toList_push]; exact hps.snoc _ _, by rw [List.length_append, hpl]; rfl, fun z hz => by
        rcases List.mem_append.mp hz with hz | hz
        · exact hpm z hz
        · rw [List.mem_singleton.mp hz]; exact .head _⟩
  · clear F N b0 b1 b2
    rintro h' tk' m' news' F N ⟨p0, p1, t0, t1, n, pv, pc, ps, tv, qv, rfl, rfl, b0, b1, b2, hps, hpl, hpm⟩
    obtain ⟨ln1, ln2, lb⟩ := parts_line hpm (by first | (simp +arith only; done) | lia | omega)
    (try dsimp only)
    w_strict (k_steps)
    rename Fr _ _ _ _ => F
    rename News _ _ _ _ => N
    show wpAny _ _ _ _ _ _
    refine join_listW (News.isList N (by k_mem)) hps.are (by decide +kernel) lb ?_
    intro tj kj
    rw [join_E]
    (try dsimp only)
    w_strict (k_steps)
    rename Fr _ _ _ _ => F
    rename News _ _ _ _ => N
    show wpAny _ _ _ _ _ _
    refine Gives.use (right_spec (amb_now (W := []) am0 F N no_others noW (by rfl) (by rfl)) ln1 (rmL _)) ?_
    rintro _ hN tkN ⟨rfl, st⟩
    obtain ⟨FN, NN⟩ := after_right F N st (by rfl)
    clear F N st
    (try dsimp only)
    w_strict (k_steps)
    rename Fr _ _ _ _ => F
    rename News _ _ _ _ => N
    show wpAny _ _ _ _ _ _
    refine join_listW (News.isList N (by k_mem)) hps.are (by decide +kernel) lb ?_
    intro tj2 kj2
    have ej : Txt.join (Str.ofString " ") (ps.map S) = S (jn ps) := by rw [sp_S, join_S]
    rw [ej]
    clear ej
    (try dsimp only)
    w_strict (k_steps)
    rename Fr _ _ _ _ => F
    rename News _ _ _ _ => N
    show wpAny _ _ _ _ _ _
    refine Gives.use (right_spec (amb_now (W := []) am0 F N no_others noW (by rfl) (by rfl)) ln2 (rmL _)) ?_
    rintro _ hN tkN ⟨rfl, st⟩
    obtain ⟨FN, NN⟩ := after_right F N st (by rfl)
    clear F N st
    (try dsimp only)
    w_strict (k_steps))
end

end Mine

theorem PySem.Challenge.cw_nu0084_01_holds : PySem.Challenge.rw_nu0084_01.Holds :=
  Mine.law_holds
