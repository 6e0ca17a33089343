import PyProof.Rows.All
import Wide.All
import OpenK.AllK
import Wide.FinOn
import PySem.Challenge.RW_xm0622_01
set_option Elab.async false
set_option maxRecDepth 100000
set_option maxHeartbeats 8000000
set_option rowWalk.seconds 0
section
open PySem PySem.W PyProof.Rows
namespace Mine
noncomputable abbrev pw : Program := PySem.Challenge.pw_xm0622_01
noncomputable def topParts (i : Nat) : Option (Arguments × List Stmt × Scope) := match pw.main.body[i]? with
  | some (.FunctionDef _ a b _ _ _ s _ _ _) => some (a, b, s)
  | _ => none
noncomputable def methParts (i j : Nat) : Option (Arguments × List Stmt × Scope) := match pw.main.body[i]? with
  | some (.ClassDef _ _ _ l _ _ _ _ _ _ _) => (match l[j]? with
    | some (.FunctionDef _ a b _ _ _ s _ _ _) => some (a, b, s)
    | _ => none)
  | _ => none
/-- the written part of the heap: the objects at these addresses; what belongs to the text of a def is read off the row by `rfl` -/
noncomputable def K : Params → Frag := by
  refine (?f : (p21 : Arguments) → (b21 : List Stmt) → (s21 : Scope) → topParts 0 = some (p21, b21, s21) →
    (p28 : Arguments) → (b28 : List Stmt) → (s28 : Scope) → topParts 2 = some (p28, b28, s28) →
    (p42 : Arguments) → (b42 : List Stmt) → (s42 : Scope) → methParts 4 0 = some (p42, b42, s42) →
    (p55 : Arguments) → (b55 : List Stmt) → (s55 : Scope) → topParts 21 = some (p55, b55, s55) →
    (p62 : Arguments) → (b62 : List Stmt) → (s62 : Scope) → topParts 22 = some (p62, b62, s62) →
    (p69 : Arguments) → (b69 : List Stmt) → (s69 : Scope) → topParts 23 = some (p69, b69, s69) →
    (p76 : Arguments) → (b76 : List Stmt) → (s76 : Scope) → topParts 24 = some (p76, b76, s76) →
    (p83 : Arguments) → (b83 : List Stmt) → (s83 : Scope) → topParts 25 = some (p83, b83, s83) →
    (p90 : Arguments) → (b90 : List Stmt) → (s90 : Scope) → topParts 26 = some (p90, b90, s90) →
    (p97 : Arguments) → (b97 : List Stmt) → (s97 : Scope) → topParts 27 = some (p97, b97, s97) →
    (p104 : Arguments) → (b104 : List Stmt) → (s104 : Scope) → topParts 28 = some (p104, b104, s104) →
    (p111 : Arguments) → (b111 : List Stmt) → (s111 : Scope) → topParts 29 = some (p111, b111, s111) →
    (p126 : Arguments) → (b126 : List Stmt) → (s126 : Scope) → methParts 30 0 = some (p126, b126, s126) →
    (p133 : Arguments) → (b133 : List Stmt) → (s133 : Scope) → methParts 30 1 = some (p133, b133, s133) →
    (p140 : Arguments) → (b140 : List Stmt) → (s140 : Scope) → methParts 30 2 = some (p140, b140, s140) →
    (p147 : Arguments) → (b147 : List Stmt) → (s147 : Scope) → methParts 30 3 = some (p147, b147, s147) →
    (p154 : Arguments) → (b154 : List Stmt) → (s154 : Scope) → methParts 30 4 = some (p154, b154, s154) →
    (p161 : Arguments) → (b161 : List Stmt) → (s161 : Scope) → methParts 30 5 = some (p161, b161, s161) →
    (p168 : Arguments) → (b168 : List Stmt) → (s168 : Scope) → methParts 30 6 = some (p168, b168, s168) →
    (p175 : Arguments) → (b175 : List Stmt) → (s175 : Scope) → methParts 30 7 = some (p175, b175, s175) →
    (p182 : Arguments) → (b182 : List Stmt) → (s182 : Scope) → methParts 30 8 = some (p182, b182, s182) →
    (p189 : Arguments) → (b189 : List Stmt) → (s189 : Scope) → methParts 30 9 = some (p189, b189, s189) →
    (p196 : Arguments) → (b196 : List Stmt) → (s196 : Scope) → methParts 30 10 = some (p196, b196, s196) →
    (p203 : Arguments) → (b203 : List Stmt) → (s203 : Scope) → methParts 30 11 = some (p203, b203, s203) →
    (p210 : Arguments) → (b210 : List Stmt) → (s210 : Scope) → methParts 30 12 = some (p210, b210, s210) →
    (p217 : Arguments) → (b217 : List Stmt) → (s217 : Scope) → methParts 30 13 = some (p217, b217, s217) →
    (p224 : Arguments) → (b224 : List Stmt) → (s224 : Scope) → methParts 30 14 = some (p224, b224, s224) →
    (p231 : Arguments) → (b231 : List Stmt) → (s231 : Scope) → methParts 30 15 = some (p231, b231, s231) →
    (p238 : Arguments) → (b238 : List Stmt) → (s238 : Scope) → methParts 30 16 = some (p238, b238, s238) →
    (p245 : Arguments) → (b245 : List Stmt) → (s245 : Scope) → methParts 30 17 = some (p245, b245, s245) →
    (p252 : Arguments) → (b252 : List Stmt) → (s252 : Scope) → methParts 30 18 = some (p252, b252, s252) →
    (p257 : Arguments) → (b257 : List Stmt) → (s257 : Scope) → methParts 30 19 = some (p257, b257, s257) →
    (p264 : Arguments) → (b264 : List Stmt) → (s264 : Scope) → methParts 30 20 = some (p264, b264, s264) →
    (p278 : Arguments) → (b278 : List Stmt) → (s278 : Scope) → topParts 32 = some (p278, b278, s278) →
    (p285 : Arguments) → (b285 : List Stmt) → (s285 : Scope) → topParts 33 = some (p285, b285, s285) →
    (p290 : Arguments) → (b290 : List Stmt) → (s290 : Scope) → topParts 34 = some (p290, b290, s290) →
    (p295 : Arguments) → (b295 : List Stmt) → (s295 : Scope) → topParts 35 = some (p295, b295, s295) →
    (p300 : Arguments) → (b300 : List Stmt) → (s300 : Scope) → topParts 36 = some (p300, b300, s300) →
    (p307 : Arguments) → (b307 : List Stmt) → (s307 : Scope) → topParts 37 = some (p307, b307, s307) →
    Params → Frag) _ _ _ rfl _ _ _ rfl _ _ _ rfl _ _ _ rfl _ _ _ rfl _ _ _ rfl _ _ _ rfl _ _ _ rfl _ _ _ rfl _ _ _ rfl _ _ _ rfl _ _ _ rfl _ _ _ rfl _ _ _ rfl _ _ _ rfl _ _ _ rfl _ _ _ rfl _ _ _ rfl _ _ _ rfl _ _ _ rfl _ _ _ rfl _ _ _ rfl _ _ _ rfl _ _ _ rfl _ _ _ rfl _ _ _ rfl _ _ _ rfl _ _ _ rfl _ _ _ rfl _ _ _ rfl _ _ _ rfl _ _ _ rfl _ _ _ rfl _ _ _ rfl _ _ _ rfl _ _ _ rfl _ _ _ rfl _ _ _ rfl _ _ _ rfl
  exact fun p21 b21 s21 _ p28 b28 s28 _ p42 b42 s42 _ p55 b55 s55 _ p62 b62 s62 _ p69 b69 s69 _ p76 b76 s76 _ p83 b83 s83 _ p90 b90 s90 _ p97 b97 s97 _ p104 b104 s104 _ p111 b111 s111 _ p126 b126 s126 _ p133 b133 s133 _ p140 b140 s140 _ p147 b147 s147 _ p154 b154 s154 _ p161 b161 s161 _ p168 b168 s168 _ p175 b175 s175 _ p182 b182 s182 _ p189 b189 s189 _ p196 b196 s196 _ p203 b203 s203 _ p210 b210 s210 _ p217 b217 s217 _ p224 b224 s224 _ p231 b231 s231 _ p238 b238 s238 _ p245 b245 s245 _ p252 b252 s252 _ p257 b257 s257 _ p264 b264 s264 _ p278 b278 s278 _ p285 b285 s285 _ p290 b290 s290 _ p295 b295 s295 _ p300 b300 s300 _ p307 b307 s307 _ P =>
    @Prod.mk Nat Obj (nat_lit 2) (Obj.mk Value.none none (Data.dict #[DictEntry.mk (PyData.keyHash P (Str.ofString "type.__subclasses__.Exception.0")) (Value.str (Str.ofString "type.__subclasses__.Exception.0") 236) (Value.int 45 0), DictEntry.mk (PyData.keyHash P (Str.ofString "type.__subclasses__.Exception.n")) (Value.str (Str.ofString "type.__subclasses__.Exception.n") 237) (Value.int 1 0)] 2) #[]) ::
    @Prod.mk Nat Obj (nat_lit 3) (Obj.mk (Value.type "dict") none (Data.dict #[DictEntry.mk (PyData.keyHash P (Str.ofString "__name__")) (Value.str (Str.ofString "__name__") 165) (Value.str (Str.ofString "law_xm0622_01") 591), DictEntry.mk (PyData.keyHash P (Str.ofString "__doc__")) (Value.str (Str.ofString "__doc__") 166) Value.none, DictEntry.mk (PyData.keyHash P (Str.ofString "__package__")) (Value.str (Str.ofString "__package__") 167) Value.none, DictEntry.mk (PyData.keyHash P (Str.ofString "__loader__")) (Value.str (Str.ofString "__loader__") 168) (Value.builtin "__main__.__loader__#opaque"), DictEntry.mk (PyData.keyHash P (Str.ofString "__spec__")) (Value.str (Str.ofString "__spec__") 169) Value.none, DictEntry.mk (PyData.keyHash P (Str.ofString "__annotations__")) (Value.str (Str.ofString "__annotations__") 170) (Value.ref 6), DictEntry.mk (PyData.keyHash P (Str.ofString "__builtins__")) (Value.str (Str.ofString "__builtins__") 171) (Value.ref 4), DictEntry.mk (PyData.keyHash P (Str.ofString "__file__")) (Value.str (Str.ofString "__file__") 173) (Value.str (Str.ofString "/claim/cut.py") 172), DictEntry.mk (PyData.keyHash P (Str.ofString "__cached__")) (Value.str (Str.ofString "__cached__") 174) Value.none, DictEntry.mk (PyData.keyHash P (Str.ofString "_wall")) (Value.str (Str.ofString "_wall") 193) (Value.ref 21), DictEntry.mk (PyData.keyHash P (Str.ofString "first_match")) (Value.str (Str.ofString "first_match") 206) (Value.ref 28), DictEntry.mk (PyData.keyHash P (Str.ofString "LuaError")) (Value.str (Str.ofString "LuaError") 239) (Value.ref 45), DictEntry.mk (PyData.keyHash P (Str.ofString "MOST_CAPTURES")) (Value.str (Str.ofString "MOST_CAPTURES") 243) (Value.int 32 242), DictEntry.mk (PyData.keyHash P (Str.ofString "UNFINISHED")) (Value.str (Str.ofString "UNFINISHED") 246) (Value.int (-1) 245), DictEntry.mk (PyData.keyHash P (Str.ofString "POSITION")) (Value.str (Str.ofString "POSITION") 249) (Value.int (-2) 248), DictEntry.mk (PyData.keyHash P (Str.ofString "ESCAPE")) (Value.str (Str.ofString "ESCAPE") 251) (Value.int 37 250), DictEntry.mk (PyData.keyHash P (Str.ofString "CARET")) (Value.str (Str.ofString "CARET") 253) (Value.int 94 252), DictEntry.mk (PyData.keyHash P (Str.ofString "DOLLAR")) (Value.str (Str.ofString "DOLLAR") 255) (Value.int 36 254), DictEntry.mk (PyData.keyHash P (Str.ofString "DOT")) (Value.str (Str.ofString "DOT") 257) (Value.int 46 256), DictEntry.mk (PyData.keyHash P (Str.ofString "OPEN")) (Value.str (Str.ofString "OPEN") 259) (Value.int 40 258), DictEntry.mk (PyData.keyHash P (Str.ofString "CLOSE")) (Value.str (Str.ofString "CLOSE") 261) (Value.int 41 260), DictEntry.mk (PyData.keyHash P (Str.ofString "SET_OPEN")) (Value.str (Str.ofString "SET_OPEN") 263) (Value.int 91 262), DictEntry.mk (PyData.keyHash P (Str.ofString "SET_CLOSE")) (Value.str (Str.ofString "SET_CLOSE") 265) (Value.int 93 264), DictEntry.mk (PyData.keyHash P (Str.ofString "STAR")) (Value.str (Str.ofString "STAR") 267) (Value.int 42 266), DictEntry.mk (PyData.keyHash P (Str.ofString "PLUS")) (Value.str (Str.ofString "PLUS") 269) (Value.int 43 268), DictEntry.mk (PyData.keyHash P (Str.ofString "MINUS")) (Value.str (Str.ofString "MINUS") 271) (Value.int 45 270), DictEntry.mk (PyData.keyHash P (Str.ofString "MARK")) (Value.str (Str.ofString "MARK") 273) (Value.int 63 272), DictEntry.mk (PyData.keyHash P (Str.ofString "is_lower")) (Value.str (Str.ofString "is_lower") 280) (Value.ref 55), DictEntry.mk (PyData.keyHash P (Str.ofString "is_upper")) (Value.str (Str.ofString "is_upper") 287) (Value.ref 62), DictEntry.mk (PyData.keyHash P (Str.ofString "is_alpha")) (Value.str (Str.ofString "is_alpha") 294) (Value.ref 69), DictEntry.mk (PyData.keyHash P (Str.ofString "is_digit")) (Value.str (Str.ofString "is_digit") 301) (Value.ref 76), DictEntry.mk (PyData.keyHash P (Str.ofString "is_space")) (Value.str (Str.ofString "is_space") 308) (Value.ref 83), DictEntry.mk (PyData.keyHash P (Str.ofString "is_control")) (Value.str (Str.ofString "is_control") 315) (Value.ref 90), DictEntry.mk (PyData.keyHash P (Str.ofString "is_punctuation")) (Value.str (Str.ofString "is_punctuation") 322) (Value.ref 97), DictEntry.mk (PyData.keyHash P (Str.ofString "is_hex")) (Value.str (Str.ofString "is_hex") 329) (Value.ref 104), DictEntry.mk (PyData.keyHash P (Str.ofString "in_class")) (Value.str (Str.ofString "in_class") 339) (Value.ref 111), DictEntry.mk (PyData.keyHash P (Str.ofString "Matcher")) (Value.str (Str.ofString "Matcher") 590) (Value.ref 267), DictEntry.mk (PyData.keyHash P (Str.ofString "_law_from")) (Value.str (Str.ofString "_law_from") 601) (Value.ref 278), DictEntry.mk (PyData.keyHash P (Str.ofString "_law_met")) (Value.str (Str.ofString "_law_met") 613) (Value.ref 285), DictEntry.mk (PyData.keyHash P (Str.ofString "_law_put_on")) (Value.str (Str.ofString "_law_put_on") 619) (Value.ref 290), DictEntry.mk (PyData.keyHash P (Str.ofString "_law_words")) (Value.str (Str.ofString "_law_words") 625) (Value.ref 295), DictEntry.mk (PyData.keyHash P (Str.ofString "_law_least_ones")) (Value.str (Str.ofString "_law_least_ones") 631) (Value.ref 300), DictEntry.mk (PyData.keyHash P (Str.ofString "law")) (Value.str (Str.ofString "law") 651) (Value.ref 307)] 43) #[]) ::
    @Prod.mk Nat Obj (nat_lit 15) (Obj.mk (Value.type "tuple") none (Data.seq #[]) #[]) ::
    @Prod.mk Nat Obj (nat_lit 17) (Obj.mk (Value.type "tuple") none (Data.seq #[Value.str (Str.ofString "k") 190]) #[]) ::
    @Prod.mk Nat Obj (nat_lit 18) (Obj.mk (Value.type "tuple") none (Data.seq #[]) #[]) ::
    @Prod.mk Nat Obj (nat_lit 20) (Obj.mk (Value.type "code") none (Data.fields #[Value.str (Str.ofString "_wall") 187, Value.str (Str.ofString "_wall") 188, Value.str (Str.ofString "/claim/cut.py") 189, Value.int 1 0, Value.int 1 0, Value.int 0 0, Value.int 0 0, Value.int 3 0, Value.ref 15, Value.bool Bool.true, Value.int 181 0, Value.ref 16, Value.none, Value.ref 17, Value.ref 18, Value.ref 19, Value.int 191 0, Value.int 1 0, Value.str (Str.ofString "/claim/cut.py") 192]) #[]) ::
    @Prod.mk Nat Obj (nat_lit 21) (Obj.mk (Value.type "function") none (Data.func (FuncData.mk (Str.ofString "_wall") (Str.ofString "_wall") p21 (FuncBody.stmts b21) s21 3 [] Value.none Value.none Value.none (Value.str (Str.ofString "__main__") 164) none (Value.ref 20) Value.none 0)) #[]) ::
    @Prod.mk Nat Obj (nat_lit 22) (Obj.mk (Value.type "tuple") none (Data.seq #[]) #[]) ::
    @Prod.mk Nat Obj (nat_lit 24) (Obj.mk (Value.type "tuple") none (Data.seq #[Value.str (Str.ofString "size") 199, Value.str (Str.ofString "begin") 200, Value.str (Str.ofString "is_bound") 201, Value.str (Str.ofString "ends_at") 202, Value.str (Str.ofString "end") 203]) #[]) ::
    @Prod.mk Nat Obj (nat_lit 25) (Obj.mk (Value.type "tuple") none (Data.seq #[]) #[]) ::
    @Prod.mk Nat Obj (nat_lit 27) (Obj.mk (Value.type "code") none (Data.fields #[Value.str (Str.ofString "first_match") 196, Value.str (Str.ofString "first_match") 197, Value.str (Str.ofString "/claim/cut.py") 198, Value.int 5 0, Value.int 4 0, Value.int 0 0, Value.int 0 0, Value.int 3 0, Value.ref 22, Value.bool Bool.true, Value.int 181 0, Value.ref 23, Value.none, Value.ref 24, Value.ref 25, Value.ref 26, Value.int 204 0, Value.int 5 0, Value.str (Str.ofString "/claim/cut.py") 205]) #[]) ::
    @Prod.mk Nat Obj (nat_lit 28) (Obj.mk (Value.type "function") none (Data.func (FuncData.mk (Str.ofString "first_match") (Str.ofString "first_match") p28 (FuncBody.stmts b28) s28 3 [] Value.none Value.none Value.none (Value.str (Str.ofString "lua.textcore") 194) none (Value.ref 27) Value.none 0)) #[]) ::
    @Prod.mk Nat Obj (nat_lit 29) (Obj.mk (Value.type "tuple") none (Data.seq #[Value.type "Exception"]) #[]) ::
    @Prod.mk Nat Obj (nat_lit 36) (Obj.mk (Value.type "tuple") none (Data.seq #[]) #[]) ::
    @Prod.mk Nat Obj (nat_lit 38) (Obj.mk (Value.type "tuple") none (Data.seq #[Value.str (Str.ofString "self") 224, Value.str (Str.ofString "value") 225]) #[]) ::
    @Prod.mk Nat Obj (nat_lit 39) (Obj.mk (Value.type "tuple") none (Data.seq #[]) #[]) ::
    @Prod.mk Nat Obj (nat_lit 41) (Obj.mk (Value.type "code") none (Data.fields #[Value.str (Str.ofString "__init__") 221, Value.str (Str.ofString "LuaError.__init__") 222, Value.str (Str.ofString "/claim/cut.py") 223, Value.int 17 0, Value.int 2 0, Value.int 0 0, Value.int 0 0, Value.int 3 0, Value.ref 36, Value.bool Bool.true, Value.int 181 0, Value.ref 37, Value.none, Value.ref 38, Value.ref 39, Value.ref 40, Value.int 226 0, Value.int 17 0, Value.str (Str.ofString "/claim/cut.py") 227]) #[]) ::
    @Prod.mk Nat Obj (nat_lit 42) (Obj.mk (Value.type "function") none (Data.func (FuncData.mk (Str.ofString "__init__") (Str.ofString "LuaError.__init__") p42 (FuncBody.stmts b42) s42 3 [] Value.none Value.none Value.none (Value.str (Str.ofString "lua.values") 207) none (Value.ref 41) Value.none 0)) #[]) ::
    @Prod.mk Nat Obj (nat_lit 43) (Obj.mk (Value.type "tuple") none (Data.seq #[Value.str (Str.ofString "is_in_handler") 229, Value.str (Str.ofString "trace") 230, Value.str (Str.ofString "value") 231]) #[]) ::
    @Prod.mk Nat Obj (nat_lit 44) (Obj.mk (Value.type "dict") none (Data.dict #[DictEntry.mk (PyData.keyHash P (Str.ofString "__module__")) (Value.str (Str.ofString "__module__") 216) (Value.str (Str.ofString "lua.values") 207), DictEntry.mk (PyData.keyHash P (Str.ofString "__firstlineno__")) (Value.str (Str.ofString "__firstlineno__") 220) (Value.int 15 219), DictEntry.mk (PyData.keyHash P (Str.ofString "__init__")) (Value.str (Str.ofString "__init__") 228) (Value.ref 42), DictEntry.mk (PyData.keyHash P (Str.ofString "__static_attributes__")) (Value.str (Str.ofString "__static_attributes__") 232) (Value.ref 43), DictEntry.mk (PyData.keyHash P (Str.ofString "__weakref__")) (Value.str (Str.ofString "__weakref__") 234) (Value.ref 46), DictEntry.mk (PyData.keyHash P (Str.ofString "__doc__")) (Value.str (Str.ofString "__doc__") 235) Value.none] 3) #[]) ::
    @Prod.mk Nat Obj (nat_lit 45) (Obj.mk (Value.type "type") none (Data.cls (ClassData.mk (Str.ofString "LuaError") [Value.type "Exception"] [Value.ref 45, Value.type "Exception", Value.type "BaseException", Value.type "object"] 44 (Str.ofString "LuaError") Bool.true [] [] Bool.false none Bool.false)) #[some (Value.ref 29), none, some (Value.str (Str.ofString "LuaError") 209), some (Value.str (Str.ofString "LuaError") 217), some (Value.builtin "Exception.__new__"), some (Value.bool Bool.true)]) ::
    @Prod.mk Nat Obj (nat_lit 46) (Obj.mk (Value.type "getset_descriptor") none (Data.fields #[Value.str (Str.ofString "__weakref__") 233, Value.ref 45, Value.builtin "ExceptionGroup.__weakref__", Value.none]) #[]) ::
    @Prod.mk Nat Obj (nat_lit 49) (Obj.mk (Value.type "tuple") none (Data.seq #[]) #[]) ::
    @Prod.mk Nat Obj (nat_lit 51) (Obj.mk (Value.type "tuple") none (Data.seq #[Value.str (Str.ofString "c") 277]) #[]) ::
    @Prod.mk Nat Obj (nat_lit 52) (Obj.mk (Value.type "tuple") none (Data.seq #[]) #[]) ::
    @Prod.mk Nat Obj (nat_lit 54) (Obj.mk (Value.type "code") none (Data.fields #[Value.str (Str.ofString "is_lower") 274, Value.str (Str.ofString "is_lower") 275, Value.str (Str.ofString "/claim/cut.py") 276, Value.int 37 0, Value.int 1 0, Value.int 0 0, Value.int 0 0, Value.int 3 0, Value.ref 49, Value.bool Bool.true, Value.int 181 0, Value.ref 50, Value.none, Value.ref 51, Value.ref 52, Value.ref 53, Value.int 278 0, Value.int 37 0, Value.str (Str.ofString "/claim/cut.py") 279]) #[]) ::
    @Prod.mk Nat Obj (nat_lit 55) (Obj.mk (Value.type "function") none (Data.func (FuncData.mk (Str.ofString "is_lower") (Str.ofString "is_lower") p55 (FuncBody.stmts b55) s55 3 [] Value.none Value.none Value.none (Value.str (Str.ofString "lua.patterns") 240) none (Value.ref 54) Value.none 0)) #[]) ::
    @Prod.mk Nat Obj (nat_lit 56) (Obj.mk (Value.type "tuple") none (Data.seq #[]) #[]) ::
    @Prod.mk Nat Obj (nat_lit 58) (Obj.mk (Value.type "tuple") none (Data.seq #[Value.str (Str.ofString "c") 284]) #[]) ::
    @Prod.mk Nat Obj (nat_lit 59) (Obj.mk (Value.type "tuple") none (Data.seq #[]) #[]) ::
    @Prod.mk Nat Obj (nat_lit 61) (Obj.mk (Value.type "code") none (Data.fields #[Value.str (Str.ofString "is_upper") 281, Value.str (Str.ofString "is_upper") 282, Value.str (Str.ofString "/claim/cut.py") 283, Value.int 39 0, Value.int 1 0, Value.int 0 0, Value.int 0 0, Value.int 3 0, Value.ref 56, Value.bool Bool.true, Value.int 181 0, Value.ref 57, Value.none, Value.ref 58, Value.ref 59, Value.ref 60, Value.int 285 0, Value.int 39 0, Value.str (Str.ofString "/claim/cut.py") 286]) #[]) ::
    @Prod.mk Nat Obj (nat_lit 62) (Obj.mk (Value.type "function") none (Data.func (FuncData.mk (Str.ofString "is_upper") (Str.ofString "is_upper") p62 (FuncBody.stmts b62) s62 3 [] Value.none Value.none Value.none (Value.str (Str.ofString "lua.patterns") 240) none (Value.ref 61) Value.none 0)) #[]) ::
    @Prod.mk Nat Obj (nat_lit 63) (Obj.mk (Value.type "tuple") none (Data.seq #[]) #[]) ::
    @Prod.mk Nat Obj (nat_lit 65) (Obj.mk (Value.type "tuple") none (Data.seq #[Value.str (Str.ofString "c") 291]) #[]) ::
    @Prod.mk Nat Obj (nat_lit 66) (Obj.mk (Value.type "tuple") none (Data.seq #[]) #[]) ::
    @Prod.mk Nat Obj (nat_lit 68) (Obj.mk (Value.type "code") none (Data.fields #[Value.str (Str.ofString "is_alpha") 288, Value.str (Str.ofString "is_alpha") 289, Value.str (Str.ofString "/claim/cut.py") 290, Value.int 41 0, Value.int 1 0, Value.int 0 0, Value.int 0 0, Value.int 3 0, Value.ref 63, Value.bool Bool.true, Value.int 181 0, Value.ref 64, Value.none, Value.ref 65, Value.ref 66, Value.ref 67, Value.int 292 0, Value.int 41 0, Value.str (Str.ofString "/claim/cut.py") 293]) #[]) ::
    @Prod.mk Nat Obj (nat_lit 69) (Obj.mk (Value.type "function") none (Data.func (FuncData.mk (Str.ofString "is_alpha") (Str.ofString "is_alpha") p69 (FuncBody.stmts b69) s69 3 [] Value.none Value.none Value.none (Value.str (Str.ofString "lua.patterns") 240) none (Value.ref 68) Value.none 0)) #[]) ::
    @Prod.mk Nat Obj (nat_lit 70) (Obj.mk (Value.type "tuple") none (Data.seq #[]) #[]) ::
    @Prod.mk Nat Obj (nat_lit 72) (Obj.mk (Value.type "tuple") none (Data.seq #[Value.str (Str.ofString "c") 298]) #[]) ::
    @Prod.mk Nat Obj (nat_lit 73) (Obj.mk (Value.type "tuple") none (Data.seq #[]) #[]) ::
    @Prod.mk Nat Obj (nat_lit 75) (Obj.mk (Value.type "code") none (Data.fields #[Value.str (Str.ofString "is_digit") 295, Value.str (Str.ofString "is_digit") 296, Value.str (Str.ofString "/claim/cut.py") 297, Value.int 43 0, Value.int 1 0, Value.int 0 0, Value.int 0 0, Value.int 3 0, Value.ref 70, Value.bool Bool.true, Value.int 181 0, Value.ref 71, Value.none, Value.ref 72, Value.ref 73, Value.ref 74, Value.int 299 0, Value.int 43 0, Value.str (Str.ofString "/claim/cut.py") 300]) #[]) ::
    @Prod.mk Nat Obj (nat_lit 76) (Obj.mk (Value.type "function") none (Data.func (FuncData.mk (Str.ofString "is_digit") (Str.ofString "is_digit") p76 (FuncBody.stmts b76) s76 3 [] Value.none Value.none Value.none (Value.str (Str.ofString "lua.patterns") 240) none (Value.ref 75) Value.none 0)) #[]) ::
    @Prod.mk Nat Obj (nat_lit 77) (Obj.mk (Value.type "tuple") none (Data.seq #[]) #[]) ::
    @Prod.mk Nat Obj (nat_lit 79) (Obj.mk (Value.type "tuple") none (Data.seq #[Value.str (Str.ofString "c") 305]) #[]) ::
    @Prod.mk Nat Obj (nat_lit 80) (Obj.mk (Value.type "tuple") none (Data.seq #[]) #[]) ::
    @Prod.mk Nat Obj (nat_lit 82) (Obj.mk (Value.type "code") none (Data.fields #[Value.str (Str.ofString "is_space") 302, Value.str (Str.ofString "is_space") 303, Value.str (Str.ofString "/claim/cut.py") 304, Value.int 45 0, Value.int 1 0, Value.int 0 0, Value.int 0 0, Value.int 3 0, Value.ref 77, Value.bool Bool.true, Value.int 181 0, Value.ref 78, Value.none, Value.ref 79, Value.ref 80, Value.ref 81, Value.int 306 0, Value.int 45 0, Value.str (Str.ofString "/claim/cut.py") 307]) #[]) ::
    @Prod.mk Nat Obj (nat_lit 83) (Obj.mk (Value.type "function") none (Data.func (FuncData.mk (Str.ofString "is_space") (Str.ofString "is_space") p83 (FuncBody.stmts b83) s83 3 [] Value.none Value.none Value.none (Value.str (Str.ofString "lua.patterns") 240) none (Value.ref 82) Value.none 0)) #[]) ::
    @Prod.mk Nat Obj (nat_lit 84) (Obj.mk (Value.type "tuple") none (Data.seq #[]) #[]) ::
    @Prod.mk Nat Obj (nat_lit 86) (Obj.mk (Value.type "tuple") none (Data.seq #[Value.str (Str.ofString "c") 312]) #[]) ::
    @Prod.mk Nat Obj (nat_lit 87) (Obj.mk (Value.type "tuple") none (Data.seq #[]) #[]) ::
    @Prod.mk Nat Obj (nat_lit 89) (Obj.mk (Value.type "code") none (Data.fields #[Value.str (Str.ofString "is_control") 309, Value.str (Str.ofString "is_control") 310, Value.str (Str.ofString "/claim/cut.py") 311, Value.int 47 0, Value.int 1 0, Value.int 0 0, Value.int 0 0, Value.int 3 0, Value.ref 84, Value.bool Bool.true, Value.int 181 0, Value.ref 85, Value.none, Value.ref 86, Value.ref 87, Value.ref 88, Value.int 313 0, Value.int 47 0, Value.str (Str.ofString "/claim/cut.py") 314]) #[]) ::
    @Prod.mk Nat Obj (nat_lit 90) (Obj.mk (Value.type "function") none (Data.func (FuncData.mk (Str.ofString "is_control") (Str.ofString "is_control") p90 (FuncBody.stmts b90) s90 3 [] Value.none Value.none Value.none (Value.str (Str.ofString "lua.patterns") 240) none (Value.ref 89) Value.none 0)) #[]) ::
    @Prod.mk Nat Obj (nat_lit 91) (Obj.mk (Value.type "tuple") none (Data.seq #[]) #[]) ::
    @Prod.mk Nat Obj (nat_lit 93) (Obj.mk (Value.type "tuple") none (Data.seq #[Value.str (Str.ofString "c") 319]) #[]) ::
    @Prod.mk Nat Obj (nat_lit 94) (Obj.mk (Value.type "tuple") none (Data.seq #[]) #[]) ::
    @Prod.mk Nat Obj (nat_lit 96) (Obj.mk (Value.type "code") none (Data.fields #[Value.str (Str.ofString "is_punctuation") 316, Value.str (Str.ofString "is_punctuation") 317, Value.str (Str.ofString "/claim/cut.py") 318, Value.int 49 0, Value.int 1 0, Value.int 0 0, Value.int 0 0, Value.int 3 0, Value.ref 91, Value.bool Bool.true, Value.int 181 0, Value.ref 92, Value.none, Value.ref 93, Value.ref 94, Value.ref 95, Value.int 320 0, Value.int 49 0, Value.str (Str.ofString "/claim/cut.py") 321]) #[]) ::
    @Prod.mk Nat Obj (nat_lit 97) (Obj.mk (Value.type "function") none (Data.func (FuncData.mk (Str.ofString "is_punctuation") (Str.ofString "is_punctuation") p97 (FuncBody.stmts b97) s97 3 [] Value.none Value.none Value.none (Value.str (Str.ofString "lua.patterns") 240) none (Value.ref 96) Value.none 0)) #[]) ::
    @Prod.mk Nat Obj (nat_lit 98) (Obj.mk (Value.type "tuple") none (Data.seq #[]) #[]) ::
    @Prod.mk Nat Obj (nat_lit 100) (Obj.mk (Value.type "tuple") none (Data.seq #[Value.str (Str.ofString "c") 326]) #[]) ::
    @Prod.mk Nat Obj (nat_lit 101) (Obj.mk (Value.type "tuple") none (Data.seq #[]) #[]) ::
    @Prod.mk Nat Obj (nat_lit 103) (Obj.mk (Value.type "code") none (Data.fields #[Value.str (Str.ofString "is_hex") 323, Value.str (Str.ofString "is_hex") 324, Value.str (Str.ofString "/claim/cut.py") 325, Value.int 51 0, Value.int 1 0, Value.int 0 0, Value.int 0 0, Value.int 3 0, Value.ref 98, Value.bool Bool.true, Value.int 181 0, Value.ref 99, Value.none, Value.ref 100, Value.ref 101, Value.ref 102, Value.int 327 0, Value.int 51 0, Value.str (Str.ofString "/claim/cut.py") 328]) #[]) ::
    @Prod.mk Nat Obj (nat_lit 104) (Obj.mk (Value.type "function") none (Data.func (FuncData.mk (Str.ofString "is_hex") (Str.ofString "is_hex") p104 (FuncBody.stmts b104) s104 3 [] Value.none Value.none Value.none (Value.str (Str.ofString "lua.patterns") 240) none (Value.ref 103) Value.none 0)) #[]) ::
    @Prod.mk Nat Obj (nat_lit 105) (Obj.mk (Value.type "tuple") none (Data.seq #[]) #[]) ::
    @Prod.mk Nat Obj (nat_lit 107) (Obj.mk (Value.type "tuple") none (Data.seq #[Value.str (Str.ofString "c") 333, Value.str (Str.ofString "letter") 334, Value.str (Str.ofString "low") 335, Value.str (Str.ofString "found") 336]) #[]) ::
    @Prod.mk Nat Obj (nat_lit 108) (Obj.mk (Value.type "tuple") none (Data.seq #[]) #[]) ::
    @Prod.mk Nat Obj (nat_lit 110) (Obj.mk (Value.type "code") none (Data.fields #[Value.str (Str.ofString "in_class") 330, Value.str (Str.ofString "in_class") 331, Value.str (Str.ofString "/claim/cut.py") 332, Value.int 53 0, Value.int 2 0, Value.int 0 0, Value.int 0 0, Value.int 3 0, Value.ref 105, Value.bool Bool.true, Value.int 181 0, Value.ref 106, Value.none, Value.ref 107, Value.ref 108, Value.ref 109, Value.int 337 0, Value.int 53 0, Value.str (Str.ofString "/claim/cut.py") 338]) #[]) ::
    @Prod.mk Nat Obj (nat_lit 111) (Obj.mk (Value.type "function") none (Data.func (FuncData.mk (Str.ofString "in_class") (Str.ofString "in_class") p111 (FuncBody.stmts b111) s111 3 [] Value.none Value.none Value.none (Value.str (Str.ofString "lua.patterns") 240) none (Value.ref 110) Value.none 0)) #[]) ::
    @Prod.mk Nat Obj (nat_lit 119) (Obj.mk (Value.type "tuple") none (Data.seq #[Value.int 60 352, Value.none]) #[]) ::
    @Prod.mk Nat Obj (nat_lit 120) (Obj.mk (Value.type "tuple") none (Data.seq #[]) #[]) ::
    @Prod.mk Nat Obj (nat_lit 122) (Obj.mk (Value.type "tuple") none (Data.seq #[Value.str (Str.ofString "self") 356, Value.str (Str.ofString "text") 357, Value.str (Str.ofString "pattern") 358, Value.str (Str.ofString "depth") 359, Value.str (Str.ofString "tick") 360, Value.str (Str.ofString "zero") 361]) #[]) ::
    @Prod.mk Nat Obj (nat_lit 123) (Obj.mk (Value.type "tuple") none (Data.seq #[]) #[]) ::
    @Prod.mk Nat Obj (nat_lit 125) (Obj.mk (Value.type "code") none (Data.fields #[Value.str (Str.ofString "__init__") 353, Value.str (Str.ofString "Matcher.__init__") 354, Value.str (Str.ofString "/claim/cut.py") 355, Value.int 80 0, Value.int 5 0, Value.int 0 0, Value.int 0 0, Value.int 3 0, Value.ref 120, Value.bool Bool.true, Value.int 181 0, Value.ref 121, Value.none, Value.ref 122, Value.ref 123, Value.ref 124, Value.int 362 0, Value.int 80 0, Value.str (Str.ofString "/claim/cut.py") 363]) #[]) ::
    @Prod.mk Nat Obj (nat_lit 126) (Obj.mk (Value.type "function") none (Data.func (FuncData.mk (Str.ofString "__init__") (Str.ofString "Matcher.__init__") p126 (FuncBody.stmts b126) s126 3 [] (Value.ref 119) Value.none Value.none (Value.str (Str.ofString "lua.patterns") 240) none (Value.ref 125) Value.none 0)) #[]) ::
    @Prod.mk Nat Obj (nat_lit 127) (Obj.mk (Value.type "tuple") none (Data.seq #[]) #[]) ::
    @Prod.mk Nat Obj (nat_lit 129) (Obj.mk (Value.type "tuple") none (Data.seq #[Value.str (Str.ofString "self") 368]) #[]) ::
    @Prod.mk Nat Obj (nat_lit 130) (Obj.mk (Value.type "tuple") none (Data.seq #[]) #[]) ::
    @Prod.mk Nat Obj (nat_lit 132) (Obj.mk (Value.type "code") none (Data.fields #[Value.str (Str.ofString "count") 365, Value.str (Str.ofString "Matcher.count") 366, Value.str (Str.ofString "/claim/cut.py") 367, Value.int 91 0, Value.int 1 0, Value.int 0 0, Value.int 0 0, Value.int 3 0, Value.ref 127, Value.bool Bool.true, Value.int 181 0, Value.ref 128, Value.none, Value.ref 129, Value.ref 130, Value.ref 131, Value.int 369 0, Value.int 91 0, Value.str (Str.ofString "/claim/cut.py") 370]) #[]) ::
    @Prod.mk Nat Obj (nat_lit 133) (Obj.mk (Value.type "function") none (Data.func (FuncData.mk (Str.ofString "count") (Str.ofString "Matcher.count") p133 (FuncBody.stmts b133) s133 3 [] Value.none Value.none Value.none (Value.str (Str.ofString "lua.patterns") 240) none (Value.ref 132) Value.none 0)) #[]) ::
    @Prod.mk Nat Obj (nat_lit 134) (Obj.mk (Value.type "tuple") none (Data.seq #[]) #[]) ::
    @Prod.mk Nat Obj (nat_lit 136) (Obj.mk (Value.type "tuple") none (Data.seq #[Value.str (Str.ofString "self") 375]) #[]) ::
    @Prod.mk Nat Obj (nat_lit 137) (Obj.mk (Value.type "tuple") none (Data.seq #[]) #[]) ::
    @Prod.mk Nat Obj (nat_lit 139) (Obj.mk (Value.type "code") none (Data.fields #[Value.str (Str.ofString "reset") 372, Value.str (Str.ofString "Matcher.reset") 373, Value.str (Str.ofString "/claim/cut.py") 374, Value.int 95 0, Value.int 1 0, Value.int 0 0, Value.int 0 0, Value.int 3 0, Value.ref 134, Value.bool Bool.true, Value.int 181 0, Value.ref 135, Value.none, Value.ref 136, Value.ref 137, Value.ref 138, Value.int 376 0, Value.int 95 0, Value.str (Str.ofString "/claim/cut.py") 377]) #[]) ::
    @Prod.mk Nat Obj (nat_lit 140) (Obj.mk (Value.type "function") none (Data.func (FuncData.mk (Str.ofString "reset") (Str.ofString "Matcher.reset") p140 (FuncBody.stmts b140) s140 3 [] Value.none Value.none Value.none (Value.str (Str.ofString "lua.patterns") 240) none (Value.ref 139) Value.none 0)) #[]) ::
    @Prod.mk Nat Obj (nat_lit 141) (Obj.mk (Value.type "tuple") none (Data.seq #[]) #[]) ::
    @Prod.mk Nat Obj (nat_lit 143) (Obj.mk (Value.type "tuple") none (Data.seq #[Value.str (Str.ofString "self") 382, Value.str (Str.ofString "p") 383]) #[]) ::
    @Prod.mk Nat Obj (nat_lit 144) (Obj.mk (Value.type "tuple") none (Data.seq #[]) #[]) ::
    @Prod.mk Nat Obj (nat_lit 146) (Obj.mk (Value.type "code") none (Data.fields #[Value.str (Str.ofString "at") 379, Value.str (Str.ofString "Matcher.at") 380, Value.str (Str.ofString "/claim/cut.py") 381, Value.int 101 0, Value.int 2 0, Value.int 0 0, Value.int 0 0, Value.int 3 0, Value.ref 141, Value.bool Bool.true, Value.int 181 0, Value.ref 142, Value.none, Value.ref 143, Value.ref 144, Value.ref 145, Value.int 384 0, Value.int 101 0, Value.str (Str.ofString "/claim/cut.py") 385]) #[]) ::
    @Prod.mk Nat Obj (nat_lit 147) (Obj.mk (Value.type "function") none (Data.func (FuncData.mk (Str.ofString "at") (Str.ofString "Matcher.at") p147 (FuncBody.stmts b147) s147 3 [] Value.none Value.none Value.none (Value.str (Str.ofString "lua.patterns") 240) none (Value.ref 146) Value.none 0)) #[]) ::
    @Prod.mk Nat Obj (nat_lit 148) (Obj.mk (Value.type "tuple") none (Data.seq #[]) #[]) ::
    @Prod.mk Nat Obj (nat_lit 150) (Obj.mk (Value.type "tuple") none (Data.seq #[Value.str (Str.ofString "self") 390, Value.str (Str.ofString "p") 391, Value.str (Str.ofString "first") 392, Value.str (Str.ofString "is_first") 393, Value.str (Str.ofString "is_escaped") 394]) #[]) ::
    @Prod.mk Nat Obj (nat_lit 151) (Obj.mk (Value.type "tuple") none (Data.seq #[]) #[]) ::
    @Prod.mk Nat Obj (nat_lit 153) (Obj.mk (Value.type "code") none (Data.fields #[Value.str (Str.ofString "class_end") 387, Value.str (Str.ofString "Matcher.class_end") 388, Value.str (Str.ofString "/claim/cut.py") 389, Value.int 104 0, Value.int 2 0, Value.int 0 0, Value.int 0 0, Value.int 3 0, Value.ref 148, Value.bool Bool.true, Value.int 181 0, Value.ref 149, Value.none, Value.ref 150, Value.ref 151, Value.ref 152, Value.int 395 0, Value.int 104 0, Value.str (Str.ofString "/claim/cut.py") 396]) #[]) ::
    @Prod.mk Nat Obj (nat_lit 154) (Obj.mk (Value.type "function") none (Data.func (FuncData.mk (Str.ofString "class_end") (Str.ofString "Matcher.class_end") p154 (FuncBody.stmts b154) s154 3 [] Value.none Value.none Value.none (Value.str (Str.ofString "lua.patterns") 240) none (Value.ref 153) Value.none 0)) #[]) ::
    @Prod.mk Nat Obj (nat_lit 155) (Obj.mk (Value.type "tuple") none (Data.seq #[]) #[]) ::
    @Prod.mk Nat Obj (nat_lit 157) (Obj.mk (Value.type "tuple") none (Data.seq #[Value.str (Str.ofString "self") 401, Value.str (Str.ofString "c") 402, Value.str (Str.ofString "p") 403, Value.str (Str.ofString "last") 404, Value.str (Str.ofString "is_wanted") 405, Value.str (Str.ofString "here") 406]) #[]) ::
    @Prod.mk Nat Obj (nat_lit 158) (Obj.mk (Value.type "tuple") none (Data.seq #[]) #[]) ::
    @Prod.mk Nat Obj (nat_lit 160) (Obj.mk (Value.type "code") none (Data.fields #[Value.str (Str.ofString "in_set") 398, Value.str (Str.ofString "Matcher.in_set") 399, Value.str (Str.ofString "/claim/cut.py") 400, Value.int 126 0, Value.int 4 0, Value.int 0 0, Value.int 0 0, Value.int 3 0, Value.ref 155, Value.bool Bool.true, Value.int 181 0, Value.ref 156, Value.none, Value.ref 157, Value.ref 158, Value.ref 159, Value.int 407 0, Value.int 126 0, Value.str (Str.ofString "/claim/cut.py") 408]) #[]) ::
    @Prod.mk Nat Obj (nat_lit 161) (Obj.mk (Value.type "function") none (Data.func (FuncData.mk (Str.ofString "in_set") (Str.ofString "Matcher.in_set") p161 (FuncBody.stmts b161) s161 3 [] Value.none Value.none Value.none (Value.str (Str.ofString "lua.patterns") 240) none (Value.ref 160) Value.none 0)) #[]) ::
    @Prod.mk Nat Obj (nat_lit 162) (Obj.mk (Value.type "tuple") none (Data.seq #[]) #[]) ::
    @Prod.mk Nat Obj (nat_lit 164) (Obj.mk (Value.type "tuple") none (Data.seq #[Value.str (Str.ofString "self") 413, Value.str (Str.ofString "s") 414, Value.str (Str.ofString "p") 415, Value.str (Str.ofString "end") 416, Value.str (Str.ofString "c") 417, Value.str (Str.ofString "first") 418]) #[]) ::
    @Prod.mk Nat Obj (nat_lit 165) (Obj.mk (Value.type "tuple") none (Data.seq #[]) #[]) ::
    @Prod.mk Nat Obj (nat_lit 167) (Obj.mk (Value.type "code") none (Data.fields #[Value.str (Str.ofString "is_single") 410, Value.str (Str.ofString "Matcher.is_single") 411, Value.str (Str.ofString "/claim/cut.py") 412, Value.int 147 0, Value.int 4 0, Value.int 0 0, Value.int 0 0, Value.int 3 0, Value.ref 162, Value.bool Bool.true, Value.int 181 0, Value.ref 163, Value.none, Value.ref 164, Value.ref 165, Value.ref 166, Value.int 419 0, Value.int 147 0, Value.str (Str.ofString "/claim/cut.py") 420]) #[]) ::
    @Prod.mk Nat Obj (nat_lit 168) (Obj.mk (Value.type "function") none (Data.func (FuncData.mk (Str.ofString "is_single") (Str.ofString "Matcher.is_single") p168 (FuncBody.stmts b168) s168 3 [] Value.none Value.none Value.none (Value.str (Str.ofString "lua.patterns") 240) none (Value.ref 167) Value.none 0)) #[]) ::
    @Prod.mk Nat Obj (nat_lit 169) (Obj.mk (Value.type "tuple") none (Data.seq #[]) #[]) ::
    @Prod.mk Nat Obj (nat_lit 171) (Obj.mk (Value.type "tuple") none (Data.seq #[Value.str (Str.ofString "self") 425, Value.str (Str.ofString "s") 426, Value.str (Str.ofString "p") 427, Value.str (Str.ofString "found") 428]) #[]) ::
    @Prod.mk Nat Obj (nat_lit 172) (Obj.mk (Value.type "tuple") none (Data.seq #[]) #[]) ::
    @Prod.mk Nat Obj (nat_lit 174) (Obj.mk (Value.type "code") none (Data.fields #[Value.str (Str.ofString "match") 422, Value.str (Str.ofString "Matcher.match") 423, Value.str (Str.ofString "/claim/cut.py") 424, Value.int 159 0, Value.int 3 0, Value.int 0 0, Value.int 0 0, Value.int 3 0, Value.ref 169, Value.bool Bool.true, Value.int 181 0, Value.ref 170, Value.none, Value.ref 171, Value.ref 172, Value.ref 173, Value.int 429 0, Value.int 159 0, Value.str (Str.ofString "/claim/cut.py") 430]) #[]) ::
    @Prod.mk Nat Obj (nat_lit 175) (Obj.mk (Value.type "function") none (Data.func (FuncData.mk (Str.ofString "match") (Str.ofString "Matcher.match") p175 (FuncBody.stmts b175) s175 3 [] Value.none Value.none Value.none (Value.str (Str.ofString "lua.patterns") 240) none (Value.ref 174) Value.none 0)) #[]) ::
    @Prod.mk Nat Obj (nat_lit 176) (Obj.mk (Value.type "tuple") none (Data.seq #[]) #[]) ::
    @Prod.mk Nat Obj (nat_lit 178) (Obj.mk (Value.type "tuple") none (Data.seq #[Value.str (Str.ofString "self") 435, Value.str (Str.ofString "s") 436, Value.str (Str.ofString "p") 437, Value.str (Str.ofString "first") 438, Value.str (Str.ofString "second") 439, Value.str (Str.ofString "end") 440, Value.str (Str.ofString "after") 441, Value.str (Str.ofString "is_here") 442, Value.str (Str.ofString "found") 443]) #[]) ::
    @Prod.mk Nat Obj (nat_lit 179) (Obj.mk (Value.type "tuple") none (Data.seq #[]) #[]) ::
    @Prod.mk Nat Obj (nat_lit 181) (Obj.mk (Value.type "code") none (Data.fields #[Value.str (Str.ofString "match_here") 432, Value.str (Str.ofString "Matcher.match_here") 433, Value.str (Str.ofString "/claim/cut.py") 434, Value.int 168 0, Value.int 3 0, Value.int 0 0, Value.int 0 0, Value.int 3 0, Value.ref 176, Value.bool Bool.true, Value.int 181 0, Value.ref 177, Value.none, Value.ref 178, Value.ref 179, Value.ref 180, Value.int 444 0, Value.int 168 0, Value.str (Str.ofString "/claim/cut.py") 445]) #[]) ::
    @Prod.mk Nat Obj (nat_lit 182) (Obj.mk (Value.type "function") none (Data.func (FuncData.mk (Str.ofString "match_here") (Str.ofString "Matcher.match_here") p182 (FuncBody.stmts b182) s182 3 [] Value.none Value.none Value.none (Value.str (Str.ofString "lua.patterns") 240) none (Value.ref 181) Value.none 0)) #[]) ::
    @Prod.mk Nat Obj (nat_lit 183) (Obj.mk (Value.type "tuple") none (Data.seq #[]) #[]) ::
    @Prod.mk Nat Obj (nat_lit 185) (Obj.mk (Value.type "tuple") none (Data.seq #[Value.str (Str.ofString "self") 450, Value.str (Str.ofString "s") 451, Value.str (Str.ofString "p") 452, Value.str (Str.ofString "letter") 453]) #[]) ::
    @Prod.mk Nat Obj (nat_lit 186) (Obj.mk (Value.type "tuple") none (Data.seq #[]) #[]) ::
    @Prod.mk Nat Obj (nat_lit 188) (Obj.mk (Value.type "code") none (Data.fields #[Value.str (Str.ofString "match_special") 447, Value.str (Str.ofString "Matcher.match_special") 448, Value.str (Str.ofString "/claim/cut.py") 449, Value.int 206 0, Value.int 4 0, Value.int 0 0, Value.int 0 0, Value.int 3 0, Value.ref 183, Value.bool Bool.true, Value.int 181 0, Value.ref 184, Value.none, Value.ref 185, Value.ref 186, Value.ref 187, Value.int 454 0, Value.int 206 0, Value.str (Str.ofString "/claim/cut.py") 455]) #[]) ::
    @Prod.mk Nat Obj (nat_lit 189) (Obj.mk (Value.type "function") none (Data.func (FuncData.mk (Str.ofString "match_special") (Str.ofString "Matcher.match_special") p189 (FuncBody.stmts b189) s189 3 [] Value.none Value.none Value.none (Value.str (Str.ofString "lua.patterns") 240) none (Value.ref 188) Value.none 0)) #[]) ::
    @Prod.mk Nat Obj (nat_lit 190) (Obj.mk (Value.type "tuple") none (Data.seq #[]) #[]) ::
    @Prod.mk Nat Obj (nat_lit 192) (Obj.mk (Value.type "tuple") none (Data.seq #[Value.str (Str.ofString "self") 460, Value.str (Str.ofString "s") 461, Value.str (Str.ofString "p") 462, Value.str (Str.ofString "begin") 463, Value.str (Str.ofString "end") 464, Value.str (Str.ofString "open_ones") 465, Value.str (Str.ofString "c") 466]) #[]) ::
    @Prod.mk Nat Obj (nat_lit 193) (Obj.mk (Value.type "tuple") none (Data.seq #[]) #[]) ::
    @Prod.mk Nat Obj (nat_lit 195) (Obj.mk (Value.type "code") none (Data.fields #[Value.str (Str.ofString "match_balance") 457, Value.str (Str.ofString "Matcher.match_balance") 458, Value.str (Str.ofString "/claim/cut.py") 459, Value.int 213 0, Value.int 3 0, Value.int 0 0, Value.int 0 0, Value.int 3 0, Value.ref 190, Value.bool Bool.true, Value.int 181 0, Value.ref 191, Value.none, Value.ref 192, Value.ref 193, Value.ref 194, Value.int 467 0, Value.int 213 0, Value.str (Str.ofString "/claim/cut.py") 468]) #[]) ::
    @Prod.mk Nat Obj (nat_lit 196) (Obj.mk (Value.type "function") none (Data.func (FuncData.mk (Str.ofString "match_balance") (Str.ofString "Matcher.match_balance") p196 (FuncBody.stmts b196) s196 3 [] Value.none Value.none Value.none (Value.str (Str.ofString "lua.patterns") 240) none (Value.ref 195) Value.none 0)) #[]) ::
    @Prod.mk Nat Obj (nat_lit 197) (Obj.mk (Value.type "tuple") none (Data.seq #[]) #[]) ::
    @Prod.mk Nat Obj (nat_lit 199) (Obj.mk (Value.type "tuple") none (Data.seq #[Value.str (Str.ofString "self") 473, Value.str (Str.ofString "s") 474, Value.str (Str.ofString "p") 475, Value.str (Str.ofString "end") 476, Value.str (Str.ofString "ahead") 477, Value.str (Str.ofString "here") 478]) #[]) ::
    @Prod.mk Nat Obj (nat_lit 200) (Obj.mk (Value.type "tuple") none (Data.seq #[]) #[]) ::
    @Prod.mk Nat Obj (nat_lit 202) (Obj.mk (Value.type "code") none (Data.fields #[Value.str (Str.ofString "match_frontier") 470, Value.str (Str.ofString "Matcher.match_frontier") 471, Value.str (Str.ofString "/claim/cut.py") 472, Value.int 233 0, Value.int 3 0, Value.int 0 0, Value.int 0 0, Value.int 3 0, Value.ref 197, Value.bool Bool.true, Value.int 181 0, Value.ref 198, Value.none, Value.ref 199, Value.ref 200, Value.ref 201, Value.int 479 0, Value.int 233 0, Value.str (Str.ofString "/claim/cut.py") 480]) #[]) ::
    @Prod.mk Nat Obj (nat_lit 203) (Obj.mk (Value.type "function") none (Data.func (FuncData.mk (Str.ofString "match_frontier") (Str.ofString "Matcher.match_frontier") p203 (FuncBody.stmts b203) s203 3 [] Value.none Value.none Value.none (Value.str (Str.ofString "lua.patterns") 240) none (Value.ref 202) Value.none 0)) #[]) ::
    @Prod.mk Nat Obj (nat_lit 204) (Obj.mk (Value.type "tuple") none (Data.seq #[]) #[]) ::
    @Prod.mk Nat Obj (nat_lit 206) (Obj.mk (Value.type "tuple") none (Data.seq #[Value.str (Str.ofString "self") 485, Value.str (Str.ofString "s") 486, Value.str (Str.ofString "p") 487, Value.str (Str.ofString "end") 488, Value.str (Str.ofString "many") 489, Value.str (Str.ofString "found") 490]) #[]) ::
    @Prod.mk Nat Obj (nat_lit 207) (Obj.mk (Value.type "tuple") none (Data.seq #[]) #[]) ::
    @Prod.mk Nat Obj (nat_lit 209) (Obj.mk (Value.type "code") none (Data.fields #[Value.str (Str.ofString "expand_most") 482, Value.str (Str.ofString "Matcher.expand_most") 483, Value.str (Str.ofString "/claim/cut.py") 484, Value.int 243 0, Value.int 4 0, Value.int 0 0, Value.int 0 0, Value.int 3 0, Value.ref 204, Value.bool Bool.true, Value.int 181 0, Value.ref 205, Value.none, Value.ref 206, Value.ref 207, Value.ref 208, Value.int 491 0, Value.int 243 0, Value.str (Str.ofString "/claim/cut.py") 492]) #[]) ::
    @Prod.mk Nat Obj (nat_lit 210) (Obj.mk (Value.type "function") none (Data.func (FuncData.mk (Str.ofString "expand_most") (Str.ofString "Matcher.expand_most") p210 (FuncBody.stmts b210) s210 3 [] Value.none Value.none Value.none (Value.str (Str.ofString "lua.patterns") 240) none (Value.ref 209) Value.none 0)) #[]) ::
    @Prod.mk Nat Obj (nat_lit 211) (Obj.mk (Value.type "tuple") none (Data.seq #[]) #[]) ::
    @Prod.mk Nat Obj (nat_lit 213) (Obj.mk (Value.type "tuple") none (Data.seq #[Value.str (Str.ofString "self") 497, Value.str (Str.ofString "s") 498, Value.str (Str.ofString "p") 499, Value.str (Str.ofString "end") 500, Value.str (Str.ofString "found") 501]) #[]) ::
    @Prod.mk Nat Obj (nat_lit 214) (Obj.mk (Value.type "tuple") none (Data.seq #[]) #[]) ::
    @Prod.mk Nat Obj (nat_lit 216) (Obj.mk (Value.type "code") none (Data.fields #[Value.str (Str.ofString "expand_least") 494, Value.str (Str.ofString "Matcher.expand_least") 495, Value.str (Str.ofString "/claim/cut.py") 496, Value.int 255 0, Value.int 4 0, Value.int 0 0, Value.int 0 0, Value.int 3 0, Value.ref 211, Value.bool Bool.true, Value.int 181 0, Value.ref 212, Value.none, Value.ref 213, Value.ref 214, Value.ref 215, Value.int 502 0, Value.int 255 0, Value.str (Str.ofString "/claim/cut.py") 503]) #[]) ::
    @Prod.mk Nat Obj (nat_lit 217) (Obj.mk (Value.type "function") none (Data.func (FuncData.mk (Str.ofString "expand_least") (Str.ofString "Matcher.expand_least") p217 (FuncBody.stmts b217) s217 3 [] Value.none Value.none Value.none (Value.str (Str.ofString "lua.patterns") 240) none (Value.ref 216) Value.none 0)) #[]) ::
    @Prod.mk Nat Obj (nat_lit 218) (Obj.mk (Value.type "tuple") none (Data.seq #[]) #[]) ::
    @Prod.mk Nat Obj (nat_lit 220) (Obj.mk (Value.type "tuple") none (Data.seq #[Value.str (Str.ofString "self") 508, Value.str (Str.ofString "s") 509, Value.str (Str.ofString "p") 510, Value.str (Str.ofString "kind") 511, Value.str (Str.ofString "found") 512]) #[]) ::
    @Prod.mk Nat Obj (nat_lit 221) (Obj.mk (Value.type "tuple") none (Data.seq #[]) #[]) ::
    @Prod.mk Nat Obj (nat_lit 223) (Obj.mk (Value.type "code") none (Data.fields #[Value.str (Str.ofString "start_capture") 505, Value.str (Str.ofString "Matcher.start_capture") 506, Value.str (Str.ofString "/claim/cut.py") 507, Value.int 264 0, Value.int 4 0, Value.int 0 0, Value.int 0 0, Value.int 3 0, Value.ref 218, Value.bool Bool.true, Value.int 181 0, Value.ref 219, Value.none, Value.ref 220, Value.ref 221, Value.ref 222, Value.int 513 0, Value.int 264 0, Value.str (Str.ofString "/claim/cut.py") 514]) #[]) ::
    @Prod.mk Nat Obj (nat_lit 224) (Obj.mk (Value.type "function") none (Data.func (FuncData.mk (Str.ofString "start_capture") (Str.ofString "Matcher.start_capture") p224 (FuncBody.stmts b224) s224 3 [] Value.none Value.none Value.none (Value.str (Str.ofString "lua.patterns") 240) none (Value.ref 223) Value.none 0)) #[]) ::
    @Prod.mk Nat Obj (nat_lit 225) (Obj.mk (Value.type "tuple") none (Data.seq #[]) #[]) ::
    @Prod.mk Nat Obj (nat_lit 227) (Obj.mk (Value.type "tuple") none (Data.seq #[Value.str (Str.ofString "self") 519, Value.str (Str.ofString "s") 520, Value.str (Str.ofString "p") 521, Value.str (Str.ofString "number") 522, Value.str (Str.ofString "found") 523]) #[]) ::
    @Prod.mk Nat Obj (nat_lit 228) (Obj.mk (Value.type "tuple") none (Data.seq #[]) #[]) ::
    @Prod.mk Nat Obj (nat_lit 230) (Obj.mk (Value.type "code") none (Data.fields #[Value.str (Str.ofString "end_capture") 516, Value.str (Str.ofString "Matcher.end_capture") 517, Value.str (Str.ofString "/claim/cut.py") 518, Value.int 275 0, Value.int 3 0, Value.int 0 0, Value.int 0 0, Value.int 3 0, Value.ref 225, Value.bool Bool.true, Value.int 181 0, Value.ref 226, Value.none, Value.ref 227, Value.ref 228, Value.ref 229, Value.int 524 0, Value.int 275 0, Value.str (Str.ofString "/claim/cut.py") 525]) #[]) ::
    @Prod.mk Nat Obj (nat_lit 231) (Obj.mk (Value.type "function") none (Data.func (FuncData.mk (Str.ofString "end_capture") (Str.ofString "Matcher.end_capture") p231 (FuncBody.stmts b231) s231 3 [] Value.none Value.none Value.none (Value.str (Str.ofString "lua.patterns") 240) none (Value.ref 230) Value.none 0)) #[]) ::
    @Prod.mk Nat Obj (nat_lit 232) (Obj.mk (Value.type "tuple") none (Data.seq #[]) #[]) ::
    @Prod.mk Nat Obj (nat_lit 234) (Obj.mk (Value.type "tuple") none (Data.seq #[Value.str (Str.ofString "self") 530, Value.str (Str.ofString "number") 531]) #[]) ::
    @Prod.mk Nat Obj (nat_lit 235) (Obj.mk (Value.type "tuple") none (Data.seq #[]) #[]) ::
    @Prod.mk Nat Obj (nat_lit 237) (Obj.mk (Value.type "code") none (Data.fields #[Value.str (Str.ofString "to_close") 527, Value.str (Str.ofString "Matcher.to_close") 528, Value.str (Str.ofString "/claim/cut.py") 529, Value.int 283 0, Value.int 1 0, Value.int 0 0, Value.int 0 0, Value.int 3 0, Value.ref 232, Value.bool Bool.true, Value.int 181 0, Value.ref 233, Value.none, Value.ref 234, Value.ref 235, Value.ref 236, Value.int 532 0, Value.int 283 0, Value.str (Str.ofString "/claim/cut.py") 533]) #[]) ::
    @Prod.mk Nat Obj (nat_lit 238) (Obj.mk (Value.type "function") none (Data.func (FuncData.mk (Str.ofString "to_close") (Str.ofString "Matcher.to_close") p238 (FuncBody.stmts b238) s238 3 [] Value.none Value.none Value.none (Value.str (Str.ofString "lua.patterns") 240) none (Value.ref 237) Value.none 0)) #[]) ::
    @Prod.mk Nat Obj (nat_lit 239) (Obj.mk (Value.type "tuple") none (Data.seq #[]) #[]) ::
    @Prod.mk Nat Obj (nat_lit 241) (Obj.mk (Value.type "tuple") none (Data.seq #[Value.str (Str.ofString "self") 538, Value.str (Str.ofString "s") 539, Value.str (Str.ofString "digit") 540, Value.str (Str.ofString "number") 541, Value.str (Str.ofString "size") 542, Value.str (Str.ofString "start") 543]) #[]) ::
    @Prod.mk Nat Obj (nat_lit 242) (Obj.mk (Value.type "tuple") none (Data.seq #[]) #[]) ::
    @Prod.mk Nat Obj (nat_lit 244) (Obj.mk (Value.type "code") none (Data.fields #[Value.str (Str.ofString "match_capture") 535, Value.str (Str.ofString "Matcher.match_capture") 536, Value.str (Str.ofString "/claim/cut.py") 537, Value.int 291 0, Value.int 3 0, Value.int 0 0, Value.int 0 0, Value.int 3 0, Value.ref 239, Value.bool Bool.true, Value.int 181 0, Value.ref 240, Value.none, Value.ref 241, Value.ref 242, Value.ref 243, Value.int 544 0, Value.int 291 0, Value.str (Str.ofString "/claim/cut.py") 545]) #[]) ::
    @Prod.mk Nat Obj (nat_lit 245) (Obj.mk (Value.type "function") none (Data.func (FuncData.mk (Str.ofString "match_capture") (Str.ofString "Matcher.match_capture") p245 (FuncBody.stmts b245) s245 3 [] Value.none Value.none Value.none (Value.str (Str.ofString "lua.patterns") 240) none (Value.ref 244) Value.none 0)) #[]) ::
    @Prod.mk Nat Obj (nat_lit 246) (Obj.mk (Value.type "tuple") none (Data.seq #[]) #[]) ::
    @Prod.mk Nat Obj (nat_lit 248) (Obj.mk (Value.type "tuple") none (Data.seq #[Value.str (Str.ofString "self") 550, Value.str (Str.ofString "number") 551, Value.str (Str.ofString "s") 552, Value.str (Str.ofString "end") 553, Value.str (Str.ofString "size") 554, Value.str (Str.ofString "start") 555]) #[]) ::
    @Prod.mk Nat Obj (nat_lit 249) (Obj.mk (Value.type "tuple") none (Data.seq #[]) #[]) ::
    @Prod.mk Nat Obj (nat_lit 251) (Obj.mk (Value.type "code") none (Data.fields #[Value.str (Str.ofString "capture") 547, Value.str (Str.ofString "Matcher.capture") 548, Value.str (Str.ofString "/claim/cut.py") 549, Value.int 301 0, Value.int 4 0, Value.int 0 0, Value.int 0 0, Value.int 3 0, Value.ref 246, Value.bool Bool.true, Value.int 181 0, Value.ref 247, Value.none, Value.ref 248, Value.ref 249, Value.ref 250, Value.int 556 0, Value.int 301 0, Value.str (Str.ofString "/claim/cut.py") 557]) #[]) ::
    @Prod.mk Nat Obj (nat_lit 252) (Obj.mk (Value.type "function") none (Data.func (FuncData.mk (Str.ofString "capture") (Str.ofString "Matcher.capture") p252 (FuncBody.stmts b252) s252 3 [] Value.none Value.none Value.none (Value.str (Str.ofString "lua.patterns") 240) none (Value.ref 251) Value.none 0)) #[]) ::
    @Prod.mk Nat Obj (nat_lit 253) (Obj.mk (Value.type "tuple") none (Data.seq #[]) #[]) ::
    @Prod.mk Nat Obj (nat_lit 256) (Obj.mk (Value.type "code") none (Data.fields #[Value.str (Str.ofString "captures") 559, Value.str (Str.ofString "Matcher.captures") 560, Value.str (Str.ofString "/claim/cut.py") 561, Value.int 311 0, Value.int 4 0, Value.int 0 0, Value.int 0 0, Value.int 3 0, Value.ref 253, Value.bool Bool.true, Value.int 181 0, Value.ref 254, Value.none, Value.none, Value.none, Value.ref 255, Value.int 562 0, Value.int 311 0, Value.str (Str.ofString "/claim/cut.py") 563]) #[]) ::
    @Prod.mk Nat Obj (nat_lit 257) (Obj.mk (Value.type "function") none (Data.func (FuncData.mk (Str.ofString "captures") (Str.ofString "Matcher.captures") p257 (FuncBody.stmts b257) s257 3 [] Value.none Value.none Value.none (Value.str (Str.ofString "lua.patterns") 240) none (Value.ref 256) Value.none 0)) #[]) ::
    @Prod.mk Nat Obj (nat_lit 258) (Obj.mk (Value.type "tuple") none (Data.seq #[]) #[]) ::
    @Prod.mk Nat Obj (nat_lit 260) (Obj.mk (Value.type "tuple") none (Data.seq #[Value.str (Str.ofString "self") 568, Value.str (Str.ofString "init") 569, Value.str (Str.ofString "p") 570, Value.str (Str.ofString "is_anchored") 571]) #[]) ::
    @Prod.mk Nat Obj (nat_lit 261) (Obj.mk (Value.type "tuple") none (Data.seq #[]) #[]) ::
    @Prod.mk Nat Obj (nat_lit 263) (Obj.mk (Value.type "code") none (Data.fields #[Value.str (Str.ofString "search") 565, Value.str (Str.ofString "Matcher.search") 566, Value.str (Str.ofString "/claim/cut.py") 567, Value.int 315 0, Value.int 4 0, Value.int 0 0, Value.int 0 0, Value.int 3 0, Value.ref 258, Value.bool Bool.true, Value.int 181 0, Value.ref 259, Value.none, Value.ref 260, Value.ref 261, Value.ref 262, Value.int 572 0, Value.int 315 0, Value.str (Str.ofString "/claim/cut.py") 573]) #[]) ::
    @Prod.mk Nat Obj (nat_lit 264) (Obj.mk (Value.type "function") none (Data.func (FuncData.mk (Str.ofString "search") (Str.ofString "Matcher.search") p264 (FuncBody.stmts b264) s264 3 [] Value.none Value.none Value.none (Value.str (Str.ofString "lua.patterns") 240) none (Value.ref 263) Value.none 0)) #[]) ::
    @Prod.mk Nat Obj (nat_lit 265) (Obj.mk (Value.type "tuple") none (Data.seq #[Value.str (Str.ofString "depth") 575, Value.str (Str.ofString "lengths") 576, Value.str (Str.ofString "level") 577, Value.str (Str.ofString "most_depth") 578, Value.str (Str.ofString "pattern") 579, Value.str (Str.ofString "starts") 580, Value.str (Str.ofString "text") 581, Value.str (Str.ofString "tick") 582]) #[]) ::
    @Prod.mk Nat Obj (nat_lit 266) (Obj.mk (Value.type "dict") none (Data.dict #[DictEntry.mk (PyData.keyHash P (Str.ofString "__module__")) (Value.str (Str.ofString "__module__") 347) (Value.str (Str.ofString "lua.patterns") 240), DictEntry.mk (PyData.keyHash P (Str.ofString "__firstlineno__")) (Value.str (Str.ofString "__firstlineno__") 351) (Value.int 78 350), DictEntry.mk (PyData.keyHash P (Str.ofString "__init__")) (Value.str (Str.ofString "__init__") 364) (Value.ref 126), DictEntry.mk (PyData.keyHash P (Str.ofString "count")) (Value.str (Str.ofString "count") 371) (Value.ref 133), DictEntry.mk (PyData.keyHash P (Str.ofString "reset")) (Value.str (Str.ofString "reset") 378) (Value.ref 140), DictEntry.mk (PyData.keyHash P (Str.ofString "at")) (Value.str (Str.ofString "at") 386) (Value.ref 147), DictEntry.mk (PyData.keyHash P (Str.ofString "class_end")) (Value.str (Str.ofString "class_end") 397) (Value.ref 154), DictEntry.mk (PyData.keyHash P (Str.ofString "in_set")) (Value.str (Str.ofString "in_set") 409) (Value.ref 161), DictEntry.mk (PyData.keyHash P (Str.ofString "is_single")) (Value.str (Str.ofString "is_single") 421) (Value.ref 168), DictEntry.mk (PyData.keyHash P (Str.ofString "match")) (Value.str (Str.ofString "match") 431) (Value.ref 175), DictEntry.mk (PyData.keyHash P (Str.ofString "match_here")) (Value.str (Str.ofString "match_here") 446) (Value.ref 182), DictEntry.mk (PyData.keyHash P (Str.ofString "match_special")) (Value.str (Str.ofString "match_special") 456) (Value.ref 189), DictEntry.mk (PyData.keyHash P (Str.ofString "match_balance")) (Value.str (Str.ofString "match_balance") 469) (Value.ref 196), DictEntry.mk (PyData.keyHash P (Str.ofString "match_frontier")) (Value.str (Str.ofString "match_frontier") 481) (Value.ref 203), DictEntry.mk (PyData.keyHash P (Str.ofString "expand_most")) (Value.str (Str.ofString "expand_most") 493) (Value.ref 210), DictEntry.mk (PyData.keyHash P (Str.ofString "expand_least")) (Value.str (Str.ofString "expand_least") 504) (Value.ref 217), DictEntry.mk (PyData.keyHash P (Str.ofString "start_capture")) (Value.str (Str.ofString "start_capture") 515) (Value.ref 224), DictEntry.mk (PyData.keyHash P (Str.ofString "end_capture")) (Value.str (Str.ofString "end_capture") 526) (Value.ref 231), DictEntry.mk (PyData.keyHash P (Str.ofString "to_close")) (Value.str (Str.ofString "to_close") 534) (Value.ref 238), DictEntry.mk (PyData.keyHash P (Str.ofString "match_capture")) (Value.str (Str.ofString "match_capture") 546) (Value.ref 245), DictEntry.mk (PyData.keyHash P (Str.ofString "capture")) (Value.str (Str.ofString "capture") 558) (Value.ref 252), DictEntry.mk (PyData.keyHash P (Str.ofString "captures")) (Value.str (Str.ofString "captures") 564) (Value.ref 257), DictEntry.mk (PyData.keyHash P (Str.ofString "search")) (Value.str (Str.ofString "search") 574) (Value.ref 264), DictEntry.mk (PyData.keyHash P (Str.ofString "__static_attributes__")) (Value.str (Str.ofString "__static_attributes__") 583) (Value.ref 265), DictEntry.mk (PyData.keyHash P (Str.ofString "__dict__")) (Value.str (Str.ofString "__dict__") 585) (Value.ref 268), DictEntry.mk (PyData.keyHash P (Str.ofString "__weakref__")) (Value.str (Str.ofString "__weakref__") 587) (Value.ref 269), DictEntry.mk (PyData.keyHash P (Str.ofString "__doc__")) (Value.str (Str.ofString "__doc__") 588) Value.none] 4) #[]) ::
    @Prod.mk Nat Obj (nat_lit 267) (Obj.mk (Value.type "type") none (Data.cls (ClassData.mk (Str.ofString "Matcher") [Value.type "object"] [Value.ref 267, Value.type "object"] 266 (Str.ofString "Matcher") Bool.true [] [] Bool.false none Bool.false)) #[none, none, some (Value.str (Str.ofString "Matcher") 340), some (Value.str (Str.ofString "Matcher") 348), some (Value.builtin "object.__new__"), some (Value.bool Bool.true)]) ::
    @Prod.mk Nat Obj (nat_lit 268) (Obj.mk (Value.type "getset_descriptor") none (Data.fields #[Value.str (Str.ofString "__dict__") 584, Value.ref 267, Value.builtin "function.__dict__", Value.builtin "function.__dict__#set"]) #[]) ::
    @Prod.mk Nat Obj (nat_lit 269) (Obj.mk (Value.type "getset_descriptor") none (Data.fields #[Value.str (Str.ofString "__weakref__") 586, Value.ref 267, Value.builtin "ExceptionGroup.__weakref__", Value.none]) #[]) ::
    @Prod.mk Nat Obj (nat_lit 272) (Obj.mk (Value.type "tuple") none (Data.seq #[]) #[]) ::
    @Prod.mk Nat Obj (nat_lit 274) (Obj.mk (Value.type "tuple") none (Data.seq #[Value.str (Str.ofString "bowl") 596, Value.str (Str.ofString "many") 597, Value.str (Str.ofString "place") 598]) #[]) ::
    @Prod.mk Nat Obj (nat_lit 275) (Obj.mk (Value.type "tuple") none (Data.seq #[]) #[]) ::
    @Prod.mk Nat Obj (nat_lit 277) (Obj.mk (Value.type "code") none (Data.fields #[Value.str (Str.ofString "_law_from") 593, Value.str (Str.ofString "_law_from") 594, Value.str (Str.ofString "/claim/cut.py") 595, Value.int 318 0, Value.int 2 0, Value.int 0 0, Value.int 0 0, Value.int 3 0, Value.ref 272, Value.bool Bool.true, Value.int 181 0, Value.ref 273, Value.none, Value.ref 274, Value.ref 275, Value.ref 276, Value.int 599 0, Value.int 318 0, Value.str (Str.ofString "/claim/cut.py") 600]) #[]) ::
    @Prod.mk Nat Obj (nat_lit 278) (Obj.mk (Value.type "function") none (Data.func (FuncData.mk (Str.ofString "_law_from") (Str.ofString "_law_from") p278 (FuncBody.stmts b278) s278 3 [] Value.none Value.none Value.none (Value.str (Str.ofString "law_xm0622_01") 591) none (Value.ref 277) Value.none 0)) #[]) ::
    @Prod.mk Nat Obj (nat_lit 279) (Obj.mk (Value.type "tuple") none (Data.seq #[]) #[]) ::
    @Prod.mk Nat Obj (nat_lit 281) (Obj.mk (Value.type "tuple") none (Data.seq #[Value.str (Str.ofString "text") 605, Value.str (Str.ofString "word") 606, Value.str (Str.ofString "begin") 607, Value.str (Str.ofString "ends_at") 608, Value.str (Str.ofString "found") 609]) #[]) ::
    @Prod.mk Nat Obj (nat_lit 282) (Obj.mk (Value.type "tuple") none (Data.seq #[Value.str (Str.ofString "matcher") 610]) #[]) ::
    @Prod.mk Nat Obj (nat_lit 284) (Obj.mk (Value.type "code") none (Data.fields #[Value.str (Str.ofString "_law_met") 602, Value.str (Str.ofString "_law_met") 603, Value.str (Str.ofString "/claim/cut.py") 604, Value.int 322 0, Value.int 3 0, Value.int 0 0, Value.int 0 0, Value.int 3 0, Value.ref 279, Value.bool Bool.true, Value.int 181 0, Value.ref 280, Value.none, Value.ref 281, Value.ref 282, Value.ref 283, Value.int 611 0, Value.int 322 0, Value.str (Str.ofString "/claim/cut.py") 612]) #[]) ::
    @Prod.mk Nat Obj (nat_lit 285) (Obj.mk (Value.type "function") none (Data.func (FuncData.mk (Str.ofString "_law_met") (Str.ofString "_law_met") p285 (FuncBody.stmts b285) s285 3 [] Value.none Value.none Value.none (Value.str (Str.ofString "law_xm0622_01") 591) none (Value.ref 284) Value.none 0)) #[]) ::
    @Prod.mk Nat Obj (nat_lit 286) (Obj.mk (Value.type "tuple") none (Data.seq #[]) #[]) ::
    @Prod.mk Nat Obj (nat_lit 289) (Obj.mk (Value.type "code") none (Data.fields #[Value.str (Str.ofString "_law_put_on") 614, Value.str (Str.ofString "_law_put_on") 615, Value.str (Str.ofString "/claim/cut.py") 616, Value.int 330 0, Value.int 2 0, Value.int 0 0, Value.int 0 0, Value.int 3 0, Value.ref 286, Value.bool Bool.true, Value.int 181 0, Value.ref 287, Value.none, Value.none, Value.none, Value.ref 288, Value.int 617 0, Value.int 330 0, Value.str (Str.ofString "/claim/cut.py") 618]) #[]) ::
    @Prod.mk Nat Obj (nat_lit 290) (Obj.mk (Value.type "function") none (Data.func (FuncData.mk (Str.ofString "_law_put_on") (Str.ofString "_law_put_on") p290 (FuncBody.stmts b290) s290 3 [] Value.none Value.none Value.none (Value.str (Str.ofString "law_xm0622_01") 591) none (Value.ref 289) Value.none 0)) #[]) ::
    @Prod.mk Nat Obj (nat_lit 291) (Obj.mk (Value.type "tuple") none (Data.seq #[]) #[]) ::
    @Prod.mk Nat Obj (nat_lit 294) (Obj.mk (Value.type "code") none (Data.fields #[Value.str (Str.ofString "_law_words") 620, Value.str (Str.ofString "_law_words") 621, Value.str (Str.ofString "/claim/cut.py") 622, Value.int 340 0, Value.int 2 0, Value.int 0 0, Value.int 0 0, Value.int 3 0, Value.ref 291, Value.bool Bool.true, Value.int 181 0, Value.ref 292, Value.none, Value.none, Value.none, Value.ref 293, Value.int 623 0, Value.int 340 0, Value.str (Str.ofString "/claim/cut.py") 624]) #[]) ::
    @Prod.mk Nat Obj (nat_lit 295) (Obj.mk (Value.type "function") none (Data.func (FuncData.mk (Str.ofString "_law_words") (Str.ofString "_law_words") p295 (FuncBody.stmts b295) s295 3 [] Value.none Value.none Value.none (Value.str (Str.ofString "law_xm0622_01") 591) none (Value.ref 294) Value.none 0)) #[]) ::
    @Prod.mk Nat Obj (nat_lit 296) (Obj.mk (Value.type "tuple") none (Data.seq #[]) #[]) ::
    @Prod.mk Nat Obj (nat_lit 299) (Obj.mk (Value.type "code") none (Data.fields #[Value.str (Str.ofString "_law_least_ones") 626, Value.str (Str.ofString "_law_least_ones") 627, Value.str (Str.ofString "/claim/cut.py") 628, Value.int 345 0, Value.int 2 0, Value.int 0 0, Value.int 0 0, Value.int 3 0, Value.ref 296, Value.bool Bool.true, Value.int 181 0, Value.ref 297, Value.none, Value.none, Value.none, Value.ref 298, Value.int 629 0, Value.int 345 0, Value.str (Str.ofString "/claim/cut.py") 630]) #[]) ::
    @Prod.mk Nat Obj (nat_lit 300) (Obj.mk (Value.type "function") none (Data.func (FuncData.mk (Str.ofString "_law_least_ones") (Str.ofString "_law_least_ones") p300 (FuncBody.stmts b300) s300 3 [] Value.none Value.none Value.none (Value.str (Str.ofString "law_xm0622_01") 591) none (Value.ref 299) Value.none 0)) #[]) ::
    @Prod.mk Nat Obj (nat_lit 301) (Obj.mk (Value.type "tuple") none (Data.seq #[]) #[]) ::
    @Prod.mk Nat Obj (nat_lit 303) (Obj.mk (Value.type "tuple") none (Data.seq #[Value.str (Str.ofString "script") 635, Value.str (Str.ofString "bowl") 636, Value.str (Str.ofString "form") 637, Value.str (Str.ofString "first") 638, Value.str (Str.ofString "second") 639, Value.str (Str.ofString "letters") 640, Value.str (Str.ofString "size") 641, Value.str (Str.ofString "text") 642, Value.str (Str.ofString "rows") 643, Value.str (Str.ofString "long") 644, Value.str (Str.ofString "ring") 645, Value.str (Str.ofString "around") 646, Value.str (Str.ofString "word") 647, Value.str (Str.ofString "at") 648]) #[]) ::
    @Prod.mk Nat Obj (nat_lit 304) (Obj.mk (Value.type "tuple") none (Data.seq #[]) #[]) ::
    @Prod.mk Nat Obj (nat_lit 306) (Obj.mk (Value.type "code") none (Data.fields #[Value.str (Str.ofString "law") 632, Value.str (Str.ofString "law") 633, Value.str (Str.ofString "/claim/cut.py") 634, Value.int 349 0, Value.int 1 0, Value.int 0 0, Value.int 0 0, Value.int 3 0, Value.ref 301, Value.bool Bool.true, Value.int 181 0, Value.ref 302, Value.none, Value.ref 303, Value.ref 304, Value.ref 305, Value.int 649 0, Value.int 349 0, Value.str (Str.ofString "/claim/cut.py") 650]) #[]) ::
    @Prod.mk Nat Obj (nat_lit 307) (Obj.mk (Value.type "function") none (Data.func (FuncData.mk (Str.ofString "law") (Str.ofString "law") p307 (FuncBody.stmts b307) s307 3 [] Value.none Value.none Value.none (Value.str (Str.ofString "law_xm0622_01") 591) none (Value.ref 306) Value.none 0)) #[]) :: []
noncomputable abbrev asK : List Addr := 2 :: 3 :: 15 :: 17 :: 18 :: 20 :: 21 :: 22 :: 24 :: 25 :: 27 :: 28 :: 29 :: 36 :: 38 :: 39 :: 41 :: 42 :: 43 :: 44 :: 45 :: 46 :: 49 :: 51 :: 52 :: 54 :: 55 :: 56 :: 58 :: 59 :: 61 :: 62 :: 63 :: 65 :: 66 :: 68 :: 69 :: 70 :: 72 :: 73 :: 75 :: 76 :: 77 :: 79 :: 80 :: 82 :: 83 :: 84 :: 86 :: 87 :: 89 :: 90 :: 91 :: 93 :: 94 :: 96 :: 97 :: 98 :: 100 :: 101 :: 103 :: 104 :: 105 :: 107 :: 108 :: 110 :: 111 :: 119 :: 120 :: 122 :: 123 :: 125 :: 126 :: 127 :: 129 :: 130 :: 132 :: 133 :: 134 :: 136 :: 137 :: 139 :: 140 :: 141 :: 143 :: 144 :: 146 :: 147 :: 148 :: 150 :: 151 :: 153 :: 154 :: 155 :: 157 :: 158 :: 160 :: 161 :: 162 :: 164 :: 165 :: 167 :: 168 :: 169 :: 171 :: 172 :: 174 :: 175 :: 176 :: 178 :: 179 :: 181 :: 182 :: 183 :: 185 :: 186 :: 188 :: 189 :: 190 :: 192 :: 193 :: 195 :: 196 :: 197 :: 199 :: 200 :: 202 :: 203 :: 204 :: 206 :: 207 :: 209 :: 210 :: 211 :: 213 :: 214 :: 216 :: 217 :: 218 :: 220 :: 221 :: 223 :: 224 :: 225 :: 227 :: 228 :: 230 :: 231 :: 232 :: 234 :: 235 :: 237 :: 238 :: 239 :: 241 :: 242 :: 244 :: 245 :: 246 :: 248 :: 249 :: 251 :: 252 :: 253 :: 256 :: 257 :: 258 :: 260 :: 261 :: 263 :: 264 :: 265 :: 266 :: 267 :: 268 :: 269 :: 272 :: 274 :: 275 :: 277 :: 278 :: 279 :: 281 :: 282 :: 284 :: 285 :: 286 :: 289 :: 290 :: 291 :: 294 :: 295 :: 296 :: 299 :: 300 :: 301 :: 303 :: 304 :: 306 :: 307 :: []
/-- the program without the four statements that name its parts -/
noncomputable def view : Program := by
  refine (?f : (x0 : Stmt) → pw.main.body[0]? = some x0 → (x2 : Stmt) → pw.main.body[2]? = some x2 → (x4 : Stmt) → pw.main.body[4]? = some x4 → (x6 : Stmt) → pw.main.body[6]? = some x6 → (x7 : Stmt) → pw.main.body[7]? = some x7 → (x8 : Stmt) → pw.main.body[8]? = some x8 → (x9 : Stmt) → pw.main.body[9]? = some x9 → (x10 : Stmt) → pw.main.body[10]? = some x10 → (x11 : Stmt) → pw.main.body[11]? = some x11 → (x12 : Stmt) → pw.main.body[12]? = some x12 → (x13 : Stmt) → pw.main.body[13]? = some x13 → (x14 : Stmt) → pw.main.body[14]? = some x14 → (x15 : Stmt) → pw.main.body[15]? = some x15 → (x16 : Stmt) → pw.main.body[16]? = some x16 → (x17 : Stmt) → pw.main.body[17]? = some x17 → (x18 : Stmt) → pw.main.body[18]? = some x18 → (x19 : Stmt) → pw.main.body[19]? = some x19 → (x20 : Stmt) → pw.main.body[20]? = some x20 → (x21 : Stmt) → pw.main.body[21]? = some x21 → (x22 : Stmt) → pw.main.body[22]? = some x22 → (x23 : Stmt) → pw.main.body[23]? = some x23 → (x24 : Stmt) → pw.main.body[24]? = some x24 → (x25 : Stmt) → pw.main.body[25]? = some x25 → (x26 : Stmt) → pw.main.body[26]? = some x26 → (x27 : Stmt) → pw.main.body[27]? = some x27 → (x28 : Stmt) → pw.main.body[28]? = some x28 → (x29 : Stmt) → pw.main.body[29]? = some x29 → (x30 : Stmt) → pw.main.body[30]? = some x30 → (x32 : Stmt) → pw.main.body[32]? = some x32 → (x33 : Stmt) → pw.main.body[33]? = some x33 → (x34 : Stmt) → pw.main.body[34]? = some x34 → (x35 : Stmt) → pw.main.body[35]? = some x35 → (x36 : Stmt) → pw.main.body[36]? = some x36 → (x37 : Stmt) → pw.main.body[37]? = some x37 → Program) _ rfl _ rfl _ rfl _ rfl _ rfl _ rfl _ rfl _ rfl _ rfl _ rfl _ rfl _ rfl _ rfl _ rfl _ rfl _ rfl _ rfl _ rfl _ rfl _ rfl _ rfl _ rfl _ rfl _ rfl _ rfl _ rfl _ rfl _ rfl _ rfl _ rfl _ rfl _ rfl _ rfl _ rfl
  exact fun x0 _ x2 _ x4 _ x6 _ x7 _ x8 _ x9 _ x10 _ x11 _ x12 _ x13 _ x14 _ x15 _ x16 _ x17 _ x18 _ x19 _ x20 _ x21 _ x22 _ x23 _ x24 _ x25 _ x26 _ x27 _ x28 _ x29 _ x30 _ x32 _ x33 _ x34 _ x35 _ x36 _ x37 _ => { pw with main := { pw.main with body := x0 :: x2 :: x4 :: x6 :: x7 :: x8 :: x9 :: x10 :: x11 :: x12 :: x13 :: x14 :: x15 :: x16 :: x17 :: x18 :: x19 :: x20 :: x21 :: x22 :: x23 :: x24 :: x25 :: x26 :: x27 :: x28 :: x29 :: x30 :: x32 :: x33 :: x34 :: x35 :: x36 :: x37 :: [] } }
end Mine
end
section
open PySem PySem.W PyProof.Rows
namespace Mine
noncomputable def H0 : Params → Heap := by
  exact fun P => Heap.mk (Array.mk (
    Obj.mk (Value.type "dict") none (Data.dict #[DictEntry.mk (PyData.keyHash P (Str.ofString "__name__")) (Value.str (Str.ofString "__name__") 1) (Value.str (Str.ofString "builtins") 160), DictEntry.mk (PyData.keyHash P (Str.ofString "__doc__")) (Value.str (Str.ofString "__doc__") 2) (Value.builtin "builtins.__doc__:str#opaque"), DictEntry.mk (PyData.keyHash P (Str.ofString "__package__")) (Value.str (Str.ofString "__package__") 3) (Value.builtin "builtins.__package__:str#opaque"), DictEntry.mk (PyData.keyHash P (Str.ofString "__loader__")) (Value.str (Str.ofString "__loader__") 4) (Value.builtin "builtins.__loader__:shared#opaque"), DictEntry.mk (PyData.keyHash P (Str.ofString "__spec__")) (Value.str (Str.ofString "__spec__") 5) (Value.builtin "builtins.__spec__#opaque"), DictEntry.mk (PyData.keyHash P (Str.ofString "__build_class__")) (Value.str (Str.ofString "__build_class__") 6) (Value.builtin "__build_class__"), DictEntry.mk (PyData.keyHash P (Str.ofString "__import__")) (Value.str (Str.ofString "__import__") 7) (Value.builtin "__import__"), DictEntry.mk (PyData.keyHash P (Str.ofString "abs")) (Value.str (Str.ofString "abs") 8) (Value.builtin "abs"), DictEntry.mk (PyData.keyHash P (Str.ofString "all")) (Value.str (Str.ofString "all") 9) (Value.builtin "all"), DictEntry.mk (PyData.keyHash P (Str.ofString "any")) (Value.str (Str.ofString "any") 10) (Value.builtin "any"), DictEntry.mk (PyData.keyHash P (Str.ofString "ascii")) (Value.str (Str.ofString "ascii") 11) (Value.builtin "ascii"), DictEntry.mk (PyData.keyHash P (Str.ofString "bin")) (Value.str (Str.ofString "bin") 12) (Value.builtin "bin"), DictEntry.mk (PyData.keyHash P (Str.ofString "breakpoint")) (Value.str (Str.ofString "breakpoint") 13) (Value.builtin "breakpoint"), DictEntry.mk (PyData.keyHash P (Str.ofString "callable")) (Value.str (Str.ofString "callable") 14) (Value.builtin "callable"), DictEntry.mk (PyData.keyHash P (Str.ofString "chr")) (Value.str (Str.ofString "chr") 15) (Value.builtin "chr"), DictEntry.mk (PyData.keyHash P (Str.ofString "compile")) (Value.str (Str.ofString "compile") 16) (Value.builtin "compile"), DictEntry.mk (PyData.keyHash P (Str.ofString "delattr")) (Value.str (Str.ofString "delattr") 17) (Value.builtin "delattr"), DictEntry.mk (PyData.keyHash P (Str.ofString "dir")) (Value.str (Str.ofString "dir") 18) (Value.builtin "dir"), DictEntry.mk (PyData.keyHash P (Str.ofString "divmod")) (Value.str (Str.ofString "divmod") 19) (Value.builtin "divmod"), DictEntry.mk (PyData.keyHash P (Str.ofString "eval")) (Value.str (Str.ofString "eval") 20) (Value.builtin "eval"), DictEntry.mk (PyData.keyHash P (Str.ofString "exec")) (Value.str (Str.ofString "exec") 21) (Value.builtin "exec"), DictEntry.mk (PyData.keyHash P (Str.ofString "format")) (Value.str (Str.ofString "format") 22) (Value.builtin "format"), DictEntry.mk (PyData.keyHash P (Str.ofString "getattr")) (Value.str (Str.ofString "getattr") 23) (Value.builtin "getattr"), DictEntry.mk (PyData.keyHash P (Str.ofString "globals")) (Value.str (Str.ofString "globals") 24) (Value.builtin "globals"), DictEntry.mk (PyData.keyHash P (Str.ofString "hasattr")) (Value.str (Str.ofString "hasattr") 25) (Value.builtin "hasattr"), DictEntry.mk (PyData.keyHash P (Str.ofString "hash")) (Value.str (Str.ofString "hash") 26) (Value.builtin "hash"), DictEntry.mk (PyData.keyHash P (Str.ofString "hex")) (Value.str (Str.ofString "hex") 27) (Value.builtin "hex"), DictEntry.mk (PyData.keyHash P (Str.ofString "id")) (Value.str (Str.ofString "id") 28) (Value.builtin "id"), DictEntry.mk (PyData.keyHash P (Str.ofString "input")) (Value.str (Str.ofString "input") 29) (Value.builtin "input"), DictEntry.mk (PyData.keyHash P (Str.ofString "isinstance")) (Value.str (Str.ofString "isinstance") 30) (Value.builtin "isinstance"), DictEntry.mk (PyData.keyHash P (Str.ofString "issubclass")) (Value.str (Str.ofString "issubclass") 31) (Value.builtin "issubclass"), DictEntry.mk (PyData.keyHash P (Str.ofString "iter")) (Value.str (Str.ofString "iter") 32) (Value.builtin "iter"), DictEntry.mk (PyData.keyHash P (Str.ofString "aiter")) (Value.str (Str.ofString "aiter") 33) (Value.builtin "aiter"), DictEntry.mk (PyData.keyHash P (Str.ofString "len")) (Value.str (Str.ofString "len") 34) (Value.builtin "len"), DictEntry.mk (PyData.keyHash P (Str.ofString "locals")) (Value.str (Str.ofString "locals") 35) (Value.builtin "locals"), DictEntry.mk (PyData.keyHash P (Str.ofString "max")) (Value.str (Str.ofString "max") 36) (Value.builtin "max"), DictEntry.mk (PyData.keyHash P (Str.ofString "min")) (Value.str (Str.ofString "min") 37) (Value.builtin "min"), DictEntry.mk (PyData.keyHash P (Str.ofString "next")) (Value.str (Str.ofString "next") 38) (Value.builtin "next"), DictEntry.mk (PyData.keyHash P (Str.ofString "anext")) (Value.str (Str.ofString "anext") 39) (Value.builtin "anext"), DictEntry.mk (PyData.keyHash P (Str.ofString "oct")) (Value.str (Str.ofString "oct") 40) (Value.builtin "oct"), DictEntry.mk (PyData.keyHash P (Str.ofString "ord")) (Value.str (Str.ofString "ord") 41) (Value.builtin "ord"), DictEntry.mk (PyData.keyHash P (Str.ofString "pow")) (Value.str (Str.ofString "pow") 42) (Value.builtin "pow"), DictEntry.mk (PyData.keyHash P (Str.ofString "print")) (Value.str (Str.ofString "print") 43) (Value.builtin "print"), DictEntry.mk (PyData.keyHash P (Str.ofString "repr")) (Value.str (Str.ofString "repr") 44) (Value.builtin "repr"), DictEntry.mk (PyData.keyHash P (Str.ofString "round")) (Value.str (Str.ofString "round") 45) (Value.builtin "round"), DictEntry.mk (PyData.keyHash P (Str.ofString "setattr")) (Value.str (Str.ofString "setattr") 46) (Value.builtin "setattr"), DictEntry.mk (PyData.keyHash P (Str.ofString "sorted")) (Value.str (Str.ofString "sorted") 47) (Value.builtin "sorted"), DictEntry.mk (PyData.keyHash P (Str.ofString "sum")) (Value.str (Str.ofString "sum") 48) (Value.builtin "sum"), DictEntry.mk (PyData.keyHash P (Str.ofString "vars")) (Value.str (Str.ofString "vars") 49) (Value.builtin "vars"), DictEntry.mk (PyData.keyHash P (Str.ofString "None")) (Value.str (Str.ofString "None") 50) Value.none, DictEntry.mk (PyData.keyHash P (Str.ofString "Ellipsis")) (Value.str (Str.ofString "Ellipsis") 51) Value.ellipsis, DictEntry.mk (PyData.keyHash P (Str.ofString "NotImplemented")) (Value.str (Str.ofString "NotImplemented") 52) Value.notImplemented, DictEntry.mk (PyData.keyHash P (Str.ofString "False")) (Value.str (Str.ofString "False") 53) (Value.bool Bool.false), DictEntry.mk (PyData.keyHash P (Str.ofString "True")) (Value.str (Str.ofString "True") 54) (Value.bool Bool.true), DictEntry.mk (PyData.keyHash P (Str.ofString "bool")) (Value.str (Str.ofString "bool") 55) (Value.type "bool"), DictEntry.mk (PyData.keyHash P (Str.ofString "memoryview")) (Value.str (Str.ofString "memoryview") 56) (Value.type "memoryview"), DictEntry.mk (PyData.keyHash P (Str.ofString "bytearray")) (Value.str (Str.ofString "bytearray") 57) (Value.type "bytearray"), DictEntry.mk (PyData.keyHash P (Str.ofString "bytes")) (Value.str (Str.ofString "bytes") 58) (Value.type "bytes"), DictEntry.mk (PyData.keyHash P (Str.ofString "classmethod")) (Value.str (Str.ofString "classmethod") 59) (Value.type "classmethod"), DictEntry.mk (PyData.keyHash P (Str.ofString "complex")) (Value.str (Str.ofString "complex") 60) (Value.type "complex"), DictEntry.mk (PyData.keyHash P (Str.ofString "dict")) (Value.str (Str.ofString "dict") 61) (Value.type "dict"), DictEntry.mk (PyData.keyHash P (Str.ofString "enumerate")) (Value.str (Str.ofString "enumerate") 62) (Value.type "enumerate"), DictEntry.mk (PyData.keyHash P (Str.ofString "filter")) (Value.str (Str.ofString "filter") 63) (Value.type "filter"), DictEntry.mk (PyData.keyHash P (Str.ofString "float")) (Value.str (Str.ofString "float") 64) (Value.type "float"), DictEntry.mk (PyData.keyHash P (Str.ofString "frozenset")) (Value.str (Str.ofString "frozenset") 65) (Value.type "frozenset"), DictEntry.mk (PyData.keyHash P (Str.ofString "property")) (Value.str (Str.ofString "property") 66) (Value.type "property"), DictEntry.mk (PyData.keyHash P (Str.ofString "int")) (Value.str (Str.ofString "int") 67) (Value.type "int"), DictEntry.mk (PyData.keyHash P (Str.ofString "list")) (Value.str (Str.ofString "list") 68) (Value.type "list"), DictEntry.mk (PyData.keyHash P (Str.ofString "map")) (Value.str (Str.ofString "map") 69) (Value.type "map"), DictEntry.mk (PyData.keyHash P (Str.ofString "object")) (Value.str (Str.ofString "object") 70) (Value.type "object"), DictEntry.mk (PyData.keyHash P (Str.ofString "range")) (Value.str (Str.ofString "range") 71) (Value.type "range"), DictEntry.mk (PyData.keyHash P (Str.ofString "reversed")) (Value.str (Str.ofString "reversed") 72) (Value.type "reversed"), DictEntry.mk (PyData.keyHash P (Str.ofString "set")) (Value.str (Str.ofString "set") 73) (Value.type "set"), DictEntry.mk (PyData.keyHash P (Str.ofString "slice")) (Value.str (Str.ofString "slice") 74) (Value.type "slice"), DictEntry.mk (PyData.keyHash P (Str.ofString "staticmethod")) (Value.str (Str.ofString "staticmethod") 75) (Value.type "staticmethod"), DictEntry.mk (PyData.keyHash P (Str.ofString "str")) (Value.str (Str.ofString "str") 76) (Value.type "str"), DictEntry.mk (PyData.keyHash P (Str.ofString "super")) (Value.str (Str.ofString "super") 77) (Value.type "super"), DictEntry.mk (PyData.keyHash P (Str.ofString "tuple")) (Value.str (Str.ofString "tuple") 78) (Value.type "tuple"), DictEntry.mk (PyData.keyHash P (Str.ofString "type")) (Value.str (Str.ofString "type") 79) (Value.type "type"), DictEntry.mk (PyData.keyHash P (Str.ofString "zip")) (Value.str (Str.ofString "zip") 80) (Value.type "zip"), DictEntry.mk (PyData.keyHash P (Str.ofString "__debug__")) (Value.str (Str.ofString "__debug__") 81) (Value.bool Bool.true), DictEntry.mk (PyData.keyHash P (Str.ofString "BaseException")) (Value.str (Str.ofString "BaseException") 82) (Value.type "BaseException"), DictEntry.mk (PyData.keyHash P (Str.ofString "BaseExceptionGroup")) (Value.str (Str.ofString "BaseExceptionGroup") 83) (Value.type "BaseExceptionGroup"), DictEntry.mk (PyData.keyHash P (Str.ofString "Exception")) (Value.str (Str.ofString "Exception") 84) (Value.type "Exception"), DictEntry.mk (PyData.keyHash P (Str.ofString "GeneratorExit")) (Value.str (Str.ofString "GeneratorExit") 85) (Value.type "GeneratorExit"), DictEntry.mk (PyData.keyHash P (Str.ofString "KeyboardInterrupt")) (Value.str (Str.ofString "KeyboardInterrupt") 86) (Value.type "KeyboardInterrupt"), DictEntry.mk (PyData.keyHash P (Str.ofString "SystemExit")) (Value.str (Str.ofString "SystemExit") 87) (Value.type "SystemExit"), DictEntry.mk (PyData.keyHash P (Str.ofString "ArithmeticError")) (Value.str (Str.ofString "ArithmeticError") 88) (Value.type "ArithmeticError"), DictEntry.mk (PyData.keyHash P (Str.ofString "AssertionError")) (Value.str (Str.ofString "AssertionError") 89) (Value.type "AssertionError"), DictEntry.mk (PyData.keyHash P (Str.ofString "AttributeError")) (Value.str (Str.ofString "AttributeError") 90) (Value.type "AttributeError"), DictEntry.mk (PyData.keyHash P (Str.ofString "BufferError")) (Value.str (Str.ofString "BufferError") 91) (Value.type "BufferError"), DictEntry.mk (PyData.keyHash P (Str.ofString "EOFError")) (Value.str (Str.ofString "EOFError") 92) (Value.type "EOFError"), DictEntry.mk (PyData.keyHash P (Str.ofString "ImportError")) (Value.str (Str.ofString "ImportError") 93) (Value.type "ImportError"), DictEntry.mk (PyData.keyHash P (Str.ofString "LookupError")) (Value.str (Str.ofString "LookupError") 94) (Value.type "LookupError"), DictEntry.mk (PyData.keyHash P (Str.ofString "MemoryError")) (Value.str (Str.ofString "MemoryError") 95) (Value.type "MemoryError"), DictEntry.mk (PyData.keyHash P (Str.ofString "NameError")) (Value.str (Str.ofString "NameError") 96) (Value.type "NameError"), DictEntry.mk (PyData.keyHash P (Str.ofString "OSError")) (Value.str (Str.ofString "OSError") 97) (Value.type "OSError"), DictEntry.mk (PyData.keyHash P (Str.ofString "ReferenceError")) (Value.str (Str.ofString "ReferenceError") 98) (Value.type "ReferenceError"), DictEntry.mk (PyData.keyHash P (Str.ofString "RuntimeError")) (Value.str (Str.ofString "RuntimeError") 99) (Value.type "RuntimeError"), DictEntry.mk (PyData.keyHash P (Str.ofString "StopAsyncIteration")) (Value.str (Str.ofString "StopAsyncIteration") 100) (Value.type "StopAsyncIteration"), DictEntry.mk (PyData.keyHash P (Str.ofString "StopIteration")) (Value.str (Str.ofString "StopIteration") 101) (Value.type "StopIteration"), DictEntry.mk (PyData.keyHash P (Str.ofString "SyntaxError")) (Value.str (Str.ofString "SyntaxError") 102) (Value.type "SyntaxError"), DictEntry.mk (PyData.keyHash P (Str.ofString "SystemError")) (Value.str (Str.ofString "SystemError") 103) (Value.type "SystemError"), DictEntry.mk (PyData.keyHash P (Str.ofString "TypeError")) (Value.str (Str.ofString "TypeError") 104) (Value.type "TypeError"), DictEntry.mk (PyData.keyHash P (Str.ofString "ValueError")) (Value.str (Str.ofString "ValueError") 105) (Value.type "ValueError"), DictEntry.mk (PyData.keyHash P (Str.ofString "Warning")) (Value.str (Str.ofString "Warning") 106) (Value.type "Warning"), DictEntry.mk (PyData.keyHash P (Str.ofString "FloatingPointError")) (Value.str (Str.ofString "FloatingPointError") 107) (Value.type "FloatingPointError"), DictEntry.mk (PyData.keyHash P (Str.ofString "OverflowError")) (Value.str (Str.ofString "OverflowError") 108) (Value.type "OverflowError"), DictEntry.mk (PyData.keyHash P (Str.ofString "ZeroDivisionError")) (Value.str (Str.ofString "ZeroDivisionError") 109) (Value.type "ZeroDivisionError"), DictEntry.mk (PyData.keyHash P (Str.ofString "BytesWarning")) (Value.str (Str.ofString "BytesWarning") 110) (Value.type "BytesWarning"), DictEntry.mk (PyData.keyHash P (Str.ofString "DeprecationWarning")) (Value.str (Str.ofString "DeprecationWarning") 111) (Value.type "DeprecationWarning"), DictEntry.mk (PyData.keyHash P (Str.ofString "EncodingWarning")) (Value.str (Str.ofString "EncodingWarning") 112) (Value.type "EncodingWarning"), DictEntry.mk (PyData.keyHash P (Str.ofString "FutureWarning")) (Value.str (Str.ofString "FutureWarning") 113) (Value.type "FutureWarning"), DictEntry.mk (PyData.keyHash P (Str.ofString "ImportWarning")) (Value.str (Str.ofString "ImportWarning") 114) (Value.type "ImportWarning"), DictEntry.mk (PyData.keyHash P (Str.ofString "PendingDeprecationWarning")) (Value.str (Str.ofString "PendingDeprecationWarning") 115) (Value.type "PendingDeprecationWarning"), DictEntry.mk (PyData.keyHash P (Str.ofString "ResourceWarning")) (Value.str (Str.ofString "ResourceWarning") 116) (Value.type "ResourceWarning"), DictEntry.mk (PyData.keyHash P (Str.ofString "RuntimeWarning")) (Value.str (Str.ofString "RuntimeWarning") 117) (Value.type "RuntimeWarning"), DictEntry.mk (PyData.keyHash P (Str.ofString "SyntaxWarning")) (Value.str (Str.ofString "SyntaxWarning") 118) (Value.type "SyntaxWarning"), DictEntry.mk (PyData.keyHash P (Str.ofString "UnicodeWarning")) (Value.str (Str.ofString "UnicodeWarning") 119) (Value.type "UnicodeWarning"), DictEntry.mk (PyData.keyHash P (Str.ofString "UserWarning")) (Value.str (Str.ofString "UserWarning") 120) (Value.type "UserWarning"), DictEntry.mk (PyData.keyHash P (Str.ofString "BlockingIOError")) (Value.str (Str.ofString "BlockingIOError") 121) (Value.type "BlockingIOError"), DictEntry.mk (PyData.keyHash P (Str.ofString "ChildProcessError")) (Value.str (Str.ofString "ChildProcessError") 122) (Value.type "ChildProcessError"), DictEntry.mk (PyData.keyHash P (Str.ofString "ConnectionError")) (Value.str (Str.ofString "ConnectionError") 123) (Value.type "ConnectionError"), DictEntry.mk (PyData.keyHash P (Str.ofString "FileExistsError")) (Value.str (Str.ofString "FileExistsError") 124) (Value.type "FileExistsError"), DictEntry.mk (PyData.keyHash P (Str.ofString "FileNotFoundError")) (Value.str (Str.ofString "FileNotFoundError") 125) (Value.type "FileNotFoundError"), DictEntry.mk (PyData.keyHash P (Str.ofString "InterruptedError")) (Value.str (Str.ofString "InterruptedError") 126) (Value.type "InterruptedError"), DictEntry.mk (PyData.keyHash P (Str.ofString "IsADirectoryError")) (Value.str (Str.ofString "IsADirectoryError") 127) (Value.type "IsADirectoryError"), DictEntry.mk (PyData.keyHash P (Str.ofString "NotADirectoryError")) (Value.str (Str.ofString "NotADirectoryError") 128) (Value.type "NotADirectoryError"), DictEntry.mk (PyData.keyHash P (Str.ofString "PermissionError")) (Value.str (Str.ofString "PermissionError") 129) (Value.type "PermissionError"), DictEntry.mk (PyData.keyHash P (Str.ofString "ProcessLookupError")) (Value.str (Str.ofString "ProcessLookupError") 130) (Value.type "ProcessLookupError"), DictEntry.mk (PyData.keyHash P (Str.ofString "TimeoutError")) (Value.str (Str.ofString "TimeoutError") 131) (Value.type "TimeoutError"), DictEntry.mk (PyData.keyHash P (Str.ofString "IndentationError")) (Value.str (Str.ofString "IndentationError") 132) (Value.type "IndentationError"), DictEntry.mk (PyData.keyHash P (Str.ofString "_IncompleteInputError")) (Value.str (Str.ofString "_IncompleteInputError") 133) (Value.type "_IncompleteInputError"), DictEntry.mk (PyData.keyHash P (Str.ofString "IndexError")) (Value.str (Str.ofString "IndexError") 134) (Value.type "IndexError"), DictEntry.mk (PyData.keyHash P (Str.ofString "KeyError")) (Value.str (Str.ofString "KeyError") 135) (Value.type "KeyError"), DictEntry.mk (PyData.keyHash P (Str.ofString "ModuleNotFoundError")) (Value.str (Str.ofString "ModuleNotFoundError") 136) (Value.type "ModuleNotFoundError"), DictEntry.mk (PyData.keyHash P (Str.ofString "NotImplementedError")) (Value.str (Str.ofString "NotImplementedError") 137) (Value.type "NotImplementedError"), DictEntry.mk (PyData.keyHash P (Str.ofString "PythonFinalizationError")) (Value.str (Str.ofString "PythonFinalizationError") 138) (Value.type "PythonFinalizationError"), DictEntry.mk (PyData.keyHash P (Str.ofString "RecursionError")) (Value.str (Str.ofString "RecursionError") 139) (Value.type "RecursionError"), DictEntry.mk (PyData.keyHash P (Str.ofString "UnboundLocalError")) (Value.str (Str.ofString "UnboundLocalError") 140) (Value.type "UnboundLocalError"), DictEntry.mk (PyData.keyHash P (Str.ofString "UnicodeError")) (Value.str (Str.ofString "UnicodeError") 141) (Value.type "UnicodeError"), DictEntry.mk (PyData.keyHash P (Str.ofString "BrokenPipeError")) (Value.str (Str.ofString "BrokenPipeError") 142) (Value.type "BrokenPipeError"), DictEntry.mk (PyData.keyHash P (Str.ofString "ConnectionAbortedError")) (Value.str (Str.ofString "ConnectionAbortedError") 143) (Value.type "ConnectionAbortedError"), DictEntry.mk (PyData.keyHash P (Str.ofString "ConnectionRefusedError")) (Value.str (Str.ofString "ConnectionRefusedError") 144) (Value.type "ConnectionRefusedError"), DictEntry.mk (PyData.keyHash P (Str.ofString "ConnectionResetError")) (Value.str (Str.ofString "ConnectionResetError") 145) (Value.type "ConnectionResetError"), DictEntry.mk (PyData.keyHash P (Str.ofString "TabError")) (Value.str (Str.ofString "TabError") 146) (Value.type "TabError"), DictEntry.mk (PyData.keyHash P (Str.ofString "UnicodeDecodeError")) (Value.str (Str.ofString "UnicodeDecodeError") 147) (Value.type "UnicodeDecodeError"), DictEntry.mk (PyData.keyHash P (Str.ofString "UnicodeEncodeError")) (Value.str (Str.ofString "UnicodeEncodeError") 148) (Value.type "UnicodeEncodeError"), DictEntry.mk (PyData.keyHash P (Str.ofString "UnicodeTranslateError")) (Value.str (Str.ofString "UnicodeTranslateError") 149) (Value.type "UnicodeTranslateError"), DictEntry.mk (PyData.keyHash P (Str.ofString "ExceptionGroup")) (Value.str (Str.ofString "ExceptionGroup") 150) (Value.type "ExceptionGroup"), DictEntry.mk (PyData.keyHash P (Str.ofString "EnvironmentError")) (Value.str (Str.ofString "EnvironmentError") 151) (Value.type "OSError"), DictEntry.mk (PyData.keyHash P (Str.ofString "IOError")) (Value.str (Str.ofString "IOError") 152) (Value.type "OSError"), DictEntry.mk (PyData.keyHash P (Str.ofString "open")) (Value.str (Str.ofString "open") 153) (Value.builtin "open"), DictEntry.mk (PyData.keyHash P (Str.ofString "quit")) (Value.str (Str.ofString "quit") 154) (Value.builtin "builtins.quit#opaque"), DictEntry.mk (PyData.keyHash P (Str.ofString "exit")) (Value.str (Str.ofString "exit") 155) (Value.builtin "builtins.exit#opaque"), DictEntry.mk (PyData.keyHash P (Str.ofString "copyright")) (Value.str (Str.ofString "copyright") 156) (Value.builtin "builtins.copyright#opaque"), DictEntry.mk (PyData.keyHash P (Str.ofString "credits")) (Value.str (Str.ofString "credits") 157) (Value.builtin "builtins.credits#opaque"), DictEntry.mk (PyData.keyHash P (Str.ofString "license")) (Value.str (Str.ofString "license") 158) (Value.builtin "builtins.license#opaque"), DictEntry.mk (PyData.keyHash P (Str.ofString "help")) (Value.str (Str.ofString "help") 159) (Value.builtin "builtins.help#opaque")] 159) #[] ::
    Obj.mk (Value.type "dict") none (Data.dict #[DictEntry.mk (PyData.keyHash P (Str.ofString "builtins")) (Value.str (Str.ofString "builtins") 162) (Value.ref 4), DictEntry.mk (PyData.keyHash P (Str.ofString "__main__")) (Value.str (Str.ofString "__main__") 163) (Value.ref 5)] 2) #[] ::
    Obj.mk Value.none none (Data.dict #[]) #[] ::
    Obj.mk (Value.type "dict") none (Data.dict #[DictEntry.mk (PyData.keyHash P (Str.ofString "__name__")) (Value.str (Str.ofString "__name__") 165) (Value.str (Str.ofString "__main__") 164), DictEntry.mk (PyData.keyHash P (Str.ofString "__doc__")) (Value.str (Str.ofString "__doc__") 166) Value.none, DictEntry.mk (PyData.keyHash P (Str.ofString "__package__")) (Value.str (Str.ofString "__package__") 167) Value.none, DictEntry.mk (PyData.keyHash P (Str.ofString "__loader__")) (Value.str (Str.ofString "__loader__") 168) (Value.builtin "__main__.__loader__#opaque"), DictEntry.mk (PyData.keyHash P (Str.ofString "__spec__")) (Value.str (Str.ofString "__spec__") 169) Value.none, DictEntry.mk (PyData.keyHash P (Str.ofString "__annotations__")) (Value.str (Str.ofString "__annotations__") 170) (Value.ref 6), DictEntry.mk (PyData.keyHash P (Str.ofString "__builtins__")) (Value.str (Str.ofString "__builtins__") 171) (Value.ref 4), DictEntry.mk (PyData.keyHash P (Str.ofString "__file__")) (Value.str (Str.ofString "__file__") 173) (Value.str (Str.ofString "/claim/cut.py") 172), DictEntry.mk (PyData.keyHash P (Str.ofString "__cached__")) (Value.str (Str.ofString "__cached__") 174) Value.none] 9) #[] ::
    Obj.mk (Value.type "module") (some 0) Data.plain #[] ::
    Obj.mk (Value.type "module") (some 3) Data.plain #[] ::
    Obj.mk (Value.type "dict") none (Data.dict #[]) #[] ::
    Obj.mk (Value.type "tuple") none (Data.seq #[]) #[] ::
    Obj.mk Value.none none (Data.fields #[]) #[] ::
    Obj.mk (Value.type "code") none (Data.fields #[Value.str (Str.ofString "<module>") 176, Value.str (Str.ofString "<module>") 177, Value.str (Str.ofString "/claim/cut.py") 178, Value.int 1 0, Value.int 0 0, Value.int 0 0, Value.int 0 0, Value.int 0 0, Value.ref 7, Value.bool Bool.false, Value.int 175 0, Value.ref 8, Value.none, Value.none, Value.none, Value.none, Value.int 179 0, Value.int 1 0, Value.str (Str.ofString "/claim/cut.py") 180]) #[] ::
    Obj.mk (Value.type "frame") none Data.plain #[some (Value.ref 9), some (Value.ref 3), some (Value.ref 3), none, some (Value.str (Str.ofString "__main__") 164), none, some (Value.ref 0)] ::
    Obj.mk (Value.type "tuple") none (Data.seq #[]) #[] ::
    Obj.mk Value.none none (Data.fields #[]) #[] ::
    Obj.mk (Value.type "code") none (Data.fields #[Value.str (Str.ofString "<module>") 182, Value.str (Str.ofString "<module>") 183, Value.str (Str.ofString "/claim/cut.py") 184, Value.int 1 0, Value.int 0 0, Value.int 0 0, Value.int 0 0, Value.int 0 0, Value.ref 11, Value.bool Bool.false, Value.int 181 0, Value.ref 12, Value.none, Value.none, Value.none, Value.none, Value.int 185 0, Value.int 1 0, Value.str (Str.ofString "/claim/cut.py") 186]) #[] ::
    Obj.mk (Value.type "frame") none Data.plain #[some (Value.ref 13), some (Value.ref 3), some (Value.ref 3), none, some (Value.str (Str.ofString "__main__") 164), none, some (Value.ref 0)] :: [])) (Life.mk [] [] [] 0 [] [] false #[] [] 0 false false false 0 [2000, 10, 10] false 0 true [] [] 0 false)
noncomputable def H1 : Params → Heap := by
  refine (?f : (p21 : Arguments) → (b21 : List Stmt) → (s21 : Scope) → topParts 0 = some (p21, b21, s21) →
    (p28 : Arguments) → (b28 : List Stmt) → (s28 : Scope) → topParts 2 = some (p28, b28, s28) →
    (p42 : Arguments) → (b42 : List Stmt) → (s42 : Scope) → methParts 4 0 = some (p42, b42, s42) →
    (p55 : Arguments) → (b55 : List Stmt) → (s55 : Scope) → topParts 21 = some (p55, b55, s55) →
    (p62 : Arguments) → (b62 : List Stmt) → (s62 : Scope) → topParts 22 = some (p62, b62, s62) →
    (p69 : Arguments) → (b69 : List Stmt) → (s69 : Scope) → topParts 23 = some (p69, b69, s69) →
    (p76 : Arguments) → (b76 : List Stmt) → (s76 : Scope) → topParts 24 = some (p76, b76, s76) →
    (p83 : Arguments) → (b83 : List Stmt) → (s83 : Scope) → topParts 25 = some (p83, b83, s83) →
    (p90 : Arguments) → (b90 : List Stmt) → (s90 : Scope) → topParts 26 = some (p90, b90, s90) →
    (p97 : Arguments) → (b97 : List Stmt) → (s97 : Scope) → topParts 27 = some (p97, b97, s97) →
    (p104 : Arguments) → (b104 : List Stmt) → (s104 : Scope) → topParts 28 = some (p104, b104, s104) →
    (p111 : Arguments) → (b111 : List Stmt) → (s111 : Scope) → topParts 29 = some (p111, b111, s111) →
    Params → Heap) _ _ _ rfl _ _ _ rfl _ _ _ rfl _ _ _ rfl _ _ _ rfl _ _ _ rfl _ _ _ rfl _ _ _ rfl _ _ _ rfl _ _ _ rfl _ _ _ rfl _ _ _ rfl
  exact fun p21 b21 s21 _ p28 b28 s28 _ p42 b42 s42 _ p55 b55 s55 _ p62 b62 s62 _ p69 b69 s69 _ p76 b76 s76 _ p83 b83 s83 _ p90 b90 s90 _ p97 b97 s97 _ p104 b104 s104 _ p111 b111 s111 _ P => Heap.mk (Array.mk (
    Obj.mk (Value.type "dict") none (Data.dict #[DictEntry.mk (PyData.keyHash P (Str.ofString "__name__")) (Value.str (Str.ofString "__name__") 1) (Value.str (Str.ofString "builtins") 160), DictEntry.mk (PyData.keyHash P (Str.ofString "__doc__")) (Value.str (Str.ofString "__doc__") 2) (Value.builtin "builtins.__doc__:str#opaque"), DictEntry.mk (PyData.keyHash P (Str.ofString "__package__")) (Value.str (Str.ofString "__package__") 3) (Value.builtin "builtins.__package__:str#opaque"), DictEntry.mk (PyData.keyHash P (Str.ofString "__loader__")) (Value.str (Str.ofString "__loader__") 4) (Value.builtin "builtins.__loader__:shared#opaque"), DictEntry.mk (PyData.keyHash P (Str.ofString "__spec__")) (Value.str (Str.ofString "__spec__") 5) (Value.builtin "builtins.__spec__#opaque"), DictEntry.mk (PyData.keyHash P (Str.ofString "__build_class__")) (Value.str (Str.ofString "__build_class__") 6) (Value.builtin "__build_class__"), DictEntry.mk (PyData.keyHash P (Str.ofString "__import__")) (Value.str (Str.ofString "__import__") 7) (Value.builtin "__import__"), DictEntry.mk (PyData.keyHash P (Str.ofString "abs")) (Value.str (Str.ofString "abs") 8) (Value.builtin "abs"), DictEntry.mk (PyData.keyHash P (Str.ofString "all")) (Value.str (Str.ofString "all") 9) (Value.builtin "all"), DictEntry.mk (PyData.keyHash P (Str.ofString "any")) (Value.str (Str.ofString "any") 10) (Value.builtin "any"), DictEntry.mk (PyData.keyHash P (Str.ofString "ascii")) (Value.str (Str.ofString "ascii") 11) (Value.builtin "ascii"), DictEntry.mk (PyData.keyHash P (Str.ofString "bin")) (Value.str (Str.ofString "bin") 12) (Value.builtin "bin"), DictEntry.mk (PyData.keyHash P (Str.ofString "breakpoint")) (Value.str (Str.ofString "breakpoint") 13) (Value.builtin "breakpoint"), DictEntry.mk (PyData.keyHash P (Str.ofString "callable")) (Value.str (Str.ofString "callable") 14) (Value.builtin "callable"), DictEntry.mk (PyData.keyHash P (Str.ofString "chr")) (Value.str (Str.ofString "chr") 15) (Value.builtin "chr"), DictEntry.mk (PyData.keyHash P (Str.ofString "compile")) (Value.str (Str.ofString "compile") 16) (Value.builtin "compile"), DictEntry.mk (PyData.keyHash P (Str.ofString "delattr")) (Value.str (Str.ofString "delattr") 17) (Value.builtin "delattr"), DictEntry.mk (PyData.keyHash P (Str.ofString "dir")) (Value.str (Str.ofString "dir") 18) (Value.builtin "dir"), DictEntry.mk (PyData.keyHash P (Str.ofString "divmod")) (Value.str (Str.ofString "divmod") 19) (Value.builtin "divmod"), DictEntry.mk (PyData.keyHash P (Str.ofString "eval")) (Value.str (Str.ofString "eval") 20) (Value.builtin "eval"), DictEntry.mk (PyData.keyHash P (Str.ofString "exec")) (Value.str (Str.ofString "exec") 21) (Value.builtin "exec"), DictEntry.mk (PyData.keyHash P (Str.ofString "format")) (Value.str (Str.ofString "format") 22) (Value.builtin "format"), DictEntry.mk (PyData.keyHash P (Str.ofString "getattr")) (Value.str (Str.ofString "getattr") 23) (Value.builtin "getattr"), DictEntry.mk (PyData.keyHash P (Str.ofString "globals")) (Value.str (Str.ofString "globals") 24) (Value.builtin "globals"), DictEntry.mk (PyData.keyHash P (Str.ofString "hasattr")) (Value.str (Str.ofString "hasattr") 25) (Value.builtin "hasattr"), DictEntry.mk (PyData.keyHash P (Str.ofString "hash")) (Value.str (Str.ofString "hash") 26) (Value.builtin "hash"), DictEntry.mk (PyData.keyHash P (Str.ofString "hex")) (Value.str (Str.ofString "hex") 27) (Value.builtin "hex"), DictEntry.mk (PyData.keyHash P (Str.ofString "id")) (Value.str (Str.ofString "id") 28) (Value.builtin "id"), DictEntry.mk (PyData.keyHash P (Str.ofString "input")) (Value.str (Str.ofString "input") 29) (Value.builtin "input"), DictEntry.mk (PyData.keyHash P (Str.ofString "isinstance")) (Value.str (Str.ofString "isinstance") 30) (Value.builtin "isinstance"), DictEntry.mk (PyData.keyHash P (Str.ofString "issubclass")) (Value.str (Str.ofString "issubclass") 31) (Value.builtin "issubclass"), DictEntry.mk (PyData.keyHash P (Str.ofString "iter")) (Value.str (Str.ofString "iter") 32) (Value.builtin "iter"), DictEntry.mk (PyData.keyHash P (Str.ofString "aiter")) (Value.str (Str.ofString "aiter") 33) (Value.builtin "aiter"), DictEntry.mk (PyData.keyHash P (Str.ofString "len")) (Value.str (Str.ofString "len") 34) (Value.builtin "len"), DictEntry.mk (PyData.keyHash P (Str.ofString "locals")) (Value.str (Str.ofString "locals") 35) (Value.builtin "locals"), DictEntry.mk (PyData.keyHash P (Str.ofString "max")) (Value.str (Str.ofString "max") 36) (Value.builtin "max"), DictEntry.mk (PyData.keyHash P (Str.ofString "min")) (Value.str (Str.ofString "min") 37) (Value.builtin "min"), DictEntry.mk (PyData.keyHash P (Str.ofString "next")) (Value.str (Str.ofString "next") 38) (Value.builtin "next"), DictEntry.mk (PyData.keyHash P (Str.ofString "anext")) (Value.str (Str.ofString "anext") 39) (Value.builtin "anext"), DictEntry.mk (PyData.keyHash P (Str.ofString "oct")) (Value.str (Str.ofString "oct") 40) (Value.builtin "oct"), DictEntry.mk (PyData.keyHash P (Str.ofString "ord")) (Value.str (Str.ofString "ord") 41) (Value.builtin "ord"), DictEntry.mk (PyData.keyHash P (Str.ofString "pow")) (Value.str (Str.ofString "pow") 42) (Value.builtin "pow"), DictEntry.mk (PyData.keyHash P (Str.ofString "print")) (Value.str (Str.ofString "print") 43) (Value.builtin "print"), DictEntry.mk (PyData.keyHash P (Str.ofString "repr")) (Value.str (Str.ofString "repr") 44) (Value.builtin "repr"), DictEntry.mk (PyData.keyHash P (Str.ofString "round")) (Value.str (Str.ofString "round") 45) (Value.builtin "round"), DictEntry.mk (PyData.keyHash P (Str.ofString "setattr")) (Value.str (Str.ofString "setattr") 46) (Value.builtin "setattr"), DictEntry.mk (PyData.keyHash P (Str.ofString "sorted")) (Value.str (Str.ofString "sorted") 47) (Value.builtin "sorted"), DictEntry.mk (PyData.keyHash P (Str.ofString "sum")) (Value.str (Str.ofString "sum") 48) (Value.builtin "sum"), DictEntry.mk (PyData.keyHash P (Str.ofString "vars")) (Value.str (Str.ofString "vars") 49) (Value.builtin "vars"), DictEntry.mk (PyData.keyHash P (Str.ofString "None")) (Value.str (Str.ofString "None") 50) Value.none, DictEntry.mk (PyData.keyHash P (Str.ofString "Ellipsis")) (Value.str (Str.ofString "Ellipsis") 51) Value.ellipsis, DictEntry.mk (PyData.keyHash P (Str.ofString "NotImplemented")) (Value.str (Str.ofString "NotImplemented") 52) Value.notImplemented, DictEntry.mk (PyData.keyHash P (Str.ofString "False")) (Value.str (Str.ofString "False") 53) (Value.bool Bool.false), DictEntry.mk (PyData.keyHash P (Str.ofString "True")) (Value.str (Str.ofString "True") 54) (Value.bool Bool.true), DictEntry.mk (PyData.keyHash P (Str.ofString "bool")) (Value.str (Str.ofString "bool") 55) (Value.type "bool"), DictEntry.mk (PyData.keyHash P (Str.ofString "memoryview")) (Value.str (Str.ofString "memoryview") 56) (Value.type "memoryview"), DictEntry.mk (PyData.keyHash P (Str.ofString "bytearray")) (Value.str (Str.ofString "bytearray") 57) (Value.type "bytearray"), DictEntry.mk (PyData.keyHash P (Str.ofString "bytes")) (Value.str (Str.ofString "bytes") 58) (Value.type "bytes"), DictEntry.mk (PyData.keyHash P (Str.ofString "classmethod")) (Value.str (Str.ofString "classmethod") 59) (Value.type "classmethod"), DictEntry.mk (PyData.keyHash P (Str.ofString "complex")) (Value.str (Str.ofString "complex") 60) (Value.type "complex"), DictEntry.mk (PyData.keyHash P (Str.ofString "dict")) (Value.str (Str.ofString "dict") 61) (Value.type "dict"), DictEntry.mk (PyData.keyHash P (Str.ofString "enumerate")) (Value.str (Str.ofString "enumerate") 62) (Value.type "enumerate"), DictEntry.mk (PyData.keyHash P (Str.ofString "filter")) (Value.str (Str.ofString "filter") 63) (Value.type "filter"), DictEntry.mk (PyData.keyHash P (Str.ofString "float")) (Value.str (Str.ofString "float") 64) (Value.type "float"), DictEntry.mk (PyData.keyHash P (Str.ofString "frozenset")) (Value.str (Str.ofString "frozenset") 65) (Value.type "frozenset"), DictEntry.mk (PyData.keyHash P (Str.ofString "property")) (Value.str (Str.ofString "property") 66) (Value.type "property"), DictEntry.mk (PyData.keyHash P (Str.ofString "int")) (Value.str (Str.ofString "int") 67) (Value.type "int"), DictEntry.mk (PyData.keyHash P (Str.ofString "list")) (Value.str (Str.ofString "list") 68) (Value.type "list"), DictEntry.mk (PyData.keyHash P (Str.ofString "map")) (Value.str (Str.ofString "map") 69) (Value.type "map"), DictEntry.mk (PyData.keyHash P (Str.ofString "object")) (Value.str (Str.ofString "object") 70) (Value.type "object"), DictEntry.mk (PyData.keyHash P (Str.ofString "range")) (Value.str (Str.ofString "range") 71) (Value.type "range"), DictEntry.mk (PyData.keyHash P (Str.ofString "reversed")) (Value.str (Str.ofString "reversed") 72) (Value.type "reversed"), DictEntry.mk (PyData.keyHash P (Str.ofString "set")) (Value.str (Str.ofString "set") 73) (Value.type "set"), DictEntry.mk (PyData.keyHash P (Str.ofString "slice")) (Value.str (Str.ofString "slice") 74) (Value.type "slice"), DictEntry.mk (PyData.keyHash P (Str.ofString "staticmethod")) (Value.str (Str.ofString "staticmethod") 75) (Value.type "staticmethod"), DictEntry.mk (PyData.keyHash P (Str.ofString "str")) (Value.str (Str.ofString "str") 76) (Value.type "str"), DictEntry.mk (PyData.keyHash P (Str.ofString "super")) (Value.str (Str.ofString "super") 77) (Value.type "super"), DictEntry.mk (PyData.keyHash P (Str.ofString "tuple")) (Value.str (Str.ofString "tuple") 78) (Value.type "tuple"), DictEntry.mk (PyData.keyHash P (Str.ofString "type")) (Value.str (Str.ofString "type") 79) (Value.type "type"), DictEntry.mk (PyData.keyHash P (Str.ofString "zip")) (Value.str (Str.ofString "zip") 80) (Value.type "zip"), DictEntry.mk (PyData.keyHash P (Str.ofString "__debug__")) (Value.str (Str.ofString "__debug__") 81) (Value.bool Bool.true), DictEntry.mk (PyData.keyHash P (Str.ofString "BaseException")) (Value.str (Str.ofString "BaseException") 82) (Value.type "BaseException"), DictEntry.mk (PyData.keyHash P (Str.ofString "BaseExceptionGroup")) (Value.str (Str.ofString "BaseExceptionGroup") 83) (Value.type "BaseExceptionGroup"), DictEntry.mk (PyData.keyHash P (Str.ofString "Exception")) (Value.str (Str.ofString "Exception") 84) (Value.type "Exception"), DictEntry.mk (PyData.keyHash P (Str.ofString "GeneratorExit")) (Value.str (Str.ofString "GeneratorExit") 85) (Value.type "GeneratorExit"), DictEntry.mk (PyData.keyHash P (Str.ofString "KeyboardInterrupt")) (Value.str (Str.ofString "KeyboardInterrupt") 86) (Value.type "KeyboardInterrupt"), DictEntry.mk (PyData.keyHash P (Str.ofString "SystemExit")) (Value.str (Str.ofString "SystemExit") 87) (Value.type "SystemExit"), DictEntry.mk (PyData.keyHash P (Str.ofString "ArithmeticError")) (Value.str (Str.ofString "ArithmeticError") 88) (Value.type "ArithmeticError"), DictEntry.mk (PyData.keyHash P (Str.ofString "AssertionError")) (Value.str (Str.ofString "AssertionError") 89) (Value.type "AssertionError"), DictEntry.mk (PyData.keyHash P (Str.ofString "AttributeError")) (Value.str (Str.ofString "AttributeError") 90) (Value.type "AttributeError"), DictEntry.mk (PyData.keyHash P (Str.ofString "BufferError")) (Value.str (Str.ofString "BufferError") 91) (Value.type "BufferError"), DictEntry.mk (PyData.keyHash P (Str.ofString "EOFError")) (Value.str (Str.ofString "EOFError") 92) (Value.type "EOFError"), DictEntry.mk (PyData.keyHash P (Str.ofString "ImportError")) (Value.str (Str.ofString "ImportError") 93) (Value.type "ImportError"), DictEntry.mk (PyData.keyHash P (Str.ofString "LookupError")) (Value.str (Str.ofString "LookupError") 94) (Value.type "LookupError"), DictEntry.mk (PyData.keyHash P (Str.ofString "MemoryError")) (Value.str (Str.ofString "MemoryError") 95) (Value.type "MemoryError"), DictEntry.mk (PyData.keyHash P (Str.ofString "NameError")) (Value.str (Str.ofString "NameError") 96) (Value.type "NameError"), DictEntry.mk (PyData.keyHash P (Str.ofString "OSError")) (Value.str (Str.ofString "OSError") 97) (Value.type "OSError"), DictEntry.mk (PyData.keyHash P (Str.ofString "ReferenceError")) (Value.str (Str.ofString "ReferenceError") 98) (Value.type "ReferenceError"), DictEntry.mk (PyData.keyHash P (Str.ofString "RuntimeError")) (Value.str (Str.ofString "RuntimeError") 99) (Value.type "RuntimeError"), DictEntry.mk (PyData.keyHash P (Str.ofString "StopAsyncIteration")) (Value.str (Str.ofString "StopAsyncIteration") 100) (Value.type "StopAsyncIteration"), DictEntry.mk (PyData.keyHash P (Str.ofString "StopIteration")) (Value.str (Str.ofString "StopIteration") 101) (Value.type "StopIteration"), DictEntry.mk (PyData.keyHash P (Str.ofString "SyntaxError")) (Value.str (Str.ofString "SyntaxError") 102) (Value.type "SyntaxError"), DictEntry.mk (PyData.keyHash P (Str.ofString "SystemError")) (Value.str (Str.ofString "SystemError") 103) (Value.type "SystemError"), DictEntry.mk (PyData.keyHash P (Str.ofString "TypeError")) (Value.str (Str.ofString "TypeError") 104) (Value.type "TypeError"), DictEntry.mk (PyData.keyHash P (Str.ofString "ValueError")) (Value.str (Str.ofString "ValueError") 105) (Value.type "ValueError"), DictEntry.mk (PyData.keyHash P (Str.ofString "Warning")) (Value.str (Str.ofString "Warning") 106) (Value.type "Warning"), DictEntry.mk (PyData.keyHash P (Str.ofString "FloatingPointError")) (Value.str (Str.ofString "FloatingPointError") 107) (Value.type "FloatingPointError"), DictEntry.mk (PyData.keyHash P (Str.ofString "OverflowError")) (Value.str (Str.ofString "OverflowError") 108) (Value.type "OverflowError"), DictEntry.mk (PyData.keyHash P (Str.ofString "ZeroDivisionError")) (Value.str (Str.ofString "ZeroDivisionError") 109) (Value.type "ZeroDivisionError"), DictEntry.mk (PyData.keyHash P (Str.ofString "BytesWarning")) (Value.str (Str.ofString "BytesWarning") 110) (Value.type "BytesWarning"), DictEntry.mk (PyData.keyHash P (Str.ofString "DeprecationWarning")) (Value.str (Str.ofString "DeprecationWarning") 111) (Value.type "DeprecationWarning"), DictEntry.mk (PyData.keyHash P (Str.ofString "EncodingWarning")) (Value.str (Str.ofString "EncodingWarning") 112) (Value.type "EncodingWarning"), DictEntry.mk (PyData.keyHash P (Str.ofString "FutureWarning")) (Value.str (Str.ofString "FutureWarning") 113) (Value.type "FutureWarning"), DictEntry.mk (PyData.keyHash P (Str.ofString "ImportWarning")) (Value.str (Str.ofString "ImportWarning") 114) (Value.type "ImportWarning"), DictEntry.mk (PyData.keyHash P (Str.ofString "PendingDeprecationWarning")) (Value.str (Str.ofString "PendingDeprecationWarning") 115) (Value.type "PendingDeprecationWarning"), DictEntry.mk (PyData.keyHash P (Str.ofString "ResourceWarning")) (Value.str (Str.ofString "ResourceWarning") 116) (Value.type "ResourceWarning"), DictEntry.mk (PyData.keyHash P (Str.ofString "RuntimeWarning")) (Value.str (Str.ofString "RuntimeWarning") 117) (Value.type "RuntimeWarning"), DictEntry.mk (PyData.keyHash P (Str.ofString "SyntaxWarning")) (Value.str (Str.ofString "SyntaxWarning") 118) (Value.type "SyntaxWarning"), DictEntry.mk (PyData.keyHash P (Str.ofString "UnicodeWarning")) (Value.str (Str.ofString "UnicodeWarning") 119) (Value.type "UnicodeWarning"), DictEntry.mk (PyData.keyHash P (Str.ofString "UserWarning")) (Value.str (Str.ofString "UserWarning") 120) (Value.type "UserWarning"), DictEntry.mk (PyData.keyHash P (Str.ofString "BlockingIOError")) (Value.str (Str.ofString "BlockingIOError") 121) (Value.type "BlockingIOError"), DictEntry.mk (PyData.keyHash P (Str.ofString "ChildProcessError")) (Value.str (Str.ofString "ChildProcessError") 122) (Value.type "ChildProcessError"), DictEntry.mk (PyData.keyHash P (Str.ofString "ConnectionError")) (Value.str (Str.ofString "ConnectionError") 123) (Value.type "ConnectionError"), DictEntry.mk (PyData.keyHash P (Str.ofString "FileExistsError")) (Value.str (Str.ofString "FileExistsError") 124) (Value.type "FileExistsError"), DictEntry.mk (PyData.keyHash P (Str.ofString "FileNotFoundError")) (Value.str (Str.ofString "FileNotFoundError") 125) (Value.type "FileNotFoundError"), DictEntry.mk (PyData.keyHash P (Str.ofString "InterruptedError")) (Value.str (Str.ofString "InterruptedError") 126) (Value.type "InterruptedError"), DictEntry.mk (PyData.keyHash P (Str.ofString "IsADirectoryError")) (Value.str (Str.ofString "IsADirectoryError") 127) (Value.type "IsADirectoryError"), DictEntry.mk (PyData.keyHash P (Str.ofString "NotADirectoryError")) (Value.str (Str.ofString "NotADirectoryError") 128) (Value.type "NotADirectoryError"), DictEntry.mk (PyData.keyHash P (Str.ofString "PermissionError")) (Value.str (Str.ofString "PermissionError") 129) (Value.type "PermissionError"), DictEntry.mk (PyData.keyHash P (Str.ofString "ProcessLookupError")) (Value.str (Str.ofString "ProcessLookupError") 130) (Value.type "ProcessLookupError"), DictEntry.mk (PyData.keyHash P (Str.ofString "TimeoutError")) (Value.str (Str.ofString "TimeoutError") 131) (Value.type "TimeoutError"), DictEntry.mk (PyData.keyHash P (Str.ofString "IndentationError")) (Value.str (Str.ofString "IndentationError") 132) (Value.type "IndentationError"), DictEntry.mk (PyData.keyHash P (Str.ofString "_IncompleteInputError")) (Value.str (Str.ofString "_IncompleteInputError") 133) (Value.type "_IncompleteInputError"), DictEntry.mk (PyData.keyHash P (Str.ofString "IndexError")) (Value.str (Str.ofString "IndexError") 134) (Value.type "IndexError"), DictEntry.mk (PyData.keyHash P (Str.ofString "KeyError")) (Value.str (Str.ofString "KeyError") 135) (Value.type "KeyError"), DictEntry.mk (PyData.keyHash P (Str.ofString "ModuleNotFoundError")) (Value.str (Str.ofString "ModuleNotFoundError") 136) (Value.type "ModuleNotFoundError"), DictEntry.mk (PyData.keyHash P (Str.ofString "NotImplementedError")) (Value.str (Str.ofString "NotImplementedError") 137) (Value.type "NotImplementedError"), DictEntry.mk (PyData.keyHash P (Str.ofString "PythonFinalizationError")) (Value.str (Str.ofString "PythonFinalizationError") 138) (Value.type "PythonFinalizationError"), DictEntry.mk (PyData.keyHash P (Str.ofString "RecursionError")) (Value.str (Str.ofString "RecursionError") 139) (Value.type "RecursionError"), DictEntry.mk (PyData.keyHash P (Str.ofString "UnboundLocalError")) (Value.str (Str.ofString "UnboundLocalError") 140) (Value.type "UnboundLocalError"), DictEntry.mk (PyData.keyHash P (Str.ofString "UnicodeError")) (Value.str (Str.ofString "UnicodeError") 141) (Value.type "UnicodeError"), DictEntry.mk (PyData.keyHash P (Str.ofString "BrokenPipeError")) (Value.str (Str.ofString "BrokenPipeError") 142) (Value.type "BrokenPipeError"), DictEntry.mk (PyData.keyHash P (Str.ofString "ConnectionAbortedError")) (Value.str (Str.ofString "ConnectionAbortedError") 143) (Value.type "ConnectionAbortedError"), DictEntry.mk (PyData.keyHash P (Str.ofString "ConnectionRefusedError")) (Value.str (Str.ofString "ConnectionRefusedError") 144) (Value.type "ConnectionRefusedError"), DictEntry.mk (PyData.keyHash P (Str.ofString "ConnectionResetError")) (Value.str (Str.ofString "ConnectionResetError") 145) (Value.type "ConnectionResetError"), DictEntry.mk (PyData.keyHash P (Str.ofString "TabError")) (Value.str (Str.ofString "TabError") 146) (Value.type "TabError"), DictEntry.mk (PyData.keyHash P (Str.ofString "UnicodeDecodeError")) (Value.str (Str.ofString "UnicodeDecodeError") 147) (Value.type "UnicodeDecodeError"), DictEntry.mk (PyData.keyHash P (Str.ofString "UnicodeEncodeError")) (Value.str (Str.ofString "UnicodeEncodeError") 148) (Value.type "UnicodeEncodeError"), DictEntry.mk (PyData.keyHash P (Str.ofString "UnicodeTranslateError")) (Value.str (Str.ofString "UnicodeTranslateError") 149) (Value.type "UnicodeTranslateError"), DictEntry.mk (PyData.keyHash P (Str.ofString "ExceptionGroup")) (Value.str (Str.ofString "ExceptionGroup") 150) (Value.type "ExceptionGroup"), DictEntry.mk (PyData.keyHash P (Str.ofString "EnvironmentError")) (Value.str (Str.ofString "EnvironmentError") 151) (Value.type "OSError"), DictEntry.mk (PyData.keyHash P (Str.ofString "IOError")) (Value.str (Str.ofString "IOError") 152) (Value.type "OSError"), DictEntry.mk (PyData.keyHash P (Str.ofString "open")) (Value.str (Str.ofString "open") 153) (Value.builtin "open"), DictEntry.mk (PyData.keyHash P (Str.ofString "quit")) (Value.str (Str.ofString "quit") 154) (Value.builtin "builtins.quit#opaque"), DictEntry.mk (PyData.keyHash P (Str.ofString "exit")) (Value.str (Str.ofString "exit") 155) (Value.builtin "builtins.exit#opaque"), DictEntry.mk (PyData.keyHash P (Str.ofString "copyright")) (Value.str (Str.ofString "copyright") 156) (Value.builtin "builtins.copyright#opaque"), DictEntry.mk (PyData.keyHash P (Str.ofString "credits")) (Value.str (Str.ofString "credits") 157) (Value.builtin "builtins.credits#opaque"), DictEntry.mk (PyData.keyHash P (Str.ofString "license")) (Value.str (Str.ofString "license") 158) (Value.builtin "builtins.license#opaque"), DictEntry.mk (PyData.keyHash P (Str.ofString "help")) (Value.str (Str.ofString "help") 159) (Value.builtin "builtins.help#opaque")] 159) #[] ::
    Obj.mk (Value.type "dict") none (Data.dict #[DictEntry.mk (PyData.keyHash P (Str.ofString "builtins")) (Value.str (Str.ofString "builtins") 162) (Value.ref 4), DictEntry.mk (PyData.keyHash P (Str.ofString "__main__")) (Value.str (Str.ofString "__main__") 163) (Value.ref 5)] 2) #[] ::
    Obj.mk Value.none none (Data.dict #[DictEntry.mk (PyData.keyHash P (Str.ofString "type.__subclasses__.Exception.0")) (Value.str (Str.ofString "type.__subclasses__.Exception.0") 236) (Value.int 45 0), DictEntry.mk (PyData.keyHash P (Str.ofString "type.__subclasses__.Exception.n")) (Value.str (Str.ofString "type.__subclasses__.Exception.n") 237) (Value.int 1 0)] 2) #[] ::
    Obj.mk (Value.type "dict") none (Data.dict #[DictEntry.mk (PyData.keyHash P (Str.ofString "__name__")) (Value.str (Str.ofString "__name__") 165) (Value.str (Str.ofString "lua.patterns") 240), DictEntry.mk (PyData.keyHash P (Str.ofString "__doc__")) (Value.str (Str.ofString "__doc__") 166) Value.none, DictEntry.mk (PyData.keyHash P (Str.ofString "__package__")) (Value.str (Str.ofString "__package__") 167) Value.none, DictEntry.mk (PyData.keyHash P (Str.ofString "__loader__")) (Value.str (Str.ofString "__loader__") 168) (Value.builtin "__main__.__loader__#opaque"), DictEntry.mk (PyData.keyHash P (Str.ofString "__spec__")) (Value.str (Str.ofString "__spec__") 169) Value.none, DictEntry.mk (PyData.keyHash P (Str.ofString "__annotations__")) (Value.str (Str.ofString "__annotations__") 170) (Value.ref 6), DictEntry.mk (PyData.keyHash P (Str.ofString "__builtins__")) (Value.str (Str.ofString "__builtins__") 171) (Value.ref 4), DictEntry.mk (PyData.keyHash P (Str.ofString "__file__")) (Value.str (Str.ofString "__file__") 173) (Value.str (Str.ofString "/claim/cut.py") 172), DictEntry.mk (PyData.keyHash P (Str.ofString "__cached__")) (Value.str (Str.ofString "__cached__") 174) Value.none, DictEntry.mk (PyData.keyHash P (Str.ofString "_wall")) (Value.str (Str.ofString "_wall") 193) (Value.ref 21), DictEntry.mk (PyData.keyHash P (Str.ofString "first_match")) (Value.str (Str.ofString "first_match") 206) (Value.ref 28), DictEntry.mk (PyData.keyHash P (Str.ofString "LuaError")) (Value.str (Str.ofString "LuaError") 239) (Value.ref 45), DictEntry.mk (PyData.keyHash P (Str.ofString "MOST_CAPTURES")) (Value.str (Str.ofString "MOST_CAPTURES") 243) (Value.int 32 242), DictEntry.mk (PyData.keyHash P (Str.ofString "UNFINISHED")) (Value.str (Str.ofString "UNFINISHED") 246) (Value.int (-1) 245), DictEntry.mk (PyData.keyHash P (Str.ofString "POSITION")) (Value.str (Str.ofString "POSITION") 249) (Value.int (-2) 248), DictEntry.mk (PyData.keyHash P (Str.ofString "ESCAPE")) (Value.str (Str.ofString "ESCAPE") 251) (Value.int 37 250), DictEntry.mk (PyData.keyHash P (Str.ofString "CARET")) (Value.str (Str.ofString "CARET") 253) (Value.int 94 252), DictEntry.mk (PyData.keyHash P (Str.ofString "DOLLAR")) (Value.str (Str.ofString "DOLLAR") 255) (Value.int 36 254), DictEntry.mk (PyData.keyHash P (Str.ofString "DOT")) (Value.str (Str.ofString "DOT") 257) (Value.int 46 256), DictEntry.mk (PyData.keyHash P (Str.ofString "OPEN")) (Value.str (Str.ofString "OPEN") 259) (Value.int 40 258), DictEntry.mk (PyData.keyHash P (Str.ofString "CLOSE")) (Value.str (Str.ofString "CLOSE") 261) (Value.int 41 260), DictEntry.mk (PyData.keyHash P (Str.ofString "SET_OPEN")) (Value.str (Str.ofString "SET_OPEN") 263) (Value.int 91 262), DictEntry.mk (PyData.keyHash P (Str.ofString "SET_CLOSE")) (Value.str (Str.ofString "SET_CLOSE") 265) (Value.int 93 264), DictEntry.mk (PyData.keyHash P (Str.ofString "STAR")) (Value.str (Str.ofString "STAR") 267) (Value.int 42 266), DictEntry.mk (PyData.keyHash P (Str.ofString "PLUS")) (Value.str (Str.ofString "PLUS") 269) (Value.int 43 268), DictEntry.mk (PyData.keyHash P (Str.ofString "MINUS")) (Value.str (Str.ofString "MINUS") 271) (Value.int 45 270), DictEntry.mk (PyData.keyHash P (Str.ofString "MARK")) (Value.str (Str.ofString "MARK") 273) (Value.int 63 272), DictEntry.mk (PyData.keyHash P (Str.ofString "is_lower")) (Value.str (Str.ofString "is_lower") 280) (Value.ref 55), DictEntry.mk (PyData.keyHash P (Str.ofString "is_upper")) (Value.str (Str.ofString "is_upper") 287) (Value.ref 62), DictEntry.mk (PyData.keyHash P (Str.ofString "is_alpha")) (Value.str (Str.ofString "is_alpha") 294) (Value.ref 69), DictEntry.mk (PyData.keyHash P (Str.ofString "is_digit")) (Value.str (Str.ofString "is_digit") 301) (Value.ref 76), DictEntry.mk (PyData.keyHash P (Str.ofString "is_space")) (Value.str (Str.ofString "is_space") 308) (Value.ref 83), DictEntry.mk (PyData.keyHash P (Str.ofString "is_control")) (Value.str (Str.ofString "is_control") 315) (Value.ref 90), DictEntry.mk (PyData.keyHash P (Str.ofString "is_punctuation")) (Value.str (Str.ofString "is_punctuation") 322) (Value.ref 97), DictEntry.mk (PyData.keyHash P (Str.ofString "is_hex")) (Value.str (Str.ofString "is_hex") 329) (Value.ref 104), DictEntry.mk (PyData.keyHash P (Str.ofString "in_class")) (Value.str (Str.ofString "in_class") 339) (Value.ref 111)] 36) #[] ::
    Obj.mk (Value.type "module") (some 0) Data.plain #[] ::
    Obj.mk (Value.type "module") (some 3) Data.plain #[] ::
    Obj.mk (Value.type "dict") none (Data.dict #[]) #[] ::
    Obj.mk (Value.type "tuple") none (Data.seq #[]) #[] ::
    Obj.mk Value.none none (Data.fields #[]) #[] ::
    Obj.mk (Value.type "code") none (Data.fields #[Value.str (Str.ofString "<module>") 176, Value.str (Str.ofString "<module>") 177, Value.str (Str.ofString "/claim/cut.py") 178, Value.int 1 0, Value.int 0 0, Value.int 0 0, Value.int 0 0, Value.int 0 0, Value.ref 7, Value.bool Bool.false, Value.int 175 0, Value.ref 8, Value.none, Value.none, Value.none, Value.none, Value.int 179 0, Value.int 1 0, Value.str (Str.ofString "/claim/cut.py") 180]) #[] ::
    Obj.mk (Value.type "frame") none Data.plain #[some (Value.ref 9), some (Value.ref 3), some (Value.ref 3), none, some (Value.str (Str.ofString "__main__") 164), none, some (Value.ref 0)] ::
    Obj.mk (Value.type "tuple") none (Data.seq #[]) #[] ::
    Obj.mk Value.none none (Data.fields #[Value.int 1 0, Value.int 0 0, Value.ref 20, Value.int 5 0, Value.int 0 0, Value.ref 27, Value.int 15 0, Value.int 0 0, Value.ref 34, Value.int 37 0, Value.int 0 0, Value.ref 54, Value.int 39 0, Value.int 0 0, Value.ref 61, Value.int 41 0, Value.int 0 0, Value.ref 68, Value.int 43 0, Value.int 0 0, Value.ref 75, Value.int 45 0, Value.int 0 0, Value.ref 82, Value.int 47 0, Value.int 0 0, Value.ref 89, Value.int 49 0, Value.int 0 0, Value.ref 96, Value.int 51 0, Value.int 0 0, Value.ref 103, Value.int 53 0, Value.int 0 0, Value.ref 110]) #[] ::
    Obj.mk (Value.type "code") none (Data.fields #[Value.str (Str.ofString "<module>") 182, Value.str (Str.ofString "<module>") 183, Value.str (Str.ofString "/claim/cut.py") 184, Value.int 1 0, Value.int 0 0, Value.int 0 0, Value.int 0 0, Value.int 0 0, Value.ref 11, Value.bool Bool.false, Value.int 181 0, Value.ref 12, Value.none, Value.none, Value.none, Value.none, Value.int 185 0, Value.int 1 0, Value.str (Str.ofString "/claim/cut.py") 186]) #[] ::
    Obj.mk (Value.type "frame") none Data.plain #[some (Value.ref 13), some (Value.ref 3), some (Value.ref 3), none, some (Value.str (Str.ofString "__main__") 164), none, some (Value.ref 0)] ::
    Obj.mk (Value.type "tuple") none (Data.seq #[]) #[] ::
    Obj.mk Value.none none (Data.fields #[]) #[] ::
    Obj.mk (Value.type "tuple") none (Data.seq #[Value.str (Str.ofString "k") 190]) #[] ::
    Obj.mk (Value.type "tuple") none (Data.seq #[]) #[] ::
    Obj.mk Value.none none (Data.func (FuncData.mk (Str.ofString "_wall") (Str.ofString "_wall") p21 (FuncBody.stmts b21) s21 0 [] Value.none Value.none Value.none Value.none none Value.none Value.none 0)) #[] ::
    Obj.mk (Value.type "code") none (Data.fields #[Value.str (Str.ofString "_wall") 187, Value.str (Str.ofString "_wall") 188, Value.str (Str.ofString "/claim/cut.py") 189, Value.int 1 0, Value.int 1 0, Value.int 0 0, Value.int 0 0, Value.int 3 0, Value.ref 15, Value.bool Bool.true, Value.int 181 0, Value.ref 16, Value.none, Value.ref 17, Value.ref 18, Value.ref 19, Value.int 191 0, Value.int 1 0, Value.str (Str.ofString "/claim/cut.py") 192]) #[] ::
    Obj.mk (Value.type "function") none (Data.func (FuncData.mk (Str.ofString "_wall") (Str.ofString "_wall") p21 (FuncBody.stmts b21) s21 3 [] Value.none Value.none Value.none (Value.str (Str.ofString "__main__") 164) none (Value.ref 20) Value.none 0)) #[] ::
    Obj.mk (Value.type "tuple") none (Data.seq #[]) #[] ::
    Obj.mk Value.none none (Data.fields #[]) #[] ::
    Obj.mk (Value.type "tuple") none (Data.seq #[Value.str (Str.ofString "size") 199, Value.str (Str.ofString "begin") 200, Value.str (Str.ofString "is_bound") 201, Value.str (Str.ofString "ends_at") 202, Value.str (Str.ofString "end") 203]) #[] ::
    Obj.mk (Value.type "tuple") none (Data.seq #[]) #[] ::
    Obj.mk Value.none none (Data.func (FuncData.mk (Str.ofString "first_match") (Str.ofString "first_match") p28 (FuncBody.stmts b28) s28 0 [] Value.none Value.none Value.none Value.none none Value.none Value.none 0)) #[] ::
    Obj.mk (Value.type "code") none (Data.fields #[Value.str (Str.ofString "first_match") 196, Value.str (Str.ofString "first_match") 197, Value.str (Str.ofString "/claim/cut.py") 198, Value.int 5 0, Value.int 4 0, Value.int 0 0, Value.int 0 0, Value.int 3 0, Value.ref 22, Value.bool Bool.true, Value.int 181 0, Value.ref 23, Value.none, Value.ref 24, Value.ref 25, Value.ref 26, Value.int 204 0, Value.int 5 0, Value.str (Str.ofString "/claim/cut.py") 205]) #[] ::
    Obj.mk (Value.type "function") none (Data.func (FuncData.mk (Str.ofString "first_match") (Str.ofString "first_match") p28 (FuncBody.stmts b28) s28 3 [] Value.none Value.none Value.none (Value.str (Str.ofString "lua.textcore") 194) none (Value.ref 27) Value.none 0)) #[] ::
    Obj.mk (Value.type "tuple") none (Data.seq #[Value.type "Exception"]) #[] ::
    Obj.mk (Value.type "builtin_function_or_method") none (Data.fields #[Value.builtin "type.__prepare__", Value.type "type"]) #[] ::
    Obj.mk (Value.type "dict") none (Data.dict #[DictEntry.mk (PyData.keyHash P (Str.ofString "__module__")) (Value.str (Str.ofString "__module__") 216) (Value.str (Str.ofString "lua.values") 207), DictEntry.mk (PyData.keyHash P (Str.ofString "__qualname__")) (Value.str (Str.ofString "__qualname__") 218) (Value.str (Str.ofString "LuaError") 217), DictEntry.mk (PyData.keyHash P (Str.ofString "__firstlineno__")) (Value.str (Str.ofString "__firstlineno__") 220) (Value.int 15 219), DictEntry.mk (PyData.keyHash P (Str.ofString "__init__")) (Value.str (Str.ofString "__init__") 228) (Value.ref 42), DictEntry.mk (PyData.keyHash P (Str.ofString "__static_attributes__")) (Value.str (Str.ofString "__static_attributes__") 232) (Value.ref 43)] 5) #[] ::
    Obj.mk (Value.type "tuple") none (Data.seq #[]) #[] ::
    Obj.mk Value.none none (Data.fields #[Value.int 17 0, Value.int 4 0, Value.ref 41]) #[] ::
    Obj.mk (Value.type "code") none (Data.fields #[Value.str (Str.ofString "LuaError") 211, Value.str (Str.ofString "LuaError") 212, Value.str (Str.ofString "/claim/cut.py") 213, Value.int 15 0, Value.int 0 0, Value.int 0 0, Value.int 0 0, Value.int 0 0, Value.ref 32, Value.bool Bool.false, Value.int 181 0, Value.ref 33, Value.none, Value.none, Value.none, Value.none, Value.int 214 0, Value.int 15 0, Value.str (Str.ofString "/claim/cut.py") 215]) #[] ::
    Obj.mk (Value.type "frame") none Data.plain #[some (Value.ref 34), some (Value.ref 3), some (Value.ref 31), none, some (Value.str (Str.ofString "lua.values") 207), none, some (Value.ref 0)] ::
    Obj.mk (Value.type "tuple") none (Data.seq #[]) #[] ::
    Obj.mk Value.none none (Data.fields #[]) #[] ::
    Obj.mk (Value.type "tuple") none (Data.seq #[Value.str (Str.ofString "self") 224, Value.str (Str.ofString "value") 225]) #[] ::
    Obj.mk (Value.type "tuple") none (Data.seq #[]) #[] ::
    Obj.mk Value.none none (Data.func (FuncData.mk (Str.ofString "__init__") (Str.ofString "LuaError.__init__") p42 (FuncBody.stmts b42) s42 0 [] Value.none Value.none Value.none Value.none none Value.none Value.none 0)) #[] ::
    Obj.mk (Value.type "code") none (Data.fields #[Value.str (Str.ofString "__init__") 221, Value.str (Str.ofString "LuaError.__init__") 222, Value.str (Str.ofString "/claim/cut.py") 223, Value.int 17 0, Value.int 2 0, Value.int 0 0, Value.int 0 0, Value.int 3 0, Value.ref 36, Value.bool Bool.true, Value.int 181 0, Value.ref 37, Value.none, Value.ref 38, Value.ref 39, Value.ref 40, Value.int 226 0, Value.int 17 0, Value.str (Str.ofString "/claim/cut.py") 227]) #[] ::
    Obj.mk (Value.type "function") none (Data.func (FuncData.mk (Str.ofString "__init__") (Str.ofString "LuaError.__init__") p42 (FuncBody.stmts b42) s42 3 [] Value.none Value.none Value.none (Value.str (Str.ofString "lua.values") 207) none (Value.ref 41) Value.none 0)) #[] ::
    Obj.mk (Value.type "tuple") none (Data.seq #[Value.str (Str.ofString "is_in_handler") 229, Value.str (Str.ofString "trace") 230, Value.str (Str.ofString "value") 231]) #[] ::
    Obj.mk (Value.type "dict") none (Data.dict #[DictEntry.mk (PyData.keyHash P (Str.ofString "__module__")) (Value.str (Str.ofString "__module__") 216) (Value.str (Str.ofString "lua.values") 207), DictEntry.mk (PyData.keyHash P (Str.ofString "__firstlineno__")) (Value.str (Str.ofString "__firstlineno__") 220) (Value.int 15 219), DictEntry.mk (PyData.keyHash P (Str.ofString "__init__")) (Value.str (Str.ofString "__init__") 228) (Value.ref 42), DictEntry.mk (PyData.keyHash P (Str.ofString "__static_attributes__")) (Value.str (Str.ofString "__static_attributes__") 232) (Value.ref 43), DictEntry.mk (PyData.keyHash P (Str.ofString "__weakref__")) (Value.str (Str.ofString "__weakref__") 234) (Value.ref 46), DictEntry.mk (PyData.keyHash P (Str.ofString "__doc__")) (Value.str (Str.ofString "__doc__") 235) Value.none] 3) #[] ::
    Obj.mk (Value.type "type") none (Data.cls (ClassData.mk (Str.ofString "LuaError") [Value.type "Exception"] [Value.ref 45, Value.type "Exception", Value.type "BaseException", Value.type "object"] 44 (Str.ofString "LuaError") Bool.true [] [] Bool.false none Bool.false)) #[some (Value.ref 29), none, some (Value.str (Str.ofString "LuaError") 209), some (Value.str (Str.ofString "LuaError") 217), some (Value.builtin "Exception.__new__"), some (Value.bool Bool.true)] ::
    Obj.mk (Value.type "getset_descriptor") none (Data.fields #[Value.str (Str.ofString "__weakref__") 233, Value.ref 45, Value.builtin "ExceptionGroup.__weakref__", Value.none]) #[] ::
    Obj.mk (Value.type "super") none (Data.fields #[Value.ref 45, Value.ref 45, Value.ref 45]) #[] ::
    Obj.mk (Value.type "builtin_function_or_method") none (Data.fields #[Value.builtin "object.__init_subclass__", Value.ref 45]) #[] ::
    Obj.mk (Value.type "tuple") none (Data.seq #[]) #[] ::
    Obj.mk Value.none none (Data.fields #[]) #[] ::
    Obj.mk (Value.type "tuple") none (Data.seq #[Value.str (Str.ofString "c") 277]) #[] ::
    Obj.mk (Value.type "tuple") none (Data.seq #[]) #[] ::
    Obj.mk Value.none none (Data.func (FuncData.mk (Str.ofString "is_lower") (Str.ofString "is_lower") p55 (FuncBody.stmts b55) s55 0 [] Value.none Value.none Value.none Value.none none Value.none Value.none 0)) #[] ::
    Obj.mk (Value.type "code") none (Data.fields #[Value.str (Str.ofString "is_lower") 274, Value.str (Str.ofString "is_lower") 275, Value.str (Str.ofString "/claim/cut.py") 276, Value.int 37 0, Value.int 1 0, Value.int 0 0, Value.int 0 0, Value.int 3 0, Value.ref 49, Value.bool Bool.true, Value.int 181 0, Value.ref 50, Value.none, Value.ref 51, Value.ref 52, Value.ref 53, Value.int 278 0, Value.int 37 0, Value.str (Str.ofString "/claim/cut.py") 279]) #[] ::
    Obj.mk (Value.type "function") none (Data.func (FuncData.mk (Str.ofString "is_lower") (Str.ofString "is_lower") p55 (FuncBody.stmts b55) s55 3 [] Value.none Value.none Value.none (Value.str (Str.ofString "lua.patterns") 240) none (Value.ref 54) Value.none 0)) #[] ::
    Obj.mk (Value.type "tuple") none (Data.seq #[]) #[] ::
    Obj.mk Value.none none (Data.fields #[]) #[] ::
    Obj.mk (Value.type "tuple") none (Data.seq #[Value.str (Str.ofString "c") 284]) #[] ::
    Obj.mk (Value.type "tuple") none (Data.seq #[]) #[] ::
    Obj.mk Value.none none (Data.func (FuncData.mk (Str.ofString "is_upper") (Str.ofString "is_upper") p62 (FuncBody.stmts b62) s62 0 [] Value.none Value.none Value.none Value.none none Value.none Value.none 0)) #[] ::
    Obj.mk (Value.type "code") none (Data.fields #[Value.str (Str.ofString "is_upper") 281, Value.str (Str.ofString "is_upper") 282, Value.str (Str.ofString "/claim/cut.py") 283, Value.int 39 0, Value.int 1 0, Value.int 0 0, Value.int 0 0, Value.int 3 0, Value.ref 56, Value.bool Bool.true, Value.int 181 0, Value.ref 57, Value.none, Value.ref 58, Value.ref 59, Value.ref 60, Value.int 285 0, Value.int 39 0, Value.str (Str.ofString "/claim/cut.py") 286]) #[] ::
    Obj.mk (Value.type "function") none (Data.func (FuncData.mk (Str.ofString "is_upper") (Str.ofString "is_upper") p62 (FuncBody.stmts b62) s62 3 [] Value.none Value.none Value.none (Value.str (Str.ofString "lua.patterns") 240) none (Value.ref 61) Value.none 0)) #[] ::
    Obj.mk (Value.type "tuple") none (Data.seq #[]) #[] ::
    Obj.mk Value.none none (Data.fields #[]) #[] ::
    Obj.mk (Value.type "tuple") none (Data.seq #[Value.str (Str.ofString "c") 291]) #[] ::
    Obj.mk (Value.type "tuple") none (Data.seq #[]) #[] ::
    Obj.mk Value.none none (Data.func (FuncData.mk (Str.ofString "is_alpha") (Str.ofString "is_alpha") p69 (FuncBody.stmts b69) s69 0 [] Value.none Value.none Value.none Value.none none Value.none Value.none 0)) #[] ::
    Obj.mk (Value.type "code") none (Data.fields #[Value.str (Str.ofString "is_alpha") 288, Value.str (Str.ofString "is_alpha") 289, Value.str (Str.ofString "/claim/cut.py") 290, Value.int 41 0, Value.int 1 0, Value.int 0 0, Value.int 0 0, Value.int 3 0, Value.ref 63, Value.bool Bool.true, Value.int 181 0, Value.ref 64, Value.none, Value.ref 65, Value.ref 66, Value.ref 67, Value.int 292 0, Value.int 41 0, Value.str (Str.ofString "/claim/cut.py") 293]) #[] ::
    Obj.mk (Value.type "function") none (Data.func (FuncData.mk (Str.ofString "is_alpha") (Str.ofString "is_alpha") p69 (FuncBody.stmts b69) s69 3 [] Value.none Value.none Value.none (Value.str (Str.ofString "lua.patterns") 240) none (Value.ref 68) Value.none 0)) #[] ::
    Obj.mk (Value.type "tuple") none (Data.seq #[]) #[] ::
    Obj.mk Value.none none (Data.fields #[]) #[] ::
    Obj.mk (Value.type "tuple") none (Data.seq #[Value.str (Str.ofString "c") 298]) #[] ::
    Obj.mk (Value.type "tuple") none (Data.seq #[]) #[] ::
    Obj.mk Value.none none (Data.func (FuncData.mk (Str.ofString "is_digit") (Str.ofString "is_digit") p76 (FuncBody.stmts b76) s76 0 [] Value.none Value.none Value.none Value.none none Value.none Value.none 0)) #[] ::
    Obj.mk (Value.type "code") none (Data.fields #[Value.str (Str.ofString "is_digit") 295, Value.str (Str.ofString "is_digit") 296, Value.str (Str.ofString "/claim/cut.py") 297, Value.int 43 0, Value.int 1 0, Value.int 0 0, Value.int 0 0, Value.int 3 0, Value.ref 70, Value.bool Bool.true, Value.int 181 0, Value.ref 71, Value.none, Value.ref 72, Value.ref 73, Value.ref 74, Value.int 299 0, Value.int 43 0, Value.str (Str.ofString "/claim/cut.py") 300]) #[] ::
    Obj.mk (Value.type "function") none (Data.func (FuncData.mk (Str.ofString "is_digit") (Str.ofString "is_digit") p76 (FuncBody.stmts b76) s76 3 [] Value.none Value.none Value.none (Value.str (Str.ofString "lua.patterns") 240) none (Value.ref 75) Value.none 0)) #[] ::
    Obj.mk (Value.type "tuple") none (Data.seq #[]) #[] ::
    Obj.mk Value.none none (Data.fields #[]) #[] ::
    Obj.mk (Value.type "tuple") none (Data.seq #[Value.str (Str.ofString "c") 305]) #[] ::
    Obj.mk (Value.type "tuple") none (Data.seq #[]) #[] ::
    Obj.mk Value.none none (Data.func (FuncData.mk (Str.ofString "is_space") (Str.ofString "is_space") p83 (FuncBody.stmts b83) s83 0 [] Value.none Value.none Value.none Value.none none Value.none Value.none 0)) #[] ::
    Obj.mk (Value.type "code") none (Data.fields #[Value.str (Str.ofString "is_space") 302, Value.str (Str.ofString "is_space") 303, Value.str (Str.ofString "/claim/cut.py") 304, Value.int 45 0, Value.int 1 0, Value.int 0 0, Value.int 0 0, Value.int 3 0, Value.ref 77, Value.bool Bool.true, Value.int 181 0, Value.ref 78, Value.none, Value.ref 79, Value.ref 80, Value.ref 81, Value.int 306 0, Value.int 45 0, Value.str (Str.ofString "/claim/cut.py") 307]) #[] ::
    Obj.mk (Value.type "function") none (Data.func (FuncData.mk (Str.ofString "is_space") (Str.ofString "is_space") p83 (FuncBody.stmts b83) s83 3 [] Value.none Value.none Value.none (Value.str (Str.ofString "lua.patterns") 240) none (Value.ref 82) Value.none 0)) #[] ::
    Obj.mk (Value.type "tuple") none (Data.seq #[]) #[] ::
    Obj.mk Value.none none (Data.fields #[]) #[] ::
    Obj.mk (Value.type "tuple") none (Data.seq #[Value.str (Str.ofString "c") 312]) #[] ::
    Obj.mk (Value.type "tuple") none (Data.seq #[]) #[] ::
    Obj.mk Value.none none (Data.func (FuncData.mk (Str.ofString "is_control") (Str.ofString "is_control") p90 (FuncBody.stmts b90) s90 0 [] Value.none Value.none Value.none Value.none none Value.none Value.none 0)) #[] ::
    Obj.mk (Value.type "code") none (Data.fields #[Value.str (Str.ofString "is_control") 309, Value.str (Str.ofString "is_control") 310, Value.str (Str.ofString "/claim/cut.py") 311, Value.int 47 0, Value.int 1 0, Value.int 0 0, Value.int 0 0, Value.int 3 0, Value.ref 84, Value.bool Bool.true, Value.int 181 0, Value.ref 85, Value.none, Value.ref 86, Value.ref 87, Value.ref 88, Value.int 313 0, Value.int 47 0, Value.str (Str.ofString "/claim/cut.py") 314]) #[] ::
    Obj.mk (Value.type "function") none (Data.func (FuncData.mk (Str.ofString "is_control") (Str.ofString "is_control") p90 (FuncBody.stmts b90) s90 3 [] Value.none Value.none Value.none (Value.str (Str.ofString "lua.patterns") 240) none (Value.ref 89) Value.none 0)) #[] ::
    Obj.mk (Value.type "tuple") none (Data.seq #[]) #[] ::
    Obj.mk Value.none none (Data.fields #[]) #[] ::
    Obj.mk (Value.type "tuple") none (Data.seq #[Value.str (Str.ofString "c") 319]) #[] ::
    Obj.mk (Value.type "tuple") none (Data.seq #[]) #[] ::
    Obj.mk Value.none none (Data.func (FuncData.mk (Str.ofString "is_punctuation") (Str.ofString "is_punctuation") p97 (FuncBody.stmts b97) s97 0 [] Value.none Value.none Value.none Value.none none Value.none Value.none 0)) #[] ::
    Obj.mk (Value.type "code") none (Data.fields #[Value.str (Str.ofString "is_punctuation") 316, Value.str (Str.ofString "is_punctuation") 317, Value.str (Str.ofString "/claim/cut.py") 318, Value.int 49 0, Value.int 1 0, Value.int 0 0, Value.int 0 0, Value.int 3 0, Value.ref 91, Value.bool Bool.true, Value.int 181 0, Value.ref 92, Value.none, Value.ref 93, Value.ref 94, Value.ref 95, Value.int 320 0, Value.int 49 0, Value.str (Str.ofString "/claim/cut.py") 321]) #[] ::
    Obj.mk (Value.type "function") none (Data.func (FuncData.mk (Str.ofString "is_punctuation") (Str.ofString "is_punctuation") p97 (FuncBody.stmts b97) s97 3 [] Value.none Value.none Value.none (Value.str (Str.ofString "lua.patterns") 240) none (Value.ref 96) Value.none 0)) #[] ::
    Obj.mk (Value.type "tuple") none (Data.seq #[]) #[] ::
    Obj.mk Value.none none (Data.fields #[]) #[] ::
    Obj.mk (Value.type "tuple") none (Data.seq #[Value.str (Str.ofString "c") 326]) #[] ::
    Obj.mk (Value.type "tuple") none (Data.seq #[]) #[] ::
    Obj.mk Value.none none (Data.func (FuncData.mk (Str.ofString "is_hex") (Str.ofString "is_hex") p104 (FuncBody.stmts b104) s104 0 [] Value.none Value.none Value.none Value.none none Value.none Value.none 0)) #[] ::
    Obj.mk (Value.type "code") none (Data.fields #[Value.str (Str.ofString "is_hex") 323, Value.str (Str.ofString "is_hex") 324, Value.str (Str.ofString "/claim/cut.py") 325, Value.int 51 0, Value.int 1 0, Value.int 0 0, Value.int 0 0, Value.int 3 0, Value.ref 98, Value.bool Bool.true, Value.int 181 0, Value.ref 99, Value.none, Value.ref 100, Value.ref 101, Value.ref 102, Value.int 327 0, Value.int 51 0, Value.str (Str.ofString "/claim/cut.py") 328]) #[] ::
    Obj.mk (Value.type "function") none (Data.func (FuncData.mk (Str.ofString "is_hex") (Str.ofString "is_hex") p104 (FuncBody.stmts b104) s104 3 [] Value.none Value.none Value.none (Value.str (Str.ofString "lua.patterns") 240) none (Value.ref 103) Value.none 0)) #[] ::
    Obj.mk (Value.type "tuple") none (Data.seq #[]) #[] ::
    Obj.mk Value.none none (Data.fields #[]) #[] ::
    Obj.mk (Value.type "tuple") none (Data.seq #[Value.str (Str.ofString "c") 333, Value.str (Str.ofString "letter") 334, Value.str (Str.ofString "low") 335, Value.str (Str.ofString "found") 336]) #[] ::
    Obj.mk (Value.type "tuple") none (Data.seq #[]) #[] ::
    Obj.mk Value.none none (Data.func (FuncData.mk (Str.ofString "in_class") (Str.ofString "in_class") p111 (FuncBody.stmts b111) s111 0 [] Value.none Value.none Value.none Value.none none Value.none Value.none 0)) #[] ::
    Obj.mk (Value.type "code") none (Data.fields #[Value.str (Str.ofString "in_class") 330, Value.str (Str.ofString "in_class") 331, Value.str (Str.ofString "/claim/cut.py") 332, Value.int 53 0, Value.int 2 0, Value.int 0 0, Value.int 0 0, Value.int 3 0, Value.ref 105, Value.bool Bool.true, Value.int 181 0, Value.ref 106, Value.none, Value.ref 107, Value.ref 108, Value.ref 109, Value.int 337 0, Value.int 53 0, Value.str (Str.ofString "/claim/cut.py") 338]) #[] ::
    Obj.mk (Value.type "function") none (Data.func (FuncData.mk (Str.ofString "in_class") (Str.ofString "in_class") p111 (FuncBody.stmts b111) s111 3 [] Value.none Value.none Value.none (Value.str (Str.ofString "lua.patterns") 240) none (Value.ref 110) Value.none 0)) #[] :: [])) (Life.mk [] [] [] 0 [] [] false #[] [] 0 false false false 0 [2000, 10, 10] false 0 true [] [] 0 false)
noncomputable def H2 : Params → Heap := by
  refine (?f : (p21 : Arguments) → (b21 : List Stmt) → (s21 : Scope) → topParts 0 = some (p21, b21, s21) →
    (p28 : Arguments) → (b28 : List Stmt) → (s28 : Scope) → topParts 2 = some (p28, b28, s28) →
    (p42 : Arguments) → (b42 : List Stmt) → (s42 : Scope) → methParts 4 0 = some (p42, b42, s42) →
    (p55 : Arguments) → (b55 : List Stmt) → (s55 : Scope) → topParts 21 = some (p55, b55, s55) →
    (p62 : Arguments) → (b62 : List Stmt) → (s62 : Scope) → topParts 22 = some (p62, b62, s62) →
    (p69 : Arguments) → (b69 : List Stmt) → (s69 : Scope) → topParts 23 = some (p69, b69, s69) →
    (p76 : Arguments) → (b76 : List Stmt) → (s76 : Scope) → topParts 24 = some (p76, b76, s76) →
    (p83 : Arguments) → (b83 : List Stmt) → (s83 : Scope) → topParts 25 = some (p83, b83, s83) →
    (p90 : Arguments) → (b90 : List Stmt) → (s90 : Scope) → topParts 26 = some (p90, b90, s90) →
    (p97 : Arguments) → (b97 : List Stmt) → (s97 : Scope) → topParts 27 = some (p97, b97, s97) →
    (p104 : Arguments) → (b104 : List Stmt) → (s104 : Scope) → topParts 28 = some (p104, b104, s104) →
    (p111 : Arguments) → (b111 : List Stmt) → (s111 : Scope) → topParts 29 = some (p111, b111, s111) →
    (p126 : Arguments) → (b126 : List Stmt) → (s126 : Scope) → methParts 30 0 = some (p126, b126, s126) →
    (p133 : Arguments) → (b133 : List Stmt) → (s133 : Scope) → methParts 30 1 = some (p133, b133, s133) →
    (p140 : Arguments) → (b140 : List Stmt) → (s140 : Scope) → methParts 30 2 = some (p140, b140, s140) →
    (p147 : Arguments) → (b147 : List Stmt) → (s147 : Scope) → methParts 30 3 = some (p147, b147, s147) →
    (p154 : Arguments) → (b154 : List Stmt) → (s154 : Scope) → methParts 30 4 = some (p154, b154, s154) →
    (p161 : Arguments) → (b161 : List Stmt) → (s161 : Scope) → methParts 30 5 = some (p161, b161, s161) →
    (p168 : Arguments) → (b168 : List Stmt) → (s168 : Scope) → methParts 30 6 = some (p168, b168, s168) →
    (p175 : Arguments) → (b175 : List Stmt) → (s175 : Scope) → methParts 30 7 = some (p175, b175, s175) →
    (p182 : Arguments) → (b182 : List Stmt) → (s182 : Scope) → methParts 30 8 = some (p182, b182, s182) →
    (p189 : Arguments) → (b189 : List Stmt) → (s189 : Scope) → methParts 30 9 = some (p189, b189, s189) →
    (p196 : Arguments) → (b196 : List Stmt) → (s196 : Scope) → methParts 30 10 = some (p196, b196, s196) →
    (p203 : Arguments) → (b203 : List Stmt) → (s203 : Scope) → methParts 30 11 = some (p203, b203, s203) →
    (p210 : Arguments) → (b210 : List Stmt) → (s210 : Scope) → methParts 30 12 = some (p210, b210, s210) →
    (p217 : Arguments) → (b217 : List Stmt) → (s217 : Scope) → methParts 30 13 = some (p217, b217, s217) →
    (p224 : Arguments) → (b224 : List Stmt) → (s224 : Scope) → methParts 30 14 = some (p224, b224, s224) →
    (p231 : Arguments) → (b231 : List Stmt) → (s231 : Scope) → methParts 30 15 = some (p231, b231, s231) →
    (p238 : Arguments) → (b238 : List Stmt) → (s238 : Scope) → methParts 30 16 = some (p238, b238, s238) →
    (p245 : Arguments) → (b245 : List Stmt) → (s245 : Scope) → methParts 30 17 = some (p245, b245, s245) →
    (p252 : Arguments) → (b252 : List Stmt) → (s252 : Scope) → methParts 30 18 = some (p252, b252, s252) →
    (p257 : Arguments) → (b257 : List Stmt) → (s257 : Scope) → methParts 30 19 = some (p257, b257, s257) →
    (p264 : Arguments) → (b264 : List Stmt) → (s264 : Scope) → methParts 30 20 = some (p264, b264, s264) →
    Params → Heap) _ _ _ rfl _ _ _ rfl _ _ _ rfl _ _ _ rfl _ _ _ rfl _ _ _ rfl _ _ _ rfl _ _ _ rfl _ _ _ rfl _ _ _ rfl _ _ _ rfl _ _ _ rfl _ _ _ rfl _ _ _ rfl _ _ _ rfl _ _ _ rfl _ _ _ rfl _ _ _ rfl _ _ _ rfl _ _ _ rfl _ _ _ rfl _ _ _ rfl _ _ _ rfl _ _ _ rfl _ _ _ rfl _ _ _ rfl _ _ _ rfl _ _ _ rfl _ _ _ rfl _ _ _ rfl _ _ _ rfl _ _ _ rfl _ _ _ rfl
  exact fun p21 b21 s21 _ p28 b28 s28 _ p42 b42 s42 _ p55 b55 s55 _ p62 b62 s62 _ p69 b69 s69 _ p76 b76 s76 _ p83 b83 s83 _ p90 b90 s90 _ p97 b97 s97 _ p104 b104 s104 _ p111 b111 s111 _ p126 b126 s126 _ p133 b133 s133 _ p140 b140 s140 _ p147 b147 s147 _ p154 b154 s154 _ p161 b161 s161 _ p168 b168 s168 _ p175 b175 s175 _ p182 b182 s182 _ p189 b189 s189 _ p196 b196 s196 _ p203 b203 s203 _ p210 b210 s210 _ p217 b217 s217 _ p224 b224 s224 _ p231 b231 s231 _ p238 b238 s238 _ p245 b245 s245 _ p252 b252 s252 _ p257 b257 s257 _ p264 b264 s264 _ P => Heap.mk (Array.mk (
    Obj.mk (Value.type "dict") none (Data.dict #[DictEntry.mk (PyData.keyHash P (Str.ofString "__name__")) (Value.str (Str.ofString "__name__") 1) (Value.str (Str.ofString "builtins") 160), DictEntry.mk (PyData.keyHash P (Str.ofString "__doc__")) (Value.str (Str.ofString "__doc__") 2) (Value.builtin "builtins.__doc__:str#opaque"), DictEntry.mk (PyData.keyHash P (Str.ofString "__package__")) (Value.str (Str.ofString "__package__") 3) (Value.builtin "builtins.__package__:str#opaque"), DictEntry.mk (PyData.keyHash P (Str.ofString "__loader__")) (Value.str (Str.ofString "__loader__") 4) (Value.builtin "builtins.__loader__:shared#opaque"), DictEntry.mk (PyData.keyHash P (Str.ofString "__spec__")) (Value.str (Str.ofString "__spec__") 5) (Value.builtin "builtins.__spec__#opaque"), DictEntry.mk (PyData.keyHash P (Str.ofString "__build_class__")) (Value.str (Str.ofString "__build_class__") 6) (Value.builtin "__build_class__"), DictEntry.mk (PyData.keyHash P (Str.ofString "__import__")) (Value.str (Str.ofString "__import__") 7) (Value.builtin "__import__"), DictEntry.mk (PyData.keyHash P (Str.ofString "abs")) (Value.str (Str.ofString "abs") 8) (Value.builtin "abs"), DictEntry.mk (PyData.keyHash P (Str.ofString "all")) (Value.str (Str.ofString "all") 9) (Value.builtin "all"), DictEntry.mk (PyData.keyHash P (Str.ofString "any")) (Value.str (Str.ofString "any") 10) (Value.builtin "any"), DictEntry.mk (PyData.keyHash P (Str.ofString "ascii")) (Value.str (Str.ofString "ascii") 11) (Value.builtin "ascii"), DictEntry.mk (PyData.keyHash P (Str.ofString "bin")) (Value.str (Str.ofString "bin") 12) (Value.builtin "bin"), DictEntry.mk (PyData.keyHash P (Str.ofString "breakpoint")) (Value.str (Str.ofString "breakpoint") 13) (Value.builtin "breakpoint"), DictEntry.mk (PyData.keyHash P (Str.ofString "callable")) (Value.str (Str.ofString "callable") 14) (Value.builtin "callable"), DictEntry.mk (PyData.keyHash P (Str.ofString "chr")) (Value.str (Str.ofString "chr") 15) (Value.builtin "chr"), DictEntry.mk (PyData.keyHash P (Str.ofString "compile")) (Value.str (Str.ofString "compile") 16) (Value.builtin "compile"), DictEntry.mk (PyData.keyHash P (Str.ofString "delattr")) (Value.str (Str.ofString "delattr") 17) (Value.builtin "delattr"), DictEntry.mk (PyData.keyHash P (Str.ofString "dir")) (Value.str (Str.ofString "dir") 18) (Value.builtin "dir"), DictEntry.mk (PyData.keyHash P (Str.ofString "divmod")) (Value.str (Str.ofString "divmod") 19) (Value.builtin "divmod"), DictEntry.mk (PyData.keyHash P (Str.ofString "eval")) (Value.str (Str.ofString "eval") 20) (Value.builtin "eval"), DictEntry.mk (PyData.keyHash P (Str.ofString "exec")) (Value.str (Str.ofString "exec") 21) (Value.builtin "exec"), DictEntry.mk (PyData.keyHash P (Str.ofString "format")) (Value.str (Str.ofString "format") 22) (Value.builtin "format"), DictEntry.mk (PyData.keyHash P (Str.ofString "getattr")) (Value.str (Str.ofString "getattr") 23) (Value.builtin "getattr"), DictEntry.mk (PyData.keyHash P (Str.ofString "globals")) (Value.str (Str.ofString "globals") 24) (Value.builtin "globals"), DictEntry.mk (PyData.keyHash P (Str.ofString "hasattr")) (Value.str (Str.ofString "hasattr") 25) (Value.builtin "hasattr"), DictEntry.mk (PyData.keyHash P (Str.ofString "hash")) (Value.str (Str.ofString "hash") 26) (Value.builtin "hash"), DictEntry.mk (PyData.keyHash P (Str.ofString "hex")) (Value.str (Str.ofString "hex") 27) (Value.builtin "hex"), DictEntry.mk (PyData.keyHash P (Str.ofString "id")) (Value.str (Str.ofString "id") 28) (Value.builtin "id"), DictEntry.mk (PyData.keyHash P (Str.ofString "input")) (Value.str (Str.ofString "input") 29) (Value.builtin "input"), DictEntry.mk (PyData.keyHash P (Str.ofString "isinstance")) (Value.str (Str.ofString "isinstance") 30) (Value.builtin "isinstance"), DictEntry.mk (PyData.keyHash P (Str.ofString "issubclass")) (Value.str (Str.ofString "issubclass") 31) (Value.builtin "issubclass"), DictEntry.mk (PyData.keyHash P (Str.ofString "iter")) (Value.str (Str.ofString "iter") 32) (Value.builtin "iter"), DictEntry.mk (PyData.keyHash P (Str.ofString "aiter")) (Value.str (Str.ofString "aiter") 33) (Value.builtin "aiter"), DictEntry.mk (PyData.keyHash P (Str.ofString "len")) (Value.str (Str.ofString "len") 34) (Value.builtin "len"), DictEntry.mk (PyData.keyHash P (Str.ofString "locals")) (Value.str (Str.ofString "locals") 35) (Value.builtin "locals"), DictEntry.mk (PyData.keyHash P (Str.ofString "max")) (Value.str (Str.ofString "max") 36) (Value.builtin "max"), DictEntry.mk (PyData.keyHash P (Str.ofString "min")) (Value.str (Str.ofString "min") 37) (Value.builtin "min"), DictEntry.mk (PyData.keyHash P (Str.ofString "next")) (Value.str (Str.ofString "next") 38) (Value.builtin "next"), DictEntry.mk (PyData.keyHash P (Str.ofString "anext")) (Value.str (Str.ofString "anext") 39) (Value.builtin "anext"), DictEntry.mk (PyData.keyHash P (Str.ofString "oct")) (Value.str (Str.ofString "oct") 40) (Value.builtin "oct"), DictEntry.mk (PyData.keyHash P (Str.ofString "ord")) (Value.str (Str.ofString "ord") 41) (Value.builtin "ord"), DictEntry.mk (PyData.keyHash P (Str.ofString "pow")) (Value.str (Str.ofString "pow") 42) (Value.builtin "pow"), DictEntry.mk (PyData.keyHash P (Str.ofString "print")) (Value.str (Str.ofString "print") 43) (Value.builtin "print"), DictEntry.mk (PyData.keyHash P (Str.ofString "repr")) (Value.str (Str.ofString "repr") 44) (Value.builtin "repr"), DictEntry.mk (PyData.keyHash P (Str.ofString "round")) (Value.str (Str.ofString "round") 45) (Value.builtin "round"), DictEntry.mk (PyData.keyHash P (Str.ofString "setattr")) (Value.str (Str.ofString "setattr") 46) (Value.builtin "setattr"), DictEntry.mk (PyData.keyHash P (Str.ofString "sorted")) (Value.str (Str.ofString "sorted") 47) (Value.builtin "sorted"), DictEntry.mk (PyData.keyHash P (Str.ofString "sum")) (Value.str (Str.ofString "sum") 48) (Value.builtin "sum"), DictEntry.mk (PyData.keyHash P (Str.ofString "vars")) (Value.str (Str.ofString "vars") 49) (Value.builtin "vars"), DictEntry.mk (PyData.keyHash P (Str.ofString "None")) (Value.str (Str.ofString "None") 50) Value.none, DictEntry.mk (PyData.keyHash P (Str.ofString "Ellipsis")) (Value.str (Str.ofString "Ellipsis") 51) Value.ellipsis, DictEntry.mk (PyData.keyHash P (Str.ofString "NotImplemented")) (Value.str (Str.ofString "NotImplemented") 52) Value.notImplemented, DictEntry.mk (PyData.keyHash P (Str.ofString "False")) (Value.str (Str.ofString "False") 53) (Value.bool Bool.false), DictEntry.mk (PyData.keyHash P (Str.ofString "True")) (Value.str (Str.ofString "True") 54) (Value.bool Bool.true), DictEntry.mk (PyData.keyHash P (Str.ofString "bool")) (Value.str (Str.ofString "bool") 55) (Value.type "bool"), DictEntry.mk (PyData.keyHash P (Str.ofString "memoryview")) (Value.str (Str.ofString "memoryview") 56) (Value.type "memoryview"), DictEntry.mk (PyData.keyHash P (Str.ofString "bytearray")) (Value.str (Str.ofString "bytearray") 57) (Value.type "bytearray"), DictEntry.mk (PyData.keyHash P (Str.ofString "bytes")) (Value.str (Str.ofString "bytes") 58) (Value.type "bytes"), DictEntry.mk (PyData.keyHash P (Str.ofString "classmethod")) (Value.str (Str.ofString "classmethod") 59) (Value.type "classmethod"), DictEntry.mk (PyData.keyHash P (Str.ofString "complex")) (Value.str (Str.ofString "complex") 60) (Value.type "complex"), DictEntry.mk (PyData.keyHash P (Str.ofString "dict")) (Value.str (Str.ofString "dict") 61) (Value.type "dict"), DictEntry.mk (PyData.keyHash P (Str.ofString "enumerate")) (Value.str (Str.ofString "enumerate") 62) (Value.type "enumerate"), DictEntry.mk (PyData.keyHash P (Str.ofString "filter")) (Value.str (Str.ofString "filter") 63) (Value.type "filter"), DictEntry.mk (PyData.keyHash P (Str.ofString "float")) (Value.str (Str.ofString "float") 64) (Value.type "float"), DictEntry.mk (PyData.keyHash P (Str.ofString "frozenset")) (Value.str (Str.ofString "frozenset") 65) (Value.type "frozenset"), DictEntry.mk (PyData.keyHash P (Str.ofString "property")) (Value.str (Str.ofString "property") 66) (Value.type "property"), DictEntry.mk (PyData.keyHash P (Str.ofString "int")) (Value.str (Str.ofString "int") 67) (Value.type "int"), DictEntry.mk (PyData.keyHash P (Str.ofString "list")) (Value.str (Str.ofString "list") 68) (Value.type "list"), DictEntry.mk (PyData.keyHash P (Str.ofString "map")) (Value.str (Str.ofString "map") 69) (Value.type "map"), DictEntry.mk (PyData.keyHash P (Str.ofString "object")) (Value.str (Str.ofString "object") 70) (Value.type "object"), DictEntry.mk (PyData.keyHash P (Str.ofString "range")) (Value.str (Str.ofString "range") 71) (Value.type "range"), DictEntry.mk (PyData.keyHash P (Str.ofString "reversed")) (Value.str (Str.ofString "reversed") 72) (Value.type "reversed"), DictEntry.mk (PyData.keyHash P (Str.ofString "set")) (Value.str (Str.ofString "set") 73) (Value.type "set"), DictEntry.mk (PyData.keyHash P (Str.ofString "slice")) (Value.str (Str.ofString "slice") 74) (Value.type "slice"), DictEntry.mk (PyData.keyHash P (Str.ofString "staticmethod")) (Value.str (Str.ofString "staticmethod") 75) (Value.type "staticmethod"), DictEntry.mk (PyData.keyHash P (Str.ofString "str")) (Value.str (Str.ofString "str") 76) (Value.type "str"), DictEntry.mk (PyData.keyHash P (Str.ofString "super")) (Value.str (Str.ofString "super") 77) (Value.type "super"), DictEntry.mk (PyData.keyHash P (Str.ofString "tuple")) (Value.str (Str.ofString "tuple") 78) (Value.type "tuple"), DictEntry.mk (PyData.keyHash P (Str.ofString "type")) (Value.str (Str.ofString "type") 79) (Value.type "type"), DictEntry.mk (PyData.keyHash P (Str.ofString "zip")) (Value.str (Str.ofString "zip") 80) (Value.type "zip"), DictEntry.mk (PyData.keyHash P (Str.ofString "__debug__")) (Value.str (Str.ofString "__debug__") 81) (Value.bool Bool.true), DictEntry.mk (PyData.keyHash P (Str.ofString "BaseException")) (Value.str (Str.ofString "BaseException") 82) (Value.type "BaseException"), DictEntry.mk (PyData.keyHash P (Str.ofString "BaseExceptionGroup")) (Value.str (Str.ofString "BaseExceptionGroup") 83) (Value.type "BaseExceptionGroup"), DictEntry.mk (PyData.keyHash P (Str.ofString "Exception")) (Value.str (Str.ofString "Exception") 84) (Value.type "Exception"), DictEntry.mk (PyData.keyHash P (Str.ofString "GeneratorExit")) (Value.str (Str.ofString "GeneratorExit") 85) (Value.type "GeneratorExit"), DictEntry.mk (PyData.keyHash P (Str.ofString "KeyboardInterrupt")) (Value.str (Str.ofString "KeyboardInterrupt") 86) (Value.type "KeyboardInterrupt"), DictEntry.mk (PyData.keyHash P (Str.ofString "SystemExit")) (Value.str (Str.ofString "SystemExit") 87) (Value.type "SystemExit"), DictEntry.mk (PyData.keyHash P (Str.ofString "ArithmeticError")) (Value.str (Str.ofString "ArithmeticError") 88) (Value.type "ArithmeticError"), DictEntry.mk (PyData.keyHash P (Str.ofString "AssertionError")) (Value.str (Str.ofString "AssertionError") 89) (Value.type "AssertionError"), DictEntry.mk (PyData.keyHash P (Str.ofString "AttributeError")) (Value.str (Str.ofString "AttributeError") 90) (Value.type "AttributeError"), DictEntry.mk (PyData.keyHash P (Str.ofString "BufferError")) (Value.str (Str.ofString "BufferError") 91) (Value.type "BufferError"), DictEntry.mk (PyData.keyHash P (Str.ofString "EOFError")) (Value.str (Str.ofString "EOFError") 92) (Value.type "EOFError"), DictEntry.mk (PyData.keyHash P (Str.ofString "ImportError")) (Value.str (Str.ofString "ImportError") 93) (Value.type "ImportError"), DictEntry.mk (PyData.keyHash P (Str.ofString "LookupError")) (Value.str (Str.ofString "LookupError") 94) (Value.type "LookupError"), DictEntry.mk (PyData.keyHash P (Str.ofString "MemoryError")) (Value.str (Str.ofString "MemoryError") 95) (Value.type "MemoryError"), DictEntry.mk (PyData.keyHash P (Str.ofString "NameError")) (Value.str (Str.ofString "NameError") 96) (Value.type "NameError"), DictEntry.mk (PyData.keyHash P (Str.ofString "OSError")) (Value.str (Str.ofString "OSError") 97) (Value.type "OSError"), DictEntry.mk (PyData.keyHash P (Str.ofString "ReferenceError")) (Value.str (Str.ofString "ReferenceError") 98) (Value.type "ReferenceError"), DictEntry.mk (PyData.keyHash P (Str.ofString "RuntimeError")) (Value.str (Str.ofString "RuntimeError") 99) (Value.type "RuntimeError"), DictEntry.mk (PyData.keyHash P (Str.ofString "StopAsyncIteration")) (Value.str (Str.ofString "StopAsyncIteration") 100) (Value.type "StopAsyncIteration"), DictEntry.mk (PyData.keyHash P (Str.ofString "StopIteration")) (Value.str (Str.ofString "StopIteration") 101) (Value.type "StopIteration"), DictEntry.mk (PyData.keyHash P (Str.ofString "SyntaxError")) (Value.str (Str.ofString "SyntaxError") 102) (Value.type "SyntaxError"), DictEntry.mk (PyData.keyHash P (Str.ofString "SystemError")) (Value.str (Str.ofString "SystemError") 103) (Value.type "SystemError"), DictEntry.mk (PyData.keyHash P (Str.ofString "TypeError")) (Value.str (Str.ofString "TypeError") 104) (Value.type "TypeError"), DictEntry.mk (PyData.keyHash P (Str.ofString "ValueError")) (Value.str (Str.ofString "ValueError") 105) (Value.type "ValueError"), DictEntry.mk (PyData.keyHash P (Str.ofString "Warning")) (Value.str (Str.ofString "Warning") 106) (Value.type "Warning"), DictEntry.mk (PyData.keyHash P (Str.ofString "FloatingPointError")) (Value.str (Str.ofString "FloatingPointError") 107) (Value.type "FloatingPointError"), DictEntry.mk (PyData.keyHash P (Str.ofString "OverflowError")) (Value.str (Str.ofString "OverflowError") 108) (Value.type "OverflowError"), DictEntry.mk (PyData.keyHash P (Str.ofString "ZeroDivisionError")) (Value.str (Str.ofString "ZeroDivisionError") 109) (Value.type "ZeroDivisionError"), DictEntry.mk (PyData.keyHash P (Str.ofString "BytesWarning")) (Value.str (Str.ofString "BytesWarning") 110) (Value.type "BytesWarning"), DictEntry.mk (PyData.keyHash P (Str.ofString "DeprecationWarning")) (Value.str (Str.ofString "DeprecationWarning") 111) (Value.type "DeprecationWarning"), DictEntry.mk (PyData.keyHash P (Str.ofString "EncodingWarning")) (Value.str (Str.ofString "EncodingWarning") 112) (Value.type "EncodingWarning"), DictEntry.mk (PyData.keyHash P (Str.ofString "FutureWarning")) (Value.str (Str.ofString "FutureWarning") 113) (Value.type "FutureWarning"), DictEntry.mk (PyData.keyHash P (Str.ofString "ImportWarning")) (Value.str (Str.ofString "ImportWarning") 114) (Value.type "ImportWarning"), DictEntry.mk (PyData.keyHash P (Str.ofString "PendingDeprecationWarning")) (Value.str (Str.ofString "PendingDeprecationWarning") 115) (Value.type "PendingDeprecationWarning"), DictEntry.mk (PyData.keyHash P (Str.ofString "ResourceWarning")) (Value.str (Str.ofString "ResourceWarning") 116) (Value.type "ResourceWarning"), DictEntry.mk (PyData.keyHash P (Str.ofString "RuntimeWarning")) (Value.str (Str.ofString "RuntimeWarning") 117) (Value.type "RuntimeWarning"), DictEntry.mk (PyData.keyHash P (Str.ofString "SyntaxWarning")) (Value.str (Str.ofString "SyntaxWarning") 118) (Value.type "SyntaxWarning"), DictEntry.mk (PyData.keyHash P (Str.ofString "UnicodeWarning")) (Value.str (Str.ofString "UnicodeWarning") 119) (Value.type "UnicodeWarning"), DictEntry.mk (PyData.keyHash P (Str.ofString "UserWarning")) (Value.str (Str.ofString "UserWarning") 120) (Value.type "UserWarning"), DictEntry.mk (PyData.keyHash P (Str.ofString "BlockingIOError")) (Value.str (Str.ofString "BlockingIOError") 121) (Value.type "BlockingIOError"), DictEntry.mk (PyData.keyHash P (Str.ofString "ChildProcessError")) (Value.str (Str.ofString "ChildProcessError") 122) (Value.type "ChildProcessError"), DictEntry.mk (PyData.keyHash P (Str.ofString "ConnectionError")) (Value.str (Str.ofString "ConnectionError") 123) (Value.type "ConnectionError"), DictEntry.mk (PyData.keyHash P (Str.ofString "FileExistsError")) (Value.str (Str.ofString "FileExistsError") 124) (Value.type "FileExistsError"), DictEntry.mk (PyData.keyHash P (Str.ofString "FileNotFoundError")) (Value.str (Str.ofString "FileNotFoundError") 125) (Value.type "FileNotFoundError"), DictEntry.mk (PyData.keyHash P (Str.ofString "InterruptedError")) (Value.str (Str.ofString "InterruptedError") 126) (Value.type "InterruptedError"), DictEntry.mk (PyData.keyHash P (Str.ofString "IsADirectoryError")) (Value.str (Str.ofString "IsADirectoryError") 127) (Value.type "IsADirectoryError"), DictEntry.mk (PyData.keyHash P (Str.ofString "NotADirectoryError")) (Value.str (Str.ofString "NotADirectoryError") 128) (Value.type "NotADirectoryError"), DictEntry.mk (PyData.keyHash P (Str.ofString "PermissionError")) (Value.str (Str.ofString "PermissionError") 129) (Value.type "PermissionError"), DictEntry.mk (PyData.keyHash P (Str.ofString "ProcessLookupError")) (Value.str (Str.ofString "ProcessLookupError") 130) (Value.type "ProcessLookupError"), DictEntry.mk (PyData.keyHash P (Str.ofString "TimeoutError")) (Value.str (Str.ofString "TimeoutError") 131) (Value.type "TimeoutError"), DictEntry.mk (PyData.keyHash P (Str.ofString "IndentationError")) (Value.str (Str.ofString "IndentationError") 132) (Value.type "IndentationError"), DictEntry.mk (PyData.keyHash P (Str.ofString "_IncompleteInputError")) (Value.str (Str.ofString "_IncompleteInputError") 133) (Value.type "_IncompleteInputError"), DictEntry.mk (PyData.keyHash P (Str.ofString "IndexError")) (Value.str (Str.ofString "IndexError") 134) (Value.type "IndexError"), DictEntry.mk (PyData.keyHash P (Str.ofString "KeyError")) (Value.str (Str.ofString "KeyError") 135) (Value.type "KeyError"), DictEntry.mk (PyData.keyHash P (Str.ofString "ModuleNotFoundError")) (Value.str (Str.ofString "ModuleNotFoundError") 136) (Value.type "ModuleNotFoundError"), DictEntry.mk (PyData.keyHash P (Str.ofString "NotImplementedError")) (Value.str (Str.ofString "NotImplementedError") 137) (Value.type "NotImplementedError"), DictEntry.mk (PyData.keyHash P (Str.ofString "PythonFinalizationError")) (Value.str (Str.ofString "PythonFinalizationError") 138) (Value.type "PythonFinalizationError"), DictEntry.mk (PyData.keyHash P (Str.ofString "RecursionError")) (Value.str (Str.ofString "RecursionError") 139) (Value.type "RecursionError"), DictEntry.mk (PyData.keyHash P (Str.ofString "UnboundLocalError")) (Value.str (Str.ofString "UnboundLocalError") 140) (Value.type "UnboundLocalError"), DictEntry.mk (PyData.keyHash P (Str.ofString "UnicodeError")) (Value.str (Str.ofString "UnicodeError") 141) (Value.type "UnicodeError"), DictEntry.mk (PyData.keyHash P (Str.ofString "BrokenPipeError")) (Value.str (Str.ofString "BrokenPipeError") 142) (Value.type "BrokenPipeError"), DictEntry.mk (PyData.keyHash P (Str.ofString "ConnectionAbortedError")) (Value.str (Str.ofString "ConnectionAbortedError") 143) (Value.type "ConnectionAbortedError"), DictEntry.mk (PyData.keyHash P (Str.ofString "ConnectionRefusedError")) (Value.str (Str.ofString "ConnectionRefusedError") 144) (Value.type "ConnectionRefusedError"), DictEntry.mk (PyData.keyHash P (Str.ofString "ConnectionResetError")) (Value.str (Str.ofString "ConnectionResetError") 145) (Value.type "ConnectionResetError"), DictEntry.mk (PyData.keyHash P (Str.ofString "TabError")) (Value.str (Str.ofString "TabError") 146) (Value.type "TabError"), DictEntry.mk (PyData.keyHash P (Str.ofString "UnicodeDecodeError")) (Value.str (Str.ofString "UnicodeDecodeError") 147) (Value.type "UnicodeDecodeError"), DictEntry.mk (PyData.keyHash P (Str.ofString "UnicodeEncodeError")) (Value.str (Str.ofString "UnicodeEncodeError") 148) (Value.type "UnicodeEncodeError"), DictEntry.mk (PyData.keyHash P (Str.ofString "UnicodeTranslateError")) (Value.str (Str.ofString "UnicodeTranslateError") 149) (Value.type "UnicodeTranslateError"), DictEntry.mk (PyData.keyHash P (Str.ofString "ExceptionGroup")) (Value.str (Str.ofString "ExceptionGroup") 150) (Value.type "ExceptionGroup"), DictEntry.mk (PyData.keyHash P (Str.ofString "EnvironmentError")) (Value.str (Str.ofString "EnvironmentError") 151) (Value.type "OSError"), DictEntry.mk (PyData.keyHash P (Str.ofString "IOError")) (Value.str (Str.ofString "IOError") 152) (Value.type "OSError"), DictEntry.mk (PyData.keyHash P (Str.ofString "open")) (Value.str (Str.ofString "open") 153) (Value.builtin "open"), DictEntry.mk (PyData.keyHash P (Str.ofString "quit")) (Value.str (Str.ofString "quit") 154) (Value.builtin "builtins.quit#opaque"), DictEntry.mk (PyData.keyHash P (Str.ofString "exit")) (Value.str (Str.ofString "exit") 155) (Value.builtin "builtins.exit#opaque"), DictEntry.mk (PyData.keyHash P (Str.ofString "copyright")) (Value.str (Str.ofString "copyright") 156) (Value.builtin "builtins.copyright#opaque"), DictEntry.mk (PyData.keyHash P (Str.ofString "credits")) (Value.str (Str.ofString "credits") 157) (Value.builtin "builtins.credits#opaque"), DictEntry.mk (PyData.keyHash P (Str.ofString "license")) (Value.str (Str.ofString "license") 158) (Value.builtin "builtins.license#opaque"), DictEntry.mk (PyData.keyHash P (Str.ofString "help")) (Value.str (Str.ofString "help") 159) (Value.builtin "builtins.help#opaque")] 159) #[] ::
    Obj.mk (Value.type "dict") none (Data.dict #[DictEntry.mk (PyData.keyHash P (Str.ofString "builtins")) (Value.str (Str.ofString "builtins") 162) (Value.ref 4), DictEntry.mk (PyData.keyHash P (Str.ofString "__main__")) (Value.str (Str.ofString "__main__") 163) (Value.ref 5)] 2) #[] ::
    Obj.mk Value.none none (Data.dict #[DictEntry.mk (PyData.keyHash P (Str.ofString "type.__subclasses__.Exception.0")) (Value.str (Str.ofString "type.__subclasses__.Exception.0") 236) (Value.int 45 0), DictEntry.mk (PyData.keyHash P (Str.ofString "type.__subclasses__.Exception.n")) (Value.str (Str.ofString "type.__subclasses__.Exception.n") 237) (Value.int 1 0)] 2) #[] ::
    Obj.mk (Value.type "dict") none (Data.dict #[DictEntry.mk (PyData.keyHash P (Str.ofString "__name__")) (Value.str (Str.ofString "__name__") 165) (Value.str (Str.ofString "lua.patterns") 240), DictEntry.mk (PyData.keyHash P (Str.ofString "__doc__")) (Value.str (Str.ofString "__doc__") 166) Value.none, DictEntry.mk (PyData.keyHash P (Str.ofString "__package__")) (Value.str (Str.ofString "__package__") 167) Value.none, DictEntry.mk (PyData.keyHash P (Str.ofString "__loader__")) (Value.str (Str.ofString "__loader__") 168) (Value.builtin "__main__.__loader__#opaque"), DictEntry.mk (PyData.keyHash P (Str.ofString "__spec__")) (Value.str (Str.ofString "__spec__") 169) Value.none, DictEntry.mk (PyData.keyHash P (Str.ofString "__annotations__")) (Value.str (Str.ofString "__annotations__") 170) (Value.ref 6), DictEntry.mk (PyData.keyHash P (Str.ofString "__builtins__")) (Value.str (Str.ofString "__builtins__") 171) (Value.ref 4), DictEntry.mk (PyData.keyHash P (Str.ofString "__file__")) (Value.str (Str.ofString "__file__") 173) (Value.str (Str.ofString "/claim/cut.py") 172), DictEntry.mk (PyData.keyHash P (Str.ofString "__cached__")) (Value.str (Str.ofString "__cached__") 174) Value.none, DictEntry.mk (PyData.keyHash P (Str.ofString "_wall")) (Value.str (Str.ofString "_wall") 193) (Value.ref 21), DictEntry.mk (PyData.keyHash P (Str.ofString "first_match")) (Value.str (Str.ofString "first_match") 206) (Value.ref 28), DictEntry.mk (PyData.keyHash P (Str.ofString "LuaError")) (Value.str (Str.ofString "LuaError") 239) (Value.ref 45), DictEntry.mk (PyData.keyHash P (Str.ofString "MOST_CAPTURES")) (Value.str (Str.ofString "MOST_CAPTURES") 243) (Value.int 32 242), DictEntry.mk (PyData.keyHash P (Str.ofString "UNFINISHED")) (Value.str (Str.ofString "UNFINISHED") 246) (Value.int (-1) 245), DictEntry.mk (PyData.keyHash P (Str.ofString "POSITION")) (Value.str (Str.ofString "POSITION") 249) (Value.int (-2) 248), DictEntry.mk (PyData.keyHash P (Str.ofString "ESCAPE")) (Value.str (Str.ofString "ESCAPE") 251) (Value.int 37 250), DictEntry.mk (PyData.keyHash P (Str.ofString "CARET")) (Value.str (Str.ofString "CARET") 253) (Value.int 94 252), DictEntry.mk (PyData.keyHash P (Str.ofString "DOLLAR")) (Value.str (Str.ofString "DOLLAR") 255) (Value.int 36 254), DictEntry.mk (PyData.keyHash P (Str.ofString "DOT")) (Value.str (Str.ofString "DOT") 257) (Value.int 46 256), DictEntry.mk (PyData.keyHash P (Str.ofString "OPEN")) (Value.str (Str.ofString "OPEN") 259) (Value.int 40 258), DictEntry.mk (PyData.keyHash P (Str.ofString "CLOSE")) (Value.str (Str.ofString "CLOSE") 261) (Value.int 41 260), DictEntry.mk (PyData.keyHash P (Str.ofString "SET_OPEN")) (Value.str (Str.ofString "SET_OPEN") 263) (Value.int 91 262), DictEntry.mk (PyData.keyHash P (Str.ofString "SET_CLOSE")) (Value.str (Str.ofString "SET_CLOSE") 265) (Value.int 93 264), DictEntry.mk (PyData.keyHash P (Str.ofString "STAR")) (Value.str (Str.ofString "STAR") 267) (Value.int 42 266), DictEntry.mk (PyData.keyHash P (Str.ofString "PLUS")) (Value.str (Str.ofString "PLUS") 269) (Value.int 43 268), DictEntry.mk (PyData.keyHash P (Str.ofString "MINUS")) (Value.str (Str.ofString "MINUS") 271) (Value.int 45 270), DictEntry.mk (PyData.keyHash P (Str.ofString "MARK")) (Value.str (Str.ofString "MARK") 273) (Value.int 63 272), DictEntry.mk (PyData.keyHash P (Str.ofString "is_lower")) (Value.str (Str.ofString "is_lower") 280) (Value.ref 55), DictEntry.mk (PyData.keyHash P (Str.ofString "is_upper")) (Value.str (Str.ofString "is_upper") 287) (Value.ref 62), DictEntry.mk (PyData.keyHash P (Str.ofString "is_alpha")) (Value.str (Str.ofString "is_alpha") 294) (Value.ref 69), DictEntry.mk (PyData.keyHash P (Str.ofString "is_digit")) (Value.str (Str.ofString "is_digit") 301) (Value.ref 76), DictEntry.mk (PyData.keyHash P (Str.ofString "is_space")) (Value.str (Str.ofString "is_space") 308) (Value.ref 83), DictEntry.mk (PyData.keyHash P (Str.ofString "is_control")) (Value.str (Str.ofString "is_control") 315) (Value.ref 90), DictEntry.mk (PyData.keyHash P (Str.ofString "is_punctuation")) (Value.str (Str.ofString "is_punctuation") 322) (Value.ref 97), DictEntry.mk (PyData.keyHash P (Str.ofString "is_hex")) (Value.str (Str.ofString "is_hex") 329) (Value.ref 104), DictEntry.mk (PyData.keyHash P (Str.ofString "in_class")) (Value.str (Str.ofString "in_class") 339) (Value.ref 111), DictEntry.mk (PyData.keyHash P (Str.ofString "Matcher")) (Value.str (Str.ofString "Matcher") 590) (Value.ref 267)] 37) #[] ::
    Obj.mk (Value.type "module") (some 0) Data.plain #[] ::
    Obj.mk (Value.type "module") (some 3) Data.plain #[] ::
    Obj.mk (Value.type "dict") none (Data.dict #[]) #[] ::
    Obj.mk (Value.type "tuple") none (Data.seq #[]) #[] ::
    Obj.mk Value.none none (Data.fields #[]) #[] ::
    Obj.mk (Value.type "code") none (Data.fields #[Value.str (Str.ofString "<module>") 176, Value.str (Str.ofString "<module>") 177, Value.str (Str.ofString "/claim/cut.py") 178, Value.int 1 0, Value.int 0 0, Value.int 0 0, Value.int 0 0, Value.int 0 0, Value.ref 7, Value.bool Bool.false, Value.int 175 0, Value.ref 8, Value.none, Value.none, Value.none, Value.none, Value.int 179 0, Value.int 1 0, Value.str (Str.ofString "/claim/cut.py") 180]) #[] ::
    Obj.mk (Value.type "frame") none Data.plain #[some (Value.ref 9), some (Value.ref 3), some (Value.ref 3), none, some (Value.str (Str.ofString "__main__") 164), none, some (Value.ref 0)] ::
    Obj.mk (Value.type "tuple") none (Data.seq #[]) #[] ::
    Obj.mk Value.none none (Data.fields #[Value.int 1 0, Value.int 0 0, Value.ref 20, Value.int 5 0, Value.int 0 0, Value.ref 27, Value.int 15 0, Value.int 0 0, Value.ref 34, Value.int 37 0, Value.int 0 0, Value.ref 54, Value.int 39 0, Value.int 0 0, Value.ref 61, Value.int 41 0, Value.int 0 0, Value.ref 68, Value.int 43 0, Value.int 0 0, Value.ref 75, Value.int 45 0, Value.int 0 0, Value.ref 82, Value.int 47 0, Value.int 0 0, Value.ref 89, Value.int 49 0, Value.int 0 0, Value.ref 96, Value.int 51 0, Value.int 0 0, Value.ref 103, Value.int 53 0, Value.int 0 0, Value.ref 110, Value.int 78 0, Value.int 0 0, Value.ref 117]) #[] ::
    Obj.mk (Value.type "code") none (Data.fields #[Value.str (Str.ofString "<module>") 182, Value.str (Str.ofString "<module>") 183, Value.str (Str.ofString "/claim/cut.py") 184, Value.int 1 0, Value.int 0 0, Value.int 0 0, Value.int 0 0, Value.int 0 0, Value.ref 11, Value.bool Bool.false, Value.int 181 0, Value.ref 12, Value.none, Value.none, Value.none, Value.none, Value.int 185 0, Value.int 1 0, Value.str (Str.ofString "/claim/cut.py") 186]) #[] ::
    Obj.mk (Value.type "frame") none Data.plain #[some (Value.ref 13), some (Value.ref 3), some (Value.ref 3), none, some (Value.str (Str.ofString "__main__") 164), none, some (Value.ref 0)] ::
    Obj.mk (Value.type "tuple") none (Data.seq #[]) #[] ::
    Obj.mk Value.none none (Data.fields #[]) #[] ::
    Obj.mk (Value.type "tuple") none (Data.seq #[Value.str (Str.ofString "k") 190]) #[] ::
    Obj.mk (Value.type "tuple") none (Data.seq #[]) #[] ::
    Obj.mk Value.none none (Data.func (FuncData.mk (Str.ofString "_wall") (Str.ofString "_wall") p21 (FuncBody.stmts b21) s21 0 [] Value.none Value.none Value.none Value.none none Value.none Value.none 0)) #[] ::
    Obj.mk (Value.type "code") none (Data.fields #[Value.str (Str.ofString "_wall") 187, Value.str (Str.ofString "_wall") 188, Value.str (Str.ofString "/claim/cut.py") 189, Value.int 1 0, Value.int 1 0, Value.int 0 0, Value.int 0 0, Value.int 3 0, Value.ref 15, Value.bool Bool.true, Value.int 181 0, Value.ref 16, Value.none, Value.ref 17, Value.ref 18, Value.ref 19, Value.int 191 0, Value.int 1 0, Value.str (Str.ofString "/claim/cut.py") 192]) #[] ::
    Obj.mk (Value.type "function") none (Data.func (FuncData.mk (Str.ofString "_wall") (Str.ofString "_wall") p21 (FuncBody.stmts b21) s21 3 [] Value.none Value.none Value.none (Value.str (Str.ofString "__main__") 164) none (Value.ref 20) Value.none 0)) #[] ::
    Obj.mk (Value.type "tuple") none (Data.seq #[]) #[] ::
    Obj.mk Value.none none (Data.fields #[]) #[] ::
    Obj.mk (Value.type "tuple") none (Data.seq #[Value.str (Str.ofString "size") 199, Value.str (Str.ofString "begin") 200, Value.str (Str.ofString "is_bound") 201, Value.str (Str.ofString "ends_at") 202, Value.str (Str.ofString "end") 203]) #[] ::
    Obj.mk (Value.type "tuple") none (Data.seq #[]) #[] ::
    Obj.mk Value.none none (Data.func (FuncData.mk (Str.ofString "first_match") (Str.ofString "first_match") p28 (FuncBody.stmts b28) s28 0 [] Value.none Value.none Value.none Value.none none Value.none Value.none 0)) #[] ::
    Obj.mk (Value.type "code") none (Data.fields #[Value.str (Str.ofString "first_match") 196, Value.str (Str.ofString "first_match") 197, Value.str (Str.ofString "/claim/cut.py") 198, Value.int 5 0, Value.int 4 0, Value.int 0 0, Value.int 0 0, Value.int 3 0, Value.ref 22, Value.bool Bool.true, Value.int 181 0, Value.ref 23, Value.none, Value.ref 24, Value.ref 25, Value.ref 26, Value.int 204 0, Value.int 5 0, Value.str (Str.ofString "/claim/cut.py") 205]) #[] ::
    Obj.mk (Value.type "function") none (Data.func (FuncData.mk (Str.ofString "first_match") (Str.ofString "first_match") p28 (FuncBody.stmts b28) s28 3 [] Value.none Value.none Value.none (Value.str (Str.ofString "lua.textcore") 194) none (Value.ref 27) Value.none 0)) #[] ::
    Obj.mk (Value.type "tuple") none (Data.seq #[Value.type "Exception"]) #[] ::
    Obj.mk (Value.type "builtin_function_or_method") none (Data.fields #[Value.builtin "type.__prepare__", Value.type "type"]) #[] ::
    Obj.mk (Value.type "dict") none (Data.dict #[DictEntry.mk (PyData.keyHash P (Str.ofString "__module__")) (Value.str (Str.ofString "__module__") 216) (Value.str (Str.ofString "lua.values") 207), DictEntry.mk (PyData.keyHash P (Str.ofString "__qualname__")) (Value.str (Str.ofString "__qualname__") 218) (Value.str (Str.ofString "LuaError") 217), DictEntry.mk (PyData.keyHash P (Str.ofString "__firstlineno__")) (Value.str (Str.ofString "__firstlineno__") 220) (Value.int 15 219), DictEntry.mk (PyData.keyHash P (Str.ofString "__init__")) (Value.str (Str.ofString "__init__") 228) (Value.ref 42), DictEntry.mk (PyData.keyHash P (Str.ofString "__static_attributes__")) (Value.str (Str.ofString "__static_attributes__") 232) (Value.ref 43)] 5) #[] ::
    Obj.mk (Value.type "tuple") none (Data.seq #[]) #[] ::
    Obj.mk Value.none none (Data.fields #[Value.int 17 0, Value.int 4 0, Value.ref 41]) #[] ::
    Obj.mk (Value.type "code") none (Data.fields #[Value.str (Str.ofString "LuaError") 211, Value.str (Str.ofString "LuaError") 212, Value.str (Str.ofString "/claim/cut.py") 213, Value.int 15 0, Value.int 0 0, Value.int 0 0, Value.int 0 0, Value.int 0 0, Value.ref 32, Value.bool Bool.false, Value.int 181 0, Value.ref 33, Value.none, Value.none, Value.none, Value.none, Value.int 214 0, Value.int 15 0, Value.str (Str.ofString "/claim/cut.py") 215]) #[] ::
    Obj.mk (Value.type "frame") none Data.plain #[some (Value.ref 34), some (Value.ref 3), some (Value.ref 31), none, some (Value.str (Str.ofString "lua.values") 207), none, some (Value.ref 0)] ::
    Obj.mk (Value.type "tuple") none (Data.seq #[]) #[] ::
    Obj.mk Value.none none (Data.fields #[]) #[] ::
    Obj.mk (Value.type "tuple") none (Data.seq #[Value.str (Str.ofString "self") 224, Value.str (Str.ofString "value") 225]) #[] ::
    Obj.mk (Value.type "tuple") none (Data.seq #[]) #[] ::
    Obj.mk Value.none none (Data.func (FuncData.mk (Str.ofString "__init__") (Str.ofString "LuaError.__init__") p42 (FuncBody.stmts b42) s42 0 [] Value.none Value.none Value.none Value.none none Value.none Value.none 0)) #[] ::
    Obj.mk (Value.type "code") none (Data.fields #[Value.str (Str.ofString "__init__") 221, Value.str (Str.ofString "LuaError.__init__") 222, Value.str (Str.ofString "/claim/cut.py") 223, Value.int 17 0, Value.int 2 0, Value.int 0 0, Value.int 0 0, Value.int 3 0, Value.ref 36, Value.bool Bool.true, Value.int 181 0, Value.ref 37, Value.none, Value.ref 38, Value.ref 39, Value.ref 40, Value.int 226 0, Value.int 17 0, Value.str (Str.ofString "/claim/cut.py") 227]) #[] ::
    Obj.mk (Value.type "function") none (Data.func (FuncData.mk (Str.ofString "__init__") (Str.ofString "LuaError.__init__") p42 (FuncBody.stmts b42) s42 3 [] Value.none Value.none Value.none (Value.str (Str.ofString "lua.values") 207) none (Value.ref 41) Value.none 0)) #[] ::
    Obj.mk (Value.type "tuple") none (Data.seq #[Value.str (Str.ofString "is_in_handler") 229, Value.str (Str.ofString "trace") 230, Value.str (Str.ofString "value") 231]) #[] ::
    Obj.mk (Value.type "dict") none (Data.dict #[DictEntry.mk (PyData.keyHash P (Str.ofString "__module__")) (Value.str (Str.ofString "__module__") 216) (Value.str (Str.ofString "lua.values") 207), DictEntry.mk (PyData.keyHash P (Str.ofString "__firstlineno__")) (Value.str (Str.ofString "__firstlineno__") 220) (Value.int 15 219), DictEntry.mk (PyData.keyHash P (Str.ofString "__init__")) (Value.str (Str.ofString "__init__") 228) (Value.ref 42), DictEntry.mk (PyData.keyHash P (Str.ofString "__static_attributes__")) (Value.str (Str.ofString "__static_attributes__") 232) (Value.ref 43), DictEntry.mk (PyData.keyHash P (Str.ofString "__weakref__")) (Value.str (Str.ofString "__weakref__") 234) (Value.ref 46), DictEntry.mk (PyData.keyHash P (Str.ofString "__doc__")) (Value.str (Str.ofString "__doc__") 235) Value.none] 3) #[] ::
    Obj.mk (Value.type "type") none (Data.cls (ClassData.mk (Str.ofString "LuaError") [Value.type "Exception"] [Value.ref 45, Value.type "Exception", Value.type "BaseException", Value.type "object"] 44 (Str.ofString "LuaError") Bool.true [] [] Bool.false none Bool.false)) #[some (Value.ref 29), none, some (Value.str (Str.ofString "LuaError") 209), some (Value.str (Str.ofString "LuaError") 217), some (Value.builtin "Exception.__new__"), some (Value.bool Bool.true)] ::
    Obj.mk (Value.type "getset_descriptor") none (Data.fields #[Value.str (Str.ofString "__weakref__") 233, Value.ref 45, Value.builtin "ExceptionGroup.__weakref__", Value.none]) #[] ::
    Obj.mk (Value.type "super") none (Data.fields #[Value.ref 45, Value.ref 45, Value.ref 45]) #[] ::
    Obj.mk (Value.type "builtin_function_or_method") none (Data.fields #[Value.builtin "object.__init_subclass__", Value.ref 45]) #[] ::
    Obj.mk (Value.type "tuple") none (Data.seq #[]) #[] ::
    Obj.mk Value.none none (Data.fields #[]) #[] ::
    Obj.mk (Value.type "tuple") none (Data.seq #[Value.str (Str.ofString "c") 277]) #[] ::
    Obj.mk (Value.type "tuple") none (Data.seq #[]) #[] ::
    Obj.mk Value.none none (Data.func (FuncData.mk (Str.ofString "is_lower") (Str.ofString "is_lower") p55 (FuncBody.stmts b55) s55 0 [] Value.none Value.none Value.none Value.none none Value.none Value.none 0)) #[] ::
    Obj.mk (Value.type "code") none (Data.fields #[Value.str (Str.ofString "is_lower") 274, Value.str (Str.ofString "is_lower") 275, Value.str (Str.ofString "/claim/cut.py") 276, Value.int 37 0, Value.int 1 0, Value.int 0 0, Value.int 0 0, Value.int 3 0, Value.ref 49, Value.bool Bool.true, Value.int 181 0, Value.ref 50, Value.none, Value.ref 51, Value.ref 52, Value.ref 53, Value.int 278 0, Value.int 37 0, Value.str (Str.ofString "/claim/cut.py") 279]) #[] ::
    Obj.mk (Value.type "function") none (Data.func (FuncData.mk (Str.ofString "is_lower") (Str.ofString "is_lower") p55 (FuncBody.stmts b55) s55 3 [] Value.none Value.none Value.none (Value.str (Str.ofString "lua.patterns") 240) none (Value.ref 54) Value.none 0)) #[] ::
    Obj.mk (Value.type "tuple") none (Data.seq #[]) #[] ::
    Obj.mk Value.none none (Data.fields #[]) #[] ::
    Obj.mk (Value.type "tuple") none (Data.seq #[Value.str (Str.ofString "c") 284]) #[] ::
    Obj.mk (Value.type "tuple") none (Data.seq #[]) #[] ::
    Obj.mk Value.none none (Data.func (FuncData.mk (Str.ofString "is_upper") (Str.ofString "is_upper") p62 (FuncBody.stmts b62) s62 0 [] Value.none Value.none Value.none Value.none none Value.none Value.none 0)) #[] ::
    Obj.mk (Value.type "code") none (Data.fields #[Value.str (Str.ofString "is_upper") 281, Value.str (Str.ofString "is_upper") 282, Value.str (Str.ofString "/claim/cut.py") 283, Value.int 39 0, Value.int 1 0, Value.int 0 0, Value.int 0 0, Value.int 3 0, Value.ref 56, Value.bool Bool.true, Value.int 181 0, Value.ref 57, Value.none, Value.ref 58, Value.ref 59, Value.ref 60, Value.int 285 0, Value.int 39 0, Value.str (Str.ofString "/claim/cut.py") 286]) #[] ::
    Obj.mk (Value.type "function") none (Data.func (FuncData.mk (Str.ofString "is_upper") (Str.ofString "is_upper") p62 (FuncBody.stmts b62) s62 3 [] Value.none Value.none Value.none (Value.str (Str.ofString "lua.patterns") 240) none (Value.ref 61) Value.none 0)) #[] ::
    Obj.mk (Value.type "tuple") none (Data.seq #[]) #[] ::
    Obj.mk Value.none none (Data.fields #[]) #[] ::
    Obj.mk (Value.type "tuple") none (Data.seq #[Value.str (Str.ofString "c") 291]) #[] ::
    Obj.mk (Value.type "tuple") none (Data.seq #[]) #[] ::
    Obj.mk Value.none none (Data.func (FuncData.mk (Str.ofString "is_alpha") (Str.ofString "is_alpha") p69 (FuncBody.stmts b69) s69 0 [] Value.none Value.none Value.none Value.none none Value.none Value.none 0)) #[] ::
    Obj.mk (Value.type "code") none (Data.fields #[Value.str (Str.ofString "is_alpha") 288, Value.str (Str.ofString "is_alpha") 289, Value.str (Str.ofString "/claim/cut.py") 290, Value.int 41 0, Value.int 1 0, Value.int 0 0, Value.int 0 0, Value.int 3 0, Value.ref 63, Value.bool Bool.true, Value.int 181 0, Value.ref 64, Value.none, Value.ref 65, Value.ref 66, Value.ref 67, Value.int 292 0, Value.int 41 0, Value.str (Str.ofString "/claim/cut.py") 293]) #[] ::
    Obj.mk (Value.type "function") none (Data.func (FuncData.mk (Str.ofString "is_alpha") (Str.ofString "is_alpha") p69 (FuncBody.stmts b69) s69 3 [] Value.none Value.none Value.none (Value.str (Str.ofString "lua.patterns") 240) none (Value.ref 68) Value.none 0)) #[] ::
    Obj.mk (Value.type "tuple") none (Data.seq #[]) #[] ::
    Obj.mk Value.none none (Data.fields #[]) #[] ::
    Obj.mk (Value.type "tuple") none (Data.seq #[Value.str (Str.ofString "c") 298]) #[] ::
    Obj.mk (Value.type "tuple") none (Data.seq #[]) #[] ::
    Obj.mk Value.none none (Data.func (FuncData.mk (Str.ofString "is_digit") (Str.ofString "is_digit") p76 (FuncBody.stmts b76) s76 0 [] Value.none Value.none Value.none Value.none none Value.none Value.none 0)) #[] ::
    Obj.mk (Value.type "code") none (Data.fields #[Value.str (Str.ofString "is_digit") 295, Value.str (Str.ofString "is_digit") 296, Value.str (Str.ofString "/claim/cut.py") 297, Value.int 43 0, Value.int 1 0, Value.int 0 0, Value.int 0 0, Value.int 3 0, Value.ref 70, Value.bool Bool.true, Value.int 181 0, Value.ref 71, Value.none, Value.ref 72, Value.ref 73, Value.ref 74, Value.int 299 0, Value.int 43 0, Value.str (Str.ofString "/claim/cut.py") 300]) #[] ::
    Obj.mk (Value.type "function") none (Data.func (FuncData.mk (Str.ofString "is_digit") (Str.ofString "is_digit") p76 (FuncBody.stmts b76) s76 3 [] Value.none Value.none Value.none (Value.str (Str.ofString "lua.patterns") 240) none (Value.ref 75) Value.none 0)) #[] ::
    Obj.mk (Value.type "tuple") none (Data.seq #[]) #[] ::
    Obj.mk Value.none none (Data.fields #[]) #[] ::
    Obj.mk (Value.type "tuple") none (Data.seq #[Value.str (Str.ofString "c") 305]) #[] ::
    Obj.mk (Value.type "tuple") none (Data.seq #[]) #[] ::
    Obj.mk Value.none none (Data.func (FuncData.mk (Str.ofString "is_space") (Str.ofString "is_space") p83 (FuncBody.stmts b83) s83 0 [] Value.none Value.none Value.none Value.none none Value.none Value.none 0)) #[] ::
    Obj.mk (Value.type "code") none (Data.fields #[Value.str (Str.ofString "is_space") 302, Value.str (Str.ofString "is_space") 303, Value.str (Str.ofString "/claim/cut.py") 304, Value.int 45 0, Value.int 1 0, Value.int 0 0, Value.int 0 0, Value.int 3 0, Value.ref 77, Value.bool Bool.true, Value.int 181 0, Value.ref 78, Value.none, Value.ref 79, Value.ref 80, Value.ref 81, Value.int 306 0, Value.int 45 0, Value.str (Str.ofString "/claim/cut.py") 307]) #[] ::
    Obj.mk (Value.type "function") none (Data.func (FuncData.mk (Str.ofString "is_space") (Str.ofString "is_space") p83 (FuncBody.stmts b83) s83 3 [] Value.none Value.none Value.none (Value.str (Str.ofString "lua.patterns") 240) none (Value.ref 82) Value.none 0)) #[] ::
    Obj.mk (Value.type "tuple") none (Data.seq #[]) #[] ::
    Obj.mk Value.none none (Data.fields #[]) #[] ::
    Obj.mk (Value.type "tuple") none (Data.seq #[Value.str (Str.ofString "c") 312]) #[] ::
    Obj.mk (Value.type "tuple") none (Data.seq #[]) #[] ::
    Obj.mk Value.none none (Data.func (FuncData.mk (Str.ofString "is_control") (Str.ofString "is_control") p90 (FuncBody.stmts b90) s90 0 [] Value.none Value.none Value.none Value.none none Value.none Value.none 0)) #[] ::
    Obj.mk (Value.type "code") none (Data.fields #[Value.str (Str.ofString "is_control") 309, Value.str (Str.ofString "is_control") 310, Value.str (Str.ofString "/claim/cut.py") 311, Value.int 47 0, Value.int 1 0, Value.int 0 0, Value.int 0 0, Value.int 3 0, Value.ref 84, Value.bool Bool.true, Value.int 181 0, Value.ref 85, Value.none, Value.ref 86, Value.ref 87, Value.ref 88, Value.int 313 0, Value.int 47 0, Value.str (Str.ofString "/claim/cut.py") 314]) #[] ::
    Obj.mk (Value.type "function") none (Data.func (FuncData.mk (Str.ofString "is_control") (Str.ofString "is_control") p90 (FuncBody.stmts b90) s90 3 [] Value.none Value.none Value.none (Value.str (Str.ofString "lua.patterns") 240) none (Value.ref 89) Value.none 0)) #[] ::
    Obj.mk (Value.type "tuple") none (Data.seq #[]) #[] ::
    Obj.mk Value.none none (Data.fields #[]) #[] ::
    Obj.mk (Value.type "tuple") none (Data.seq #[Value.str (Str.ofString "c") 319]) #[] ::
    Obj.mk (Value.type "tuple") none (Data.seq #[]) #[] ::
    Obj.mk Value.none none (Data.func (FuncData.mk (Str.ofString "is_punctuation") (Str.ofString "is_punctuation") p97 (FuncBody.stmts b97) s97 0 [] Value.none Value.none Value.none Value.none none Value.none Value.none 0)) #[] ::
    Obj.mk (Value.type "code") none (Data.fields #[Value.str (Str.ofString "is_punctuation") 316, Value.str (Str.ofString "is_punctuation") 317, Value.str (Str.ofString "/claim/cut.py") 318, Value.int 49 0, Value.int 1 0, Value.int 0 0, Value.int 0 0, Value.int 3 0, Value.ref 91, Value.bool Bool.true, Value.int 181 0, Value.ref 92, Value.none, Value.ref 93, Value.ref 94, Value.ref 95, Value.int 320 0, Value.int 49 0, Value.str (Str.ofString "/claim/cut.py") 321]) #[] ::
    Obj.mk (Value.type "function") none (Data.func (FuncData.mk (Str.ofString "is_punctuation") (Str.ofString "is_punctuation") p97 (FuncBody.stmts b97) s97 3 [] Value.none Value.none Value.none (Value.str (Str.ofString "lua.patterns") 240) none (Value.ref 96) Value.none 0)) #[] ::
    Obj.mk (Value.type "tuple") none (Data.seq #[]) #[] ::
    Obj.mk Value.none none (Data.fields #[]) #[] ::
    Obj.mk (Value.type "tuple") none (Data.seq #[Value.str (Str.ofString "c") 326]) #[] ::
    Obj.mk (Value.type "tuple") none (Data.seq #[]) #[] ::
    Obj.mk Value.none none (Data.func (FuncData.mk (Str.ofString "is_hex") (Str.ofString "is_hex") p104 (FuncBody.stmts b104) s104 0 [] Value.none Value.none Value.none Value.none none Value.none Value.none 0)) #[] ::
    Obj.mk (Value.type "code") none (Data.fields #[Value.str (Str.ofString "is_hex") 323, Value.str (Str.ofString "is_hex") 324, Value.str (Str.ofString "/claim/cut.py") 325, Value.int 51 0, Value.int 1 0, Value.int 0 0, Value.int 0 0, Value.int 3 0, Value.ref 98, Value.bool Bool.true, Value.int 181 0, Value.ref 99, Value.none, Value.ref 100, Value.ref 101, Value.ref 102, Value.int 327 0, Value.int 51 0, Value.str (Str.ofString "/claim/cut.py") 328]) #[] ::
    Obj.mk (Value.type "function") none (Data.func (FuncData.mk (Str.ofString "is_hex") (Str.ofString "is_hex") p104 (FuncBody.stmts b104) s104 3 [] Value.none Value.none Value.none (Value.str (Str.ofString "lua.patterns") 240) none (Value.ref 103) Value.none 0)) #[] ::
    Obj.mk (Value.type "tuple") none (Data.seq #[]) #[] ::
    Obj.mk Value.none none (Data.fields #[]) #[] ::
    Obj.mk (Value.type "tuple") none (Data.seq #[Value.str (Str.ofString "c") 333, Value.str (Str.ofString "letter") 334, Value.str (Str.ofString "low") 335, Value.str (Str.ofString "found") 336]) #[] ::
    Obj.mk (Value.type "tuple") none (Data.seq #[]) #[] ::
    Obj.mk Value.none none (Data.func (FuncData.mk (Str.ofString "in_class") (Str.ofString "in_class") p111 (FuncBody.stmts b111) s111 0 [] Value.none Value.none Value.none Value.none none Value.none Value.none 0)) #[] ::
    Obj.mk (Value.type "code") none (Data.fields #[Value.str (Str.ofString "in_class") 330, Value.str (Str.ofString "in_class") 331, Value.str (Str.ofString "/claim/cut.py") 332, Value.int 53 0, Value.int 2 0, Value.int 0 0, Value.int 0 0, Value.int 3 0, Value.ref 105, Value.bool Bool.true, Value.int 181 0, Value.ref 106, Value.none, Value.ref 107, Value.ref 108, Value.ref 109, Value.int 337 0, Value.int 53 0, Value.str (Str.ofString "/claim/cut.py") 338]) #[] ::
    Obj.mk (Value.type "function") none (Data.func (FuncData.mk (Str.ofString "in_class") (Str.ofString "in_class") p111 (FuncBody.stmts b111) s111 3 [] Value.none Value.none Value.none (Value.str (Str.ofString "lua.patterns") 240) none (Value.ref 110) Value.none 0)) #[] ::
    Obj.mk (Value.type "tuple") none (Data.seq #[]) #[] ::
    Obj.mk (Value.type "builtin_function_or_method") none (Data.fields #[Value.builtin "type.__prepare__", Value.type "type"]) #[] ::
    Obj.mk (Value.type "dict") none (Data.dict #[DictEntry.mk (PyData.keyHash P (Str.ofString "__module__")) (Value.str (Str.ofString "__module__") 347) (Value.str (Str.ofString "lua.patterns") 240), DictEntry.mk (PyData.keyHash P (Str.ofString "__qualname__")) (Value.str (Str.ofString "__qualname__") 349) (Value.str (Str.ofString "Matcher") 348), DictEntry.mk (PyData.keyHash P (Str.ofString "__firstlineno__")) (Value.str (Str.ofString "__firstlineno__") 351) (Value.int 78 350), DictEntry.mk (PyData.keyHash P (Str.ofString "__init__")) (Value.str (Str.ofString "__init__") 364) (Value.ref 126), DictEntry.mk (PyData.keyHash P (Str.ofString "count")) (Value.str (Str.ofString "count") 371) (Value.ref 133), DictEntry.mk (PyData.keyHash P (Str.ofString "reset")) (Value.str (Str.ofString "reset") 378) (Value.ref 140), DictEntry.mk (PyData.keyHash P (Str.ofString "at")) (Value.str (Str.ofString "at") 386) (Value.ref 147), DictEntry.mk (PyData.keyHash P (Str.ofString "class_end")) (Value.str (Str.ofString "class_end") 397) (Value.ref 154), DictEntry.mk (PyData.keyHash P (Str.ofString "in_set")) (Value.str (Str.ofString "in_set") 409) (Value.ref 161), DictEntry.mk (PyData.keyHash P (Str.ofString "is_single")) (Value.str (Str.ofString "is_single") 421) (Value.ref 168), DictEntry.mk (PyData.keyHash P (Str.ofString "match")) (Value.str (Str.ofString "match") 431) (Value.ref 175), DictEntry.mk (PyData.keyHash P (Str.ofString "match_here")) (Value.str (Str.ofString "match_here") 446) (Value.ref 182), DictEntry.mk (PyData.keyHash P (Str.ofString "match_special")) (Value.str (Str.ofString "match_special") 456) (Value.ref 189), DictEntry.mk (PyData.keyHash P (Str.ofString "match_balance")) (Value.str (Str.ofString "match_balance") 469) (Value.ref 196), DictEntry.mk (PyData.keyHash P (Str.ofString "match_frontier")) (Value.str (Str.ofString "match_frontier") 481) (Value.ref 203), DictEntry.mk (PyData.keyHash P (Str.ofString "expand_most")) (Value.str (Str.ofString "expand_most") 493) (Value.ref 210), DictEntry.mk (PyData.keyHash P (Str.ofString "expand_least")) (Value.str (Str.ofString "expand_least") 504) (Value.ref 217), DictEntry.mk (PyData.keyHash P (Str.ofString "start_capture")) (Value.str (Str.ofString "start_capture") 515) (Value.ref 224), DictEntry.mk (PyData.keyHash P (Str.ofString "end_capture")) (Value.str (Str.ofString "end_capture") 526) (Value.ref 231), DictEntry.mk (PyData.keyHash P (Str.ofString "to_close")) (Value.str (Str.ofString "to_close") 534) (Value.ref 238), DictEntry.mk (PyData.keyHash P (Str.ofString "match_capture")) (Value.str (Str.ofString "match_capture") 546) (Value.ref 245), DictEntry.mk (PyData.keyHash P (Str.ofString "capture")) (Value.str (Str.ofString "capture") 558) (Value.ref 252), DictEntry.mk (PyData.keyHash P (Str.ofString "captures")) (Value.str (Str.ofString "captures") 564) (Value.ref 257), DictEntry.mk (PyData.keyHash P (Str.ofString "search")) (Value.str (Str.ofString "search") 574) (Value.ref 264), DictEntry.mk (PyData.keyHash P (Str.ofString "__static_attributes__")) (Value.str (Str.ofString "__static_attributes__") 583) (Value.ref 265)] 25) #[] ::
    Obj.mk (Value.type "tuple") none (Data.seq #[]) #[] ::
    Obj.mk Value.none none (Data.fields #[Value.int 80 0, Value.int 4 0, Value.ref 125, Value.int 91 0, Value.int 4 0, Value.ref 132, Value.int 95 0, Value.int 4 0, Value.ref 139, Value.int 101 0, Value.int 4 0, Value.ref 146, Value.int 104 0, Value.int 4 0, Value.ref 153, Value.int 126 0, Value.int 4 0, Value.ref 160, Value.int 147 0, Value.int 4 0, Value.ref 167, Value.int 159 0, Value.int 4 0, Value.ref 174, Value.int 168 0, Value.int 4 0, Value.ref 181, Value.int 206 0, Value.int 4 0, Value.ref 188, Value.int 213 0, Value.int 4 0, Value.ref 195, Value.int 233 0, Value.int 4 0, Value.ref 202, Value.int 243 0, Value.int 4 0, Value.ref 209, Value.int 255 0, Value.int 4 0, Value.ref 216, Value.int 264 0, Value.int 4 0, Value.ref 223, Value.int 275 0, Value.int 4 0, Value.ref 230, Value.int 283 0, Value.int 4 0, Value.ref 237, Value.int 291 0, Value.int 4 0, Value.ref 244, Value.int 301 0, Value.int 4 0, Value.ref 251, Value.int 311 0, Value.int 4 0, Value.ref 256, Value.int 315 0, Value.int 4 0, Value.ref 263]) #[] ::
    Obj.mk (Value.type "code") none (Data.fields #[Value.str (Str.ofString "Matcher") 342, Value.str (Str.ofString "Matcher") 343, Value.str (Str.ofString "/claim/cut.py") 344, Value.int 78 0, Value.int 0 0, Value.int 0 0, Value.int 0 0, Value.int 0 0, Value.ref 115, Value.bool Bool.false, Value.int 181 0, Value.ref 116, Value.none, Value.none, Value.none, Value.none, Value.int 345 0, Value.int 78 0, Value.str (Str.ofString "/claim/cut.py") 346]) #[] ::
    Obj.mk (Value.type "frame") none Data.plain #[some (Value.ref 117), some (Value.ref 3), some (Value.ref 114), none, some (Value.str (Str.ofString "lua.patterns") 240), none, some (Value.ref 0)] ::
    Obj.mk (Value.type "tuple") none (Data.seq #[Value.int 60 352, Value.none]) #[] ::
    Obj.mk (Value.type "tuple") none (Data.seq #[]) #[] ::
    Obj.mk Value.none none (Data.fields #[]) #[] ::
    Obj.mk (Value.type "tuple") none (Data.seq #[Value.str (Str.ofString "self") 356, Value.str (Str.ofString "text") 357, Value.str (Str.ofString "pattern") 358, Value.str (Str.ofString "depth") 359, Value.str (Str.ofString "tick") 360, Value.str (Str.ofString "zero") 361]) #[] ::
    Obj.mk (Value.type "tuple") none (Data.seq #[]) #[] ::
    Obj.mk Value.none none (Data.func (FuncData.mk (Str.ofString "__init__") (Str.ofString "Matcher.__init__") p126 (FuncBody.stmts b126) s126 0 [] Value.none Value.none Value.none Value.none none Value.none Value.none 0)) #[] ::
    Obj.mk (Value.type "code") none (Data.fields #[Value.str (Str.ofString "__init__") 353, Value.str (Str.ofString "Matcher.__init__") 354, Value.str (Str.ofString "/claim/cut.py") 355, Value.int 80 0, Value.int 5 0, Value.int 0 0, Value.int 0 0, Value.int 3 0, Value.ref 120, Value.bool Bool.true, Value.int 181 0, Value.ref 121, Value.none, Value.ref 122, Value.ref 123, Value.ref 124, Value.int 362 0, Value.int 80 0, Value.str (Str.ofString "/claim/cut.py") 363]) #[] ::
    Obj.mk (Value.type "function") none (Data.func (FuncData.mk (Str.ofString "__init__") (Str.ofString "Matcher.__init__") p126 (FuncBody.stmts b126) s126 3 [] (Value.ref 119) Value.none Value.none (Value.str (Str.ofString "lua.patterns") 240) none (Value.ref 125) Value.none 0)) #[] ::
    Obj.mk (Value.type "tuple") none (Data.seq #[]) #[] ::
    Obj.mk Value.none none (Data.fields #[]) #[] ::
    Obj.mk (Value.type "tuple") none (Data.seq #[Value.str (Str.ofString "self") 368]) #[] ::
    Obj.mk (Value.type "tuple") none (Data.seq #[]) #[] ::
    Obj.mk Value.none none (Data.func (FuncData.mk (Str.ofString "count") (Str.ofString "Matcher.count") p133 (FuncBody.stmts b133) s133 0 [] Value.none Value.none Value.none Value.none none Value.none Value.none 0)) #[] ::
    Obj.mk (Value.type "code") none (Data.fields #[Value.str (Str.ofString "count") 365, Value.str (Str.ofString "Matcher.count") 366, Value.str (Str.ofString "/claim/cut.py") 367, Value.int 91 0, Value.int 1 0, Value.int 0 0, Value.int 0 0, Value.int 3 0, Value.ref 127, Value.bool Bool.true, Value.int 181 0, Value.ref 128, Value.none, Value.ref 129, Value.ref 130, Value.ref 131, Value.int 369 0, Value.int 91 0, Value.str (Str.ofString "/claim/cut.py") 370]) #[] ::
    Obj.mk (Value.type "function") none (Data.func (FuncData.mk (Str.ofString "count") (Str.ofString "Matcher.count") p133 (FuncBody.stmts b133) s133 3 [] Value.none Value.none Value.none (Value.str (Str.ofString "lua.patterns") 240) none (Value.ref 132) Value.none 0)) #[] ::
    Obj.mk (Value.type "tuple") none (Data.seq #[]) #[] ::
    Obj.mk Value.none none (Data.fields #[]) #[] ::
    Obj.mk (Value.type "tuple") none (Data.seq #[Value.str (Str.ofString "self") 375]) #[] ::
    Obj.mk (Value.type "tuple") none (Data.seq #[]) #[] ::
    Obj.mk Value.none none (Data.func (FuncData.mk (Str.ofString "reset") (Str.ofString "Matcher.reset") p140 (FuncBody.stmts b140) s140 0 [] Value.none Value.none Value.none Value.none none Value.none Value.none 0)) #[] ::
    Obj.mk (Value.type "code") none (Data.fields #[Value.str (Str.ofString "reset") 372, Value.str (Str.ofString "Matcher.reset") 373, Value.str (Str.ofString "/claim/cut.py") 374, Value.int 95 0, Value.int 1 0, Value.int 0 0, Value.int 0 0, Value.int 3 0, Value.ref 134, Value.bool Bool.true, Value.int 181 0, Value.ref 135, Value.none, Value.ref 136, Value.ref 137, Value.ref 138, Value.int 376 0, Value.int 95 0, Value.str (Str.ofString "/claim/cut.py") 377]) #[] ::
    Obj.mk (Value.type "function") none (Data.func (FuncData.mk (Str.ofString "reset") (Str.ofString "Matcher.reset") p140 (FuncBody.stmts b140) s140 3 [] Value.none Value.none Value.none (Value.str (Str.ofString "lua.patterns") 240) none (Value.ref 139) Value.none 0)) #[] ::
    Obj.mk (Value.type "tuple") none (Data.seq #[]) #[] ::
    Obj.mk Value.none none (Data.fields #[]) #[] ::
    Obj.mk (Value.type "tuple") none (Data.seq #[Value.str (Str.ofString "self") 382, Value.str (Str.ofString "p") 383]) #[] ::
    Obj.mk (Value.type "tuple") none (Data.seq #[]) #[] ::
    Obj.mk Value.none none (Data.func (FuncData.mk (Str.ofString "at") (Str.ofString "Matcher.at") p147 (FuncBody.stmts b147) s147 0 [] Value.none Value.none Value.none Value.none none Value.none Value.none 0)) #[] ::
    Obj.mk (Value.type "code") none (Data.fields #[Value.str (Str.ofString "at") 379, Value.str (Str.ofString "Matcher.at") 380, Value.str (Str.ofString "/claim/cut.py") 381, Value.int 101 0, Value.int 2 0, Value.int 0 0, Value.int 0 0, Value.int 3 0, Value.ref 141, Value.bool Bool.true, Value.int 181 0, Value.ref 142, Value.none, Value.ref 143, Value.ref 144, Value.ref 145, Value.int 384 0, Value.int 101 0, Value.str (Str.ofString "/claim/cut.py") 385]) #[] ::
    Obj.mk (Value.type "function") none (Data.func (FuncData.mk (Str.ofString "at") (Str.ofString "Matcher.at") p147 (FuncBody.stmts b147) s147 3 [] Value.none Value.none Value.none (Value.str (Str.ofString "lua.patterns") 240) none (Value.ref 146) Value.none 0)) #[] ::
    Obj.mk (Value.type "tuple") none (Data.seq #[]) #[] ::
    Obj.mk Value.none none (Data.fields #[]) #[] ::
    Obj.mk (Value.type "tuple") none (Data.seq #[Value.str (Str.ofString "self") 390, Value.str (Str.ofString "p") 391, Value.str (Str.ofString "first") 392, Value.str (Str.ofString "is_first") 393, Value.str (Str.ofString "is_escaped") 394]) #[] ::
    Obj.mk (Value.type "tuple") none (Data.seq #[]) #[] ::
    Obj.mk Value.none none (Data.func (FuncData.mk (Str.ofString "class_end") (Str.ofString "Matcher.class_end") p154 (FuncBody.stmts b154) s154 0 [] Value.none Value.none Value.none Value.none none Value.none Value.none 0)) #[] ::
    Obj.mk (Value.type "code") none (Data.fields #[Value.str (Str.ofString "class_end") 387, Value.str (Str.ofString "Matcher.class_end") 388, Value.str (Str.ofString "/claim/cut.py") 389, Value.int 104 0, Value.int 2 0, Value.int 0 0, Value.int 0 0, Value.int 3 0, Value.ref 148, Value.bool Bool.true, Value.int 181 0, Value.ref 149, Value.none, Value.ref 150, Value.ref 151, Value.ref 152, Value.int 395 0, Value.int 104 0, Value.str (Str.ofString "/claim/cut.py") 396]) #[] ::
    Obj.mk (Value.type "function") none (Data.func (FuncData.mk (Str.ofString "class_end") (Str.ofString "Matcher.class_end") p154 (FuncBody.stmts b154) s154 3 [] Value.none Value.none Value.none (Value.str (Str.ofString "lua.patterns") 240) none (Value.ref 153) Value.none 0)) #[] ::
    Obj.mk (Value.type "tuple") none (Data.seq #[]) #[] ::
    Obj.mk Value.none none (Data.fields #[]) #[] ::
    Obj.mk (Value.type "tuple") none (Data.seq #[Value.str (Str.ofString "self") 401, Value.str (Str.ofString "c") 402, Value.str (Str.ofString "p") 403, Value.str (Str.ofString "last") 404, Value.str (Str.ofString "is_wanted") 405, Value.str (Str.ofString "here") 406]) #[] ::
    Obj.mk (Value.type "tuple") none (Data.seq #[]) #[] ::
    Obj.mk Value.none none (Data.func (FuncData.mk (Str.ofString "in_set") (Str.ofString "Matcher.in_set") p161 (FuncBody.stmts b161) s161 0 [] Value.none Value.none Value.none Value.none none Value.none Value.none 0)) #[] ::
    Obj.mk (Value.type "code") none (Data.fields #[Value.str (Str.ofString "in_set") 398, Value.str (Str.ofString "Matcher.in_set") 399, Value.str (Str.ofString "/claim/cut.py") 400, Value.int 126 0, Value.int 4 0, Value.int 0 0, Value.int 0 0, Value.int 3 0, Value.ref 155, Value.bool Bool.true, Value.int 181 0, Value.ref 156, Value.none, Value.ref 157, Value.ref 158, Value.ref 159, Value.int 407 0, Value.int 126 0, Value.str (Str.ofString "/claim/cut.py") 408]) #[] ::
    Obj.mk (Value.type "function") none (Data.func (FuncData.mk (Str.ofString "in_set") (Str.ofString "Matcher.in_set") p161 (FuncBody.stmts b161) s161 3 [] Value.none Value.none Value.none (Value.str (Str.ofString "lua.patterns") 240) none (Value.ref 160) Value.none 0)) #[] ::
    Obj.mk (Value.type "tuple") none (Data.seq #[]) #[] ::
    Obj.mk Value.none none (Data.fields #[]) #[] ::
    Obj.mk (Value.type "tuple") none (Data.seq #[Value.str (Str.ofString "self") 413, Value.str (Str.ofString "s") 414, Value.str (Str.ofString "p") 415, Value.str (Str.ofString "end") 416, Value.str (Str.ofString "c") 417, Value.str (Str.ofString "first") 418]) #[] ::
    Obj.mk (Value.type "tuple") none (Data.seq #[]) #[] ::
    Obj.mk Value.none none (Data.func (FuncData.mk (Str.ofString "is_single") (Str.ofString "Matcher.is_single") p168 (FuncBody.stmts b168) s168 0 [] Value.none Value.none Value.none Value.none none Value.none Value.none 0)) #[] ::
    Obj.mk (Value.type "code") none (Data.fields #[Value.str (Str.ofString "is_single") 410, Value.str (Str.ofString "Matcher.is_single") 411, Value.str (Str.ofString "/claim/cut.py") 412, Value.int 147 0, Value.int 4 0, Value.int 0 0, Value.int 0 0, Value.int 3 0, Value.ref 162, Value.bool Bool.true, Value.int 181 0, Value.ref 163, Value.none, Value.ref 164, Value.ref 165, Value.ref 166, Value.int 419 0, Value.int 147 0, Value.str (Str.ofString "/claim/cut.py") 420]) #[] ::
    Obj.mk (Value.type "function") none (Data.func (FuncData.mk (Str.ofString "is_single") (Str.ofString "Matcher.is_single") p168 (FuncBody.stmts b168) s168 3 [] Value.none Value.none Value.none (Value.str (Str.ofString "lua.patterns") 240) none (Value.ref 167) Value.none 0)) #[] ::
    Obj.mk (Value.type "tuple") none (Data.seq #[]) #[] ::
    Obj.mk Value.none none (Data.fields #[]) #[] ::
    Obj.mk (Value.type "tuple") none (Data.seq #[Value.str (Str.ofString "self") 425, Value.str (Str.ofString "s") 426, Value.str (Str.ofString "p") 427, Value.str (Str.ofString "found") 428]) #[] ::
    Obj.mk (Value.type "tuple") none (Data.seq #[]) #[] ::
    Obj.mk Value.none none (Data.func (FuncData.mk (Str.ofString "match") (Str.ofString "Matcher.match") p175 (FuncBody.stmts b175) s175 0 [] Value.none Value.none Value.none Value.none none Value.none Value.none 0)) #[] ::
    Obj.mk (Value.type "code") none (Data.fields #[Value.str (Str.ofString "match") 422, Value.str (Str.ofString "Matcher.match") 423, Value.str (Str.ofString "/claim/cut.py") 424, Value.int 159 0, Value.int 3 0, Value.int 0 0, Value.int 0 0, Value.int 3 0, Value.ref 169, Value.bool Bool.true, Value.int 181 0, Value.ref 170, Value.none, Value.ref 171, Value.ref 172, Value.ref 173, Value.int 429 0, Value.int 159 0, Value.str (Str.ofString "/claim/cut.py") 430]) #[] ::
    Obj.mk (Value.type "function") none (Data.func (FuncData.mk (Str.ofString "match") (Str.ofString "Matcher.match") p175 (FuncBody.stmts b175) s175 3 [] Value.none Value.none Value.none (Value.str (Str.ofString "lua.patterns") 240) none (Value.ref 174) Value.none 0)) #[] ::
    Obj.mk (Value.type "tuple") none (Data.seq #[]) #[] ::
    Obj.mk Value.none none (Data.fields #[]) #[] ::
    Obj.mk (Value.type "tuple") none (Data.seq #[Value.str (Str.ofString "self") 435, Value.str (Str.ofString "s") 436, Value.str (Str.ofString "p") 437, Value.str (Str.ofString "first") 438, Value.str (Str.ofString "second") 439, Value.str (Str.ofString "end") 440, Value.str (Str.ofString "after") 441, Value.str (Str.ofString "is_here") 442, Value.str (Str.ofString "found") 443]) #[] ::
    Obj.mk (Value.type "tuple") none (Data.seq #[]) #[] ::
    Obj.mk Value.none none (Data.func (FuncData.mk (Str.ofString "match_here") (Str.ofString "Matcher.match_here") p182 (FuncBody.stmts b182) s182 0 [] Value.none Value.none Value.none Value.none none Value.none Value.none 0)) #[] ::
    Obj.mk (Value.type "code") none (Data.fields #[Value.str (Str.ofString "match_here") 432, Value.str (Str.ofString "Matcher.match_here") 433, Value.str (Str.ofString "/claim/cut.py") 434, Value.int 168 0, Value.int 3 0, Value.int 0 0, Value.int 0 0, Value.int 3 0, Value.ref 176, Value.bool Bool.true, Value.int 181 0, Value.ref 177, Value.none, Value.ref 178, Value.ref 179, Value.ref 180, Value.int 444 0, Value.int 168 0, Value.str (Str.ofString "/claim/cut.py") 445]) #[] ::
    Obj.mk (Value.type "function") none (Data.func (FuncData.mk (Str.ofString "match_here") (Str.ofString "Matcher.match_here") p182 (FuncBody.stmts b182) s182 3 [] Value.none Value.none Value.none (Value.str (Str.ofString "lua.patterns") 240) none (Value.ref 181) Value.none 0)) #[] ::
    Obj.mk (Value.type "tuple") none (Data.seq #[]) #[] ::
    Obj.mk Value.none none (Data.fields #[]) #[] ::
    Obj.mk (Value.type "tuple") none (Data.seq #[Value.str (Str.ofString "self") 450, Value.str (Str.ofString "s") 451, Value.str (Str.ofString "p") 452, Value.str (Str.ofString "letter") 453]) #[] ::
    Obj.mk (Value.type "tuple") none (Data.seq #[]) #[] ::
    Obj.mk Value.none none (Data.func (FuncData.mk (Str.ofString "match_special") (Str.ofString "Matcher.match_special") p189 (FuncBody.stmts b189) s189 0 [] Value.none Value.none Value.none Value.none none Value.none Value.none 0)) #[] ::
    Obj.mk (Value.type "code") none (Data.fields #[Value.str (Str.ofString "match_special") 447, Value.str (Str.ofString "Matcher.match_special") 448, Value.str (Str.ofString "/claim/cut.py") 449, Value.int 206 0, Value.int 4 0, Value.int 0 0, Value.int 0 0, Value.int 3 0, Value.ref 183, Value.bool Bool.true, Value.int 181 0, Value.ref 184, Value.none, Value.ref 185, Value.ref 186, Value.ref 187, Value.int 454 0, Value.int 206 0, Value.str (Str.ofString "/claim/cut.py") 455]) #[] ::
    Obj.mk (Value.type "function") none (Data.func (FuncData.mk (Str.ofString "match_special") (Str.ofString "Matcher.match_special") p189 (FuncBody.stmts b189) s189 3 [] Value.none Value.none Value.none (Value.str (Str.ofString "lua.patterns") 240) none (Value.ref 188) Value.none 0)) #[] ::
    Obj.mk (Value.type "tuple") none (Data.seq #[]) #[] ::
    Obj.mk Value.none none (Data.fields #[]) #[] ::
    Obj.mk (Value.type "tuple") none (Data.seq #[Value.str (Str.ofString "self") 460, Value.str (Str.ofString "s") 461, Value.str (Str.ofString "p") 462, Value.str (Str.ofString "begin") 463, Value.str (Str.ofString "end") 464, Value.str (Str.ofString "open_ones") 465, Value.str (Str.ofString "c") 466]) #[] ::
    Obj.mk (Value.type "tuple") none (Data.seq #[]) #[] ::
    Obj.mk Value.none none (Data.func (FuncData.mk (Str.ofString "match_balance") (Str.ofString "Matcher.match_balance") p196 (FuncBody.stmts b196) s196 0 [] Value.none Value.none Value.none Value.none none Value.none Value.none 0)) #[] ::
    Obj.mk (Value.type "code") none (Data.fields #[Value.str (Str.ofString "match_balance") 457, Value.str (Str.ofString "Matcher.match_balance") 458, Value.str (Str.ofString "/claim/cut.py") 459, Value.int 213 0, Value.int 3 0, Value.int 0 0, Value.int 0 0, Value.int 3 0, Value.ref 190, Value.bool Bool.true, Value.int 181 0, Value.ref 191, Value.none, Value.ref 192, Value.ref 193, Value.ref 194, Value.int 467 0, Value.int 213 0, Value.str (Str.ofString "/claim/cut.py") 468]) #[] ::
    Obj.mk (Value.type "function") none (Data.func (FuncData.mk (Str.ofString "match_balance") (Str.ofString "Matcher.match_balance") p196 (FuncBody.stmts b196) s196 3 [] Value.none Value.none Value.none (Value.str (Str.ofString "lua.patterns") 240) none (Value.ref 195) Value.none 0)) #[] ::
    Obj.mk (Value.type "tuple") none (Data.seq #[]) #[] ::
    Obj.mk Value.none none (Data.fields #[]) #[] ::
    Obj.mk (Value.type "tuple") none (Data.seq #[Value.str (Str.ofString "self") 473, Value.str (Str.ofString "s") 474, Value.str (Str.ofString "p") 475, Value.str (Str.ofString "end") 476, Value.str (Str.ofString "ahead") 477, Value.str (Str.ofString "here") 478]) #[] ::
    Obj.mk (Value.type "tuple") none (Data.seq #[]) #[] ::
    Obj.mk Value.none none (Data.func (FuncData.mk (Str.ofString "match_frontier") (Str.ofString "Matcher.match_frontier") p203 (FuncBody.stmts b203) s203 0 [] Value.none Value.none Value.none Value.none none Value.none Value.none 0)) #[] ::
    Obj.mk (Value.type "code") none (Data.fields #[Value.str (Str.ofString "match_frontier") 470, Value.str (Str.ofString "Matcher.match_frontier") 471, Value.str (Str.ofString "/claim/cut.py") 472, Value.int 233 0, Value.int 3 0, Value.int 0 0, Value.int 0 0, Value.int 3 0, Value.ref 197, Value.bool Bool.true, Value.int 181 0, Value.ref 198, Value.none, Value.ref 199, Value.ref 200, Value.ref 201, Value.int 479 0, Value.int 233 0, Value.str (Str.ofString "/claim/cut.py") 480]) #[] ::
    Obj.mk (Value.type "function") none (Data.func (FuncData.mk (Str.ofString "match_frontier") (Str.ofString "Matcher.match_frontier") p203 (FuncBody.stmts b203) s203 3 [] Value.none Value.none Value.none (Value.str (Str.ofString "lua.patterns") 240) none (Value.ref 202) Value.none 0)) #[] ::
    Obj.mk (Value.type "tuple") none (Data.seq #[]) #[] ::
    Obj.mk Value.none none (Data.fields #[]) #[] ::
    Obj.mk (Value.type "tuple") none (Data.seq #[Value.str (Str.ofString "self") 485, Value.str (Str.ofString "s") 486, Value.str (Str.ofString "p") 487, Value.str (Str.ofString "end") 488, Value.str (Str.ofString "many") 489, Value.str (Str.ofString "found") 490]) #[] ::
    Obj.mk (Value.type "tuple") none (Data.seq #[]) #[] ::
    Obj.mk Value.none none (Data.func (FuncData.mk (Str.ofString "expand_most") (Str.ofString "Matcher.expand_most") p210 (FuncBody.stmts b210) s210 0 [] Value.none Value.none Value.none Value.none none Value.none Value.none 0)) #[] ::
    Obj.mk (Value.type "code") none (Data.fields #[Value.str (Str.ofString "expand_most") 482, Value.str (Str.ofString "Matcher.expand_most") 483, Value.str (Str.ofString "/claim/cut.py") 484, Value.int 243 0, Value.int 4 0, Value.int 0 0, Value.int 0 0, Value.int 3 0, Value.ref 204, Value.bool Bool.true, Value.int 181 0, Value.ref 205, Value.none, Value.ref 206, Value.ref 207, Value.ref 208, Value.int 491 0, Value.int 243 0, Value.str (Str.ofString "/claim/cut.py") 492]) #[] ::
    Obj.mk (Value.type "function") none (Data.func (FuncData.mk (Str.ofString "expand_most") (Str.ofString "Matcher.expand_most") p210 (FuncBody.stmts b210) s210 3 [] Value.none Value.none Value.none (Value.str (Str.ofString "lua.patterns") 240) none (Value.ref 209) Value.none 0)) #[] ::
    Obj.mk (Value.type "tuple") none (Data.seq #[]) #[] ::
    Obj.mk Value.none none (Data.fields #[]) #[] ::
    Obj.mk (Value.type "tuple") none (Data.seq #[Value.str (Str.ofString "self") 497, Value.str (Str.ofString "s") 498, Value.str (Str.ofString "p") 499, Value.str (Str.ofString "end") 500, Value.str (Str.ofString "found") 501]) #[] ::
    Obj.mk (Value.type "tuple") none (Data.seq #[]) #[] ::
    Obj.mk Value.none none (Data.func (FuncData.mk (Str.ofString "expand_least") (Str.ofString "Matcher.expand_least") p217 (FuncBody.stmts b217) s217 0 [] Value.none Value.none Value.none Value.none none Value.none Value.none 0)) #[] ::
    Obj.mk (Value.type "code") none (Data.fields #[Value.str (Str.ofString "expand_least") 494, Value.str (Str.ofString "Matcher.expand_least") 495, Value.str (Str.ofString "/claim/cut.py") 496, Value.int 255 0, Value.int 4 0, Value.int 0 0, Value.int 0 0, Value.int 3 0, Value.ref 211, Value.bool Bool.true, Value.int 181 0, Value.ref 212, Value.none, Value.ref 213, Value.ref 214, Value.ref 215, Value.int 502 0, Value.int 255 0, Value.str (Str.ofString "/claim/cut.py") 503]) #[] ::
    Obj.mk (Value.type "function") none (Data.func (FuncData.mk (Str.ofString "expand_least") (Str.ofString "Matcher.expand_least") p217 (FuncBody.stmts b217) s217 3 [] Value.none Value.none Value.none (Value.str (Str.ofString "lua.patterns") 240) none (Value.ref 216) Value.none 0)) #[] ::
    Obj.mk (Value.type "tuple") none (Data.seq #[]) #[] ::
    Obj.mk Value.none none (Data.fields #[]) #[] ::
    Obj.mk (Value.type "tuple") none (Data.seq #[Value.str (Str.ofString "self") 508, Value.str (Str.ofString "s") 509, Value.str (Str.ofString "p") 510, Value.str (Str.ofString "kind") 511, Value.str (Str.ofString "found") 512]) #[] ::
    Obj.mk (Value.type "tuple") none (Data.seq #[]) #[] ::
    Obj.mk Value.none none (Data.func (FuncData.mk (Str.ofString "start_capture") (Str.ofString "Matcher.start_capture") p224 (FuncBody.stmts b224) s224 0 [] Value.none Value.none Value.none Value.none none Value.none Value.none 0)) #[] ::
    Obj.mk (Value.type "code") none (Data.fields #[Value.str (Str.ofString "start_capture") 505, Value.str (Str.ofString "Matcher.start_capture") 506, Value.str (Str.ofString "/claim/cut.py") 507, Value.int 264 0, Value.int 4 0, Value.int 0 0, Value.int 0 0, Value.int 3 0, Value.ref 218, Value.bool Bool.true, Value.int 181 0, Value.ref 219, Value.none, Value.ref 220, Value.ref 221, Value.ref 222, Value.int 513 0, Value.int 264 0, Value.str (Str.ofString "/claim/cut.py") 514]) #[] ::
    Obj.mk (Value.type "function") none (Data.func (FuncData.mk (Str.ofString "start_capture") (Str.ofString "Matcher.start_capture") p224 (FuncBody.stmts b224) s224 3 [] Value.none Value.none Value.none (Value.str (Str.ofString "lua.patterns") 240) none (Value.ref 223) Value.none 0)) #[] ::
    Obj.mk (Value.type "tuple") none (Data.seq #[]) #[] ::
    Obj.mk Value.none none (Data.fields #[]) #[] ::
    Obj.mk (Value.type "tuple") none (Data.seq #[Value.str (Str.ofString "self") 519, Value.str (Str.ofString "s") 520, Value.str (Str.ofString "p") 521, Value.str (Str.ofString "number") 522, Value.str (Str.ofString "found") 523]) #[] ::
    Obj.mk (Value.type "tuple") none (Data.seq #[]) #[] ::
    Obj.mk Value.none none (Data.func (FuncData.mk (Str.ofString "end_capture") (Str.ofString "Matcher.end_capture") p231 (FuncBody.stmts b231) s231 0 [] Value.none Value.none Value.none Value.none none Value.none Value.none 0)) #[] ::
    Obj.mk (Value.type "code") none (Data.fields #[Value.str (Str.ofString "end_capture") 516, Value.str (Str.ofString "Matcher.end_capture") 517, Value.str (Str.ofString "/claim/cut.py") 518, Value.int 275 0, Value.int 3 0, Value.int 0 0, Value.int 0 0, Value.int 3 0, Value.ref 225, Value.bool Bool.true, Value.int 181 0, Value.ref 226, Value.none, Value.ref 227, Value.ref 228, Value.ref 229, Value.int 524 0, Value.int 275 0, Value.str (Str.ofString "/claim/cut.py") 525]) #[] ::
    Obj.mk (Value.type "function") none (Data.func (FuncData.mk (Str.ofString "end_capture") (Str.ofString "Matcher.end_capture") p231 (FuncBody.stmts b231) s231 3 [] Value.none Value.none Value.none (Value.str (Str.ofString "lua.patterns") 240) none (Value.ref 230) Value.none 0)) #[] ::
    Obj.mk (Value.type "tuple") none (Data.seq #[]) #[] ::
    Obj.mk Value.none none (Data.fields #[]) #[] ::
    Obj.mk (Value.type "tuple") none (Data.seq #[Value.str (Str.ofString "self") 530, Value.str (Str.ofString "number") 531]) #[] ::
    Obj.mk (Value.type "tuple") none (Data.seq #[]) #[] ::
    Obj.mk Value.none none (Data.func (FuncData.mk (Str.ofString "to_close") (Str.ofString "Matcher.to_close") p238 (FuncBody.stmts b238) s238 0 [] Value.none Value.none Value.none Value.none none Value.none Value.none 0)) #[] ::
    Obj.mk (Value.type "code") none (Data.fields #[Value.str (Str.ofString "to_close") 527, Value.str (Str.ofString "Matcher.to_close") 528, Value.str (Str.ofString "/claim/cut.py") 529, Value.int 283 0, Value.int 1 0, Value.int 0 0, Value.int 0 0, Value.int 3 0, Value.ref 232, Value.bool Bool.true, Value.int 181 0, Value.ref 233, Value.none, Value.ref 234, Value.ref 235, Value.ref 236, Value.int 532 0, Value.int 283 0, Value.str (Str.ofString "/claim/cut.py") 533]) #[] ::
    Obj.mk (Value.type "function") none (Data.func (FuncData.mk (Str.ofString "to_close") (Str.ofString "Matcher.to_close") p238 (FuncBody.stmts b238) s238 3 [] Value.none Value.none Value.none (Value.str (Str.ofString "lua.patterns") 240) none (Value.ref 237) Value.none 0)) #[] ::
    Obj.mk (Value.type "tuple") none (Data.seq #[]) #[] ::
    Obj.mk Value.none none (Data.fields #[]) #[] ::
    Obj.mk (Value.type "tuple") none (Data.seq #[Value.str (Str.ofString "self") 538, Value.str (Str.ofString "s") 539, Value.str (Str.ofString "digit") 540, Value.str (Str.ofString "number") 541, Value.str (Str.ofString "size") 542, Value.str (Str.ofString "start") 543]) #[] ::
    Obj.mk (Value.type "tuple") none (Data.seq #[]) #[] ::
    Obj.mk Value.none none (Data.func (FuncData.mk (Str.ofString "match_capture") (Str.ofString "Matcher.match_capture") p245 (FuncBody.stmts b245) s245 0 [] Value.none Value.none Value.none Value.none none Value.none Value.none 0)) #[] ::
    Obj.mk (Value.type "code") none (Data.fields #[Value.str (Str.ofString "match_capture") 535, Value.str (Str.ofString "Matcher.match_capture") 536, Value.str (Str.ofString "/claim/cut.py") 537, Value.int 291 0, Value.int 3 0, Value.int 0 0, Value.int 0 0, Value.int 3 0, Value.ref 239, Value.bool Bool.true, Value.int 181 0, Value.ref 240, Value.none, Value.ref 241, Value.ref 242, Value.ref 243, Value.int 544 0, Value.int 291 0, Value.str (Str.ofString "/claim/cut.py") 545]) #[] ::
    Obj.mk (Value.type "function") none (Data.func (FuncData.mk (Str.ofString "match_capture") (Str.ofString "Matcher.match_capture") p245 (FuncBody.stmts b245) s245 3 [] Value.none Value.none Value.none (Value.str (Str.ofString "lua.patterns") 240) none (Value.ref 244) Value.none 0)) #[] ::
    Obj.mk (Value.type "tuple") none (Data.seq #[]) #[] ::
    Obj.mk Value.none none (Data.fields #[]) #[] ::
    Obj.mk (Value.type "tuple") none (Data.seq #[Value.str (Str.ofString "self") 550, Value.str (Str.ofString "number") 551, Value.str (Str.ofString "s") 552, Value.str (Str.ofString "end") 553, Value.str (Str.ofString "size") 554, Value.str (Str.ofString "start") 555]) #[] ::
    Obj.mk (Value.type "tuple") none (Data.seq #[]) #[] ::
    Obj.mk Value.none none (Data.func (FuncData.mk (Str.ofString "capture") (Str.ofString "Matcher.capture") p252 (FuncBody.stmts b252) s252 0 [] Value.none Value.none Value.none Value.none none Value.none Value.none 0)) #[] ::
    Obj.mk (Value.type "code") none (Data.fields #[Value.str (Str.ofString "capture") 547, Value.str (Str.ofString "Matcher.capture") 548, Value.str (Str.ofString "/claim/cut.py") 549, Value.int 301 0, Value.int 4 0, Value.int 0 0, Value.int 0 0, Value.int 3 0, Value.ref 246, Value.bool Bool.true, Value.int 181 0, Value.ref 247, Value.none, Value.ref 248, Value.ref 249, Value.ref 250, Value.int 556 0, Value.int 301 0, Value.str (Str.ofString "/claim/cut.py") 557]) #[] ::
    Obj.mk (Value.type "function") none (Data.func (FuncData.mk (Str.ofString "capture") (Str.ofString "Matcher.capture") p252 (FuncBody.stmts b252) s252 3 [] Value.none Value.none Value.none (Value.str (Str.ofString "lua.patterns") 240) none (Value.ref 251) Value.none 0)) #[] ::
    Obj.mk (Value.type "tuple") none (Data.seq #[]) #[] ::
    Obj.mk Value.none none (Data.fields #[]) #[] ::
    Obj.mk Value.none none (Data.func (FuncData.mk (Str.ofString "captures") (Str.ofString "Matcher.captures") p257 (FuncBody.stmts b257) s257 0 [] Value.none Value.none Value.none Value.none none Value.none Value.none 0)) #[] ::
    Obj.mk (Value.type "code") none (Data.fields #[Value.str (Str.ofString "captures") 559, Value.str (Str.ofString "Matcher.captures") 560, Value.str (Str.ofString "/claim/cut.py") 561, Value.int 311 0, Value.int 4 0, Value.int 0 0, Value.int 0 0, Value.int 3 0, Value.ref 253, Value.bool Bool.true, Value.int 181 0, Value.ref 254, Value.none, Value.none, Value.none, Value.ref 255, Value.int 562 0, Value.int 311 0, Value.str (Str.ofString "/claim/cut.py") 563]) #[] ::
    Obj.mk (Value.type "function") none (Data.func (FuncData.mk (Str.ofString "captures") (Str.ofString "Matcher.captures") p257 (FuncBody.stmts b257) s257 3 [] Value.none Value.none Value.none (Value.str (Str.ofString "lua.patterns") 240) none (Value.ref 256) Value.none 0)) #[] ::
    Obj.mk (Value.type "tuple") none (Data.seq #[]) #[] ::
    Obj.mk Value.none none (Data.fields #[]) #[] ::
    Obj.mk (Value.type "tuple") none (Data.seq #[Value.str (Str.ofString "self") 568, Value.str (Str.ofString "init") 569, Value.str (Str.ofString "p") 570, Value.str (Str.ofString "is_anchored") 571]) #[] ::
    Obj.mk (Value.type "tuple") none (Data.seq #[]) #[] ::
    Obj.mk Value.none none (Data.func (FuncData.mk (Str.ofString "search") (Str.ofString "Matcher.search") p264 (FuncBody.stmts b264) s264 0 [] Value.none Value.none Value.none Value.none none Value.none Value.none 0)) #[] ::
    Obj.mk (Value.type "code") none (Data.fields #[Value.str (Str.ofString "search") 565, Value.str (Str.ofString "Matcher.search") 566, Value.str (Str.ofString "/claim/cut.py") 567, Value.int 315 0, Value.int 4 0, Value.int 0 0, Value.int 0 0, Value.int 3 0, Value.ref 258, Value.bool Bool.true, Value.int 181 0, Value.ref 259, Value.none, Value.ref 260, Value.ref 261, Value.ref 262, Value.int 572 0, Value.int 315 0, Value.str (Str.ofString "/claim/cut.py") 573]) #[] ::
    Obj.mk (Value.type "function") none (Data.func (FuncData.mk (Str.ofString "search") (Str.ofString "Matcher.search") p264 (FuncBody.stmts b264) s264 3 [] Value.none Value.none Value.none (Value.str (Str.ofString "lua.patterns") 240) none (Value.ref 263) Value.none 0)) #[] ::
    Obj.mk (Value.type "tuple") none (Data.seq #[Value.str (Str.ofString "depth") 575, Value.str (Str.ofString "lengths") 576, Value.str (Str.ofString "level") 577, Value.str (Str.ofString "most_depth") 578, Value.str (Str.ofString "pattern") 579, Value.str (Str.ofString "starts") 580, Value.str (Str.ofString "text") 581, Value.str (Str.ofString "tick") 582]) #[] ::
    Obj.mk (Value.type "dict") none (Data.dict #[DictEntry.mk (PyData.keyHash P (Str.ofString "__module__")) (Value.str (Str.ofString "__module__") 347) (Value.str (Str.ofString "lua.patterns") 240), DictEntry.mk (PyData.keyHash P (Str.ofString "__firstlineno__")) (Value.str (Str.ofString "__firstlineno__") 351) (Value.int 78 350), DictEntry.mk (PyData.keyHash P (Str.ofString "__init__")) (Value.str (Str.ofString "__init__") 364) (Value.ref 126), DictEntry.mk (PyData.keyHash P (Str.ofString "count")) (Value.str (Str.ofString "count") 371) (Value.ref 133), DictEntry.mk (PyData.keyHash P (Str.ofString "reset")) (Value.str (Str.ofString "reset") 378) (Value.ref 140), DictEntry.mk (PyData.keyHash P (Str.ofString "at")) (Value.str (Str.ofString "at") 386) (Value.ref 147), DictEntry.mk (PyData.keyHash P (Str.ofString "class_end")) (Value.str (Str.ofString "class_end") 397) (Value.ref 154), DictEntry.mk (PyData.keyHash P (Str.ofString "in_set")) (Value.str (Str.ofString "in_set") 409) (Value.ref 161), DictEntry.mk (PyData.keyHash P (Str.ofString "is_single")) (Value.str (Str.ofString "is_single") 421) (Value.ref 168), DictEntry.mk (PyData.keyHash P (Str.ofString "match")) (Value.str (Str.ofString "match") 431) (Value.ref 175), DictEntry.mk (PyData.keyHash P (Str.ofString "match_here")) (Value.str (Str.ofString "match_here") 446) (Value.ref 182), DictEntry.mk (PyData.keyHash P (Str.ofString "match_special")) (Value.str (Str.ofString "match_special") 456) (Value.ref 189), DictEntry.mk (PyData.keyHash P (Str.ofString "match_balance")) (Value.str (Str.ofString "match_balance") 469) (Value.ref 196), DictEntry.mk (PyData.keyHash P (Str.ofString "match_frontier")) (Value.str (Str.ofString "match_frontier") 481) (Value.ref 203), DictEntry.mk (PyData.keyHash P (Str.ofString "expand_most")) (Value.str (Str.ofString "expand_most") 493) (Value.ref 210), DictEntry.mk (PyData.keyHash P (Str.ofString "expand_least")) (Value.str (Str.ofString "expand_least") 504) (Value.ref 217), DictEntry.mk (PyData.keyHash P (Str.ofString "start_capture")) (Value.str (Str.ofString "start_capture") 515) (Value.ref 224), DictEntry.mk (PyData.keyHash P (Str.ofString "end_capture")) (Value.str (Str.ofString "end_capture") 526) (Value.ref 231), DictEntry.mk (PyData.keyHash P (Str.ofString "to_close")) (Value.str (Str.ofString "to_close") 534) (Value.ref 238), DictEntry.mk (PyData.keyHash P (Str.ofString "match_capture")) (Value.str (Str.ofString "match_capture") 546) (Value.ref 245), DictEntry.mk (PyData.keyHash P (Str.ofString "capture")) (Value.str (Str.ofString "capture") 558) (Value.ref 252), DictEntry.mk (PyData.keyHash P (Str.ofString "captures")) (Value.str (Str.ofString "captures") 564) (Value.ref 257), DictEntry.mk (PyData.keyHash P (Str.ofString "search")) (Value.str (Str.ofString "search") 574) (Value.ref 264), DictEntry.mk (PyData.keyHash P (Str.ofString "__static_attributes__")) (Value.str (Str.ofString "__static_attributes__") 583) (Value.ref 265), DictEntry.mk (PyData.keyHash P (Str.ofString "__dict__")) (Value.str (Str.ofString "__dict__") 585) (Value.ref 268), DictEntry.mk (PyData.keyHash P (Str.ofString "__weakref__")) (Value.str (Str.ofString "__weakref__") 587) (Value.ref 269), DictEntry.mk (PyData.keyHash P (Str.ofString "__doc__")) (Value.str (Str.ofString "__doc__") 588) Value.none] 4) #[] ::
    Obj.mk (Value.type "type") none (Data.cls (ClassData.mk (Str.ofString "Matcher") [Value.type "object"] [Value.ref 267, Value.type "object"] 266 (Str.ofString "Matcher") Bool.true [] [] Bool.false none Bool.false)) #[none, none, some (Value.str (Str.ofString "Matcher") 340), some (Value.str (Str.ofString "Matcher") 348), some (Value.builtin "object.__new__"), some (Value.bool Bool.true)] ::
    Obj.mk (Value.type "getset_descriptor") none (Data.fields #[Value.str (Str.ofString "__dict__") 584, Value.ref 267, Value.builtin "function.__dict__", Value.builtin "function.__dict__#set"]) #[] ::
    Obj.mk (Value.type "getset_descriptor") none (Data.fields #[Value.str (Str.ofString "__weakref__") 586, Value.ref 267, Value.builtin "ExceptionGroup.__weakref__", Value.none]) #[] ::
    Obj.mk (Value.type "super") none (Data.fields #[Value.ref 267, Value.ref 267, Value.ref 267]) #[] ::
    Obj.mk (Value.type "builtin_function_or_method") none (Data.fields #[Value.builtin "object.__init_subclass__", Value.ref 267]) #[] :: [])) (Life.mk [] [] [] 0 [] [] false #[] [] 0 false false false 0 [2000, 10, 10] false 0 true [] [] 0 false)
noncomputable def H3 : Params → Heap := by
  refine (?f : (p21 : Arguments) → (b21 : List Stmt) → (s21 : Scope) → topParts 0 = some (p21, b21, s21) →
    (p28 : Arguments) → (b28 : List Stmt) → (s28 : Scope) → topParts 2 = some (p28, b28, s28) →
    (p42 : Arguments) → (b42 : List Stmt) → (s42 : Scope) → methParts 4 0 = some (p42, b42, s42) →
    (p55 : Arguments) → (b55 : List Stmt) → (s55 : Scope) → topParts 21 = some (p55, b55, s55) →
    (p62 : Arguments) → (b62 : List Stmt) → (s62 : Scope) → topParts 22 = some (p62, b62, s62) →
    (p69 : Arguments) → (b69 : List Stmt) → (s69 : Scope) → topParts 23 = some (p69, b69, s69) →
    (p76 : Arguments) → (b76 : List Stmt) → (s76 : Scope) → topParts 24 = some (p76, b76, s76) →
    (p83 : Arguments) → (b83 : List Stmt) → (s83 : Scope) → topParts 25 = some (p83, b83, s83) →
    (p90 : Arguments) → (b90 : List Stmt) → (s90 : Scope) → topParts 26 = some (p90, b90, s90) →
    (p97 : Arguments) → (b97 : List Stmt) → (s97 : Scope) → topParts 27 = some (p97, b97, s97) →
    (p104 : Arguments) → (b104 : List Stmt) → (s104 : Scope) → topParts 28 = some (p104, b104, s104) →
    (p111 : Arguments) → (b111 : List Stmt) → (s111 : Scope) → topParts 29 = some (p111, b111, s111) →
    (p126 : Arguments) → (b126 : List Stmt) → (s126 : Scope) → methParts 30 0 = some (p126, b126, s126) →
    (p133 : Arguments) → (b133 : List Stmt) → (s133 : Scope) → methParts 30 1 = some (p133, b133, s133) →
    (p140 : Arguments) → (b140 : List Stmt) → (s140 : Scope) → methParts 30 2 = some (p140, b140, s140) →
    (p147 : Arguments) → (b147 : List Stmt) → (s147 : Scope) → methParts 30 3 = some (p147, b147, s147) →
    (p154 : Arguments) → (b154 : List Stmt) → (s154 : Scope) → methParts 30 4 = some (p154, b154, s154) →
    (p161 : Arguments) → (b161 : List Stmt) → (s161 : Scope) → methParts 30 5 = some (p161, b161, s161) →
    (p168 : Arguments) → (b168 : List Stmt) → (s168 : Scope) → methParts 30 6 = some (p168, b168, s168) →
    (p175 : Arguments) → (b175 : List Stmt) → (s175 : Scope) → methParts 30 7 = some (p175, b175, s175) →
    (p182 : Arguments) → (b182 : List Stmt) → (s182 : Scope) → methParts 30 8 = some (p182, b182, s182) →
    (p189 : Arguments) → (b189 : List Stmt) → (s189 : Scope) → methParts 30 9 = some (p189, b189, s189) →
    (p196 : Arguments) → (b196 : List Stmt) → (s196 : Scope) → methParts 30 10 = some (p196, b196, s196) →
    (p203 : Arguments) → (b203 : List Stmt) → (s203 : Scope) → methParts 30 11 = some (p203, b203, s203) →
    (p210 : Arguments) → (b210 : List Stmt) → (s210 : Scope) → methParts 30 12 = some (p210, b210, s210) →
    (p217 : Arguments) → (b217 : List Stmt) → (s217 : Scope) → methParts 30 13 = some (p217, b217, s217) →
    (p224 : Arguments) → (b224 : List Stmt) → (s224 : Scope) → methParts 30 14 = some (p224, b224, s224) →
    (p231 : Arguments) → (b231 : List Stmt) → (s231 : Scope) → methParts 30 15 = some (p231, b231, s231) →
    (p238 : Arguments) → (b238 : List Stmt) → (s238 : Scope) → methParts 30 16 = some (p238, b238, s238) →
    (p245 : Arguments) → (b245 : List Stmt) → (s245 : Scope) → methParts 30 17 = some (p245, b245, s245) →
    (p252 : Arguments) → (b252 : List Stmt) → (s252 : Scope) → methParts 30 18 = some (p252, b252, s252) →
    (p257 : Arguments) → (b257 : List Stmt) → (s257 : Scope) → methParts 30 19 = some (p257, b257, s257) →
    (p264 : Arguments) → (b264 : List Stmt) → (s264 : Scope) → methParts 30 20 = some (p264, b264, s264) →
    (p278 : Arguments) → (b278 : List Stmt) → (s278 : Scope) → topParts 32 = some (p278, b278, s278) →
    (p285 : Arguments) → (b285 : List Stmt) → (s285 : Scope) → topParts 33 = some (p285, b285, s285) →
    (p290 : Arguments) → (b290 : List Stmt) → (s290 : Scope) → topParts 34 = some (p290, b290, s290) →
    (p295 : Arguments) → (b295 : List Stmt) → (s295 : Scope) → topParts 35 = some (p295, b295, s295) →
    (p300 : Arguments) → (b300 : List Stmt) → (s300 : Scope) → topParts 36 = some (p300, b300, s300) →
    (p307 : Arguments) → (b307 : List Stmt) → (s307 : Scope) → topParts 37 = some (p307, b307, s307) →
    Params → Heap) _ _ _ rfl _ _ _ rfl _ _ _ rfl _ _ _ rfl _ _ _ rfl _ _ _ rfl _ _ _ rfl _ _ _ rfl _ _ _ rfl _ _ _ rfl _ _ _ rfl _ _ _ rfl _ _ _ rfl _ _ _ rfl _ _ _ rfl _ _ _ rfl _ _ _ rfl _ _ _ rfl _ _ _ rfl _ _ _ rfl _ _ _ rfl _ _ _ rfl _ _ _ rfl _ _ _ rfl _ _ _ rfl _ _ _ rfl _ _ _ rfl _ _ _ rfl _ _ _ rfl _ _ _ rfl _ _ _ rfl _ _ _ rfl _ _ _ rfl _ _ _ rfl _ _ _ rfl _ _ _ rfl _ _ _ rfl _ _ _ rfl _ _ _ rfl
  exact fun p21 b21 s21 _ p28 b28 s28 _ p42 b42 s42 _ p55 b55 s55 _ p62 b62 s62 _ p69 b69 s69 _ p76 b76 s76 _ p83 b83 s83 _ p90 b90 s90 _ p97 b97 s97 _ p104 b104 s104 _ p111 b111 s111 _ p126 b126 s126 _ p133 b133 s133 _ p140 b140 s140 _ p147 b147 s147 _ p154 b154 s154 _ p161 b161 s161 _ p168 b168 s168 _ p175 b175 s175 _ p182 b182 s182 _ p189 b189 s189 _ p196 b196 s196 _ p203 b203 s203 _ p210 b210 s210 _ p217 b217 s217 _ p224 b224 s224 _ p231 b231 s231 _ p238 b238 s238 _ p245 b245 s245 _ p252 b252 s252 _ p257 b257 s257 _ p264 b264 s264 _ p278 b278 s278 _ p285 b285 s285 _ p290 b290 s290 _ p295 b295 s295 _ p300 b300 s300 _ p307 b307 s307 _ P => Heap.mk (Array.mk (
    Obj.mk (Value.type "dict") none (Data.dict #[DictEntry.mk (PyData.keyHash P (Str.ofString "__name__")) (Value.str (Str.ofString "__name__") 1) (Value.str (Str.ofString "builtins") 160), DictEntry.mk (PyData.keyHash P (Str.ofString "__doc__")) (Value.str (Str.ofString "__doc__") 2) (Value.builtin "builtins.__doc__:str#opaque"), DictEntry.mk (PyData.keyHash P (Str.ofString "__package__")) (Value.str (Str.ofString "__package__") 3) (Value.builtin "builtins.__package__:str#opaque"), DictEntry.mk (PyData.keyHash P (Str.ofString "__loader__")) (Value.str (Str.ofString "__loader__") 4) (Value.builtin "builtins.__loader__:shared#opaque"), DictEntry.mk (PyData.keyHash P (Str.ofString "__spec__")) (Value.str (Str.ofString "__spec__") 5) (Value.builtin "builtins.__spec__#opaque"), DictEntry.mk (PyData.keyHash P (Str.ofString "__build_class__")) (Value.str (Str.ofString "__build_class__") 6) (Value.builtin "__build_class__"), DictEntry.mk (PyData.keyHash P (Str.ofString "__import__")) (Value.str (Str.ofString "__import__") 7) (Value.builtin "__import__"), DictEntry.mk (PyData.keyHash P (Str.ofString "abs")) (Value.str (Str.ofString "abs") 8) (Value.builtin "abs"), DictEntry.mk (PyData.keyHash P (Str.ofString "all")) (Value.str (Str.ofString "all") 9) (Value.builtin "all"), DictEntry.mk (PyData.keyHash P (Str.ofString "any")) (Value.str (Str.ofString "any") 10) (Value.builtin "any"), DictEntry.mk (PyData.keyHash P (Str.ofString "ascii")) (Value.str (Str.ofString "ascii") 11) (Value.builtin "ascii"), DictEntry.mk (PyData.keyHash P (Str.ofString "bin")) (Value.str (Str.ofString "bin") 12) (Value.builtin "bin"), DictEntry.mk (PyData.keyHash P (Str.ofString "breakpoint")) (Value.str (Str.ofString "breakpoint") 13) (Value.builtin "breakpoint"), DictEntry.mk (PyData.keyHash P (Str.ofString "callable")) (Value.str (Str.ofString "callable") 14) (Value.builtin "callable"), DictEntry.mk (PyData.keyHash P (Str.ofString "chr")) (Value.str (Str.ofString "chr") 15) (Value.builtin "chr"), DictEntry.mk (PyData.keyHash P (Str.ofString "compile")) (Value.str (Str.ofString "compile") 16) (Value.builtin "compile"), DictEntry.mk (PyData.keyHash P (Str.ofString "delattr")) (Value.str (Str.ofString "delattr") 17) (Value.builtin "delattr"), DictEntry.mk (PyData.keyHash P (Str.ofString "dir")) (Value.str (Str.ofString "dir") 18) (Value.builtin "dir"), DictEntry.mk (PyData.keyHash P (Str.ofString "divmod")) (Value.str (Str.ofString "divmod") 19) (Value.builtin "divmod"), DictEntry.mk (PyData.keyHash P (Str.ofString "eval")) (Value.str (Str.ofString "eval") 20) (Value.builtin "eval"), DictEntry.mk (PyData.keyHash P (Str.ofString "exec")) (Value.str (Str.ofString "exec") 21) (Value.builtin "exec"), DictEntry.mk (PyData.keyHash P (Str.ofString "format")) (Value.str (Str.ofString "format") 22) (Value.builtin "format"), DictEntry.mk (PyData.keyHash P (Str.ofString "getattr")) (Value.str (Str.ofString "getattr") 23) (Value.builtin "getattr"), DictEntry.mk (PyData.keyHash P (Str.ofString "globals")) (Value.str (Str.ofString "globals") 24) (Value.builtin "globals"), DictEntry.mk (PyData.keyHash P (Str.ofString "hasattr")) (Value.str (Str.ofString "hasattr") 25) (Value.builtin "hasattr"), DictEntry.mk (PyData.keyHash P (Str.ofString "hash")) (Value.str (Str.ofString "hash") 26) (Value.builtin "hash"), DictEntry.mk (PyData.keyHash P (Str.ofString "hex")) (Value.str (Str.ofString "hex") 27) (Value.builtin "hex"), DictEntry.mk (PyData.keyHash P (Str.ofString "id")) (Value.str (Str.ofString "id") 28) (Value.builtin "id"), DictEntry.mk (PyData.keyHash P (Str.ofString "input")) (Value.str (Str.ofString "input") 29) (Value.builtin "input"), DictEntry.mk (PyData.keyHash P (Str.ofString "isinstance")) (Value.str (Str.ofString "isinstance") 30) (Value.builtin "isinstance"), DictEntry.mk (PyData.keyHash P (Str.ofString "issubclass")) (Value.str (Str.ofString "issubclass") 31) (Value.builtin "issubclass"), DictEntry.mk (PyData.keyHash P (Str.ofString "iter")) (Value.str (Str.ofString "iter") 32) (Value.builtin "iter"), DictEntry.mk (PyData.keyHash P (Str.ofString "aiter")) (Value.str (Str.ofString "aiter") 33) (Value.builtin "aiter"), DictEntry.mk (PyData.keyHash P (Str.ofString "len")) (Value.str (Str.ofString "len") 34) (Value.builtin "len"), DictEntry.mk (PyData.keyHash P (Str.ofString "locals")) (Value.str (Str.ofString "locals") 35) (Value.builtin "locals"), DictEntry.mk (PyData.keyHash P (Str.ofString "max")) (Value.str (Str.ofString "max") 36) (Value.builtin "max"), DictEntry.mk (PyData.keyHash P (Str.ofString "min")) (Value.str (Str.ofString "min") 37) (Value.builtin "min"), DictEntry.mk (PyData.keyHash P (Str.ofString "next")) (Value.str (Str.ofString "next") 38) (Value.builtin "next"), DictEntry.mk (PyData.keyHash P (Str.ofString "anext")) (Value.str (Str.ofString "anext") 39) (Value.builtin "anext"), DictEntry.mk (PyData.keyHash P (Str.ofString "oct")) (Value.str (Str.ofString "oct") 40) (Value.builtin "oct"), DictEntry.mk (PyData.keyHash P (Str.ofString "ord")) (Value.str (Str.ofString "ord") 41) (Value.builtin "ord"), DictEntry.mk (PyData.keyHash P (Str.ofString "pow")) (Value.str (Str.ofString "pow") 42) (Value.builtin "pow"), DictEntry.mk (PyData.keyHash P (Str.ofString "print")) (Value.str (Str.ofString "print") 43) (Value.builtin "print"), DictEntry.mk (PyData.keyHash P (Str.ofString "repr")) (Value.str (Str.ofString "repr") 44) (Value.builtin "repr"), DictEntry.mk (PyData.keyHash P (Str.ofString "round")) (Value.str (Str.ofString "round") 45) (Value.builtin "round"), DictEntry.mk (PyData.keyHash P (Str.ofString "setattr")) (Value.str (Str.ofString "setattr") 46) (Value.builtin "setattr"), DictEntry.mk (PyData.keyHash P (Str.ofString "sorted")) (Value.str (Str.ofString "sorted") 47) (Value.builtin "sorted"), DictEntry.mk (PyData.keyHash P (Str.ofString "sum")) (Value.str (Str.ofString "sum") 48) (Value.builtin "sum"), DictEntry.mk (PyData.keyHash P (Str.ofString "vars")) (Value.str (Str.ofString "vars") 49) (Value.builtin "vars"), DictEntry.mk (PyData.keyHash P (Str.ofString "None")) (Value.str (Str.ofString "None") 50) Value.none, DictEntry.mk (PyData.keyHash P (Str.ofString "Ellipsis")) (Value.str (Str.ofString "Ellipsis") 51) Value.ellipsis, DictEntry.mk (PyData.keyHash P (Str.ofString "NotImplemented")) (Value.str (Str.ofString "NotImplemented") 52) Value.notImplemented, DictEntry.mk (PyData.keyHash P (Str.ofString "False")) (Value.str (Str.ofString "False") 53) (Value.bool Bool.false), DictEntry.mk (PyData.keyHash P (Str.ofString "True")) (Value.str (Str.ofString "True") 54) (Value.bool Bool.true), DictEntry.mk (PyData.keyHash P (Str.ofString "bool")) (Value.str (Str.ofString "bool") 55) (Value.type "bool"), DictEntry.mk (PyData.keyHash P (Str.ofString "memoryview")) (Value.str (Str.ofString "memoryview") 56) (Value.type "memoryview"), DictEntry.mk (PyData.keyHash P (Str.ofString "bytearray")) (Value.str (Str.ofString "bytearray") 57) (Value.type "bytearray"), DictEntry.mk (PyData.keyHash P (Str.ofString "bytes")) (Value.str (Str.ofString "bytes") 58) (Value.type "bytes"), DictEntry.mk (PyData.keyHash P (Str.ofString "classmethod")) (Value.str (Str.ofString "classmethod") 59) (Value.type "classmethod"), DictEntry.mk (PyData.keyHash P (Str.ofString "complex")) (Value.str (Str.ofString "complex") 60) (Value.type "complex"), DictEntry.mk (PyData.keyHash P (Str.ofString "dict")) (Value.str (Str.ofString "dict") 61) (Value.type "dict"), DictEntry.mk (PyData.keyHash P (Str.ofString "enumerate")) (Value.str (Str.ofString "enumerate") 62) (Value.type "enumerate"), DictEntry.mk (PyData.keyHash P (Str.ofString "filter")) (Value.str (Str.ofString "filter") 63) (Value.type "filter"), DictEntry.mk (PyData.keyHash P (Str.ofString "float")) (Value.str (Str.ofString "float") 64) (Value.type "float"), DictEntry.mk (PyData.keyHash P (Str.ofString "frozenset")) (Value.str (Str.ofString "frozenset") 65) (Value.type "frozenset"), DictEntry.mk (PyData.keyHash P (Str.ofString "property")) (Value.str (Str.ofString "property") 66) (Value.type "property"), DictEntry.mk (PyData.keyHash P (Str.ofString "int")) (Value.str (Str.ofString "int") 67) (Value.type "int"), DictEntry.mk (PyData.keyHash P (Str.ofString "list")) (Value.str (Str.ofString "list") 68) (Value.type "list"), DictEntry.mk (PyData.keyHash P (Str.ofString "map")) (Value.str (Str.ofString "map") 69) (Value.type "map"), DictEntry.mk (PyData.keyHash P (Str.ofString "object")) (Value.str (Str.ofString "object") 70) (Value.type "object"), DictEntry.mk (PyData.keyHash P (Str.ofString "range")) (Value.str (Str.ofString "range") 71) (Value.type "range"), DictEntry.mk (PyData.keyHash P (Str.ofString "reversed")) (Value.str (Str.ofString "reversed") 72) (Value.type "reversed"), DictEntry.mk (PyData.keyHash P (Str.ofString "set")) (Value.str (Str.ofString "set") 73) (Value.type "set"), DictEntry.mk (PyData.keyHash P (Str.ofString "slice")) (Value.str (Str.ofString "slice") 74) (Value.type "slice"), DictEntry.mk (PyData.keyHash P (Str.ofString "staticmethod")) (Value.str (Str.ofString "staticmethod") 75) (Value.type "staticmethod"), DictEntry.mk (PyData.keyHash P (Str.ofString "str")) (Value.str (Str.ofString "str") 76) (Value.type "str"), DictEntry.mk (PyData.keyHash P (Str.ofString "super")) (Value.str (Str.ofString "super") 77) (Value.type "super"), DictEntry.mk (PyData.keyHash P (Str.ofString "tuple")) (Value.str (Str.ofString "tuple") 78) (Value.type "tuple"), DictEntry.mk (PyData.keyHash P (Str.ofString "type")) (Value.str (Str.ofString "type") 79) (Value.type "type"), DictEntry.mk (PyData.keyHash P (Str.ofString "zip")) (Value.str (Str.ofString "zip") 80) (Value.type "zip"), DictEntry.mk (PyData.keyHash P (Str.ofString "__debug__")) (Value.str (Str.ofString "__debug__") 81) (Value.bool Bool.true), DictEntry.mk (PyData.keyHash P (Str.ofString "BaseException")) (Value.str (Str.ofString "BaseException") 82) (Value.type "BaseException"), DictEntry.mk (PyData.keyHash P (Str.ofString "BaseExceptionGroup")) (Value.str (Str.ofString "BaseExceptionGroup") 83) (Value.type "BaseExceptionGroup"), DictEntry.mk (PyData.keyHash P (Str.ofString "Exception")) (Value.str (Str.ofString "Exception") 84) (Value.type "Exception"), DictEntry.mk (PyData.keyHash P (Str.ofString "GeneratorExit")) (Value.str (Str.ofString "GeneratorExit") 85) (Value.type "GeneratorExit"), DictEntry.mk (PyData.keyHash P (Str.ofString "KeyboardInterrupt")) (Value.str (Str.ofString "KeyboardInterrupt") 86) (Value.type "KeyboardInterrupt"), DictEntry.mk (PyData.keyHash P (Str.ofString "SystemExit")) (Value.str (Str.ofString "SystemExit") 87) (Value.type "SystemExit"), DictEntry.mk (PyData.keyHash P (Str.ofString "ArithmeticError")) (Value.str (Str.ofString "ArithmeticError") 88) (Value.type "ArithmeticError"), DictEntry.mk (PyData.keyHash P (Str.ofString "AssertionError")) (Value.str (Str.ofString "AssertionError") 89) (Value.type "AssertionError"), DictEntry.mk (PyData.keyHash P (Str.ofString "AttributeError")) (Value.str (Str.ofString "AttributeError") 90) (Value.type "AttributeError"), DictEntry.mk (PyData.keyHash P (Str.ofString "BufferError")) (Value.str (Str.ofString "BufferError") 91) (Value.type "BufferError"), DictEntry.mk (PyData.keyHash P (Str.ofString "EOFError")) (Value.str (Str.ofString "EOFError") 92) (Value.type "EOFError"), DictEntry.mk (PyData.keyHash P (Str.ofString "ImportError")) (Value.str (Str.ofString "ImportError") 93) (Value.type "ImportError"), DictEntry.mk (PyData.keyHash P (Str.ofString "LookupError")) (Value.str (Str.ofString "LookupError") 94) (Value.type "LookupError"), DictEntry.mk (PyData.keyHash P (Str.ofString "MemoryError")) (Value.str (Str.ofString "MemoryError") 95) (Value.type "MemoryError"), DictEntry.mk (PyData.keyHash P (Str.ofString "NameError")) (Value.str (Str.ofString "NameError") 96) (Value.type "NameError"), DictEntry.mk (PyData.keyHash P (Str.ofString "OSError")) (Value.str (Str.ofString "OSError") 97) (Value.type "OSError"), DictEntry.mk (PyData.keyHash P (Str.ofString "ReferenceError")) (Value.str (Str.ofString "ReferenceError") 98) (Value.type "ReferenceError"), DictEntry.mk (PyData.keyHash P (Str.ofString "RuntimeError")) (Value.str (Str.ofString "RuntimeError") 99) (Value.type "RuntimeError"), DictEntry.mk (PyData.keyHash P (Str.ofString "StopAsyncIteration")) (Value.str (Str.ofString "StopAsyncIteration") 100) (Value.type "StopAsyncIteration"), DictEntry.mk (PyData.keyHash P (Str.ofString "StopIteration")) (Value.str (Str.ofString "StopIteration") 101) (Value.type "StopIteration"), DictEntry.mk (PyData.keyHash P (Str.ofString "SyntaxError")) (Value.str (Str.ofString "SyntaxError") 102) (Value.type "SyntaxError"), DictEntry.mk (PyData.keyHash P (Str.ofString "SystemError")) (Value.str (Str.ofString "SystemError") 103) (Value.type "SystemError"), DictEntry.mk (PyData.keyHash P (Str.ofString "TypeError")) (Value.str (Str.ofString "TypeError") 104) (Value.type "TypeError"), DictEntry.mk (PyData.keyHash P (Str.ofString "ValueError")) (Value.str (Str.ofString "ValueError") 105) (Value.type "ValueError"), DictEntry.mk (PyData.keyHash P (Str.ofString "Warning")) (Value.str (Str.ofString "Warning") 106) (Value.type "Warning"), DictEntry.mk (PyData.keyHash P (Str.ofString "FloatingPointError")) (Value.str (Str.ofString "FloatingPointError") 107) (Value.type "FloatingPointError"), DictEntry.mk (PyData.keyHash P (Str.ofString "OverflowError")) (Value.str (Str.ofString "OverflowError") 108) (Value.type "OverflowError"), DictEntry.mk (PyData.keyHash P (Str.ofString "ZeroDivisionError")) (Value.str (Str.ofString "ZeroDivisionError") 109) (Value.type "ZeroDivisionError"), DictEntry.mk (PyData.keyHash P (Str.ofString "BytesWarning")) (Value.str (Str.ofString "BytesWarning") 110) (Value.type "BytesWarning"), DictEntry.mk (PyData.keyHash P (Str.ofString "DeprecationWarning")) (Value.str (Str.ofString "DeprecationWarning") 111) (Value.type "DeprecationWarning"), DictEntry.mk (PyData.keyHash P (Str.ofString "EncodingWarning")) (Value.str (Str.ofString "EncodingWarning") 112) (Value.type "EncodingWarning"), DictEntry.mk (PyData.keyHash P (Str.ofString "FutureWarning")) (Value.str (Str.ofString "FutureWarning") 113) (Value.type "FutureWarning"), DictEntry.mk (PyData.keyHash P (Str.ofString "ImportWarning")) (Value.str (Str.ofString "ImportWarning") 114) (Value.type "ImportWarning"), DictEntry.mk (PyData.keyHash P (Str.ofString "PendingDeprecationWarning")) (Value.str (Str.ofString "PendingDeprecationWarning") 115) (Value.type "PendingDeprecationWarning"), DictEntry.mk (PyData.keyHash P (Str.ofString "ResourceWarning")) (Value.str (Str.ofString "ResourceWarning") 116) (Value.type "ResourceWarning"), DictEntry.mk (PyData.keyHash P (Str.ofString "RuntimeWarning")) (Value.str (Str.ofString "RuntimeWarning") 117) (Value.type "RuntimeWarning"), DictEntry.mk (PyData.keyHash P (Str.ofString "SyntaxWarning")) (Value.str (Str.ofString "SyntaxWarning") 118) (Value.type "SyntaxWarning"), DictEntry.mk (PyData.keyHash P (Str.ofString "UnicodeWarning")) (Value.str (Str.ofString "UnicodeWarning") 119) (Value.type "UnicodeWarning"), DictEntry.mk (PyData.keyHash P (Str.ofString "UserWarning")) (Value.str (Str.ofString "UserWarning") 120) (Value.type "UserWarning"), DictEntry.mk (PyData.keyHash P (Str.ofString "BlockingIOError")) (Value.str (Str.ofString "BlockingIOError") 121) (Value.type "BlockingIOError"), DictEntry.mk (PyData.keyHash P (Str.ofString "ChildProcessError")) (Value.str (Str.ofString "ChildProcessError") 122) (Value.type "ChildProcessError"), DictEntry.mk (PyData.keyHash P (Str.ofString "ConnectionError")) (Value.str (Str.ofString "ConnectionError") 123) (Value.type "ConnectionError"), DictEntry.mk (PyData.keyHash P (Str.ofString "FileExistsError")) (Value.str (Str.ofString "FileExistsError") 124) (Value.type "FileExistsError"), DictEntry.mk (PyData.keyHash P (Str.ofString "FileNotFoundError")) (Value.str (Str.ofString "FileNotFoundError") 125) (Value.type "FileNotFoundError"), DictEntry.mk (PyData.keyHash P (Str.ofString "InterruptedError")) (Value.str (Str.ofString "InterruptedError") 126) (Value.type "InterruptedError"), DictEntry.mk (PyData.keyHash P (Str.ofString "IsADirectoryError")) (Value.str (Str.ofString "IsADirectoryError") 127) (Value.type "IsADirectoryError"), DictEntry.mk (PyData.keyHash P (Str.ofString "NotADirectoryError")) (Value.str (Str.ofString "NotADirectoryError") 128) (Value.type "NotADirectoryError"), DictEntry.mk (PyData.keyHash P (Str.ofString "PermissionError")) (Value.str (Str.ofString "PermissionError") 129) (Value.type "PermissionError"), DictEntry.mk (PyData.keyHash P (Str.ofString "ProcessLookupError")) (Value.str (Str.ofString "ProcessLookupError") 130) (Value.type "ProcessLookupError"), DictEntry.mk (PyData.keyHash P (Str.ofString "TimeoutError")) (Value.str (Str.ofString "TimeoutError") 131) (Value.type "TimeoutError"), DictEntry.mk (PyData.keyHash P (Str.ofString "IndentationError")) (Value.str (Str.ofString "IndentationError") 132) (Value.type "IndentationError"), DictEntry.mk (PyData.keyHash P (Str.ofString "_IncompleteInputError")) (Value.str (Str.ofString "_IncompleteInputError") 133) (Value.type "_IncompleteInputError"), DictEntry.mk (PyData.keyHash P (Str.ofString "IndexError")) (Value.str (Str.ofString "IndexError") 134) (Value.type "IndexError"), DictEntry.mk (PyData.keyHash P (Str.ofString "KeyError")) (Value.str (Str.ofString "KeyError") 135) (Value.type "KeyError"), DictEntry.mk (PyData.keyHash P (Str.ofString "ModuleNotFoundError")) (Value.str (Str.ofString "ModuleNotFoundError") 136) (Value.type "ModuleNotFoundError"), DictEntry.mk (PyData.keyHash P (Str.ofString "NotImplementedError")) (Value.str (Str.ofString "NotImplementedError") 137) (Value.type "NotImplementedError"), DictEntry.mk (PyData.keyHash P (Str.ofString "PythonFinalizationError")) (Value.str (Str.ofString "PythonFinalizationError") 138) (Value.type "PythonFinalizationError"), DictEntry.mk (PyData.keyHash P (Str.ofString "RecursionError")) (Value.str (Str.ofString "RecursionError") 139) (Value.type "RecursionError"), DictEntry.mk (PyData.keyHash P (Str.ofString "UnboundLocalError")) (Value.str (Str.ofString "UnboundLocalError") 140) (Value.type "UnboundLocalError"), DictEntry.mk (PyData.keyHash P (Str.ofString "UnicodeError")) (Value.str (Str.ofString "UnicodeError") 141) (Value.type "UnicodeError"), DictEntry.mk (PyData.keyHash P (Str.ofString "BrokenPipeError")) (Value.str (Str.ofString "BrokenPipeError") 142) (Value.type "BrokenPipeError"), DictEntry.mk (PyData.keyHash P (Str.ofString "ConnectionAbortedError")) (Value.str (Str.ofString "ConnectionAbortedError") 143) (Value.type "ConnectionAbortedError"), DictEntry.mk (PyData.keyHash P (Str.ofString "ConnectionRefusedError")) (Value.str (Str.ofString "ConnectionRefusedError") 144) (Value.type "ConnectionRefusedError"), DictEntry.mk (PyData.keyHash P (Str.ofString "ConnectionResetError")) (Value.str (Str.ofString "ConnectionResetError") 145) (Value.type "ConnectionResetError"), DictEntry.mk (PyData.keyHash P (Str.ofString "TabError")) (Value.str (Str.ofString "TabError") 146) (Value.type "TabError"), DictEntry.mk (PyData.keyHash P (Str.ofString "UnicodeDecodeError")) (Value.str (Str.ofString "UnicodeDecodeError") 147) (Value.type "UnicodeDecodeError"), DictEntry.mk (PyData.keyHash P (Str.ofString "UnicodeEncodeError")) (Value.str (Str.ofString "UnicodeEncodeError") 148) (Value.type "UnicodeEncodeError"), DictEntry.mk (PyData.keyHash P (Str.ofString "UnicodeTranslateError")) (Value.str (Str.ofString "UnicodeTranslateError") 149) (Value.type "UnicodeTranslateError"), DictEntry.mk (PyData.keyHash P (Str.ofString "ExceptionGroup")) (Value.str (Str.ofString "ExceptionGroup") 150) (Value.type "ExceptionGroup"), DictEntry.mk (PyData.keyHash P (Str.ofString "EnvironmentError")) (Value.str (Str.ofString "EnvironmentError") 151) (Value.type "OSError"), DictEntry.mk (PyData.keyHash P (Str.ofString "IOError")) (Value.str (Str.ofString "IOError") 152) (Value.type "OSError"), DictEntry.mk (PyData.keyHash P (Str.ofString "open")) (Value.str (Str.ofString "open") 153) (Value.builtin "open"), DictEntry.mk (PyData.keyHash P (Str.ofString "quit")) (Value.str (Str.ofString "quit") 154) (Value.builtin "builtins.quit#opaque"), DictEntry.mk (PyData.keyHash P (Str.ofString "exit")) (Value.str (Str.ofString "exit") 155) (Value.builtin "builtins.exit#opaque"), DictEntry.mk (PyData.keyHash P (Str.ofString "copyright")) (Value.str (Str.ofString "copyright") 156) (Value.builtin "builtins.copyright#opaque"), DictEntry.mk (PyData.keyHash P (Str.ofString "credits")) (Value.str (Str.ofString "credits") 157) (Value.builtin "builtins.credits#opaque"), DictEntry.mk (PyData.keyHash P (Str.ofString "license")) (Value.str (Str.ofString "license") 158) (Value.builtin "builtins.license#opaque"), DictEntry.mk (PyData.keyHash P (Str.ofString "help")) (Value.str (Str.ofString "help") 159) (Value.builtin "builtins.help#opaque")] 159) #[] ::
    Obj.mk (Value.type "dict") none (Data.dict #[DictEntry.mk (PyData.keyHash P (Str.ofString "builtins")) (Value.str (Str.ofString "builtins") 162) (Value.ref 4), DictEntry.mk (PyData.keyHash P (Str.ofString "__main__")) (Value.str (Str.ofString "__main__") 163) (Value.ref 5)] 2) #[] ::
    Obj.mk Value.none none (Data.dict #[DictEntry.mk (PyData.keyHash P (Str.ofString "type.__subclasses__.Exception.0")) (Value.str (Str.ofString "type.__subclasses__.Exception.0") 236) (Value.int 45 0), DictEntry.mk (PyData.keyHash P (Str.ofString "type.__subclasses__.Exception.n")) (Value.str (Str.ofString "type.__subclasses__.Exception.n") 237) (Value.int 1 0)] 2) #[] ::
    Obj.mk (Value.type "dict") none (Data.dict #[DictEntry.mk (PyData.keyHash P (Str.ofString "__name__")) (Value.str (Str.ofString "__name__") 165) (Value.str (Str.ofString "law_xm0622_01") 591), DictEntry.mk (PyData.keyHash P (Str.ofString "__doc__")) (Value.str (Str.ofString "__doc__") 166) Value.none, DictEntry.mk (PyData.keyHash P (Str.ofString "__package__")) (Value.str (Str.ofString "__package__") 167) Value.none, DictEntry.mk (PyData.keyHash P (Str.ofString "__loader__")) (Value.str (Str.ofString "__loader__") 168) (Value.builtin "__main__.__loader__#opaque"), DictEntry.mk (PyData.keyHash P (Str.ofString "__spec__")) (Value.str (Str.ofString "__spec__") 169) Value.none, DictEntry.mk (PyData.keyHash P (Str.ofString "__annotations__")) (Value.str (Str.ofString "__annotations__") 170) (Value.ref 6), DictEntry.mk (PyData.keyHash P (Str.ofString "__builtins__")) (Value.str (Str.ofString "__builtins__") 171) (Value.ref 4), DictEntry.mk (PyData.keyHash P (Str.ofString "__file__")) (Value.str (Str.ofString "__file__") 173) (Value.str (Str.ofString "/claim/cut.py") 172), DictEntry.mk (PyData.keyHash P (Str.ofString "__cached__")) (Value.str (Str.ofString "__cached__") 174) Value.none, DictEntry.mk (PyData.keyHash P (Str.ofString "_wall")) (Value.str (Str.ofString "_wall") 193) (Value.ref 21), DictEntry.mk (PyData.keyHash P (Str.ofString "first_match")) (Value.str (Str.ofString "first_match") 206) (Value.ref 28), DictEntry.mk (PyData.keyHash P (Str.ofString "LuaError")) (Value.str (Str.ofString "LuaError") 239) (Value.ref 45), DictEntry.mk (PyData.keyHash P (Str.ofString "MOST_CAPTURES")) (Value.str (Str.ofString "MOST_CAPTURES") 243) (Value.int 32 242), DictEntry.mk (PyData.keyHash P (Str.ofString "UNFINISHED")) (Value.str (Str.ofString "UNFINISHED") 246) (Value.int (-1) 245), DictEntry.mk (PyData.keyHash P (Str.ofString "POSITION")) (Value.str (Str.ofString "POSITION") 249) (Value.int (-2) 248), DictEntry.mk (PyData.keyHash P (Str.ofString "ESCAPE")) (Value.str (Str.ofString "ESCAPE") 251) (Value.int 37 250), DictEntry.mk (PyData.keyHash P (Str.ofString "CARET")) (Value.str (Str.ofString "CARET") 253) (Value.int 94 252), DictEntry.mk (PyData.keyHash P (Str.ofString "DOLLAR")) (Value.str (Str.ofString "DOLLAR") 255) (Value.int 36 254), DictEntry.mk (PyData.keyHash P (Str.ofString "DOT")) (Value.str (Str.ofString "DOT") 257) (Value.int 46 256), DictEntry.mk (PyData.keyHash P (Str.ofString "OPEN")) (Value.str (Str.ofString "OPEN") 259) (Value.int 40 258), DictEntry.mk (PyData.keyHash P (Str.ofString "CLOSE")) (Value.str (Str.ofString "CLOSE") 261) (Value.int 41 260), DictEntry.mk (PyData.keyHash P (Str.ofString "SET_OPEN")) (Value.str (Str.ofString "SET_OPEN") 263) (Value.int 91 262), DictEntry.mk (PyData.keyHash P (Str.ofString "SET_CLOSE")) (Value.str (Str.ofString "SET_CLOSE") 265) (Value.int 93 264), DictEntry.mk (PyData.keyHash P (Str.ofString "STAR")) (Value.str (Str.ofString "STAR") 267) (Value.int 42 266), DictEntry.mk (PyData.keyHash P (Str.ofString "PLUS")) (Value.str (Str.ofString "PLUS") 269) (Value.int 43 268), DictEntry.mk (PyData.keyHash P (Str.ofString "MINUS")) (Value.str (Str.ofString "MINUS") 271) (Value.int 45 270), DictEntry.mk (PyData.keyHash P (Str.ofString "MARK")) (Value.str (Str.ofString "MARK") 273) (Value.int 63 272), DictEntry.mk (PyData.keyHash P (Str.ofString "is_lower")) (Value.str (Str.ofString "is_lower") 280) (Value.ref 55), DictEntry.mk (PyData.keyHash P (Str.ofString "is_upper")) (Value.str (Str.ofString "is_upper") 287) (Value.ref 62), DictEntry.mk (PyData.keyHash P (Str.ofString "is_alpha")) (Value.str (Str.ofString "is_alpha") 294) (Value.ref 69), DictEntry.mk (PyData.keyHash P (Str.ofString "is_digit")) (Value.str (Str.ofString "is_digit") 301) (Value.ref 76), DictEntry.mk (PyData.keyHash P (Str.ofString "is_space")) (Value.str (Str.ofString "is_space") 308) (Value.ref 83), DictEntry.mk (PyData.keyHash P (Str.ofString "is_control")) (Value.str (Str.ofString "is_control") 315) (Value.ref 90), DictEntry.mk (PyData.keyHash P (Str.ofString "is_punctuation")) (Value.str (Str.ofString "is_punctuation") 322) (Value.ref 97), DictEntry.mk (PyData.keyHash P (Str.ofString "is_hex")) (Value.str (Str.ofString "is_hex") 329) (Value.ref 104), DictEntry.mk (PyData.keyHash P (Str.ofString "in_class")) (Value.str (Str.ofString "in_class") 339) (Value.ref 111), DictEntry.mk (PyData.keyHash P (Str.ofString "Matcher")) (Value.str (Str.ofString "Matcher") 590) (Value.ref 267), DictEntry.mk (PyData.keyHash P (Str.ofString "_law_from")) (Value.str (Str.ofString "_law_from") 601) (Value.ref 278), DictEntry.mk (PyData.keyHash P (Str.ofString "_law_met")) (Value.str (Str.ofString "_law_met") 613) (Value.ref 285), DictEntry.mk (PyData.keyHash P (Str.ofString "_law_put_on")) (Value.str (Str.ofString "_law_put_on") 619) (Value.ref 290), DictEntry.mk (PyData.keyHash P (Str.ofString "_law_words")) (Value.str (Str.ofString "_law_words") 625) (Value.ref 295), DictEntry.mk (PyData.keyHash P (Str.ofString "_law_least_ones")) (Value.str (Str.ofString "_law_least_ones") 631) (Value.ref 300), DictEntry.mk (PyData.keyHash P (Str.ofString "law")) (Value.str (Str.ofString "law") 651) (Value.ref 307)] 43) #[] ::
    Obj.mk (Value.type "module") (some 0) Data.plain #[] ::
    Obj.mk (Value.type "module") (some 3) Data.plain #[] ::
    Obj.mk (Value.type "dict") none (Data.dict #[]) #[] ::
    Obj.mk (Value.type "tuple") none (Data.seq #[]) #[] ::
    Obj.mk Value.none none (Data.fields #[]) #[] ::
    Obj.mk (Value.type "code") none (Data.fields #[Value.str (Str.ofString "<module>") 176, Value.str (Str.ofString "<module>") 177, Value.str (Str.ofString "/claim/cut.py") 178, Value.int 1 0, Value.int 0 0, Value.int 0 0, Value.int 0 0, Value.int 0 0, Value.ref 7, Value.bool Bool.false, Value.int 175 0, Value.ref 8, Value.none, Value.none, Value.none, Value.none, Value.int 179 0, Value.int 1 0, Value.str (Str.ofString "/claim/cut.py") 180]) #[] ::
    Obj.mk (Value.type "frame") none Data.plain #[some (Value.ref 9), some (Value.ref 3), some (Value.ref 3), none, some (Value.str (Str.ofString "__main__") 164), none, some (Value.ref 0)] ::
    Obj.mk (Value.type "tuple") none (Data.seq #[]) #[] ::
    Obj.mk Value.none none (Data.fields #[Value.int 1 0, Value.int 0 0, Value.ref 20, Value.int 5 0, Value.int 0 0, Value.ref 27, Value.int 15 0, Value.int 0 0, Value.ref 34, Value.int 37 0, Value.int 0 0, Value.ref 54, Value.int 39 0, Value.int 0 0, Value.ref 61, Value.int 41 0, Value.int 0 0, Value.ref 68, Value.int 43 0, Value.int 0 0, Value.ref 75, Value.int 45 0, Value.int 0 0, Value.ref 82, Value.int 47 0, Value.int 0 0, Value.ref 89, Value.int 49 0, Value.int 0 0, Value.ref 96, Value.int 51 0, Value.int 0 0, Value.ref 103, Value.int 53 0, Value.int 0 0, Value.ref 110, Value.int 78 0, Value.int 0 0, Value.ref 117, Value.int 318 0, Value.int 0 0, Value.ref 277, Value.int 322 0, Value.int 0 0, Value.ref 284, Value.int 330 0, Value.int 0 0, Value.ref 289, Value.int 340 0, Value.int 0 0, Value.ref 294, Value.int 345 0, Value.int 0 0, Value.ref 299, Value.int 349 0, Value.int 0 0, Value.ref 306]) #[] ::
    Obj.mk (Value.type "code") none (Data.fields #[Value.str (Str.ofString "<module>") 182, Value.str (Str.ofString "<module>") 183, Value.str (Str.ofString "/claim/cut.py") 184, Value.int 1 0, Value.int 0 0, Value.int 0 0, Value.int 0 0, Value.int 0 0, Value.ref 11, Value.bool Bool.false, Value.int 181 0, Value.ref 12, Value.none, Value.none, Value.none, Value.none, Value.int 185 0, Value.int 1 0, Value.str (Str.ofString "/claim/cut.py") 186]) #[] ::
    Obj.mk (Value.type "frame") none Data.plain #[some (Value.ref 13), some (Value.ref 3), some (Value.ref 3), none, some (Value.str (Str.ofString "__main__") 164), none, some (Value.ref 0)] ::
    Obj.mk (Value.type "tuple") none (Data.seq #[]) #[] ::
    Obj.mk Value.none none (Data.fields #[]) #[] ::
    Obj.mk (Value.type "tuple") none (Data.seq #[Value.str (Str.ofString "k") 190]) #[] ::
    Obj.mk (Value.type "tuple") none (Data.seq #[]) #[] ::
    Obj.mk Value.none none (Data.func (FuncData.mk (Str.ofString "_wall") (Str.ofString "_wall") p21 (FuncBody.stmts b21) s21 0 [] Value.none Value.none Value.none Value.none none Value.none Value.none 0)) #[] ::
    Obj.mk (Value.type "code") none (Data.fields #[Value.str (Str.ofString "_wall") 187, Value.str (Str.ofString "_wall") 188, Value.str (Str.ofString "/claim/cut.py") 189, Value.int 1 0, Value.int 1 0, Value.int 0 0, Value.int 0 0, Value.int 3 0, Value.ref 15, Value.bool Bool.true, Value.int 181 0, Value.ref 16, Value.none, Value.ref 17, Value.ref 18, Value.ref 19, Value.int 191 0, Value.int 1 0, Value.str (Str.ofString "/claim/cut.py") 192]) #[] ::
    Obj.mk (Value.type "function") none (Data.func (FuncData.mk (Str.ofString "_wall") (Str.ofString "_wall") p21 (FuncBody.stmts b21) s21 3 [] Value.none Value.none Value.none (Value.str (Str.ofString "__main__") 164) none (Value.ref 20) Value.none 0)) #[] ::
    Obj.mk (Value.type "tuple") none (Data.seq #[]) #[] ::
    Obj.mk Value.none none (Data.fields #[]) #[] ::
    Obj.mk (Value.type "tuple") none (Data.seq #[Value.str (Str.ofString "size") 199, Value.str (Str.ofString "begin") 200, Value.str (Str.ofString "is_bound") 201, Value.str (Str.ofString "ends_at") 202, Value.str (Str.ofString "end") 203]) #[] ::
    Obj.mk (Value.type "tuple") none (Data.seq #[]) #[] ::
    Obj.mk Value.none none (Data.func (FuncData.mk (Str.ofString "first_match") (Str.ofString "first_match") p28 (FuncBody.stmts b28) s28 0 [] Value.none Value.none Value.none Value.none none Value.none Value.none 0)) #[] ::
    Obj.mk (Value.type "code") none (Data.fields #[Value.str (Str.ofString "first_match") 196, Value.str (Str.ofString "first_match") 197, Value.str (Str.ofString "/claim/cut.py") 198, Value.int 5 0, Value.int 4 0, Value.int 0 0, Value.int 0 0, Value.int 3 0, Value.ref 22, Value.bool Bool.true, Value.int 181 0, Value.ref 23, Value.none, Value.ref 24, Value.ref 25, Value.ref 26, Value.int 204 0, Value.int 5 0, Value.str (Str.ofString "/claim/cut.py") 205]) #[] ::
    Obj.mk (Value.type "function") none (Data.func (FuncData.mk (Str.ofString "first_match") (Str.ofString "first_match") p28 (FuncBody.stmts b28) s28 3 [] Value.none Value.none Value.none (Value.str (Str.ofString "lua.textcore") 194) none (Value.ref 27) Value.none 0)) #[] ::
    Obj.mk (Value.type "tuple") none (Data.seq #[Value.type "Exception"]) #[] ::
    Obj.mk (Value.type "builtin_function_or_method") none (Data.fields #[Value.builtin "type.__prepare__", Value.type "type"]) #[] ::
    Obj.mk (Value.type "dict") none (Data.dict #[DictEntry.mk (PyData.keyHash P (Str.ofString "__module__")) (Value.str (Str.ofString "__module__") 216) (Value.str (Str.ofString "lua.values") 207), DictEntry.mk (PyData.keyHash P (Str.ofString "__qualname__")) (Value.str (Str.ofString "__qualname__") 218) (Value.str (Str.ofString "LuaError") 217), DictEntry.mk (PyData.keyHash P (Str.ofString "__firstlineno__")) (Value.str (Str.ofString "__firstlineno__") 220) (Value.int 15 219), DictEntry.mk (PyData.keyHash P (Str.ofString "__init__")) (Value.str (Str.ofString "__init__") 228) (Value.ref 42), DictEntry.mk (PyData.keyHash P (Str.ofString "__static_attributes__")) (Value.str (Str.ofString "__static_attributes__") 232) (Value.ref 43)] 5) #[] ::
    Obj.mk (Value.type "tuple") none (Data.seq #[]) #[] ::
    Obj.mk Value.none none (Data.fields #[Value.int 17 0, Value.int 4 0, Value.ref 41]) #[] ::
    Obj.mk (Value.type "code") none (Data.fields #[Value.str (Str.ofString "LuaError") 211, Value.str (Str.ofString "LuaError") 212, Value.str (Str.ofString "/claim/cut.py") 213, Value.int 15 0, Value.int 0 0, Value.int 0 0, Value.int 0 0, Value.int 0 0, Value.ref 32, Value.bool Bool.false, Value.int 181 0, Value.ref 33, Value.none, Value.none, Value.none, Value.none, Value.int 214 0, Value.int 15 0, Value.str (Str.ofString "/claim/cut.py") 215]) #[] ::
    Obj.mk (Value.type "frame") none Data.plain #[some (Value.ref 34), some (Value.ref 3), some (Value.ref 31), none, some (Value.str (Str.ofString "lua.values") 207), none, some (Value.ref 0)] ::
    Obj.mk (Value.type "tuple") none (Data.seq #[]) #[] ::
    Obj.mk Value.none none (Data.fields #[]) #[] ::
    Obj.mk (Value.type "tuple") none (Data.seq #[Value.str (Str.ofString "self") 224, Value.str (Str.ofString "value") 225]) #[] ::
    Obj.mk (Value.type "tuple") none (Data.seq #[]) #[] ::
    Obj.mk Value.none none (Data.func (FuncData.mk (Str.ofString "__init__") (Str.ofString "LuaError.__init__") p42 (FuncBody.stmts b42) s42 0 [] Value.none Value.none Value.none Value.none none Value.none Value.none 0)) #[] ::
    Obj.mk (Value.type "code") none (Data.fields #[Value.str (Str.ofString "__init__") 221, Value.str (Str.ofString "LuaError.__init__") 222, Value.str (Str.ofString "/claim/cut.py") 223, Value.int 17 0, Value.int 2 0, Value.int 0 0, Value.int 0 0, Value.int 3 0, Value.ref 36, Value.bool Bool.true, Value.int 181 0, Value.ref 37, Value.none, Value.ref 38, Value.ref 39, Value.ref 40, Value.int 226 0, Value.int 17 0, Value.str (Str.ofString "/claim/cut.py") 227]) #[] ::
    Obj.mk (Value.type "function") none (Data.func (FuncData.mk (Str.ofString "__init__") (Str.ofString "LuaError.__init__") p42 (FuncBody.stmts b42) s42 3 [] Value.none Value.none Value.none (Value.str (Str.ofString "lua.values") 207) none (Value.ref 41) Value.none 0)) #[] ::
    Obj.mk (Value.type "tuple") none (Data.seq #[Value.str (Str.ofString "is_in_handler") 229, Value.str (Str.ofString "trace") 230, Value.str (Str.ofString "value") 231]) #[] ::
    Obj.mk (Value.type "dict") none (Data.dict #[DictEntry.mk (PyData.keyHash P (Str.ofString "__module__")) (Value.str (Str.ofString "__module__") 216) (Value.str (Str.ofString "lua.values") 207), DictEntry.mk (PyData.keyHash P (Str.ofString "__firstlineno__")) (Value.str (Str.ofString "__firstlineno__") 220) (Value.int 15 219), DictEntry.mk (PyData.keyHash P (Str.ofString "__init__")) (Value.str (Str.ofString "__init__") 228) (Value.ref 42), DictEntry.mk (PyData.keyHash P (Str.ofString "__static_attributes__")) (Value.str (Str.ofString "__static_attributes__") 232) (Value.ref 43), DictEntry.mk (PyData.keyHash P (Str.ofString "__weakref__")) (Value.str (Str.ofString "__weakref__") 234) (Value.ref 46), DictEntry.mk (PyData.keyHash P (Str.ofString "__doc__")) (Value.str (Str.ofString "__doc__") 235) Value.none] 3) #[] ::
    Obj.mk (Value.type "type") none (Data.cls (ClassData.mk (Str.ofString "LuaError") [Value.type "Exception"] [Value.ref 45, Value.type "Exception", Value.type "BaseException", Value.type "object"] 44 (Str.ofString "LuaError") Bool.true [] [] Bool.false none Bool.false)) #[some (Value.ref 29), none, some (Value.str (Str.ofString "LuaError") 209), some (Value.str (Str.ofString "LuaError") 217), some (Value.builtin "Exception.__new__"), some (Value.bool Bool.true)] ::
    Obj.mk (Value.type "getset_descriptor") none (Data.fields #[Value.str (Str.ofString "__weakref__") 233, Value.ref 45, Value.builtin "ExceptionGroup.__weakref__", Value.none]) #[] ::
    Obj.mk (Value.type "super") none (Data.fields #[Value.ref 45, Value.ref 45, Value.ref 45]) #[] ::
    Obj.mk (Value.type "builtin_function_or_method") none (Data.fields #[Value.builtin "object.__init_subclass__", Value.ref 45]) #[] ::
    Obj.mk (Value.type "tuple") none (Data.seq #[]) #[] ::
    Obj.mk Value.none none (Data.fields #[]) #[] ::
    Obj.mk (Value.type "tuple") none (Data.seq #[Value.str (Str.ofString "c") 277]) #[] ::
    Obj.mk (Value.type "tuple") none (Data.seq #[]) #[] ::
    Obj.mk Value.none none (Data.func (FuncData.mk (Str.ofString "is_lower") (Str.ofString "is_lower") p55 (FuncBody.stmts b55) s55 0 [] Value.none Value.none Value.none Value.none none Value.none Value.none 0)) #[] ::
    Obj.mk (Value.type "code") none (Data.fields #[Value.str (Str.ofString "is_lower") 274, Value.str (Str.ofString "is_lower") 275, Value.str (Str.ofString "/claim/cut.py") 276, Value.int 37 0, Value.int 1 0, Value.int 0 0, Value.int 0 0, Value.int 3 0, Value.ref 49, Value.bool Bool.true, Value.int 181 0, Value.ref 50, Value.none, Value.ref 51, Value.ref 52, Value.ref 53, Value.int 278 0, Value.int 37 0, Value.str (Str.ofString "/claim/cut.py") 279]) #[] ::
    Obj.mk (Value.type "function") none (Data.func (FuncData.mk (Str.ofString "is_lower") (Str.ofString "is_lower") p55 (FuncBody.stmts b55) s55 3 [] Value.none Value.none Value.none (Value.str (Str.ofString "lua.patterns") 240) none (Value.ref 54) Value.none 0)) #[] ::
    Obj.mk (Value.type "tuple") none (Data.seq #[]) #[] ::
    Obj.mk Value.none none (Data.fields #[]) #[] ::
    Obj.mk (Value.type "tuple") none (Data.seq #[Value.str (Str.ofString "c") 284]) #[] ::
    Obj.mk (Value.type "tuple") none (Data.seq #[]) #[] ::
    Obj.mk Value.none none (Data.func (FuncData.mk (Str.ofString "is_upper") (Str.ofString "is_upper") p62 (FuncBody.stmts b62) s62 0 [] Value.none Value.none Value.none Value.none none Value.none Value.none 0)) #[] ::
    Obj.mk (Value.type "code") none (Data.fields #[Value.str (Str.ofString "is_upper") 281, Value.str (Str.ofString "is_upper") 282, Value.str (Str.ofString "/claim/cut.py") 283, Value.int 39 0, Value.int 1 0, Value.int 0 0, Value.int 0 0, Value.int 3 0, Value.ref 56, Value.bool Bool.true, Value.int 181 0, Value.ref 57, Value.none, Value.ref 58, Value.ref 59, Value.ref 60, Value.int 285 0, Value.int 39 0, Value.str (Str.ofString "/claim/cut.py") 286]) #[] ::
    Obj.mk (Value.type "function") none (Data.func (FuncData.mk (Str.ofString "is_upper") (Str.ofString "is_upper") p62 (FuncBody.stmts b62) s62 3 [] Value.none Value.none Value.none (Value.str (Str.ofString "lua.patterns") 240) none (Value.ref 61) Value.none 0)) #[] ::
    Obj.mk (Value.type "tuple") none (Data.seq #[]) #[] ::
    Obj.mk Value.none none (Data.fields #[]) #[] ::
    Obj.mk (Value.type "tuple") none (Data.seq #[Value.str (Str.ofString "c") 291]) #[] ::
    Obj.mk (Value.type "tuple") none (Data.seq #[]) #[] ::
    Obj.mk Value.none none (Data.func (FuncData.mk (Str.ofString "is_alpha") (Str.ofString "is_alpha") p69 (FuncBody.stmts b69) s69 0 [] Value.none Value.none Value.none Value.none none Value.none Value.none 0)) #[] ::
    Obj.mk (Value.type "code") none (Data.fields #[Value.str (Str.ofString "is_alpha") 288, Value.str (Str.ofString "is_alpha") 289, Value.str (Str.ofString "/claim/cut.py") 290, Value.int 41 0, Value.int 1 0, Value.int 0 0, Value.int 0 0, Value.int 3 0, Value.ref 63, Value.bool Bool.true, Value.int 181 0, Value.ref 64, Value.none, Value.ref 65, Value.ref 66, Value.ref 67, Value.int 292 0, Value.int 41 0, Value.str (Str.ofString "/claim/cut.py") 293]) #[] ::
    Obj.mk (Value.type "function") none (Data.func (FuncData.mk (Str.ofString "is_alpha") (Str.ofString "is_alpha") p69 (FuncBody.stmts b69) s69 3 [] Value.none Value.none Value.none (Value.str (Str.ofString "lua.patterns") 240) none (Value.ref 68) Value.none 0)) #[] ::
    Obj.mk (Value.type "tuple") none (Data.seq #[]) #[] ::
    Obj.mk Value.none none (Data.fields #[]) #[] ::
    Obj.mk (Value.type "tuple") none (Data.seq #[Value.str (Str.ofString "c") 298]) #[] ::
    Obj.mk (Value.type "tuple") none (Data.seq #[]) #[] ::
    Obj.mk Value.none none (Data.func (FuncData.mk (Str.ofString "is_digit") (Str.ofString "is_digit") p76 (FuncBody.stmts b76) s76 0 [] Value.none Value.none Value.none Value.none none Value.none Value.none 0)) #[] ::
    Obj.mk (Value.type "code") none (Data.fields #[Value.str (Str.ofString "is_digit") 295, Value.str (Str.ofString "is_digit") 296, Value.str (Str.ofString "/claim/cut.py") 297, Value.int 43 0, Value.int 1 0, Value.int 0 0, Value.int 0 0, Value.int 3 0, Value.ref 70, Value.bool Bool.true, Value.int 181 0, Value.ref 71, Value.none, Value.ref 72, Value.ref 73, Value.ref 74, Value.int 299 0, Value.int 43 0, Value.str (Str.ofString "/claim/cut.py") 300]) #[] ::
    Obj.mk (Value.type "function") none (Data.func (FuncData.mk (Str.ofString "is_digit") (Str.ofString "is_digit") p76 (FuncBody.stmts b76) s76 3 [] Value.none Value.none Value.none (Value.str (Str.ofString "lua.patterns") 240) none (Value.ref 75) Value.none 0)) #[] ::
    Obj.mk (Value.type "tuple") none (Data.seq #[]) #[] ::
    Obj.mk Value.none none (Data.fields #[]) #[] ::
    Obj.mk (Value.type "tuple") none (Data.seq #[Value.str (Str.ofString "c") 305]) #[] ::
    Obj.mk (Value.type "tuple") none (Data.seq #[]) #[] ::
    Obj.mk Value.none none (Data.func (FuncData.mk (Str.ofString "is_space") (Str.ofString "is_space") p83 (FuncBody.stmts b83) s83 0 [] Value.none Value.none Value.none Value.none none Value.none Value.none 0)) #[] ::
    Obj.mk (Value.type "code") none (Data.fields #[Value.str (Str.ofString "is_space") 302, Value.str (Str.ofString "is_space") 303, Value.str (Str.ofString "/claim/cut.py") 304, Value.int 45 0, Value.int 1 0, Value.int 0 0, Value.int 0 0, Value.int 3 0, Value.ref 77, Value.bool Bool.true, Value.int 181 0, Value.ref 78, Value.none, Value.ref 79, Value.ref 80, Value.ref 81, Value.int 306 0, Value.int 45 0, Value.str (Str.ofString "/claim/cut.py") 307]) #[] ::
    Obj.mk (Value.type "function") none (Data.func (FuncData.mk (Str.ofString "is_space") (Str.ofString "is_space") p83 (FuncBody.stmts b83) s83 3 [] Value.none Value.none Value.none (Value.str (Str.ofString "lua.patterns") 240) none (Value.ref 82) Value.none 0)) #[] ::
    Obj.mk (Value.type "tuple") none (Data.seq #[]) #[] ::
    Obj.mk Value.none none (Data.fields #[]) #[] ::
    Obj.mk (Value.type "tuple") none (Data.seq #[Value.str (Str.ofString "c") 312]) #[] ::
    Obj.mk (Value.type "tuple") none (Data.seq #[]) #[] ::
    Obj.mk Value.none none (Data.func (FuncData.mk (Str.ofString "is_control") (Str.ofString "is_control") p90 (FuncBody.stmts b90) s90 0 [] Value.none Value.none Value.none Value.none none Value.none Value.none 0)) #[] ::
    Obj.mk (Value.type "code") none (Data.fields #[Value.str (Str.ofString "is_control") 309, Value.str (Str.ofString "is_control") 310, Value.str (Str.ofString "/claim/cut.py") 311, Value.int 47 0, Value.int 1 0, Value.int 0 0, Value.int 0 0, Value.int 3 0, Value.ref 84, Value.bool Bool.true, Value.int 181 0, Value.ref 85, Value.none, Value.ref 86, Value.ref 87, Value.ref 88, Value.int 313 0, Value.int 47 0, Value.str (Str.ofString "/claim/cut.py") 314]) #[] ::
    Obj.mk (Value.type "function") none (Data.func (FuncData.mk (Str.ofString "is_control") (Str.ofString "is_control") p90 (FuncBody.stmts b90) s90 3 [] Value.none Value.none Value.none (Value.str (Str.ofString "lua.patterns") 240) none (Value.ref 89) Value.none 0)) #[] ::
    Obj.mk (Value.type "tuple") none (Data.seq #[]) #[] ::
    Obj.mk Value.none none (Data.fields #[]) #[] ::
    Obj.mk (Value.type "tuple") none (Data.seq #[Value.str (Str.ofString "c") 319]) #[] ::
    Obj.mk (Value.type "tuple") none (Data.seq #[]) #[] ::
    Obj.mk Value.none none (Data.func (FuncData.mk (Str.ofString "is_punctuation") (Str.ofString "is_punctuation") p97 (FuncBody.stmts b97) s97 0 [] Value.none Value.none Value.none Value.none none Value.none Value.none 0)) #[] ::
    Obj.mk (Value.type "code") none (Data.fields #[Value.str (Str.ofString "is_punctuation") 316, Value.str (Str.ofString "is_punctuation") 317, Value.str (Str.ofString "/claim/cut.py") 318, Value.int 49 0, Value.int 1 0, Value.int 0 0, Value.int 0 0, Value.int 3 0, Value.ref 91, Value.bool Bool.true, Value.int 181 0, Value.ref 92, Value.none, Value.ref 93, Value.ref 94, Value.ref 95, Value.int 320 0, Value.int 49 0, Value.str (Str.ofString "/claim/cut.py") 321]) #[] ::
    Obj.mk (Value.type "function") none (Data.func (FuncData.mk (Str.ofString "is_punctuation") (Str.ofString "is_punctuation") p97 (FuncBody.stmts b97) s97 3 [] Value.none Value.none Value.none (Value.str (Str.ofString "lua.patterns") 240) none (Value.ref 96) Value.none 0)) #[] ::
    Obj.mk (Value.type "tuple") none (Data.seq #[]) #[] ::
    Obj.mk Value.none none (Data.fields #[]) #[] ::
    Obj.mk (Value.type "tuple") none (Data.seq #[Value.str (Str.ofString "c") 326]) #[] ::
    Obj.mk (Value.type "tuple") none (Data.seq #[]) #[] ::
    Obj.mk Value.none none (Data.func (FuncData.mk (Str.ofString "is_hex") (Str.ofString "is_hex") p104 (FuncBody.stmts b104) s104 0 [] Value.none Value.none Value.none Value.none none Value.none Value.none 0)) #[] ::
    Obj.mk (Value.type "code") none (Data.fields #[Value.str (Str.ofString "is_hex") 323, Value.str (Str.ofString "is_hex") 324, Value.str (Str.ofString "/claim/cut.py") 325, Value.int 51 0, Value.int 1 0, Value.int 0 0, Value.int 0 0, Value.int 3 0, Value.ref 98, Value.bool Bool.true, Value.int 181 0, Value.ref 99, Value.none, Value.ref 100, Value.ref 101, Value.ref 102, Value.int 327 0, Value.int 51 0, Value.str (Str.ofString "/claim/cut.py") 328]) #[] ::
    Obj.mk (Value.type "function") none (Data.func (FuncData.mk (Str.ofString "is_hex") (Str.ofString "is_hex") p104 (FuncBody.stmts b104) s104 3 [] Value.none Value.none Value.none (Value.str (Str.ofString "lua.patterns") 240) none (Value.ref 103) Value.none 0)) #[] ::
    Obj.mk (Value.type "tuple") none (Data.seq #[]) #[] ::
    Obj.mk Value.none none (Data.fields #[]) #[] ::
    Obj.mk (Value.type "tuple") none (Data.seq #[Value.str (Str.ofString "c") 333, Value.str (Str.ofString "letter") 334, Value.str (Str.ofString "low") 335, Value.str (Str.ofString "found") 336]) #[] ::
    Obj.mk (Value.type "tuple") none (Data.seq #[]) #[] ::
    Obj.mk Value.none none (Data.func (FuncData.mk (Str.ofString "in_class") (Str.ofString "in_class") p111 (FuncBody.stmts b111) s111 0 [] Value.none Value.none Value.none Value.none none Value.none Value.none 0)) #[] ::
    Obj.mk (Value.type "code") none (Data.fields #[Value.str (Str.ofString "in_class") 330, Value.str (Str.ofString "in_class") 331, Value.str (Str.ofString "/claim/cut.py") 332, Value.int 53 0, Value.int 2 0, Value.int 0 0, Value.int 0 0, Value.int 3 0, Value.ref 105, Value.bool Bool.true, Value.int 181 0, Value.ref 106, Value.none, Value.ref 107, Value.ref 108, Value.ref 109, Value.int 337 0, Value.int 53 0, Value.str (Str.ofString "/claim/cut.py") 338]) #[] ::
    Obj.mk (Value.type "function") none (Data.func (FuncData.mk (Str.ofString "in_class") (Str.ofString "in_class") p111 (FuncBody.stmts b111) s111 3 [] Value.none Value.none Value.none (Value.str (Str.ofString "lua.patterns") 240) none (Value.ref 110) Value.none 0)) #[] ::
    Obj.mk (Value.type "tuple") none (Data.seq #[]) #[] ::
    Obj.mk (Value.type "builtin_function_or_method") none (Data.fields #[Value.builtin "type.__prepare__", Value.type "type"]) #[] ::
    Obj.mk (Value.type "dict") none (Data.dict #[DictEntry.mk (PyData.keyHash P (Str.ofString "__module__")) (Value.str (Str.ofString "__module__") 347) (Value.str (Str.ofString "lua.patterns") 240), DictEntry.mk (PyData.keyHash P (Str.ofString "__qualname__")) (Value.str (Str.ofString "__qualname__") 349) (Value.str (Str.ofString "Matcher") 348), DictEntry.mk (PyData.keyHash P (Str.ofString "__firstlineno__")) (Value.str (Str.ofString "__firstlineno__") 351) (Value.int 78 350), DictEntry.mk (PyData.keyHash P (Str.ofString "__init__")) (Value.str (Str.ofString "__init__") 364) (Value.ref 126), DictEntry.mk (PyData.keyHash P (Str.ofString "count")) (Value.str (Str.ofString "count") 371) (Value.ref 133), DictEntry.mk (PyData.keyHash P (Str.ofString "reset")) (Value.str (Str.ofString "reset") 378) (Value.ref 140), DictEntry.mk (PyData.keyHash P (Str.ofString "at")) (Value.str (Str.ofString "at") 386) (Value.ref 147), DictEntry.mk (PyData.keyHash P (Str.ofString "class_end")) (Value.str (Str.ofString "class_end") 397) (Value.ref 154), DictEntry.mk (PyData.keyHash P (Str.ofString "in_set")) (Value.str (Str.ofString "in_set") 409) (Value.ref 161), DictEntry.mk (PyData.keyHash P (Str.ofString "is_single")) (Value.str (Str.ofString "is_single") 421) (Value.ref 168), DictEntry.mk (PyData.keyHash P (Str.ofString "match")) (Value.str (Str.ofString "match") 431) (Value.ref 175), DictEntry.mk (PyData.keyHash P (Str.ofString "match_here")) (Value.str (Str.ofString "match_here") 446) (Value.ref 182), DictEntry.mk (PyData.keyHash P (Str.ofString "match_special")) (Value.str (Str.ofString "match_special") 456) (Value.ref 189), DictEntry.mk (PyData.keyHash P (Str.ofString "match_balance")) (Value.str (Str.ofString "match_balance") 469) (Value.ref 196), DictEntry.mk (PyData.keyHash P (Str.ofString "match_frontier")) (Value.str (Str.ofString "match_frontier") 481) (Value.ref 203), DictEntry.mk (PyData.keyHash P (Str.ofString "expand_most")) (Value.str (Str.ofString "expand_most") 493) (Value.ref 210), DictEntry.mk (PyData.keyHash P (Str.ofString "expand_least")) (Value.str (Str.ofString "expand_least") 504) (Value.ref 217), DictEntry.mk (PyData.keyHash P (Str.ofString "start_capture")) (Value.str (Str.ofString "start_capture") 515) (Value.ref 224), DictEntry.mk (PyData.keyHash P (Str.ofString "end_capture")) (Value.str (Str.ofString "end_capture") 526) (Value.ref 231), DictEntry.mk (PyData.keyHash P (Str.ofString "to_close")) (Value.str (Str.ofString "to_close") 534) (Value.ref 238), DictEntry.mk (PyData.keyHash P (Str.ofString "match_capture")) (Value.str (Str.ofString "match_capture") 546) (Value.ref 245), DictEntry.mk (PyData.keyHash P (Str.ofString "capture")) (Value.str (Str.ofString "capture") 558) (Value.ref 252), DictEntry.mk (PyData.keyHash P (Str.ofString "captures")) (Value.str (Str.ofString "captures") 564) (Value.ref 257), DictEntry.mk (PyData.keyHash P (Str.ofString "search")) (Value.str (Str.ofString "search") 574) (Value.ref 264), DictEntry.mk (PyData.keyHash P (Str.ofString "__static_attributes__")) (Value.str (Str.ofString "__static_attributes__") 583) (Value.ref 265)] 25) #[] ::
    Obj.mk (Value.type "tuple") none (Data.seq #[]) #[] ::
    Obj.mk Value.none none (Data.fields #[Value.int 80 0, Value.int 4 0, Value.ref 125, Value.int 91 0, Value.int 4 0, Value.ref 132, Value.int 95 0, Value.int 4 0, Value.ref 139, Value.int 101 0, Value.int 4 0, Value.ref 146, Value.int 104 0, Value.int 4 0, Value.ref 153, Value.int 126 0, Value.int 4 0, Value.ref 160, Value.int 147 0, Value.int 4 0, Value.ref 167, Value.int 159 0, Value.int 4 0, Value.ref 174, Value.int 168 0, Value.int 4 0, Value.ref 181, Value.int 206 0, Value.int 4 0, Value.ref 188, Value.int 213 0, Value.int 4 0, Value.ref 195, Value.int 233 0, Value.int 4 0, Value.ref 202, Value.int 243 0, Value.int 4 0, Value.ref 209, Value.int 255 0, Value.int 4 0, Value.ref 216, Value.int 264 0, Value.int 4 0, Value.ref 223, Value.int 275 0, Value.int 4 0, Value.ref 230, Value.int 283 0, Value.int 4 0, Value.ref 237, Value.int 291 0, Value.int 4 0, Value.ref 244, Value.int 301 0, Value.int 4 0, Value.ref 251, Value.int 311 0, Value.int 4 0, Value.ref 256, Value.int 315 0, Value.int 4 0, Value.ref 263]) #[] ::
    Obj.mk (Value.type "code") none (Data.fields #[Value.str (Str.ofString "Matcher") 342, Value.str (Str.ofString "Matcher") 343, Value.str (Str.ofString "/claim/cut.py") 344, Value.int 78 0, Value.int 0 0, Value.int 0 0, Value.int 0 0, Value.int 0 0, Value.ref 115, Value.bool Bool.false, Value.int 181 0, Value.ref 116, Value.none, Value.none, Value.none, Value.none, Value.int 345 0, Value.int 78 0, Value.str (Str.ofString "/claim/cut.py") 346]) #[] ::
    Obj.mk (Value.type "frame") none Data.plain #[some (Value.ref 117), some (Value.ref 3), some (Value.ref 114), none, some (Value.str (Str.ofString "lua.patterns") 240), none, some (Value.ref 0)] ::
    Obj.mk (Value.type "tuple") none (Data.seq #[Value.int 60 352, Value.none]) #[] ::
    Obj.mk (Value.type "tuple") none (Data.seq #[]) #[] ::
    Obj.mk Value.none none (Data.fields #[]) #[] ::
    Obj.mk (Value.type "tuple") none (Data.seq #[Value.str (Str.ofString "self") 356, Value.str (Str.ofString "text") 357, Value.str (Str.ofString "pattern") 358, Value.str (Str.ofString "depth") 359, Value.str (Str.ofString "tick") 360, Value.str (Str.ofString "zero") 361]) #[] ::
    Obj.mk (Value.type "tuple") none (Data.seq #[]) #[] ::
    Obj.mk Value.none none (Data.func (FuncData.mk (Str.ofString "__init__") (Str.ofString "Matcher.__init__") p126 (FuncBody.stmts b126) s126 0 [] Value.none Value.none Value.none Value.none none Value.none Value.none 0)) #[] ::
    Obj.mk (Value.type "code") none (Data.fields #[Value.str (Str.ofString "__init__") 353, Value.str (Str.ofString "Matcher.__init__") 354, Value.str (Str.ofString "/claim/cut.py") 355, Value.int 80 0, Value.int 5 0, Value.int 0 0, Value.int 0 0, Value.int 3 0, Value.ref 120, Value.bool Bool.true, Value.int 181 0, Value.ref 121, Value.none, Value.ref 122, Value.ref 123, Value.ref 124, Value.int 362 0, Value.int 80 0, Value.str (Str.ofString "/claim/cut.py") 363]) #[] ::
    Obj.mk (Value.type "function") none (Data.func (FuncData.mk (Str.ofString "__init__") (Str.ofString "Matcher.__init__") p126 (FuncBody.stmts b126) s126 3 [] (Value.ref 119) Value.none Value.none (Value.str (Str.ofString "lua.patterns") 240) none (Value.ref 125) Value.none 0)) #[] ::
    Obj.mk (Value.type "tuple") none (Data.seq #[]) #[] ::
    Obj.mk Value.none none (Data.fields #[]) #[] ::
    Obj.mk (Value.type "tuple") none (Data.seq #[Value.str (Str.ofString "self") 368]) #[] ::
    Obj.mk (Value.type "tuple") none (Data.seq #[]) #[] ::
    Obj.mk Value.none none (Data.func (FuncData.mk (Str.ofString "count") (Str.ofString "Matcher.count") p133 (FuncBody.stmts b133) s133 0 [] Value.none Value.none Value.none Value.none none Value.none Value.none 0)) #[] ::
    Obj.mk (Value.type "code") none (Data.fields #[Value.str (Str.ofString "count") 365, Value.str (Str.ofString "Matcher.count") 366, Value.str (Str.ofString "/claim/cut.py") 367, Value.int 91 0, Value.int 1 0, Value.int 0 0, Value.int 0 0, Value.int 3 0, Value.ref 127, Value.bool Bool.true, Value.int 181 0, Value.ref 128, Value.none, Value.ref 129, Value.ref 130, Value.ref 131, Value.int 369 0, Value.int 91 0, Value.str (Str.ofString "/claim/cut.py") 370]) #[] ::
    Obj.mk (Value.type "function") none (Data.func (FuncData.mk (Str.ofString "count") (Str.ofString "Matcher.count") p133 (FuncBody.stmts b133) s133 3 [] Value.none Value.none Value.none (Value.str (Str.ofString "lua.patterns") 240) none (Value.ref 132) Value.none 0)) #[] ::
    Obj.mk (Value.type "tuple") none (Data.seq #[]) #[] ::
    Obj.mk Value.none none (Data.fields #[]) #[] ::
    Obj.mk (Value.type "tuple") none (Data.seq #[Value.str (Str.ofString "self") 375]) #[] ::
    Obj.mk (Value.type "tuple") none (Data.seq #[]) #[] ::
    Obj.mk Value.none none (Data.func (FuncData.mk (Str.ofString "reset") (Str.ofString "Matcher.reset") p140 (FuncBody.stmts b140) s140 0 [] Value.none Value.none Value.none Value.none none Value.none Value.none 0)) #[] ::
    Obj.mk (Value.type "code") none (Data.fields #[Value.str (Str.ofString "reset") 372, Value.str (Str.ofString "Matcher.reset") 373, Value.str (Str.ofString "/claim/cut.py") 374, Value.int 95 0, Value.int 1 0, Value.int 0 0, Value.int 0 0, Value.int 3 0, Value.ref 134, Value.bool Bool.true, Value.int 181 0, Value.ref 135, Value.none, Value.ref 136, Value.ref 137, Value.ref 138, Value.int 376 0, Value.int 95 0, Value.str (Str.ofString "/claim/cut.py") 377]) #[] ::
    Obj.mk (Value.type "function") none (Data.func (FuncData.mk (Str.ofString "reset") (Str.ofString "Matcher.reset") p140 (FuncBody.stmts b140) s140 3 [] Value.none Value.none Value.none (Value.str (Str.ofString "lua.patterns") 240) none (Value.ref 139) Value.none 0)) #[] ::
    Obj.mk (Value.type "tuple") none (Data.seq #[]) #[] ::
    Obj.mk Value.none none (Data.fields #[]) #[] ::
    Obj.mk (Value.type "tuple") none (Data.seq #[Value.str (Str.ofString "self") 382, Value.str (Str.ofString "p") 383]) #[] ::
    Obj.mk (Value.type "tuple") none (Data.seq #[]) #[] ::
    Obj.mk Value.none none (Data.func (FuncData.mk (Str.ofString "at") (Str.ofString "Matcher.at") p147 (FuncBody.stmts b147) s147 0 [] Value.none Value.none Value.none Value.none none Value.none Value.none 0)) #[] ::
    Obj.mk (Value.type "code") none (Data.fields #[Value.str (Str.ofString "at") 379, Value.str (Str.ofString "Matcher.at") 380, Value.str (Str.ofString "/claim/cut.py") 381, Value.int 101 0, Value.int 2 0, Value.int 0 0, Value.int 0 0, Value.int 3 0, Value.ref 141, Value.bool Bool.true, Value.int 181 0, Value.ref 142, Value.none, Value.ref 143, Value.ref 144, Value.ref 145, Value.int 384 0, Value.int 101 0, Value.str (Str.ofString "/claim/cut.py") 385]) #[] ::
    Obj.mk (Value.type "function") none (Data.func (FuncData.mk (Str.ofString "at") (Str.ofString "Matcher.at") p147 (FuncBody.stmts b147) s147 3 [] Value.none Value.none Value.none (Value.str (Str.ofString "lua.patterns") 240) none (Value.ref 146) Value.none 0)) #[] ::
    Obj.mk (Value.type "tuple") none (Data.seq #[]) #[] ::
    Obj.mk Value.none none (Data.fields #[]) #[] ::
    Obj.mk (Value.type "tuple") none (Data.seq #[Value.str (Str.ofString "self") 390, Value.str (Str.ofString "p") 391, Value.str (Str.ofString "first") 392, Value.str (Str.ofString "is_first") 393, Value.str (Str.ofString "is_escaped") 394]) #[] ::
    Obj.mk (Value.type "tuple") none (Data.seq #[]) #[] ::
    Obj.mk Value.none none (Data.func (FuncData.mk (Str.ofString "class_end") (Str.ofString "Matcher.class_end") p154 (FuncBody.stmts b154) s154 0 [] Value.none Value.none Value.none Value.none none Value.none Value.none 0)) #[] ::
    Obj.mk (Value.type "code") none (Data.fields #[Value.str (Str.ofString "class_end") 387, Value.str (Str.ofString "Matcher.class_end") 388, Value.str (Str.ofString "/claim/cut.py") 389, Value.int 104 0, Value.int 2 0, Value.int 0 0, Value.int 0 0, Value.int 3 0, Value.ref 148, Value.bool Bool.true, Value.int 181 0, Value.ref 149, Value.none, Value.ref 150, Value.ref 151, Value.ref 152, Value.int 395 0, Value.int 104 0, Value.str (Str.ofString "/claim/cut.py") 396]) #[] ::
    Obj.mk (Value.type "function") none (Data.func (FuncData.mk (Str.ofString "class_end") (Str.ofString "Matcher.class_end") p154 (FuncBody.stmts b154) s154 3 [] Value.none Value.none Value.none (Value.str (Str.ofString "lua.patterns") 240) none (Value.ref 153) Value.none 0)) #[] ::
    Obj.mk (Value.type "tuple") none (Data.seq #[]) #[] ::
    Obj.mk Value.none none (Data.fields #[]) #[] ::
    Obj.mk (Value.type "tuple") none (Data.seq #[Value.str (Str.ofString "self") 401, Value.str (Str.ofString "c") 402, Value.str (Str.ofString "p") 403, Value.str (Str.ofString "last") 404, Value.str (Str.ofString "is_wanted") 405, Value.str (Str.ofString "here") 406]) #[] ::
    Obj.mk (Value.type "tuple") none (Data.seq #[]) #[] ::
    Obj.mk Value.none none (Data.func (FuncData.mk (Str.ofString "in_set") (Str.ofString "Matcher.in_set") p161 (FuncBody.stmts b161) s161 0 [] Value.none Value.none Value.none Value.none none Value.none Value.none 0)) #[] ::
    Obj.mk (Value.type "code") none (Data.fields #[Value.str (Str.ofString "in_set") 398, Value.str (Str.ofString "Matcher.in_set") 399, Value.str (Str.ofString "/claim/cut.py") 400, Value.int 126 0, Value.int 4 0, Value.int 0 0, Value.int 0 0, Value.int 3 0, Value.ref 155, Value.bool Bool.true, Value.int 181 0, Value.ref 156, Value.none, Value.ref 157, Value.ref 158, Value.ref 159, Value.int 407 0, Value.int 126 0, Value.str (Str.ofString "/claim/cut.py") 408]) #[] ::
    Obj.mk (Value.type "function") none (Data.func (FuncData.mk (Str.ofString "in_set") (Str.ofString "Matcher.in_set") p161 (FuncBody.stmts b161) s161 3 [] Value.none Value.none Value.none (Value.str (Str.ofString "lua.patterns") 240) none (Value.ref 160) Value.none 0)) #[] ::
    Obj.mk (Value.type "tuple") none (Data.seq #[]) #[] ::
    Obj.mk Value.none none (Data.fields #[]) #[] ::
    Obj.mk (Value.type "tuple") none (Data.seq #[Value.str (Str.ofString "self") 413, Value.str (Str.ofString "s") 414, Value.str (Str.ofString "p") 415, Value.str (Str.ofString "end") 416, Value.str (Str.ofString "c") 417, Value.str (Str.ofString "first") 418]) #[] ::
    Obj.mk (Value.type "tuple") none (Data.seq #[]) #[] ::
    Obj.mk Value.none none (Data.func (FuncData.mk (Str.ofString "is_single") (Str.ofString "Matcher.is_single") p168 (FuncBody.stmts b168) s168 0 [] Value.none Value.none Value.none Value.none none Value.none Value.none 0)) #[] ::
    Obj.mk (Value.type "code") none (Data.fields #[Value.str (Str.ofString "is_single") 410, Value.str (Str.ofString "Matcher.is_single") 411, Value.str (Str.ofString "/claim/cut.py") 412, Value.int 147 0, Value.int 4 0, Value.int 0 0, Value.int 0 0, Value.int 3 0, Value.ref 162, Value.bool Bool.true, Value.int 181 0, Value.ref 163, Value.none, Value.ref 164, Value.ref 165, Value.ref 166, Value.int 419 0, Value.int 147 0, Value.str (Str.ofString "/claim/cut.py") 420]) #[] ::
    Obj.mk (Value.type "function") none (Data.func (FuncData.mk (Str.ofString "is_single") (Str.ofString "Matcher.is_single") p168 (FuncBody.stmts b168) s168 3 [] Value.none Value.none Value.none (Value.str (Str.ofString "lua.patterns") 240) none (Value.ref 167) Value.none 0)) #[] ::
    Obj.mk (Value.type "tuple") none (Data.seq #[]) #[] ::
    Obj.mk Value.none none (Data.fields #[]) #[] ::
    Obj.mk (Value.type "tuple") none (Data.seq #[Value.str (Str.ofString "self") 425, Value.str (Str.ofString "s") 426, Value.str (Str.ofString "p") 427, Value.str (Str.ofString "found") 428]) #[] ::
    Obj.mk (Value.type "tuple") none (Data.seq #[]) #[] ::
    Obj.mk Value.none none (Data.func (FuncData.mk (Str.ofString "match") (Str.ofString "Matcher.match") p175 (FuncBody.stmts b175) s175 0 [] Value.none Value.none Value.none Value.none none Value.none Value.none 0)) #[] ::
    Obj.mk (Value.type "code") none (Data.fields #[Value.str (Str.ofString "match") 422, Value.str (Str.ofString "Matcher.match") 423, Value.str (Str.ofString "/claim/cut.py") 424, Value.int 159 0, Value.int 3 0, Value.int 0 0, Value.int 0 0, Value.int 3 0, Value.ref 169, Value.bool Bool.true, Value.int 181 0, Value.ref 170, Value.none, Value.ref 171, Value.ref 172, Value.ref 173, Value.int 429 0, Value.int 159 0, Value.str (Str.ofString "/claim/cut.py") 430]) #[] ::
    Obj.mk (Value.type "function") none (Data.func (FuncData.mk (Str.ofString "match") (Str.ofString "Matcher.match") p175 (FuncBody.stmts b175) s175 3 [] Value.none Value.none Value.none (Value.str (Str.ofString "lua.patterns") 240) none (Value.ref 174) Value.none 0)) #[] ::
    Obj.mk (Value.type "tuple") none (Data.seq #[]) #[] ::
    Obj.mk Value.none none (Data.fields #[]) #[] ::
    Obj.mk (Value.type "tuple") none (Data.seq #[Value.str (Str.ofString "self") 435, Value.str (Str.ofString "s") 436, Value.str (Str.ofString "p") 437, Value.str (Str.ofString "first") 438, Value.str (Str.ofString "second") 439, Value.str (Str.ofString "end") 440, Value.str (Str.ofString "after") 441, Value.str (Str.ofString "is_here") 442, Value.str (Str.ofString "found") 443]) #[] ::
    Obj.mk (Value.type "tuple") none (Data.seq #[]) #[] ::
    Obj.mk Value.none none (Data.func (FuncData.mk (Str.ofString "match_here") (Str.ofString "Matcher.match_here") p182 (FuncBody.stmts b182) s182 0 [] Value.none Value.none Value.none Value.none none Value.none Value.none 0)) #[] ::
    Obj.mk (Value.type "code") none (Data.fields #[Value.str (Str.ofString "match_here") 432, Value.str (Str.ofString "Matcher.match_here") 433, Value.str (Str.ofString "/claim/cut.py") 434, Value.int 168 0, Value.int 3 0, Value.int 0 0, Value.int 0 0, Value.int 3 0, Value.ref 176, Value.bool Bool.true, Value.int 181 0, Value.ref 177, Value.none, Value.ref 178, Value.ref 179, Value.ref 180, Value.int 444 0, Value.int 168 0, Value.str (Str.ofString "/claim/cut.py") 445]) #[] ::
    Obj.mk (Value.type "function") none (Data.func (FuncData.mk (Str.ofString "match_here") (Str.ofString "Matcher.match_here") p182 (FuncBody.stmts b182) s182 3 [] Value.none Value.none Value.none (Value.str (Str.ofString "lua.patterns") 240) none (Value.ref 181) Value.none 0)) #[] ::
    Obj.mk (Value.type "tuple") none (Data.seq #[]) #[] ::
    Obj.mk Value.none none (Data.fields #[]) #[] ::
    Obj.mk (Value.type "tuple") none (Data.seq #[Value.str (Str.ofString "self") 450, Value.str (Str.ofString "s") 451, Value.str (Str.ofString "p") 452, Value.str (Str.ofString "letter") 453]) #[] ::
    Obj.mk (Value.type "tuple") none (Data.seq #[]) #[] ::
    Obj.mk Value.none none (Data.func (FuncData.mk (Str.ofString "match_special") (Str.ofString "Matcher.match_special") p189 (FuncBody.stmts b189) s189 0 [] Value.none Value.none Value.none Value.none none Value.none Value.none 0)) #[] ::
    Obj.mk (Value.type "code") none (Data.fields #[Value.str (Str.ofString "match_special") 447, Value.str (Str.ofString "Matcher.match_special") 448, Value.str (Str.ofString "/claim/cut.py") 449, Value.int 206 0, Value.int 4 0, Value.int 0 0, Value.int 0 0, Value.int 3 0, Value.ref 183, Value.bool Bool.true, Value.int 181 0, Value.ref 184, Value.none, Value.ref 185, Value.ref 186, Value.ref 187, Value.int 454 0, Value.int 206 0, Value.str (Str.ofString "/claim/cut.py") 455]) #[] ::
    Obj.mk (Value.type "function") none (Data.func (FuncData.mk (Str.ofString "match_special") (Str.ofString "Matcher.match_special") p189 (FuncBody.stmts b189) s189 3 [] Value.none Value.none Value.none (Value.str (Str.ofString "lua.patterns") 240) none (Value.ref 188) Value.none 0)) #[] ::
    Obj.mk (Value.type "tuple") none (Data.seq #[]) #[] ::
    Obj.mk Value.none none (Data.fields #[]) #[] ::
    Obj.mk (Value.type "tuple") none (Data.seq #[Value.str (Str.ofString "self") 460, Value.str (Str.ofString "s") 461, Value.str (Str.ofString "p") 462, Value.str (Str.ofString "begin") 463, Value.str (Str.ofString "end") 464, Value.str (Str.ofString "open_ones") 465, Value.str (Str.ofString "c") 466]) #[] ::
    Obj.mk (Value.type "tuple") none (Data.seq #[]) #[] ::
    Obj.mk Value.none none (Data.func (FuncData.mk (Str.ofString "match_balance") (Str.ofString "Matcher.match_balance") p196 (FuncBody.stmts b196) s196 0 [] Value.none Value.none Value.none Value.none none Value.none Value.none 0)) #[] ::
    Obj.mk (Value.type "code") none (Data.fields #[Value.str (Str.ofString "match_balance") 457, Value.str (Str.ofString "Matcher.match_balance") 458, Value.str (Str.ofString "/claim/cut.py") 459, Value.int 213 0, Value.int 3 0, Value.int 0 0, Value.int 0 0, Value.int 3 0, Value.ref 190, Value.bool Bool.true, Value.int 181 0, Value.ref 191, Value.none, Value.ref 192, Value.ref 193, Value.ref 194, Value.int 467 0, Value.int 213 0, Value.str (Str.ofString "/claim/cut.py") 468]) #[] ::
    Obj.mk (Value.type "function") none (Data.func (FuncData.mk (Str.ofString "match_balance") (Str.ofString "Matcher.match_balance") p196 (FuncBody.stmts b196) s196 3 [] Value.none Value.none Value.none (Value.str (Str.ofString "lua.patterns") 240) none (Value.ref 195) Value.none 0)) #[] ::
    Obj.mk (Value.type "tuple") none (Data.seq #[]) #[] ::
    Obj.mk Value.none none (Data.fields #[]) #[] ::
    Obj.mk (Value.type "tuple") none (Data.seq #[Value.str (Str.ofString "self") 473, Value.str (Str.ofString "s") 474, Value.str (Str.ofString "p") 475, Value.str (Str.ofString "end") 476, Value.str (Str.ofString "ahead") 477, Value.str (Str.ofString "here") 478]) #[] ::
    Obj.mk (Value.type "tuple") none (Data.seq #[]) #[] ::
    Obj.mk Value.none none (Data.func (FuncData.mk (Str.ofString "match_frontier") (Str.ofString "Matcher.match_frontier") p203 (FuncBody.stmts b203) s203 0 [] Value.none Value.none Value.none Value.none none Value.none Value.none 0)) #[] ::
    Obj.mk (Value.type "code") none (Data.fields #[Value.str (Str.ofString "match_frontier") 470, Value.str (Str.ofString "Matcher.match_frontier") 471, Value.str (Str.ofString "/claim/cut.py") 472, Value.int 233 0, Value.int 3 0, Value.int 0 0, Value.int 0 0, Value.int 3 0, Value.ref 197, Value.bool Bool.true, Value.int 181 0, Value.ref 198, Value.none, Value.ref 199, Value.ref 200, Value.ref 201, Value.int 479 0, Value.int 233 0, Value.str (Str.ofString "/claim/cut.py") 480]) #[] ::
    Obj.mk (Value.type "function") none (Data.func (FuncData.mk (Str.ofString "match_frontier") (Str.ofString "Matcher.match_frontier") p203 (FuncBody.stmts b203) s203 3 [] Value.none Value.none Value.none (Value.str (Str.ofString "lua.patterns") 240) none (Value.ref 202) Value.none 0)) #[] ::
    Obj.mk (Value.type "tuple") none (Data.seq #[]) #[] ::
    Obj.mk Value.none none (Data.fields #[]) #[] ::
    Obj.mk (Value.type "tuple") none (Data.seq #[Value.str (Str.ofString "self") 485, Value.str (Str.ofString "s") 486, Value.str (Str.ofString "p") 487, Value.str (Str.ofString "end") 488, Value.str (Str.ofString "many") 489, Value.str (Str.ofString "found") 490]) #[] ::
    Obj.mk (Value.type "tuple") none (Data.seq #[]) #[] ::
    Obj.mk Value.none none (Data.func (FuncData.mk (Str.ofString "expand_most") (Str.ofString "Matcher.expand_most") p210 (FuncBody.stmts b210) s210 0 [] Value.none Value.none Value.none Value.none none Value.none Value.none 0)) #[] ::
    Obj.mk (Value.type "code") none (Data.fields #[Value.str (Str.ofString "expand_most") 482, Value.str (Str.ofString "Matcher.expand_most") 483, Value.str (Str.ofString "/claim/cut.py") 484, Value.int 243 0, Value.int 4 0, Value.int 0 0, Value.int 0 0, Value.int 3 0, Value.ref 204, Value.bool Bool.true, Value.int 181 0, Value.ref 205, Value.none, Value.ref 206, Value.ref 207, Value.ref 208, Value.int 491 0, Value.int 243 0, Value.str (Str.ofString "/claim/cut.py") 492]) #[] ::
    Obj.mk (Value.type "function") none (Data.func (FuncData.mk (Str.ofString "expand_most") (Str.ofString "Matcher.expand_most") p210 (FuncBody.stmts b210) s210 3 [] Value.none Value.none Value.none (Value.str (Str.ofString "lua.patterns") 240) none (Value.ref 209) Value.none 0)) #[] ::
    Obj.mk (Value.type "tuple") none (Data.seq #[]) #[] ::
    Obj.mk Value.none none (Data.fields #[]) #[] ::
    Obj.mk (Value.type "tuple") none (Data.seq #[Value.str (Str.ofString "self") 497, Value.str (Str.ofString "s") 498, Value.str (Str.ofString "p") 499, Value.str (Str.ofString "end") 500, Value.str (Str.ofString "found") 501]) #[] ::
    Obj.mk (Value.type "tuple") none (Data.seq #[]) #[] ::
    Obj.mk Value.none none (Data.func (FuncData.mk (Str.ofString "expand_least") (Str.ofString "Matcher.expand_least") p217 (FuncBody.stmts b217) s217 0 [] Value.none Value.none Value.none Value.none none Value.none Value.none 0)) #[] ::
    Obj.mk (Value.type "code") none (Data.fields #[Value.str (Str.ofString "expand_least") 494, Value.str (Str.ofString "Matcher.expand_least") 495, Value.str (Str.ofString "/claim/cut.py") 496, Value.int 255 0, Value.int 4 0, Value.int 0 0, Value.int 0 0, Value.int 3 0, Value.ref 211, Value.bool Bool.true, Value.int 181 0, Value.ref 212, Value.none, Value.ref 213, Value.ref 214, Value.ref 215, Value.int 502 0, Value.int 255 0, Value.str (Str.ofString "/claim/cut.py") 503]) #[] ::
    Obj.mk (Value.type "function") none (Data.func (FuncData.mk (Str.ofString "expand_least") (Str.ofString "Matcher.expand_least") p217 (FuncBody.stmts b217) s217 3 [] Value.none Value.none Value.none (Value.str (Str.ofString "lua.patterns") 240) none (Value.ref 216) Value.none 0)) #[] ::
    Obj.mk (Value.type "tuple") none (Data.seq #[]) #[] ::
    Obj.mk Value.none none (Data.fields #[]) #[] ::
    Obj.mk (Value.type "tuple") none (Data.seq #[Value.str (Str.ofString "self") 508, Value.str (Str.ofString "s") 509, Value.str (Str.ofString "p") 510, Value.str (Str.ofString "kind") 511, Value.str (Str.ofString "found") 512]) #[] ::
    Obj.mk (Value.type "tuple") none (Data.seq #[]) #[] ::
    Obj.mk Value.none none (Data.func (FuncData.mk (Str.ofString "start_capture") (Str.ofString "Matcher.start_capture") p224 (FuncBody.stmts b224) s224 0 [] Value.none Value.none Value.none Value.none none Value.none Value.none 0)) #[] ::
    Obj.mk (Value.type "code") none (Data.fields #[Value.str (Str.ofString "start_capture") 505, Value.str (Str.ofString "Matcher.start_capture") 506, Value.str (Str.ofString "/claim/cut.py") 507, Value.int 264 0, Value.int 4 0, Value.int 0 0, Value.int 0 0, Value.int 3 0, Value.ref 218, Value.bool Bool.true, Value.int 181 0, Value.ref 219, Value.none, Value.ref 220, Value.ref 221, Value.ref 222, Value.int 513 0, Value.int 264 0, Value.str (Str.ofString "/claim/cut.py") 514]) #[] ::
    Obj.mk (Value.type "function") none (Data.func (FuncData.mk (Str.ofString "start_capture") (Str.ofString "Matcher.start_capture") p224 (FuncBody.stmts b224) s224 3 [] Value.none Value.none Value.none (Value.str (Str.ofString "lua.patterns") 240) none (Value.ref 223) Value.none 0)) #[] ::
    Obj.mk (Value.type "tuple") none (Data.seq #[]) #[] ::
    Obj.mk Value.none none (Data.fields #[]) #[] ::
    Obj.mk (Value.type "tuple") none (Data.seq #[Value.str (Str.ofString "self") 519, Value.str (Str.ofString "s") 520, Value.str (Str.ofString "p") 521, Value.str (Str.ofString "number") 522, Value.str (Str.ofString "found") 523]) #[] ::
    Obj.mk (Value.type "tuple") none (Data.seq #[]) #[] ::
    Obj.mk Value.none none (Data.func (FuncData.mk (Str.ofString "end_capture") (Str.ofString "Matcher.end_capture") p231 (FuncBody.stmts b231) s231 0 [] Value.none Value.none Value.none Value.none none Value.none Value.none 0)) #[] ::
    Obj.mk (Value.type "code") none (Data.fields #[Value.str (Str.ofString "end_capture") 516, Value.str (Str.ofString "Matcher.end_capture") 517, Value.str (Str.ofString "/claim/cut.py") 518, Value.int 275 0, Value.int 3 0, Value.int 0 0, Value.int 0 0, Value.int 3 0, Value.ref 225, Value.bool Bool.true, Value.int 181 0, Value.ref 226, Value.none, Value.ref 227, Value.ref 228, Value.ref 229, Value.int 524 0, Value.int 275 0, Value.str (Str.ofString "/claim/cut.py") 525]) #[] ::
    Obj.mk (Value.type "function") none (Data.func (FuncData.mk (Str.ofString "end_capture") (Str.ofString "Matcher.end_capture") p231 (FuncBody.stmts b231) s231 3 [] Value.none Value.none Value.none (Value.str (Str.ofString "lua.patterns") 240) none (Value.ref 230) Value.none 0)) #[] ::
    Obj.mk (Value.type "tuple") none (Data.seq #[]) #[] ::
    Obj.mk Value.none none (Data.fields #[]) #[] ::
    Obj.mk (Value.type "tuple") none (Data.seq #[Value.str (Str.ofString "self") 530, Value.str (Str.ofString "number") 531]) #[] ::
    Obj.mk (Value.type "tuple") none (Data.seq #[]) #[] ::
    Obj.mk Value.none none (Data.func (FuncData.mk (Str.ofString "to_close") (Str.ofString "Matcher.to_close") p238 (FuncBody.stmts b238) s238 0 [] Value.none Value.none Value.none Value.none none Value.none Value.none 0)) #[] ::
    Obj.mk (Value.type "code") none (Data.fields #[Value.str (Str.ofString "to_close") 527, Value.str (Str.ofString "Matcher.to_close") 528, Value.str (Str.ofString "/claim/cut.py") 529, Value.int 283 0, Value.int 1 0, Value.int 0 0, Value.int 0 0, Value.int 3 0, Value.ref 232, Value.bool Bool.true, Value.int 181 0, Value.ref 233, Value.none, Value.ref 234, Value.ref 235, Value.ref 236, Value.int 532 0, Value.int 283 0, Value.str (Str.ofString "/claim/cut.py") 533]) #[] ::
    Obj.mk (Value.type "function") none (Data.func (FuncData.mk (Str.ofString "to_close") (Str.ofString "Matcher.to_close") p238 (FuncBody.stmts b238) s238 3 [] Value.none Value.none Value.none (Value.str (Str.ofString "lua.patterns") 240) none (Value.ref 237) Value.none 0)) #[] ::
    Obj.mk (Value.type "tuple") none (Data.seq #[]) #[] ::
    Obj.mk Value.none none (Data.fields #[]) #[] ::
    Obj.mk (Value.type "tuple") none (Data.seq #[Value.str (Str.ofString "self") 538, Value.str (Str.ofString "s") 539, Value.str (Str.ofString "digit") 540, Value.str (Str.ofString "number") 541, Value.str (Str.ofString "size") 542, Value.str (Str.ofString "start") 543]) #[] ::
    Obj.mk (Value.type "tuple") none (Data.seq #[]) #[] ::
    Obj.mk Value.none none (Data.func (FuncData.mk (Str.ofString "match_capture") (Str.ofString "Matcher.match_capture") p245 (FuncBody.stmts b245) s245 0 [] Value.none Value.none Value.none Value.none none Value.none Value.none 0)) #[] ::
    Obj.mk (Value.type "code") none (Data.fields #[Value.str (Str.ofString "match_capture") 535, Value.str (Str.ofString "Matcher.match_capture") 536, Value.str (Str.ofString "/claim/cut.py") 537, Value.int 291 0, Value.int 3 0, Value.int 0 0, Value.int 0 0, Value.int 3 0, Value.ref 239, Value.bool Bool.true, Value.int 181 0, Value.ref 240, Value.none, Value.ref 241, Value.ref 242, Value.ref 243, Value.int 544 0, Value.int 291 0, Value.str (Str.ofString "/claim/cut.py") 545]) #[] ::
    Obj.mk (Value.type "function") none (Data.func (FuncData.mk (Str.ofString "match_capture") (Str.ofString "Matcher.match_capture") p245 (FuncBody.stmts b245) s245 3 [] Value.none Value.none Value.none (Value.str (Str.ofString "lua.patterns") 240) none (Value.ref 244) Value.none 0)) #[] ::
    Obj.mk (Value.type "tuple") none (Data.seq #[]) #[] ::
    Obj.mk Value.none none (Data.fields #[]) #[] ::
    Obj.mk (Value.type "tuple") none (Data.seq #[Value.str (Str.ofString "self") 550, Value.str (Str.ofString "number") 551, Value.str (Str.ofString "s") 552, Value.str (Str.ofString "end") 553, Value.str (Str.ofString "size") 554, Value.str (Str.ofString "start") 555]) #[] ::
    Obj.mk (Value.type "tuple") none (Data.seq #[]) #[] ::
    Obj.mk Value.none none (Data.func (FuncData.mk (Str.ofString "capture") (Str.ofString "Matcher.capture") p252 (FuncBody.stmts b252) s252 0 [] Value.none Value.none Value.none Value.none none Value.none Value.none 0)) #[] ::
    Obj.mk (Value.type "code") none (Data.fields #[Value.str (Str.ofString "capture") 547, Value.str (Str.ofString "Matcher.capture") 548, Value.str (Str.ofString "/claim/cut.py") 549, Value.int 301 0, Value.int 4 0, Value.int 0 0, Value.int 0 0, Value.int 3 0, Value.ref 246, Value.bool Bool.true, Value.int 181 0, Value.ref 247, Value.none, Value.ref 248, Value.ref 249, Value.ref 250, Value.int 556 0, Value.int 301 0, Value.str (Str.ofString "/claim/cut.py") 557]) #[] ::
    Obj.mk (Value.type "function") none (Data.func (FuncData.mk (Str.ofString "capture") (Str.ofString "Matcher.capture") p252 (FuncBody.stmts b252) s252 3 [] Value.none Value.none Value.none (Value.str (Str.ofString "lua.patterns") 240) none (Value.ref 251) Value.none 0)) #[] ::
    Obj.mk (Value.type "tuple") none (Data.seq #[]) #[] ::
    Obj.mk Value.none none (Data.fields #[]) #[] ::
    Obj.mk Value.none none (Data.func (FuncData.mk (Str.ofString "captures") (Str.ofString "Matcher.captures") p257 (FuncBody.stmts b257) s257 0 [] Value.none Value.none Value.none Value.none none Value.none Value.none 0)) #[] ::
    Obj.mk (Value.type "code") none (Data.fields #[Value.str (Str.ofString "captures") 559, Value.str (Str.ofString "Matcher.captures") 560, Value.str (Str.ofString "/claim/cut.py") 561, Value.int 311 0, Value.int 4 0, Value.int 0 0, Value.int 0 0, Value.int 3 0, Value.ref 253, Value.bool Bool.true, Value.int 181 0, Value.ref 254, Value.none, Value.none, Value.none, Value.ref 255, Value.int 562 0, Value.int 311 0, Value.str (Str.ofString "/claim/cut.py") 563]) #[] ::
    Obj.mk (Value.type "function") none (Data.func (FuncData.mk (Str.ofString "captures") (Str.ofString "Matcher.captures") p257 (FuncBody.stmts b257) s257 3 [] Value.none Value.none Value.none (Value.str (Str.ofString "lua.patterns") 240) none (Value.ref 256) Value.none 0)) #[] ::
    Obj.mk (Value.type "tuple") none (Data.seq #[]) #[] ::
    Obj.mk Value.none none (Data.fields #[]) #[] ::
    Obj.mk (Value.type "tuple") none (Data.seq #[Value.str (Str.ofString "self") 568, Value.str (Str.ofString "init") 569, Value.str (Str.ofString "p") 570, Value.str (Str.ofString "is_anchored") 571]) #[] ::
    Obj.mk (Value.type "tuple") none (Data.seq #[]) #[] ::
    Obj.mk Value.none none (Data.func (FuncData.mk (Str.ofString "search") (Str.ofString "Matcher.search") p264 (FuncBody.stmts b264) s264 0 [] Value.none Value.none Value.none Value.none none Value.none Value.none 0)) #[] ::
    Obj.mk (Value.type "code") none (Data.fields #[Value.str (Str.ofString "search") 565, Value.str (Str.ofString "Matcher.search") 566, Value.str (Str.ofString "/claim/cut.py") 567, Value.int 315 0, Value.int 4 0, Value.int 0 0, Value.int 0 0, Value.int 3 0, Value.ref 258, Value.bool Bool.true, Value.int 181 0, Value.ref 259, Value.none, Value.ref 260, Value.ref 261, Value.ref 262, Value.int 572 0, Value.int 315 0, Value.str (Str.ofString "/claim/cut.py") 573]) #[] ::
    Obj.mk (Value.type "function") none (Data.func (FuncData.mk (Str.ofString "search") (Str.ofString "Matcher.search") p264 (FuncBody.stmts b264) s264 3 [] Value.none Value.none Value.none (Value.str (Str.ofString "lua.patterns") 240) none (Value.ref 263) Value.none 0)) #[] ::
    Obj.mk (Value.type "tuple") none (Data.seq #[Value.str (Str.ofString "depth") 575, Value.str (Str.ofString "lengths") 576, Value.str (Str.ofString "level") 577, Value.str (Str.ofString "most_depth") 578, Value.str (Str.ofString "pattern") 579, Value.str (Str.ofString "starts") 580, Value.str (Str.ofString "text") 581, Value.str (Str.ofString "tick") 582]) #[] ::
    Obj.mk (Value.type "dict") none (Data.dict #[DictEntry.mk (PyData.keyHash P (Str.ofString "__module__")) (Value.str (Str.ofString "__module__") 347) (Value.str (Str.ofString "lua.patterns") 240), DictEntry.mk (PyData.keyHash P (Str.ofString "__firstlineno__")) (Value.str (Str.ofString "__firstlineno__") 351) (Value.int 78 350), DictEntry.mk (PyData.keyHash P (Str.ofString "__init__")) (Value.str (Str.ofString "__init__") 364) (Value.ref 126), DictEntry.mk (PyData.keyHash P (Str.ofString "count")) (Value.str (Str.ofString "count") 371) (Value.ref 133), DictEntry.mk (PyData.keyHash P (Str.ofString "reset")) (Value.str (Str.ofString "reset") 378) (Value.ref 140), DictEntry.mk (PyData.keyHash P (Str.ofString "at")) (Value.str (Str.ofString "at") 386) (Value.ref 147), DictEntry.mk (PyData.keyHash P (Str.ofString "class_end")) (Value.str (Str.ofString "class_end") 397) (Value.ref 154), DictEntry.mk (PyData.keyHash P (Str.ofString "in_set")) (Value.str (Str.ofString "in_set") 409) (Value.ref 161), DictEntry.mk (PyData.keyHash P (Str.ofString "is_single")) (Value.str (Str.ofString "is_single") 421) (Value.ref 168), DictEntry.mk (PyData.keyHash P (Str.ofString "match")) (Value.str (Str.ofString "match") 431) (Value.ref 175), DictEntry.mk (PyData.keyHash P (Str.ofString "match_here")) (Value.str (Str.ofString "match_here") 446) (Value.ref 182), DictEntry.mk (PyData.keyHash P (Str.ofString "match_special")) (Value.str (Str.ofString "match_special") 456) (Value.ref 189), DictEntry.mk (PyData.keyHash P (Str.ofString "match_balance")) (Value.str (Str.ofString "match_balance") 469) (Value.ref 196), DictEntry.mk (PyData.keyHash P (Str.ofString "match_frontier")) (Value.str (Str.ofString "match_frontier") 481) (Value.ref 203), DictEntry.mk (PyData.keyHash P (Str.ofString "expand_most")) (Value.str (Str.ofString "expand_most") 493) (Value.ref 210), DictEntry.mk (PyData.keyHash P (Str.ofString "expand_least")) (Value.str (Str.ofString "expand_least") 504) (Value.ref 217), DictEntry.mk (PyData.keyHash P (Str.ofString "start_capture")) (Value.str (Str.ofString "start_capture") 515) (Value.ref 224), DictEntry.mk (PyData.keyHash P (Str.ofString "end_capture")) (Value.str (Str.ofString "end_capture") 526) (Value.ref 231), DictEntry.mk (PyData.keyHash P (Str.ofString "to_close")) (Value.str (Str.ofString "to_close") 534) (Value.ref 238), DictEntry.mk (PyData.keyHash P (Str.ofString "match_capture")) (Value.str (Str.ofString "match_capture") 546) (Value.ref 245), DictEntry.mk (PyData.keyHash P (Str.ofString "capture")) (Value.str (Str.ofString "capture") 558) (Value.ref 252), DictEntry.mk (PyData.keyHash P (Str.ofString "captures")) (Value.str (Str.ofString "captures") 564) (Value.ref 257), DictEntry.mk (PyData.keyHash P (Str.ofString "search")) (Value.str (Str.ofString "search") 574) (Value.ref 264), DictEntry.mk (PyData.keyHash P (Str.ofString "__static_attributes__")) (Value.str (Str.ofString "__static_attributes__") 583) (Value.ref 265), DictEntry.mk (PyData.keyHash P (Str.ofString "__dict__")) (Value.str (Str.ofString "__dict__") 585) (Value.ref 268), DictEntry.mk (PyData.keyHash P (Str.ofString "__weakref__")) (Value.str (Str.ofString "__weakref__") 587) (Value.ref 269), DictEntry.mk (PyData.keyHash P (Str.ofString "__doc__")) (Value.str (Str.ofString "__doc__") 588) Value.none] 4) #[] ::
    Obj.mk (Value.type "type") none (Data.cls (ClassData.mk (Str.ofString "Matcher") [Value.type "object"] [Value.ref 267, Value.type "object"] 266 (Str.ofString "Matcher") Bool.true [] [] Bool.false none Bool.false)) #[none, none, some (Value.str (Str.ofString "Matcher") 340), some (Value.str (Str.ofString "Matcher") 348), some (Value.builtin "object.__new__"), some (Value.bool Bool.true)] ::
    Obj.mk (Value.type "getset_descriptor") none (Data.fields #[Value.str (Str.ofString "__dict__") 584, Value.ref 267, Value.builtin "function.__dict__", Value.builtin "function.__dict__#set"]) #[] ::
    Obj.mk (Value.type "getset_descriptor") none (Data.fields #[Value.str (Str.ofString "__weakref__") 586, Value.ref 267, Value.builtin "ExceptionGroup.__weakref__", Value.none]) #[] ::
    Obj.mk (Value.type "super") none (Data.fields #[Value.ref 267, Value.ref 267, Value.ref 267]) #[] ::
    Obj.mk (Value.type "builtin_function_or_method") none (Data.fields #[Value.builtin "object.__init_subclass__", Value.ref 267]) #[] ::
    Obj.mk (Value.type "tuple") none (Data.seq #[]) #[] ::
    Obj.mk Value.none none (Data.fields #[]) #[] ::
    Obj.mk (Value.type "tuple") none (Data.seq #[Value.str (Str.ofString "bowl") 596, Value.str (Str.ofString "many") 597, Value.str (Str.ofString "place") 598]) #[] ::
    Obj.mk (Value.type "tuple") none (Data.seq #[]) #[] ::
    Obj.mk Value.none none (Data.func (FuncData.mk (Str.ofString "_law_from") (Str.ofString "_law_from") p278 (FuncBody.stmts b278) s278 0 [] Value.none Value.none Value.none Value.none none Value.none Value.none 0)) #[] ::
    Obj.mk (Value.type "code") none (Data.fields #[Value.str (Str.ofString "_law_from") 593, Value.str (Str.ofString "_law_from") 594, Value.str (Str.ofString "/claim/cut.py") 595, Value.int 318 0, Value.int 2 0, Value.int 0 0, Value.int 0 0, Value.int 3 0, Value.ref 272, Value.bool Bool.true, Value.int 181 0, Value.ref 273, Value.none, Value.ref 274, Value.ref 275, Value.ref 276, Value.int 599 0, Value.int 318 0, Value.str (Str.ofString "/claim/cut.py") 600]) #[] ::
    Obj.mk (Value.type "function") none (Data.func (FuncData.mk (Str.ofString "_law_from") (Str.ofString "_law_from") p278 (FuncBody.stmts b278) s278 3 [] Value.none Value.none Value.none (Value.str (Str.ofString "law_xm0622_01") 591) none (Value.ref 277) Value.none 0)) #[] ::
    Obj.mk (Value.type "tuple") none (Data.seq #[]) #[] ::
    Obj.mk Value.none none (Data.fields #[]) #[] ::
    Obj.mk (Value.type "tuple") none (Data.seq #[Value.str (Str.ofString "text") 605, Value.str (Str.ofString "word") 606, Value.str (Str.ofString "begin") 607, Value.str (Str.ofString "ends_at") 608, Value.str (Str.ofString "found") 609]) #[] ::
    Obj.mk (Value.type "tuple") none (Data.seq #[Value.str (Str.ofString "matcher") 610]) #[] ::
    Obj.mk Value.none none (Data.func (FuncData.mk (Str.ofString "_law_met") (Str.ofString "_law_met") p285 (FuncBody.stmts b285) s285 0 [] Value.none Value.none Value.none Value.none none Value.none Value.none 0)) #[] ::
    Obj.mk (Value.type "code") none (Data.fields #[Value.str (Str.ofString "_law_met") 602, Value.str (Str.ofString "_law_met") 603, Value.str (Str.ofString "/claim/cut.py") 604, Value.int 322 0, Value.int 3 0, Value.int 0 0, Value.int 0 0, Value.int 3 0, Value.ref 279, Value.bool Bool.true, Value.int 181 0, Value.ref 280, Value.none, Value.ref 281, Value.ref 282, Value.ref 283, Value.int 611 0, Value.int 322 0, Value.str (Str.ofString "/claim/cut.py") 612]) #[] ::
    Obj.mk (Value.type "function") none (Data.func (FuncData.mk (Str.ofString "_law_met") (Str.ofString "_law_met") p285 (FuncBody.stmts b285) s285 3 [] Value.none Value.none Value.none (Value.str (Str.ofString "law_xm0622_01") 591) none (Value.ref 284) Value.none 0)) #[] ::
    Obj.mk (Value.type "tuple") none (Data.seq #[]) #[] ::
    Obj.mk Value.none none (Data.fields #[]) #[] ::
    Obj.mk Value.none none (Data.func (FuncData.mk (Str.ofString "_law_put_on") (Str.ofString "_law_put_on") p290 (FuncBody.stmts b290) s290 0 [] Value.none Value.none Value.none Value.none none Value.none Value.none 0)) #[] ::
    Obj.mk (Value.type "code") none (Data.fields #[Value.str (Str.ofString "_law_put_on") 614, Value.str (Str.ofString "_law_put_on") 615, Value.str (Str.ofString "/claim/cut.py") 616, Value.int 330 0, Value.int 2 0, Value.int 0 0, Value.int 0 0, Value.int 3 0, Value.ref 286, Value.bool Bool.true, Value.int 181 0, Value.ref 287, Value.none, Value.none, Value.none, Value.ref 288, Value.int 617 0, Value.int 330 0, Value.str (Str.ofString "/claim/cut.py") 618]) #[] ::
    Obj.mk (Value.type "function") none (Data.func (FuncData.mk (Str.ofString "_law_put_on") (Str.ofString "_law_put_on") p290 (FuncBody.stmts b290) s290 3 [] Value.none Value.none Value.none (Value.str (Str.ofString "law_xm0622_01") 591) none (Value.ref 289) Value.none 0)) #[] ::
    Obj.mk (Value.type "tuple") none (Data.seq #[]) #[] ::
    Obj.mk Value.none none (Data.fields #[]) #[] ::
    Obj.mk Value.none none (Data.func (FuncData.mk (Str.ofString "_law_words") (Str.ofString "_law_words") p295 (FuncBody.stmts b295) s295 0 [] Value.none Value.none Value.none Value.none none Value.none Value.none 0)) #[] ::
    Obj.mk (Value.type "code") none (Data.fields #[Value.str (Str.ofString "_law_words") 620, Value.str (Str.ofString "_law_words") 621, Value.str (Str.ofString "/claim/cut.py") 622, Value.int 340 0, Value.int 2 0, Value.int 0 0, Value.int 0 0, Value.int 3 0, Value.ref 291, Value.bool Bool.true, Value.int 181 0, Value.ref 292, Value.none, Value.none, Value.none, Value.ref 293, Value.int 623 0, Value.int 340 0, Value.str (Str.ofString "/claim/cut.py") 624]) #[] ::
    Obj.mk (Value.type "function") none (Data.func (FuncData.mk (Str.ofString "_law_words") (Str.ofString "_law_words") p295 (FuncBody.stmts b295) s295 3 [] Value.none Value.none Value.none (Value.str (Str.ofString "law_xm0622_01") 591) none (Value.ref 294) Value.none 0)) #[] ::
    Obj.mk (Value.type "tuple") none (Data.seq #[]) #[] ::
    Obj.mk Value.none none (Data.fields #[]) #[] ::
    Obj.mk Value.none none (Data.func (FuncData.mk (Str.ofString "_law_least_ones") (Str.ofString "_law_least_ones") p300 (FuncBody.stmts b300) s300 0 [] Value.none Value.none Value.none Value.none none Value.none Value.none 0)) #[] ::
    Obj.mk (Value.type "code") none (Data.fields #[Value.str (Str.ofString "_law_least_ones") 626, Value.str (Str.ofString "_law_least_ones") 627, Value.str (Str.ofString "/claim/cut.py") 628, Value.int 345 0, Value.int 2 0, Value.int 0 0, Value.int 0 0, Value.int 3 0, Value.ref 296, Value.bool Bool.true, Value.int 181 0, Value.ref 297, Value.none, Value.none, Value.none, Value.ref 298, Value.int 629 0, Value.int 345 0, Value.str (Str.ofString "/claim/cut.py") 630]) #[] ::
    Obj.mk (Value.type "function") none (Data.func (FuncData.mk (Str.ofString "_law_least_ones") (Str.ofString "_law_least_ones") p300 (FuncBody.stmts b300) s300 3 [] Value.none Value.none Value.none (Value.str (Str.ofString "law_xm0622_01") 591) none (Value.ref 299) Value.none 0)) #[] ::
    Obj.mk (Value.type "tuple") none (Data.seq #[]) #[] ::
    Obj.mk Value.none none (Data.fields #[]) #[] ::
    Obj.mk (Value.type "tuple") none (Data.seq #[Value.str (Str.ofString "script") 635, Value.str (Str.ofString "bowl") 636, Value.str (Str.ofString "form") 637, Value.str (Str.ofString "first") 638, Value.str (Str.ofString "second") 639, Value.str (Str.ofString "letters") 640, Value.str (Str.ofString "size") 641, Value.str (Str.ofString "text") 642, Value.str (Str.ofString "rows") 643, Value.str (Str.ofString "long") 644, Value.str (Str.ofString "ring") 645, Value.str (Str.ofString "around") 646, Value.str (Str.ofString "word") 647, Value.str (Str.ofString "at") 648]) #[] ::
    Obj.mk (Value.type "tuple") none (Data.seq #[]) #[] ::
    Obj.mk Value.none none (Data.func (FuncData.mk (Str.ofString "law") (Str.ofString "law") p307 (FuncBody.stmts b307) s307 0 [] Value.none Value.none Value.none Value.none none Value.none Value.none 0)) #[] ::
    Obj.mk (Value.type "code") none (Data.fields #[Value.str (Str.ofString "law") 632, Value.str (Str.ofString "law") 633, Value.str (Str.ofString "/claim/cut.py") 634, Value.int 349 0, Value.int 1 0, Value.int 0 0, Value.int 0 0, Value.int 3 0, Value.ref 301, Value.bool Bool.true, Value.int 181 0, Value.ref 302, Value.none, Value.ref 303, Value.ref 304, Value.ref 305, Value.int 649 0, Value.int 349 0, Value.str (Str.ofString "/claim/cut.py") 650]) #[] ::
    Obj.mk (Value.type "function") none (Data.func (FuncData.mk (Str.ofString "law") (Str.ofString "law") p307 (FuncBody.stmts b307) s307 3 [] Value.none Value.none Value.none (Value.str (Str.ofString "law_xm0622_01") 591) none (Value.ref 306) Value.none 0)) #[] :: [])) (Life.mk [] [] [] 0 [] [] false #[] [] 0 false false false 0 [2000, 10, 10] false 0 true [] [] 0 false)
abbrev rP : Program := PySem.Challenge.rw_xm0622_01.row.prog
noncomputable abbrev envT : Env := { scope := rP.main.scope, locals := mainNs, globals := mainNs, cells := [], code := .ref 13, frame := some 14 }

noncomputable abbrev bodyT : List Stmt := behindTheImports rP
noncomputable abbrev lA : List Stmt := bodyT.take 30
noncomputable abbrev lB : List Stmt := (bodyT.drop 30).take 1
noncomputable abbrev lC : List Stmt := bodyT.drop 31
noncomputable abbrev cT : Code := .body bodyT envT
abbrev qT : Pos := ⟨0, 0, 0, 0⟩
abbrev stT (H : Params → Heap) (k : Nat) (w : World) (os : OsState) : Shared := ⟨H w.params, Array.mk [], Drawn.mk 0 0 0 0, k, os⟩
abbrev annT : Option Value := some (.ref 6)
theorem run_pre (w : World) (os : OsState) : topGo treeTable rP w 11 annT 12 ⟨boot_heap w.params, Array.mk [], boot_drawn, boot_toks, os⟩ (topStub rP) = some (stT H0 187 w os, ⟨denote treeTable (.body bodyT envT), cT, qT, [topFrame qT]⟩) := by
  kernel_rfl
theorem run_block (w : World) (os : OsState) : segRun treeTable rP w 11 annT 1 1 (stT H0 187 w os) (blockOf bodyT envT cT qT [topFrame qT]) = some (.next, stT H0 187 w os, cT, qT) := by
  kernel_rfl
theorem run_A (w : World) (os : OsState) : segRun treeTable rP w 11 annT 1 729 (stT H0 187 w os) (piecesOf lA envT cT qT [topFrame qT]) = some (.next, stT H1 340 w os, cT, ⟨53, 0, 77, 51⟩) := by
  kernel_rfl
theorem run_B (w : World) (os : OsState) : segRun treeTable rP w 11 annT 1 924 (stT H1 340 w os) (piecesOf lB envT cT ⟨53, 0, 77, 51⟩ [topFrame qT]) = some (.next, stT H2 591 w os, cT, ⟨78, 0, 316, 16⟩) := by
  kernel_rfl
theorem run_C (w : World) (os : OsState) : segRun treeTable rP w 11 annT 1 195 (stT H2 591 w os) (piecesOf lC envT cT ⟨78, 0, 316, 16⟩ [topFrame qT]) = some (.next, stT H3 652 w os, cT, ⟨349, 0, 367, 15⟩) := by
  kernel_rfl
theorem run_fin (w : World) (os : OsState) : topRun treeTable rP w 11 annT 2 (stT H3 652 w os) ⟨doneF .next, cT, ⟨349, 0, 367, 15⟩, [topFrame qT]⟩ = some (stT H3 652 w os) := by
  kernel_rfl
theorem body_parts : lA ++ (lB ++ (lC ++ [])) = bodyT := by
  kernel_rfl
theorem rest_cast {p : Program} {w : World} {n₀ n : Nat} {ann : Option Value} {s r : Shared} {env : Env} {c : Code} {pos q : Pos} {l b : List Stmt} (e : l = b)
    (k : topRun treeTable p w n₀ ann n s (restOf l env c pos [topFrame q]) = some r) : topRun treeTable p w n₀ ann n s (restOf b env c pos [topFrame q]) = some r := by
  subst e
  exact k
theorem run_all (w : World) (os : OsState) : topRun treeTable rP w 11 annT (12 + (1 + (729 + (924 + (195 + 2))))) ⟨boot_heap w.params, Array.mk [], boot_drawn, boot_toks, os⟩ (topStub rP) = some ⟨H3 w.params, Array.mk [], Drawn.mk 0 0 0 0, 652, os⟩ :=
  go_top (run_pre w os) (piece_block (run_block w os) (rest_cast body_parts (piece_app (run_A w os) (piece_app (run_B w os) (piece_app (run_C w os) (piece_nil (run_fin w os)))))))
end Mine
end
section
open PySem PySem.W PyProof.Rows
namespace Mine
theorem asK_eq : ∀ P, Mine.asK = (Mine.K P).map (·.1) := fun _ => by kernel_rfl
theorem law_said : PySem.Challenge.rw_xm0622_01.wellSaid = true := by kernel_rfl
theorem top_plain : opening rP = plainProg rP.main.scope.names := by kernel_rfl
theorem top_fence : ∀ s, fenceModules? rP s = some s := fun s => by kernel_rfl
theorem top_size (w : World) : ((boot_heap w.params).isNs mainGlobals && (Array.mk [] : Array GenState).size == 0, (boot_heap w.params).objs.size, (boot_heap w.params).nsMap mainGlobals "__annotations__") = (true, 11, annT) := by
  kernel_rfl
theorem top_looks (w : World) : (fun os => ((staticsOk (importedModules rP.main.body) (boot_heap w.params) (H3 w.params) && namesBound rP (H3 w.params) && gensDone ⟨H3 w.params, Array.mk [], Drawn.mk 0 0 0 0, 652, os⟩ && laidKept (boot_heap w.params) (H3 w.params)),
    openSeen Mine.view [] (importedModules rP.main.body) (fun s => xlAt Mine.view [] s && recOk PySem.Challenge.rw_xm0622_01.row.records s) true ⟨H3 w.params, Array.mk [], Drawn.mk 0 0 0 0, 652, os⟩,
    Hook.obs (kmHook Mine.K Mine.asK asK_eq [280]) ⟨H3 w.params, Array.mk [], Drawn.mk 0 0 0 0, 652, os⟩)) = fun _ => (true, openGood Mine.view [], Hook.val (kmHook Mine.K Mine.asK asK_eq [280]) w) := by
  kernel_rfl
/-- the top's run -/
theorem left : LeftO PySem.Challenge.rw_xm0622_01.row.prog Mine.view [] (fun s => xlAt Mine.view [] s && recOk PySem.Challenge.rw_xm0622_01.row.records s) (Hook.obs (kmHook Mine.K Mine.asK asK_eq [280])) (Hook.val (kmHook Mine.K Mine.asK asK_eq [280])) 3816 :=
  LeftO.of_pieces (H₀ := boot_heap) (H₁ := H3) (gs₀ := Array.mk []) (gs₁ := Array.mk []) (d₀ := boot_drawn) (d₁ := Drawn.mk 0 0 0 0) (k₀ := boot_toks) (k₁ := 652) (m₀ := 11) (ann := annT) (M := 12 + (1 + (729 + (924 + (195 + 2)))))
    (boot_open top_plain rfl top_fence) top_size run_all rfl top_looks
end Mine
end
section
open PySem PySem.W PyProof.Rows PySem.Builtin
namespace Mine
open PySem.Calls
theorem slot_bytes_find : Slot "bytes" "find" "bytes.find" :=
  .of (owner := "bytes") (n := "find") (by rw [typeLookup_type, builtinLookup_eq_fast]; kernel_rfl) (by decide +kernel) (by decide +kernel) (by decide +kernel)
    (by first | exact .inl (by decide +kernel) | exact .inr (by decide +kernel)) (by rw [isSubtype_type]; kernel_rfl)
theorem type_bytes_find : typeOf (.builtin "bytes.find") = pure (.type "method_descriptor") := by show builtinType _ = _; rw [builtinType_eq_fast]; kernel_rfl
theorem entry_bytes_find : entryFor table "bytes.find" = some Builtin.«bytes.find» := entryFor_of_tree (by kernel_rfl)
theorem args_bytes_find (a b : Value) : argsOk "bytes.find" ⟨[a, b], []⟩ := by
  unfold argsOk; rw [signature?_of (id := "bytes.find") (n := ['d', 'n', 'i', 'f']) (o := ['s', 'e', 't', 'y', 'b']) (by kernel_rfl) FB.owner_bytes]; kernel_rfl
theorem find_zero {b : List UInt8} (h : (0 : UInt8) ∉ b) : Bytes.find? b.toArray #[0] 0 b.toArray.size = none := by
  unfold Bytes.find?
  rw [List.find?_eq_none]
  intro i hi
  simp only [List.mem_map, List.mem_range, Nat.add_zero, exists_eq_right, List.size_toArray, List.length_cons, List.length_nil] at hi
  have hi' : i < b.length := by omega
  intro hc
  have e := eq_of_beq hc
  apply h
  have e2 : (b.toArray.extract i (i + 1))[0]? = some 0 := by
    rw [show (i + 1) = i + (#[(0 : UInt8)]).size from rfl, e]; rfl
  rw [Array.getElem?_extract] at e2
  simp at e2
  obtain ⟨_, e2⟩ := e2
  exact List.mem_of_getElem? e2
theorem gives_find_zero {b : List UInt8} {t u : Tok} (h : (0 : UInt8) ∉ b) : Gives («bytes.find» ⟨[.bytes b.toArray t, .bytes #[0] u], []⟩) (.int (-1)) := by
  refine .of_wp fun M A E s Q hq => ?_
  show wpAny M A (Bytes.searchM .bytes "find" false false _) _ E s
  unfold Bytes.searchM Bytes.searchArgs
  refine wpAny_bind (wpAny_bind ?_)
  refine wpAny_of_eq (a := (Value.bytes b.toArray t, [Value.bytes #[0] u])) (by rfl) ?_
  refine wpAny_bind (wpAny_of_eq (a := none) (by rfl) ?_)
  refine wpAny_bind (wpAny_of_eq (a := none) (by rfl) ?_)
  dsimp only [List.headD_cons]
  refine wpAny_bind (wpAny_of_eq KBy.buffer_eq ?_)
  dsimp only
  refine wpAny_bind (wpAny_pure ?_)
  refine wpAny_bind (wpAny_of_eq (a := b.toArray) (by rfl) ?_)
  refine wpAny_pure ?_
  have e : ((if ((Bytes.window b.toArray.size none none).2 - (Bytes.window b.toArray.size none none).1 < ((#[(0 : UInt8)]).size : Int)) then none else some ((Bytes.window b.toArray.size none none).1.toNat, (Bytes.window b.toArray.size none none).2.toNat)) : Option (Nat × Nat)).bind (fun x => Bytes.find? b.toArray #[0] x.1 x.2) = none := by
    by_cases hc : ((Bytes.window b.toArray.size none none).2 - (Bytes.window b.toArray.size none none).1 < ((#[(0 : UInt8)]).size : Int))
    · rw [if_pos hc]; rfl
    · rw [if_neg hc]
      have e1 : (Bytes.window b.toArray.size none none).1.toNat = 0 := by simp [Bytes.window]
      have e2 : (Bytes.window b.toArray.size none none).2.toNat = b.toArray.size := by
        simp only [Bytes.window, Option.getD_none]
        split <;> omega
      show Bytes.find? b.toArray #[0] _ _ = none
      rw [e1, e2]
      exact find_zero h
  dsimp only at e ⊢
  simp only [Bool.false_eq_true, if_false]
  rw [e]
  refine wpAny_bind (wpAny_rule ?_)
  exact wpAny_bind (wpAny_mkInt (wpAny_pure ⟨_, rfl, hq⟩))
theorem slot_bytes_le : Slot "bytes" (cmpInfo .LtE).2.1 "bytes.__le__" :=
  .of (owner := "bytes") (n := "__le__") (by rw [typeLookup_type, builtinLookup_eq_fast]; kernel_rfl) (by decide +kernel) (by decide +kernel) (by decide +kernel)
    (by first | exact .inl (by decide +kernel) | exact .inr (by decide +kernel)) (by rw [isSubtype_type]; kernel_rfl)
theorem entry_bytes_le : entryFor table "bytes.__le__" = some Builtin.«bytes.__le__» := entryFor_of_tree (by kernel_rfl)
theorem args_bytes_le (a b : Value) : argsOk "bytes.__le__" ⟨[a, b], []⟩ := by
  unfold argsOk; rw [signature?_of (id := "bytes.__le__") (n := ['_', '_', 'e', 'l', '_', '_']) (o := ['s', 'e', 't', 'y', 'b']) (by kernel_rfl) FB.owner_bytes]; kernel_rfl
def leB (a b : List UInt8) : Bool := Bytes.order a b != .gt
theorem gives_bytes_le (b c : Array UInt8) (t u : Tok) : Gives («bytes.__le__» ⟨[.bytes b t, .bytes c u], []⟩) (.val (.bool (leB b.toList c.toList))) := by
  refine .of_wp fun M A E s Q hq => ?_
  show wpAny M A (isInstance (.bytes c u) (.type "bytes") >>= fun r => _) _ E s
  refine wpAny_bind (wpAny_isInstance (typeIs_bytes s c u) F.sub_bytes_bytes ?_)
  exact wpAny_pure ⟨_, rfl, hq⟩
section
variable {prog : Program} {w : World} {A : Around} {E : Value → Shared → Prop} {s : Shared} {b : Array UInt8} {t u : Tok} {Q : Value → Shared → Prop}
theorem find_K (h : (0 : UInt8) ∉ b.toList) (hq : Q (.int (-1) s.toks) { s with toks := s.toks + 1 }) : wpAny (model prog w) A (call (.builtin "bytes.find") [.bytes b t, .bytes #[0] u]) Q E s := by
  obtain ⟨l⟩ := b
  exact call_gives slot_bytes_find (typeIs_bytes _ _ _) entry_bytes_find (args_bytes_find _ _) (gives_find_zero (b := l) h) hq
theorem le_K {c : Array UInt8} (h : Q (.bool (leB b.toList c.toList)) s) : wpAny (model prog w) A (compareOp .LtE (.bytes b t) (.bytes c u)) Q E s :=
  compareOp_gives (op := .LtE) (typeIs_bytes s b t) (typeIs_bytes s c u) slot_bytes_le entry_bytes_le (args_bytes_le _ _) (gives_bytes_le b c t u) (fun e => nomatch e) h
theorem find_method {M : Model} {pl : Sem Bool} {Q : Value × List Value → Shared → Prop} (h : Q (.builtin "bytes.find", [.bytes b t]) s) : wpAny M A (getMethod (.bytes b t) "find" pl) Q E s := by
  with_reducible exact KBd.method_of (.bytes b t) (typeIs_bytes _ _ _) slot_bytes_find type_bytes_find KBd.noRef h
end
def Halt (P : Prop) : Prop := P
theorem halt {P : Prop} (h : Halt P) : P := h
theorem ieq_yes {x y : Int} {P R : Prop} (h : x = y) (p : P) : if (x == y) = true then P else R := by subst h; simpa using p
theorem ieq_no {x y : Int} {P R : Prop} (h : x ≠ y) (p : R) : if (x == y) = true then P else R := by
  rw [if_neg (by simpa using h)]; exact p
theorem ine_yes {x y : Int} {P R : Prop} (h : x ≠ y) (p : P) : if (x != y) = true then P else R := by
  rw [if_pos (by simpa using h)]; exact p
theorem ine_no {x y : Int} {P R : Prop} (h : x = y) (p : R) : if (x != y) = true then P else R := by
  rw [if_neg (by simpa using h)]; exact p
theorem dec_yes {c : Prop} [Decidable c] {P R : Prop} (h : c) (p : P) : if decide c = true then P else R := by
  rw [if_pos (by simpa using h)]; exact p
theorem dec_no {c : Prop} [Decidable c] {P R : Prop} (h : ¬ c) (p : R) : if decide c = true then P else R := by
  rw [if_neg (by simpa using h)]; exact p
section
variable {prog : Program} {w : World} {A : Around} {E : Value → Shared → Prop} {s : Shared} {Q : Value → Shared → Prop} {b : Array UInt8} {t ui : Tok} {i : Int} {value slice : PySem.Expr}
theorem item_letter (hc : ∀ c ∈ b.toList, 97 ≤ c.toNat ∧ c.toNat ≤ 122) (hfit : b.size ≤ 1000) (h0 : 0 ≤ i) (h1 : i < (b.size : Int))
    (h : ∀ v : Int, v = ((b.toList.getD i.toNat 0).toNat : Int) → 97 ≤ v → v ≤ 122 → Q (.int v s.toks) { s with toks := s.toks + 1 })
    (hs : subscripted slice false (.bytes b t) (.int i ui) = operate [.bytes b t, .int i ui] (getItem (.bytes b t) (.int i ui)) := by with_unfolding_all rfl)
    (ht : ∀ r, letTemporaryGo value (.bytes b t) r = pure () := by intro _; with_unfolding_all rfl) :
    wpAny (model prog w) A (subscriptTail value slice (.bytes b t) (.int i ui)) Q E s := by
  obtain ⟨l⟩ := b
  have h1' : i < (l.length : Int) := by simpa using h1
  have hfit' : l.length ≤ 1000 := by simpa using hfit
  refine KBy.item_N (x := l) (by omega) h0 h1' ?_ hs ht
  have hm : l.getD i.toNat 0 ∈ l := by
    have hl : i.toNat < l.length := by omega
    rw [List.getD_eq_getElem?_getD, List.getElem?_eq_getElem hl]
    exact List.getElem_mem hl
  have := hc _ hm
  exact h _ rfl (by omega) (by omega)
theorem item_any (hfit : b.size ≤ 1000) (h0 : 0 ≤ i) (h1 : i < (b.size : Int))
    (h : ∀ v : Int, v = ((b.toList.getD i.toNat 0).toNat : Int) → Q (.int v s.toks) { s with toks := s.toks + 1 })
    (hs : subscripted slice false (.bytes b t) (.int i ui) = operate [.bytes b t, .int i ui] (getItem (.bytes b t) (.int i ui)) := by with_unfolding_all rfl)
    (ht : ∀ r, letTemporaryGo value (.bytes b t) r = pure () := by intro _; with_unfolding_all rfl) :
    wpAny (model prog w) A (subscriptTail value slice (.bytes b t) (.int i ui)) Q E s := by
  obtain ⟨l⟩ := b
  have h1' : i < (l.length : Int) := by simpa using h1
  have hfit' : l.length ≤ 1000 := by simpa using hfit
  exact KBy.item_N (x := l) (by omega) h0 h1' (h _ rfl) hs ht
end
theorem lay1 {m : Str → Option Value} {a : Str} {u : Value} (h1 : m a = some u) : m = fun y => if y = a then some u else m y := by
  funext y
  by_cases e1 : y = a
  · simp [e1, h1]
  · simp [e1]
theorem lay2 {m : Str → Option Value} {a b : Str} {u v : Value} (h1 : m a = some u) (h2 : m b = some v) : m = fun y => if y = a then some u else if y = b then some v else m y := by
  funext y
  by_cases e1 : y = a
  · simp [e1, h1]
  · by_cases e2 : y = b
    · subst e2; simp [e1, h2]
    · simp [e1, e2]
theorem lay4 {m : Str → Option Value} {a b c d : Str} {u v x z : Value} (h1 : m a = some u) (h2 : m b = some v) (h3 : m c = some x) (h4 : m d = some z) :
    m = fun y => if y = a then some u else if y = b then some v else if y = c then some x else if y = d then some z else m y := by
  funext y
  by_cases e1 : y = a
  · simp [e1, h1]
  · by_cases e2 : y = b
    · subst e2; simp [e1, h2]
    · by_cases e3 : y = c
      · subst e3; simp [e1, e2, h3]
      · by_cases e4 : y = d
        · subst e4; simp [e1, e2, e3, h4]
        · simp [e1, e2, e3, e4]
theorem lay3 {m : Str → Option Value} {a b c : Str} {u v x : Value} (h1 : m a = some u) (h2 : m b = some v) (h3 : m c = some x) :
    m = fun y => if y = a then some u else if y = b then some v else if y = c then some x else m y := by
  funext y
  by_cases e1 : y = a
  · simp [e1, h1]
  · by_cases e2 : y = b
    · subst e2; simp [e1, h2]
    · by_cases e3 : y = c
      · subst e3; simp [e1, e2, h3]
      · simp [e1, e2, e3]

abbrev Occ (text pat : List UInt8) (i : Nat) : Prop := (text.drop i).take pat.length = pat
theorem occ_step {t p : List UInt8} {i k : Nat} {x y : Int} {j : Int} (hm : (t.drop i).take k = p.take k) (h1 : k < p.length) (h2 : ¬ t.length ≤ i + k) (hx : x = ((p.getD (k : Int).toNat 0).toNat : Int)) (hj : j = (i + k : Nat)) (hy : y = ((t.getD j.toNat 0).toNat : Int)) (e : x = y) :
    (t.drop i).take (k + 1) = p.take (k + 1) := by
  have e1 : k < (t.drop i).length := by rw [List.length_drop]; omega
  rw [List.take_succ_eq_append_getElem e1, List.take_succ_eq_append_getElem h1, hm, List.getElem_drop]
  congr 2
  subst hj
  simp only [Int.toNat_natCast] at hx hy
  rw [List.getD_eq_getElem?_getD, List.getElem?_eq_getElem h1] at hx
  rw [List.getD_eq_getElem?_getD, List.getElem?_eq_getElem (by omega)] at hy
  simp only [Option.getD_some] at hx hy
  exact (UInt8.toNat_inj.mp (by omega)).symm
theorem occ_diff {t p : List UInt8} {i k : Nat} {x y : Int} {j : Int} (h1 : k < p.length) (hx : x = ((p.getD (k : Int).toNat 0).toNat : Int)) (hj : j = (i + k : Nat)) (hy : y = ((t.getD j.toNat 0).toNat : Int)) (e : x ≠ y) :
    ¬ Occ t p i := by
  intro h
  unfold Occ at h
  apply e
  subst hj
  have h2 : ((t.drop i).take p.length)[k]? = p[k]? := by rw [h]
  rw [List.getElem?_take_of_lt h1, List.getElem?_drop] at h2
  simp only [Int.toNat_natCast] at hx hy
  rw [hx, hy, List.getD_eq_getElem?_getD, List.getD_eq_getElem?_getD, h2]
theorem occ_short {t p : List UInt8} {i k : Nat} (h1 : k < p.length) (h2 : t.length ≤ i + k) : ¬ Occ t p i := by
  intro h
  unfold Occ at h
  have := congrArg List.length h
  rw [List.length_take, List.length_drop] at this
  omega
theorem occ_done {t p : List UInt8} {i k : Nat} (hm : (t.drop i).take k = p.take k) (h1 : k ≤ p.length) (h2 : ¬ ((k : Int) < (p.length : Int))) : k = p.length ∧ Occ t p i := by
  have e : k = p.length := by omega
  subst e
  exact ⟨rfl, by unfold Occ; rw [hm, List.take_length]⟩
theorem news_tail {h₀ h : Heap} {L : Addr} {q : Addr × Obj} {news : List (Addr × Obj)} (N : News h₀ L h (q :: news)) : News h₀ L h news := fun p hp => N p (List.mem_cons_of_mem _ hp)

end Mine
end
section
open PySem PySem.W PyProof.Rows
namespace Mine
open PySem.Calls

/-- what a def's end owes, where the caller's ledger is `keep ++ rest` and the callee saw `keep` alone -/
def LeaveR (h₀ : Heap) (L : Addr) (m : Str → Option Value) (g : Heap) (rest : List (Addr × Obj)) (R : Result → Shared → Prop) (v : Value) (s' : Shared) : Prop :=
  ∃ L' m' news', Fr g L' s'.heap m' ∧ News g L' s'.heap news' ∧ (Fr h₀ L s'.heap m → News h₀ L s'.heap (news' ++ rest) → (∀ q ∈ rest, ∀ p ∈ news', q.1 ≠ p.1) → R (.ok (.ret v)) s')

theorem LeaveR.of {h₀ g : Heap} {L L' : Addr} {m m' : Str → Option Value} {rest news' : List (Addr × Obj)} {R : Result → Shared → Prop} {v : Value} {s' : Shared} (F' : Fr g L' s'.heap m') (N' : News g L' s'.heap news')
    (k : Fr h₀ L s'.heap m → News h₀ L s'.heap (news' ++ rest) → (∀ q ∈ rest, ∀ p ∈ news', q.1 ≠ p.1) → R (.ok (.ret v)) s') : LeaveR h₀ L m g rest R v s' := ⟨L', m', news', F', N', k⟩

theorem LeaveR.toK {h₀ g : Heap} {L : Addr} {m : Str → Option Value} {rest : List (Addr × Obj)} {R : Result → Shared → Prop} {v : Value} {s' : Shared}
    (hr : ∀ q ∈ rest, g.get? q.1 = some q.2 ∧ q.1 ≠ L ∧ h₀.get? q.1 = none) (x : LeaveR h₀ L m g rest R v s') : LeaveK h₀ L m g R v s' := by
  obtain ⟨L', m', news', F', N', k⟩ := x
  refine ⟨L', m', news', F', N', fun F N => k F (fun p hp => ?_) fun q hq p hp e => ?_⟩
  · rcases List.mem_append.mp hp with hp | hp
    · exact N p hp
    · exact ⟨F'.keep _ _ (hr p hp).1, (hr p hp).2⟩
  · have h1 := (hr q hq).1
    rw [e, (N' p hp).2.2] at h1
    cases h1

section
variable {prog : Program} {w : World} {A₀ A : Around} {s : Shared} {K : Frag} {L : Addr} {h₀ base : Heap} {m mg mb : Str → Option Value} {keep rest : List (Addr × Obj)} {p : Program} {loose : List Str} {mean : ExcName → Option Value}
  {env : Env} {outer : List Env} {R : Result → Shared → Prop} {name qual : Str} {params : Arguments} {body : List Stmt} {scope : Scope} {dV kV doc pm cdv ct oc : Value} {an od : Option Addr} {osl : Array (Option Value)} {f : Addr} {args : Args} {binds : List (Str × Value)}

theorem restIn (N : News h₀ L s.heap (keep ++ rest)) (hdis : ∀ q ∈ rest, ∀ k ∈ keep, q.1 ≠ k.1) : ∀ q ∈ rest, (hideAll s.heap (keep.map (·.1))).get? q.1 = some q.2 ∧ q.1 ≠ L ∧ h₀.get? q.1 = none := fun q hq => by
  have h := N q (List.mem_append_right _ hq)
  refine ⟨hideAll_get _ h.1 fun hm => ?_, h.2⟩
  obtain ⟨k, hk, e⟩ := List.mem_map.mp hm
  exact hdis q hq k hk e.symm

theorem enterR (B : Below A₀ base outer h₀) (F : Fr h₀ L s.heap m) (X₀ : K.In h₀) (N : News h₀ L s.heap (keep ++ rest)) (hdis : ∀ q ∈ rest, ∀ k ∈ keep, q.1 ≠ k.1) (T : Top p loose mean mg mb h₀)
    (hA : A.frames = some (env :: outer)) (hf : env.frame = some L) (hke : env.scope.kind = .function)
    (ho : K.lookup f = some ⟨oc, od, .func (fnOf name qual params body scope dV kV doc pm an cdv ct), osl⟩) (hcd : codeIn K cdv qual = true) (hroom : A.depth < recursionLimit)
    (hbind : BindsTo s (fnOf name qual params body scope dV kV doc pm an cdv ct) args binds) (hloc : ∀ y ∈ binds, scope.names.lookup y.1 = some .local)
    (h : ∀ g L' h₁, Fr g L' h₁ (fun y => binds.reverse.lookup y) → News g L' h₁ keep → Below A base (env :: outer) g → K.In g → Top p loose mean mg mb g → (∀ b o, h₀.get? b = some o → g.get? b = some o) →
      (∀ b o, s.heap.get? b = some o → (∀ k ∈ keep, b ≠ k.1) → g.get? b = some o) → (∀ q ∈ keep, q.1 < L') →
      wpAny (model prog w) (A.deeper (envOf qual scope L' f cdv)) (execs body (envOf qual scope L' f cdv))
        (fun fl s' => LeaveR h₀ L m g rest R (match fl with | .ret v => v | _ => .none) s')
        (fun e s' => wpAny (model prog w) (A.deeper (envOf qual scope L' f cdv)) (leaving (envOf qual scope L' f cdv) e) (fun _ s'' => R (.error e) s'') (fun e' s'' => R (.error e') s'') s')
        { s with heap := h₁, toks := s.toks + binds.length })
    (hco : scope.isCoroutine = false) (hgen : scope.isGenerator = false) (hk : scope.kind = .function)
    (hcell : ∀ x ∈ scope.names, x.2 ≠ .cell) : codeAny (model prog w) A (.call (.ref f) args) R s := by
  have Nk : News h₀ L s.heap keep := fun q hq => N q (List.mem_append_left _ hq)
  have hr := restIn N hdis
  obtain ⟨FG, BG, st', lv⟩ := groundX (R := R) B F Nk hA hf hke
  have st : ∀ b o, h₀.get? b = some o → (hideAll s.heap (keep.map (fun x => x.1))).get? b = some o := fun b o e => st' b o e
  refine codeAny_call_def (fd := fnOf name qual params body scope dV kV doc pm an cdv ct) (body := body) (binds := binds) hroom ((X₀.keeps F.keep) _ _ ho) rfl (T.nolimit.keeps F.keep) (codeRec_of (X₀.keeps F.keep) hcd) rfl hbind hcell hloc (fun h₁ hns hk₁ => ?_) hco hgen hk
  refine wpAny_mono (h (hideAll s.heap (keep.map (·.1))) s.heap.objs.size h₁ ⟨hns, fun b o e => hk₁ b o (of_hideAll _ e), Nat.le_of_eq (hideAll_size _ _)⟩ (fun q hq => ?_) BG (X₀.keeps st) (T.keeps st) st (fun b o e hn => ?_) (fun q hq => Heap.lt_size (Nk q hq).1))
    (fun fl s' hl => lv _ _ (hl.toK hr)) fun _ _ y => y
  · exact ⟨hk₁ _ _ (Nk q hq).1, Nat.ne_of_lt (Heap.lt_size (Nk q hq).1), hideAll_none _ (List.mem_map_of_mem hq)⟩
  · exact hideAll_get _ e fun hm => by
      obtain ⟨k, hk, e'⟩ := List.mem_map.mp hm
      exact hn k hk e'.symm

theorem enterRC (B : Below A₀ base outer h₀) (F : Fr h₀ L s.heap m) (X₀ : K.In h₀) (N : News h₀ L s.heap (keep ++ rest)) (hdis : ∀ q ∈ rest, ∀ k ∈ keep, q.1 ≠ k.1) (T : Top p loose mean mg mb h₀)
    (hA : A.frames = some (env :: outer)) (hf : env.frame = some L) (hke : env.scope.kind = .function)
    (ho : K.lookup f = some ⟨oc, od, .func (fnOf name qual params body scope dV kV doc pm an cdv ct), osl⟩) (hcd : codeIn K cdv qual = true) (hroom : A.depth < recursionLimit)
    (hbind : BindsTo s (fnOf name qual params body scope dV kV doc pm an cdv ct) args binds) (hkind : (binds.all fun y => scope.names.lookup y.1 == some .local || scope.names.lookup y.1 == some .cell) = true)
    (hnd : ((cellsFrom 0 scope.names []).map (·.1)).Nodup)
    (h : ∀ g L' h₁ tk cells, Fr g L' h₁ (bindL (envOfC qual scope L' f cdv).kindOf binds fun _ => none) → News g L' h₁ (cells ++ keep) →
      CellsAre (bindC (envOfC qual scope L' f cdv).kindOf binds fun _ => none) (cellsFrom (L' + 1) scope.names []) cells → Below A base (env :: outer) g → K.In g → Top p loose mean mg mb g → (∀ b o, h₀.get? b = some o → g.get? b = some o) →
      (∀ b o, s.heap.get? b = some o → (∀ k ∈ keep, b ≠ k.1) → g.get? b = some o) → (∀ q ∈ keep, q.1 < L') →
      wpAny (model prog w) (A.deeper (envOfC qual scope L' f cdv)) (execs body (envOfC qual scope L' f cdv))
        (fun fl s' => LeaveR h₀ L m g rest R (match fl with | .ret v => v | _ => .none) s')
        (fun e s' => wpAny (model prog w) (A.deeper (envOfC qual scope L' f cdv)) (leaving (envOfC qual scope L' f cdv) e) (fun _ s'' => R (.error e) s'') (fun e' s'' => R (.error e') s'') s')
        { s with heap := h₁, toks := tk })
    (hco : scope.isCoroutine = false) (hgen : scope.isGenerator = false) (hk : scope.kind = .function) : codeAny (model prog w) A (.call (.ref f) args) R s := by
  have Nk : News h₀ L s.heap keep := fun q hq => N q (List.mem_append_left _ hq)
  have hr := restIn N hdis
  obtain ⟨FG, BG, st', lv⟩ := groundX (R := R) B F Nk hA hf hke
  have st : ∀ b o, h₀.get? b = some o → (hideAll s.heap (keep.map (fun x => x.1))).get? b = some o := fun b o e => st' b o e
  refine codeAny_call_function hroom ((X₀.keeps F.keep) _ _ ho) rfl hco hgen rfl (codeRec_of (X₀.keeps F.keep) hcd) (hbind _ _ _ _ ?_)
  refine wpAny_newFunctionEnv_cells hk (kindsX hkind _) fun env' he s' x => ?_
  subst he
  refine ⟨(T.nolimit.keeps F.keep).keeps x.toInCall.keep, codeAny_func ?_⟩
  obtain ⟨h₁, tk, rfl, _⟩ := x.done
  have hk₁ := x.toInCall.keep
  obtain ⟨cells, NC, Y⟩ := Cl.news (h₀ := s.heap) (Nat.le_refl _) fun n c hm => ⟨x.cell n c (lookup_of_mem_nodup (cellsFrom_names scope.names 0 (s.heap.objs.size + 1) [] [] rfl ▸ hnd) hm), x.above n c hm⟩
  refine wpAny_mono (h (hideAll s.heap (keep.map (·.1))) s.heap.objs.size h₁ tk cells ⟨x.toInCall.ns, fun b o e => hk₁ b o (of_hideAll _ e), Nat.le_of_eq (hideAll_size _ _)⟩ (fun q hq => ?_) Y BG (X₀.keeps st) (T.keeps st) st (fun b o e hn => ?_) (fun q hq => Heap.lt_size (Nk q hq).1))
    (fun fl s' hl => lv _ _ (hl.toK hr)) fun _ _ y => y
  · rcases List.mem_append.mp hq with hq | hq
    · refine ⟨(NC q hq).1, (NC q hq).2.1, ?_⟩
      cases e : (hideAll s.heap (keep.map (·.1))).get? q.1 with
      | none => rfl
      | some o => have := of_hideAll _ e; rw [(NC q hq).2.2] at this; cases this
    · exact ⟨hk₁ _ _ (Nk q hq).1, Nat.ne_of_lt (Heap.lt_size (Nk q hq).1), hideAll_none _ (List.mem_map_of_mem hq)⟩
  · exact hideAll_get _ e fun hm => by
      obtain ⟨k, hk, e'⟩ := List.mem_map.mp hm
      exact hn k hk e'.symm
end

def AllNeN (d : Nat) : List (Addr × Obj) → Prop
  | [] => True
  | q :: r => @Ne Nat q.1 d ∧ AllNeN d r
theorem allNeN_of {d : Addr} : ∀ {l : List (Addr × Obj)}, (∀ q ∈ l, q.1 ≠ d) → AllNeN d l
  | [], _ => trivial
  | _ :: _, h => ⟨h _ (.head _), allNeN_of fun q hq => h q (.tail _ hq)⟩
def TabOk2 (pos : Pos) (qual : Str) (o : Obj) (c : Addr) (oc : Obj) : Prop :=
  ∃ ps vs t, o = tabObj ps ∧ TriplesOk ps.toList ∧ codeAmong pos ps.toList = some (.ref c) ∧ oc.data = .fields vs ∧ vs[1]? = some (.str qual t)
def TabOk (pos : Pos) (qual : Str) (o : Obj) (c : Addr) (oc : Obj) : Prop := o = tabObj #[] ∨ TabOk2 pos qual o c oc
theorem TabOk2.to {pos : Pos} {qual : Str} {o : Obj} {c : Addr} {oc : Obj} (h : TabOk2 pos qual o c oc) : TabOk pos qual o c oc := .inr h
section
variable {M : Model} {A : Around} {E : Value → Shared → Prop} {s : Shared} {h₀ : Heap} {L a cd P c : Addr} {m mg mb : Str → Option Value} {cn : Str} {cs : Scope} {ccd : Value} {cl : List (Str × Addr)} {own : List (Addr × Obj)}
  {p : Program} {loose : List Str} {mean : ExcName → Option Value} {name qual : Str} {params : Arguments} {body : List Stmt} {scope : Scope} {pos : Pos} {firstLine : Nat} {clos : List (Str × Addr)} {o oc : Obj}
theorem nest_any {Q : Value → Shared → Prop} (F : Fr h₀ L s.heap m) (N : News h₀ L s.heap ((P, o) :: (c, oc) :: own)) (T : Top p loose mean mg mb h₀) (C : CodeHd h₀ cd P) (hcd : ccd = .ref cd)
    (hT : TabOk pos qual o c oc) (hP : ∀ p ∈ own, p.1 ≠ P) (hP2 : c ≠ P) (hc : ∀ p ∈ own, p.1 ≠ c)
    (hcl : closureFor scope (envX cn cs L a ccd cl) = pure clos)
    (h : ∀ f o' c' oc' ctv doc h' tk, Fr h₀ L h' m → News h₀ L h' ((f, fnMade name qual params body scope clos doc ((mg "__name__").getD .none) c' ctv) :: (P, o') :: (c', oc') :: own) → TabOk2 pos qual o' c' oc' →
      (∀ p ∈ own, p.1 ≠ c') → (∀ p ∈ own, p.1 < f) → c' < f → c' ≠ P → P < f → Q (.ref f) { s with heap := h', toks := tk }) :
    wpAny M A (makeFunction name qual params (.stmts body) scope (envX cn cs L a ccd cl) [] [] [] pos firstLine) Q E s := by
  rcases hT with rfl | ⟨ps, vs, t, rfl, h1, h2, h3, h4⟩
  · refine nest_K F N T C hcd (.head fun q hq => ?_) True.intro rfl hcl fun f c' oc' vs t ctv doc h' tk F' N' d1 d2 l1 l2 => ?_
    · rcases List.mem_cons.mp hq with rfl | hq
      · exact hP2
      · exact hP q hq
    · have lP : P < c' := l1 (P, tabObj #[]) (.head _)
      refine h f (tabObj (#[] ++ #[rawInt pos.line, rawInt pos.col, .ref c'])) c' oc' ctv doc h' tk F' (fun q hq => N' q ?_) ⟨#[] ++ #[rawInt pos.line, rawInt pos.col, .ref c'], vs, t, rfl, ?_, ?_, d1, d2⟩ (fun q hq => ?_) (fun q hq => ?_) l2 (Nat.ne_of_gt lP) (Nat.lt_trans lP l2)
      · simp only [List.mem_cons] at hq ⊢
        rcases hq with hq | hq | hq | hq
        · exact .inl hq
        · exact .inr (.inr (.inl hq))
        · exact .inr (.inl hq)
        · exact .inr (.inr (.inr (.inr hq)))
      · simp [TriplesOk, rawInt]
      · simp [codeAmong, rawInt]
      · exact Nat.ne_of_lt (l1 q (.tail _ (.tail _ hq)))
      · exact Nat.lt_trans (l1 q (.tail _ (.tail _ hq))) l2
  · refine nestHit_K F N T C hcd (.head _) h1 h2 hcl fun f ctv doc h' tk F' N' l1 => ?_
    refine h f _ c oc ctv doc h' tk F' N' ⟨ps, vs, t, rfl, h1, h2, h3, h4⟩ hc (fun q hq => l1 q (.tail _ (.tail _ hq))) (l1 (c, oc) (.tail _ (.head _))) hP2 (l1 (P, tabObj ps) (.head _))
end
end Mine
end
section
open PySem PySem.W PyProof.Rows
namespace Mine
open PySem.Calls

abbrev comp2 (elt i1 i2 : Expr) (x y : Str) (px py : Pos) (scope : Scope) (pos : Pos) : Expr := .ListComp elt [⟨.Name x px, i1, [], 0⟩, ⟨.Name y py, i2, [], 0⟩] scope pos

theorem turn2_outer (elt i1 i2 : Expr) (x y : Str) (px py : Pos) (scope : Scope) (pos : Pos) (it acc : Value) (env : Env) :
    compTurn (comp2 elt i1 i2 x y px py scope pos) 0 it acc env = (standAt i1.pos >>= fun _ => pyNext it >>= fun r => match r with
      | none => pure (.done .next)
      | some v => letOwnedTupleGo (.Name x px) it v >>= fun _ => assign (.Name x px) env v >>= fun _ =>
        (eval i2 env >>= fun z => standAt i2.pos >>= fun _ => foldedSetIterable i2 env z >>= fun z => holding [z] (pyIter z) >>= fun it2 =>
          runOwn (.compStart (comp2 elt i1 i2 x y px py scope pos) 1 it2 acc env) env >>= fun _ =>
          again (.compLoop (comp2 elt i1 i2 x y px py scope pos) 0 it acc env))) := by rfl
theorem turn2_inner (elt i1 i2 : Expr) (x y : Str) (px py : Pos) (scope : Scope) (pos : Pos) (it acc : Value) (env : Env) :
    compTurn (comp2 elt i1 i2 x y px py scope pos) 1 it acc env = (standAt i2.pos >>= fun _ => pyNext it >>= fun r => match r with
      | none => pure (.done .next)
      | some v => letOwnedTupleGo (.Name y py) it v >>= fun _ => assign (.Name y py) env v >>= fun _ =>
        (eval elt env >>= fun z => call (.builtin "list.append") [acc, z] >>= fun _ => pure ()) >>= fun _ =>
          again (.compLoop (comp2 elt i1 i2 x y px py scope pos) 1 it acc env)) := by rfl

section
variable {prog : Program} {w : World} {A : Around} {R : Result → Shared → Prop} {s : Shared} {elt i1 i2 : Expr} {x y : Str} {px py : Pos} {scope : Scope} {pos : Pos} {it acc : Value} {env : Env}

abbrev nR (prog : Program) (w : World) (A : Around) (env : Env) (R : Result → Shared → Prop) : Value → Shared → Prop := notedBy (model prog w) A env fun e s' => R (.error e) s'

theorem loop2_inner (h : wpAny (model prog w) A (pyNext it) (fun r s₁ => match r with
      | none => R (.ok .next) s₁
      | some v => wpAny (model prog w) A (assign (.Name y py) env v) (fun _ s₂ => wpAny (model prog w) A (eval elt env) (fun z s₃ =>
          wpAny (model prog w) A (call (.builtin "list.append") [acc, z]) (fun _ s₄ => codeAny (model prog w) A (.compLoop (comp2 elt i1 i2 x y px py scope pos) 1 it acc env) R s₄) (nR prog w A env R) s₃)
          (nR prog w A env R) s₂) (nR prog w A env R) s₁) (nR prog w A env R) s) :
    codeAny (model prog w) A (.compLoop (comp2 elt i1 i2 x y px py scope pos) 1 it acc env) R s := by
  refine codeAny_of_tree ?_
  show wpAny _ A ((compTurn (comp2 elt i1 i2 x y px py scope pos) 1 it acc env).onRaise (fun x => do noteFrame x env; theTreesLotGoes x)) _ _ s
  refine wpAny_noted ?_
  rw [turn2_inner]
  refine wpAny_bind (wpAny_standAt (wpAny_bind (wpAny_mono h (fun r s₁ h₁ => ?_) fun _ _ h' => h')))
  cases r with
  | none => exact wpAny_pure h₁
  | some v =>
    refine wpAny_bind (wpAny_of_eq (a := ()) rfl ?_)
    exact wpAny_bind (wpAny_mono h₁ (fun _ s₂ h₂ => wpAny_bind (wpAny_bind (wpAny_mono h₂ (fun x s₃ h₃ => wpAny_bind (wpAny_mono h₃
      (fun _ s₄ h₄ => wpAny_pure (wpAny_pure ⟨rfl, h₄⟩)) fun _ _ h' => h')) fun _ _ h' => h'))) fun _ _ h' => h')

theorem loop2_outer (hs : ∀ z, foldedSetIterable i2 env z = pure z) (h : wpAny (model prog w) A (pyNext it) (fun r s₁ => match r with
      | none => R (.ok .next) s₁
      | some v => wpAny (model prog w) A (assign (.Name x px) env v) (fun _ s₂ => wpAny (model prog w) A (eval i2 env) (fun z s₃ =>
          wpAny (model prog w) A (pyIter z) (fun it2 s₄ => codeAny (model prog w) A (.compStart (comp2 elt i1 i2 x y px py scope pos) 1 it2 acc env)
            (fun r s₅ => match r with | .ok _ => codeAny (model prog w) A (.compLoop (comp2 elt i1 i2 x y px py scope pos) 0 it acc env) R s₅ | .error e => cameBackBy (model prog w) A env (nR prog w A env R) e s₅) s₄) (nR prog w A env R) s₃)
          (nR prog w A env R) s₂) (nR prog w A env R) s₁) (nR prog w A env R) s) :
    codeAny (model prog w) A (.compLoop (comp2 elt i1 i2 x y px py scope pos) 0 it acc env) R s := by
  refine codeAny_of_tree ?_
  show wpAny _ A ((compTurn (comp2 elt i1 i2 x y px py scope pos) 0 it acc env).onRaise (fun x => do noteFrame x env; theTreesLotGoes x)) _ _ s
  refine wpAny_noted ?_
  rw [turn2_outer]
  refine wpAny_bind (wpAny_standAt (wpAny_bind (wpAny_mono h (fun r s₁ h₁ => ?_) fun _ _ h' => h')))
  cases r with
  | none => exact wpAny_pure h₁
  | some v =>
    refine wpAny_bind (wpAny_of_eq (a := ()) rfl ?_)
    refine wpAny_bind (wpAny_mono h₁ (fun _ s₂ h₂ => wpAny_bind (wpAny_mono h₂ (fun z s₃ h₃ => wpAny_bind (wpAny_standAt (wpAny_bind (wpAny_of_eq (hs z) (wpAny_bind (wpAny_holding (wpAny_mono h₃ (fun it2 s₄ h₄ =>
      wpAny_bind (wpAny_runOwn (codeAny_mono h₄ fun r s₅ h₅ => ?_))) fun _ _ h' => h'))))))) fun _ _ h' => h')) fun _ _ h' => h')
    cases r with
    | ok f => exact wpAny_pure ⟨rfl, h₅⟩
    | error e => exact h₅

theorem start2 (h0 : codeAny (model prog w) A (.compLoop (comp2 elt i1 i2 x y px py scope pos) 1 it acc env) R s)
    (h : wpAny (model prog w) A (pyIter it) (fun it' s' => codeAny (model prog w) A (.compLoop (comp2 elt i1 i2 x y px py scope pos) 1 it' acc env) R s') (nR prog w A env R) s) :
    codeAny (model prog w) A (.compStart (comp2 elt i1 i2 x y px py scope pos) 1 it acc env) R s := by
  refine codeAny_of_tree ?_
  show wpAny _ _ ((compStart (comp2 elt i1 i2 x y px py scope pos) 1 it acc env).onRaise (fun x => do noteFrame x env; standAt theWindowsPlace)) _ _ s
  refine wpAny_notedAt ?_
  unfold compStart
  show wpAny _ _ (ask >>= _) _ _ s
  refine wpAny_bind (wpAny_askSetting (wpAny_ite ?_))
  split
  · exact wpAny_pure (And.intro rfl h0)
  · refine wpAny_bind (wpAny_rule ?_)
    show wpAny _ _ (standAt i2.pos >>= _) _ _ s
    exact wpAny_bind (wpAny_standAt (wpAny_bind (wpAny_mono h (fun it' s' h' => wpAny_pure (And.intro rfl h')) fun _ _ x => x)))
end

abbrev lstO (ys : List Value) : Obj := { cls := .type "list", data := .seq ys.toArray ys.length }
/-- every word beside every letter, in order -/
def Rows (F : Value → Value → Value → Prop) (l2 : List Value) : List Value → List Value → Prop
  | [], zs => zs = []
  | v :: r, zs => ∃ z1 z2, zs = z1 ++ z2 ∧ Paired (F v) l2 z1 ∧ Rows F l2 r z2

section
variable {prog : Program} {w : World} {A : Around} {elt i1 i2 : Expr} {x y : Str} {px py : Pos} {scope : Scope} {pos : Pos} {env : Env}

theorem inner2 (hh : A.handled = none) {C D I ay : Addr} {its : Array Value} {v : Value} {F : Value → Value → Prop} {s₂ : Shared}
    (hC : env.locals = C) (hy : env.kindOf y = some .local) (hxy : x ≠ y) (hp : (env.scope.kind == .class || (env.scope.kind == .module && env.locals != env.globals)) = false)
    (hDC : D ≠ C) (hIC : I ≠ C) (hID : I ≠ D) (hay : ay ≠ I ∧ ay ≠ C ∧ ay ≠ D) (hsz : its.size ≤ 1000)
    (helt : ∀ u s' m' E', u ∈ its → s'.heap.Ns C m' → m' x = some v → m' y = some u → (∀ b o, b ≠ C → b ≠ D → b ≠ I → s₂.heap.get? b = some o → s'.heap.get? b = some o) →
      wpAny (model prog w) A (eval elt env) (fun z s'' => F u z ∧ Keeps s' s'') E' s') :
    ∀ (k j : Nat) (R : Result → Shared → Prop) (s : Shared) (ys : List Value) (m : Str → Option Value), k = its.size - j → j ≤ its.size → s.heap.Ns C m → m x = some v → s.heap.get? D = some (lstO ys) → ys.length + k ≤ 100000 →
      s.heap.IsListIter I ay j → s.heap.IsList ay its → (∀ b o, b ≠ C → b ≠ D → b ≠ I → s₂.heap.get? b = some o → s.heap.get? b = some o) →
      (∀ h' tk zs m', Paired F (its.toList.drop j) zs → h'.get? D = some (lstO (ys ++ zs)) → h'.Ns C m' → (∀ b o, b ≠ C → b ≠ D → b ≠ I → s.heap.get? b = some o → h'.get? b = some o) → R (.ok .next) { s with heap := h', toks := tk }) →
      codeAny (model prog w) A (.compLoop (comp2 elt i1 i2 x y px py scope pos) 1 (.ref I) (.ref D) env) R s := by
  subst hC
  intro k
  induction k with
  | zero =>
    intro j R s ys m hk hj hn hm hD hlen hit hl hkeep hR
    refine loop2_inner ?_
    have W := Walks.list (prog := prog) (w := w) (A := A) hh I ay hay.1 its
    have e : j = its.size := by omega
    subst e
    refine W.done _ _ _ ⟨hit, hl⟩ fun h' tk hk' => ?_
    refine hR h' tk [] m ?_ ?_ ?_ ?_
    · rw [List.drop_of_length_le (by simp)]; exact .nil
    · rw [List.append_nil]; exact hk' D _ (by simp; exact Ne.symm hID) hD
    · exact hn.at' fun o e => hk' _ o (by simp; exact Ne.symm hIC) e
    · exact fun b o h1 h2 h3 e => hk' b o (by simp; exact h3) e
  | succ k ih =>
    intro j R s ys m hk hj hn hm hD hlen hit hl hkeep hR
    refine loop2_inner ?_
    have W := Walks.list (prog := prog) (w := w) (A := A) hh I ay hay.1 its
    have hlt : j < its.size := by omega
    refine W.item j _ _ _ hlt ⟨hit, hl⟩ fun u h₁ tk₁ hu st₁ hk₁ => ?_
    have hk₁' : ∀ b o, b ≠ I → s.heap.get? b = some o → h₁.get? b = some o := fun b o hb e => hk₁ b o (by simp; exact hb) e
    refine wpAny_assign_Name (wpAny_storeName_local hy (hn.at' fun o e => hk₁' _ o (Ne.symm hIC) e) (fun h₂ hn₂ hs₂ => ?_) hp)
    have hk₂ : ∀ b o, b ≠ env.locals → b ≠ I → s.heap.get? b = some o → h₂.get? b = some o := fun b o h1 h2 e => hs₂.extBut b o h1 (hk₁' b o h2 e)
    refine wpAny_mono (helt u _ _ _ (Array.mem_of_getElem? hu) hn₂ (by simp [hxy, hm]) (by simp) (fun b o h1 h2 h3 e => hk₂ b o h1 h3 (hkeep b o h1 h2 h3 e))) (fun z s₃ hz => ?_) fun _ _ e => e
    obtain ⟨hF, h₃, tk₃, rfl, hk₃⟩ := hz
    have hD₃ : h₃.get? D = some (lstO ys) := hk₃ D _ (hk₂ D _ hDC (Ne.symm hID) hD)
    refine append_at hD₃ (fun h₄ hs₄ hD₄ => ?_) (by rw [List.size_toArray, sizeLine_eq]; omega)
    have hD₄' : h₄.get? D = some (lstO (ys ++ [z])) := hD₄.trans (congrArg some (LCg.lst_snoc ys z))
    have hk₄ : ∀ b o, b ≠ env.locals → b ≠ D → b ≠ I → s.heap.get? b = some o → h₄.get? b = some o := fun b o h1 h2 h3 e => hs₄.extBut b o h2 (hk₃ b o (hk₂ b o h1 h3 e))
    refine ih (j + 1) R _ (ys ++ [z]) _ (by omega) (by omega) ((hn₂.keeps hk₃).sameBut hs₄ (Ne.symm hDC)) (by simp [hxy, hm]) hD₄' (by rw [List.length_append, List.length_singleton]; omega) ?_ ?_ (fun b o h1 h2 h3 e => hk₄ b o h1 h2 h3 (hkeep b o h1 h2 h3 e)) ?_
    · refine st₁.1.at fun o e => ?_
      exact hs₄.extBut I o hID (hk₃ I o (hs₂.extBut I o hIC e))
    · refine Heap.IsList.at st₁.2 fun o e => ?_
      exact hs₄.extBut ay o hay.2.2 (hk₃ ay o (hs₂.extBut ay o hay.2.1 e))
    · intro h' tk zs m' hP hD' hn' hk'
      refine hR h' tk (z :: zs) m' ?_ ?_ hn' (fun b o h1 h2 h3 e => hk' b o h1 h2 h3 (hk₄ b o h1 h2 h3 e))
      · have e : its.toList.drop j = u :: its.toList.drop (j + 1) := by
          rw [List.drop_eq_getElem_cons (by simpa using hlt)]
          congr 1
          simpa using (Array.getElem?_eq_some_iff.mp hu).2
        rw [e]
        exact .cons hF hP
      · rw [hD', List.append_assoc]; rfl

theorem outer2 (hh : A.handled = none) {C D I ax ay : Addr} {its1 its2 : Array Value} {F : Value → Value → Value → Prop} {s₂ : Shared}
    (hC : env.locals = C) (hx : env.kindOf x = some .local) (hy : env.kindOf y = some .local) (hxy : x ≠ y) (hp : (env.scope.kind == .class || (env.scope.kind == .module && env.locals != env.globals)) = false)
    (hs : ∀ z, foldedSetIterable i2 env z = pure z)
    (hDC : D ≠ C) (hIC : I ≠ C) (hID : I ≠ D) (hax : ax ≠ I ∧ ax ≠ C ∧ ax ≠ D) (hay : ay ≠ I ∧ ay ≠ C ∧ ay ≠ D) (hsz : its2.size ≤ 1000) (hl2 : s₂.heap.IsList ay its2)
    (hi2 : ∀ s' m' E', s'.heap.Ns C m' → (∀ b o, b ≠ C → b ≠ D → b ≠ I → s₂.heap.get? b = some o → s'.heap.get? b = some o) →
      wpAny (model prog w) A (eval i2 env) (fun z s'' => z = .ref ay ∧ Keeps s' s'') E' s')
    (helt : ∀ v u s' m' E', v ∈ its1 → u ∈ its2 → s'.heap.Ns C m' → m' x = some v → m' y = some u → (∀ b o, b ≠ C → b ≠ D → b ≠ I → s₂.heap.get? b = some o → s'.heap.get? b = some o) →
      wpAny (model prog w) A (eval elt env) (fun z s'' => F v u z ∧ Keeps s' s'') E' s') :
    ∀ (k i : Nat) (R : Result → Shared → Prop) (s : Shared) (ys : List Value) (m : Str → Option Value), k = its1.size - i → i ≤ its1.size → s.heap.Ns C m → s.heap.get? D = some (lstO ys) → ys.length + k * its2.size ≤ 100000 →
      s.heap.IsListIter I ax i → s.heap.IsList ax its1 → (∀ b o, b ≠ C → b ≠ D → b ≠ I → s₂.heap.get? b = some o → s.heap.get? b = some o) →
      (∀ h' tk zs m', Rows F its2.toList (its1.toList.drop i) zs → h'.get? D = some (lstO (ys ++ zs)) → h'.Ns C m' → (∀ b o, b ≠ C → b ≠ D → b ≠ I → s.heap.get? b = some o → h'.get? b = some o) → R (.ok .next) { s with heap := h', toks := tk }) →
      codeAny (model prog w) A (.compLoop (comp2 elt i1 i2 x y px py scope pos) 0 (.ref I) (.ref D) env) R s := by
  subst hC
  intro k
  induction k with
  | zero =>
    intro i R s ys m hk hj hn hD hlen hit hl hkeep hR
    refine loop2_outer hs ?_
    have W := Walks.list (prog := prog) (w := w) (A := A) hh I ax hax.1 its1
    have e : i = its1.size := by omega
    subst e
    refine W.done _ _ _ ⟨hit, hl⟩ fun h' tk hk' => ?_
    refine hR h' tk [] m ?_ ?_ ?_ ?_
    · rw [List.drop_of_length_le (by simp)]; rfl
    · rw [List.append_nil]; exact hk' D _ (by simp; exact Ne.symm hID) hD
    · exact hn.at' fun o e => hk' _ o (by simp; exact Ne.symm hIC) e
    · exact fun b o h1 h2 h3 e => hk' b o (by simp; exact h3) e
  | succ k ih =>
    intro i R s ys m hk hj hn hD hlen hit hl hkeep hR
    refine loop2_outer hs ?_
    have W := Walks.list (prog := prog) (w := w) (A := A) hh I ax hax.1 its1
    have hlt : i < its1.size := by omega
    rw [Nat.succ_mul] at hlen
    refine W.item i _ _ _ hlt ⟨hit, hl⟩ fun v h₁ tk₁ hv st₁ hk₁ => ?_
    have hk₁' : ∀ b o, b ≠ I → s.heap.get? b = some o → h₁.get? b = some o := fun b o hb e => hk₁ b o (by simp; exact hb) e
    refine wpAny_assign_Name (wpAny_storeName_local hx (hn.at' fun o e => hk₁' _ o (Ne.symm hIC) e) (fun h₂ hn₂ hs₂ => ?_) hp)
    have hk₂ : ∀ b o, b ≠ env.locals → b ≠ I → s.heap.get? b = some o → h₂.get? b = some o := fun b o h1 h2 e => hs₂.extBut b o h1 (hk₁' b o h2 e)
    refine wpAny_mono (hi2 _ _ _ hn₂ (fun b o h1 h2 h3 e => hk₂ b o h1 h3 (hkeep b o h1 h2 h3 e))) (fun z s₃ hz => ?_) fun _ _ e => e
    obtain ⟨rfl, h₃, tk₃, rfl, hk₃⟩ := hz
    have keep3 : ∀ b o, b ≠ env.locals → b ≠ D → b ≠ I → s₂.heap.get? b = some o → h₃.get? b = some o := fun b o h1 h2 h3 e => hk₃ b o (hk₂ b o h1 h3 (hkeep b o h1 h2 h3 e))
    have hl2' : h₃.IsList ay its2 := hl2.at fun o e => keep3 ay o hay.2.1 hay.2.2 hay.1 e
    refine wpAny_pyIter_list hl2' ?_
    -- the inner iterator lies at the heap's end
    have hnew : ∀ b o, h₃.get? b = some o → b ≠ h₃.objs.size := fun b o e => Nat.ne_of_lt (Heap.lt_size e)
    have hup : ∀ b o, h₃.get? b = some o → (h₃.push { cls := .type "list_iterator", data := .fields #[.ref ay, .int 0 0] }).get? b = some o := fun b o e => Heap.get?_push_of_some _ e
    have hn₃ := hn₂.keeps hk₃
    have hCn : env.locals ≠ h₃.objs.size := by obtain ⟨o, es, ep, e, _⟩ := hn₃; exact hnew _ _ e
    have hD₃ : h₃.get? D = some (lstO ys) := hk₃ D _ (hk₂ D _ hDC (Ne.symm hID) hD)
    have hDn : D ≠ h₃.objs.size := hnew _ _ hD₃
    have hI₃ : h₃.IsListIter I ax (i + 1) := st₁.1.at fun o e => hk₃ I o (hs₂.extBut I o hIC e)
    have hIn : I ≠ h₃.objs.size := by obtain ⟨o, e, _⟩ := hI₃; exact hnew _ _ e
    have hl1' : h₃.IsList ax its1 := st₁.2.at fun o e => hk₃ ax o (hs₂.extBut ax o hax.2.1 e)
    have hayn : ay ≠ h₃.objs.size := by obtain ⟨o, e, _⟩ := hl2'; exact hnew _ _ e
    have fin : codeAny (model prog w) A (.compLoop (comp2 elt i1 i2 x y px py scope pos) 1 (.ref h₃.objs.size) (.ref D) env)
        (fun r s₅ => match r with | .ok _ => codeAny (model prog w) A (.compLoop (comp2 elt i1 i2 x y px py scope pos) 0 (.ref I) (.ref D) env) R s₅ | .error e => cameBackBy (model prog w) A env (nR prog w A env R) e s₅)
        { s with heap := h₃.push { cls := .type "list_iterator", data := .fields #[.ref ay, .int 0 0] }, toks := tk₃ } := by
      refine inner2 hh (C := env.locals) (D := D) (I := h₃.objs.size) (ay := ay) (its := its2) (v := v) (F := F v) (s₂ := { s with heap := h₃.push { cls := .type "list_iterator", data := .fields #[.ref ay, .int 0 0] }, toks := tk₃ })
        rfl hy hxy hp hDC (Ne.symm hCn) (Ne.symm hDn) ⟨hayn, hay.2.1, hay.2.2⟩ hsz ?_ its2.size 0 _ _ ys _ rfl (Nat.zero_le _) (hn₃.push _) (by simp) (hup _ _ hD₃) (by omega) ⟨_, Heap.get?_push_size _ rfl, rfl, rfl⟩ (hl2'.at fun o e => hup _ _ e) (fun b o _ _ _ e => e) ?_
      · intro u s' m' E' hu hn' hmx hmy hk'
        refine helt v u s' m' E' (Array.mem_of_getElem? hv) hu hn' hmx hmy fun b o h1 h2 h3 e => ?_
        have e3 := keep3 b o h1 h2 h3 e
        exact hk' b o h1 h2 (hnew _ _ e3) (hup _ _ e3)
      · intro h' tk zs m' hP hD' hn' hk'
        rw [List.drop_zero] at hP
        have hzl : zs.length = its2.size := by rw [← hP.length, Array.length_toList]
        have keep4 : ∀ b o, b ≠ env.locals → b ≠ D → h₃.get? b = some o → h'.get? b = some o := fun b o h1 h2 e => hk' b o h1 h2 (hnew _ _ e) (hup _ _ e)
        refine ih (i + 1) R _ (ys ++ zs) m' (by omega) (by omega) hn' hD' (by rw [List.length_append]; omega) (hI₃.at fun o e => keep4 I o hIC hID e) (hl1'.at fun o e => keep4 ax o hax.2.1 hax.2.2 e)
          (fun b o h1 h2 h3 e => keep4 b o h1 h2 (keep3 b o h1 h2 h3 e)) ?_
        intro h'' tk'' zs' m'' hR' hD'' hn'' hk''
        refine hR h'' tk'' (zs ++ zs') m'' ?_ (by rw [hD'', List.append_assoc]) hn'' (fun b o h1 h2 h3 e => hk'' b o h1 h2 h3 (keep4 b o h1 h2 (hk₃ b o (hk₂ b o h1 h3 e))))
        have e : its1.toList.drop i = v :: its1.toList.drop (i + 1) := by
          rw [List.drop_eq_getElem_cons (by simpa using hlt)]
          congr 1
          simpa using (Array.getElem?_eq_some_iff.mp hv).2
        rw [e]
        exact ⟨zs, zs', rfl, hP, hR'⟩
    exact start2 fin (wpAny_pyIter_listiter (l := ay) (i := 0) ⟨_, Heap.get?_push_size _ rfl, rfl, rfl⟩ fin)

/-- what the two-for comprehension asks where its first source has been read -/
structure Two (prog : Program) (w : World) (A : Around) (scope : Scope) (cl : List (Str × Addr)) (env : Env) (elt i2 : Expr) (x y : Str) (ax ay : Addr) (its1 its2 : Array Value) (F : Value → Value → Value → Prop) (s₁ : Shared) : Prop where
  l1 : s₁.heap.IsList ax its1
  l2 : s₁.heap.IsList ay its2
  z1 : its1.size ≤ 100
  z2 : its2.size ≤ 100
  i2 : ∀ C s' m' E', s'.heap.Ns C m' → (∀ b o, s₁.heap.get? b = some o → s'.heap.get? b = some o) → wpAny (model prog w) A (eval i2 (compEnvC scope cl C env)) (fun z s'' => z = .ref ay ∧ Keeps s' s'') E' s'
  elt : ∀ C v u s' m' E', v ∈ its1 → u ∈ its2 → s'.heap.Ns C m' → m' x = some v → m' y = some u → (∀ b o, s₁.heap.get? b = some o → s'.heap.get? b = some o) →
      wpAny (model prog w) A (eval elt (compEnvC scope cl C env)) (fun z s'' => F v u z ∧ Keeps s' s'') E' s'

theorem block2 {cl : List (Str × Addr)} {E : Value → Shared → Prop} {s₁ : Shared} {ax ay : Addr} {its1 its2 : Array Value} {F : Value → Value → Value → Prop} {RR : Value → Addr → Result → Shared → Prop} (hh : A.handled = none) (hcell : ∀ y ∈ scope.names, y.2 ≠ .cell) (hkind : scope.kind = .function)
    (hx : scope.names.lookup x = some .local) (hy : scope.names.lookup y = some .local) (hxy : x ≠ y)
    (T : Two prog w A scope cl env elt i2 x y ax ay its1 its2 F s₁)
    (hRR : ∀ D C h tk m' zs, Rows F its2.toList its1.toList zs → @LE.le Nat _ s₁.heap.objs.size D → @LE.le Nat _ s₁.heap.objs.size C → @Ne Nat D C → h.Ns C m' → h.get? D = some (lstO zs) → (∀ b o, s₁.heap.get? b = some o → h.get? b = some o) → RR (.ref D) C (.ok .next) { s₁ with heap := h, toks := tk })
    (hs2 : ∀ C z, foldedSetIterable i2 (compEnvC scope cl C env) z = pure z) :
    wpAny (model prog w) A (pyIter (.ref ax)) (fun it s₂ => wpAny (model prog w) A (newList []) (fun acc s₃ => wpAny (model prog w) A (newFunctionEnv scope env.globals cl [] env.qual none .none (some env)) (fun cenv s₄ =>
      codeAny (model prog w) A (.compStart (comp2 elt i1 i2 x y px py scope pos) 0 it acc { cenv with scope := relabel scope env }) (RR acc cenv.locals) s₄) E s₃) E s₂) E s₁ := by
  refine wpAny_pyIter_list T.l1 ?_
  refine wpAny_newObj_type (wpAny_newFunctionEnv hcell (by intro y hy; simp at hy) (fun h₁ hns₁ hsb₁ => ?_) hkind)
  dsimp only at hns₁ hsb₁ ⊢
  generalize hH1 : s₁.heap.push { cls := .type "list_iterator", data := .fields #[.ref ax, .int 0 0] } = H1 at hns₁ hsb₁ ⊢
  generalize hH2 : H1.push { cls := .type "list", dict := none, data := .seq ([] : List Value).toArray } = H2 at hns₁ hsb₁ ⊢
  have z1 : H1.objs.size = s₁.heap.objs.size + 1 := by rw [← hH1, Heap.size_push]
  have z2 : H2.objs.size = s₁.heap.objs.size + 2 := by rw [← hH2, Heap.size_push, z1]
  have up1 : ∀ b o, s₁.heap.get? b = some o → H1.get? b = some o := fun b o e => hH1 ▸ Heap.get?_push_of_some _ e
  have up2 : ∀ b o, H1.get? b = some o → H2.get? b = some o := fun b o e => hH2 ▸ Heap.get?_push_of_some _ e
  have up3 : ∀ b o, b ≠ H2.objs.size → H2.get? b = some o → h₁.get? b = some o := fun b o hb e => hsb₁.extBut b o hb (Heap.get?_push_of_some _ e)
  have lt1 : ∀ b o, s₁.heap.get? b = some o → b ≠ s₁.heap.objs.size ∧ b ≠ H1.objs.size ∧ b ≠ H2.objs.size := fun b o e => by
    have hb : @LT.lt Nat _ b s₁.heap.objs.size := Heap.lt_size e
    refine ⟨Nat.ne_of_lt hb, Nat.ne_of_lt ?_, Nat.ne_of_lt ?_⟩
    · rw [z1]; exact Nat.lt_succ_of_lt hb
    · rw [z2]; exact Nat.lt_succ_of_lt (Nat.lt_succ_of_lt hb)
  have hIC : @Ne Nat s₁.heap.objs.size H2.objs.size := by rw [z2]; omega
  have hID : @Ne Nat s₁.heap.objs.size H1.objs.size := by rw [z1]; omega
  have hDC : @Ne Nat H1.objs.size H2.objs.size := by rw [z1, z2]; omega
  have up : ∀ b o, s₁.heap.get? b = some o → h₁.get? b = some o := fun b o e => up3 b o (lt1 b o e).2.2 (up2 b o (up1 b o e))
  have hI : h₁.IsListIter s₁.heap.objs.size ax 0 := ⟨_, up3 _ _ hIC (up2 _ _ (hH1 ▸ Heap.get?_push_size _ rfl)), rfl, rfl⟩
  have hD : h₁.get? H1.objs.size = some (lstO []) := up3 _ _ hDC (hH2 ▸ Heap.get?_push_size _ rfl)
  obtain ⟨oa, ea, ra⟩ := T.l1
  obtain ⟨ob, eb, rb⟩ := T.l2
  have la := lt1 _ _ ea
  have lb := lt1 _ _ eb
  have keepB : ∀ {s' : Shared}, (∀ b o, b ≠ H2.objs.size → b ≠ H1.objs.size → b ≠ s₁.heap.objs.size → h₁.get? b = some o → s'.heap.get? b = some o) → ∀ b o, s₁.heap.get? b = some o → s'.heap.get? b = some o :=
    fun hk b o e => hk b o (lt1 b o e).2.2 (lt1 b o e).2.1 (lt1 b o e).1 (up b o e)
  have fin : ∀ s₃ : Shared, s₃ = { s₁ with heap := h₁, toks := s₁.toks + ([] : List (Str × Value)).length } →
      codeAny (model prog w) A (.compLoop (comp2 elt i1 i2 x y px py scope pos) 0 (.ref s₁.heap.objs.size) (.ref H1.objs.size) (compEnvC scope cl H2.objs.size env))
        (RR (.ref H1.objs.size) H2.objs.size) s₃ := by
    rintro s₃ rfl
    refine outer2 (env := compEnvC scope cl H2.objs.size env) (x := x) (y := y) hh (C := H2.objs.size) (D := H1.objs.size) (I := s₁.heap.objs.size) (ax := ax) (ay := ay) (its1 := its1) (its2 := its2) (F := F) (s₂ := { s₁ with heap := h₁, toks := s₁.toks + ([] : List (Str × Value)).length })
      rfl (lookup_relabel_local hx) (lookup_relabel_local hy) hxy (by simp [compEnvC, relabel, hkind]) (hs2 _) hDC hIC hID ⟨la.1, la.2.2, la.2.1⟩ ⟨lb.1, lb.2.2, lb.2.1⟩ (by have := T.z2; omega) ⟨ob, up _ _ eb, rb⟩
      (fun s' m' E' hn hk => T.i2 _ s' m' E' hn (keepB hk)) (fun v u s' m' E' hv hu hn hmx hmy hk => T.elt _ v u s' m' E' hv hu hn hmx hmy (keepB hk))
      its1.size 0 _ _ [] _ rfl (Nat.zero_le _) hns₁ hD ?_ hI ⟨oa, up _ _ ea, ra⟩ (fun _ _ _ _ _ e => e) ?_
    · have h1 := T.z1
      have h2 := T.z2
      have := Nat.mul_le_mul h1 h2
      simp only [List.length_nil]
      omega
    · intro h' tk zs m' hR hD' hn' hk'
      rw [List.drop_zero] at hR
      exact hRR _ _ _ _ m' zs hR (by rw [z1]; exact Nat.le_succ _) (by rw [z2]; exact Nat.le_trans (Nat.le_succ _) (Nat.le_succ _)) hDC hn' hD' fun b o e => hk' b o (lt1 b o e).2.2 (lt1 b o e).2.1 (lt1 b o e).1 (up b o e)
  exact codeAny_compStart_list (fin _ rfl) (wpAny_pyIter_listiter hI (fin _ rfl))

theorem Assign_comp2 {cl : List (Str × Addr)} {Q : Flow → Shared → Prop} {E : Value → Shared → Prop} {s : Shared} {z : Str} {pz spos : Pos} {h₀ : Heap} {L : Addr} (hh : A.handled = none) (hLe : env.locals = L)
    (hsw : swapsWith (comp2 elt i1 i2 x y px py scope pos) (some (.Name z pz)) spos.line env = pure true)
    (hclos : closureFor scope env = pure cl) (hcell : ∀ y ∈ scope.names, y.2 ≠ .cell) (hkind : scope.kind = .function)
    (hnames : ∀ y ∈ scope.names, y.2 = .local → scope.names.lookup y.1 = some .local) (hx : scope.names.lookup x = some .local) (hy : scope.names.lookup y = some .local) (hxy : x ≠ y)
    (hz : env.kindOf z = some .local) (hp : (env.scope.kind == .class || (env.scope.kind == .module && env.locals != env.globals)) = false)
    (h : wpAny (model prog w) A (eval i1 env) (fun xv s₁ => ∃ ax ay its1 its2 F m news, xv = .ref ax ∧ Two prog w A scope cl env elt i2 x y ax ay its1 its2 F s₁ ∧ Fr h₀ L s₁.heap m ∧ News h₀ L s₁.heap news ∧
      (∀ D h' tk zs, Rows F its2.toList its1.toList zs → (∀ p ∈ news, p.1 < D) → Fr h₀ L h' (fun q => if q = z then some (.ref D) else m q) → News h₀ L h' ((D, lstO zs) :: news) → Q .next { s₁ with heap := h', toks := tk })) E s)
    (hs1 : ∀ z, foldedSetIterable i1 env z = pure z := by intro _; rfl) (hs2 : ∀ C z, foldedSetIterable i2 (compEnvC scope cl C env) z = pure z := by intro _ _; rfl) :
    wpAny (model prog w) A (exec (.Assign [.Name z pz] (comp2 elt i1 i2 x y px py scope pos) spos) env) Q E s := by
  subst hLe
  rw [exec_Assign_Name_used _ _ _ _ hsw]
  refine wpAny_bind (wpAny_standAt (wpAny_bind ?_))
  show wpAny _ A (do let _ ← comprehension (comp2 elt i1 i2 x y px py scope pos) scope env _ (newList []) false (eval i1 env) (some (assign (.Name z pz) env))) _ _ s
  refine wpAny_bind (wpAny_mono (wpAny_comprehension_free (use := some (assign (.Name z pz) env)) (Q := fun _ s' => Q .next s') rfl hs1 hclos hkind hnames
    (wpAny_mono h (fun xv s₁ h₁ => ?_) fun _ _ e => e)) (fun _ s' hq => wpAny_pure (wpAny_pure hq)) fun _ _ e => e)
  obtain ⟨ax, ay, its1, its2, F, m, news, rfl, T, Fm, N, hQ⟩ := h₁
  refine block2 (RR := fun acc C => compPost (model prog w) A _ (some (assign (.Name z pz) env)) _ acc C) hh hcell hkind hx hy hxy T ?_ hs2
  intro D C h tk m' zs hR hD1 hC1 hDC hn hD hk
  show wpAny _ A (assign (.Name z pz) env (.ref D)) _ _ _
  have hLlt : @LT.lt Nat _ env.locals s₁.heap.objs.size := Fm.ns.lt
  have hL₀ : h₀.get? env.locals = none := Heap.get?_none_of_le Fm.above
  have fresh₀ : ∀ a, @LE.le Nat _ s₁.heap.objs.size a → h₀.get? a = none := fun a ha => by
    cases e : h₀.get? a with
    | none => rfl
    | some o' =>
      have h2 : @LT.lt Nat _ a s₁.heap.objs.size := Heap.lt_size (Fm.keep a o' e)
      omega
  refine wpAny_assign_Name (wpAny_storeName_local hz (Fm.ns.keeps hk) (fun h₂ hn₂ hs₂ => ?_) hp)
  have hCL : C ≠ env.locals := fun e => by subst e; omega
  have hDL : D ≠ env.locals := fun e => by subst e; omega
  refine ⟨m', hn.sameBut hs₂ hCL, fun h'' hs'' => ?_⟩
  have k2 : ∀ b o, b ≠ env.locals → s₁.heap.get? b = some o → h₂.get? b = some o := fun b o hb e => hs₂.extBut b o hb (hk b o e)
  have ltC : ∀ b o, s₁.heap.get? b = some o → b ≠ C := fun b o e q => by
    have h2 : @LT.lt Nat _ b s₁.heap.objs.size := Heap.lt_size e
    subst q; omega
  refine hQ D h'' _ zs hR (fun p hp => ?_) ?_ (fun p hp => ?_)
  · have h2 : @LT.lt Nat _ p.1 s₁.heap.objs.size := Heap.lt_size (N p hp).1
    exact Nat.lt_of_lt_of_le h2 hD1
  · have F₂ : Fr h₀ env.locals h₂ (fun q => if q = z then some (.ref D) else m q) := ⟨hn₂, fun b o e => k2 b o (fun q => by rw [q, hL₀] at e; cases e) (Fm.keep b o e), Fm.above⟩
    exact F₂.change hs'' hCL (fresh₀ C hC1)
  · rcases List.mem_cons.mp hp with rfl | hp
    · exact ⟨hs''.extBut _ _ hDC (hs₂.extBut _ _ hDL hD), hDL, fresh₀ D hD1⟩
    · exact ⟨hs''.extBut _ _ (ltC _ _ (N p hp).1) (k2 _ _ (N p hp).2.1 (N p hp).1), (N p hp).2⟩
end
end Mine
end
section
open PySem PySem.W PyProof.Rows
namespace Mine
open PySem.Calls

/-- what a turn of a for owes: the invariant, the iterator's object still in the ledger -/
def RgEnd (h₀ : Heap) (L I : Addr) (o : Obj) (J : (Str → Option Value) → List (Addr × Obj) → Prop) (s₁ s₂ : Shared) : Prop :=
  ∃ h' tk m' news' nx, s₂ = { s₁ with heap := h', toks := tk } ∧ Fr h₀ L h' m' ∧ News h₀ L h' news' ∧ (I, o) ∈ news' ∧ (∀ p ∈ nx, p ∈ news') ∧ (∀ p ∈ nx, p.1 ≠ I) ∧ J m' nx
def RgPost (h₀ : Heap) (L I : Addr) (o : Obj) (J : (Str → Option Value) → List (Addr × Obj) → Prop) (s₁ : Shared) (Q : Flow → Shared → Prop) (f : Flow) (s₂ : Shared) : Prop :=
  match f with
  | .ret v => Q (.ret v) s₂
  | .brk => Q .next s₂
  | _ => RgEnd h₀ L I o J s₁ s₂

section
variable {prog : Program} {w : World} {A : Around} {E : Value → Shared → Prop} {s : Shared} {env : Env} {h₀ : Heap} {x : Str} {body : List Stmt} {Q : Flow → Shared → Prop}
theorem iter_rangeJ {r : Addr} {a₀ b₀ : Int} {t₀ u₀ v₀ : Tok} {n : Nat} {m₀ : Str → Option Value} {news : List (Addr × Obj)} (J : Nat → (Str → Option Value) → List (Addr × Obj) → Prop)
    (hh : A.handled = none) (hr : IsRange s.heap r a₀ b₀ 1 t₀ u₀ v₀) (hsmall : Builtin.Range.small a₀ b₀ 1 = true) (hn : Builtin.Range.rangeSize a₀ b₀ 1 = (n : Int)) (F : Fr h₀ env.locals s.heap m₀) (N : News h₀ env.locals s.heap news) (hj : J 0 m₀ news)
    (turn : ∀ i t m₁ news₁ I o h tk, i < n → (∀ p ∈ news₁, p.1 ≠ I) → J i m₁ news₁ → Fr h₀ env.locals h (fun y => if y = x then some (.int (a₀ + (i : Nat)) t) else m₁ y) → News h₀ env.locals h ((I, o) :: news₁) →
      wpAny (model prog w) A (execs body env) (RgPost h₀ env.locals I o (J (i + 1)) { s with heap := h, toks := tk } Q) E { s with heap := h, toks := tk })
    (done : ∀ m₁ news₁ h tk, J n m₁ news₁ → Fr h₀ env.locals h m₁ → News h₀ env.locals h news₁ → Q .next { s with heap := h, toks := tk }) :
    wpAny (model prog w) A (pyIter (.ref r)) (fun it s₂ => LoopAtV prog w A h₀ env x body Q E it s₂) E s := by
  refine wpAny_pyIter_range hr hsmall ?_
  have W : Walks prog w A s.heap.objs.size [s.heap.objs.size] [s.heap.objs.size] n (fun i v => i < n ∧ ∃ t, v = .int (a₀ + i * 1) t)
      (fun i h => IsRangeIter h s.heap.objs.size (a₀ + (i : Nat) * 1) ((n : Int) - (i : Nat)) 1) := (Walks.range hh _ a₀ 1 n).bound
  have hI0 : h₀.get? s.heap.objs.size = none := next_is_new F
  refine ⟨_, _, _, n, _, _, m₀, news, J, rfl, W, ?_, ?_, ?_, (by show IsRangeIter _ _ _ _ _; rw [hn]; simpa using Heap.get?_push_size _ rfl), F.push _, (fun p hp => ⟨Heap.get?_push_of_some _ (N p hp).1, (N p hp).2⟩), hj, ?_, ?_⟩
  · intro hm
    exact absurd F.ns.lt ((List.mem_singleton.mp hm) ▸ Nat.lt_irrefl _)
  · intro b hb
    rw [List.mem_singleton.mp hb]
    exact hI0
  · intro p hp hI
    exact absurd (Heap.lt_size (N p hp).1) ((List.mem_singleton.mp hI) ▸ Nat.lt_irrefl _)
  · rintro i v m₁ news₁ s₁ own ⟨hh', tk', rfl⟩ hin ⟨_, t, rfl⟩ hJ hoff hown _ hall hst F₁ N₁
    obtain ⟨oI, ho⟩ : ∃ o, hh'.get? s.heap.objs.size = some o := ⟨_, hst⟩
    have hio := hall s.heap.objs.size (List.mem_singleton.mpr rfl) hI0 _ ho
    have hone := own_one hown (fun b hb => .inl (List.mem_singleton.mp hb)) ho N₁
    rw [Int.mul_one] at F₁
    refine wpAny_mono (turn i t m₁ news₁ _ _ hh' tk' hin (fun p hp e => hoff p hp (List.mem_singleton.mpr e)) hJ F₁ (news_one hio N₁)) (fun f s₂ p => ?_) fun _ _ e => e
    have fin : RgEnd h₀ env.locals s.heap.objs.size oI (J (i + 1)) { s with heap := hh', toks := tk' } s₂ → LoopStepU h₀ env.locals [s.heap.objs.size] own (J (i + 1)) { s with heap := hh', toks := tk' } .next s₂ := by
      rintro ⟨h', tk, m', news', nx, e, F', N', hi, hn', ha, hm⟩
      refine ⟨rfl, h', tk, m', nx, e, F', fun p hp => ?_, fun p hp hq => ha p hp (List.mem_singleton.mp hq), hm⟩
      rcases List.mem_append.mp hp with hp | hp
      · rw [hone p hp]; exact N' _ hi
      · exact N' p (hn' p hp)
    cases f with
    | ret v => exact .ret p
    | brk => exact .brk p
    | next => exact .next (fin p)
    | cont => exact .cont (fin p)
  · rintro h' tk m' news' F' N' _ hJ
    exact done m' news' h' tk hJ F' N'
end
end Mine
end
section
open PySem PySem.W PyProof.Rows
namespace Mine
open PySem.Calls

def byteOf (k : Int) : UInt8 := k.toNat.toUInt8

section
variable {prog : Program} {w : World} {A : Around} {E : Value → Shared → Prop} {s : Shared} {env : Env} {a b c : Str} {p1 p2 p3 p4 p5 p6 : Pos}
theorem cat_letter (hh : A.handled = none) {x : List UInt8} {t u : Tok} {k : Int} (hk : 0 ≤ k ∧ k < 256) (hx : x.length ≤ 1000)
    (ha : ∀ (Q : Value → Shared → Prop) E, Q (.bytes x.toArray t) s → wpAny (model prog w) A (eval (.Name a p1) env) Q E s)
    (hby : ∀ (Q : Value → Shared → Prop) E, Q (.type "bytes") s → wpAny (model prog w) A (eval (.Name c p2) env) Q E s)
    (hb : ∀ (Q : Value → Shared → Prop) E, Q (.int k u) s → wpAny (model prog w) A (eval (.Name b p3) env) Q E s) :
    wpAny (model prog w) A (eval (.BinOp (.Name a p1) .Add (.Call (.Name c p2) [.List [.Name b p3] p4] [] p5) p6) env) (fun z s'' => (∃ t', z = .bytes (x ++ [byteOf k]).toArray t') ∧ Keeps s s'') E s := by
  refine wpAny_BinOp (ha _ _ ?_)
  refine Call_Name1 (hby _ _ ?_)
  refine PySem.callWith_type1 ?_
  refine wpAny_List ?_
  refine spliced_cons (hb _ _ ?_)
  refine spliced_nil ?_
  refine ⟨by rw [sizeLine_eq]; exact Nat.le_of_ble_eq_true rfl, ?_⟩
  refine call_bytes_ints (vs := [.int k u]) (ns := [k]) ⟨_, Heap.get?_push_size _ rfl, rfl, _, rfl⟩ ?_ ?_ (by rw [sizeLine_eq]; exact Nat.le_of_ble_eq_true rfl) hh fun h' t' tk hkp => ?_
  · exact .cons k u .nil
  · intro n hn; rw [List.mem_singleton.mp hn]; exact hk
  refine KBy.add_bytes (by simp [byteArr]; omega) fun t2 tk2 => ?_
  refine ⟨⟨t2, ?_⟩, h', tk2, rfl, fun b o e => hkp _ _ (Heap.get?_push_of_some _ e)⟩
  simp [byteArr, byteOf]
end
end Mine
end
section
open PySem PySem.W PyProof.Rows
namespace Mine
open PySem.Calls

abbrev comp1 (elt iter c : Expr) (x : Str) (px : Pos) (scope : Scope) (pos : Pos) : Expr := .ListComp elt [⟨.Name x px, iter, [c], 0⟩] scope pos

section
variable {prog : Program} {w : World} {A : Around} {R : Result → Shared → Prop} {s : Shared} {elt iter c : Expr} {x : Str} {px : Pos} {scope : Scope} {pos : Pos} {it acc : Value} {env : Env}
theorem loop1_turn (h : wpAny (model prog w) A (pyNext it) (fun r s₁ => match r with
      | none => R (.ok .next) s₁
      | some v => wpAny (model prog w) A (assign (.Name x px) env v) (fun _ s₂ => wpAny (model prog w) A (isTrue c env (eval c env)) (fun ok s₃ =>
          if ok = true then wpAny (model prog w) A (eval elt env) (fun z s₄ =>
            wpAny (model prog w) A (call (.builtin "list.append") [acc, z]) (fun _ s₅ => codeAny (model prog w) A (.compLoop (comp1 elt iter c x px scope pos) 0 it acc env) R s₅) (nR prog w A env R) s₄) (nR prog w A env R) s₃
          else codeAny (model prog w) A (.compLoop (comp1 elt iter c x px scope pos) 0 it acc env) R s₃)
          (nR prog w A env R) s₂) (nR prog w A env R) s₁) (nR prog w A env R) s) :
    codeAny (model prog w) A (.compLoop (comp1 elt iter c x px scope pos) 0 it acc env) R s := by
  refine codeAny_of_tree ?_
  show wpAny _ A ((compTurn (comp1 elt iter c x px scope pos) 0 it acc env).onRaise (fun x => do noteFrame x env; theTreesLotGoes x)) _ _ s
  refine wpAny_noted ?_
  rw [compTurn_list]
  refine wpAny_bind (wpAny_standAt (wpAny_bind (wpAny_mono h (fun r s₁ h₁ => ?_) fun _ _ h' => h')))
  cases r with
  | none => exact wpAny_pure h₁
  | some v =>
    refine wpAny_bind (wpAny_of_eq (a := ()) rfl ?_)
    refine wpAny_bind (wpAny_mono h₁ (fun _ s₂ h₂ => wpAny_bind (wpAny_mono (wpAny_tests_one h₂) (fun ok s₃ h₃ => ?_) fun _ _ h' => h')) fun _ _ h' => h')
    cases ok with
    | false => exact wpAny_pure ⟨rfl, h₃⟩
    | true =>
      exact wpAny_bind (wpAny_bind (wpAny_mono h₃ (fun x s₄ h₄ => wpAny_bind (wpAny_mono h₄ (fun _ s₅ h₅ => wpAny_pure (wpAny_pure ⟨rfl, h₅⟩)) fun _ _ h' => h')) fun _ _ h' => h'))

/-- the loop of a comprehension with one test whose target is a cell -/
theorem loop1c (hh : A.handled = none) {D Kc I ax : Addr} {its : Array Value} {p : Value → Bool} {F : Value → Value → Prop} {s₂ : Shared}
    (hkf : env.scope.kind = .function) (hx : env.kindOf x = some .cell) (hc : env.cells.lookup x = some Kc)
    (hDK : D ≠ Kc) (hIK : I ≠ Kc) (hID : I ≠ D) (hax : ax ≠ I ∧ ax ≠ Kc ∧ ax ≠ D)
    (htest : ∀ v s' E', v ∈ its → s'.heap.IsCell Kc (some v) → (∀ b o, b ≠ Kc → b ≠ D → b ≠ I → s₂.heap.get? b = some o → s'.heap.get? b = some o) →
      wpAny (model prog w) A (isTrue c env (eval c env)) (fun ok s'' => ok = p v ∧ Keeps s' s'') E' s')
    (helt : ∀ v s' E', v ∈ its → p v = true → s'.heap.IsCell Kc (some v) → (∀ b o, b ≠ Kc → b ≠ D → b ≠ I → s₂.heap.get? b = some o → s'.heap.get? b = some o) →
      wpAny (model prog w) A (eval elt env) (fun z s'' => F v z ∧ Keeps s' s'') E' s') :
    ∀ (k i : Nat) (R : Result → Shared → Prop) (s : Shared) (ys : List Value) (cv : Option Value), k = its.size - i → i ≤ its.size → s.heap.IsCell Kc cv → s.heap.get? D = some (lstO ys) → ys.length + k ≤ 100000 →
      s.heap.IsListIter I ax i → s.heap.IsList ax its → (∀ b o, b ≠ Kc → b ≠ D → b ≠ I → s₂.heap.get? b = some o → s.heap.get? b = some o) →
      (∀ h' tk zs, Paired F ((its.toList.drop i).filter p) zs → h'.get? D = some (lstO (ys ++ zs)) → (∀ b o, b ≠ Kc → b ≠ D → b ≠ I → s.heap.get? b = some o → h'.get? b = some o) → R (.ok .next) { s with heap := h', toks := tk }) →
      codeAny (model prog w) A (.compLoop (comp1 elt iter c x px scope pos) 0 (.ref I) (.ref D) env) R s := by
  intro k
  induction k with
  | zero =>
    intro i R s ys cv hk hj hcell hD hlen hit hl hkeep hR
    refine loop1_turn ?_
    have W := Walks.list (prog := prog) (w := w) (A := A) hh I ax hax.1 its
    have e : i = its.size := by omega
    subst e
    refine W.done _ _ _ ⟨hit, hl⟩ fun h' tk hk' => ?_
    refine hR h' tk [] ?_ ?_ ?_
    · rw [List.drop_of_length_le (by simp)]; exact .nil
    · rw [List.append_nil]; exact hk' D _ (by simp; exact Ne.symm hID) hD
    · exact fun b o h1 h2 h3 e => hk' b o (by simp; exact h3) e
  | succ k ih =>
    intro i R s ys cv hk hj hcell hD hlen hit hl hkeep hR
    refine loop1_turn ?_
    have W := Walks.list (prog := prog) (w := w) (A := A) hh I ax hax.1 its
    have hlt : i < its.size := by omega
    refine W.item i _ _ _ hlt ⟨hit, hl⟩ fun v h₁ tk₁ hv st₁ hk₁ => ?_
    have hk₁' : ∀ b o, b ≠ I → s.heap.get? b = some o → h₁.get? b = some o := fun b o hb e => hk₁ b o (by simp; exact hb) e
    have hvm := Array.mem_of_getElem? hv
    have hdrop : its.toList.drop i = v :: its.toList.drop (i + 1) := by
      rw [List.drop_eq_getElem_cons (by simpa using hlt)]
      congr 1
      simpa using (Array.getElem?_eq_some_iff.mp hv).2
    have hcell₁ : h₁.IsCell Kc cv := by obtain ⟨o, e, r⟩ := hcell; exact ⟨o, hk₁' _ _ (Ne.symm hIK) e, r⟩
    refine wpAny_assign_Name (wpAny_storeName_cell hkf hx hc hcell₁ fun h₂ hcell₂ hs₂ => ?_)
    have hk₂ : ∀ b o, b ≠ Kc → b ≠ I → s.heap.get? b = some o → h₂.get? b = some o := fun b o h1 h2 e => hs₂.extBut b o h1 (hk₁' b o h2 e)
    refine wpAny_mono (htest v _ _ hvm hcell₂ (fun b o h1 h2 h3 e => hk₂ b o h1 h3 (hkeep b o h1 h2 h3 e))) (fun ok s₃ hok => ?_) fun _ _ e => e
    obtain ⟨rfl, h₃, tk₃, rfl, hk₃⟩ := hok
    have keep3 : ∀ b o, b ≠ Kc → b ≠ I → s.heap.get? b = some o → h₃.get? b = some o := fun b o h1 h2 e => hk₃ b o (hk₂ b o h1 h2 e)
    have hI₃ : h₃.IsListIter I ax (i + 1) := st₁.1.at fun o e => hk₃ I o (hs₂.extBut I o hIK e)
    have hl₃ : h₃.IsList ax its := st₁.2.at fun o e => hk₃ ax o (hs₂.extBut ax o hax.2.1 e)
    have hc₃ : h₃.IsCell Kc (some v) := by obtain ⟨o, e, r⟩ := hcell₂; exact ⟨o, hk₃ _ _ e, r⟩
    have hD₃ : h₃.get? D = some (lstO ys) := keep3 D _ hDK (Ne.symm hID) hD
    cases hp : p v with
    | false =>
      rw [if_neg Bool.false_ne_true]
      refine ih (i + 1) R _ ys (some v) (by omega) (by omega) hc₃ hD₃ (by omega) hI₃ hl₃ (fun b o h1 h2 h3 e => keep3 b o h1 h3 (hkeep b o h1 h2 h3 e)) ?_
      intro h' tk zs hP hD' hk'
      refine hR h' tk zs ?_ hD' (fun b o h1 h2 h3 e => hk' b o h1 h2 h3 (keep3 b o h1 h3 e))
      rw [hdrop, List.filter_cons_of_neg (by simp [hp])]
      exact hP
    | true =>
      rw [if_pos rfl]
      refine wpAny_mono (helt v _ _ hvm hp hc₃ (fun b o h1 h2 h3 e => keep3 b o h1 h3 (hkeep b o h1 h2 h3 e))) (fun z s₄ hz => ?_) fun _ _ e => e
      obtain ⟨hF, h₄, tk₄, rfl, hk₄⟩ := hz
      refine append_at (hk₄ _ _ hD₃) (fun h₅ hs₅ hD₅ => ?_) (by rw [List.size_toArray, sizeLine_eq]; omega)
      have hD₅' : h₅.get? D = some (lstO (ys ++ [z])) := hD₅.trans (congrArg some (LCg.lst_snoc ys z))
      have keep5 : ∀ b o, b ≠ Kc → b ≠ D → b ≠ I → s.heap.get? b = some o → h₅.get? b = some o := fun b o h1 h2 h3 e => hs₅.extBut b o h2 (hk₄ b o (keep3 b o h1 h3 e))
      refine ih (i + 1) R _ (ys ++ [z]) (some v) (by omega) (by omega) ?_ hD₅' (by rw [List.length_append, List.length_singleton]; omega) ?_ ?_ (fun b o h1 h2 h3 e => keep5 b o h1 h2 h3 (hkeep b o h1 h2 h3 e)) ?_
      · obtain ⟨o, e, r⟩ := hc₃; exact ⟨o, hs₅.extBut _ _ (Ne.symm hDK) (hk₄ _ _ e), r⟩
      · exact hI₃.at fun o e => hs₅.extBut I o hID (hk₄ I o e)
      · exact hl₃.at fun o e => hs₅.extBut ax o hax.2.2 (hk₄ ax o e)
      · intro h' tk zs hP hD' hk'
        refine hR h' tk (z :: zs) ?_ (by rw [hD', List.append_assoc]; rfl) (fun b o h1 h2 h3 e => hk' b o h1 h2 h3 (keep5 b o h1 h2 h3 e))
        rw [hdrop, List.filter_cons_of_pos (by simp [hp])]
        exact .cons hF hP
end

theorem newEnv_cell1 {M : Model} {A : Around} {E : Value → Shared → Prop} {s : Shared} {x : Str} {scope : Scope} {env : Env} {globals : Addr} {cl : List (Str × Addr)} {qual : Str} {Q : Env → Shared → Prop}
    (hcf : ∀ n, cellsFrom n scope.names cl = (x, n) :: cl) (hpc : ∀ h, pushCells h scope.names = h.push { cls := .type "cell", data := .cell none })
    (h : Q { scope := scope, locals := s.heap.objs.size, globals := globals, cells := (x, s.heap.objs.size + 1) :: cl, qual := qual, func := none, code := env.code, frame := env.frame, builtins := env.builtins }
      { s with heap := (s.heap.push { cls := .type "dict", data := .dict #[] }).push { cls := .type "cell", data := .cell none } }) :
    wpAny M A (newFunctionEnv scope globals cl [] qual none .none (some env)) Q E s := by
  simp only [newFunctionEnv, Option.isSome_some, if_true]
  refine wpAny_bind (wpAny_alloc ?_)
  refine wpAny_bind (wpAny_layCells _ (fun name kind cells => by cases hkc : kind == NameKind.cell <;> simp [hkc]) _ _ _ _ ?_)
  dsimp only
  rw [hcf, hpc, Heap.size_push]
  refine wpAny_bind ?_
  rw [List.forIn_nil]
  exact wpAny_pure (wpAny_pure h)

structure One (prog : Program) (w : World) (A : Around) (scope : Scope) (cl : List (Str × Addr)) (env : Env) (elt c : Expr) (x : Str) (ax : Addr) (its : Array Value) (p : Value → Bool) (F : Value → Value → Prop) (s₁ : Shared) : Prop where
  l1 : s₁.heap.IsList ax its
  z1 : its.size ≤ 100
  test : ∀ C K v s' E', v ∈ its → s'.heap.IsCell K (some v) → (∀ b o, s₁.heap.get? b = some o → s'.heap.get? b = some o) →
    wpAny (model prog w) A (isTrue c (compEnvC scope ((x, K) :: cl) C env) (eval c (compEnvC scope ((x, K) :: cl) C env))) (fun ok s'' => ok = p v ∧ Keeps s' s'') E' s'
  elt : ∀ C K v s' E', v ∈ its → p v = true → s'.heap.IsCell K (some v) → (∀ b o, s₁.heap.get? b = some o → s'.heap.get? b = some o) →
    wpAny (model prog w) A (eval elt (compEnvC scope ((x, K) :: cl) C env)) (fun z s'' => F v z ∧ Keeps s' s'') E' s'

theorem ListComp_1c {prog : Program} {w : World} {A : Around} {elt iter c : Expr} {x : Str} {px : Pos} {scope : Scope} {pos : Pos} {env : Env} {cl : List (Str × Addr)} {Q E : Value → Shared → Prop} {s : Shared} (hh : A.handled = none) (hclos : closureFor scope env = pure cl) (hkind : scope.kind = .function)
    (hcf : ∀ n, cellsFrom n scope.names cl = (x, n) :: cl) (hpc : ∀ h, pushCells h scope.names = h.push { cls := .type "cell", data := .cell none })
    (hnames : ∀ y ∈ scope.names, y.2 = .local → scope.names.lookup y.1 = some .local) (hx : ∀ K C, (compEnvC scope ((x, K) :: cl) C env).kindOf x = some .cell)
    (h : wpAny (model prog w) A (eval iter env) (fun xv s₁ => ∃ ax its p F, xv = .ref ax ∧ One prog w A scope cl env elt c x ax its p F s₁ ∧
      (∀ D h' tk zs, Paired F (its.toList.filter p) zs → @LE.le Nat _ s₁.heap.objs.size D → h'.get? D = some (lstO zs) → (∀ b o, s₁.heap.get? b = some o → h'.get? b = some o) → Q (.ref D) { s₁ with heap := h', toks := tk })) E s)
    (hs1 : ∀ z, foldedSetIterable iter env z = pure z := by intro _; rfl) :
    wpAny (model prog w) A (eval (comp1 elt iter c x px scope pos) env) Q E s := by
  rw [eval_ListComp]
  refine wpAny_comprehension_free (use := none) rfl hs1 hclos hkind hnames (wpAny_mono h (fun xv s₁ h₁ => ?_) fun _ _ e => e)
  obtain ⟨ax, its, p, F, rfl, T, hQ⟩ := h₁
  refine wpAny_pyIter_list T.l1 ?_
  refine wpAny_newObj_type (newEnv_cell1 hcf hpc ?_)
  dsimp only
  generalize hH1 : s₁.heap.push { cls := .type "list_iterator", data := .fields #[.ref ax, .int 0 0] } = H1
  generalize hH2 : H1.push { cls := .type "list", dict := none, data := .seq ([] : List Value).toArray } = H2
  generalize hH3 : H2.push { cls := .type "dict", data := .dict #[] } = H3
  generalize hH4 : H3.push { cls := .type "cell", data := .cell none } = H4
  have z1 : H1.objs.size = s₁.heap.objs.size + 1 := by rw [← hH1, Heap.size_push]
  have z2 : H2.objs.size = s₁.heap.objs.size + 2 := by rw [← hH2, Heap.size_push, z1]
  have z3 : H3.objs.size = s₁.heap.objs.size + 3 := by rw [← hH3, Heap.size_push, z2]
  have up1 : ∀ b o, s₁.heap.get? b = some o → H1.get? b = some o := fun b o e => hH1 ▸ Heap.get?_push_of_some _ e
  have up2 : ∀ b o, H1.get? b = some o → H2.get? b = some o := fun b o e => hH2 ▸ Heap.get?_push_of_some _ e
  have up3 : ∀ b o, H2.get? b = some o → H3.get? b = some o := fun b o e => hH3 ▸ Heap.get?_push_of_some _ e
  have up4 : ∀ b o, H3.get? b = some o → H4.get? b = some o := fun b o e => hH4 ▸ Heap.get?_push_of_some _ e
  have up : ∀ b o, s₁.heap.get? b = some o → H4.get? b = some o := fun b o e => up4 _ _ (up3 _ _ (up2 _ _ (up1 _ _ e)))
  have hI : H4.IsListIter s₁.heap.objs.size ax 0 := ⟨_, up4 _ _ (up3 _ _ (up2 _ _ (hH1 ▸ Heap.get?_push_size _ rfl))), rfl, rfl⟩
  have hD : H4.get? H1.objs.size = some (lstO []) := up4 _ _ (up3 _ _ (hH2 ▸ Heap.get?_push_size _ rfl))
  have hn : H4.Ns H2.objs.size (fun _ => none) := by
    have := Heap.Ns.new H2 (.type "dict")
    rw [hH3] at this
    exact this.keeps up4
  have hK : H4.IsCell (H2.objs.size + 1) none := by
    have e : H2.objs.size + 1 = H3.objs.size := by rw [z3, z2]
    rw [e]
    exact ⟨_, hH4 ▸ Heap.get?_push_size _ rfl, rfl⟩
  have lt1 : ∀ b o, s₁.heap.get? b = some o → @LT.lt Nat _ b s₁.heap.objs.size := fun b o e => Heap.lt_size e
  have off : ∀ b o, s₁.heap.get? b = some o → b ≠ s₁.heap.objs.size ∧ b ≠ H2.objs.size + 1 ∧ b ≠ H1.objs.size := fun b o e => by
    have := lt1 b o e
    refine ⟨Nat.ne_of_lt this, Nat.ne_of_lt ?_, Nat.ne_of_lt ?_⟩
    · rw [z2]; omega
    · rw [z1]; omega
  have hDK : H1.objs.size ≠ H2.objs.size + 1 := by rw [z1, z2]; omega
  have hIK : s₁.heap.objs.size ≠ H2.objs.size + 1 := by rw [z2]; omega
  have hID : s₁.heap.objs.size ≠ H1.objs.size := by rw [z1]; omega
  have hCK : H2.objs.size ≠ H2.objs.size + 1 := by omega
  have hCD : H2.objs.size ≠ H1.objs.size := by rw [z1, z2]; omega
  have hCI : H2.objs.size ≠ s₁.heap.objs.size := by rw [z2]; omega
  have keepB : ∀ {s' : Shared}, (∀ b o, b ≠ H2.objs.size + 1 → b ≠ H1.objs.size → b ≠ s₁.heap.objs.size → H4.get? b = some o → s'.heap.get? b = some o) → ∀ b o, s₁.heap.get? b = some o → s'.heap.get? b = some o :=
    fun hk b o e => hk b o (off b o e).2.1 (off b o e).2.2 (off b o e).1 (up b o e)
  obtain ⟨oa, ea, ra⟩ := T.l1
  have fin : ∀ s₃ : Shared, s₃ = { s₁ with heap := H4 } →
      codeAny (model prog w) A (.compLoop (comp1 elt iter c x px scope pos) 0 (.ref s₁.heap.objs.size) (.ref H1.objs.size) (compEnvC scope ((x, H2.objs.size + 1) :: cl) H2.objs.size env))
        (compPost (model prog w) A E none Q (.ref H1.objs.size) H2.objs.size) s₃ := by
    rintro s₃ rfl
    refine loop1c (env := compEnvC scope ((x, H2.objs.size + 1) :: cl) H2.objs.size env) (x := x) hh (D := H1.objs.size) (Kc := H2.objs.size + 1) (I := s₁.heap.objs.size) (ax := ax) (its := its) (p := p) (F := F) (s₂ := { s₁ with heap := H4 })
      (by simp [compEnvC, relabel, hkind]) (hx _ _) (by simp [compEnvC]) hDK hIK hID (off _ _ ea)
      (fun v s' E' hv hc hk => T.test _ _ v s' E' hv hc (keepB hk)) (fun v s' E' hv hp hc hk => T.elt _ _ v s' E' hv hp hc (keepB hk))
      its.size 0 _ _ [] _ rfl (Nat.zero_le _) hK hD ?_ hI ⟨oa, up _ _ ea, ra⟩ (fun _ _ _ _ _ e => e) ?_
    · have h1 := T.z1
      simp only [List.length_nil]
      omega
    · intro h' tk zs hP hD' hk'
      rw [List.drop_zero] at hP
      refine ⟨_, hn.at' fun o e => hk' _ o hCK hCD hCI e, fun h'' hs'' => ?_⟩
      refine hQ H1.objs.size h'' tk zs hP (by rw [z1]; exact Nat.le_succ _) (hs''.extBut _ _ (Ne.symm hCD) hD') fun b o e => ?_
      refine hs''.extBut b o ?_ (hk' b o (off b o e).2.1 (off b o e).2.2 (off b o e).1 (up b o e))
      have := lt1 b o e
      exact Nat.ne_of_lt (by rw [z2]; omega)
  exact codeAny_compStart_list (fin _ rfl) (wpAny_pyIter_listiter hI (fin _ rfl))
end Mine
end
section
open PySem PySem.W PyProof.Rows
namespace Mine
open PySem.Calls

section
variable {prog : Program} {w : World} {A : Around} {E : Value → Shared → Prop} {s : Shared} {env : Env}
theorem Sub_bytes {value : Expr} {lower upper : Option Expr} {p pos : Pos} {Q : Value → Shared → Prop}
    (h : wpAny (model prog w) A (eval value env) (fun o s₁ => wpAny (model prog w) A (evalPart lower env) (fun vl s₂ => wpAny (model prog w) A (evalPart upper env) (fun vu s₃ =>
      ∃ b t lo hi, o = .bytes b t ∧ IsPart vl lo ∧ IsPart vu hi ∧ b.size ≤ 1000 ∧
        ∀ t' k, Q (.bytes (KBy.picked b lo hi) t') { s₃ with heap := s₃.heap.push { cls := .type "slice", data := .fields #[vl, vu, .none] }, toks := k }) E s₂) E s₁) E s)
    (ht : ∀ o r, letTemporaryGo value o r = pure () := by intro _ _; rfl) :
    wpAny (model prog w) A (eval (.Subscript value (.Slice lower upper none p) pos) env) Q E s := by
  refine wpAny_Subscript_Slice (T := "bytes") FB.slot_bytes_getitem.lookup (wpAny_mono h (fun o s₁ h₁ => wpAny_Slice (wpAny_mono h₁ (fun vl s₂ h₂ => wpAny_mono h₂ (fun vu s₃ h₃ => ?_) fun _ _ e => e) fun _ _ e => e)) fun _ _ e => e) ht
  obtain ⟨b, t, lo, hi, rfl, hl, hu, hz, hQ⟩ := h₃
  rw [evalPart_none]
  refine wpAny_pure ⟨typeIs_bytes _ b t, ?_⟩
  refine getItem_meets (typeIs_bytes _ _ _) (by decide) FB.slot_bytes_getitem FB.entry_bytes_getitem (FB.args_bytes_getitem_2 _ _) (KBc.meets_slice2 b t _ hl hu) ⟨Heap.IsSliceOf.new _ _ _ _, ?_, fun t' k => hQ t' k⟩
  refine Nat.le_trans (KBc.size_picked_le b lo hi) ?_
  rw [sizeLine_eq]
  omega

theorem turn_le {b : List UInt8} {t u : Tok} {k : Nat} {x y : Str} {p1 p2 p3 p4 p5 p6 p7 p8 p9 p10 p11 : Pos} {whole : Sem Value} (hb : b.length ≤ 1000)
    (hw : ∀ pos s' (Q : Value → Shared → Prop) E, (∀ a o, s.heap.get? a = some o → s'.heap.get? a = some o) → Q (.bytes b.toArray t) s' → wpAny (model prog w) A (eval (.Name x pos) env) Q E s')
    (ha : ∀ pos s' (Q : Value → Shared → Prop) E, (∀ a o, s.heap.get? a = some o → s'.heap.get? a = some o) → Q (.int k u) s' → wpAny (model prog w) A (eval (.Name y pos) env) Q E s') :
    wpAny (model prog w) A (isTrue (.Compare (.BinOp (.Subscript (.Name x p1) (.Slice (some (.Name y p2)) none none p3) p4) .Add (.Subscript (.Name x p5) (.Slice none (some (.Name y p6)) none p7) p8) p9) [.LtE] [.Name x p10] p11) env whole)
      (fun ok s'' => ok = leB (b.drop k ++ b.take k) b ∧ Keeps s s'') E s := by
  refine wpAny_isTrue_Compare1 ?_
  refine wpAny_BinOp ?_
  refine Sub_bytes (hw _ _ _ _ (fun _ _ e => e) ?_)
  rw [evalPart_some]
  refine ha _ _ _ _ (fun _ _ e => e) ?_
  rw [evalPart_none]
  refine wpAny_pure ⟨_, _, _, _, rfl, .int _ _, .none, by simpa using hb, fun t1 k1 => ?_⟩
  refine Sub_bytes (hw _ _ _ _ (fun _ _ e => Heap.get?_push_of_some _ e) ?_)
  rw [evalPart_none]
  refine wpAny_pure ?_
  rw [evalPart_some]
  refine ha _ _ _ _ (fun _ _ e => Heap.get?_push_of_some _ e) ?_
  refine ⟨_, _, _, _, rfl, .none, .int _ _, by simpa using hb, fun t2 k2 => ?_⟩
  have e1 : KBy.picked b.toArray (some (k : Int)) none = (b.drop k).toArray := by
    rw [KBc.picked_eq]
    simp only [Option.elim, clipAt_nat, List.size_toArray]
    rw [List.take_of_length_le (by simp)]
    by_cases h : k ≤ b.length
    · rw [Nat.min_eq_left h]
    · rw [Nat.min_eq_right (by omega), List.drop_of_length_le (Nat.le_refl _), List.drop_of_length_le (by omega)]
  have e2 : KBy.picked b.toArray none (some (k : Int)) = (b.take k).toArray := by
    rw [KBc.picked_eq]
    simp only [Option.elim, clipAt_nat, List.size_toArray, List.drop_zero, Nat.sub_zero]
    by_cases h : k ≤ b.length
    · rw [Nat.min_eq_left h]
    · rw [Nat.min_eq_right (by omega), List.take_of_length_le (Nat.le_refl _), List.take_of_length_le (by omega)]
  rw [e1, e2]
  refine KBy.add_bytes (by simp; omega) fun t3 k3 => ?_
  refine hw _ _ _ _ (fun _ _ e => Heap.get?_push_of_some _ (Heap.get?_push_of_some _ e)) ?_
  refine le_K ?_
  refine wpAny_truthy_bool ⟨?_, _, _, rfl, fun _ _ e => Heap.get?_push_of_some _ (Heap.get?_push_of_some _ e)⟩
  simp
end

def least1 (b : List UInt8) (n : Nat) : Bool := (List.range (n - 1)).all fun i => !leB (b.drop (i + 1) ++ b.take (i + 1)) b
def turnP (b : List UInt8) : Value → Bool
  | .int k _ => leB (b.drop k.toNat ++ b.take k.toNat) b
  | _ => false

theorem ints_some : ∀ {vs : List Value}, (∀ v ∈ vs, ∃ k t, v = .int k t) → ∃ ns, IntsAre vs ns
  | [], _ => ⟨[], .nil⟩
  | v :: vs, h => by
    obtain ⟨ns, hn⟩ := ints_some fun v hv => h v (.tail _ hv)
    obtain ⟨k, t, rfl⟩ := h v (.head _)
    exact ⟨k :: ns, .cons k t hn⟩
theorem paired_eq : ∀ {vs zs : List Value}, Paired (fun v z => v = z) vs zs → zs = vs
  | _, _, .nil => rfl
  | _, _, .cons h r => by rw [← h, paired_eq r]

section
variable {prog : Program} {w : World} {A : Around} {E : Value → Shared → Prop} {s : Shared} {env : Env}
theorem turns_ok {b : List UInt8} {t vt vu vw : Tok} {n : Nat} {R : Addr} {x z : Str} {scope : Scope} {cl : List (Str × Addr)} {q1 q2 q3 q4 q5 q6 p1 p2 p3 p4 p5 p6 p7 p8 p9 p10 p11 : Pos} {whole : Sem Value}
    (hh : A.handled = none) (hu : A.units + 64 < cLine) (hb : b.length ≤ 1000) (hn1 : n ≤ 1000)
    (hclos : closureFor scope env = pure cl) (hcell : ∀ y ∈ scope.names, y.2 ≠ .cell) (hkind : scope.kind = .function)
    (hnames : ∀ y ∈ scope.names, y.2 = .local → scope.names.lookup y.1 = some .local) (hx : scope.names.lookup ("at" : Str) = some .local)
    (hR : IsRange s.heap R 1 n 1 vt vu vw)
    (hit : ∀ (Q : Value → Shared → Prop) E, Q (.ref R) s → wpAny (model prog w) A (eval (.Name z q1) env) Q E s)
    (hw : ∀ C pos s' (Q : Value → Shared → Prop) E, (∀ a o, s.heap.get? a = some o → s'.heap.get? a = some o) → Q (.bytes b.toArray t) s' → wpAny (model prog w) A (eval (.Name x pos) (compEnvC scope cl C env)) Q E s') :
    wpAny (model prog w) A (isTrue (.Compare (.ListComp (.Name ("at" : Str) q2) [⟨.Name ("at" : Str) q3, .Name z q1, [.Compare (.BinOp (.Subscript (.Name x p1) (.Slice (some (.Name ("at" : Str) p2)) none none p3) p4) .Add (.Subscript (.Name x p5) (.Slice none (some (.Name ("at" : Str) p6)) none p7) p8) p9) [.LtE] [.Name x p10] p11], 0⟩] scope q4) [.Eq] [.List [] q5] q6) env whole)
      (fun ok s'' => ok = least1 b n ∧ Keeps s s'') E s := by
  refine wpAny_isTrue_Compare1 ?_
  refine wpAny_ListComp_free (turnP b) (fun v z => v = z) hclos hcell hkind hnames hx ?_
  refine hit _ _ ?_
  refine wpAny_pyIter_range hR (small_one (by omega) (by omega) (by omega) (by omega)) ?_
  have hk1 : ∀ a o, s.heap.get? a = some o → (s.heap.push { cls := .type "range_iterator", data := .fields #[rawInt 1, rawInt (Builtin.Range.rangeSize 1 n 1), rawInt 1] }).get? a = some o := fun _ _ e => Heap.get?_push_of_some _ e
  refine ⟨_, _, _, _, _, _, rfl, Walks.range hh s.heap.objs.size 1 1 (n - 1), by rw [sizeLine_eq]; omega, ?_, ?_, ?_, ?_⟩
  · have e : Builtin.Range.rangeSize 1 n 1 = ((n - 1 : Nat) : Int) := by rw [rangeSize_nat]; omega
    show IsRangeIter _ _ _ _ _
    rw [e]
    refine (Heap.get?_push_size _ rfl).trans ?_
    simp
  · intro b hb
    simp only [List.mem_singleton] at hb
    subst hb
    show _ < _
    rw [Heap.size_push]; exact Nat.lt_succ_self _
  · constructor
    · rintro C i v s₃ m₃ E' hC ⟨t1, rfl⟩ hN hm hk _
      refine wpAny_tests_one ?_
      have hks : ∀ a o, s.heap.get? a = some o → s₃.heap.get? a = some o := fun a o e => hk a o (by
        simp only [List.mem_singleton]; exact Nat.ne_of_lt (Heap.lt_size e)) (hk1 a o e)
      have hcast : (1 : Int) + (i : Int) * 1 = ((1 + i : Nat) : Int) := by omega
      refine wpAny_mono (turn_le (b := b) (t := t) (u := t1) (k := 1 + i) (x := x) (y := ("at" : Str)) hb
        (fun pos s' Q E hk' hQ => hw C pos s' Q E (fun a o e => hk' a o (hks a o e)) hQ)
        (fun pos s' Q E hk' hQ => wpAny_Name (wpAny_loadName_local (by simp [compEnvC, relabel, hkind]) (lookup_relabel_local hx) (hN.at' fun o e => hk' _ o e) (by rw [hm, hcast]) hQ))) (fun ok s'' h => ⟨?_, h.2⟩) fun _ _ e => e
      rw [h.1, hcast]
      show _ = leB (b.drop ((1 + i : Nat) : Int).toNat ++ b.take ((1 + i : Nat) : Int).toNat) b
      rw [Int.toNat_natCast]
    · rintro C i v s₃ m₃ E' hC ⟨t1, rfl⟩ hp hN hm hk _
      exact wpAny_Name (wpAny_loadName_local (by simp [compEnvC, relabel, hkind]) (lookup_relabel_local hx) hN hm ⟨rfl, _, _, rfl, fun _ _ e => e⟩)
  · intro D h' tk ys vs hD hl hpl hlen hP hF hk
    have hks : ∀ a o, s.heap.get? a = some o → h'.get? a = some o := fun a o e => hk a o (by
        simp only [List.mem_singleton]; exact Nat.ne_of_lt (Heap.lt_size e)) (hk1 a o e)
    have hys := paired_eq hF
    have hvi : ∀ v ∈ vs, ∃ i : Nat, ∃ t, i < n - 1 ∧ v = .int (((i + 1 : Nat) : Int)) t := by
      intro v hv
      obtain ⟨j, hj, e⟩ := List.getElem_of_mem hv
      obtain ⟨t, et⟩ := hP j v (by rw [List.getElem?_eq_getElem hj, e])
      exact ⟨j, t, by omega, by rw [et]; congr 1; omega⟩
    obtain ⟨ns, hns⟩ := ints_some (vs := ys.toList) (by
      rw [hys]
      intro v hv
      obtain ⟨i, t, _, e⟩ := hvi v (List.mem_filter.mp hv).1
      exact ⟨_, _, e⟩)
    refine wpAny_List ?_
    refine spliced_nil ⟨Nat.zero_le _, ?_⟩
    refine ke_eq_ints (xs := ys.toList) (ys := []) (ns := ns) (ms := []) (hl.at fun o e => Heap.get?_push_of_some _ e) ⟨_, Heap.get?_push_size _ rfl, rfl, _, rfl⟩ hns .nil hu ?_
    refine wpAny_truthy_bool ⟨?_, _, _, rfl, fun _ _ e => Heap.get?_push_of_some _ (hks _ _ e)⟩
    have e0 : (ns = []) ↔ (vs.filter (turnP b) = []) := by
      rw [← hys, ← List.length_eq_zero_iff, ← List.length_eq_zero_iff, hns.length]
    have e1 : (vs.filter (turnP b) = []) ↔ least1 b n = true := by
      rw [List.filter_eq_nil_iff, least1, List.all_eq_true]
      constructor
      · intro h i hi
        have hi' : i < vs.length := by rw [hlen]; exact List.mem_range.mp hi
        obtain ⟨t, et⟩ := hP i vs[i] (List.getElem?_eq_getElem hi')
        have := h vs[i] (List.getElem_mem hi')
        rw [et] at this
        have e3 : ((1 : Int) + (i : Int) * 1).toNat = i + 1 := by omega
        simp only [turnP, e3] at this
        simpa using this
      · intro h v hv
        obtain ⟨i, t, hi, rfl⟩ := hvi v hv
        have := h i (List.mem_range.mpr hi)
        simp only [turnP, Int.toNat_natCast]
        simpa using this
    have e2 := e0.trans e1
    by_cases h : ns = []
    · rw [e2.mp h]; simp [h]
    · have : least1 b n ≠ true := fun g => h (e2.mpr g)
      simp only [Bool.not_eq_true] at this
      rw [this]; simp [h]
end
end Mine
end
section
open PySem PySem.W PyProof.Rows
namespace Mine
open PySem.Calls MeetsSeq

theorem eqGives_bytes (b c : Array UInt8) (t u : Tok) : EqGives (.bytes b t) (.bytes c u) (b.toList == c.toList) := by
  intro prog w A E s Q h
  unfold eqBool
  show wpAny _ _ (if (Value.bytes b t == Value.bytes c u) = true then _ else _) Q E s
  by_cases hab : (Value.bytes b t == Value.bytes c u) = true
  · rw [if_pos hab]
    have e : b = c := by have := eq_of_beq hab; injection this
    subst e
    exact wpAny_bind (wpAny_rule (wpAny_pure (by simpa using h)))
  · rw [if_neg hab]
    exact wpAny_bind (richCompare_gives (op := .Eq) (T := "bytes") rfl rfl FB.slot_bytes_eq FB.entry_bytes_eq (FB.args_bytes_eq_2 _ _) (gives_bytes_eq b c t u) (fun x => nomatch x) (wpAny_truthy_bool h))

abbrev lstN (zs : List Value) (n : Nat) : Obj := { cls := .type "list", data := .seq zs.toArray n }
def bytesP (x : List UInt8) : Value → Bool
  | .bytes b _ => b.toList == x
  | _ => false
theorem notin_bytes {prog : Program} {w : World} {A : Around} {E : Value → Shared → Prop} {s : Shared} {Q : Value → Shared → Prop} {D : Addr} {zs : List Value} {n : Nat} {x : Array UInt8} {t : Tok}
    (hD : s.heap.get? D = some (lstN zs n)) (hz : ∀ v ∈ zs, ∃ b u, v = .bytes b u) (h : Q (.bool (!(zs.any (bytesP x.toList)))) s) : wpAny (model prog w) A (compareOp .NotIn (.bytes x t) (.ref D)) Q E s := by
  have hT : s.TypeIs (.ref D) "list" := ⟨_, hD, rfl⟩
  refine NotIn_slot hT F.slot_list_contains (call_meets F.slot_list_contains hT F.entry_list_contains (F.args_list_contains_2 _ _) (list_contains D zs.toArray n (.bytes x t) (bytesP x.toList) ?_) ⟨hD, ?_⟩)
  · intro y hy
    obtain ⟨b, u, rfl⟩ := hz y (by simpa using hy)
    exact eqGives_bytes b x u t
  · refine wpAny_truthy_bool ?_
    simpa using h

theorem slice_B {prog : Program} {w : World} {A : Around} {E : Value → Shared → Prop} {s : Shared} {value slice : PySem.Expr} {b : Array UInt8} {t : Tok} {h₀ : Heap} {L : Addr} {m : PySem.Str → Option Value} {news : List (Addr × Obj)} {l u : Value} {lo hi : Option Int} {Q : Value → Shared → Prop}
    (hF : Fr h₀ L s.heap m) (hN : News h₀ L s.heap news) (hl : IsPart l lo) (hu : IsPart u hi) (hz : b.size ≤ 1000)
    (h : ∀ h' t' k, Fr h₀ L h' m → News h₀ L h' news → Q (.bytes (KBy.picked b lo hi) t') { s with heap := h', toks := k })
    (hs : subscripted slice false (.bytes b t) (.ref s.heap.objs.size) = operate [.ref s.heap.objs.size, .bytes b t] (getItem (.bytes b t) (.ref s.heap.objs.size)) := by with_unfolding_all rfl)
    (ht : ∀ r, letTemporaryGo value (.bytes b t) r = pure () := by intro _; with_unfolding_all rfl) :
    wpAny (model prog w) A (subscriptTail value slice (.bytes b t) (.ref s.heap.objs.size)) Q E { s with heap := s.heap.push { cls := .type "slice", data := .fields #[l, u, .none] } } :=
  KBc.slice_K hF hN rfl hl hu (by rw [KBw.ints_length]; omega) (fun h' t' k F N _ => h h' t' k F N) hs ht
theorem picked_from {b : List UInt8} {k : Nat} : KBy.picked b.toArray (some (k : Int)) none = (b.drop k).toArray := by
  rw [KBc.picked_eq]
  simp only [Option.elim, clipAt_nat, List.size_toArray]
  rw [List.take_of_length_le (by simp)]
  by_cases h : k ≤ b.length
  · rw [Nat.min_eq_left h]
  · rw [Nat.min_eq_right (by omega), List.drop_of_length_le (Nat.le_refl _), List.drop_of_length_le (by omega)]
theorem picked_to {b : List UInt8} {k : Nat} : KBy.picked b.toArray none (some (k : Int)) = (b.take k).toArray := by
  rw [KBc.picked_eq]
  simp only [Option.elim, clipAt_nat, List.size_toArray, List.drop_zero, Nat.sub_zero]
  by_cases h : k ≤ b.length
  · rw [Nat.min_eq_left h]
  · rw [Nat.min_eq_right (by omega), List.take_of_length_le (Nat.le_refl _), List.take_of_length_le (by omega)]
theorem picked_but {b : List UInt8} {k : Nat} (hk : 1 ≤ k) : KBy.picked b.toArray none (some (-(k : Int))) = (b.take (b.length - k)).toArray := by
  rw [KBc.picked_eq]
  simp only [Option.elim, clipAt_neg _ _ hk, List.size_toArray, List.drop_zero, Nat.sub_zero]

section
variable {prog : Program} {w : World} {A : Around} {E : Value → Shared → Prop} {s : Shared} {env : Env} {h₀ : Heap} {x : Str} {body : List Stmt} {Q : Flow → Shared → Prop}
theorem iter_listJ {D : Addr} {zs : List Value} {n : Nat} {m₀ : Str → Option Value} {news : List (Addr × Obj)} (J : Nat → (Str → Option Value) → List (Addr × Obj) → Prop)
    (hh : A.handled = none) (F : Fr h₀ env.locals s.heap m₀) (N : News h₀ env.locals s.heap news) (hj : J 0 m₀ news) (hJD : ∀ i m nx, J i m nx → (D, lstN zs n) ∈ nx)
    (turn : ∀ i v m₁ news₁ I o h tk, zs[i]? = some v → (∀ p ∈ news₁, p.1 ≠ I) → J i m₁ news₁ → Fr h₀ env.locals h (fun y => if y = x then some v else m₁ y) → News h₀ env.locals h ((I, o) :: news₁) →
      wpAny (model prog w) A (execs body env) (RgPost h₀ env.locals I o (J (i + 1)) { s with heap := h, toks := tk } Q) E { s with heap := h, toks := tk })
    (done : ∀ m₁ news₁ h tk, J zs.length m₁ news₁ → Fr h₀ env.locals h m₁ → News h₀ env.locals h news₁ → Q .next { s with heap := h, toks := tk }) :
    wpAny (model prog w) A (pyIter (.ref D)) (fun it s₂ => LoopAtV prog w A h₀ env x body Q E it s₂) E s := by
  have hD0 := N _ (hJD _ _ _ hj)
  have hl : s.heap.IsList D zs.toArray := ⟨_, hD0.1, rfl, _, rfl⟩
  refine wpAny_pyIter_list hl ?_
  have hI0 : h₀.get? s.heap.objs.size = none := next_is_new F
  have hDI : D ≠ s.heap.objs.size := Nat.ne_of_lt (Heap.lt_size hD0.1)
  have W := Walks.list (prog := prog) (w := w) (A := A) hh s.heap.objs.size D hDI zs.toArray
  refine ⟨_, _, _, _, _, _, m₀, news, J, rfl, W, ?_, ?_, ?_, ⟨⟨_, Heap.get?_push_size _ rfl, rfl, rfl⟩, hl.at fun o e => Heap.get?_push_of_some _ e⟩, F.push _, (fun p hp => ⟨Heap.get?_push_of_some _ (N p hp).1, (N p hp).2⟩), hj, ?_, ?_⟩
  · intro hm
    rcases List.mem_cons.mp hm with e | hm
    · exact absurd F.ns.lt (e ▸ Nat.lt_irrefl _)
    · exact hD0.2.1 (List.mem_singleton.mp hm).symm
  · intro b hb
    rw [List.mem_singleton.mp hb]
    exact hI0
  · intro p hp hI
    exact absurd (Heap.lt_size (N p hp).1) ((List.mem_singleton.mp hI) ▸ Nat.lt_irrefl _)
  · rintro i v m₁ news₁ s₁ own ⟨hh', tk', rfl⟩ hin hv hJ hoff hown hget hall hst F₁ N₁
    obtain ⟨oI, ho, hoI⟩ : ∃ o, hh'.get? s.heap.objs.size = some o ∧ True := by
      obtain ⟨⟨o, e, _⟩, _⟩ := hst
      exact ⟨o, e, trivial⟩
    have hio := hall s.heap.objs.size (List.mem_cons_self ..) hI0 _ ho
    have hDn := hJD _ _ _ hJ
    have hDo := (N₁ _ (List.mem_append_right _ hDn)).1
    have hone : ∀ p ∈ own, p = (s.heap.objs.size, oI) ∨ p = (D, lstN zs n) := by
      intro p hp
      have h1 := hget p hp
      rcases List.mem_cons.mp (hown p hp) with e | hm
      · refine .inl (Prod.ext e ?_)
        rw [e] at h1
        exact Option.some.inj (h1.symm.trans ho)
      · have e := List.mem_singleton.mp hm
        refine .inr (Prod.ext e ?_)
        rw [e] at h1
        exact Option.some.inj (h1.symm.trans hDo)
    refine wpAny_mono (turn i v m₁ news₁ _ _ hh' tk' (by simpa using hv) (fun p hp e => hoff p hp (List.mem_singleton.mpr e)) hJ F₁ (news_one hio N₁)) (fun f s₂ p => ?_) fun _ _ e => e
    have fin : RgEnd h₀ env.locals s.heap.objs.size oI (J (i + 1)) { s with heap := hh', toks := tk' } s₂ → LoopStepU h₀ env.locals [s.heap.objs.size] own (J (i + 1)) { s with heap := hh', toks := tk' } .next s₂ := by
      rintro ⟨h', tk, m', news', nx, e, F', N', hi, hn', ha, hm⟩
      refine ⟨rfl, h', tk, m', nx, e, F', fun p hp => ?_, fun p hp hq => ha p hp (List.mem_singleton.mp hq), hm⟩
      rcases List.mem_append.mp hp with hp | hp
      · rcases hone p hp with e | e
        · rw [e]; exact N' _ hi
        · rw [e]; exact N' _ (hn' _ (hJD _ _ _ hm))
      · exact N' p (hn' p hp)
    cases f with
    | ret v => exact .ret p
    | brk => exact .brk p
    | next => exact .next (fin p)
    | cont => exact .cont (fin p)
  · rintro h' tk m' news' F' N' _ hJ
    rw [List.size_toArray] at hJ
    exact done m' news' h' tk hJ F' N'

theorem Assign_comp1 {elt iter : Expr} {y : Str} {px py pos spos : Pos} {scope : Scope} {cl : List (Str × Addr)} {l : Addr} {vs : List Value} {F : Value → Value → Prop} {m : Str → Option Value} {news : List (Addr × Obj)}
    (hh : A.handled = none) (hsw : swapsWith (.ListComp elt [⟨.Name x px, iter, [], 0⟩] scope pos) (some (.Name y py)) spos.line env = pure true)
    (hclos : closureFor scope env = pure cl) (hcell : ∀ z ∈ scope.names, z.2 ≠ .cell) (hkind : scope.kind = .function)
    (hnames : ∀ z ∈ scope.names, z.2 = .local → scope.names.lookup z.1 = some .local) (hx : scope.names.lookup x = some .local)
    (hy : env.kindOf y = some .local) (hp : (env.scope.kind == .class || (env.scope.kind == .module && env.locals != env.globals)) = false)
    (hit : ∀ (Q : Value → Shared → Prop) E, Q (.ref l) s → wpAny (model prog w) A (eval iter env) Q E s)
    (hl : s.heap.IsList l vs.toArray) (hz : vs.length ≤ 1000) (Fm : Fr h₀ env.locals s.heap m) (N : News h₀ env.locals s.heap news)
    (helt : ∀ C v s' m' E', v ∈ vs → s'.heap.Ns C m' → m' x = some v → Fr h₀ env.locals s'.heap m → News h₀ env.locals s'.heap news → wpAny (model prog w) A (eval elt (compEnvC scope cl C env)) (fun z s'' => F v z ∧ Keeps s' s'') E' s')
    (h : ∀ D h' tk zs n, Paired F vs zs → (∀ b o, s.heap.get? b = some o → b ≠ D) → Fr h₀ env.locals h' (fun z => if z = y then some (.ref D) else m z) → News h₀ env.locals h' ((D, lstN zs n) :: news) → Q .next { s with heap := h', toks := tk })
    (hs : ∀ x, foldedSetIterable iter env x = pure x := by intro _; rfl) :
    wpAny (model prog w) A (exec (.Assign [.Name y py] (.ListComp elt [⟨.Name x px, iter, [], 0⟩] scope pos) spos) env) Q E s := by
  refine wpAny_Assign_ListComp_free (fun _ => true) F hsw hclos hcell hkind hnames hx hy hp (hit _ _ ?_) hs
  refine wpAny_pyIter_list hl ?_
  obtain ⟨ol, el, rl⟩ := id hl
  have hlI : l ≠ s.heap.objs.size := Nat.ne_of_lt (Heap.lt_size el)
  have W := Walks.list (prog := prog) (w := w) (A := A) hh s.heap.objs.size l hlI vs.toArray
  have hLI : env.locals ≠ s.heap.objs.size := Nat.ne_of_lt Fm.ns.lt
  have off : ∀ b o, s.heap.get? b = some o → b ∉ [s.heap.objs.size] := fun b o e hm => absurd (Heap.lt_size e) ((List.mem_singleton.mp hm) ▸ Nat.lt_irrefl _)
  have F1 := Fm.push (o := { cls := .type "list_iterator", data := .fields #[.ref l, .int 0 0] })
  have N1 : News h₀ env.locals (s.heap.push { cls := .type "list_iterator", data := .fields #[.ref l, .int 0 0] }) news := fun p hp => ⟨Heap.get?_push_of_some _ (N p hp).1, (N p hp).2⟩
  have toS : ∀ {h' : Heap}, (∀ b o, b ∉ [s.heap.objs.size] → (s.heap.push { cls := .type "list_iterator", data := .fields #[.ref l, .int 0 0] }).get? b = some o → h'.get? b = some o) → ∀ b o, s.heap.get? b = some o → h'.get? b = some o :=
    fun hk b o e => hk b o (off b o e) (Heap.get?_push_of_some _ e)
  refine ⟨_, _, _, _, _, _, m, rfl, W, by rw [List.size_toArray, sizeLine_eq]; omega, ⟨⟨_, Heap.get?_push_size _ rfl, rfl, rfl⟩, hl.at fun o e => Heap.get?_push_of_some _ e⟩, ?_, ?_, F1.ns, ?_, ?_⟩
  · intro b hb
    show @LT.lt Nat _ b _
    rw [Heap.size_push]
    rcases List.mem_cons.mp hb with e | hm
    · rw [e]; exact Nat.lt_succ_self _
    · rw [List.mem_singleton.mp hm]; exact Nat.lt_succ_of_lt (Heap.lt_size el)
  · intro hm; exact hLI (List.mem_singleton.mp hm)
  · constructor
    · intro C i v s₃ m₃ E' hC hv hN hm hk _
      simp only [List.forIn_nil]
      exact wpAny_pure ⟨rfl, _, _, rfl, fun _ _ e => e⟩
    · intro C i v s₃ m₃ E' hC hv _ hN hm hk _
      refine helt C v s₃ m₃ E' ?_ hN hm (Fm.keeps (toS hk)) (News.keeps N (toS hk))
      exact List.mem_of_getElem? (by simpa using hv)
  · intro D h' tk ys us hD hlD hpl hlen hP hF hn hk
    have hus : us = vs := by
      refine List.ext_getElem (by simpa using hlen) fun i h1 h2 => ?_
      have := hP i us[i] (List.getElem?_eq_getElem h1)
      simp only [List.getElem?_toArray] at this
      rw [List.getElem?_eq_getElem h2] at this
      exact (Option.some.inj this).symm
    rw [hus, List.filter_eq_self.mpr (fun _ _ => rfl)] at hF
    have hD' : s.heap.get? D = none := by
      cases e : s.heap.get? D with
      | none => rfl
      | some o => have e' := Heap.get?_push_of_some ({ cls := .type "list_iterator", data := .fields #[.ref l, .int 0 0] } : Obj) e; rw [hD] at e'; cases e'
    have hLD : env.locals ≠ D := by rintro rfl; obtain ⟨o, _, _, ho, _⟩ := Fm.ns; rw [hD'] at ho; cases ho
    have hup : ∀ b o, b ≠ env.locals → s.heap.get? b = some o → h'.get? b = some o := fun b o hb e => hk b o hb (off b o e) (Heap.get?_push_of_some _ e)
    obtain ⟨n, hDo⟩ := hpl
    refine h D h' tk ys.toList n hF (fun b o e hb => by rw [hb, hD'] at e; cases e) ⟨hn, fun b o e => ?_, Fm.above⟩ fun q hq => ?_
    · have hbL : b ≠ env.locals := fun hb => by
        have e' := e
        rw [hb, Heap.get?_none_of_le Fm.above] at e'
        cases e'
      exact hup b o hbL (Fm.keep b o e)
    · rcases List.mem_cons.mp hq with rfl | hq
      · refine ⟨by simpa using hDo, Ne.symm hLD, ?_⟩
        cases e : h₀.get? D with
        | none => rfl
        | some o => have := Fm.keep _ _ e; rw [hD'] at this; cases this
      · exact ⟨hup _ _ (N q hq).2.1 (N q hq).1, (N q hq).2⟩
end
end Mine
end
section
open PySem PySem.W PyProof.Rows
namespace Mine
def wordsL (ns : List Int) : Nat → List (List UInt8)
  | 0 => [[]]
  | n + 1 => (wordsL ns n).flatMap fun w => ns.map fun c => w ++ [byteOf c]
def lastK (ns : List Int) : Int := ns.getD (ns.length - 1) 0
theorem lastK_mem {ns : List Int} (h : 1 ≤ ns.length) : lastK ns ∈ ns := by
  unfold lastK
  rw [List.getD_eq_getElem?_getD, List.getElem?_eq_getElem (by omega)]
  exact List.getElem_mem _
def goodB (n : Nat) (one : List UInt8) : Bool := (List.range (one.length - n)).all fun j => !decide (Occ one (one.drop (one.length - n)) j)
def stepB (n : Nat) (l : List (List UInt8)) (text : List UInt8) : List UInt8 := l.foldl (fun t one => if t.length < one.length && goodB n one then one else t) text
def longerB (ns : List Int) (text : List UInt8) : List (List UInt8) := ns.map fun c => text ++ [byteOf c]
def putB (ns : List Int) (n : Nat) : Nat → List UInt8 → List UInt8
  | 0, _ => []
  | k + 1, text => if stepB n (longerB ns text) text ∈ longerB ns text then putB ns n k (stepB n (longerB ns text) text) else stepB n (longerB ns text) text
def putOn (ns : List Int) (n : Nat) : List UInt8 := putB ns n (ns.length ^ n + 1) (List.replicate n (byteOf (lastK ns)))
end Mine
end
section
open PySem PySem.W PyProof.Rows
namespace Mine
def Rising (f : Fin 3 → UInt8) : Prop := ∀ i j, i < j → f i < f j
theorem Rising.lt {f : Fin 3 → UInt8} (h : Rising f) (i j : Fin 3) : f i < f j ↔ i < j := by
  refine ⟨fun q => ?_, h i j⟩
  by_cases h1 : i < j
  · exact h1
  · exfalso
    by_cases h2 : j < i
    · exact absurd (h _ _ h2) (UInt8.lt_asymm q)
    · have e : i = j := by omega
      subst e
      exact UInt8.lt_irrefl _ q
theorem Rising.inj {f : Fin 3 → UInt8} (h : Rising f) {i j : Fin 3} (e : f i = f j) : i = j := by
  have h1 := h.lt i j
  have h2 := h.lt j i
  rw [e] at h1 h2
  have h3 := UInt8.lt_irrefl (f j)
  have h4 : ¬ i < j := fun q => h3 (h1.mpr q)
  have h5 : ¬ j < i := fun q => h3 (h2.mpr q)
  omega
theorem Rising.mapInj {f : Fin 3 → UInt8} (h : Rising f) {a b : List (Fin 3)} : a.map f = b.map f ↔ a = b :=
  ⟨fun e => (List.map_inj_right (fun _ _ => h.inj)).mp e, fun e => by rw [e]⟩
def ordI : List (Fin 3) → List (Fin 3) → Ordering
  | [], [] => .eq
  | [], _ :: _ => .lt
  | _ :: _, [] => .gt
  | x :: xs, y :: ys => if x < y then .lt else if y < x then .gt else ordI xs ys
theorem ord_map {f : Fin 3 → UInt8} (h : Rising f) : ∀ a b, Builtin.Bytes.order (a.map f) (b.map f) = ordI a b
  | [], [] => rfl
  | [], _ :: _ => rfl
  | _ :: _, [] => rfl
  | x :: a, y :: b => by
    simp only [List.map_cons, Builtin.Bytes.order, ordI, h.lt, GT.gt, ord_map h a b]
def leI (a b : List (Fin 3)) : Bool := ordI a b != .gt
def wordsI (l : List (Fin 3)) : Nat → List (List (Fin 3))
  | 0 => [[]]
  | n + 1 => (wordsI l n).flatMap fun w => l.map fun c => w ++ [c]
def least1I (b : List (Fin 3)) (n : Nat) : Bool := (List.range (n - 1)).all fun i => !leI (b.drop (i + 1) ++ b.take (i + 1)) b
def occI (text pat : List (Fin 3)) (i : Nat) : Bool := (text.drop i).take pat.length == pat
def goodI (n : Nat) (one : List (Fin 3)) : Bool := (List.range (one.length - n)).all fun j => !occI one (one.drop (one.length - n)) j
def stepI (n : Nat) (l : List (List (Fin 3))) (text : List (Fin 3)) : List (Fin 3) := l.foldl (fun t one => if t.length < one.length && goodI n one then one else t) text
def longerI (l : List (Fin 3)) (text : List (Fin 3)) : List (List (Fin 3)) := l.map fun c => text ++ [c]
def putI (l : List (Fin 3)) (n : Nat) : Nat → List (Fin 3) → List (Fin 3)
  | 0, _ => []
  | k + 1, text => if (longerI l text).contains (stepI n (longerI l text) text) then putI l n k (stepI n (longerI l text) text) else stepI n (longerI l text) text

section
variable {f : Fin 3 → UInt8} {ns : List Int} {l : List (Fin 3)}
theorem longer_map (hl : ns.map byteOf = l.map f) (t : List (Fin 3)) : longerB ns (t.map f) = (longerI l t).map (List.map f) := by
  have e : longerB ns (t.map f) = (ns.map byteOf).map fun x => t.map f ++ [x] := by simp [longerB, List.map_map]
  rw [e, hl]
  simp [longerI, List.map_map]
theorem words_map (hl : ns.map byteOf = l.map f) : ∀ n, wordsL ns n = (wordsI l n).map (List.map f)
  | 0 => rfl
  | n + 1 => by
    have e : wordsL ns (n + 1) = (wordsL ns n).flatMap (longerB ns) := rfl
    rw [e, words_map hl n, List.flatMap_map]
    have e2 : (fun a => longerB ns (List.map f a)) = fun a => (longerI l a).map (List.map f) := by
      funext a; exact longer_map hl a
    rw [e2, ← List.map_flatMap]
    rfl
theorem occ_map (h : Rising f) (t p : List (Fin 3)) (i : Nat) : Occ (t.map f) (p.map f) i ↔ occI t p i = true := by
  unfold Occ occI
  rw [List.length_map, ← List.map_drop, ← List.map_take, h.mapInj, beq_iff_eq]
theorem least_map (h : Rising f) (w : List (Fin 3)) (n : Nat) : least1 (w.map f) n = least1I w n := by
  unfold least1 least1I leB leI
  simp only [← List.map_drop, ← List.map_take, ← List.map_append, ord_map h]
theorem good_map (h : Rising f) (n : Nat) (w : List (Fin 3)) : goodB n (w.map f) = goodI n w := by
  unfold goodB goodI
  rw [List.length_map]
  congr 1
  funext j
  rw [← List.map_drop]
  congr 1
  by_cases q : occI w (w.drop (w.length - n)) j = true
  · rw [q]; exact decide_eq_true ((occ_map h _ _ _).mpr q)
  · have := fun x => q ((occ_map h w (w.drop (w.length - n)) j).mp x)
    simp only [Bool.not_eq_true] at q
    rw [q]; exact decide_eq_false this
theorem step_map (h : Rising f) (n : Nat) : ∀ (L : List (List (Fin 3))) (t : List (Fin 3)), stepB n (L.map (List.map f)) (t.map f) = (stepI n L t).map f
  | [], _ => rfl
  | a :: L, t => by
    have e1 : stepB n ((a :: L).map (List.map f)) (t.map f) = stepB n (L.map (List.map f)) (if (t.map f).length < (a.map f).length && goodB n (a.map f) then a.map f else t.map f) := rfl
    have e2 : stepI n (a :: L) t = stepI n L (if t.length < a.length && goodI n a then a else t) := rfl
    rw [e1, e2, good_map h, List.length_map, List.length_map, ← step_map h n L]
    congr 1
    split <;> rfl
theorem put_map (h : Rising f) (hl : ns.map byteOf = l.map f) (n : Nat) : ∀ (k : Nat) (t : List (Fin 3)), putB ns n k (t.map f) = (putI l n k t).map f
  | 0, _ => rfl
  | k + 1, t => by
    unfold putB putI
    rw [longer_map hl, step_map h]
    have e : (stepI n (longerI l t) t).map f ∈ (longerI l t).map (List.map f) ↔ (longerI l t).contains (stepI n (longerI l t) t) = true := by
      rw [List.contains_iff_mem, List.mem_map]
      constructor
      · rintro ⟨a, ha, e⟩
        rwa [← h.mapInj.mp e]
      · exact fun q => ⟨_, q, rfl⟩
    by_cases q : (longerI l t).contains (stepI n (longerI l t) t) = true
    · rw [if_pos (e.mpr q), if_pos q]
      exact put_map h hl n k _
    · rw [if_neg (fun x => q (e.mp x)), if_neg q]
end

/-- the order of the sort -/
def natsOf (b : List UInt8) : List Nat := b.map UInt8.toNat
theorem natsOf_inj {a b : List UInt8} (h : natsOf a = natsOf b) : a = b :=
  (List.map_inj_right (fun _ _ e => UInt8.toNat_inj.mp e)).mp h
theorem order_lt : ∀ a b : List UInt8, Builtin.Bytes.order a b = .lt ↔ natsOf a < natsOf b
  | [], [] => by simp [Builtin.Bytes.order, natsOf]
  | [], _ :: _ => by simp [Builtin.Bytes.order, natsOf]
  | _ :: _, [] => by simp [Builtin.Bytes.order, natsOf]
  | x :: a, y :: b => by
    have ih := order_lt a b
    simp only [natsOf, List.map_cons, Builtin.Bytes.order, List.cons_lt_cons_iff] at ih ⊢
    by_cases h1 : x < y
    · have h1' : x.toNat < y.toNat := h1
      simp [h1, h1']
    · have h1' : ¬ x.toNat < y.toNat := h1
      by_cases h2 : x > y
      · have h2' : y.toNat < x.toNat := h2
        have h3 : x.toNat ≠ y.toNat := by omega
        simp [h1, h2, h1', h3]
      · have h2' : ¬ y.toNat < x.toNat := h2
        have h3 : x.toNat = y.toNat := by omega
        simp only [h1, h2, h3, if_false, true_and, Nat.lt_irrefl, false_or]
        exact ih
def LeN (a b : List UInt8) : Prop := ¬ natsOf b < natsOf a
theorem LeN.antisymm {a b : List UInt8} (h1 : LeN a b) (h2 : LeN b a) : a = b :=
  natsOf_inj (List.le_antisymm (List.not_lt.mp h1) (List.not_lt.mp h2))
theorem leN_map {f : Fin 3 → UInt8} (h : Rising f) {a b : List (Fin 3)} (e : ordI b a ≠ .lt) : LeN (a.map f) (b.map f) := by
  intro q
  have := (order_lt (b.map f) (a.map f)).mpr q
  rw [ord_map h] at this
  exact e this

def rowsB (ns : List Int) (n : Nat) : List (List UInt8) := (List.range n).flatMap fun i => if n % (i + 1) = 0 then (wordsL ns (i + 1)).filter fun b => least1 b (i + 1) else []
def rowsI (l : List (Fin 3)) (n : Nat) : List (List (Fin 3)) := (List.range n).flatMap fun i => if n % (i + 1) = 0 then (wordsI l (i + 1)).filter fun b => least1I b (i + 1) else []
theorem rows_map {f : Fin 3 → UInt8} {ns : List Int} {l : List (Fin 3)} (h : Rising f) (hl : ns.map byteOf = l.map f) (n : Nat) : rowsB ns n = (rowsI l n).map (List.map f) := by
  unfold rowsB rowsI
  rw [List.map_flatMap]
  congr 1
  funext i
  split
  · rw [words_map hl, List.filter_map]
    congr 2
    funext b
    exact least_map h b _
  · rfl

def insI (a : List (Fin 3)) : List (List (Fin 3)) → List (List (Fin 3))
  | [] => [a]
  | b :: r => if leI a b then a :: b :: r else b :: insI a r
def sortI : List (List (Fin 3)) → List (List (Fin 3))
  | [] => []
  | a :: r => insI a (sortI r)
theorem insI_perm (a : List (Fin 3)) : ∀ r, (insI a r).Perm (a :: r)
  | [] => .refl _
  | b :: r => by
    unfold insI
    split
    · exact .refl _
    · exact ((insI_perm a r).cons b).trans (.swap _ _ _)
theorem sortI_perm : ∀ r, (sortI r).Perm r
  | [] => .refl _
  | a :: r => (insI_perm a _).trans ((sortI_perm r).cons a)
def risingI : List (List (Fin 3)) → Bool
  | [] => true
  | a :: r => (r.all fun b => ordI b a != .lt) && risingI r
theorem risingI_pairwise {f : Fin 3 → UInt8} (h : Rising f) : ∀ {r : List (List (Fin 3))}, risingI r = true → (r.map (List.map f)).Pairwise LeN
  | [], _ => List.Pairwise.nil
  | a :: r, e => by
    unfold risingI at e
    rw [Bool.and_eq_true, List.all_eq_true] at e
    refine List.Pairwise.cons ?_ (risingI_pairwise h e.2)
    intro b hb
    obtain ⟨c, hc, rfl⟩ := List.mem_map.mp hb
    exact leN_map h (by simpa using e.1 c hc)

/-- what the law asks of letters `ns`, length `n` and the sorted rows `bs` -/
def Asked (ns : List Int) (n : Nat) (bs : List (List UInt8)) : Prop :=
  putOn ns n = List.replicate n (byteOf (lastK ns)) ++ bs.flatten.dropLast ∧ bs.flatten.length = ns.length ^ n ∧
    ∀ w ∈ wordsL ns n, ∃ i, i ≤ (bs.flatten ++ bs.flatten.take (n - 1)).length ∧ Occ (bs.flatten ++ bs.flatten.take (n - 1)) w i ∧
      ∀ j, j ≤ (bs.flatten ++ bs.flatten.take (n - 1)).length → Occ (bs.flatten ++ bs.flatten.take (n - 1)) w j → j = i

def meetI (around w : List (Fin 3)) : Bool :=
  (List.range (around.length + 1)).any fun i => occI around w i && (List.range (around.length + 1)).all fun j => !occI around w j || j == i
def askedI (l : List (Fin 3)) (n : Nat) (last : Fin 3) (ring : List (Fin 3)) : Bool :=
  putI l n (l.length ^ n + 1) (List.replicate n last) == List.replicate n last ++ ring.dropLast && ring.length == l.length ^ n && (wordsI l n).all fun w => meetI (ring ++ ring.take (n - 1)) w
theorem meet_of {f : Fin 3 → UInt8} (h : Rising f) {around v : List (Fin 3)} (e : meetI around v = true) :
    ∃ i, i ≤ (around.map f).length ∧ Occ (around.map f) (v.map f) i ∧ ∀ j, j ≤ (around.map f).length → Occ (around.map f) (v.map f) j → j = i := by
  unfold meetI at e
  rw [List.any_eq_true] at e
  obtain ⟨i, hi, e⟩ := e
  rw [Bool.and_eq_true, List.all_eq_true] at e
  rw [List.length_map]
  have hi' := List.mem_range.mp hi
  refine ⟨i, by omega, (occ_map h _ _ _).mpr e.1, fun j hj hoj => ?_⟩
  have := e.2 j (List.mem_range.mpr (by omega))
  rw [(occ_map h _ _ _).mp hoj] at this
  simpa using this
theorem flat_map {f : Fin 3 → UInt8} : ∀ r : List (List (Fin 3)), (r.map (List.map f)).flatten = r.flatten.map f
  | [] => rfl
  | a :: r => by
    rw [List.map_cons, List.flatten_cons, List.flatten_cons, List.map_append, flat_map r]

theorem asked_of {f : Fin 3 → UInt8} {ns : List Int} {l : List (Fin 3)} {n : Nat} {last : Fin 3} (h : Rising f) (hl : ns.map byteOf = l.map f) (hlast : byteOf (lastK ns) = f last)
    (hr : risingI (sortI (rowsI l n)) = true) (hI : askedI l n last (sortI (rowsI l n)).flatten = true) {bs : List (List UInt8)} (hp : bs.Perm (rowsB ns n)) (hs : bs.Pairwise LeN) : Asked ns n bs := by
  have hlen : ns.length = l.length := by simpa using congrArg List.length hl
  have hbs : bs = (sortI (rowsI l n)).map (List.map f) := by
    refine List.Perm.eq_of_pairwise (le := LeN) (fun a b _ _ => LeN.antisymm) hs (risingI_pairwise h hr) ?_
    rw [rows_map h hl] at hp
    exact hp.trans ((sortI_perm _).map _).symm
  have hfl : bs.flatten = (sortI (rowsI l n)).flatten.map f := by rw [hbs, flat_map]
  generalize (sortI (rowsI l n)).flatten = ring at hI hfl
  unfold askedI at hI
  rw [Bool.and_eq_true, Bool.and_eq_true, List.all_eq_true] at hI
  obtain ⟨⟨h2, h3⟩, h4⟩ := hI
  have h2 := eq_of_beq h2
  have h3 := eq_of_beq h3
  have e : bs.flatten ++ bs.flatten.take (n - 1) = (ring ++ ring.take (n - 1)).map f := by
    rw [hfl, List.map_append, List.map_take]
  refine ⟨?_, ?_, ?_⟩
  · unfold putOn
    rw [hlast, hfl, hlen, ← List.map_replicate (f := f), put_map h hl, h2, List.map_append, List.map_dropLast]
  · rw [hfl, List.length_map, h3, hlen]
  · intro w hw
    rw [words_map hl] at hw
    obtain ⟨v, hv, rfl⟩ := List.mem_map.mp hw
    rw [e]
    exact meet_of h (h4 v hv)
theorem rising2_1 : risingI (sortI (rowsI [0, 1] 1)) = true := by decide +kernel
theorem asked2_1 : askedI [0, 1] 1 1 (sortI (rowsI [0, 1] 1)).flatten = true := by decide +kernel
theorem rising2_2 : risingI (sortI (rowsI [0, 1] 2)) = true := by decide +kernel
theorem asked2_2 : askedI [0, 1] 2 1 (sortI (rowsI [0, 1] 2)).flatten = true := by decide +kernel
theorem rising2_3 : risingI (sortI (rowsI [0, 1] 3)) = true := by decide +kernel
theorem asked2_3 : askedI [0, 1] 3 1 (sortI (rowsI [0, 1] 3)).flatten = true := by decide +kernel
theorem rising3_1 : risingI (sortI (rowsI [0, 1, 2] 1)) = true := by decide +kernel
theorem asked3_1 : askedI [0, 1, 2] 1 2 (sortI (rowsI [0, 1, 2] 1)).flatten = true := by decide +kernel
theorem rising3_2 : risingI (sortI (rowsI [0, 1, 2] 2)) = true := by decide +kernel
theorem asked3_2 : askedI [0, 1, 2] 2 2 (sortI (rowsI [0, 1, 2] 2)).flatten = true := by decide +kernel
def risF (a b c : Int) (i : Fin 3) : UInt8 := if i = 0 then byteOf a else if i = 1 then byteOf b else byteOf c
theorem byteOf_lt {a b : Int} (h0 : 0 ≤ a) (h : a < b) (h1 : b < 256) : byteOf a < byteOf b := by
  have e : ∀ k : Int, 0 ≤ k → k < 256 → (byteOf k).toNat = k.toNat := by
    intro k h1 h2
    show k.toNat % 256 = k.toNat
    omega
  show (byteOf a).toNat < (byteOf b).toNat
  rw [e a h0 (by omega), e b (by omega) h1]
  omega
theorem risF_rising {a b c : Int} (h0 : 0 ≤ a) (h1 : a < b) (h2 : b < c) (h3 : c < 256) : Rising (risF a b c) := by
  have e1 := byteOf_lt h0 h1 (by omega)
  have e2 := byteOf_lt (by omega) h2 h3
  have e3 := byteOf_lt h0 (by omega : a < c) h3
  intro i j hij
  match i, j, hij with
  | 0, 1, _ => exact e1
  | 0, 2, _ => exact e3
  | 1, 2, _ => exact e2
  | 0, 0, h => exact absurd h (by decide)
  | 1, 0, h => exact absurd h (by decide)
  | 1, 1, h => exact absurd h (by decide)
  | 2, 0, h => exact absurd h (by decide)
  | 2, 1, h => exact absurd h (by decide)
  | 2, 2, h => exact absurd h (by decide)
section
variable {a b c : Int} (h0 : 0 ≤ a) (h1 : a < b) (h2 : b < c) (h3 : c < 256) {bs : List (List UInt8)}
include h0 h1 h2 h3
theorem asked_2 {n : Nat} (hn : n = 1 ∨ n = 2 ∨ n = 3) (hp : bs.Perm (rowsB [a, b] n)) (hs : bs.Pairwise LeN) : Asked [a, b] n bs := by
  rcases hn with rfl | rfl | rfl
  · exact asked_of (risF_rising h0 h1 h2 h3) (l := [0, 1]) (last := 1) rfl rfl rising2_1 asked2_1 hp hs
  · exact asked_of (risF_rising h0 h1 h2 h3) (l := [0, 1]) (last := 1) rfl rfl rising2_2 asked2_2 hp hs
  · exact asked_of (risF_rising h0 h1 h2 h3) (l := [0, 1]) (last := 1) rfl rfl rising2_3 asked2_3 hp hs
theorem asked_3 {n : Nat} (hn : n = 1 ∨ n = 2) (hp : bs.Perm (rowsB [a, b, c] n)) (hs : bs.Pairwise LeN) : Asked [a, b, c] n bs := by
  rcases hn with rfl | rfl
  · exact asked_of (risF_rising h0 h1 h2 h3) (l := [0, 1, 2]) (last := 2) rfl rfl rising3_1 asked3_1 hp hs
  · exact asked_of (risF_rising h0 h1 h2 h3) (l := [0, 1, 2]) (last := 2) rfl rfl rising3_2 asked3_2 hp hs
end
end Mine
end
section
open PySem PySem.W PyProof.Rows
namespace Mine
/-- the facts of letters and length that the law's walk needs -/
structure Formed (ns : List Int) (n : Nat) : Prop where
  n1 : 1 ≤ n
  n3 : n ≤ 3
  l1 : 1 ≤ ns.length
  l3 : ns.length ≤ 3
  low : ∀ k ∈ ns, 97 ≤ k ∧ k ≤ 122
  ask : ∀ bs, List.Perm bs (rowsB ns n) → bs.Pairwise LeN → Asked ns n bs
theorem forms {v0 v1 v2 v3 : Int} (p0 : 0 ≤ v0) (q0 : v0 < 5) (p1 : 0 ≤ v1) (q1 : v1 < 10) (p2 : 0 ≤ v2) (q2 : v2 < 5) (p3 : 0 ≤ v3) (q3 : v3 < 5) :
    ∃ (ns : List Int) (n : Nat), List.take (2 + v0.fdiv 3).toNat [97 + v1, 97 + v1 + 1 + v2, 97 + v1 + 1 + v2 + 1 + v3] = ns ∧ ([2, 3, 1, 1, 2] : List Int).getD v0.toNat 0 = (n : Int) ∧ Formed ns n := by
  have h2 : ∀ n, n = 1 ∨ n = 2 ∨ n = 3 → Formed [97 + v1, 97 + v1 + 1 + v2] n := by
    intro n hn
    refine ⟨by omega, by omega, by simp, by simp, ?_, fun bs hp hs => asked_2 (c := 97 + v1 + 1 + v2 + 1 + v3) (by omega) (by omega) (by omega) (by omega) hn hp hs⟩
    intro k hk
    simp only [List.mem_cons, List.not_mem_nil, or_false] at hk
    omega
  have h3 : ∀ n, n = 1 ∨ n = 2 → Formed [97 + v1, 97 + v1 + 1 + v2, 97 + v1 + 1 + v2 + 1 + v3] n := by
    intro n hn
    refine ⟨by omega, by omega, by simp, by simp, ?_, fun bs hp hs => asked_3 (by omega) (by omega) (by omega) (by omega) hn hp hs⟩
    intro k hk
    simp only [List.mem_cons, List.not_mem_nil, or_false] at hk
    omega
  have e : v0 = 0 ∨ v0 = 1 ∨ v0 = 2 ∨ v0 = 3 ∨ v0 = 4 := by omega
  rcases e with rfl | rfl | rfl | rfl | rfl
  · exact ⟨_, 2, rfl, rfl, h2 2 (by simp)⟩
  · exact ⟨_, 3, rfl, rfl, h2 3 (by simp)⟩
  · exact ⟨_, 1, rfl, rfl, h2 1 (by simp)⟩
  · exact ⟨_, 1, rfl, rfl, h3 1 (by simp)⟩
  · exact ⟨_, 2, rfl, rfl, h3 2 (by simp)⟩
def rowsTo (ns : List Int) (n i : Nat) : List (List UInt8) := (List.range i).flatMap fun i => if n % (i + 1) = 0 then (wordsL ns (i + 1)).filter fun b => least1 b (i + 1) else []
theorem rowsTo_all (ns : List Int) (n : Nat) : rowsTo ns n n = rowsB ns n := rfl
theorem rowsTo_yes {ns : List Int} {n i : Nat} (h : n % (i + 1) = 0) : rowsTo ns n (i + 1) = rowsTo ns n i ++ (wordsL ns (i + 1)).filter fun b => least1 b (i + 1) := by
  unfold rowsTo
  rw [List.range_succ, List.flatMap_append, List.flatMap_cons, List.flatMap_nil, List.append_nil, if_pos h]
theorem rowsTo_no {ns : List Int} {n i : Nat} (h : n % (i + 1) ≠ 0) : rowsTo ns n (i + 1) = rowsTo ns n i := by
  unfold rowsTo
  rw [List.range_succ, List.flatMap_append, List.flatMap_cons, List.flatMap_nil, List.append_nil, if_neg h, List.append_nil]
theorem wordsL_len (ns : List Int) : ∀ i, (wordsL ns i).length = ns.length ^ i
  | 0 => rfl
  | i + 1 => by
    have ih := wordsL_len ns i
    have h : ∀ l : List (List UInt8), (l.flatMap fun w => ns.map fun c => w ++ [byteOf c]).length = l.length * ns.length := by
      intro l
      induction l with
      | nil => simp
      | cons a r ih => rw [List.flatMap_cons, List.length_append, ih, List.length_map, List.length_cons, Nat.succ_mul]; omega
    rw [wordsL, h, ih, Nat.pow_succ]
theorem rowsTo_step {ns : List Int} (h : ns.length ≤ 3) (n i : Nat) : (rowsTo ns n (i + 1)).length ≤ (rowsTo ns n i).length + 3 ^ (i + 1) := by
  by_cases q : n % (i + 1) = 0
  · rw [rowsTo_yes q, List.length_append]
    have h1 := List.length_filter_le (fun b => least1 b (i + 1)) (wordsL ns (i + 1))
    have h2 := wordsL_len ns (i + 1)
    have h3 : ns.length ^ (i + 1) ≤ 3 ^ (i + 1) := Nat.pow_le_pow_left h _
    omega
  · rw [rowsTo_no q]; exact Nat.le_add_right _ _
theorem rowsTo_small {ns : List Int} (h : ns.length ≤ 3) (n : Nat) {i : Nat} (hi : i ≤ 3) : (rowsTo ns n i).length ≤ 39 := by
  have h0 : (rowsTo ns n 0).length = 0 := rfl
  have h1 : (rowsTo ns n 1).length ≤ (rowsTo ns n 0).length + 3 := rowsTo_step h n 0
  have h2 : (rowsTo ns n 2).length ≤ (rowsTo ns n 1).length + 9 := rowsTo_step h n 1
  have h3 : (rowsTo ns n 3).length ≤ (rowsTo ns n 2).length + 27 := rowsTo_step h n 2
  have e : i = 0 ∨ i = 1 ∨ i = 2 ∨ i = 3 := by omega
  rcases e with rfl | rfl | rfl | rfl <;> omega
end Mine
end
section
open PySem PySem.W PyProof.Rows
namespace Mine
open PySem.Calls PySem.Builtin
theorem slot_bytes_lt : Slot "bytes" "__lt__" "bytes.__lt__" :=
  .of (owner := "bytes") (n := "__lt__") (by rw [typeLookup_type, builtinLookup_eq_fast]; kernel_rfl) (by decide +kernel) (by decide +kernel) (by decide +kernel)
    (by first | exact .inl (by decide +kernel) | exact .inr (by decide +kernel)) (by rw [isSubtype_type]; kernel_rfl)
theorem entry_bytes_lt : entryFor table "bytes.__lt__" = some Builtin.«bytes.__lt__» := entryFor_of_tree (by kernel_rfl)
theorem args_bytes_lt (a b : Value) : argsOk "bytes.__lt__" ⟨[a, b], []⟩ := by
  unfold argsOk; rw [signature?_of (id := "bytes.__lt__") (n := ['_', '_', 't', 'l', '_', '_']) (o := ['s', 'e', 't', 'y', 'b']) (by kernel_rfl) FB.owner_bytes]; kernel_rfl
theorem gives_bytes_lt (b c : Array UInt8) (t u : Tok) : Gives («bytes.__lt__» ⟨[.bytes b t, .bytes c u], []⟩) (.val (.bool (Bytes.order b.toList c.toList == .lt))) := by
  refine .of_wp fun M A E s Q hq => ?_
  show wpAny M A (isInstance (.bytes c u) (.type "bytes") >>= fun r => _) _ E s
  refine wpAny_bind (wpAny_isInstance (typeIs_bytes s c u) F.sub_bytes_bytes ?_)
  exact wpAny_pure ⟨_, rfl, hq⟩

@[reducible] def bytesKind : KeyKind where
  α := List Nat
  blt a b := decide (a < b)
  irrefl a := by simpa using List.lt_irrefl a
  trans a b c h1 h2 := by simp only [decide_eq_true_eq] at *; exact List.lt_trans h1 h2
  negTrans a b c h := by
    simp only [decide_eq_true_eq] at *
    by_cases hab : a < b
    · exact .inl hab
    · exact .inr (List.lt_of_le_of_lt (List.not_lt.mp hab) h)
  total a b h1 h2 := by simp only [decide_eq_false_iff_not] at *; exact List.le_antisymm (List.not_lt.mp h2) (List.not_lt.mp h1)
  keyOf v := match v with | .bytes x _ => some (natsOf x.toList) | _ => none
  dflt := []

section
variable {prog : Program} {w : World} {A : Around} {E : Value → Shared → Prop} {s : Shared}
theorem oneLt_bytes {a b : Array UInt8} {t u : Tok} {Q : Bool → Shared → Prop} (h : Q (decide (natsOf a.toList < natsOf b.toList)) s) : wpAny (model prog w) A (oneLt' true (.bytes a t) (.bytes b u)) Q E s := by
  rw [oneLt'_eq]
  simp only [if_true]
  refine wpAny_bind (wpAny_cRoomFor_byValue rfl ?_)
  have e : (Bytes.order a.toList b.toList == .lt) = decide (natsOf a.toList < natsOf b.toList) := by
    rw [Bool.eq_iff_iff, beq_iff_eq, decide_eq_true_iff]
    exact order_lt _ _
  refine wpAny_bind (wpAny_callSpecialIfBound?_slot (typeIs_bytes s a t) slot_bytes_lt (call_gives slot_bytes_lt (typeIs_bytes _ _ _) entry_bytes_lt (args_bytes_lt _ _) (gives_bytes_lt a b t u) ?_))
  rw [e]
  exact wpAny_truthy_bool h
end
theorem bytesKind_oneLt : bytesKind.OneLt := by
  intro prog w A E s x y a b Q ha hb h
  cases x <;> simp only [bytesKind, reduceCtorEq, Option.some.injEq] at ha
  cases y <;> simp only [bytesKind, reduceCtorEq, Option.some.injEq] at hb
  cases ha; cases hb
  exact oneLt_bytes h

def bytesOfV : Value → List UInt8
  | .bytes x _ => x.toList
  | _ => []
def AllB (vs : List Value) : Prop := ∀ v ∈ vs, ∃ b t, v = .bytes b t
theorem keysOfB {vs : List Value} (hS : AllB vs) : KeysOf bytesKind (pairsOf vs) := by
  intro p hp
  rw [pairsOf_toList] at hp
  obtain ⟨x, t, e⟩ := hS _ (mem_zip_self hp).2
  exact ⟨natsOf x.toList, by rw [e]⟩
theorem KK_bytes {xs : Array Keyed} {i : Nat} (hi : i < xs.size) {x : Array UInt8} {t : Tok} {q : Value} (hx : xs[i] = (.bytes x t, q)) : KK bytesKind xs i = natsOf x.toList := by
  unfold KK; rw [getElem?_pos xs i hi, hx]; rfl
theorem first_bytes (x : Array UInt8) (t : Tok) : firstOfTuple' (.bytes x t) = pure none := rfl
theorem mapM_firstB : ∀ {vs : List Value}, AllB vs → vs.mapM firstOfTuple' = pure (vs.map fun _ => none)
  | [], _ => by simp
  | v :: vs, h => by
    obtain ⟨x, t, rfl⟩ := h v (.head _)
    rw [List.mapM_cons, first_bytes, mapM_firstB fun u hu => h u (.tail _ hu)]; simp
theorem mapM_typeOfB : ∀ {vs : List Value}, AllB vs → vs.mapM typeOf = pure (vs.map fun _ => Value.type "bytes")
  | [], _ => by simp
  | v :: vs, h => by
    obtain ⟨x, t, rfl⟩ := h v (.head _)
    rw [List.mapM_cons, mapM_typeOfB fun u hu => h u (.tail _ hu)]
    show (pure (Value.type "bytes") >>= fun b => pure _ >>= fun bs => pure (b :: bs)) = _
    simp
theorem keyKindB {v₁ v₂ : Value} {vs : List Value} (hS : AllB (v₁ :: v₂ :: vs)) : keyKind' (v₁ :: v₂ :: vs).toArray = pure oneType' := by
  rw [keyKind'_eq, List.mapM_toArray, mapM_firstB hS]
  simp only [map_pure, pure_bind]
  rw [if_neg (by simp), if_neg (by simp)]
  rw [oneTypeOnly'_eq, List.mapM_toArray, mapM_typeOfB hS]
  simp only [map_pure, pure_bind]
  have hall : ((List.map (fun _ => Value.type "bytes") (v₁ :: v₂ :: vs)).toArray.all fun x => x == Value.type "bytes") = true := by
    simp only [List.all_toArray, List.all_map, List.all_eq_true]
    intro _ _
    rfl
  have h0 : (List.map (fun _ => Value.type "bytes") (v₁ :: v₂ :: vs)).toArray[0]? = some (Value.type "bytes") := by simp
  rw [h0]
  simp only [hall, if_true, pure_bind, Option.isSome_some]
theorem sorted_outB {vs : List Value} (hS : AllB vs) {xs : Array Keyed} (hp : xs.Perm (pairsOf vs)) (hs : SortedToK bytesKind xs (pairsOf vs).size) :
    AllB (xs.map (·.2)).toList ∧ ((xs.map (·.2)).toList.map bytesOfV).Perm (vs.map bytesOfV) ∧ ((xs.map (·.2)).toList.map bytesOfV).Pairwise LeN := by
  have hl : xs.toList.Perm (vs.zip vs) := by rw [← pairsOf_toList]; exact Array.perm_iff_toList_perm.mp hp
  have hmem : ∀ p, p ∈ xs.toList → p.1 = p.2 ∧ p.1 ∈ vs := fun p hp' => mem_zip_self (hl.mem_iff.mp hp')
  have e : (xs.map (·.2)).toList = xs.toList.map (·.1) := by
    rw [Array.toList_map]; exact List.map_congr_left fun p hp' => (hmem p hp').1.symm
  rw [e]
  refine ⟨?_, ?_, ?_⟩
  · intro v hv
    obtain ⟨p, hp', rfl⟩ := List.mem_map.mp hv
    exact hS _ (hmem p hp').2
  · have h1 := (hl.map Prod.fst).map bytesOfV
    rwa [List.map_fst_zip (Nat.le_refl _)] at h1
  · rw [List.map_map, List.pairwise_iff_getElem]
    intro i j hi hj hij
    have hi' : i < xs.size := by simpa using hi
    have hj' : j < xs.size := by simpa using hj
    have h1 := hs i j (Nat.le_of_lt hij) (by rw [← hp.size_eq]; exact hj')
    obtain ⟨x, t, ex⟩ := hS _ (hmem xs[i] (by simp)).2
    obtain ⟨y, u, ey⟩ := hS _ (hmem xs[j] (by simp)).2
    rw [KK_bytes hi' (x := x) (t := t) (q := xs[i].2) (Prod.ext ex rfl), KK_bytes hj' (x := y) (t := u) (q := xs[j].2) (Prod.ext ey rfl)] at h1
    change decide (natsOf y.toList < natsOf x.toList) = false at h1
    simp only [List.getElem_map, Array.getElem_toList, Function.comp]
    rw [show bytesOfV xs[i].1 = x.toList by rw [ex]; rfl, show bytesOfV xs[j].1 = y.toList by rw [ey]; rfl]
    exact of_decide_eq_false h1
section
variable {prog : Program} {w : World} {A : Around} {E : Value → Shared → Prop} {s : Shared}
theorem sorted_B {h₀ : Heap} {L : Addr} {m : Str → Option Value} {news : List (Addr × Obj)} {l : Addr} {vs : List Value} {Q : Value → Shared → Prop}
    (F : Fr h₀ L s.heap m) (N : News h₀ L s.heap news) (hl : s.heap.IsList l vs.toArray) (hS : AllB vs) (h64 : vs.length < 64)
    (h : ∀ (D : Addr) (h' : Heap) (vs' : List Value) (e : Nat), Fr h₀ L h' m → News h₀ L h' ((D, seqObj "list" vs'.toArray e) :: news) → (∀ q ∈ news, q.1 < D) →
      AllB vs' → (vs'.map bytesOfV).Perm (vs.map bytesOfV) → (vs'.map bytesOfV).Pairwise LeN → Q (.ref D) { s with heap := h' }) :
    wpAny (model prog w) A (call (.builtin "sorted") [.ref l]) Q E s := by
  refine sortedK bytesKind_oneLt hl (keysOfB hS) (fun v₁ v₂ rest e => keyKindB (by rw [← e]; exact hS)) h64 fun st' hp hs => ?_
  obtain ⟨h1, h2, h3⟩ := sorted_outB hS hp hs
  obtain ⟨e, he⟩ := sortedAll_at s.heap vs ((arrOf st').map (·.2))
  exact h _ _ ((arrOf st').map (·.2)).toList e (F.kept fun _ _ => sortedAll_old) (N.kept_cons F (fun _ _ => sortedAll_old) (Nat.le_succ _) he) (fun p hp => Nat.lt_succ_of_lt (Heap.lt_size (N p hp).1)) h1 h2 h3
end
end Mine
end
section
open PySem PySem.W PyProof.Rows
namespace Mine
open PySem.Calls PySem.Builtin
theorem slot_bytes_join : Slot "bytes" "join" "bytes.join" :=
  .of (owner := "bytes") (n := "join") (by rw [typeLookup_type, builtinLookup_eq_fast]; kernel_rfl) (by decide +kernel) (by decide +kernel) (by decide +kernel)
    (by first | exact .inl (by decide +kernel) | exact .inr (by decide +kernel)) (by rw [isSubtype_type]; kernel_rfl)
theorem type_bytes_join : typeOf (.builtin "bytes.join") = pure (.type "method_descriptor") := by show builtinType _ = _; rw [builtinType_eq_fast]; kernel_rfl
theorem entry_bytes_join : entryFor table "bytes.join" = some Builtin.«bytes.join» := entryFor_of_tree (by kernel_rfl)
theorem args_bytes_join (a b : Value) : argsOk "bytes.join" ⟨[a, b], []⟩ := by
  unfold argsOk; rw [signature?_of (id := "bytes.join") (n := ['n', 'i', 'o', 'j']) (o := ['s', 'e', 't', 'y', 'b']) (by kernel_rfl) FB.owner_bytes]; kernel_rfl
theorem take_eq {id : String} {b : Array UInt8} {t : Tok} : Bytes.takeBuffer? id (.bytes b t) 0 = pure (some (b, none)) := by
  unfold Bytes.takeBuffer?
  rw [KBy.special_eq KBy.look_buffer, KBy.own_buffer]
  have e : Bytes.buffer? id (.bytes b t) ((0 : Int) == Bytes.fullReadOnly) = pure (some b) := KBy.buffer_eq
  simp only [pure_bind, e]
  rfl
theorem takeQ_eq {id : String} {b : Array UInt8} {t : Tok} : Bytes.takeBufferQuiet? id (.bytes b t) 0 = pure (some (b, none)) := by
  unfold Bytes.takeBufferQuiet?
  rw [take_eq]
  rfl
theorem m1_one {C : Type} (x : Value) (f : Value → C) (g : Array Value → C) : Bytes.joinM.match_1 (fun _ => C) [x].toArray f g = f x := by
  rfl
theorem m1_none {C : Type} (f : Value → C) (g : Array Value → C) : Bytes.joinM.match_1 (fun _ => C) [].toArray f g = g [].toArray := by
  rfl
theorem m1_many {C : Type} (x y : Value) (r : List Value) (f : Value → C) (g : Array Value → C) : Bytes.joinM.match_1 (fun _ => C) (x :: y :: r).toArray f g = g (x :: y :: r).toArray := by
  rfl
theorem joined_flat (ps : List (Array UInt8)) : Bytes.joined #[] ps = (ps.map Array.toList).flatten.toArray := by
  unfold Bytes.joined
  have h : ∀ (l : List (Array UInt8)) (k : Nat) (a : Array UInt8), (l.zipIdx k).foldl (fun out x => (if x.2 > 0 then out ++ #[] else out) ++ x.1) a = a ++ (l.map Array.toList).flatten.toArray := by
    intro l
    induction l with
    | nil => intro k a; simp
    | cons x l ih =>
      intro k a
      rw [List.zipIdx_cons, List.foldl_cons, ih]
      apply Array.ext'
      simp
  have := h ps 0 #[]
  simpa using this
section
variable {prog : Program} {w : World} {A : Around} {E : Value → Shared → Prop} {s : Shared}
theorem wp_joinLetGo {M : Model} {Q : Unit → Shared → Prop} {keep : List Value} : ∀ (taken : List (Value × Option Value)), (∀ p ∈ taken, p.2 = none) → Q () s → wpAny M A (Bytes.joinLetGo taken keep) Q E s
  | [], _, h => by unfold Bytes.joinLetGo; exact wpAny_pure h
  | (x, w) :: rest, hn, h => by
    have e : w = none := hn _ (.head _)
    subst e
    unfold Bytes.joinLetGo
    exact wpAny_bind (wpAny_letGo (wp_joinLetGo rest (fun p hp => hn p (.tail _ hp)) h))
def JoinInv (vs : List Value) (s : Shared) (rest : List Nat) (b : Array (Array UInt8) × List (Value × Option Value)) (s' : Shared) : Prop :=
  s' = s ∧ ∃ i, i ≤ vs.length ∧ rest = List.range' i (vs.length - i) ∧ b.1.toList.map Array.toList = (vs.take i).map bytesOfV ∧ (∀ p ∈ b.2, p.2 = none ∧ p.1.onHeap = false)
theorem join_K {D : Addr} {vs : List Value} {t : Tok} {Q : Value → Shared → Prop} (hl : s.heap.IsList D vs.toArray) (hS : AllB vs) (hz : (vs.map bytesOfV).flatten.length ≤ 1000)
    (h : ∀ t' tk, Q (.bytes (vs.map bytesOfV).flatten.toArray t') { s with toks := tk }) :
    wpAny (model prog w) A (call (.builtin "bytes.join") [.bytes #[] t, .ref D]) Q E s := by
  refine wpAny_call_entry slot_bytes_join (typeIs_bytes _ _ _) entry_bytes_join ?_ (args_bytes_join _ _)
  obtain ⟨o, ho, hc, n, hd⟩ := hl
  show wpAny _ _ (Bytes.joinM .bytes _) _ E s
  unfold Bytes.joinM
  refine wpAny_bind ?_
  refine wpAny_of_eq (a := (Value.bytes #[] t, Value.ref D)) (by rfl) ?_
  dsimp only
  rw [if_pos (by rfl)]
  refine wpAny_bind (wpAny_bind (wpAny_typeOf ⟨o, ho, hc⟩ ?_))
  rw [if_pos (by rfl)]
  refine wpAny_pure ?_
  refine wpAny_bind (wpAny_seqItems ho hd ?_)
  dsimp only
  rw [if_pos (by rfl)]
  rcases hvs : vs with _ | ⟨x, _ | ⟨y, r⟩⟩
  case cons.nil =>
    subst hvs
    rw [m1_one]
    obtain ⟨b, tb, rfl⟩ := hS x (.head _)
    refine wpAny_bind (wpAny_typeOf (typeIs_bytes _ _ _) ?_)
    rw [if_pos (by rfl)]
    refine wpAny_bind (wpAny_rule ?_)
    refine wpAny_pure ⟨_, rfl, ?_⟩
    have := h tb s.toks
    simpa [bytesOfV] using this
  all_goals
    first | rw [m1_none] | rw [m1_many]
    rw [← hvs]
    clear hvs
    rw [Std.Legacy.Range.forIn_eq_forIn_range']
    refine wpAny_bind ?_
    refine PySem.wpAny_forIn_list _ (JoinInv vs s) _ ?_ ?_ _ _ ?_
    rotate_left 2
    · exact ⟨rfl, 0, Nat.zero_le _, by simp [Std.Legacy.Range.size], rfl, fun p hp => nomatch hp⟩
    · rintro i rest ⟨parts, taken⟩ s' ⟨rfl, j, hj, hr, hp, ht⟩
      have hjl : j < vs.length := by
        rcases Nat.lt_or_ge j vs.length with q | q
        · exact q
        · rw [show vs.length - j = 0 by omega] at hr; exact absurd hr (by simp)
      have hr2 : i = j ∧ rest = List.range' (j + 1) (vs.length - (j + 1)) := by
        rw [show vs.length - j = (vs.length - (j + 1)) + 1 by omega, List.range'_succ] at hr
        exact List.cons.inj hr
      obtain ⟨rfl, rfl⟩ := hr2
      obtain ⟨b, tb, hb⟩ := hS vs[i] (List.getElem_mem hjl)
      refine wpAny_bind (wpAny_seqItems ho hd ?_)
      dsimp only
      have hany : (taken.any fun x => x.1.onHeap) = false := by
        rw [List.any_eq_false]
        intro p hp'
        rw [(ht p hp').2]; simp
      rw [hany]
      rw [if_neg (by decide)]
      have hg : vs.toArray.getD i Value.none = .bytes b tb := by
        rw [← hb]; simp [Array.getD, hjl]
      rw [hg]
      refine wpAny_bind (wpAny_holding (wpAny_of_eq takeQ_eq ?_))
      dsimp only
      refine wpAny_bind (wpAny_seqItems ho hd ?_)
      dsimp only
      rw [if_neg (by simp)]
      refine wpAny_pure ⟨rfl, i + 1, hjl, rfl, ?_, ?_⟩
      · rw [List.take_succ_eq_append_getElem hjl, hb]
        simp [hp, bytesOfV]
      · intro p hp'
        rcases List.mem_append.mp hp' with hp' | hp'
        · exact ht p hp'
        · rw [List.mem_singleton.mp hp']; exact ⟨rfl, rfl⟩
    · rintro ⟨parts, taken⟩ s' ⟨rfl, j, hj, hr, hp, ht⟩
      have hjl : j = vs.length := by
        have := congrArg List.length hr
        simp at this
        omega
      subst hjl
      rw [List.take_length] at hp
      dsimp only
      refine wpAny_bind (wpAny_of_eq (a := (#[] : Array UInt8)) rfl ?_)
      have hf : (parts.toList.map Array.toList).flatten.length = (parts.toList.map Array.size).sum := by
        rw [List.length_flatten, List.map_map]; rfl
      have hfold : Array.foldl (fun (a : Nat) (x : Array UInt8) => a + x.size) ((#[] : Array UInt8).size * (parts.size - 1)) parts = (parts.toList.map Array.size).sum := by
        rw [← Array.foldl_toList]
        have : ∀ (l : List (Array UInt8)) (k : Nat), l.foldl (fun a x => a + x.size) k = k + (l.map Array.size).sum := by
          intro l
          induction l with
          | nil => intro k; simp
          | cons x l ih => intro k; rw [List.foldl_cons, ih, List.map_cons, List.sum_cons]; omega
        rw [this]; simp
      rw [hfold, ← hf, hp, KBy.tooLong_not (by omega), if_neg (by simp)]
      refine wpAny_bind (wpAny_mkBytes ?_ (hb := by rw [joined_flat, hp, List.size_toArray, sizeLine_eq]; omega))
      refine wpAny_bind (wpAny_holding (wpAny_point ?_))
      refine wpAny_bind (wp_joinLetGo _ (fun p hp' => (ht p hp').1) ?_)
      refine wpAny_pure ⟨_, rfl, ?_⟩
      rw [joined_flat, hp]
      exact h _ _
end
theorem join_method {M : Model} {A : Around} {E : Value → Shared → Prop} {s : Shared} {b : Array UInt8} {t : Tok} {pl : Sem Bool} {Q : Value × List Value → Shared → Prop} (h : Q (.builtin "bytes.join", [.bytes b t]) s) : wpAny M A (getMethod (.bytes b t) "join" pl) Q E s := by
  with_reducible exact KBd.method_of (.bytes b t) (typeIs_bytes _ _ _) slot_bytes_join type_bytes_join KBd.noRef h
end Mine
end
section
open PySem PySem.W PyProof.Rows
namespace Mine
open PySem.Calls
theorem noLong {a b : Array Value} (h : a.size + b.size ≤ 1000) : ¬(!a.isEmpty && Builtin.List.listTooLong (a.size + b.size)) = true := by
  have : Builtin.List.listTooLong (a.size + b.size) = false := by
    unfold Builtin.List.listTooLong
    simp only [decide_eq_false_iff_not, sizeLine_eq]
    omega
  rw [this, Bool.and_false]
  exact Bool.false_ne_true
section
variable {prog : Program} {w : World} {A : Around} {E : Value → Shared → Prop} {s : Shared} {h₀ : Heap} {L R b : Addr} {m : Str → Option Value} {post : List (Addr × Obj)} {its its2 : List Value} {n n2 : Nat}
theorem extend_B {Q : Value → Shared → Prop} (F : Fr h₀ L s.heap m) (N : News h₀ L s.heap ((R, W.listOf its.toArray n) :: post)) (hR : ∀ p ∈ post, p.1 ≠ R) (hb : (b, W.listOf its2.toArray n2) ∈ post) (hz : its.length + its2.length ≤ 1000)
    (h : ∀ h' e, Fr h₀ L h' m → News h₀ L h' ((R, W.listOf (its ++ its2).toArray e) :: post) → Q .none { s with heap := h' }) : wpAny (model prog w) A (call (.builtin "list.extend") [.ref R, .ref b]) Q E s := by
  have z1 : its.toArray.toList.length ≤ sizeLine := by simp only [sizeLine_eq]; omega
  have z2 : its.toArray.size + its2.toArray.size ≤ sizeLine + 1 := by simp only [sizeLine_eq, List.size_toArray]; omega
  have z3 := noLong (a := its.toArray) (b := its2.toArray) (by simpa using hz)
  by_cases he : its2 = []
  · subst he
    refine kxn_extend F N (List.Mem.tail _ hb) rfl (.head hR) z3 z1 z2 fun h' F' N' => h h' n F' ?_
    rw [List.append_nil]
    exact N'
  · refine kl_extend F N (List.Mem.tail _ hb) rfl ?_ (.head hR) z3 z1 z2 fun h' F' N' => h h' _ F' N'
    intro q
    exact he (List.length_eq_zero_iff.mp (by simpa using q))
end
end Mine
end
section
open PySem PySem.W PyProof.Rows
namespace Mine
local macro_rules | `(tactic| k_room) => `(tactic| ktr_room)
theorem from_ok {w : World} {p : Program} {loose : List Str} {mean : ExcName → Option Value} {mg mb : Str → Option Value}
  (b D : Addr) (o : Obj) (items : List Value) (nl : Nat) (ns : List Int) (pl : Int) (many : Int) (t1 u : Tok) (rest : List (Addr × Obj))
  (dp un : Nat) (gd : Option (List Code)) (cn : Str) (cs : Scope) (a : Addr) (ccd : Value) (cl : List (Str × Addr)) (outer : List Env) (A₀ : Around) (base h₀ : Heap) (L : Addr) (m : Str → Option Value) (s : Shared) (Q E : Value → Shared → Prop)
  (B : Below A₀ base outer h₀) (F : Fr h₀ L s.heap m) (X : (Mine.K w.params).In h₀) (N : News h₀ L s.heap ([(b, o), (D, W.listOf items.toArray nl)] ++ rest)) (hdis : ∀ q ∈ rest, ∀ k ∈ [(b, o), (D, W.listOf items.toArray nl)], q.1 ≠ k.1) (hbD : b ≠ D)
  (T : Top p loose mean mg mb h₀) (hk : cs.kind = .function)
  (hd : dp + 20 < recursionLimit) (hu : un + 200 < cLine)
  (ho : Obj.IsDictOf (PySem.strKind PySem.Challenge.rw_xm0622_01.row.prog w) o [(Str.ofString "full", .ref D), (Str.ofString "eaten", .int pl u)])
  (hI : IntsAre items ns) (hlen : ns.length ≤ 100) (hp0 : 0 ≤ pl) (hp : pl ≤ 100) (hm : 1 ≤ many ∧ many ≤ 100)
  (hret : ∀ v t h' tk' o' u', 0 ≤ v → v < many → Fr h₀ L h' m → News h₀ L h' ([(b, o'), (D, W.listOf items.toArray nl)] ++ rest) →
     Obj.IsDictOf (PySem.strKind PySem.Challenge.rw_xm0622_01.row.prog w) o' [(Str.ofString "full", .ref D), (Str.ofString "eaten", .int (pl + 1) u')] → Q (.int v t) { s with heap := h', toks := tk' }) :
  wpAny (model PySem.Challenge.rw_xm0622_01.row.prog w) (ktrTop dp un gd cn cs L a ccd cl outer) (call (.ref 278) [.ref b, .int many t1]) Q E s := by
  revert X
  k_fill
  intro X
  refine wpAny_call ?_
  k_dflt (refine' enterR (keep := [(b, o), (D, W.listOf items.toArray nl)]) (rest := rest) B F X N hdis T ?kA ?kF ?kK ?k6 ?k7 ?k8 ?k9 ?kB ?_ ?c2 ?c3 ?c4 ?c5; (case kA => exact rfl); (case kF => exact rfl); (case kK => exact hk); (case k6 => k_is); (case k7 => k_is); (case k8 => k_room); (case k9 => exact BindsTo.of_eq rfl); (case kB => exact locs rfl); (case c2 => exact rfl); (case c3 => exact rfl); (case c4 => exact rfl); (case c5 => decide))
  intro g L' h₁ F' N' B' X' T' hg0 hg1 l1
  k_lt l1
  have hbD' := neN hbD
  (try dsimp only)
  (try k_fold)
  k_steps
  all_goals
    (rename Fr g _ _ _ => F8)
    (rename News g _ _ _ => N8)
    (rename Obj.IsDictOf _ _ _ => d8)
    refine LeaveR.of F8 N8 ?_
    intro kF kN kD
    exact hret _ _ _ _ _ _ (Int.fmod_nonneg_of_pos _ (by omega)) (Int.fmod_lt_of_pos _ (by omega)) kF kN d8
end Mine
end
section
open PySem PySem.W PyProof.Rows
namespace Mine
local macro_rules | `(tactic| k_room) => `(tactic| ktr_room)
local macro_rules | `(tactic| walk_at "exec While") => `(tactic| (refine halt ?_))
local macro_rules | `(tactic| walk_at "exec While Compare") => `(tactic| (refine halt ?_))
local macro_rules | `(tactic| walk_at "exec While Compare cons nil") => `(tactic| (refine halt ?_))
local macro_rules | `(tactic| walk_at "ite") => `(tactic| (first | (refine ieq_no (by omega) ?_) | (refine ieq_yes (by omega) ?_) | (refine ine_yes (by omega) ?_) | (refine ine_no (by omega) ?_) | (refine dec_yes (by omega) ?_) | (refine dec_no (by omega) ?_)))
local macro_rules | `(tactic| walk_at "subscriptTail") => `(tactic| (k_here; (with_reducible show wpAny _ _ (subscriptTail _ _ (Value.bytes _ _) (Value.int _ _)) _ _ _); (refine item_any (by omega) (by omega) (by omega) ?_); intro vT hT))
local macro_rules | `(tactic| walk_at "subscriptTail") => `(tactic| (k_here; (with_reducible show wpAny _ _ (subscriptTail _ _ (Value.bytes _ _) (Value.int _ _)) _ _ _); (refine item_letter (by assumption) (by omega) (by omega) (by omega) ?_); intro vP hP hP1 hP2))
local macro_rules | `(tactic| k_mem) => `(tactic| first | with_reducible assumption | assumption | (refine' List.mem_cons_of_mem _ ?_; k_mem))

theorem mh_ok {w : World} {p : Program} {loose : List Str} {mean : ExcName → Option Value} {mg mb : Str → Option Value}
  (text pat : Array UInt8) (tt tp t1 t2 : Tok) (s0 : Nat) (x dx : Addr) (H : Nat → Int) (κ : Nat → Tok) (v2 v4 v5 v6 v7 : Value)
  (dp un : Nat) (gd : Option (List Code)) (cn : Str) (cs : Scope) (a : Addr) (ccd : Value) (cl : List (Str × Addr)) (outer : List Env) (A₀ : Around) (base h₀ : Heap) (L : Addr) (m : Str → Option Value) (s : Shared) (Q E : Value → Shared → Prop) (news : List (Addr × Obj))
  (B : Below A₀ base outer h₀) (F : Fr h₀ L s.heap m) (X : (Mine.K w.params).In h₀) (N : News h₀ L s.heap news) (T : Top p loose mean mg mb h₀) (hk : cs.kind = .function)
  (hx : (x, instObj 267 dx) ∈ news)
  (hdx : (dx, dictOf [⟨H 0, .str "text" (κ 0), .bytes text tt⟩, ⟨H 1, .str "pattern" (κ 1), .bytes pat tp⟩, ⟨H 2, .str "most_depth" (κ 2), v2⟩, ⟨H 3, .str "tick" (κ 3), .none⟩, ⟨H 4, .str "depth" (κ 4), v4⟩, ⟨H 5, .str "level" (κ 5), v5⟩, ⟨H 6, .str "starts" (κ 6), v6⟩, ⟨H 7, .str "lengths" (κ 7), v7⟩] 8) ∈ news)
  (hd : dp + 10 < recursionLimit) (hu : un + 100 < cLine)
  (hs : s0 ≤ text.size) (ht : text.size ≤ 100) (hp : pat.size ≤ 10) (hc : ∀ c ∈ pat.toList, 97 ≤ c.toNat ∧ c.toNat ≤ 122)
  (hret : ∀ v h' tk', Fr h₀ L h' m → News h₀ L h' news → ((Occ text.toList pat.toList s0 ∧ ∃ t, v = .int (s0 + pat.toList.length : Nat) t) ∨ (¬ Occ text.toList pat.toList s0 ∧ v = .none)) → Q v { s with heap := h', toks := tk' }) :
  wpAny (model PySem.Challenge.rw_xm0622_01.row.prog w) (ktrTop dp un gd cn cs L a ccd cl outer) (call (.ref 182) [.ref x, .int s0 t1, .int 0 t2]) Q E s := by
  revert X
  k_fill
  intro X
  refine wpAny_call ?_
  k_dflt cell_enter
  k_steps
  unfold Halt
  (rename Fr _ _ _ _ => F')
  (rename News _ _ _ _ => N')
  refine' While_inv2 (fun n m₁ nx => ∃ (k : Nat) (u1 u2 : Tok), nx = news ∧ k ≤ pat.size ∧ n = pat.size - k ∧ m₁ "self" = some (.ref x) ∧ m₁ "s" = some (.int (s0 + k : Nat) u1) ∧ m₁ "p" = some (.int k u2) ∧ (text.toList.drop s0).take k = pat.toList.take k) (n₀ := pat.size) F' N' ?init ?turn
  case init => exact ⟨0, t1, t2, rfl, Nat.zero_le _, rfl, rfl, rfl, rfl, rfl⟩
  rintro n m₁ nx h₁ tk₁ F₁ N₁ ⟨k, u1, u2, rfl, hk1, rfl, e1, e2, e3, hm⟩
  rw [lay3 e1 e2 e3] at F₁
  have hsz : pat.size = pat.toList.length := pat.length_toList.symm
  have hsz2 : text.size = text.toList.length := text.length_toList.symm
  k_steps
  all_goals (try dsimp only)
  all_goals (try dsimp only [WhileStep2])
  · k_steps
    (rename Fr _ _ _ _ => F9)
    (rename News _ _ _ _ => N9)
    refine hret _ _ _ F9 (by first | exact N9 | exact news_tail N9 | exact news_tail (news_tail N9)) (Or.inr ⟨?_, rfl⟩)
    exact occ_short (k := k) (by omega) (by omega)
  · (rename (_ : Int) = _ => hE)
    (rename (_ = ((List.getD (Array.toList text) _ _).toNat : Int)) => hT)
    (rename (_ = ((List.getD (Array.toList pat) _ _).toNat : Int)) => hP)
    (rename Fr _ _ _ _ => F9)
    (rename News _ _ _ _ => N9)
    refine ⟨_, _, _, _, pat.size - (k + 1), rfl, F9, news_tail (news_tail (news_tail N9)), by omega, k + 1, _, _, rfl, by omega, rfl, rfl, congrArg (fun z => some (Value.int z _)) (by omega), congrArg (fun z => some (Value.int z _)) (by omega), ?_⟩
    exact occ_step hm (by omega) (by omega) hP (by omega) hT hE
  · k_steps
    (rename (_ : Int) ≠ _ => hE)
    (rename (_ = ((List.getD (Array.toList text) _ _).toNat : Int)) => hT)
    (rename (_ = ((List.getD (Array.toList pat) _ _).toNat : Int)) => hP)
    (rename Fr _ _ _ _ => F9)
    (rename News _ _ _ _ => N9)
    refine hret _ _ _ F9 (by first | exact N9 | exact news_tail N9 | exact news_tail (news_tail N9)) (Or.inr ⟨?_, rfl⟩)
    exact occ_diff (k := k) (by omega) hP (by omega) hT hE
  · k_steps
    (rename Fr _ _ _ _ => F9)
    (rename News _ _ _ _ => N9)
    refine hret _ _ _ F9 (by first | exact N9 | exact news_tail N9 | exact news_tail (news_tail N9)) (Or.inr ⟨?_, rfl⟩)
    exact occ_short (k := k) (by omega) (by omega)
  · (rename (_ : Int) = _ => hE)
    (rename (_ = ((List.getD (Array.toList text) _ _).toNat : Int)) => hT)
    (rename (_ = ((List.getD (Array.toList pat) _ _).toNat : Int)) => hP)
    (rename Fr _ _ _ _ => F9)
    (rename News _ _ _ _ => N9)
    refine ⟨_, _, _, _, pat.size - (k + 1), rfl, F9, news_tail (news_tail (news_tail N9)), by omega, k + 1, _, _, rfl, by omega, rfl, rfl, congrArg (fun z => some (Value.int z _)) (by omega), congrArg (fun z => some (Value.int z _)) (by omega), ?_⟩
    exact occ_step hm (by omega) (by omega) hP (by omega) hT hE
  · k_steps
    (rename (_ : Int) ≠ _ => hE)
    (rename (_ = ((List.getD (Array.toList text) _ _).toNat : Int)) => hT)
    (rename (_ = ((List.getD (Array.toList pat) _ _).toNat : Int)) => hP)
    (rename Fr _ _ _ _ => F9)
    (rename News _ _ _ _ => N9)
    refine hret _ _ _ F9 (by first | exact N9 | exact news_tail N9 | exact news_tail (news_tail N9)) (Or.inr ⟨?_, rfl⟩)
    exact occ_diff (k := k) (by omega) hP (by omega) hT hE
  · (rename Fr _ _ _ _ => F9)
    (rename News _ _ _ _ => N9)
    have hq := occ_done hm (by omega) (by omega)
    exact hret _ _ _ F9 N9 (Or.inl ⟨hq.2, _, by rw [hq.1]⟩)
end Mine
end
section
open PySem PySem.W PyProof.Rows
namespace Mine
local macro_rules | `(tactic| k_room) => `(tactic| ktr_room)
local macro_rules | `(tactic| walk_at "exec While") => `(tactic| (refine halt ?_))
local macro_rules | `(tactic| walk_at "exec While Compare") => `(tactic| (refine halt ?_))
local macro_rules | `(tactic| walk_at "exec While Compare cons nil") => `(tactic| (refine halt ?_))
local macro_rules | `(tactic| walk_at "ite") => `(tactic| (first | (refine ieq_no (by omega) ?_) | (refine ieq_yes (by omega) ?_) | (refine ine_yes (by omega) ?_) | (refine ine_no (by omega) ?_) | (refine dec_yes (by omega) ?_) | (refine dec_no (by omega) ?_)))
local macro_rules | `(tactic| walk_at "subscriptTail") => `(tactic| (k_here; (with_reducible show wpAny _ _ (subscriptTail _ _ (Value.bytes _ _) (Value.int _ _)) _ _ _); (refine item_any (by omega) (by omega) (by omega) ?_); intro vT hT))
local macro_rules | `(tactic| walk_at "subscriptTail") => `(tactic| (k_here; (with_reducible show wpAny _ _ (subscriptTail _ _ (Value.bytes _ _) (Value.int _ _)) _ _ _); (refine item_letter (by assumption) (by omega) (by omega) (by omega) ?_); intro vP hP hP1 hP2))
local macro_rules | `(tactic| k_mem) => `(tactic| first | with_reducible assumption | assumption | (refine' List.mem_cons_of_mem _ ?_; k_mem))

local macro_rules | `(tactic| walk_at "callWith ref") => `(tactic| (refine halt ?_))

local macro_rules | `(tactic| walk_at "FnAt") => `(tactic| assumption)
local macro_rules | `(tactic| walk_at "And") => `(tactic| ((with_reducible show FnAt _ _ ∧ _); refine ⟨by assumption, ?_⟩))
local macro_rules | `(tactic| walk_at "call ref") => `(tactic| (refine halt ?_))
abbrev tupOf (vs : List Value) : Obj := { cls := .type "tuple", data := .seq vs.toArray }
theorem fm_ok {w : World} {p : Program} {loose : List Str} {mean : ExcName → Option Value} {mg mb : Str → Option Value} {σ : Type}
  (n b0 len : Nat) (t1 t2 : Tok) (f : Addr) (Led : σ → List (Addr × Obj)) (c₀ : σ) (P : Nat → Prop)
  (dp un : Nat) (gd : Option (List Code)) (cn : Str) (cs : Scope) (a : Addr) (ccd : Value) (cl : List (Str × Addr)) (outer : List Env) (A₀ : Around) (base h₀ : Heap) (L : Addr) (m : Str → Option Value) (s : Shared) (Q E : Value → Shared → Prop)
  (B : Below A₀ base outer h₀) (F : Fr h₀ L s.heap m) (X : (Mine.K w.params).In h₀) (N : News h₀ L s.heap (Led c₀)) (T : Top p loose mean mg mb h₀) (C : CodeHd h₀ 284 280) (hk : cs.kind = .function)
  (hd : dp + 18 < recursionLimit) (hu : un + 180 < cLine)
  (Hf : ∀ (c : σ) (i : Nat) (t : Tok) (dp un : Nat) (gd : Option (List Code)) (cn : Str) (cs : Scope) (a : Addr) (ccd : Value) (cl : List (Str × Addr)) (outer : List Env) (A₀ : Around) (base h₀ : Heap) (L : Addr) (m : Str → Option Value) (s : Shared) (Q E : Value → Shared → Prop),
    Below A₀ base outer h₀ → Fr h₀ L s.heap m → (Mine.K w.params).In h₀ → News h₀ L s.heap (Led c) → Top p loose mean mg mb h₀ → CodeHd h₀ 284 280 → cs.kind = .function → dp + 15 < recursionLimit → un + 150 < cLine → i ≤ n →
    (∀ v h' tk' c', Fr h₀ L h' m → News h₀ L h' (Led c') → ((P i ∧ ∃ t, v = .int (i + len : Nat) t) ∨ (¬ P i ∧ v = .none)) → Q v { s with heap := h', toks := tk' }) →
    wpAny (model PySem.Challenge.rw_xm0622_01.row.prog w) (ktrTop dp un gd cn cs L a ccd cl outer) (call (.ref f) [.int i t]) Q E s)
  (hfn : ∀ c h₀ L h, News h₀ L h (Led c) → FnAt f h)
  (hret : ∀ v h' tk' c', Fr h₀ L h' m →
     ((v = .none ∧ News h₀ L h' (Led c') ∧ ∀ i, b0 ≤ i → i ≤ n → ¬ P i) ∨ (∃ i t u D, v = .ref D ∧ News h₀ L h' ((D, tupOf [.int ((i : Nat) : Int) t, .int ((i + len : Nat) : Int) u]) :: Led c') ∧ b0 ≤ i ∧ i ≤ n ∧ P i ∧ ∀ j, b0 ≤ j → j < i → ¬ P j)) →
     Q v { s with heap := h', toks := tk' }) :
  wpAny (model PySem.Challenge.rw_xm0622_01.row.prog w) (ktrTop dp un gd cn cs L a ccd cl outer) (call (.ref 28) [.int n t1, .int b0 t2, .bool false, .ref f]) Q E s := by
  revert X
  k_fill
  intro X
  refine wpAny_call ?_
  k_dflt cell_enter
  k_steps
  unfold Halt
  (rename Fr _ _ _ _ => F')
  (rename News _ _ _ _ => N')
  refine' While_inv2 (fun q m₁ nx => ∃ (i : Nat) (u1 u2 : Tok) (c : σ), nx = Led c ∧ b0 ≤ i ∧ (i ≤ n + 1 ∨ i = b0) ∧ q = n + 1 - i ∧ m₁ "size" = some (.int n u1) ∧ m₁ "begin" = some (.int i u2) ∧ m₁ "is_bound" = some (.bool false) ∧ m₁ "ends_at" = some (.ref f) ∧ ∀ j, b0 ≤ j → j < i → ¬ P j) (n₀ := n + 1 - b0) F' N' ?init ?turn
  case init => exact ⟨b0, t1, t2, c₀, rfl, Nat.le_refl _, .inr rfl, rfl, rfl, rfl, rfl, rfl, fun j h1 h2 => absurd h2 (by omega)⟩
  clear F' N'
  rintro q m₁ nx h₁ tk₁ F₁ N₁ ⟨i, u1, u2, c, rfl, hi1, hi2, rfl, e1, e2, e3, e4, hm⟩
  rw [lay4 e1 e2 e3 e4] at F₁
  k_steps
  · unfold Halt
    have hF := hfn _ _ _ _ N₁
    k_dflt (refine callWith_F hF ?_)
    k_steps
    unfold Halt
    (rename Fr h₀ _ _ _ => FG9)
    (rename Below _ _ _ _ => B9)
    (rename Fr _ _ _ _ => F9)
    (rename News _ _ _ _ => N9)
    (rename Frag.In _ _ => X9)
    (rename Top _ _ _ _ _ _ => T9)
    refine Hf c i u2 _ _ _ _ _ _ _ _ _ _ _ _ _ _ _ _ _ B9 F9 X9 N9 T9 (C.keeps FG9.keep) rfl ?_ ?_ ?_ ?_
    · show dp + 1 + 15 < _
      omega
    · show un + 3 + 150 < _
      omega
    · omega
    · clear N9
      rintro v h' tk' c' F9 N9 (⟨hP, t, rfl⟩ | ⟨hP, rfl⟩)
      · k_steps
        all_goals (try dsimp only)
        all_goals (try dsimp only [WhileStep2])
        k_steps
        (rename News h₀ _ _ _ => N9)
        (rename Fr h₀ _ _ _ => F9)
        exact hret _ _ _ c' F9 (Or.inr ⟨i, _, _, _, rfl, N9, hi1, by omega, hP, hm⟩)
      · k_steps
        all_goals (try dsimp only)
        all_goals (try dsimp only [WhileStep2])
        (rename News _ _ _ _ => N9)
        (rename Fr _ _ _ _ => F9)
        refine ⟨_, _, _, _, n + 1 - (i + 1), rfl, F9, N9, by omega, i + 1, _, _, c', rfl, by omega, Or.inl (by omega), rfl, rfl, congrArg (fun z => some (Value.int z _)) (by omega), rfl, rfl, fun j h1 h2 => ?_⟩
        by_cases h3 : j = i
        · rw [h3]; exact hP
        · exact hm j h1 (by omega)
  · (rename Fr h₀ _ _ _ => F9)
    refine hret _ _ _ c F9 (Or.inl ⟨rfl, by (rename News h₀ _ _ _ => N9); exact N9, fun j h1 h2 => hm j h1 (by omega)⟩)
end Mine
end
section
open PySem PySem.W PyProof.Rows
namespace Mine
local macro_rules | `(tactic| k_room) => `(tactic| ktr_room)
local macro_rules | `(tactic| walk_at "callWith ref") => `(tactic| (k_here; k_dflt (first | (refine' callWith_K ?k1 ?k2 ?_; (case k1 => k_asm); (case k2 => k_is); k_whole) | (refine' callWith_K0 ?k1 ?k2 ?_; (case k1 => k_in); (case k2 => k_is); k_whole))))
local macro_rules | `(tactic| walk_at "call ref") => `(tactic| (k_here; k_dflt (refine wpAny_call ?_; k_enter)))
local macro_rules | `(tactic| walk_at "exec While") => `(tactic| (refine halt ?_))
local macro_rules | `(tactic| walk_at "exec While Compare") => `(tactic| (refine halt ?_))
local macro_rules | `(tactic| walk_at "exec While Compare cons nil") => `(tactic| (refine halt ?_))
local macro_rules | `(tactic| walk_at "ite") => `(tactic| (first | (refine ieq_no (by omega) ?_) | (refine ieq_yes (by omega) ?_) | (refine ine_yes (by omega) ?_) | (refine ine_no (by omega) ?_) | (refine dec_yes (by omega) ?_) | (refine dec_no (by omega) ?_)))
local macro_rules | `(tactic| walk_at "subscriptTail") => `(tactic| (k_here; (with_reducible show wpAny _ _ (subscriptTail _ _ (Value.bytes _ _) (Value.int _ _)) _ _ _); (refine item_any (by omega) (by omega) (by omega) ?_); intro vT hT))
local macro_rules | `(tactic| walk_at "subscriptTail") => `(tactic| (k_here; (with_reducible show wpAny _ _ (subscriptTail _ _ (Value.bytes _ _) (Value.int _ _)) _ _ _); (refine item_letter (by assumption) (by omega) (by omega) (by omega) ?_); intro vP hP hP1 hP2))
local macro_rules | `(tactic| k_mem) => `(tactic| first | with_reducible assumption | assumption | (refine' List.mem_cons_of_mem _ ?_; k_mem))

local macro_rules | `(tactic| walk_at "exec FunctionDef") => `(tactic| (refine halt ?_))
local macro_rules | `(tactic| walk_at "getMethod bytes") => `(tactic| ((with_reducible show wpAny _ _ (getMethod (Value.bytes _ _) (Str.ofString "find") _) _ _ _); refine find_method ?_))
local macro_rules | `(tactic| walk_at "call builtin:bytes.find") => `(tactic| (refine find_K (by assumption) ?_))

local macro_rules | `(tactic| walk_at "call ref") => `(tactic| ((with_reducible show wpAny _ _ (call (Value.ref 28) _) _ _ _); refine halt ?_))
local macro_rules | `(tactic| walk_at "call ref") => `(tactic| ((with_reducible show wpAny _ _ (call (Value.ref 182) _) _ _ _); refine halt ?_))
abbrev posE : Pos := ⟨325, 4, 327, 38⟩
abbrev qualE : Str := Str.ofString "_law_met.<locals>.ends_at"

theorem met_ok {w : World} {p : Program} {loose : List Str} {mean : ExcName → Option Value} {mg mb : Str → Option Value}
  (text word : Array UInt8) (t1 t2 t3 : Tok) (b0 : Nat) (o : Obj) (c : Addr) (oc : Obj) (rest : List (Addr × Obj))
  (dp un : Nat) (gd : Option (List Code)) (cn : Str) (cs : Scope) (a : Addr) (ccd : Value) (cl : List (Str × Addr)) (outer : List Env) (A₀ : Around) (base h₀ : Heap) (L : Addr) (m : Str → Option Value) (s : Shared) (Q E : Value → Shared → Prop)
  (B : Below A₀ base outer h₀) (F : Fr h₀ L s.heap m) (X : (Mine.K w.params).In h₀) (N : News h₀ L s.heap ([(280, o), (c, oc)] ++ rest)) (hdis : ∀ q ∈ rest, ∀ k ∈ [(280, o), (c, oc)], q.1 ≠ k.1) (hcP : c ≠ 280)
  (hT : TabOk posE qualE o c oc) (T : Top p loose mean mg mb h₀) (C : CodeHd h₀ 284 280) (hk : cs.kind = .function)
  (hd : dp + 20 < recursionLimit) (hu : un + 200 < cLine)
  (ht : text.size ≤ 100) (hp : word.size ≤ 10) (hc : ∀ c ∈ word.toList, 97 ≤ c.toNat ∧ c.toNat ≤ 122)
  (hret : ∀ v h' tk' o' c' oc', Fr h₀ L h' m → News h₀ L h' ([(280, o'), (c', oc')] ++ rest) → (∀ q ∈ rest, q.1 ≠ c') → c' ≠ 280 → TabOk posE qualE o' c' oc' →
     ((v = .none ∧ ∀ i, b0 ≤ i → i ≤ text.toList.length → ¬ Occ text.toList word.toList i) ∨ (∃ i t, v = .int ((i : Nat) : Int) t ∧ b0 ≤ i ∧ i ≤ text.toList.length ∧ Occ text.toList word.toList i ∧ ∀ j, b0 ≤ j → j < i → ¬ Occ text.toList word.toList j)) →
     Q v { s with heap := h', toks := tk' }) :
  wpAny (model PySem.Challenge.rw_xm0622_01.row.prog w) (ktrTop dp un gd cn cs L a ccd cl outer) (call (.ref 285) [.bytes text t1, .bytes word t2, .int b0 t3]) Q E s := by
  revert X
  k_fill
  intro X
  have h0 : (0 : UInt8) ∉ word.toList := fun h => by have := (hc _ h).1; simp at this
  refine wpAny_call ?_
  k_dflt (refine' enterRC (keep := [(280, o), (c, oc)]) (rest := rest) B F X N hdis T ?kA ?kF ?kK ?k6 ?k7 ?k8 ?k9 ?kB ?kD ?_ ?c2 ?c3 ?c4; (case kA => exact rfl); (case kF => exact rfl); (case kK => exact hk); (case k6 => k_is); (case k7 => k_is); (case k8 => k_room); (case k9 => exact BindsTo.of_eq rfl); (case kB => exact rfl); (case kD => decide +kernel); (case c2 => exact rfl); (case c3 => exact rfl); (case c4 => exact rfl))
  intro g L' h₁ tk cells F' N' Y' B' X' T' hg0 hg1 l1
  have C' := C.keeps hg0
  k_cells Y'
  simp only [List.cons_append, List.nil_append] at N'
  k_lt l1
  have hcP' := neN hcP
  (try dsimp only)
  (try k_fold)
  k_steps
  unfold Halt
  (rename Fr _ _ _ _ => F9)
  (rename News _ _ _ _ => N9)
  k_dflt (refine nestDef_K rfl rfl rfl ?_)
  have hN : ∃ (x dx : Addr) (oce : Obj) (H : Nat → Int) (κ : Nat → Tok) (u1 u2 u3 u4 u5 : Tok) (l1 l2 : Addr), News g L' _ [(280, o), (c, oc), (L' + 1, oce), (x, instObj 267 dx), (dx, dictOf [⟨H 0, .str "text" (κ 0), .bytes text u1⟩, ⟨H 1, .str "pattern" (κ 1), .bytes word u2⟩, ⟨H 2, .str "most_depth" (κ 2), .int 60 u3⟩, ⟨H 3, .str "tick" (κ 3), .none⟩, ⟨H 4, .str "depth" (κ 4), .int 0 u4⟩, ⟨H 5, .str "level" (κ 5), .int 0 u5⟩, ⟨H 6, .str "starts" (κ 6), .ref l1⟩, ⟨H 7, .str "lengths" (κ 7), .ref l2⟩] 8)] ∧ oce.data = .cell (some (.ref x)) ∧ L' + 1 < dx ∧ 280 < dx ∧ c < dx ∧ dx < x :=
    ⟨_, _, _, fun | 0 => _ | 1 => _ | 2 => _ | 3 => _ | 4 => _ | 5 => _ | 6 => _ | _ => _, fun | 0 => _ | 1 => _ | 2 => _ | 3 => _ | 4 => _ | 5 => _ | 6 => _ | _ => _, _, _, _, _, _, _, _, cb_drop N9 (by kst_in), by assumption, by (refine ltN ?_; omega), by (refine ltN ?_; omega), by (refine ltN ?_; omega), by (refine ltN ?_; omega)⟩
  obtain ⟨x, dx, oce, H, κ, u1, u2, u3, u4, u5, k1, k2, N8, e1, e2, e3, e4, e5⟩ := hN
  replace e2 := ltN e2
  replace e3 := ltN e3
  replace e4 := ltN e4
  replace e5 := ltN e5
  clear N9
  k_dflt (refine' nest_any (own := [(L' + 1, oce), (x, instObj 267 dx), (dx, dictOf [⟨H 0, .str "text" (κ 0), .bytes text u1⟩, ⟨H 1, .str "pattern" (κ 1), .bytes word u2⟩, ⟨H 2, .str "most_depth" (κ 2), .int 60 u3⟩, ⟨H 3, .str "tick" (κ 3), .none⟩, ⟨H 4, .str "depth" (κ 4), .int 0 u4⟩, ⟨H 5, .str "level" (κ 5), .int 0 u5⟩, ⟨H 6, .str "starts" (κ 6), .ref k1⟩, ⟨H 7, .str "lengths" (κ 7), .ref k2⟩] 8)]) F9 N8 T' C' ?cd hT ?ka hcP ?kb ?cl ?_; (case cd => exact rfl); (case ka => k_all); (case kb => k_all); (case cl => exact rfl))
  intro f o2 c2 oc2 ctv doc h2 tk2 F2 N2 hT2 q1 q2 q3 q4 q5
  replace q1 := allNeN_of q1
  simp only [AllNeN, and_true] at q1
  k_lt q2
  replace q3 := ltN q3
  replace q4 := neN q4
  replace q5 := ltN q5
  obtain ⟨ps2, vs2, tq2, r1, r2, r3, r4, r5⟩ := hT2
  clear F9 N8
  k_steps
  unfold Halt

  (rename Fr _ _ _ _ => F9)
  (rename News _ _ _ _ => N9)
  refine fm_ok (σ := Tok × Tok × Addr × Addr) text.size b0 word.toList.length _ _ f (fun c => [(f, _), (280, o2), (c2, oc2), (L' + 1, oce), (x, instObj 267 dx), (dx, dictOf [⟨H 0, .str "text" (κ 0), .bytes text u1⟩, ⟨H 1, .str "pattern" (κ 1), .bytes word u2⟩, ⟨H 2, .str "most_depth" (κ 2), .int 60 u3⟩, ⟨H 3, .str "tick" (κ 3), .none⟩, ⟨H 4, .str "depth" (κ 4), .int 0 c.1⟩, ⟨H 5, .str "level" (κ 5), .int 0 c.2.1⟩, ⟨H 6, .str "starts" (κ 6), .ref c.2.2.1⟩, ⟨H 7, .str "lengths" (κ 7), .ref c.2.2.2⟩] 8)])
    (u4, u5, k1, k2) (fun i => Occ text.toList word.toList i) _ _ _ _ _ _ _ _ _ _ _ _ _ _ _ _ _ B' F9 X' N9 T' C' rfl ?hd ?hu ?Hf ?hfn ?hret
  case hd => show dp + 1 + 18 < _; omega
  case hu => show un + 3 + 180 < _; omega
  case hfn => exact fun c h₀ L h N => FnAt.of N (List.Mem.head _)
  case Hf =>
    clear F9 N9
    rintro ⟨v4, v5, v6, v7⟩ i t dp un gd cn cs a ccd cl outer A₀ base h₀ L m s Q E B F X N T C hk hd hu hi hret
    dsimp only at N
    refine wpAny_call ?_
    k_dflt (refine' code_nest B F X N T rfl rfl hk (List.Mem.head _) (codeRec_news N (List.Mem.tail _ (List.Mem.tail _ (List.Mem.head _))) r4 r5) ?k8 (BindsTo.of_eq rfl) (locs rfl) ?_ rfl rfl rfl ?c5; (case k8 => k_room); (case c5 => decide))
    intro g' L' h' FG' F' N' B' X' T'
    (try dsimp only)
    (try k_fold)
    k_steps
    unfold Halt
    (rename Fr _ _ _ _ => F9)
    (rename News _ _ _ _ => N9)
    refine' mh_ok text word u1 u2 _ _ i x dx H κ _ _ _ _ _ _ _ _ _ _ _ _ _ _ _ _ _ _ _ _ _ _ _ ?hB F9 ?hX N9 ?hT rfl ?hx ?hdx ?hd1 ?hu1 hi ht hp hc ?hret1
    case hB => k_asm
    case hX => k_asm
    case hT => k_asm
    case hx => k_memK
    case hdx => k_memK
    case hd1 => show dp + 1 + 1 + 10 < _; omega
    case hu1 => show un + 3 + 3 + 100 < _; omega
    case hret1 =>
      clear N9 F9
      intro v h' tk' F9 N9 hv
      k_steps
      (rename Fr _ _ _ _ => F8)
      (rename News _ _ _ _ => N8)
      exact hret v _ _ (_, _, _, _) F8 (cb_drop N8 (by kst_in)) hv
  case hret =>
    clear F9 N9
    have hsz : word.size = word.toList.length := word.length_toList.symm
    have hsz2 : text.size = text.toList.length := text.length_toList.symm
    intro v h' tk' c' F9 hv
    rcases hv with ⟨rfl, N9, hno⟩ | ⟨i, ti, tj, D, rfl, N9, hi1, hi2, hocc, hno⟩
    · k_steps
      dsimp only
      (rename Fr _ _ _ _ => F8)
      (rename News _ _ _ _ => N8)
      refine LeaveR.of F8 (cb_drop N8 (news := [(280, o2), (c2, oc2)]) (by kst_in)) ?_
      intro kF kN kD
      exact hret _ _ _ o2 c2 oc2 kF kN (fun q hq => kD q hq (c2, oc2) (List.Mem.tail _ (List.Mem.head _))) q4 (Or.inr ⟨ps2, vs2, tq2, r1, r2, r3, r4, r5⟩) (Or.inl ⟨rfl, fun i h1 h2 => hno i h1 (by omega)⟩)
    · k_steps
      (rename Fr _ _ _ _ => F8)
      (rename News _ _ _ _ => N8)
      refine LeaveR.of F8 (cb_drop N8 (news := [(280, o2), (c2, oc2)]) (by kst_in)) ?_
      intro kF kN kD
      exact hret _ _ _ o2 c2 oc2 kF kN (fun q hq => kD q hq (c2, oc2) (List.Mem.tail _ (List.Mem.head _))) q4 (Or.inr ⟨ps2, vs2, tq2, r1, r2, r3, r4, r5⟩) (Or.inr ⟨i, _, rfl, hi1, by omega, hocc, hno⟩)
end Mine
end
section
open PySem PySem.W PyProof.Rows
namespace Mine
local macro_rules | `(tactic| k_room) => `(tactic| ktr_room)
local macro_rules | `(tactic| walk_at "callWith ref") => `(tactic| (k_here; k_dflt (first | (refine' callWith_K ?k1 ?k2 ?_; (case k1 => k_asm); (case k2 => k_is); k_whole) | (refine' callWith_K0 ?k1 ?k2 ?_; (case k1 => k_in); (case k2 => k_is); k_whole))))
local macro_rules | `(tactic| walk_at "call ref") => `(tactic| (k_here; k_dflt (refine wpAny_call ?_; k_enter)))
local macro_rules | `(tactic| walk_at "exec While") => `(tactic| (refine halt ?_))
local macro_rules | `(tactic| walk_at "exec While Compare") => `(tactic| (refine halt ?_))
local macro_rules | `(tactic| walk_at "exec While Compare cons nil") => `(tactic| (refine halt ?_))
local macro_rules | `(tactic| walk_at "ite") => `(tactic| (first | (refine ieq_no (by omega) ?_) | (refine ieq_yes (by omega) ?_) | (refine ine_yes (by omega) ?_) | (refine ine_no (by omega) ?_) | (refine dec_yes (by omega) ?_) | (refine dec_no (by omega) ?_)))
local macro_rules | `(tactic| walk_at "subscriptTail") => `(tactic| (k_here; (with_reducible show wpAny _ _ (subscriptTail _ _ (Value.bytes _ _) (Value.int _ _)) _ _ _); (refine item_any (by omega) (by omega) (by omega) ?_); intro vT hT))
local macro_rules | `(tactic| walk_at "subscriptTail") => `(tactic| (k_here; (with_reducible show wpAny _ _ (subscriptTail _ _ (Value.bytes _ _) (Value.int _ _)) _ _ _); (refine item_letter (by assumption) (by omega) (by omega) (by omega) ?_); intro vP hP hP1 hP2))
local macro_rules | `(tactic| k_mem) => `(tactic| first | with_reducible assumption | assumption | (refine' List.mem_cons_of_mem _ ?_; k_mem))

local macro_rules | `(tactic| walk_at "exec For") => `(tactic| (refine halt ?_))
local macro_rules | `(tactic| walk_at "exec For Name Call cons nil") => `(tactic| (refine halt ?_))
local macro_rules | `(tactic| walk_at "pyIter ref") => `(tactic| (refine halt ?_))
local macro_rules | `(tactic| walk_at "exec Assign cons ListComp") => `(tactic| (refine halt ?_))

def BAre : List Value → List (List UInt8) → Prop
  | [], [] => True
  | v :: vs, b :: bs => (∃ t, v = .bytes b.toArray t) ∧ BAre vs bs
  | _, _ => False

theorem BAre.length : ∀ {vs : List Value} {bs : List (List UInt8)}, BAre vs bs → vs.length = bs.length
  | [], [], _ => rfl
  | _ :: _, _ :: _, h => by simp [BAre.length h.2]
theorem BAre.mem : ∀ {vs : List Value} {bs : List (List UInt8)}, BAre vs bs → ∀ v ∈ vs, ∃ b t, b ∈ bs ∧ v = .bytes b.toArray t
  | _ :: _, _ :: _, h, _, .head _ => ⟨_, h.1.choose, .head _, h.1.choose_spec⟩
  | _ :: _, _ :: _, h, v, .tail _ hm => by
    obtain ⟨b, t, hb, e⟩ := BAre.mem h.2 v hm
    exact ⟨b, t, .tail _ hb, e⟩
theorem BAre.append : ∀ {vs us : List Value} {bs cs : List (List UInt8)}, BAre vs bs → BAre us cs → BAre (vs ++ us) (bs ++ cs)
  | [], _, [], _, _, h => h
  | _ :: _, _, _ :: _, _, h, h' => ⟨h.1, BAre.append h.2 h'⟩
theorem ints_mem : ∀ {vs : List Value} {ns : List Int}, IntsAre vs ns → ∀ v ∈ vs, ∃ k t, k ∈ ns ∧ v = .int k t
  | _, _, .cons n t _, _, .head _ => ⟨n, t, .head _, rfl⟩
  | _, _, .cons _ _ h, v, .tail _ hm => by
    obtain ⟨k, t, hk, e⟩ := ints_mem h v hm
    exact ⟨k, t, .tail _ hk, e⟩
theorem wordsL_length (ns : List Int) : ∀ i, (wordsL ns i).length = ns.length ^ i
  | 0 => rfl
  | i + 1 => by
    have ih := wordsL_length ns i
    have h : ∀ l : List (List UInt8), (l.flatMap fun w => ns.map fun c => w ++ [byteOf c]).length = l.length * ns.length := by
      intro l
      induction l with
      | nil => simp
      | cons a r ih => rw [List.flatMap_cons, List.length_append, ih, List.length_map, List.length_cons, Nat.succ_mul]; omega
    rw [wordsL, h, ih, Nat.pow_succ]
theorem wordsL_small {ns : List Int} (h : ns.length ≤ 3) {i : Nat} (hi : i ≤ 3) : (wordsL ns i).length ≤ 27 := by
  rw [wordsL_length]
  calc ns.length ^ i ≤ 3 ^ i := Nat.pow_le_pow_left h i
    _ ≤ 3 ^ 3 := Nat.pow_le_pow_right (by decide) hi
theorem wordsL_each (ns : List Int) : ∀ i, ∀ b ∈ wordsL ns i, b.length = i
  | 0, b, hb => by rw [List.mem_singleton.mp hb]; rfl
  | i + 1, b, hb => by
    obtain ⟨w, hw, hb⟩ := List.mem_flatMap.mp hb
    obtain ⟨c, _, rfl⟩ := List.mem_map.mp hb
    rw [List.length_append, wordsL_each ns i w hw]; rfl
def CatF (v u z : Value) : Prop := ∀ b t k t', v = .bytes b t → u = .int k t' → ∃ t'', z = .bytes (b.toList ++ [byteOf k]).toArray t''
theorem catF_row {b : List UInt8} {t : Tok} : ∀ {vs : List Value} {ns : List Int} {zs : List Value}, IntsAre vs ns → Paired (CatF (.bytes b.toArray t)) vs zs → BAre zs (ns.map fun c => b ++ [byteOf c])
  | _, _, _, .nil, .nil => trivial
  | _, _, _, .cons k u h, .cons hF hP => ⟨hF _ _ _ _ rfl rfl, catF_row h hP⟩
theorem catF_rows {vs : List Value} {ns : List Int} (hi : IntsAre vs ns) : ∀ {items : List Value} {ws : List (List UInt8)} {zs : List Value}, BAre items ws → Rows CatF vs items zs → BAre zs (ws.flatMap fun w => ns.map fun c => w ++ [byteOf c])
  | [], [], zs, _, h => by rw [show zs = [] from h]; trivial
  | v :: items, w :: ws, zs, hB, h => by
    obtain ⟨z1, z2, rfl, h1, h2⟩ := h
    obtain ⟨⟨t, rfl⟩, hB⟩ := hB
    rw [List.flatMap_cons]
    exact BAre.append (catF_row hi h1) (catF_rows hi hB h2)
theorem keepsRefl (s : Shared) : Keeps s s := ⟨s.heap, s.toks, rfl, fun _ _ e => e⟩

theorem words_ok {w : World} {p : Program} {loose : List Str} {mean : ExcName → Option Value} {mg mb : Str → Option Value}
  (l : Addr) (vs : List Value) (ns : List Int) (n : Nat) (tn : Tok) (rest : List (Addr × Obj))
  (dp un : Nat) (gd : Option (List Code)) (cn : Str) (cs : Scope) (a : Addr) (ccd : Value) (cl : List (Str × Addr)) (outer : List Env) (A₀ : Around) (base h₀ : Heap) (L : Addr) (m : Str → Option Value) (s : Shared) (Q E : Value → Shared → Prop)
  (B : Below A₀ base outer h₀) (F : Fr h₀ L s.heap m) (X : (Mine.K w.params).In h₀) (N : News h₀ L s.heap rest) (T : Top p loose mean mg mb h₀) (hk : cs.kind = .function)
  (hd : dp + 20 < recursionLimit) (hu : un + 200 < cLine)
  (hl : s.heap.IsList l vs.toArray) (hi : IntsAre vs ns) (hr : ∀ k ∈ ns, 97 ≤ k ∧ k ≤ 122) (hlen : ns.length ≤ 3) (hn : n ≤ 3)
  (hret : ∀ D items e h' tk', Fr h₀ L h' m → News h₀ L h' ((D, { cls := .type "list", data := .seq items.toArray e }) :: rest) → (∀ q ∈ rest, q.1 ≠ D) → BAre items (wordsL ns n) → Q (.ref D) { s with heap := h', toks := tk' }) :
  wpAny (model PySem.Challenge.rw_xm0622_01.row.prog w) (ktrTop dp un gd cn cs L a ccd cl outer) (call (.ref 295) [.ref l, .int n tn]) Q E s := by
  revert X
  k_fill
  intro X
  refine wpAny_call ?_
  k_dflt (refine' enterRC (keep := []) (rest := rest) B F X N (fun _ _ _ h => nomatch h) T ?kA ?kF ?kK ?k6 ?k7 ?k8 ?k9 ?kB ?kD ?_ ?c2 ?c3 ?c4; (case kA => exact rfl); (case kF => exact rfl); (case kK => exact hk); (case k6 => k_is); (case k7 => k_is); (case k8 => k_room); (case k9 => exact BindsTo.of_eq rfl); (case kB => exact rfl); (case kD => decide +kernel); (case c2 => exact rfl); (case c3 => exact rfl); (case c4 => exact rfl))
  intro g L' h₁ tk cells F' N' Y' B' X' T' hg0 hg1 l1
  have hlg : g.IsList l vs.toArray := by obtain ⟨o, e, r⟩ := hl; exact ⟨o, hg1 _ _ e (fun _ h => nomatch h), r⟩
  k_cells Y'
  simp only [List.cons_append, List.nil_append] at N'
  (try dsimp only)
  (try k_fold)
  k_steps
  unfold Halt
  (rename Fr _ _ _ _ => F9)
  (rename News _ _ _ _ => N9)
  (rename Obj.data _ = _ => d9)
  (with_unfolding_all refine' For_invVF F9 ?k1 ?k2 ?_; (case k1 => exact rfl); (case k2 => exact rfl); k_whole)
  k_steps
  unfold Halt

  (rename Fr _ _ _ _ => F9)
  (rename News _ _ _ _ => N9)
  (rename IsRange _ _ _ _ _ _ _ _ => R9)
  refine' iter_rangeJ (n := n) (fun i m₁ nx => ∃ (D : Addr) (items : List Value) (e : Nat) (oc : Obj), nx = [(D, ({ cls := .type "list", data := .seq items.toArray e } : Obj)), (L' + 1, oc)] ∧ oc.data = .cell (some (.ref l)) ∧ BAre items (wordsL ns i) ∧ m₁ "found" = some (.ref D) ∧ @LT.lt Nat _ (L' + 1) D) rfl R9 (small_one (by omega) (by omega) (by omega) (by omega)) ((rangeSize_nat _ _).trans (by omega)) F9 N9 ?hj ?turn ?done
  case hj => exact ⟨_, [_], 0, _, rfl, by assumption, ⟨⟨_, rfl⟩, trivial⟩, rfl, by omega⟩
  case turn =>
    clear R9
    rintro i t m₁ nx I o h tk hin hI ⟨D, items, e, oc, rfl, hoc, hB, hf, hD⟩ F1 N1
    rw [lay1 hf] at F1
    k_steps
    unfold Halt
    refine' Assign_comp2 (h₀ := g) (L := L') rfl rfl ?hsw ?hclos ?hcell rfl ?hnames rfl rfl ?hxy rfl rfl ?h
    case hsw => exact rfl
    case hclos => exact rfl
    case hcell => decide
    case hnames => decide
    case hxy => decide
    case h =>
      refine wpAny_Name (wpAny_loadName_local rfl rfl F1.ns rfl ?_)
      refine ⟨D, l, items.toArray, vs.toArray, CatF, _, _, rfl, ?_, F1, N1, ?_⟩
      · have hsz := hB.length
        have hw := wordsL_small hlen (i := i) (by omega)
        constructor
        · exact ⟨_, (N1 _ (.tail _ (.head _))).1, rfl, _, rfl⟩
        · exact hlg.at fun o e => F1.keep _ _ e
        · rw [List.size_toArray]; omega
        · have := hi.length
          rw [List.size_toArray]; omega
        · intro C s' m' E' hn hkp
          exact wpAny_Name (wpAny_loadName_cell rfl rfl rfl ⟨oc, hkp _ _ (N1 _ (.tail _ (.tail _ (.head _)))).1, hoc⟩ ⟨rfl, keepsRefl _⟩)
        · intro C v u s' m' E' hv hu hn hmx hmy hkp
          obtain ⟨b, tb, hb, rfl⟩ := hB.mem v (by simpa using hv)
          obtain ⟨k, tk', hk', rfl⟩ := ints_mem hi u (by simpa using hu)
          have hbl := wordsL_each ns i b hb
          have hrk := hr k hk'
          refine wpAny_mono (cat_letter rfl (x := b) (t := tb) (u := tk') (k := k) (by omega) (by omega) ?_ ?_ ?_) (fun z s'' hz => ⟨?_, hz.2⟩) fun _ _ e => e
          · exact fun Q E h => wpAny_Name (wpAny_loadName_local rfl rfl hn hmx h)
          · exact fun Q E h => LCgL.ld_built (F1.keeps hkp) X' T' (by k_is) (by boot_fast) (by decide) h
          · exact fun Q E h => wpAny_Name (wpAny_loadName_local rfl rfl hn hmy h)
          · intro b' t' k' t'' e1 e2
            cases e1
            cases e2
            exact hz.1
      · intro D' h' tk' zs hR hlt F2 N2
        dsimp only
        k_steps
        dsimp only [RgPost]
        have hlD := hlt (D, _) (.tail _ (.head _))
        have hlI := hlt (I, o) (.head _)
        refine ⟨h', tk', _, _, [(D', lstO zs), (L' + 1, oc)], rfl, F2, N2, .tail _ (.head _), ?_, ?_, D', zs, zs.length, oc, rfl, hoc, ?_, rfl, Nat.lt_trans hD hlD⟩
        · intro q hq
          rcases List.mem_cons.mp hq with rfl | hq
          · exact .head _
          · rw [List.mem_singleton.mp hq]; exact .tail _ (.tail _ (.tail _ (.head _)))
        · intro q hq
          rcases List.mem_cons.mp hq with rfl | hq
          · exact Ne.symm (Nat.ne_of_lt hlI)
          · exact hI q (.tail _ hq)
        · exact catF_rows hi hB (by simpa using hR)
  case done =>
    clear R9
    rintro m₁ nx h tk ⟨D, items, e, oc, rfl, hoc, hB, hf, hD⟩ F1 N1
    rw [lay1 hf] at F1
    k_steps
    dsimp only
    refine LeaveR.of F1 (cb_drop N1 (news := [(D, _)]) (by kst_in)) ?_
    intro kF kN kD
    exact hret D items e _ _ kF kN (fun q hq => kD q hq _ (List.Mem.head _)) hB
end Mine
end
section
open PySem PySem.W PyProof.Rows
namespace Mine
local macro_rules | `(tactic| k_room) => `(tactic| ktr_room)
local macro_rules | `(tactic| walk_at "callWith ref") => `(tactic| (k_here; k_dflt (first | (refine' callWith_K ?k1 ?k2 ?_; (case k1 => k_asm); (case k2 => k_is); k_whole) | (refine' callWith_K0 ?k1 ?k2 ?_; (case k1 => k_in); (case k2 => k_is); k_whole))))
local macro_rules | `(tactic| walk_at "call ref") => `(tactic| (with_reducible show wpAny _ _ (call (Value.ref 295) _) _ _ _; refine halt ?_))
local macro_rules | `(tactic| k_mem) => `(tactic| first | with_reducible assumption | assumption | (refine' List.mem_cons_of_mem _ ?_; k_mem))
local macro_rules | `(tactic| walk_at "eval ListComp") => `(tactic| (refine halt ?_))
local macro_rules | `(tactic| walk_at "eval ListComp cons nil") => `(tactic| (refine halt ?_))

def rangeObj (a b : Int) (t u v : Tok) : Obj := { cls := .type "range", dict := none, data := .fields #[.int a t, .int b u, .int 1 v], slots := #[] }
theorem range2_led {prog : Program} {w : World} {A : Around} {s : Shared} {h₀ : Heap} {L : Addr} {m : Str → Option Value} {Q E : Value → Shared → Prop} {a b : Int} {t u : Tok} {news : List (Addr × Obj)} (F : Fr h₀ L s.heap m) (N : News h₀ L s.heap news)
    (h : ∀ R h' tk t₁ u₁ v₁, Fr h₀ L h' m → News h₀ L h' ((R, rangeObj a b t₁ u₁ v₁) :: news) → Q (.ref R) { s with heap := h', toks := tk }) :
    wpAny (model prog w) A (call (.type "range") [.int a t, .int b u]) Q E s :=
  call_range_2 (h _ _ _ _ _ _ (F.push _) (News.push F N _ rfl))
local macro_rules | `(tactic| walk_at "call type:range") => `(tactic| ((rename Fr _ _ _ _ => F'); (rename News _ _ _ _ => N'); (refine range2_led F' N' ?_); intro vR vh vtk vt vu vw vF vN))

def leastP (n : Nat) : Value → Bool
  | .bytes b _ => least1 b.toList n
  | _ => false
theorem BAre.filter {n : Nat} : ∀ {vs : List Value} {bs : List (List UInt8)}, BAre vs bs → BAre (vs.filter (leastP n)) (bs.filter fun b => least1 b n)
  | [], [], _ => trivial
  | v :: vs, b :: bs, h => by
    obtain ⟨⟨t, rfl⟩, h⟩ := h
    have ih := BAre.filter (n := n) h
    have e : leastP n (.bytes b.toArray t) = least1 b n := by simp [leastP]
    cases hb : least1 b n with
    | true => rw [List.filter_cons_of_pos (by rw [e, hb]), List.filter_cons_of_pos (by simpa using hb)]; exact ⟨⟨t, rfl⟩, ih⟩
    | false => rw [List.filter_cons_of_neg (by rw [e, hb]; simp), List.filter_cons_of_neg (by simpa using hb)]; exact ih

theorem least_ok {w : World} {p : Program} {loose : List Str} {mean : ExcName → Option Value} {mg mb : Str → Option Value}
  (l : Addr) (vs : List Value) (ns : List Int) (n : Nat) (tn : Tok) (rest : List (Addr × Obj))
  (dp un : Nat) (gd : Option (List Code)) (cn : Str) (cs : Scope) (a : Addr) (ccd : Value) (cl : List (Str × Addr)) (outer : List Env) (A₀ : Around) (base h₀ : Heap) (L : Addr) (m : Str → Option Value) (s : Shared) (Q E : Value → Shared → Prop)
  (B : Below A₀ base outer h₀) (F : Fr h₀ L s.heap m) (X : (Mine.K w.params).In h₀) (N : News h₀ L s.heap rest) (T : Top p loose mean mg mb h₀) (hk : cs.kind = .function)
  (hd : dp + 40 < recursionLimit) (hu : un + 400 < cLine)
  (hl : s.heap.IsList l vs.toArray) (hi : IntsAre vs ns) (hr : ∀ k ∈ ns, 97 ≤ k ∧ k ≤ 122) (hlen : ns.length ≤ 3) (hn : n ≤ 3)
  (hret : ∀ D items e h' tk', Fr h₀ L h' m → News h₀ L h' ((D, { cls := .type "list", data := .seq items.toArray e }) :: rest) → (∀ q ∈ rest, q.1 ≠ D) → BAre items ((wordsL ns n).filter fun b => least1 b n) → Q (.ref D) { s with heap := h', toks := tk' }) :
  wpAny (model PySem.Challenge.rw_xm0622_01.row.prog w) (ktrTop dp un gd cn cs L a ccd cl outer) (call (.ref 300) [.ref l, .int n tn]) Q E s := by
  revert X
  k_fill
  intro X
  refine wpAny_call ?_
  k_dflt (refine' enterRC (keep := []) (rest := rest) B F X N (fun _ _ _ h => nomatch h) T ?kA ?kF ?kK ?k6 ?k7 ?k8 ?k9 ?kB ?kD ?_ ?c2 ?c3 ?c4; (case kA => exact rfl); (case kF => exact rfl); (case kK => exact hk); (case k6 => k_is); (case k7 => k_is); (case k8 => k_room); (case k9 => exact BindsTo.of_eq rfl); (case kB => exact rfl); (case kD => decide +kernel); (case c2 => exact rfl); (case c3 => exact rfl); (case c4 => exact rfl))
  intro g L' h₁ tk cells F' N' Y' B' X' T' hg0 hg1 l1
  have hlg : g.IsList l vs.toArray := by obtain ⟨o, e, r⟩ := hl; exact ⟨o, hg1 _ _ e (fun _ h => nomatch h), r⟩
  k_cells Y'
  simp only [List.cons_append, List.nil_append] at N'
  (try dsimp only)
  (try k_fold)
  k_steps
  unfold Halt
  (rename Fr _ _ _ _ => F9)
  (rename News _ _ _ _ => N9)
  refine words_ok l vs ns n _ _ _ _ _ _ _ _ _ _ _ _ _ _ _ _ _ _ _ B' F9 X' N9 T' rfl ?hd ?hu (hlg.at fun o e => F9.keep _ _ e) hi hr hlen hn ?ret
  case hd => show dp + 1 + 20 < _; omega
  case hu => show un + 3 + 200 < _; omega
  case ret =>
    clear F9 N9
    intro D items e h' tk' F9 N9 hD hB
    k_steps
    unfold Halt
    (rename Fr _ _ _ _ => F9)
    (rename News _ _ _ _ => N9)
    (rename Obj.data _ = _ => d9)
    simp only [List.cons_append, List.nil_append] at N9
    have hsz := hB.length
    have hw3 := wordsL_small hlen hn
    refine ListComp_1c rfl rfl rfl (fun _ => rfl) (fun _ => rfl) (by decide) (fun _ _ => rfl) ?h
    refine wpAny_Name (wpAny_loadName_local rfl rfl F9.ns rfl ?_)
    refine ⟨D, items.toArray, leastP n, fun v z => v = z, rfl, ?one, ?fin⟩
    case one =>
      constructor
      · exact ⟨_, (N9 _ (.head _)).1, rfl, _, rfl⟩
      · rw [List.size_toArray]; omega
      · intro C K v s' E' hv hc hk
        obtain ⟨b, tb, hb, rfl⟩ := hB.mem v (by simpa using hv)
        have hbl := wordsL_each ns n b hb
        refine wpAny_mono (turns_ok (b := b) (t := tb) (n := n) rfl ?hu2 (by omega) (by omega) rfl (by decide) rfl (by decide) rfl (hk _ _ (N9 _ (.tail _ (.head _))).1) ?hit ?hw) (fun ok s'' h => ⟨?_, h.2⟩) fun _ _ e => e
        case hu2 => show un + 3 + 64 < _; omega
        case hit => exact fun Q E h => wpAny_Name (wpAny_loadName_cell rfl rfl rfl ⟨_, hk _ _ (N9 _ (.tail _ (.tail _ (.head _)))).1, d9⟩ h)
        case hw => exact fun C' pos s'' Q E hk' h => wpAny_Name (wpAny_loadName_cell rfl rfl rfl (by obtain ⟨o, e, r⟩ := hc; exact ⟨o, hk' _ _ e, r⟩) h)
        rw [h.1]
        simp [leastP]
      · intro C K v s' E' hv hp hc hk
        exact wpAny_Name (wpAny_loadName_cell rfl rfl rfl hc ⟨rfl, keepsRefl _⟩)
    case fin =>
      intro D' h'' tk'' zs hP hlt hD' hk
      have F8 := F9.keeps hk
      have N8 := News.keeps N9 hk
      have N7 : News g L' h'' [(D', lstO zs)] := by
        intro q hq
        rw [List.mem_singleton] at hq
        subst hq
        refine ⟨hD', ?_, ?_⟩
        · obtain ⟨oL, _, _, hL, _⟩ := F9.ns
          have := Heap.lt_size hL
          exact Nat.ne_of_gt (Nat.lt_of_lt_of_le this hlt)
        · cases hq : g.get? D' with
          | none => rfl
          | some o' => exact absurd (Heap.lt_size (F9.keep _ _ hq)) (Nat.not_lt.mpr hlt)
      have hzs := paired_eq hP
      clear F9 N9 N8
      k_steps
      dsimp only
      refine LeaveR.of F8 N7 ?_
      intro kF kN kD
      refine hret D' zs zs.length _ _ kF kN (fun q hq => kD q hq _ (List.Mem.head _)) ?_
      rw [hzs]
      exact hB.filter
end Mine
end
section
open PySem PySem.W PyProof.Rows
namespace Mine
local macro_rules | `(tactic| k_room) => `(tactic| ktr_room)
local macro_rules | `(tactic| walk_at "callWith ref") => `(tactic| (k_here; k_dflt (first | (refine' callWith_K ?k1 ?k2 ?_; (case k1 => k_asm); (case k2 => k_is); k_whole) | (refine' callWith_K0 ?k1 ?k2 ?_; (case k1 => k_in); (case k2 => k_is); k_whole))))
local macro_rules | `(tactic| walk_at "call ref") => `(tactic| (with_reducible show wpAny _ _ (call (Value.ref 285) _) _ _ _; refine halt ?_))
local macro_rules | `(tactic| k_mem) => `(tactic| first | with_reducible assumption | assumption | (refine' List.mem_cons_of_mem _ ?_; k_mem))
local macro_rules | `(tactic| walk_at "exec For") => `(tactic| (refine halt ?_))
local macro_rules | `(tactic| walk_at "exec For Name Call cons nil") => `(tactic| (refine halt ?_))
local macro_rules | `(tactic| walk_at "exec For Name Name cons nil") => `(tactic| (refine halt ?_))
local macro_rules | `(tactic| walk_at "pyIter ref") => `(tactic| (refine halt ?_))
local macro_rules | `(tactic| walk_at "compareOp NotIn bytes ref") => `(tactic| (refine halt ?_))
local macro_rules | `(tactic| walk_at "exec Assign cons ListComp") => `(tactic| (refine halt ?_))
local macro_rules | `(tactic| walk_at "ite") => `(tactic| (first | (refine ieq_no (by omega) ?_) | (refine ieq_yes (by omega) ?_) | (refine ine_yes (by omega) ?_) | (refine ine_no (by omega) ?_) | (refine dec_yes (by omega) ?_) | (refine dec_no (by omega) ?_)))

local macro_rules | `(tactic| walk_at "call type:bytes") => `(tactic| (refine halt ?_))
theorem byteArr_rep (n : Nat) (k : Int) : byteArr (List.replicate n k) = (List.replicate n (byteOf k)).toArray := by
  simp [byteArr, byteOf]
theorem flat_rep {α : Type} (n : Nat) (x : α) : (List.replicate n [x]).flatten = List.replicate n x := by
  induction n with
  | zero => rfl
  | succ n ih => simp [List.replicate_succ, ih]
theorem ints_rep (n : Nat) (k : Int) (t : Tok) : IntsAre (List.replicate n (.int k t)) (List.replicate n k) := by
  induction n with
  | zero => exact .nil
  | succ n ih => exact .cons k t ih

def Low (b : List UInt8) : Prop := ∀ c ∈ b, 97 ≤ c.toNat ∧ c.toNat ≤ 122
theorem low_byteOf {k : Int} (h : 97 ≤ k ∧ k ≤ 122) : 97 ≤ (byteOf k).toNat ∧ (byteOf k).toNat ≤ 122 := by
  have e : (byteOf k).toNat = k.toNat := by
    unfold byteOf
    simp [Nat.toUInt8]
    omega
  rw [e]; omega
theorem low_rep {n : Nat} {k : Int} (h : 97 ≤ k ∧ k ≤ 122) : Low (List.replicate n (byteOf k)) := by
  intro c hc
  rw [List.eq_of_mem_replicate hc]
  exact low_byteOf h
theorem low_app {b : List UInt8} {k : Int} (hb : Low b) (h : 97 ≤ k ∧ k ≤ 122) : Low (b ++ [byteOf k]) := by
  intro c hc
  rcases List.mem_append.mp hc with hc | hc
  · exact hb c hc
  · rw [List.mem_singleton.mp hc]; exact low_byteOf h
theorem longer_each {ns : List Int} {text one : List UInt8} (hr : ∀ k ∈ ns, 97 ≤ k ∧ k ≤ 122) (ht : Low text) (h : one ∈ longerB ns text) : one.length = text.length + 1 ∧ Low one := by
  obtain ⟨k, hk, rfl⟩ := List.mem_map.mp h
  exact ⟨by simp, low_app ht (hr k hk)⟩

local macro_rules | `(tactic| walk_at "subscriptTail") => `(tactic| (k_here; (with_reducible show wpAny _ _ (subscriptTail _ (Expr.Slice _ _ none _) (Value.bytes _ _) (Value.ref _)) _ _ _); (with_reducible rename Fr _ _ _ _ => sF'); (with_reducible rename News _ _ _ _ => sN'); (refine slice_B (s := ⟨_, _, _, _, _⟩) sF' sN' (by constructor) (by constructor) (by simp only [List.size_toArray]; omega) ?_); intro _ _ _ _ _))
theorem hdis_of {c d : Addr} {o o' : Obj} {l : List (Addr × Obj)} (h1 : AllNeN c l) (h2 : AllNeN d l) : ∀ q ∈ l, ∀ k ∈ [(c, o), (d, o')], q.1 ≠ k.1 := by
  induction l with
  | nil => intro q hq; cases hq
  | cons a l ih =>
    intro q hq k hk
    rcases List.mem_cons.mp hq with e | hq
    · rw [e]
      rcases List.mem_cons.mp hk with e | hk
      · rw [e]; exact h1.1
      · rw [List.mem_singleton.mp hk]; exact h2.1
    · exact ih h1.2 h2.2 q hq k hk
theorem neOf {d : Addr} {l : List (Addr × Obj)} (h : AllNeN d l) : ∀ q ∈ l, q.1 ≠ d := by
  induction l with
  | nil => intro q hq; cases hq
  | cons a l ih =>
    intro q hq
    rcases List.mem_cons.mp hq with e | hq
    · rw [e]; exact h.1
    · exact ih h.2 q hq
theorem occ_self (b : List UInt8) (n : Nat) : Occ b (b.drop n) n := by
  unfold Occ
  rw [List.take_of_length_le (Nat.le_refl _)]
theorem goodB_yes {n : Nat} {one : List UInt8} (h : ∀ j, 0 ≤ j → j < one.length - n → ¬ Occ one (one.drop (one.length - n)) j) : goodB n one = true := by
  unfold goodB
  rw [List.all_eq_true]
  intro j hj
  simpa using h j (Nat.zero_le _) (List.mem_range.mp hj)
theorem goodB_no {n i : Nat} {one : List UInt8} (hi : i < one.length - n) (h : Occ one (one.drop (one.length - n)) i) : goodB n one = false := by
  cases e : goodB n one with
  | false => rfl
  | true =>
    unfold goodB at e
    rw [List.all_eq_true] at e
    have h2 : (!decide (Occ one (one.drop (one.length - n)) i)) = true := e i (List.mem_range.mpr hi)
    rw [decide_eq_true h] at h2
    exact absurd h2 (by decide)
theorem stepB_mem (n : Nat) : ∀ (l : List (List UInt8)) (text : List UInt8), stepB n l text = text ∨ stepB n l text ∈ l
  | [], _ => .inl rfl
  | a :: l, text => by
    unfold stepB
    rw [List.foldl_cons]
    by_cases h : (decide (text.length < a.length) && goodB n a) = true
    · rw [if_pos h]
      rcases stepB_mem n l a with e | e
      · exact .inr (by unfold stepB at e; rw [e]; exact .head _)
      · exact .inr (.tail _ e)
    · rw [if_neg h]
      rcases stepB_mem n l text with e | e
      · exact .inl e
      · exact .inr (.tail _ e)
theorem stepB_succ (n : Nat) {l : List (List UInt8)} {i : Nat} {one text : List UInt8} (h : l[i]? = some one) :
    stepB n (l.take (i + 1)) text = if (stepB n (l.take i) text).length < one.length && goodB n one then one else stepB n (l.take i) text := by
  unfold stepB
  rw [List.take_add_one, h, Option.toList_some, List.foldl_append]
  rfl
theorem BAre.get : ∀ {vs : List Value} {bs : List (List UInt8)} {i : Nat} {v : Value}, BAre vs bs → vs[i]? = some v → ∃ b t, bs[i]? = some b ∧ v = .bytes b.toArray t
  | _ :: _, _ :: _, 0, v, h, e => by
    obtain ⟨⟨t, rfl⟩, _⟩ := h
    simp only [List.getElem?_cons_zero, Option.some.injEq] at e
    exact ⟨_, t, by simp, e.symm⟩
  | _ :: _, _ :: _, i + 1, v, h, e => by
    simp only [List.getElem?_cons_succ] at e ⊢
    exact BAre.get h.2 e
  | [], [], i, v, _, e => by simp at e

theorem BAre.anyB {x : List UInt8} : ∀ {vs : List Value} {bs : List (List UInt8)}, BAre vs bs → vs.any (bytesP x) = decide (x ∈ bs)
  | [], [], _ => by simp
  | v :: vs, b :: bs, h => by
    obtain ⟨⟨t, rfl⟩, h⟩ := h
    rw [List.any_cons, BAre.anyB h]
    by_cases e : x = b
    · subst e; simp [bytesP]
    · have e2 : ¬ b = x := fun q => e q.symm
      simp [bytesP, e, e2]
theorem putB_succ (ns : List Int) (n k : Nat) (text : List UInt8) : putB ns n (k + 1) text =
  if stepB n (longerB ns text) text ∈ longerB ns text then putB ns n k (stepB n (longerB ns text) text) else stepB n (longerB ns text) text := rfl
theorem put_ok {w : World} {p : Program} {loose : List Str} {mean : ExcName → Option Value} {mg mb : Str → Option Value}
  (l : Addr) (vs : List Value) (ns : List Int) (n : Nat) (tn : Tok) (o : Obj) (c : Addr) (oc : Obj) (rest : List (Addr × Obj))
  (dp un : Nat) (gd : Option (List Code)) (cn : Str) (cs : Scope) (a : Addr) (ccd : Value) (cl : List (Str × Addr)) (outer : List Env) (A₀ : Around) (base h₀ : Heap) (L : Addr) (m : Str → Option Value) (s : Shared) (Q E : Value → Shared → Prop)
  (B : Below A₀ base outer h₀) (F : Fr h₀ L s.heap m) (X : (Mine.K w.params).In h₀) (N : News h₀ L s.heap ([(280, o), (c, oc)] ++ rest)) (hdis : ∀ q ∈ rest, ∀ k ∈ [(280, o), (c, oc)], q.1 ≠ k.1) (hcP : c ≠ 280)
  (hT : TabOk posE qualE o c oc) (T : Top p loose mean mg mb h₀) (C : CodeHd h₀ 284 280) (hk : cs.kind = .function)
  (hd : dp + 60 < recursionLimit) (hu : un + 600 < cLine)
  (hl : s.heap.IsList l vs.toArray) (hl1 : l ≠ 280) (hl2 : l ≠ c) (hi : IntsAre vs ns) (hr : ∀ k ∈ ns, 97 ≤ k ∧ k ≤ 122) (hlen : ns.length ≤ 3) (hlen1 : 1 ≤ ns.length) (hn : n ≤ 3) (hn1 : 1 ≤ n)
  (hret : ∀ t h' tk' o' c' oc', Fr h₀ L h' m → News h₀ L h' ([(280, o'), (c', oc')] ++ rest) → (∀ q ∈ rest, q.1 ≠ c') → c' ≠ 280 → TabOk posE qualE o' c' oc' → Q (.bytes (putOn ns n).toArray t) { s with heap := h', toks := tk' }) :
  wpAny (model PySem.Challenge.rw_xm0622_01.row.prog w) (ktrTop dp un gd cn cs L a ccd cl outer) (call (.ref 290) [.ref l, .int n tn]) Q E s := by
  have hret2 : ∀ (b : Array UInt8) t h' tk' o' c' oc', b = (putOn ns n).toArray → Fr h₀ L h' m → News h₀ L h' ([(280, o'), (c', oc')] ++ rest) → (∀ q ∈ rest, q.1 ≠ c') → c' ≠ 280 → TabOk posE qualE o' c' oc' → Q (.bytes b t) { s with heap := h', toks := tk' } := by
    intro b t h' tk' o' c' oc' hb
    subst hb
    exact hret t h' tk' o' c' oc'
  revert X
  k_fill
  intro X
  refine wpAny_call ?_
  k_dflt (refine' enterRC (keep := [(280, o), (c, oc)]) (rest := rest) B F X N hdis T ?kA ?kF ?kK ?k6 ?k7 ?k8 ?k9 ?kB ?kD ?_ ?c2 ?c3 ?c4; (case kA => exact rfl); (case kF => exact rfl); (case kK => exact hk); (case k6 => k_is); (case k7 => k_is); (case k8 => k_room); (case k9 => exact BindsTo.of_eq rfl); (case kB => exact rfl); (case kD => decide +kernel); (case c2 => exact rfl); (case c3 => exact rfl); (case c4 => exact rfl))
  intro g L' h₁ tk cells F' N' Y' B' X' T' hg0 hg1 l1
  have C' := C.keeps hg0
  have hlg : g.IsList l vs.toArray := by
    obtain ⟨o1, e, r⟩ := hl
    refine ⟨o1, hg1 _ _ e ?_, r⟩
    intro k hk
    simp only [List.mem_cons, List.not_mem_nil, or_false] at hk
    rcases hk with rfl | rfl
    · exact hl1
    · exact hl2
  k_cells Y'
  simp only [List.cons_append, List.nil_append] at N'
  k_lt l1
  have hcP' := neN hcP
  have hil := hi.length
  (try dsimp only)
  (try k_fold)
  k_steps
  unfold Halt
  (rename Fr _ _ _ _ => F9)
  (rename News _ _ _ _ => N9)
  (rename _ ∧ _ => i9)
  have hlast : ns.getD (-1 + (ns.length : Int)).toNat 0 = lastK ns := by
    unfold lastK; congr 1; omega
  simp only [Int.toNat_natCast, flat_rep, hlast] at N9
  have hlr := hr _ (lastK_mem hlen1)
  refine KBa.make_K F9 (cb_drop N9 (news := [(280, o), (c, oc), (L' + 1, _)]) (by kst_in)) rfl (News.isList N9 (List.Mem.head _)) (ints_rep n (lastK ns) _) ?hin (by rw [List.length_replicate]; omega) ?_
  case hin =>
    intro k hk
    rw [List.eq_of_mem_replicate hk]
    omega
  rw [byteArr_rep]
  clear N9 F9
  intro h' t' k' F9 N9 _
  k_steps
  unfold Halt
  (rename Fr _ _ _ _ => F9)
  (with_unfolding_all refine' For_invVF F9 ?k1 ?k2 ?_; (case k1 => exact rfl); (case k2 => exact rfl); k_whole)
  k_steps
  unfold Halt
  (rename Fr _ _ _ _ => F9)
  (rename News _ _ _ _ => N9)
  (rename Obj.data _ = _ => d9)
  (rename IsRange _ _ _ _ _ _ _ _ => R9)
  have hpow : ns.length ^ n ≤ 27 := by rw [← wordsL_length]; exact wordsL_small hlen hn
  have hpz : ((ns.length : Int) ^ ((n : Int)).toNat + 1) = ((ns.length ^ n + 1 : Nat) : Int) := by
    rw [Int.toNat_natCast]; push_cast; rfl
  rw [hpz] at R9
  refine' iter_rangeJ (n := ns.length ^ n + 1) (fun i m₁ nx => ∃ (o' : Obj) (c' : Addr) (oc' ot : Obj) (text : List UInt8) (tt : Tok), nx = [(280, o'), (c', oc'), (L' + 1, ot)] ∧ ot.data = .cell (some (.bytes text.toArray tt)) ∧ @Ne Nat c' 280 ∧ @Ne Nat c' (L' + 1) ∧ TabOk posE qualE o' c' oc' ∧
      text.length = n + i ∧ Low text ∧ putB ns n (ns.length ^ n + 1 - i) text = putOn ns n ∧ m₁ "letters" = some (.ref l) ∧ m₁ "size" = some (.int n tn)) rfl R9 (small_one (by omega) (by omega) (by omega) (by omega)) ((rangeSize_nat _ _).trans (by omega)) F9 N9 ?hj ?turn ?done
  case hj => exact ⟨_, _, _, _, _, _, rfl, d9, hcP', by omega, hT, by simp, low_rep hlr, rfl, rfl, rfl⟩
  case done =>
    clear R9 d9
    rintro m₁ nx h tk ⟨o', c', oc', ot, text, tt, rfl, hot, hc1, hc2, hT1, htl, hlow, hput, hm1, hm2⟩ F1 N1
    rw [lay2 hm1 hm2] at F1
    rw [Nat.sub_self] at hput
    k_steps
    dsimp only
    (rename Fr _ _ _ _ => F8)
    (rename News _ _ _ _ => N8)
    refine LeaveR.of F8 (cb_drop N8 (news := [(280, o'), (c', oc')]) (by kst_in)) ?_
    intro kF kN kD
    exact hret2 _ _ _ _ o' c' oc' (by rw [← hput]; rfl) kF kN (fun q hq => kD q hq (c', oc') (List.Mem.tail _ (List.Mem.head _))) hc1 hT1
  case turn =>
    clear R9 d9
    rintro i t m₁ nx I o₁ h tk hin hI ⟨o', c', oc', ot, text, tt, rfl, hot, hc1, hc2, hT1, htl, hlow, hput, hm1, hm2⟩ F1 N1
    rw [lay2 hm1 hm2] at F1
    k_steps
    unfold Halt
    refine' Assign_comp1 (h₀ := g) (l := l) (vs := vs) (F := CatF (.bytes text.toArray tt)) rfl ?hsw ?hclos ?hcell rfl ?hnames rfl rfl rfl ?hit (hlg.at fun o e => F1.keep _ _ e) (by omega) F1 N1 ?helt ?hC
    case hsw => exact rfl
    case hclos => exact rfl
    case hcell => decide
    case hnames => decide
    case hit => exact fun Q E h => wpAny_Name (wpAny_loadName_local rfl rfl F1.ns rfl h)
    case helt =>
      intro C v s' m' E' hv hn' hmx F2 N2
      obtain ⟨k, tk', hk', rfl⟩ := ints_mem hi v hv
      have hrk := hr k hk'
      refine wpAny_mono (cat_letter rfl (x := text) (t := tt) (u := tk') (k := k) (by omega) (by omega) ?_ ?_ ?_) (fun z s'' hz => ⟨?_, hz.2⟩) fun _ _ e => e
      · exact fun Q E h => wpAny_Name (wpAny_loadName_cell rfl rfl rfl ⟨ot, (N2 _ (.tail _ (.tail _ (.tail _ (.head _))))).1, hot⟩ h)
      · exact fun Q E h => LCgL.ld_built F2 X' T' (by k_is) (by boot_fast) (by decide) h
      · exact fun Q E h => wpAny_Name (wpAny_loadName_local rfl rfl hn' hmx h)
      · intro b' t' k' t'' e1 e2
        cases e1
        cases e2
        exact hz.1
    case hC =>
      intro D h' tk' zs nD hP hDne F2 N2
      have hB : BAre zs (longerB ns text) := catF_row hi hP
      have hDI := hDne I _ (N1 _ (.head _)).1
      have hD0 := hDne 280 _ (N1 _ (.tail _ (.head _))).1
      have hDc := hDne c' _ (N1 _ (.tail _ (.tail _ (.head _)))).1
      have hDL := hDne (L' + 1) _ (N1 _ (.tail _ (.tail _ (.tail _ (.head _))))).1
      have hIc := hI _ (.tail _ (.head _))
      have hI0 := hI _ (.head _)
      have hIL := hI _ (.tail _ (.tail _ (.head _)))
      dsimp only at hDI hD0 hDc hDL hIc hI0 hIL ⊢
      replace hDI := neN hDI
      replace hD0 := neN hD0
      replace hDc := neN hDc
      replace hDL := neN hDL
      replace hIc := neN hIc
      replace hI0 := neN hI0
      replace hIL := neN hIL
      k_steps
      unfold Halt
      (with_unfolding_all refine' For_invVF F2 ?k1 ?k2 ?_; (case k1 => exact rfl); (case k2 => exact rfl); k_whole)
      k_steps
      unfold Halt
      refine' iter_listJ (D := D) (zs := zs) (n := nD) (fun j m₁ nx => ∃ (o' : Obj) (c' : Addr) (oc' ot : Obj) (tt : Tok), nx = [(280, o'), (c', oc'), (L' + 1, ot), (D, lstN zs nD), (I, o₁)] ∧ ot.data = .cell (some (.bytes (stepB n ((longerB ns text).take j) text).toArray tt)) ∧ @Ne Nat c' 280 ∧ @Ne Nat c' (L' + 1) ∧ @Ne Nat c' D ∧ @Ne Nat c' I ∧ TabOk posE qualE o' c' oc' ∧
        m₁ "letters" = some (.ref l) ∧ m₁ "size" = some (.int n tn) ∧ m₁ "longer" = some (.ref D)) rfl F2 (cb_drop N2 (news := [(280, o'), (c', oc'), (L' + 1, ot), (D, lstN zs nD), (I, o₁)]) (by kst_in)) ?hj2 ?hJD ?turn2 ?done2
      case hj2 => exact ⟨_, _, _, _, _, rfl, by rw [List.take_zero]; exact hot, hc1, hc2, by first | exact hDc | exact Ne.symm hDc, by first | exact hIc | exact Ne.symm hIc, hT1, rfl, rfl, rfl⟩
      case hJD => rintro j m₁ nx ⟨_, _, _, _, _, rfl, _⟩; exact .tail _ (.tail _ (.tail _ (.head _)))
      case done2 =>
        clear F2 N2
        rintro m₁ nx h3 tk3 ⟨o2, c2, oc2, ot2, tt2, rfl, hot2, g1, g2, g3, g4, hT2, hm3, hm4, hm5⟩ F3 N3
        rw [lay3 hm3 hm4 hm5] at F3
        have hzl : zs.length = (longerB ns text).length := hB.length
        rw [hzl, List.take_length] at hot2
        k_steps
        unfold Halt
        (rename News _ _ _ _ => N9)
        refine notin_bytes (N9 _ (.tail _ (.tail _ (.tail _ (.head _))))).1 (fun v hv => by obtain ⟨b, t, _, e⟩ := hB.mem v hv; exact ⟨_, t, e⟩) ?_
        rw [hB.anyB]
        have hstep := putB_succ ns n (ns.length ^ n + 1 - (i + 1)) text
        rw [show ns.length ^ n + 1 - (i + 1) + 1 = ns.length ^ n + 1 - i by omega, hput] at hstep
        by_cases hin2 : stepB n (longerB ns text) text ∈ longerB ns text
        · rw [if_pos hin2] at hstep
          rw [decide_eq_true hin2]
          obtain ⟨hl2, hlow2⟩ := longer_each hr hlow hin2
          generalize stepB n (longerB ns text) text = t2 at hot2 hl2 hlow2 hstep
          k_steps
          dsimp only [RgPost]
          (rename Fr _ _ _ _ => F8)
          (rename News _ _ _ _ => N8)
          refine' ⟨_, _, _, _, [(280, o2), (c2, oc2), (L' + 1, ot2)], rfl, F8, N8, ?in3, ?sub3, neOf ?hne3, _, _, _, _, t2, _, rfl, hot2, g1, g2, hT2, ?tl3, hlow2, hstep.symm, rfl, rfl⟩
          case in3 => simp
          case sub3 => kst_in
          case hne3 => simp only [AllNeN, and_true]; omega
          case tl3 => omega
        · rw [if_neg hin2] at hstep
          rw [decide_eq_false hin2]
          k_steps
          dsimp only [RgPost]
          (rename Fr _ _ _ _ => F8)
          (rename News _ _ _ _ => N8)
          refine LeaveR.of F8 (cb_drop N8 (news := [(280, o2), (c2, oc2)]) (by kst_in)) ?_
          intro kF kN kD
          exact hret2 _ _ _ _ o2 c2 oc2 (by rw [hstep]) kF kN (fun q hq => kD q hq (c2, oc2) (List.Mem.tail _ (List.Mem.head _))) g1 hT2
      case turn2 =>
        clear F2 N2
        rintro j v m₁ nx I2 o₂ h2 tk2 hv hI2 ⟨o2, c2, oc2, ot2, tt2, rfl, hot2, g1, g2, g3, g4, hT2, hm3, hm4, hm5⟩ F2 N2
        rw [lay3 hm3 hm4 hm5] at F2
        obtain ⟨one, tv, hone, rfl⟩ := hB.get hv
        have hom : one ∈ longerB ns text := List.mem_of_getElem? hone
        obtain ⟨hol, holow⟩ := longer_each hr hlow hom
        generalize hst : stepB n ((longerB ns text).take j) text = t1 at hot2
        have hsucc := stepB_succ n (text := text) hone
        rw [hst] at hsucc
        have ht1 : t1.length = n + i ∨ t1.length = n + i + 1 := by
          rcases stepB_mem n ((longerB ns text).take j) text with e | e
          · left; rw [← hst, e, htl]
          · right
            have := (longer_each hr hlow (List.mem_of_mem_take e)).1
            rw [← hst, this, htl]
        have hon : one.length = n + i + 1 := by omega
        rcases ht1 with ht1 | ht1
        · k_steps
          unfold Halt
          have hsz : one.toArray.size = one.length := by simp
          have hpk : KBy.picked one.toArray (some ((one.toArray.size : Int) - (n : Int))) none = (one.drop (one.length - n)).toArray := by
            have e : ((one.toArray.size : Int) - (n : Int)) = ((one.length - n : Nat) : Int) := by rw [hsz]; omega
            rw [e]
            exact picked_from
          rw [hpk]
          have hdl : (one.drop (one.length - n)).length = n := by rw [List.length_drop]; omega
          (rename Fr _ _ _ _ => F9)
          (rename News _ _ _ _ => N9)
          have e1 := neN (hI2 _ (.head _))
          have e2 := neN (hI2 _ (.tail _ (.head _)))
          have e3 := neN (hI2 _ (.tail _ (.tail _ (.head _))))
          have e4 := neN (hI2 _ (.tail _ (.tail _ (.tail _ (.head _)))))
          have e5 := neN (hI2 _ (.tail _ (.tail _ (.tail _ (.tail _ (.head _))))))
          dsimp only at e1 e2 e3 e4 e5
          refine' met_ok one.toArray (one.drop (one.length - n)).toArray _ _ _ 0 o2 c2 oc2 [(L' + 1, ot2), (D, lstN zs nD), (I, o₁), (I2, o₂)] _ _ _ _ _ _ _ _ _ _ _ _ _ _ _ _ _ B' F9 X' (cb_drop N9 (by kst_in)) (hdis_of ?ha ?hb) g1 hT2 T' C' rfl ?hd ?hu (by simp only [List.size_toArray]; omega) (by simp only [List.size_toArray]; omega) ?hc ?hret
          case ha => simp only [AllNeN, and_true]; omega
          case hb => simp only [AllNeN, and_true]; omega
          case hd => show dp + 1 + 20 < _; omega
          case hu => show un + 3 + 200 < _; omega
          case hc => exact fun c hc => holow c (List.mem_of_mem_drop (by simpa using hc))
          case hret =>
            clear F9 N9
            intro v h' tk' o3 c3 oc3 F9 N9 hc3 hc3' hT3 hv
            simp only [List.cons_append, List.nil_append] at N9
            have hc3N := allNeN_of hc3
            simp only [AllNeN, and_true] at hc3N
            replace hc3' := neN hc3'
            rcases hv with ⟨rfl, hno⟩ | ⟨i0, ti, rfl, _, hi0, hocc, hmin⟩
            · exact absurd (occ_self one (one.length - n)) (hno _ (Nat.zero_le _) (by simp))
            · by_cases hie : i0 = one.length - n
              · have hg := goodB_yes (n := n) (one := one) (by rw [← hie]; simpa [← hie] using hmin)
                k_steps
                dsimp only [RgPost]
                (rename Fr _ _ _ _ => F8)
                (rename News _ _ _ _ => N8)
                (rename Obj.data _ = _ => d8)
                refine' ⟨_, _, _, _, [(280, o3), (c3, oc3), (L' + 1, ?oL1), (D, lstN zs nD), (I, o₁)], rfl, F8, N8, ?in1, ?sub1, neOf ?hne1, _, _, _, _, _, rfl, ?hd81, hc3', ?x11, ?x12, ?x13, hT3, rfl, rfl, rfl⟩
                case hd81 => rw [hsucc, if_pos (by rw [hg, Bool.and_true, decide_eq_true_eq]; omega)]; exact d8
                case in1 => simp
                case sub1 => kst_in
                case hne1 => simp only [AllNeN, and_true]; omega
                case x11 => omega
                case x12 => omega
                case x13 => omega
              · have hlt : i0 < one.length - n := by
                  rcases Nat.lt_or_ge i0 (one.length - n) with h | h
                  · exact h
                  · exact absurd (by simpa using occ_self one (one.length - n)) (hmin (one.length - n) (Nat.zero_le _) (by omega))
                have hg := goodB_no hlt (by simpa using hocc)
                k_steps
                dsimp only [RgPost]
                (rename Fr _ _ _ _ => F8)
                (rename News _ _ _ _ => N8)
                refine' ⟨_, _, _, _, [(280, o3), (c3, oc3), (L' + 1, ot2), (D, lstN zs nD), (I, o₁)], rfl, F8, N8, ?in1b, ?sub1b, neOf ?hneb, _, _, _, _, _, rfl, ?hd8b, hc3', ?x1b, ?x2b, ?x3b, hT3, rfl, rfl, rfl⟩
                case in1b => simp
                case sub1b => kst_in
                case hneb => simp only [AllNeN, and_true]; omega
                case hd8b => rw [hsucc, if_neg (by rw [hg, Bool.and_false]; exact Bool.false_ne_true)]; exact hot2
                case x1b => omega
                case x2b => omega
                case x3b => omega
        · have e1 := neN (hI2 _ (.head _))
          have e2 := neN (hI2 _ (.tail _ (.head _)))
          have e3 := neN (hI2 _ (.tail _ (.tail _ (.head _))))
          have e4 := neN (hI2 _ (.tail _ (.tail _ (.tail _ (.head _)))))
          have e5 := neN (hI2 _ (.tail _ (.tail _ (.tail _ (.tail _ (.head _))))))
          dsimp only at e1 e2 e3 e4 e5
          k_steps
          dsimp only [RgPost]
          (rename Fr _ _ _ _ => F8)
          (rename News _ _ _ _ => N8)
          refine' ⟨_, _, _, _, [(280, o2), (c2, oc2), (L' + 1, ot2), (D, lstN zs nD), (I, o₁)], rfl, F8, N8, ?in1c, ?sub1c, neOf ?hnec, _, _, _, _, _, rfl, ?hd8c, g1, g2, g3, g4, hT2, rfl, rfl, rfl⟩
          case in1c => simp
          case sub1c => kst_in
          case hnec => simp only [AllNeN, and_true]; omega
          case hd8c => rw [hsucc, if_neg (by rw [Bool.and_eq_true, decide_eq_true_eq]; omega)]; exact hot2
end Mine
end
section
open PySem PySem.W PyProof.Rows
namespace Mine
theorem fmod_cast (a b : Nat) : Int.fmod (a : Int) (b : Int) = ((a % b : Nat) : Int) := by
  rw [Int.fmod_eq_emod_of_nonneg _ (by omega)]; rfl
local macro_rules | `(tactic| k_room) => `(tactic| ktr_room)
local macro_rules | `(tactic| walk_at "call ref") => `(tactic| (with_reducible show wpAny _ _ (call (Value.ref 278) _) _ _ _; refine halt ?_))
local macro_rules | `(tactic| walk_at "call ref") => `(tactic| (with_reducible show wpAny _ _ (call (Value.ref 290) _) _ _ _; refine halt ?_))
local macro_rules | `(tactic| walk_at "exec For") => `(tactic| (refine halt ?_))
local macro_rules | `(tactic| walk_at "exec For Name Call cons nil") => `(tactic| (refine halt ?_))
local macro_rules | `(tactic| walk_at "exec For Name Name cons nil") => `(tactic| (refine halt ?_))
local macro_rules | `(tactic| walk_at "pyIter ref") => `(tactic| (refine halt ?_))
local macro_rules | `(tactic| walk_at "subscriptTail") => `(tactic| (with_reducible show wpAny _ _ (subscriptTail (PySem.Expr.List _ _) _ _ _) _ _ _; refine halt ?_))
local macro_rules | `(tactic| walk_at "call ref") => `(tactic| (with_reducible show wpAny _ _ (call (Value.ref 300) _) _ _ _; refine halt ?_))
local macro_rules | `(tactic| walk_at "call ref") => `(tactic| (with_reducible show wpAny _ _ (call (Value.ref 285) _) _ _ _; refine halt ?_))
local macro_rules | `(tactic| walk_at "call ref") => `(tactic| (with_reducible show wpAny _ _ (call (Value.ref 295) _) _ _ _; refine halt ?_))
local macro_rules | `(tactic| walk_at "call type:range") => `(tactic| ((rename Fr _ _ _ _ => F'); (rename News _ _ _ _ => N'); (refine range2_led F' N' ?_); intro vR vh vtk vt vu vw vF vN))
local macro_rules | `(tactic| walk_at "call builtin:list.extend") => `(tactic| (refine halt ?_))
local macro_rules | `(tactic| walk_at "call builtin:sorted") => `(tactic| (refine halt ?_))
local macro_rules | `(tactic| walk_at "call builtin:bytes.join") => `(tactic| (refine halt ?_))
local macro_rules | `(tactic| walk_at "getMethod bytes") => `(tactic| ((with_reducible show wpAny _ _ (getMethod (Value.bytes _ _) (Str.ofString "join") _) _ _ _); refine join_method ?_))
local macro_rules | `(tactic| walk_at "call type:bytes") => `(tactic| (refine halt ?_))
local macro_rules | `(tactic| walk_at "subscriptTail") => `(tactic| (k_here; (with_reducible show wpAny _ _ (subscriptTail _ (Expr.Slice _ _ none _) (Value.bytes _ _) (Value.ref _)) _ _ _); (with_reducible rename Fr _ _ _ _ => sF'); (with_reducible rename News _ _ _ _ => sN'); (refine slice_B (s := ⟨_, _, _, _, _⟩) sF' sN' (by constructor) (by constructor) (by simp only [List.size_toArray]; omega) ?_); intro _ _ _ _ _))
local macro_rules | `(tactic| walk_at "compareOp") => `(tactic| (with_reducible show wpAny _ _ (compareOp .NotEq (Value.bytes _ _) (Value.bytes _ _)) _ _ _; refine halt ?_))
local macro_rules | `(tactic| walk_at "ite") => `(tactic| ((with_reducible show (if ((_ : Int) != _) = true then _ else _)); refine halt ?_))
local macro_rules | `(tactic| walk_at "binaryOp Add bytes bytes") => `(tactic| (refine halt ?_))
theorem wordsL_low {ns : List Int} (h : ∀ k ∈ ns, 97 ≤ k ∧ k ≤ 122) : ∀ n, ∀ b ∈ wordsL ns n, Low b
  | 0, b, hb => by rw [List.mem_singleton.mp hb]; intro c hc; cases hc
  | n + 1, b, hb => by
    obtain ⟨w, hw, hb⟩ := List.mem_flatMap.mp hb
    obtain ⟨k, hk, rfl⟩ := List.mem_map.mp hb
    exact low_app (wordsL_low h n w hw) (h k hk)
local macro_rules | `(tactic| walk_at "And") => `(tactic| ((with_reducible show GoodW _ _ _ _ _ _ _ ∧ _); refine halt ?_))
theorem BAre.allB : ∀ {vs : List Value} {bs : List (List UInt8)}, BAre vs bs → AllB vs := by
  intro vs bs h v hv
  obtain ⟨b, t, _, e⟩ := h.mem v hv
  exact ⟨_, t, e⟩
theorem BAre.bytesOf : ∀ {vs : List Value} {bs : List (List UInt8)}, BAre vs bs → vs.map bytesOfV = bs
  | [], [], _ => rfl
  | v :: vs, b :: bs, h => by
    obtain ⟨⟨t, rfl⟩, h⟩ := h
    rw [List.map_cons, BAre.bytesOf h]
    simp [bytesOfV]
theorem law_all : PySem.Challenge.rw_xm0622_01.Holds := by
  w_on
  refine holds_law law_said (fun said => ?_)
  refine holds_open (q := Mine.view) (loose := []) (Xt := fun s => xlAt Mine.view [] s && recOk (RowW.records (OpenRow.toRowW PySem.Challenge.rw_xm0622_01.row)) s) (XP := XL Mine.view []) (Yf := Hook.obs (kmHook Mine.K Mine.asK asK_eq [280])) (Ya := Hook.val (kmHook Mine.K Mine.asK asK_eq [280])) (YP := Hook.says (kmHook Mine.K Mine.asK asK_eq [280])) (N := 3816) ?hl (Hook.of (kmHook Mine.K Mine.asK asK_eq [280])) (Hook.keeps (kmHook Mine.K Mine.asK asK_eq [280])) (fun s e => xl_of s (Bool.and_eq_true_iff.mp e).1) XL.keeps (by rfl) (by rfl) (by rfl) (fun s e => recFacts_of (Bool.and_eq_true_iff.mp e).2) (by rfl) (by first | assumption | decide +kernel) (by decide +kernel) ⟨rfl, rfl, rfl, rfl, rfl, by decide +kernel⟩ ?hw ?hc
  case hl => exact left
  case hw => w_witness2
  clear said
  k_go0
  k_steps
  unfold Halt
  (rename Fr _ _ _ _ => F9)
  (rename News _ _ _ _ => N9)
  (rename Below _ _ _ _ => B9)
  (rename Frag.In _ _ => X9)
  (rename Top _ _ _ _ _ _ => T9)
  (rename IntsAre _ _ => i9)
  (rename CodeHd _ _ _ => C9)
  (rename LT.lt _ _ => l9)
  (rename Obj.IsDictOf _ _ _ => d9)
  refine' from_ok _ _ _ _ _ _ _ 5 _ _ [(280, tabObj #[])] _ _ _ _ _ _ _ _ _ _ _ _ _ _ _ _ _ B9 F9 X9 (cb_drop N9 (by kst_in)) (hdis_of ?ha0 ?hb0) ?hbD0 T9 rfl ?hd0 ?hu0 d9 i9 ?hlen0 (by decide) (by decide) (by decide) ?hret0
  case ha0 => simp only [AllNeN, and_true]; omega
  case hb0 => simp only [AllNeN, and_true]; omega
  case hbD0 => refine Nat.ne_of_lt ?_; omega
  case hd0 => decide +kernel
  case hu0 => decide +kernel
  case hlen0 => omega
  case hret0 =>
    clear d9 F9 N9
    intro v0 t0 h0 tk0 o0 u0 p0 q0 F9 N9 d9
    simp only [List.cons_append, List.nil_append] at N9
    k_steps
    unfold Halt
    (rename Fr _ _ _ _ => F9)
    (rename News _ _ _ _ => N9)
    (rename Obj.IsDictOf _ _ _ => d9)
    refine' from_ok _ _ _ _ _ _ _ 10 _ _ [(280, tabObj #[])] _ _ _ _ _ _ _ _ _ _ _ _ _ _ _ _ _ B9 F9 X9 (cb_drop N9 (by kst_in)) (hdis_of ?ha1 ?hb1) ?hbD1 T9 rfl ?hd1 ?hu1 d9 i9 ?hlen1 (by decide) (by decide) (by decide) ?hret1
    case ha1 => simp only [AllNeN, and_true]; omega
    case hb1 => simp only [AllNeN, and_true]; omega
    case hbD1 => refine Nat.ne_of_lt ?_; omega
    case hd1 => decide +kernel
    case hu1 => decide +kernel
    case hlen1 => omega
    case hret1 =>
      clear d9 F9 N9
      intro v1 t1 h1 tk1 o1 u1 p1 q1 F9 N9 d9
      simp only [List.cons_append, List.nil_append] at N9
      k_steps
      unfold Halt
      (rename Fr _ _ _ _ => F9)
      (rename News _ _ _ _ => N9)
      (rename Obj.IsDictOf _ _ _ => d9)
      refine' from_ok _ _ _ _ _ _ _ 5 _ _ [(280, tabObj #[])] _ _ _ _ _ _ _ _ _ _ _ _ _ _ _ _ _ B9 F9 X9 (cb_drop N9 (by kst_in)) (hdis_of ?ha2 ?hb2) ?hbD2 T9 rfl ?hd2 ?hu2 d9 i9 ?hlen2 (by decide) (by decide) (by decide) ?hret2
      case ha2 => simp only [AllNeN, and_true]; omega
      case hb2 => simp only [AllNeN, and_true]; omega
      case hbD2 => refine Nat.ne_of_lt ?_; omega
      case hd2 => decide +kernel
      case hu2 => decide +kernel
      case hlen2 => omega
      case hret2 =>
        clear d9 F9 N9
        intro v2 t2 h2 tk2 o2 u2 p2 q2 F9 N9 d9
        simp only [List.cons_append, List.nil_append] at N9
        k_steps
        unfold Halt
        (rename Fr _ _ _ _ => F9)
        (rename News _ _ _ _ => N9)
        (rename Obj.IsDictOf _ _ _ => d9)
        refine' from_ok _ _ _ _ _ _ _ 5 _ _ [(280, tabObj #[])] _ _ _ _ _ _ _ _ _ _ _ _ _ _ _ _ _ B9 F9 X9 (cb_drop N9 (by kst_in)) (hdis_of ?ha3 ?hb3) ?hbD3 T9 rfl ?hd3 ?hu3 d9 i9 ?hlen3 (by decide) (by decide) (by decide) ?hret3
        case ha3 => simp only [AllNeN, and_true]; omega
        case hb3 => simp only [AllNeN, and_true]; omega
        case hbD3 => refine Nat.ne_of_lt ?_; omega
        case hd3 => decide +kernel
        case hu3 => decide +kernel
        case hlen3 => omega
        case hret3 =>
          clear d9 F9 N9
          intro v3 t3 h3 tk3 o3 u3 p3 q3 F9 N9 d9
          simp only [List.cons_append, List.nil_append] at N9
          k_steps
          unfold Halt
          (rename Fr _ _ _ _ => F9)
          (rename News _ _ _ _ => N9)
          have hfd : 0 ≤ 2 + v0.fdiv 3 := Int.add_nonneg (by decide) (Int.fdiv_nonneg p0 (by decide))
          k_dflt (refine kba_turn (value' := PySem.Expr.Name (PySem.Str.ofString "x") ⟨0, 0, 0, 0⟩) (fun _ => rfl) ?_)
          k_dflt (refine' kmk_slice_ints (vs := [Value.int (97 + v1) _, Value.int (97 + v1 + 1 + v2) _, Value.int (97 + v1 + 1 + v2 + 1 + v3) _]) (ns := [97 + v1, 97 + v1 + 1 + v2, 97 + v1 + 1 + v2 + 1 + v3]) F9 N9 (News.isList N9 (List.Mem.head _)) IsPart.none (IsPart.int _ _) (.cons _ _ (.cons _ _ (.cons _ _ .nil))) (kmk_upto (.cons _ _ (.cons _ _ (.cons _ _ .nil))) hfd) rfl ?_ ?s ?t ?z; (case s => with_unfolding_all rfl); (case t => kmk_pure); (case z => rw [sizeLine_eq]; exact Nat.le_of_ble_eq_true rfl))
          intro D9 ws9 h9 F8 N8 l8 hI8 hC8 hL8
          k_lt l8
          clear F9 N9
          k_steps
          unfold Halt
          (rename Fr _ _ _ _ => F9)
          (rename News _ _ _ _ => N9)
          k_dflt (refine' item_anyK (ns := [2, 3, 1, 1, 2]) (News.isList N9 (List.Mem.head _)) (.cons _ _ (.cons _ _ (.cons _ _ (.cons _ _ (.cons _ _ .nil))))) p0 (by simpa using q0) (by omega) ?_ ?s2; (case s2 => with_unfolding_all rfl))
          intro t9
          k_steps
          unfold Halt
          (rename Fr _ _ _ _ => F9)
          (rename News _ _ _ _ => N9)
          obtain ⟨ns, n, hns, hnn, hF0⟩ := forms p0 q0 p1 q1 p2 q2 p3 q3
          rw [hns] at hI8
          rw [hnn]
          have hfr : ∃ m', m' "letters" = some (.ref D9) ∧ m' "size" = some (.int (n : Int) t9) ∧ Fr _ _ _ m' := ⟨_, rfl, by rw [← hnn]; rfl, F9⟩
          obtain ⟨m9, hm1, hm2, F7⟩ := hfr
          rw [lay2 hm1 hm2] at F7
          clear F9
          have hlD := News.isList N9 (List.Mem.tail _ (List.Mem.head _))
          have h28 := hF0.l1
          have h38 := hF0.l3
          have h48 := hF0.n1
          have h58 := hF0.n3
          refine' put_ok D9 ws9 ns n t9 (tabObj #[]) _ _ [(D9, W.listOf ws9.toArray 0)] _ _ _ _ _ _ _ _ _ _ _ _ _ _ _ _ _ B9 F7 X9 (cb_drop N9 (news := [(280, tabObj #[]), _, (D9, W.listOf ws9.toArray 0)]) (by kst_in)) (hdis_of ?ha5 ?hb5) ?hc5 (Or.inl rfl) T9 C9 rfl ?hd5 ?hu5 hlD ?hl5 ?hm5 hI8 hF0.low h38 h28 h58 h48 ?hret5
          case ha5 => simp only [AllNeN, and_true]; omega
          case hb5 => simp only [AllNeN, and_true]; omega
          case hc5 => refine Nat.ne_of_gt ?_; omega
          case hd5 => decide +kernel
          case hu5 => decide +kernel
          case hl5 => refine Nat.ne_of_gt ?_; omega
          case hm5 => refine Nat.ne_of_lt ?_; omega
          case hret5 =>
            clear F7 N9
            intro t10 h10 tk10 o10 c10 oc10 F9 N9 hD10 hc10 hT10
            simp only [List.cons_append, List.nil_append] at N9
            k_steps
            unfold Halt
            (rename Fr _ _ _ _ => F9)
            (rename News _ _ _ _ => N9)
            have hfr2 : ∃ m' R c, m' "letters" = some (.ref D9) ∧ m' "size" = some (.int (n : Int) t9) ∧ m' "text" = some (.bytes (putOn ns n).toArray t10) ∧ m' "rows" = some (.ref R) ∧ Fr _ _ _ m' ∧ News _ _ _ [(R, W.listOf #[] c), (280, o10), (c10, oc10), (D9, W.listOf ws9.toArray 0)] ∧ @LT.lt Nat _ c10 R ∧ @LT.lt Nat _ D9 R ∧ @LT.lt Nat _ 280 R := ⟨_, _, _, rfl, rfl, rfl, rfl, F9, cb_drop N9 (by kst_in), by omega, by omega, by omega⟩
            obtain ⟨m10, R10, e10, g1, g2, g3, g4, F8, N8, l81, l82, l83⟩ := hfr2
            rw [lay4 g1 g2 g3 g4] at F8
            clear F9 N9
            (with_unfolding_all refine' For_invVF F8 ?k1 ?k2 ?_; (case k1 => exact rfl); (case k2 => exact rfl); k_whole)
            k_steps
            unfold Halt
            (rename Fr _ _ _ _ => F9)
            (rename News _ _ _ _ => N9)
            refine' iter_rangeJ (n := n) (fun i m₁ nx => ∃ (o' : Obj) (c' : Addr) (oc' : Obj) (items : List Value) (e : Nat), nx = [(R10, W.listOf items.toArray e), (280, o'), (c', oc'), (D9, W.listOf ws9.toArray 0)] ∧ BAre items (rowsTo ns n i) ∧ @Ne Nat c' 280 ∧ @Ne Nat c' D9 ∧ @Ne Nat c' R10 ∧ TabOk posE qualE o' c' oc' ∧
              m₁ "letters" = some (.ref D9) ∧ m₁ "size" = some (.int (n : Int) t9) ∧ m₁ "text" = some (.bytes (putOn ns n).toArray t10) ∧ m₁ "rows" = some (.ref R10)) rfl (N9 _ (List.Mem.head _)).1 (small_one (by omega) (by omega) (by omega) (by omega)) ((rangeSize_nat _ _).trans (by omega)) F9 (cb_drop N9 (news := [(R10, W.listOf #[] e10), (280, o10), (c10, oc10), (D9, W.listOf ws9.toArray 0)]) (by kst_in)) ?hj6 ?turn6 ?done6
            case hj6 => exact ⟨_, _, _, [], e10, rfl, trivial, by omega, by have := hD10 _ (List.Mem.head _); exact fun e => this e.symm, by omega, hT10, rfl, rfl, rfl, rfl⟩
            case done6 =>
              clear F9 N9
              rintro m₁ nx h tk ⟨o', c', oc', items, e, rfl, hB, hc1, hc2, hc3, hT1, g1, g2, g3, g4⟩ F1 N1
              rw [lay4 g1 g2 g3 g4] at F1
              k_steps
              unfold Halt
              (rename Fr _ _ _ _ => F9)
              (rename News _ _ _ _ => N9)
              have hsz := hB.length
              have hsm := rowsTo_small h38 n (i := n) h58
              refine sorted_B F9 N9 (News.isList N9 (List.Mem.head _)) hB.allB (by omega) ?_
              intro D8 h8 vs8 e8 F7 N7 l8 hA8 hp8 hs8
              rw [hB.bytesOf] at hp8
              have hAsk := hF0.ask _ hp8 hs8
              k_lt l8
              clear F9 N9
              k_steps
              unfold Halt
              obtain ⟨hA1, hA2, hA3⟩ := hAsk
              have hp27 : ns.length ^ n ≤ 27 := by rw [← wordsL_len]; exact wordsL_small h38 h58
              refine join_K (News.isList N7 (List.Mem.head _)) hA8 (by omega) ?_
              intro t11 tk11
              generalize (List.map bytesOfV vs8).flatten = ring at hA1 hA2 hA3
              clear hA8 hp8 hs8
              have hrl : ring.length ≤ 27 := by rw [hA2]; exact hp27
              k_steps
              unfold Halt
              (rename Fr _ _ _ _ => F9)
              (rename News _ _ _ _ => N9)
              have hlast : ns.getD (-1 + (ns.length : Int)).toNat 0 = lastK ns := by
                unfold lastK; congr 1; omega
              simp only [Int.toNat_natCast, flat_rep, hlast] at N9
              have hlr := hF0.low _ (lastK_mem h28)
              refine KBa.make_K F9 (cb_drop N9 (news := [(280, o'), (c', oc'), (D9, W.listOf ws9.toArray 0)]) (by kst_in)) rfl (News.isList N9 (List.Mem.head _)) (ints_rep n (lastK ns) _) ?hin9 (by rw [List.length_replicate]; omega) ?_
              case hin9 =>
                intro k hk
                rw [List.eq_of_mem_replicate hk]
                omega
              rw [byteArr_rep]
              clear N9 F9
              intro h9 t12 k12 F9 N9 _
              k_steps
              unfold Halt
              have hpk : KBy.picked ring.toArray none (some (-1)) = ring.dropLast.toArray := by
                have := picked_but (b := ring) (k := 1) (Nat.le_refl _)
                rw [List.dropLast_eq_take]
                exact this
              have hcat : (List.replicate n (byteOf (lastK ns))).toArray ++ ring.dropLast.toArray = (putOn ns n).toArray := by
                rw [hA1]; simp
              rw [hpk]
              refine KBy.add_bytes (by simp only [List.size_toArray, List.length_replicate, List.length_dropLast]; omega) fun t13 k13 => ?_
              rw [hcat]
              refine ne_bytes ?_
              rw [show ((putOn ns n).toArray.toList != (putOn ns n).toArray.toList) = false by simp]
              k_steps
              unfold Halt
              refine ine_no (by rw [List.size_toArray, hA2, Int.toNat_natCast]; push_cast; rfl) ?_
              (rename Fr _ _ _ _ => F9)
              (rename News _ _ _ _ => N9)
              have hfr3 : ∃ m', m' "letters" = some (.ref D9) ∧ m' "size" = some (.int (n : Int) t9) ∧ m' "ring" = some (.bytes ring.toArray t11) ∧ Fr _ _ _ m' := ⟨_, rfl, rfl, rfl, F9⟩
              obtain ⟨m11, g1, g2, g3, F8⟩ := hfr3
              rw [lay3 g1 g2 g3] at F8
              clear F9
              k_steps
              unfold Halt
              have hpk2 : KBy.picked ring.toArray none (some ((n : Int) - 1)) = (ring.take (n - 1)).toArray := by
                rw [show ((n : Int) - 1) = ((n - 1 : Nat) : Int) by omega]; exact picked_to
              rw [hpk2]
              refine KBy.add_bytes (by simp only [List.size_toArray, List.length_take]; omega) fun t14 k14 => ?_
              rw [show ring.toArray ++ (ring.take (n - 1)).toArray = (ring ++ ring.take (n - 1)).toArray by simp]
              have har : (ring ++ ring.take (n - 1)).length ≤ 60 := by rw [List.length_append, List.length_take]; omega
              generalize ring ++ ring.take (n - 1) = around at hA3 har
              k_steps
              unfold Halt
              (rename Fr _ _ _ _ => F9)
              (with_unfolding_all refine' For_invVF F9 ?k1 ?k2 ?_; (case k1 => exact rfl); (case k2 => exact rfl); k_whole)
              k_steps
              unfold Halt
              (rename Fr _ _ _ _ => F9)
              (rename News _ _ _ _ => N9)
              have e1 : @Ne Nat c' 280 := hc1
              have e2 : @Ne Nat c' D9 := hc2
              refine words_ok D9 ws9 ns n t9 _ _ _ _ _ _ _ _ _ _ _ _ _ _ _ _ _ _ B9 F9 X9 N9 T9 rfl (by decide +kernel) (by decide +kernel) (News.isList N9 (List.Mem.tail _ (List.Mem.tail _ (List.Mem.head _)))) hI8 hF0.low h38 h58 ?_
              clear F9 N9
              intro D items3 nD h12 tk12 F9 N9 hD12 hB3
              have y1 := neN (hD12 _ (.head _))
              have y2 := neN (hD12 _ (.tail _ (.head _)))
              dsimp only at y1 y2
              refine halt ?_
              unfold Halt
              refine' iter_listJ (D := D) (zs := items3) (n := nD) (fun j m₁ nx => ∃ (o' : Obj) (c' : Addr) (oc' : Obj), nx = [(280, o'), (c', oc'), (D, lstN items3 nD)] ∧ @Ne Nat c' 280 ∧ @Ne Nat c' D ∧ TabOk posE qualE o' c' oc' ∧ m₁ "around" = some (.bytes around.toArray t14)) rfl F9 (cb_drop N9 (news := [(280, o'), (c', oc'), (D, lstN items3 nD)]) (by kst_in)) ?hj10 ?hJD10 ?turn10 ?done10
              case hj10 => exact ⟨_, _, _, rfl, hc1, y2, hT1, rfl⟩
              case hJD10 => rintro j m₁ nx ⟨_, _, _, rfl, _⟩; exact .tail _ (.tail _ (.head _))
              case done10 =>
                clear F9 N9
                rintro m₁ nx h3 tk3 ⟨o2, c2, oc2, rfl, z1, z2, hT2, hm3⟩ F3 N3
                rw [lay1 hm3] at F3
                have hgr : ∃ ps, o2 = tabObj ps := by
                  rcases hT2 with e | ⟨ps, _, _, e, _⟩
                  · exact ⟨_, e⟩
                  · exact ⟨_, e⟩
                obtain ⟨ps, rfl⟩ := hgr
                k_steps
                unfold Halt
                (rename Fr _ _ _ _ => F9)
                (rename News _ _ _ _ => N9)
                refine ⟨?_, GrownAt.of N9 (List.Mem.head _), trivial⟩
                refine goodW_bool F9 (by assumption) (fun _ => rfl) ?_
                first
                  | exact postW_of rfl (w_eq_bool (w_res rfl) w_lit) rfl
                  | exact (postW_of (r := PySem.Challenge.rw_xm0622_01.row.rowW) rfl (w_eq_bool (w_res rfl) w_lit) rfl)
                  | trace_state
              case turn10 =>
                clear F9 N9
                rintro j v m₁ nx I2 o₂ h2 tk2 hv hI2 ⟨o2, c2, oc2, rfl, z1, z2, hT2, hm3⟩ F2 N2
                rw [lay1 hm3] at F2
                obtain ⟨word, tv, hword, rfl⟩ := hB3.get hv
                have hwm : word ∈ wordsL ns n := List.mem_of_getElem? hword
                have hwl := wordsL_each ns n word hwm
                have hwlow := wordsL_low hF0.low n word hwm
                obtain ⟨i0, hi0, ho0, hu0⟩ := hA3 word hwm
                have x1 := neN (hI2 _ (.head _))
                have x2 := neN (hI2 _ (.tail _ (.head _)))
                have x3 := neN (hI2 _ (.tail _ (.tail _ (.head _))))
                dsimp only at x1 x2 x3
                k_steps
                unfold Halt
                (rename Fr _ _ _ _ => F9)
                (rename News _ _ _ _ => N9)
                refine' met_ok around.toArray word.toArray _ _ _ 0 o2 c2 oc2 [(D, lstN items3 nD), (I2, o₂)] _ _ _ _ _ _ _ _ _ _ _ _ _ _ _ _ _ B9 F9 X9 (cb_drop N9 (by kst_in)) (hdis_of ?ha11 ?hb11) z1 hT2 T9 C9 rfl ?hd11 ?hu11 (by simp only [List.size_toArray]; omega) (by simp only [List.size_toArray]; omega) ?hc11 ?hret11
                case ha11 => simp only [AllNeN, and_true]; omega
                case hb11 => simp only [AllNeN, and_true]; omega
                case hd11 => decide +kernel
                case hu11 => decide +kernel
                case hc11 => exact fun c hc => hwlow c (by simpa using hc)
                case hret11 =>
                  clear F9 N9
                  intro v h' tk' o3 c3 oc3 F9 N9 hc3 hc3' hT3 hv
                  simp only [List.cons_append, List.nil_append] at N9
                  have hc3N := allNeN_of hc3
                  simp only [AllNeN, and_true] at hc3N
                  replace hc3' := neN hc3'
                  rcases hv with ⟨rfl, hno⟩ | ⟨i1, ti, rfl, _, hi1, hocc, hmin⟩
                  · exact absurd (by simpa using ho0) (hno i0 (Nat.zero_le _) (by simpa using hi0))
                  · have hi10 : i1 = i0 := hu0 i1 (by simpa using hi1) (by simpa using hocc)
                    k_steps
                    unfold Halt
                    rw [show ((i1 : Int) + 1) = ((i1 + 1 : Nat) : Int) by omega]
                    (rename Fr _ _ _ _ => F9)
                    (rename News _ _ _ _ => N9)
                    refine' met_ok around.toArray word.toArray _ _ _ (i1 + 1) o3 c3 oc3 [(D, lstN items3 nD), (I2, o₂)] _ _ _ _ _ _ _ _ _ _ _ _ _ _ _ _ _ B9 F9 X9 (cb_drop N9 (by kst_in)) (hdis_of ?ha12 ?hb12) hc3' hT3 T9 C9 rfl ?hd12 ?hu12 (by simp only [List.size_toArray]; omega) (by simp only [List.size_toArray]; omega) ?hc12 ?hret12
                    case ha12 => simp only [AllNeN, and_true]; omega
                    case hb12 => simp only [AllNeN, and_true]; omega
                    case hd12 => decide +kernel
                    case hu12 => decide +kernel
                    case hc12 => exact fun c hc => hwlow c (by simpa using hc)
                    case hret12 =>
                      clear F9 N9
                      intro v h' tk' o4 c4 oc4 F9 N9 hc4 hc4' hT4 hv
                      simp only [List.cons_append, List.nil_append] at N9
                      have hc4N := allNeN_of hc4
                      simp only [AllNeN, and_true] at hc4N
                      replace hc4' := neN hc4'
                      rcases hv with ⟨rfl, hno⟩ | ⟨i2, ti2, rfl, hlo, hi2, hocc2, _⟩
                      · k_steps
                        dsimp only [RgPost]
                        (rename Fr _ _ _ _ => F8)
                        (rename News _ _ _ _ => N8)
                        refine' ⟨_, _, _, _, [(280, o4), (c4, oc4), (D, lstN items3 nD)], rfl, F8, N8, ?in12, ?sub12, neOf ?hne12, _, _, _, rfl, hc4', ?x12, hT4, rfl⟩
                        case in12 => simp
                        case sub12 => kst_in
                        case hne12 => simp only [AllNeN, and_true]; omega
                        case x12 => omega
                      · have hi20 : i2 = i0 := hu0 i2 (by simpa using hi2) (by simpa using hocc2)
                        omega
            case turn6 =>
              clear F9 N9
              rintro i t m₁ nx I o₁ h tk hin hI ⟨o', c', oc', items, e, rfl, hB, hc1, hc2, hc3, hT1, g1, g2, g3, g4⟩ F1 N1
              rw [lay4 g1 g2 g3 g4] at F1
              k_steps
              · unfold Halt
                (rename Fr _ _ _ _ => F9)
                (rename News _ _ _ _ => N9)
                (rename _ = (0 : Int) => hq)
                have hq2 : n % (i + 1) = 0 := by
                  have e : Int.fmod (n : Int) (1 + (i : Int)) = ((n % (i + 1) : Nat) : Int) := by
                    rw [show (1 + (i : Int)) = ((i + 1 : Nat) : Int) by omega]; exact fmod_cast _ _
                  omega
                have ei : (1 + (i : Int)) = ((i + 1 : Nat) : Int) := by omega
                rw [ei]
                have e1 := neN (hI _ (.head _))
                have e2 := neN (hI _ (.tail _ (.head _)))
                have e3 := neN (hI _ (.tail _ (.tail _ (.head _))))
                have e4 := neN (hI _ (.tail _ (.tail _ (.tail _ (.head _)))))
                dsimp only at e1 e2 e3 e4
                refine' least_ok D9 ws9 ns (i + 1) _ _ _ _ _ _ _ _ _ _ _ _ _ _ _ _ _ _ _ B9 F9 X9 N9 T9 rfl ?hd7 ?hu7 (News.isList N9 (List.Mem.tail _ (List.Mem.tail _ (List.Mem.tail _ (List.Mem.tail _ (List.Mem.head _)))))) hI8 hF0.low h38 (by omega) ?hret7
                case hd7 => decide +kernel
                case hu7 => decide +kernel
                case hret7 =>
                  clear F9 N9
                  intro D7 its7 e7 h7 tk7 F9 N9 hD7 hB7
                  have u1 := neN (hD7 _ (.tail _ (.head _)))
                  have u2 := neN (hD7 _ (.tail _ (.tail _ (.head _))))
                  have u3 := neN (hD7 _ (.tail _ (.tail _ (.tail _ (.head _)))))
                  have u4 := neN (hD7 _ (.tail _ (.tail _ (.tail _ (.tail _ (.head _))))))
                  have u5 := neN (hD7 _ (.head _))
                  dsimp only at u1 u2 u3 u4 u5
                  have hsz7 := hB7.length
                  have hsz8 := hB.length
                  have hsm := rowsTo_small h38 n (i := i) (by omega)
                  have hsm2 := rowsTo_small h38 n (i := i + 1) (by omega)
                  rw [rowsTo_yes hq2, List.length_append] at hsm2
                  have hB8 : BAre (items ++ its7) (rowsTo ns n (i + 1)) := by
                    rw [rowsTo_yes hq2]; exact hB.append hB7
                  k_steps
                  unfold Halt
                  (rename Fr _ _ _ _ => F9)
                  (rename News _ _ _ _ => N9)
                  refine extend_B (its := items) (its2 := its7) F9 (cb_drop N9 (news := [(R10, W.listOf items.toArray e), (D7, _), (I, o₁), (280, o'), (c', oc'), (D9, W.listOf ws9.toArray 0)]) (by kst_in)) (neOf ?hne7) (List.Mem.head _) (by omega) ?_
                  case hne7 => simp only [AllNeN, and_true]; omega
                  clear F9 N9
                  intro h71 e71 F9 N9
                  k_steps
                  dsimp only [RgPost]
                  (rename Fr _ _ _ _ => F8)
                  (rename News _ _ _ _ => N8)
                  refine' ⟨_, _, _, _, [(R10, W.listOf (items ++ its7).toArray e71), (280, o'), (c', oc'), (D9, W.listOf ws9.toArray 0)], rfl, F8, N8, ?in7, ?sub7, neOf ?hne72, _, _, _, _, _, rfl, hB8, hc1, hc2, hc3, hT1, rfl, rfl, rfl, rfl⟩
                  case in7 => simp
                  case sub7 => kst_in
                  case hne72 => simp only [AllNeN, and_true]; omega
              · dsimp only [RgPost]
                (rename Fr _ _ _ _ => F8)
                (rename News _ _ _ _ => N8)
                (rename _ ≠ (0 : Int) => hq)
                have hq2 : n % (i + 1) ≠ 0 := by
                  have e : Int.fmod (n : Int) (1 + (i : Int)) = ((n % (i + 1) : Nat) : Int) := by
                    rw [show (1 + (i : Int)) = ((i + 1 : Nat) : Int) by omega]; exact fmod_cast _ _
                  omega
                have e1 := neN (hI _ (.head _))
                have e2 := neN (hI _ (.tail _ (.head _)))
                have e3 := neN (hI _ (.tail _ (.tail _ (.head _))))
                have e4 := neN (hI _ (.tail _ (.tail _ (.tail _ (.head _)))))
                dsimp only at e1 e2 e3 e4
                refine' ⟨_, _, _, _, [(R10, W.listOf items.toArray e), (280, o'), (c', oc'), (D9, W.listOf ws9.toArray 0)], rfl, F8, N8, ?in8, ?sub8, neOf ?hne82, _, _, _, _, _, rfl, ?hB8, hc1, hc2, hc3, hT1, rfl, rfl, rfl, rfl⟩
                case hB8 => rw [rowsTo_no hq2]; exact hB
                case in8 => simp
                case sub8 => kst_in
                case hne82 => simp only [AllNeN, and_true]; omega
end Mine
end
theorem PySem.Challenge.cw_xm0622_01_holds : PySem.Challenge.rw_xm0622_01.Holds := by
  exact Mine.law_all
