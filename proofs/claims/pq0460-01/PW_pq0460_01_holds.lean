import PyProof.Rows.All
import Wide.All
import OpenK.KSplit
import OpenK.KApp
import KE.RegKMod
import KE.KJoinElse
import KE.KTops
import KE.RegKSuper
import KE.RegLcAnyAll
import KE.KCells
import KE.KPassesOwn
import KE.KNestStore
import KE.KStopIter
import KE.RegKBase
import KE.KDictOne
import KE.KxDecode
import KE.RegKMathGB
import KE.KNestM
import KE.KDflt
import KE.KOwnIterCall
import KE.KSortedM
import KE.KxLen
import KE.RegKMathGC
import KE.KIsClose
import KE.KDisp
import KE.KSetIn
import KE.KRevSl
import KE.KEqDeep
import KE.KAnyBase
import KE.KWhile
import KE.KRevIter
import KE.KTreeR
import KE.KxStill
import KE.KFinally
import KE.KTopLam
import KE.KWithOwn
import KE.KOpsOwn
import KE.KDictNew
import KE.KWhileD
import KE.KSumEnd
import KE.KPopAny
import KE.KGrown
import KE.KItemAt
import KE.KTextLit
import KE.KTupDict
import KE.KFmtOwn
import KE.KMinKey
import KE.KExtendNil
import KE.KMethU
import KE.KDictAnyTail
import KE.RegKStar
import KE.RegKTupTruth
import KE.RegKTupSum
import KE.KMethJoin
import KE.KPathRangeEnd
import KE.RegKParC
import KE.KxAffix
import KE.KxField
import KE.RegKMatchCls
import KE.KLcPair
import KE.KJoinL
import KE.RegKNeg
import KE.KxPercentT
import KE.KBytesCut
import KE.KCompIf
import KE.KxFormat
import KE.KTypeName
import KE.KCompText
import KE.BytesMulAny
import KE.KSortTup
import KE.KPairAssign
import KE.KTypeOf
import KE.KMulAny
import KE.KBytesMenu
import KE.KTextDict
import KE.KPathShort
import KE.KSplitRange
import KE.KKinds
import KE.KxPart
import KE.KRangeItem
import KE.KRangeNest
import KE.KSetAt
import KE.KxTruthy
import KE.KPairRows
import KE.KBytesMore
import KE.KRangePlain
import KE.KBitsMul
import KE.KTextTable
import KE.KForList
import KE.KIdxIf
import KE.KAssignIn
import KE.KFirstTurn
import KE.KOwnRange
import KE.KLooksOwn
import KE.KDictWord
import KE.KTurnsGround
import KE.KFinFacts
import KE.RegKTryOn
import KE.KCenter
import KE.KStrWords
import KE.KStateTextK
import KE.KStateWGiven
import KE.KCallTup
import KE.KTreeF
import KE.KEndWord
import KE.KStateBytes
import KE.KRangeEnd
import KE.KOf
import KE.KRepItem
import KE.KListLetter
import KE.KSliceSign
import KE.KToBytes
import KE.KPathText
import KE.KMinBuiltin
import KE.KFromBytes
import KE.KEqDat
import KE.KBytesUnr
import KE.KIsBytes
import KE.KCallRec
import KE.KEndW
import KE.RegLGeC
import Wide.FinOn
import Wide.FinOn
import PySem.Challenge.RW_pq0460_01
set_option Elab.async false
set_option maxRecDepth 100000
namespace Mine
section
open PySem PySem.W PyProof.Rows
set_option maxRecDepth 100000
set_option maxHeartbeats 8000000
noncomputable abbrev PG : Program := PySem.Challenge.rw_pq0460_01.row.prog
def stParts : Stmt → Arguments × List Stmt × Scope
  | .FunctionDef _ a b _ _ _ s _ _ _ => (a, b, s)
  | _ => (default, [], default)
def stBody : Stmt → List Stmt
  | .ClassDef _ _ _ b _ _ _ _ _ _ _ => b
  | _ => []
noncomputable def fnParts (p : Program) (i : Nat) (j : Option Nat) : Arguments × List Stmt × Scope :=
  match p.main.body[i]?, j with
  | some st, none => stParts st
  | some st, some j => (match (stBody st)[j]? with | some f => stParts f | none => (default, [], default))
  | none, _ => (default, [], default)
noncomputable def KH : Params → Frag := (fun (a0 : Arguments) (b0 : List Stmt) (s0 : Scope) (_ : fnParts PG 1 (some 0) = (a0, b0, s0)) (a1 : Arguments) (b1 : List Stmt) (s1 : Scope) (_ : fnParts PG 7 none = (a1, b1, s1)) (a2 : Arguments) (b2 : List Stmt) (s2 : Scope) (_ : fnParts PG 8 none = (a2, b2, s2)) (a3 : Arguments) (b3 : List Stmt) (s3 : Scope) (_ : fnParts PG 10 none = (a3, b3, s3)) (a4 : Arguments) (b4 : List Stmt) (s4 : Scope) (_ : fnParts PG 11 none = (a4, b4, s4)) (a5 : Arguments) (b5 : List Stmt) (s5 : Scope) (_ : fnParts PG 13 (some 0) = (a5, b5, s5)) (a6 : Arguments) (b6 : List Stmt) (s6 : Scope) (_ : fnParts PG 14 none = (a6, b6, s6)) (a7 : Arguments) (b7 : List Stmt) (s7 : Scope) (_ : fnParts PG 15 none = (a7, b7, s7)) (a8 : Arguments) (b8 : List Stmt) (s8 : Scope) (_ : fnParts PG 16 none = (a8, b8, s8)) (a9 : Arguments) (b9 : List Stmt) (s9 : Scope) (_ : fnParts PG 17 none = (a9, b9, s9)) (a10 : Arguments) (b10 : List Stmt) (s10 : Scope) (_ : fnParts PG 18 none = (a10, b10, s10)) (a11 : Arguments) (b11 : List Stmt) (s11 : Scope) (_ : fnParts PG 19 (some 0) = (a11, b11, s11)) (a12 : Arguments) (b12 : List Stmt) (s12 : Scope) (_ : fnParts PG 19 (some 1) = (a12, b12, s12)) (a13 : Arguments) (b13 : List Stmt) (s13 : Scope) (_ : fnParts PG 19 (some 2) = (a13, b13, s13)) (a14 : Arguments) (b14 : List Stmt) (s14 : Scope) (_ : fnParts PG 19 (some 3) = (a14, b14, s14)) (a15 : Arguments) (b15 : List Stmt) (s15 : Scope) (_ : fnParts PG 19 (some 4) = (a15, b15, s15)) (a16 : Arguments) (b16 : List Stmt) (s16 : Scope) (_ : fnParts PG 19 (some 5) = (a16, b16, s16)) (a17 : Arguments) (b17 : List Stmt) (s17 : Scope) (_ : fnParts PG 19 (some 6) = (a17, b17, s17)) (a18 : Arguments) (b18 : List Stmt) (s18 : Scope) (_ : fnParts PG 19 (some 7) = (a18, b18, s18)) (a19 : Arguments) (b19 : List Stmt) (s19 : Scope) (_ : fnParts PG 19 (some 8) = (a19, b19, s19)) (a20 : Arguments) (b20 : List Stmt) (s20 : Scope) (_ : fnParts PG 19 (some 9) = (a20, b20, s20)) (a21 : Arguments) (b21 : List Stmt) (s21 : Scope) (_ : fnParts PG 19 (some 10) = (a21, b21, s21)) (a22 : Arguments) (b22 : List Stmt) (s22 : Scope) (_ : fnParts PG 19 (some 11) = (a22, b22, s22)) (a23 : Arguments) (b23 : List Stmt) (s23 : Scope) (_ : fnParts PG 19 (some 12) = (a23, b23, s23)) (a24 : Arguments) (b24 : List Stmt) (s24 : Scope) (_ : fnParts PG 19 (some 13) = (a24, b24, s24)) (a25 : Arguments) (b25 : List Stmt) (s25 : Scope) (_ : fnParts PG 19 (some 14) = (a25, b25, s25)) (a26 : Arguments) (b26 : List Stmt) (s26 : Scope) (_ : fnParts PG 19 (some 15) = (a26, b26, s26)) (a27 : Arguments) (b27 : List Stmt) (s27 : Scope) (_ : fnParts PG 19 (some 16) = (a27, b27, s27)) (a28 : Arguments) (b28 : List Stmt) (s28 : Scope) (_ : fnParts PG 19 (some 17) = (a28, b28, s28)) (a29 : Arguments) (b29 : List Stmt) (s29 : Scope) (_ : fnParts PG 19 (some 18) = (a29, b29, s29)) (a30 : Arguments) (b30 : List Stmt) (s30 : Scope) (_ : fnParts PG 19 (some 19) = (a30, b30, s30)) (a31 : Arguments) (b31 : List Stmt) (s31 : Scope) (_ : fnParts PG 21 none = (a31, b31, s31)) (a32 : Arguments) (b32 : List Stmt) (s32 : Scope) (_ : fnParts PG 22 none = (a32, b32, s32)) (a33 : Arguments) (b33 : List Stmt) (s33 : Scope) (_ : fnParts PG 23 none = (a33, b33, s33)) (a34 : Arguments) (b34 : List Stmt) (s34 : Scope) (_ : fnParts PG 24 none = (a34, b34, s34)) (a35 : Arguments) (b35 : List Stmt) (s35 : Scope) (_ : fnParts PG 25 none = (a35, b35, s35)) => fun P =>
  (nat_lit 2, { cls := Value.none, data := Data.dict #[{ hash := PyData.keyHash P (Str.ofString "type.__subclasses__.Exception.0"), key := Value.str (Str.ofString "type.__subclasses__.Exception.0") 221, val := Value.int 32 0 }, { hash := PyData.keyHash P (Str.ofString "type.__subclasses__.Exception.n"), key := Value.str (Str.ofString "type.__subclasses__.Exception.n") 222, val := Value.int 1 0 }] 2 }) ::
  (nat_lit 3, { cls := Value.type "dict", data := Data.dict #[{ hash := PyData.keyHash P (Str.ofString "__name__"), key := Value.str (Str.ofString "__name__") 165, val := Value.str (Str.ofString "law_pq0460_01") 631 }, { hash := PyData.keyHash P (Str.ofString "__doc__"), key := Value.str (Str.ofString "__doc__") 166, val := Value.none }, { hash := PyData.keyHash P (Str.ofString "__package__"), key := Value.str (Str.ofString "__package__") 167, val := Value.none }, { hash := PyData.keyHash P (Str.ofString "__loader__"), key := Value.str (Str.ofString "__loader__") 168, val := Value.builtin "__main__.__loader__#opaque" }, { hash := PyData.keyHash P (Str.ofString "__spec__"), key := Value.str (Str.ofString "__spec__") 169, val := Value.none }, { hash := PyData.keyHash P (Str.ofString "__annotations__"), key := Value.str (Str.ofString "__annotations__") 170, val := Value.ref 6 }, { hash := PyData.keyHash P (Str.ofString "__builtins__"), key := Value.str (Str.ofString "__builtins__") 171, val := Value.ref 4 }, { hash := PyData.keyHash P (Str.ofString "__file__"), key := Value.str (Str.ofString "__file__") 173, val := Value.str (Str.ofString "/claim/cut.py") 172 }, { hash := PyData.keyHash P (Str.ofString "__cached__"), key := Value.str (Str.ofString "__cached__") 174, val := Value.none }, { hash := PyData.keyHash P (Str.ofString "GateloomError"), key := Value.str (Str.ofString "GateloomError") 224, val := Value.ref 32 }, { hash := PyData.keyHash P (Str.ofString "SourceError"), key := Value.str (Str.ofString "SourceError") 240, val := Value.ref 45 }, { hash := PyData.keyHash P (Str.ofString "DesignError"), key := Value.str (Str.ofString "DesignError") 256, val := Value.ref 57 }, { hash := PyData.keyHash P (Str.ofString "SynthError"), key := Value.str (Str.ofString "SynthError") 272, val := Value.ref 69 }, { hash := PyData.keyHash P (Str.ofString "FormatError"), key := Value.str (Str.ofString "FormatError") 288, val := Value.ref 81 }, { hash := PyData.keyHash P (Str.ofString "LimitReached"), key := Value.str (Str.ofString "LimitReached") 304, val := Value.ref 93 }, { hash := PyData.keyHash P (Str.ofString "place"), key := Value.str (Str.ofString "place") 315, val := Value.ref 102 }, { hash := PyData.keyHash P (Str.ofString "describe"), key := Value.str (Str.ofString "describe") 326, val := Value.ref 109 }, { hash := PyData.keyHash P (Str.ofString "keyword_words"), key := Value.str (Str.ofString "keyword_words") 334, val := Value.ref 116 }, { hash := PyData.keyHash P (Str.ofString "keywords"), key := Value.str (Str.ofString "keywords") 342, val := Value.ref 123 }, { hash := PyData.keyHash P (Str.ofString "Token"), key := Value.str (Str.ofString "Token") 377, val := Value.ref 140 }, { hash := PyData.keyHash P (Str.ofString "is_letter"), key := Value.str (Str.ofString "is_letter") 384, val := Value.ref 151 }, { hash := PyData.keyHash P (Str.ofString "is_digit"), key := Value.str (Str.ofString "is_digit") 391, val := Value.ref 158 }, { hash := PyData.keyHash P (Str.ofString "is_word_char"), key := Value.str (Str.ofString "is_word_char") 398, val := Value.ref 165 }, { hash := PyData.keyHash P (Str.ofString "is_layout"), key := Value.str (Str.ofString "is_layout") 405, val := Value.ref 172 }, { hash := PyData.keyHash P (Str.ofString "fits_base"), key := Value.str (Str.ofString "fits_base") 415, val := Value.ref 179 }, { hash := PyData.keyHash P (Str.ofString "Lexer"), key := Value.str (Str.ofString "Lexer") 630, val := Value.ref 330 }, { hash := PyData.keyHash P (Str.ofString "_law_piece"), key := Value.str (Str.ofString "_law_piece") 640, val := Value.ref 341 }, { hash := PyData.keyHash P (Str.ofString "_law_spot"), key := Value.str (Str.ofString "_law_spot") 651, val := Value.ref 348 }, { hash := PyData.keyHash P (Str.ofString "_law_fault"), key := Value.str (Str.ofString "_law_fault") 662, val := Value.ref 355 }, { hash := PyData.keyHash P (Str.ofString "_law_message"), key := Value.str (Str.ofString "_law_message") 672, val := Value.ref 362 }, { hash := PyData.keyHash P (Str.ofString "law"), key := Value.str (Str.ofString "law") 678, val := Value.ref 367 }] 31 }) ::
  (nat_lit 15, { cls := Value.type "tuple", data := Data.seq #[Value.type "Exception"] }) ::
  (nat_lit 22, { cls := Value.type "tuple", data := Data.seq #[Value.int (-1) 202, Value.str (Str.ofString "") 203] }) ::
  (nat_lit 23, { cls := Value.type "tuple", data := Data.seq #[] }) ::
  (nat_lit 25, { cls := Value.type "tuple", data := Data.seq #[Value.str (Str.ofString "self") 207, Value.str (Str.ofString "kind") 208, Value.str (Str.ofString "at") 209, Value.str (Str.ofString "detail") 210] }) ::
  (nat_lit 26, { cls := Value.type "tuple", data := Data.seq #[] }) ::
  (nat_lit 28, { cls := Value.type "code", data := Data.fields #[Value.str (Str.ofString "__init__") 204, Value.str (Str.ofString "GateloomError.__init__") 205, Value.str (Str.ofString "/claim/cut.py") 206, Value.int 4 0, Value.int 4 0, Value.int 0 0, Value.int 0 0, Value.int 3 0, Value.ref 23, Value.bool true, Value.int 181 0, Value.ref 24, Value.none, Value.ref 25, Value.ref 26, Value.ref 27, Value.int 211 0, Value.int 4 0, Value.str (Str.ofString "/claim/cut.py") 212] }) ::
  (nat_lit 29, { cls := Value.type "function", data := Data.func { name := Str.ofString "__init__", qualname := Str.ofString "GateloomError.__init__", params := a0, body := FuncBody.stmts b0, scope := s0, globals := 3, closure := [], defaults := Value.ref 22, kwdefaults := Value.none, pyModule := Value.str (Str.ofString "gateloom.errors") 187, code := Value.ref 28 } }) ::
  (nat_lit 30, { cls := Value.type "tuple", data := Data.seq #[Value.str (Str.ofString "at") 214, Value.str (Str.ofString "detail") 215, Value.str (Str.ofString "kind") 216] }) ::
  (nat_lit 31, { cls := Value.type "dict", data := Data.dict #[{ hash := PyData.keyHash P (Str.ofString "__module__"), key := Value.str (Str.ofString "__module__") 196, val := Value.str (Str.ofString "gateloom.errors") 187 }, { hash := PyData.keyHash P (Str.ofString "__firstlineno__"), key := Value.str (Str.ofString "__firstlineno__") 200, val := Value.int 2 199 }, { hash := PyData.keyHash P (Str.ofString "__init__"), key := Value.str (Str.ofString "__init__") 213, val := Value.ref 29 }, { hash := PyData.keyHash P (Str.ofString "__static_attributes__"), key := Value.str (Str.ofString "__static_attributes__") 217, val := Value.ref 30 }, { hash := PyData.keyHash P (Str.ofString "__weakref__"), key := Value.str (Str.ofString "__weakref__") 219, val := Value.ref 33 }, { hash := PyData.keyHash P (Str.ofString "__doc__"), key := Value.str (Str.ofString "__doc__") 220, val := Value.none }] 3 }) ::
  (nat_lit 32, { cls := Value.type "type", data := Data.cls { name := Str.ofString "GateloomError", bases := [Value.type "Exception"], mro := [Value.ref 32, Value.type "Exception", Value.type "BaseException", Value.type "object"], ns := 31, qualname := Str.ofString "GateloomError", subclasses := [Value.ref 45, Value.ref 57, Value.ref 69, Value.ref 81, Value.ref 93] }, slots := #[some (Value.ref 15), none, some (Value.str (Str.ofString "GateloomError") 189), some (Value.str (Str.ofString "GateloomError") 197), some (Value.builtin "Exception.__new__"), some (Value.bool true)] }) ::
  (nat_lit 33, { cls := Value.type "getset_descriptor", data := Data.fields #[Value.str (Str.ofString "__weakref__") 218, Value.ref 32, Value.builtin "ExceptionGroup.__weakref__", Value.none] }) ::
  (nat_lit 36, { cls := Value.type "tuple", data := Data.seq #[Value.ref 32] }) ::
  (nat_lit 43, { cls := Value.type "tuple", data := Data.seq #[] }) ::
  (nat_lit 44, { cls := Value.type "dict", data := Data.dict #[{ hash := PyData.keyHash P (Str.ofString "__module__"), key := Value.str (Str.ofString "__module__") 232, val := Value.str (Str.ofString "gateloom.errors") 187 }, { hash := PyData.keyHash P (Str.ofString "__firstlineno__"), key := Value.str (Str.ofString "__firstlineno__") 236, val := Value.int 8 235 }, { hash := PyData.keyHash P (Str.ofString "__static_attributes__"), key := Value.str (Str.ofString "__static_attributes__") 237, val := Value.ref 43 }, { hash := PyData.keyHash P (Str.ofString "__doc__"), key := Value.str (Str.ofString "__doc__") 238, val := Value.none }] 2 }) ::
  (nat_lit 45, { cls := Value.type "type", data := Data.cls { name := Str.ofString "SourceError", bases := [Value.ref 32], mro := [Value.ref 45, Value.ref 32, Value.type "Exception", Value.type "BaseException", Value.type "object"], ns := 44, qualname := Str.ofString "SourceError" }, slots := #[some (Value.ref 36), none, some (Value.str (Str.ofString "SourceError") 225), some (Value.str (Str.ofString "SourceError") 233), some (Value.builtin "Exception.__new__"), some (Value.bool true)] }) ::
  (nat_lit 48, { cls := Value.type "tuple", data := Data.seq #[Value.ref 32] }) ::
  (nat_lit 55, { cls := Value.type "tuple", data := Data.seq #[] }) ::
  (nat_lit 56, { cls := Value.type "dict", data := Data.dict #[{ hash := PyData.keyHash P (Str.ofString "__module__"), key := Value.str (Str.ofString "__module__") 248, val := Value.str (Str.ofString "gateloom.errors") 187 }, { hash := PyData.keyHash P (Str.ofString "__firstlineno__"), key := Value.str (Str.ofString "__firstlineno__") 252, val := Value.int 10 251 }, { hash := PyData.keyHash P (Str.ofString "__static_attributes__"), key := Value.str (Str.ofString "__static_attributes__") 253, val := Value.ref 55 }, { hash := PyData.keyHash P (Str.ofString "__doc__"), key := Value.str (Str.ofString "__doc__") 254, val := Value.none }] 2 }) ::
  (nat_lit 57, { cls := Value.type "type", data := Data.cls { name := Str.ofString "DesignError", bases := [Value.ref 32], mro := [Value.ref 57, Value.ref 32, Value.type "Exception", Value.type "BaseException", Value.type "object"], ns := 56, qualname := Str.ofString "DesignError" }, slots := #[some (Value.ref 48), none, some (Value.str (Str.ofString "DesignError") 241), some (Value.str (Str.ofString "DesignError") 249), some (Value.builtin "Exception.__new__"), some (Value.bool true)] }) ::
  (nat_lit 60, { cls := Value.type "tuple", data := Data.seq #[Value.ref 32] }) ::
  (nat_lit 67, { cls := Value.type "tuple", data := Data.seq #[] }) ::
  (nat_lit 68, { cls := Value.type "dict", data := Data.dict #[{ hash := PyData.keyHash P (Str.ofString "__module__"), key := Value.str (Str.ofString "__module__") 264, val := Value.str (Str.ofString "gateloom.errors") 187 }, { hash := PyData.keyHash P (Str.ofString "__firstlineno__"), key := Value.str (Str.ofString "__firstlineno__") 268, val := Value.int 12 267 }, { hash := PyData.keyHash P (Str.ofString "__static_attributes__"), key := Value.str (Str.ofString "__static_attributes__") 269, val := Value.ref 67 }, { hash := PyData.keyHash P (Str.ofString "__doc__"), key := Value.str (Str.ofString "__doc__") 270, val := Value.none }] 2 }) ::
  (nat_lit 69, { cls := Value.type "type", data := Data.cls { name := Str.ofString "SynthError", bases := [Value.ref 32], mro := [Value.ref 69, Value.ref 32, Value.type "Exception", Value.type "BaseException", Value.type "object"], ns := 68, qualname := Str.ofString "SynthError" }, slots := #[some (Value.ref 60), none, some (Value.str (Str.ofString "SynthError") 257), some (Value.str (Str.ofString "SynthError") 265), some (Value.builtin "Exception.__new__"), some (Value.bool true)] }) ::
  (nat_lit 72, { cls := Value.type "tuple", data := Data.seq #[Value.ref 32] }) ::
  (nat_lit 79, { cls := Value.type "tuple", data := Data.seq #[] }) ::
  (nat_lit 80, { cls := Value.type "dict", data := Data.dict #[{ hash := PyData.keyHash P (Str.ofString "__module__"), key := Value.str (Str.ofString "__module__") 280, val := Value.str (Str.ofString "gateloom.errors") 187 }, { hash := PyData.keyHash P (Str.ofString "__firstlineno__"), key := Value.str (Str.ofString "__firstlineno__") 284, val := Value.int 14 283 }, { hash := PyData.keyHash P (Str.ofString "__static_attributes__"), key := Value.str (Str.ofString "__static_attributes__") 285, val := Value.ref 79 }, { hash := PyData.keyHash P (Str.ofString "__doc__"), key := Value.str (Str.ofString "__doc__") 286, val := Value.none }] 2 }) ::
  (nat_lit 81, { cls := Value.type "type", data := Data.cls { name := Str.ofString "FormatError", bases := [Value.ref 32], mro := [Value.ref 81, Value.ref 32, Value.type "Exception", Value.type "BaseException", Value.type "object"], ns := 80, qualname := Str.ofString "FormatError" }, slots := #[some (Value.ref 72), none, some (Value.str (Str.ofString "FormatError") 273), some (Value.str (Str.ofString "FormatError") 281), some (Value.builtin "Exception.__new__"), some (Value.bool true)] }) ::
  (nat_lit 84, { cls := Value.type "tuple", data := Data.seq #[Value.ref 32] }) ::
  (nat_lit 91, { cls := Value.type "tuple", data := Data.seq #[] }) ::
  (nat_lit 92, { cls := Value.type "dict", data := Data.dict #[{ hash := PyData.keyHash P (Str.ofString "__module__"), key := Value.str (Str.ofString "__module__") 296, val := Value.str (Str.ofString "gateloom.errors") 187 }, { hash := PyData.keyHash P (Str.ofString "__firstlineno__"), key := Value.str (Str.ofString "__firstlineno__") 300, val := Value.int 16 299 }, { hash := PyData.keyHash P (Str.ofString "__static_attributes__"), key := Value.str (Str.ofString "__static_attributes__") 301, val := Value.ref 91 }, { hash := PyData.keyHash P (Str.ofString "__doc__"), key := Value.str (Str.ofString "__doc__") 302, val := Value.none }] 2 }) ::
  (nat_lit 93, { cls := Value.type "type", data := Data.cls { name := Str.ofString "LimitReached", bases := [Value.ref 32], mro := [Value.ref 93, Value.ref 32, Value.type "Exception", Value.type "BaseException", Value.type "object"], ns := 92, qualname := Str.ofString "LimitReached" }, slots := #[some (Value.ref 84), none, some (Value.str (Str.ofString "LimitReached") 289), some (Value.str (Str.ofString "LimitReached") 297), some (Value.builtin "Exception.__new__"), some (Value.bool true)] }) ::
  (nat_lit 96, { cls := Value.type "tuple", data := Data.seq #[] }) ::
  (nat_lit 98, { cls := Value.type "tuple", data := Data.seq #[Value.str (Str.ofString "text") 308, Value.str (Str.ofString "at") 309, Value.str (Str.ofString "row") 310, Value.str (Str.ofString "start") 311, Value.str (Str.ofString "i") 312] }) ::
  (nat_lit 99, { cls := Value.type "tuple", data := Data.seq #[] }) ::
  (nat_lit 101, { cls := Value.type "code", data := Data.fields #[Value.str (Str.ofString "place") 305, Value.str (Str.ofString "place") 306, Value.str (Str.ofString "/claim/cut.py") 307, Value.int 18 0, Value.int 2 0, Value.int 0 0, Value.int 0 0, Value.int 3 0, Value.ref 96, Value.bool true, Value.int 181 0, Value.ref 97, Value.none, Value.ref 98, Value.ref 99, Value.ref 100, Value.int 313 0, Value.int 18 0, Value.str (Str.ofString "/claim/cut.py") 314] }) ::
  (nat_lit 102, { cls := Value.type "function", data := Data.func { name := Str.ofString "place", qualname := Str.ofString "place", params := a1, body := FuncBody.stmts b1, scope := s1, globals := 3, closure := [], defaults := Value.none, kwdefaults := Value.none, pyModule := Value.str (Str.ofString "gateloom.errors") 187, code := Value.ref 101 } }) ::
  (nat_lit 103, { cls := Value.type "tuple", data := Data.seq #[] }) ::
  (nat_lit 105, { cls := Value.type "tuple", data := Data.seq #[Value.str (Str.ofString "error") 319, Value.str (Str.ofString "text") 320, Value.str (Str.ofString "message") 321, Value.str (Str.ofString "row") 322, Value.str (Str.ofString "column") 323] }) ::
  (nat_lit 106, { cls := Value.type "tuple", data := Data.seq #[] }) ::
  (nat_lit 108, { cls := Value.type "code", data := Data.fields #[Value.str (Str.ofString "describe") 316, Value.str (Str.ofString "describe") 317, Value.str (Str.ofString "/claim/cut.py") 318, Value.int 26 0, Value.int 2 0, Value.int 0 0, Value.int 0 0, Value.int 3 0, Value.ref 103, Value.bool true, Value.int 181 0, Value.ref 104, Value.none, Value.ref 105, Value.ref 106, Value.ref 107, Value.int 324 0, Value.int 26 0, Value.str (Str.ofString "/claim/cut.py") 325] }) ::
  (nat_lit 109, { cls := Value.type "function", data := Data.func { name := Str.ofString "describe", qualname := Str.ofString "describe", params := a2, body := FuncBody.stmts b2, scope := s2, globals := 3, closure := [], defaults := Value.none, kwdefaults := Value.none, pyModule := Value.str (Str.ofString "gateloom.errors") 187, code := Value.ref 108 } }) ::
  (nat_lit 110, { cls := Value.type "tuple", data := Data.seq #[] }) ::
  (nat_lit 112, { cls := Value.type "tuple", data := Data.seq #[] }) ::
  (nat_lit 113, { cls := Value.type "tuple", data := Data.seq #[] }) ::
  (nat_lit 115, { cls := Value.type "code", data := Data.fields #[Value.str (Str.ofString "keyword_words") 329, Value.str (Str.ofString "keyword_words") 330, Value.str (Str.ofString "/claim/cut.py") 331, Value.int 35 0, Value.int 0 0, Value.int 0 0, Value.int 0 0, Value.int 3 0, Value.ref 110, Value.bool true, Value.int 181 0, Value.ref 111, Value.none, Value.ref 112, Value.ref 113, Value.ref 114, Value.int 332 0, Value.int 35 0, Value.str (Str.ofString "/claim/cut.py") 333] }) ::
  (nat_lit 116, { cls := Value.type "function", data := Data.func { name := Str.ofString "keyword_words", qualname := Str.ofString "keyword_words", params := a3, body := FuncBody.stmts b3, scope := s3, globals := 3, closure := [], defaults := Value.none, kwdefaults := Value.none, pyModule := Value.str (Str.ofString "gateloom.keywords") 327, code := Value.ref 115 } }) ::
  (nat_lit 117, { cls := Value.type "tuple", data := Data.seq #[] }) ::
  (nat_lit 119, { cls := Value.type "tuple", data := Data.seq #[Value.str (Str.ofString "found") 338, Value.str (Str.ofString "word") 339] }) ::
  (nat_lit 120, { cls := Value.type "tuple", data := Data.seq #[] }) ::
  (nat_lit 122, { cls := Value.type "code", data := Data.fields #[Value.str (Str.ofString "keywords") 335, Value.str (Str.ofString "keywords") 336, Value.str (Str.ofString "/claim/cut.py") 337, Value.int 37 0, Value.int 0 0, Value.int 0 0, Value.int 0 0, Value.int 3 0, Value.ref 117, Value.bool true, Value.int 181 0, Value.ref 118, Value.none, Value.ref 119, Value.ref 120, Value.ref 121, Value.int 340 0, Value.int 37 0, Value.str (Str.ofString "/claim/cut.py") 341] }) ::
  (nat_lit 123, { cls := Value.type "function", data := Data.func { name := Str.ofString "keywords", qualname := Str.ofString "keywords", params := a4, body := FuncBody.stmts b4, scope := s4, globals := 3, closure := [], defaults := Value.none, kwdefaults := Value.none, pyModule := Value.str (Str.ofString "gateloom.keywords") 327, code := Value.ref 122 } }) ::
  (nat_lit 131, { cls := Value.type "tuple", data := Data.seq #[] }) ::
  (nat_lit 133, { cls := Value.type "tuple", data := Data.seq #[Value.str (Str.ofString "self") 360, Value.str (Str.ofString "kind") 361, Value.str (Str.ofString "value") 362, Value.str (Str.ofString "at") 363] }) ::
  (nat_lit 134, { cls := Value.type "tuple", data := Data.seq #[] }) ::
  (nat_lit 136, { cls := Value.type "code", data := Data.fields #[Value.str (Str.ofString "__init__") 357, Value.str (Str.ofString "Token.__init__") 358, Value.str (Str.ofString "/claim/cut.py") 359, Value.int 45 0, Value.int 4 0, Value.int 0 0, Value.int 0 0, Value.int 3 0, Value.ref 131, Value.bool true, Value.int 181 0, Value.ref 132, Value.none, Value.ref 133, Value.ref 134, Value.ref 135, Value.int 364 0, Value.int 45 0, Value.str (Str.ofString "/claim/cut.py") 365] }) ::
  (nat_lit 137, { cls := Value.type "function", data := Data.func { name := Str.ofString "__init__", qualname := Str.ofString "Token.__init__", params := a5, body := FuncBody.stmts b5, scope := s5, globals := 3, closure := [], defaults := Value.none, kwdefaults := Value.none, pyModule := Value.str (Str.ofString "gateloom.tokens") 343, code := Value.ref 136 } }) ::
  (nat_lit 138, { cls := Value.type "tuple", data := Data.seq #[Value.str (Str.ofString "at") 367, Value.str (Str.ofString "kind") 368, Value.str (Str.ofString "value") 369] }) ::
  (nat_lit 139, { cls := Value.type "dict", data := Data.dict #[{ hash := PyData.keyHash P (Str.ofString "__module__"), key := Value.str (Str.ofString "__module__") 352, val := Value.str (Str.ofString "gateloom.tokens") 343 }, { hash := PyData.keyHash P (Str.ofString "__firstlineno__"), key := Value.str (Str.ofString "__firstlineno__") 356, val := Value.int 43 355 }, { hash := PyData.keyHash P (Str.ofString "__init__"), key := Value.str (Str.ofString "__init__") 366, val := Value.ref 137 }, { hash := PyData.keyHash P (Str.ofString "__static_attributes__"), key := Value.str (Str.ofString "__static_attributes__") 370, val := Value.ref 138 }, { hash := PyData.keyHash P (Str.ofString "__dict__"), key := Value.str (Str.ofString "__dict__") 372, val := Value.ref 141 }, { hash := PyData.keyHash P (Str.ofString "__weakref__"), key := Value.str (Str.ofString "__weakref__") 374, val := Value.ref 142 }, { hash := PyData.keyHash P (Str.ofString "__doc__"), key := Value.str (Str.ofString "__doc__") 375, val := Value.none }] 4 }) ::
  (nat_lit 140, { cls := Value.type "type", data := Data.cls { name := Str.ofString "Token", bases := [Value.type "object"], mro := [Value.ref 140, Value.type "object"], ns := 139, qualname := Str.ofString "Token" }, slots := #[none, none, some (Value.str (Str.ofString "Token") 345), some (Value.str (Str.ofString "Token") 353), some (Value.builtin "object.__new__"), some (Value.bool true)] }) ::
  (nat_lit 141, { cls := Value.type "getset_descriptor", data := Data.fields #[Value.str (Str.ofString "__dict__") 371, Value.ref 140, Value.builtin "function.__dict__", Value.builtin "function.__dict__#set"] }) ::
  (nat_lit 142, { cls := Value.type "getset_descriptor", data := Data.fields #[Value.str (Str.ofString "__weakref__") 373, Value.ref 140, Value.builtin "ExceptionGroup.__weakref__", Value.none] }) ::
  (nat_lit 145, { cls := Value.type "tuple", data := Data.seq #[] }) ::
  (nat_lit 147, { cls := Value.type "tuple", data := Data.seq #[Value.str (Str.ofString "char") 381] }) ::
  (nat_lit 148, { cls := Value.type "tuple", data := Data.seq #[] }) ::
  (nat_lit 150, { cls := Value.type "code", data := Data.fields #[Value.str (Str.ofString "is_letter") 378, Value.str (Str.ofString "is_letter") 379, Value.str (Str.ofString "/claim/cut.py") 380, Value.int 49 0, Value.int 1 0, Value.int 0 0, Value.int 0 0, Value.int 3 0, Value.ref 145, Value.bool true, Value.int 181 0, Value.ref 146, Value.none, Value.ref 147, Value.ref 148, Value.ref 149, Value.int 382 0, Value.int 49 0, Value.str (Str.ofString "/claim/cut.py") 383] }) ::
  (nat_lit 151, { cls := Value.type "function", data := Data.func { name := Str.ofString "is_letter", qualname := Str.ofString "is_letter", params := a6, body := FuncBody.stmts b6, scope := s6, globals := 3, closure := [], defaults := Value.none, kwdefaults := Value.none, pyModule := Value.str (Str.ofString "gateloom.tokens") 343, code := Value.ref 150 } }) ::
  (nat_lit 152, { cls := Value.type "tuple", data := Data.seq #[] }) ::
  (nat_lit 154, { cls := Value.type "tuple", data := Data.seq #[Value.str (Str.ofString "char") 388] }) ::
  (nat_lit 155, { cls := Value.type "tuple", data := Data.seq #[] }) ::
  (nat_lit 157, { cls := Value.type "code", data := Data.fields #[Value.str (Str.ofString "is_digit") 385, Value.str (Str.ofString "is_digit") 386, Value.str (Str.ofString "/claim/cut.py") 387, Value.int 51 0, Value.int 1 0, Value.int 0 0, Value.int 0 0, Value.int 3 0, Value.ref 152, Value.bool true, Value.int 181 0, Value.ref 153, Value.none, Value.ref 154, Value.ref 155, Value.ref 156, Value.int 389 0, Value.int 51 0, Value.str (Str.ofString "/claim/cut.py") 390] }) ::
  (nat_lit 158, { cls := Value.type "function", data := Data.func { name := Str.ofString "is_digit", qualname := Str.ofString "is_digit", params := a7, body := FuncBody.stmts b7, scope := s7, globals := 3, closure := [], defaults := Value.none, kwdefaults := Value.none, pyModule := Value.str (Str.ofString "gateloom.tokens") 343, code := Value.ref 157 } }) ::
  (nat_lit 159, { cls := Value.type "tuple", data := Data.seq #[] }) ::
  (nat_lit 161, { cls := Value.type "tuple", data := Data.seq #[Value.str (Str.ofString "char") 395] }) ::
  (nat_lit 162, { cls := Value.type "tuple", data := Data.seq #[] }) ::
  (nat_lit 164, { cls := Value.type "code", data := Data.fields #[Value.str (Str.ofString "is_word_char") 392, Value.str (Str.ofString "is_word_char") 393, Value.str (Str.ofString "/claim/cut.py") 394, Value.int 53 0, Value.int 1 0, Value.int 0 0, Value.int 0 0, Value.int 3 0, Value.ref 159, Value.bool true, Value.int 181 0, Value.ref 160, Value.none, Value.ref 161, Value.ref 162, Value.ref 163, Value.int 396 0, Value.int 53 0, Value.str (Str.ofString "/claim/cut.py") 397] }) ::
  (nat_lit 165, { cls := Value.type "function", data := Data.func { name := Str.ofString "is_word_char", qualname := Str.ofString "is_word_char", params := a8, body := FuncBody.stmts b8, scope := s8, globals := 3, closure := [], defaults := Value.none, kwdefaults := Value.none, pyModule := Value.str (Str.ofString "gateloom.tokens") 343, code := Value.ref 164 } }) ::
  (nat_lit 166, { cls := Value.type "tuple", data := Data.seq #[] }) ::
  (nat_lit 168, { cls := Value.type "tuple", data := Data.seq #[Value.str (Str.ofString "char") 402] }) ::
  (nat_lit 169, { cls := Value.type "tuple", data := Data.seq #[] }) ::
  (nat_lit 171, { cls := Value.type "code", data := Data.fields #[Value.str (Str.ofString "is_layout") 399, Value.str (Str.ofString "is_layout") 400, Value.str (Str.ofString "/claim/cut.py") 401, Value.int 55 0, Value.int 1 0, Value.int 0 0, Value.int 0 0, Value.int 3 0, Value.ref 166, Value.bool true, Value.int 181 0, Value.ref 167, Value.none, Value.ref 168, Value.ref 169, Value.ref 170, Value.int 403 0, Value.int 55 0, Value.str (Str.ofString "/claim/cut.py") 404] }) ::
  (nat_lit 172, { cls := Value.type "function", data := Data.func { name := Str.ofString "is_layout", qualname := Str.ofString "is_layout", params := a9, body := FuncBody.stmts b9, scope := s9, globals := 3, closure := [], defaults := Value.none, kwdefaults := Value.none, pyModule := Value.str (Str.ofString "gateloom.tokens") 343, code := Value.ref 171 } }) ::
  (nat_lit 173, { cls := Value.type "tuple", data := Data.seq #[] }) ::
  (nat_lit 175, { cls := Value.type "tuple", data := Data.seq #[Value.str (Str.ofString "base") 409, Value.str (Str.ofString "digits") 410, Value.str (Str.ofString "allowed") 411, Value.str (Str.ofString "digit") 412] }) ::
  (nat_lit 176, { cls := Value.type "tuple", data := Data.seq #[] }) ::
  (nat_lit 178, { cls := Value.type "code", data := Data.fields #[Value.str (Str.ofString "fits_base") 406, Value.str (Str.ofString "fits_base") 407, Value.str (Str.ofString "/claim/cut.py") 408, Value.int 57 0, Value.int 2 0, Value.int 0 0, Value.int 0 0, Value.int 3 0, Value.ref 173, Value.bool true, Value.int 181 0, Value.ref 174, Value.none, Value.ref 175, Value.ref 176, Value.ref 177, Value.int 413 0, Value.int 57 0, Value.str (Str.ofString "/claim/cut.py") 414] }) ::
  (nat_lit 179, { cls := Value.type "function", data := Data.func { name := Str.ofString "fits_base", qualname := Str.ofString "fits_base", params := a10, body := FuncBody.stmts b10, scope := s10, globals := 3, closure := [], defaults := Value.none, kwdefaults := Value.none, pyModule := Value.str (Str.ofString "gateloom.tokens") 343, code := Value.ref 178 } }) ::
  (nat_lit 187, { cls := Value.type "tuple", data := Data.seq #[Value.int 0 428] }) ::
  (nat_lit 188, { cls := Value.type "tuple", data := Data.seq #[] }) ::
  (nat_lit 190, { cls := Value.type "tuple", data := Data.seq #[Value.str (Str.ofString "self") 432, Value.str (Str.ofString "text") 433, Value.str (Str.ofString "at") 434] }) ::
  (nat_lit 191, { cls := Value.type "tuple", data := Data.seq #[] }) ::
  (nat_lit 193, { cls := Value.type "code", data := Data.fields #[Value.str (Str.ofString "__init__") 429, Value.str (Str.ofString "Lexer.__init__") 430, Value.str (Str.ofString "/claim/cut.py") 431, Value.int 75 0, Value.int 3 0, Value.int 0 0, Value.int 0 0, Value.int 3 0, Value.ref 188, Value.bool true, Value.int 181 0, Value.ref 189, Value.none, Value.ref 190, Value.ref 191, Value.ref 192, Value.int 435 0, Value.int 75 0, Value.str (Str.ofString "/claim/cut.py") 436] }) ::
  (nat_lit 194, { cls := Value.type "function", data := Data.func { name := Str.ofString "__init__", qualname := Str.ofString "Lexer.__init__", params := a11, body := FuncBody.stmts b11, scope := s11, globals := 3, closure := [], defaults := Value.ref 187, kwdefaults := Value.none, pyModule := Value.str (Str.ofString "gateloom.tokens") 343, code := Value.ref 193 } }) ::
  (nat_lit 195, { cls := Value.type "tuple", data := Data.seq #[] }) ::
  (nat_lit 197, { cls := Value.type "tuple", data := Data.seq #[Value.str (Str.ofString "self") 441, Value.str (Str.ofString "index") 442] }) ::
  (nat_lit 198, { cls := Value.type "tuple", data := Data.seq #[] }) ::
  (nat_lit 200, { cls := Value.type "code", data := Data.fields #[Value.str (Str.ofString "char") 438, Value.str (Str.ofString "Lexer.char") 439, Value.str (Str.ofString "/claim/cut.py") 440, Value.int 81 0, Value.int 2 0, Value.int 0 0, Value.int 0 0, Value.int 3 0, Value.ref 195, Value.bool true, Value.int 181 0, Value.ref 196, Value.none, Value.ref 197, Value.ref 198, Value.ref 199, Value.int 443 0, Value.int 81 0, Value.str (Str.ofString "/claim/cut.py") 444] }) ::
  (nat_lit 201, { cls := Value.type "function", data := Data.func { name := Str.ofString "char", qualname := Str.ofString "Lexer.char", params := a12, body := FuncBody.stmts b12, scope := s12, globals := 3, closure := [], defaults := Value.none, kwdefaults := Value.none, pyModule := Value.str (Str.ofString "gateloom.tokens") 343, code := Value.ref 200 } }) ::
  (nat_lit 202, { cls := Value.type "tuple", data := Data.seq #[] }) ::
  (nat_lit 204, { cls := Value.type "tuple", data := Data.seq #[Value.str (Str.ofString "self") 449, Value.str (Str.ofString "index") 450] }) ::
  (nat_lit 205, { cls := Value.type "tuple", data := Data.seq #[] }) ::
  (nat_lit 207, { cls := Value.type "code", data := Data.fields #[Value.str (Str.ofString "pair") 446, Value.str (Str.ofString "Lexer.pair") 447, Value.str (Str.ofString "/claim/cut.py") 448, Value.int 84 0, Value.int 2 0, Value.int 0 0, Value.int 0 0, Value.int 3 0, Value.ref 202, Value.bool true, Value.int 181 0, Value.ref 203, Value.none, Value.ref 204, Value.ref 205, Value.ref 206, Value.int 451 0, Value.int 84 0, Value.str (Str.ofString "/claim/cut.py") 452] }) ::
  (nat_lit 208, { cls := Value.type "function", data := Data.func { name := Str.ofString "pair", qualname := Str.ofString "Lexer.pair", params := a13, body := FuncBody.stmts b13, scope := s13, globals := 3, closure := [], defaults := Value.none, kwdefaults := Value.none, pyModule := Value.str (Str.ofString "gateloom.tokens") 343, code := Value.ref 207 } }) ::
  (nat_lit 209, { cls := Value.type "tuple", data := Data.seq #[] }) ::
  (nat_lit 211, { cls := Value.type "tuple", data := Data.seq #[Value.str (Str.ofString "self") 457, Value.str (Str.ofString "index") 458] }) ::
  (nat_lit 212, { cls := Value.type "tuple", data := Data.seq #[] }) ::
  (nat_lit 214, { cls := Value.type "code", data := Data.fields #[Value.str (Str.ofString "past_layout") 454, Value.str (Str.ofString "Lexer.past_layout") 455, Value.str (Str.ofString "/claim/cut.py") 456, Value.int 87 0, Value.int 2 0, Value.int 0 0, Value.int 0 0, Value.int 3 0, Value.ref 209, Value.bool true, Value.int 181 0, Value.ref 210, Value.none, Value.ref 211, Value.ref 212, Value.ref 213, Value.int 459 0, Value.int 87 0, Value.str (Str.ofString "/claim/cut.py") 460] }) ::
  (nat_lit 215, { cls := Value.type "function", data := Data.func { name := Str.ofString "past_layout", qualname := Str.ofString "Lexer.past_layout", params := a14, body := FuncBody.stmts b14, scope := s14, globals := 3, closure := [], defaults := Value.none, kwdefaults := Value.none, pyModule := Value.str (Str.ofString "gateloom.tokens") 343, code := Value.ref 214 } }) ::
  (nat_lit 216, { cls := Value.type "tuple", data := Data.seq #[] }) ::
  (nat_lit 218, { cls := Value.type "tuple", data := Data.seq #[Value.str (Str.ofString "self") 465, Value.str (Str.ofString "index") 466, Value.str (Str.ofString "begin") 467, Value.str (Str.ofString "end") 468] }) ::
  (nat_lit 219, { cls := Value.type "tuple", data := Data.seq #[] }) ::
  (nat_lit 221, { cls := Value.type "code", data := Data.fields #[Value.str (Str.ofString "past_gap") 462, Value.str (Str.ofString "Lexer.past_gap") 463, Value.str (Str.ofString "/claim/cut.py") 464, Value.int 92 0, Value.int 2 0, Value.int 0 0, Value.int 0 0, Value.int 3 0, Value.ref 216, Value.bool true, Value.int 181 0, Value.ref 217, Value.none, Value.ref 218, Value.ref 219, Value.ref 220, Value.int 469 0, Value.int 92 0, Value.str (Str.ofString "/claim/cut.py") 470] }) ::
  (nat_lit 222, { cls := Value.type "function", data := Data.func { name := Str.ofString "past_gap", qualname := Str.ofString "Lexer.past_gap", params := a15, body := FuncBody.stmts b15, scope := s15, globals := 3, closure := [], defaults := Value.none, kwdefaults := Value.none, pyModule := Value.str (Str.ofString "gateloom.tokens") 343, code := Value.ref 221 } }) ::
  (nat_lit 223, { cls := Value.type "tuple", data := Data.seq #[] }) ::
  (nat_lit 225, { cls := Value.type "tuple", data := Data.seq #[Value.str (Str.ofString "self") 475, Value.str (Str.ofString "at") 476, Value.str (Str.ofString "char") 477] }) ::
  (nat_lit 226, { cls := Value.type "tuple", data := Data.seq #[] }) ::
  (nat_lit 228, { cls := Value.type "code", data := Data.fields #[Value.str (Str.ofString "next_token") 472, Value.str (Str.ofString "Lexer.next_token") 473, Value.str (Str.ofString "/claim/cut.py") 474, Value.int 104 0, Value.int 1 0, Value.int 0 0, Value.int 0 0, Value.int 3 0, Value.ref 223, Value.bool true, Value.int 181 0, Value.ref 224, Value.none, Value.ref 225, Value.ref 226, Value.ref 227, Value.int 478 0, Value.int 104 0, Value.str (Str.ofString "/claim/cut.py") 479] }) ::
  (nat_lit 229, { cls := Value.type "function", data := Data.func { name := Str.ofString "next_token", qualname := Str.ofString "Lexer.next_token", params := a16, body := FuncBody.stmts b16, scope := s16, globals := 3, closure := [], defaults := Value.none, kwdefaults := Value.none, pyModule := Value.str (Str.ofString "gateloom.tokens") 343, code := Value.ref 228 } }) ::
  (nat_lit 230, { cls := Value.type "tuple", data := Data.seq #[] }) ::
  (nat_lit 232, { cls := Value.type "tuple", data := Data.seq #[Value.str (Str.ofString "self") 484, Value.str (Str.ofString "char") 485, Value.str (Str.ofString "pair") 486] }) ::
  (nat_lit 233, { cls := Value.type "tuple", data := Data.seq #[] }) ::
  (nat_lit 235, { cls := Value.type "code", data := Data.fields #[Value.str (Str.ofString "skip") 481, Value.str (Str.ofString "Lexer.skip") 482, Value.str (Str.ofString "/claim/cut.py") 483, Value.int 124 0, Value.int 1 0, Value.int 0 0, Value.int 0 0, Value.int 3 0, Value.ref 230, Value.bool true, Value.int 181 0, Value.ref 231, Value.none, Value.ref 232, Value.ref 233, Value.ref 234, Value.int 487 0, Value.int 124 0, Value.str (Str.ofString "/claim/cut.py") 488] }) ::
  (nat_lit 236, { cls := Value.type "function", data := Data.func { name := Str.ofString "skip", qualname := Str.ofString "Lexer.skip", params := a17, body := FuncBody.stmts b17, scope := s17, globals := 3, closure := [], defaults := Value.none, kwdefaults := Value.none, pyModule := Value.str (Str.ofString "gateloom.tokens") 343, code := Value.ref 235 } }) ::
  (nat_lit 237, { cls := Value.type "tuple", data := Data.seq #[] }) ::
  (nat_lit 239, { cls := Value.type "tuple", data := Data.seq #[Value.str (Str.ofString "self") 493] }) ::
  (nat_lit 240, { cls := Value.type "tuple", data := Data.seq #[] }) ::
  (nat_lit 242, { cls := Value.type "code", data := Data.fields #[Value.str (Str.ofString "skip_row") 490, Value.str (Str.ofString "Lexer.skip_row") 491, Value.str (Str.ofString "/claim/cut.py") 492, Value.int 139 0, Value.int 1 0, Value.int 0 0, Value.int 0 0, Value.int 3 0, Value.ref 237, Value.bool true, Value.int 181 0, Value.ref 238, Value.none, Value.ref 239, Value.ref 240, Value.ref 241, Value.int 494 0, Value.int 139 0, Value.str (Str.ofString "/claim/cut.py") 495] }) ::
  (nat_lit 243, { cls := Value.type "function", data := Data.func { name := Str.ofString "skip_row", qualname := Str.ofString "Lexer.skip_row", params := a18, body := FuncBody.stmts b18, scope := s18, globals := 3, closure := [], defaults := Value.none, kwdefaults := Value.none, pyModule := Value.str (Str.ofString "gateloom.tokens") 343, code := Value.ref 242 } }) ::
  (nat_lit 244, { cls := Value.type "tuple", data := Data.seq #[] }) ::
  (nat_lit 246, { cls := Value.type "tuple", data := Data.seq #[Value.str (Str.ofString "self") 500, Value.str (Str.ofString "begun") 501] }) ::
  (nat_lit 247, { cls := Value.type "tuple", data := Data.seq #[] }) ::
  (nat_lit 249, { cls := Value.type "code", data := Data.fields #[Value.str (Str.ofString "skip_remark") 497, Value.str (Str.ofString "Lexer.skip_remark") 498, Value.str (Str.ofString "/claim/cut.py") 499, Value.int 143 0, Value.int 1 0, Value.int 0 0, Value.int 0 0, Value.int 3 0, Value.ref 244, Value.bool true, Value.int 181 0, Value.ref 245, Value.none, Value.ref 246, Value.ref 247, Value.ref 248, Value.int 502 0, Value.int 143 0, Value.str (Str.ofString "/claim/cut.py") 503] }) ::
  (nat_lit 250, { cls := Value.type "function", data := Data.func { name := Str.ofString "skip_remark", qualname := Str.ofString "Lexer.skip_remark", params := a19, body := FuncBody.stmts b19, scope := s19, globals := 3, closure := [], defaults := Value.none, kwdefaults := Value.none, pyModule := Value.str (Str.ofString "gateloom.tokens") 343, code := Value.ref 249 } }) ::
  (nat_lit 251, { cls := Value.type "tuple", data := Data.seq #[] }) ::
  (nat_lit 253, { cls := Value.type "tuple", data := Data.seq #[Value.str (Str.ofString "self") 508, Value.str (Str.ofString "begun") 509, Value.str (Str.ofString "quoted") 510, Value.str (Str.ofString "char") 511] }) ::
  (nat_lit 254, { cls := Value.type "tuple", data := Data.seq #[] }) ::
  (nat_lit 256, { cls := Value.type "code", data := Data.fields #[Value.str (Str.ofString "skip_attribute") 505, Value.str (Str.ofString "Lexer.skip_attribute") 506, Value.str (Str.ofString "/claim/cut.py") 507, Value.int 152 0, Value.int 1 0, Value.int 0 0, Value.int 0 0, Value.int 3 0, Value.ref 251, Value.bool true, Value.int 181 0, Value.ref 252, Value.none, Value.ref 253, Value.ref 254, Value.ref 255, Value.int 512 0, Value.int 152 0, Value.str (Str.ofString "/claim/cut.py") 513] }) ::
  (nat_lit 257, { cls := Value.type "function", data := Data.func { name := Str.ofString "skip_attribute", qualname := Str.ofString "Lexer.skip_attribute", params := a20, body := FuncBody.stmts b20, scope := s20, globals := 3, closure := [], defaults := Value.none, kwdefaults := Value.none, pyModule := Value.str (Str.ofString "gateloom.tokens") 343, code := Value.ref 256 } }) ::
  (nat_lit 258, { cls := Value.type "tuple", data := Data.seq #[] }) ::
  (nat_lit 260, { cls := Value.type "tuple", data := Data.seq #[Value.str (Str.ofString "self") 518, Value.str (Str.ofString "at") 519, Value.str (Str.ofString "end") 520, Value.str (Str.ofString "text") 521] }) ::
  (nat_lit 261, { cls := Value.type "tuple", data := Data.seq #[] }) ::
  (nat_lit 263, { cls := Value.type "code", data := Data.fields #[Value.str (Str.ofString "word") 515, Value.str (Str.ofString "Lexer.word") 516, Value.str (Str.ofString "/claim/cut.py") 517, Value.int 167 0, Value.int 2 0, Value.int 0 0, Value.int 0 0, Value.int 3 0, Value.ref 258, Value.bool true, Value.int 181 0, Value.ref 259, Value.none, Value.ref 260, Value.ref 261, Value.ref 262, Value.int 522 0, Value.int 167 0, Value.str (Str.ofString "/claim/cut.py") 523] }) ::
  (nat_lit 264, { cls := Value.type "function", data := Data.func { name := Str.ofString "word", qualname := Str.ofString "Lexer.word", params := a21, body := FuncBody.stmts b21, scope := s21, globals := 3, closure := [], defaults := Value.none, kwdefaults := Value.none, pyModule := Value.str (Str.ofString "gateloom.tokens") 343, code := Value.ref 263 } }) ::
  (nat_lit 265, { cls := Value.type "tuple", data := Data.seq #[] }) ::
  (nat_lit 267, { cls := Value.type "tuple", data := Data.seq #[Value.str (Str.ofString "self") 528, Value.str (Str.ofString "at") 529, Value.str (Str.ofString "end") 530] }) ::
  (nat_lit 268, { cls := Value.type "tuple", data := Data.seq #[] }) ::
  (nat_lit 270, { cls := Value.type "code", data := Data.fields #[Value.str (Str.ofString "escaped") 525, Value.str (Str.ofString "Lexer.escaped") 526, Value.str (Str.ofString "/claim/cut.py") 527, Value.int 177 0, Value.int 2 0, Value.int 0 0, Value.int 0 0, Value.int 3 0, Value.ref 265, Value.bool true, Value.int 181 0, Value.ref 266, Value.none, Value.ref 267, Value.ref 268, Value.ref 269, Value.int 531 0, Value.int 177 0, Value.str (Str.ofString "/claim/cut.py") 532] }) ::
  (nat_lit 271, { cls := Value.type "function", data := Data.func { name := Str.ofString "escaped", qualname := Str.ofString "Lexer.escaped", params := a22, body := FuncBody.stmts b22, scope := s22, globals := 3, closure := [], defaults := Value.none, kwdefaults := Value.none, pyModule := Value.str (Str.ofString "gateloom.tokens") 343, code := Value.ref 270 } }) ::
  (nat_lit 272, { cls := Value.type "tuple", data := Data.seq #[] }) ::
  (nat_lit 274, { cls := Value.type "tuple", data := Data.seq #[Value.str (Str.ofString "self") 537, Value.str (Str.ofString "at") 538, Value.str (Str.ofString "end") 539] }) ::
  (nat_lit 275, { cls := Value.type "tuple", data := Data.seq #[] }) ::
  (nat_lit 277, { cls := Value.type "code", data := Data.fields #[Value.str (Str.ofString "system") 534, Value.str (Str.ofString "Lexer.system") 535, Value.str (Str.ofString "/claim/cut.py") 536, Value.int 186 0, Value.int 2 0, Value.int 0 0, Value.int 0 0, Value.int 3 0, Value.ref 272, Value.bool true, Value.int 181 0, Value.ref 273, Value.none, Value.ref 274, Value.ref 275, Value.ref 276, Value.int 540 0, Value.int 186 0, Value.str (Str.ofString "/claim/cut.py") 541] }) ::
  (nat_lit 278, { cls := Value.type "function", data := Data.func { name := Str.ofString "system", qualname := Str.ofString "Lexer.system", params := a23, body := FuncBody.stmts b23, scope := s23, globals := 3, closure := [], defaults := Value.none, kwdefaults := Value.none, pyModule := Value.str (Str.ofString "gateloom.tokens") 343, code := Value.ref 277 } }) ::
  (nat_lit 279, { cls := Value.type "tuple", data := Data.seq #[] }) ::
  (nat_lit 281, { cls := Value.type "tuple", data := Data.seq #[Value.str (Str.ofString "self") 546, Value.str (Str.ofString "at") 547, Value.str (Str.ofString "end") 548, Value.str (Str.ofString "digits") 549, Value.str (Str.ofString "quote") 550] }) ::
  (nat_lit 282, { cls := Value.type "tuple", data := Data.seq #[] }) ::
  (nat_lit 284, { cls := Value.type "code", data := Data.fields #[Value.str (Str.ofString "number") 543, Value.str (Str.ofString "Lexer.number") 544, Value.str (Str.ofString "/claim/cut.py") 545, Value.int 195 0, Value.int 2 0, Value.int 0 0, Value.int 0 0, Value.int 3 0, Value.ref 279, Value.bool true, Value.int 181 0, Value.ref 280, Value.none, Value.ref 281, Value.ref 282, Value.ref 283, Value.int 551 0, Value.int 195 0, Value.str (Str.ofString "/claim/cut.py") 552] }) ::
  (nat_lit 285, { cls := Value.type "function", data := Data.func { name := Str.ofString "number", qualname := Str.ofString "Lexer.number", params := a24, body := FuncBody.stmts b24, scope := s24, globals := 3, closure := [], defaults := Value.none, kwdefaults := Value.none, pyModule := Value.str (Str.ofString "gateloom.tokens") 343, code := Value.ref 284 } }) ::
  (nat_lit 286, { cls := Value.type "tuple", data := Data.seq #[] }) ::
  (nat_lit 288, { cls := Value.type "tuple", data := Data.seq #[Value.str (Str.ofString "self") 557, Value.str (Str.ofString "end") 558] }) ::
  (nat_lit 289, { cls := Value.type "tuple", data := Data.seq #[] }) ::
  (nat_lit 291, { cls := Value.type "code", data := Data.fields #[Value.str (Str.ofString "is_real") 554, Value.str (Str.ofString "Lexer.is_real") 555, Value.str (Str.ofString "/claim/cut.py") 556, Value.int 208 0, Value.int 2 0, Value.int 0 0, Value.int 0 0, Value.int 3 0, Value.ref 286, Value.bool true, Value.int 181 0, Value.ref 287, Value.none, Value.ref 288, Value.ref 289, Value.ref 290, Value.int 559 0, Value.int 208 0, Value.str (Str.ofString "/claim/cut.py") 560] }) ::
  (nat_lit 292, { cls := Value.type "function", data := Data.func { name := Str.ofString "is_real", qualname := Str.ofString "Lexer.is_real", params := a25, body := FuncBody.stmts b25, scope := s25, globals := 3, closure := [], defaults := Value.none, kwdefaults := Value.none, pyModule := Value.str (Str.ofString "gateloom.tokens") 343, code := Value.ref 291 } }) ::
  (nat_lit 293, { cls := Value.type "tuple", data := Data.seq #[] }) ::
  (nat_lit 295, { cls := Value.type "tuple", data := Data.seq #[Value.str (Str.ofString "self") 565, Value.str (Str.ofString "at") 566, Value.str (Str.ofString "quote") 567, Value.str (Str.ofString "size") 568, Value.str (Str.ofString "index") 569, Value.str (Str.ofString "signed") 570, Value.str (Str.ofString "base") 571, Value.str (Str.ofString "begin") 572, Value.str (Str.ofString "end") 573, Value.str (Str.ofString "digits") 574] }) ::
  (nat_lit 296, { cls := Value.type "tuple", data := Data.seq #[] }) ::
  (nat_lit 298, { cls := Value.type "code", data := Data.fields #[Value.str (Str.ofString "based") 562, Value.str (Str.ofString "Lexer.based") 563, Value.str (Str.ofString "/claim/cut.py") 564, Value.int 217 0, Value.int 4 0, Value.int 0 0, Value.int 0 0, Value.int 3 0, Value.ref 293, Value.bool true, Value.int 181 0, Value.ref 294, Value.none, Value.ref 295, Value.ref 296, Value.ref 297, Value.int 575 0, Value.int 217 0, Value.str (Str.ofString "/claim/cut.py") 576] }) ::
  (nat_lit 299, { cls := Value.type "function", data := Data.func { name := Str.ofString "based", qualname := Str.ofString "Lexer.based", params := a26, body := FuncBody.stmts b26, scope := s26, globals := 3, closure := [], defaults := Value.none, kwdefaults := Value.none, pyModule := Value.str (Str.ofString "gateloom.tokens") 343, code := Value.ref 298 } }) ::
  (nat_lit 300, { cls := Value.type "tuple", data := Data.seq #[] }) ::
  (nat_lit 302, { cls := Value.type "tuple", data := Data.seq #[Value.str (Str.ofString "self") 581, Value.str (Str.ofString "at") 582, Value.str (Str.ofString "chars") 583, Value.str (Str.ofString "index") 584, Value.str (Str.ofString "char") 585] }) ::
  (nat_lit 303, { cls := Value.type "tuple", data := Data.seq #[] }) ::
  (nat_lit 305, { cls := Value.type "code", data := Data.fields #[Value.str (Str.ofString "string") 578, Value.str (Str.ofString "Lexer.string") 579, Value.str (Str.ofString "/claim/cut.py") 580, Value.int 237 0, Value.int 2 0, Value.int 0 0, Value.int 0 0, Value.int 3 0, Value.ref 300, Value.bool true, Value.int 181 0, Value.ref 301, Value.none, Value.ref 302, Value.ref 303, Value.ref 304, Value.int 586 0, Value.int 237 0, Value.str (Str.ofString "/claim/cut.py") 587] }) ::
  (nat_lit 306, { cls := Value.type "function", data := Data.func { name := Str.ofString "string", qualname := Str.ofString "Lexer.string", params := a27, body := FuncBody.stmts b27, scope := s27, globals := 3, closure := [], defaults := Value.none, kwdefaults := Value.none, pyModule := Value.str (Str.ofString "gateloom.tokens") 343, code := Value.ref 305 } }) ::
  (nat_lit 307, { cls := Value.type "tuple", data := Data.seq #[] }) ::
  (nat_lit 309, { cls := Value.type "tuple", data := Data.seq #[Value.str (Str.ofString "self") 592, Value.str (Str.ofString "index") 593, Value.str (Str.ofString "begun") 594, Value.str (Str.ofString "char") 595, Value.str (Str.ofString "value") 596, Value.str (Str.ofString "digit") 597] }) ::
  (nat_lit 310, { cls := Value.type "tuple", data := Data.seq #[] }) ::
  (nat_lit 312, { cls := Value.type "code", data := Data.fields #[Value.str (Str.ofString "escape") 589, Value.str (Str.ofString "Lexer.escape") 590, Value.str (Str.ofString "/claim/cut.py") 591, Value.int 255 0, Value.int 3 0, Value.int 0 0, Value.int 0 0, Value.int 3 0, Value.ref 307, Value.bool true, Value.int 181 0, Value.ref 308, Value.none, Value.ref 309, Value.ref 310, Value.ref 311, Value.int 598 0, Value.int 255 0, Value.str (Str.ofString "/claim/cut.py") 599] }) ::
  (nat_lit 313, { cls := Value.type "function", data := Data.func { name := Str.ofString "escape", qualname := Str.ofString "Lexer.escape", params := a28, body := FuncBody.stmts b28, scope := s28, globals := 3, closure := [], defaults := Value.none, kwdefaults := Value.none, pyModule := Value.str (Str.ofString "gateloom.tokens") 343, code := Value.ref 312 } }) ::
  (nat_lit 314, { cls := Value.type "tuple", data := Data.seq #[] }) ::
  (nat_lit 316, { cls := Value.type "tuple", data := Data.seq #[Value.str (Str.ofString "self") 604, Value.str (Str.ofString "index") 605, Value.str (Str.ofString "end") 606] }) ::
  (nat_lit 317, { cls := Value.type "tuple", data := Data.seq #[] }) ::
  (nat_lit 319, { cls := Value.type "code", data := Data.fields #[Value.str (Str.ofString "escape_end") 601, Value.str (Str.ofString "Lexer.escape_end") 602, Value.str (Str.ofString "/claim/cut.py") 603, Value.int 272 0, Value.int 2 0, Value.int 0 0, Value.int 0 0, Value.int 3 0, Value.ref 314, Value.bool true, Value.int 181 0, Value.ref 315, Value.none, Value.ref 316, Value.ref 317, Value.ref 318, Value.int 607 0, Value.int 272 0, Value.str (Str.ofString "/claim/cut.py") 608] }) ::
  (nat_lit 320, { cls := Value.type "function", data := Data.func { name := Str.ofString "escape_end", qualname := Str.ofString "Lexer.escape_end", params := a29, body := FuncBody.stmts b29, scope := s29, globals := 3, closure := [], defaults := Value.none, kwdefaults := Value.none, pyModule := Value.str (Str.ofString "gateloom.tokens") 343, code := Value.ref 319 } }) ::
  (nat_lit 321, { cls := Value.type "tuple", data := Data.seq #[] }) ::
  (nat_lit 323, { cls := Value.type "tuple", data := Data.seq #[Value.str (Str.ofString "self") 613, Value.str (Str.ofString "at") 614, Value.str (Str.ofString "text") 615] }) ::
  (nat_lit 324, { cls := Value.type "tuple", data := Data.seq #[] }) ::
  (nat_lit 326, { cls := Value.type "code", data := Data.fields #[Value.str (Str.ofString "operator") 610, Value.str (Str.ofString "Lexer.operator") 611, Value.str (Str.ofString "/claim/cut.py") 612, Value.int 280 0, Value.int 2 0, Value.int 0 0, Value.int 0 0, Value.int 3 0, Value.ref 321, Value.bool true, Value.int 181 0, Value.ref 322, Value.none, Value.ref 323, Value.ref 324, Value.ref 325, Value.int 616 0, Value.int 280 0, Value.str (Str.ofString "/claim/cut.py") 617] }) ::
  (nat_lit 327, { cls := Value.type "function", data := Data.func { name := Str.ofString "operator", qualname := Str.ofString "Lexer.operator", params := a30, body := FuncBody.stmts b30, scope := s30, globals := 3, closure := [], defaults := Value.none, kwdefaults := Value.none, pyModule := Value.str (Str.ofString "gateloom.tokens") 343, code := Value.ref 326 } }) ::
  (nat_lit 328, { cls := Value.type "tuple", data := Data.seq #[Value.str (Str.ofString "at") 619, Value.str (Str.ofString "keys") 620, Value.str (Str.ofString "parted") 621, Value.str (Str.ofString "text") 622] }) ::
  (nat_lit 329, { cls := Value.type "dict", data := Data.dict #[{ hash := PyData.keyHash P (Str.ofString "__module__"), key := Value.str (Str.ofString "__module__") 423, val := Value.str (Str.ofString "gateloom.tokens") 343 }, { hash := PyData.keyHash P (Str.ofString "__firstlineno__"), key := Value.str (Str.ofString "__firstlineno__") 427, val := Value.int 73 426 }, { hash := PyData.keyHash P (Str.ofString "__init__"), key := Value.str (Str.ofString "__init__") 437, val := Value.ref 194 }, { hash := PyData.keyHash P (Str.ofString "char"), key := Value.str (Str.ofString "char") 445, val := Value.ref 201 }, { hash := PyData.keyHash P (Str.ofString "pair"), key := Value.str (Str.ofString "pair") 453, val := Value.ref 208 }, { hash := PyData.keyHash P (Str.ofString "past_layout"), key := Value.str (Str.ofString "past_layout") 461, val := Value.ref 215 }, { hash := PyData.keyHash P (Str.ofString "past_gap"), key := Value.str (Str.ofString "past_gap") 471, val := Value.ref 222 }, { hash := PyData.keyHash P (Str.ofString "next_token"), key := Value.str (Str.ofString "next_token") 480, val := Value.ref 229 }, { hash := PyData.keyHash P (Str.ofString "skip"), key := Value.str (Str.ofString "skip") 489, val := Value.ref 236 }, { hash := PyData.keyHash P (Str.ofString "skip_row"), key := Value.str (Str.ofString "skip_row") 496, val := Value.ref 243 }, { hash := PyData.keyHash P (Str.ofString "skip_remark"), key := Value.str (Str.ofString "skip_remark") 504, val := Value.ref 250 }, { hash := PyData.keyHash P (Str.ofString "skip_attribute"), key := Value.str (Str.ofString "skip_attribute") 514, val := Value.ref 257 }, { hash := PyData.keyHash P (Str.ofString "word"), key := Value.str (Str.ofString "word") 524, val := Value.ref 264 }, { hash := PyData.keyHash P (Str.ofString "escaped"), key := Value.str (Str.ofString "escaped") 533, val := Value.ref 271 }, { hash := PyData.keyHash P (Str.ofString "system"), key := Value.str (Str.ofString "system") 542, val := Value.ref 278 }, { hash := PyData.keyHash P (Str.ofString "number"), key := Value.str (Str.ofString "number") 553, val := Value.ref 285 }, { hash := PyData.keyHash P (Str.ofString "is_real"), key := Value.str (Str.ofString "is_real") 561, val := Value.ref 292 }, { hash := PyData.keyHash P (Str.ofString "based"), key := Value.str (Str.ofString "based") 577, val := Value.ref 299 }, { hash := PyData.keyHash P (Str.ofString "string"), key := Value.str (Str.ofString "string") 588, val := Value.ref 306 }, { hash := PyData.keyHash P (Str.ofString "escape"), key := Value.str (Str.ofString "escape") 600, val := Value.ref 313 }, { hash := PyData.keyHash P (Str.ofString "escape_end"), key := Value.str (Str.ofString "escape_end") 609, val := Value.ref 320 }, { hash := PyData.keyHash P (Str.ofString "operator"), key := Value.str (Str.ofString "operator") 618, val := Value.ref 327 }, { hash := PyData.keyHash P (Str.ofString "__static_attributes__"), key := Value.str (Str.ofString "__static_attributes__") 623, val := Value.ref 328 }, { hash := PyData.keyHash P (Str.ofString "__dict__"), key := Value.str (Str.ofString "__dict__") 625, val := Value.ref 331 }, { hash := PyData.keyHash P (Str.ofString "__weakref__"), key := Value.str (Str.ofString "__weakref__") 627, val := Value.ref 332 }, { hash := PyData.keyHash P (Str.ofString "__doc__"), key := Value.str (Str.ofString "__doc__") 628, val := Value.none }] 4 }) ::
  (nat_lit 330, { cls := Value.type "type", data := Data.cls { name := Str.ofString "Lexer", bases := [Value.type "object"], mro := [Value.ref 330, Value.type "object"], ns := 329, qualname := Str.ofString "Lexer" }, slots := #[none, none, some (Value.str (Str.ofString "Lexer") 416), some (Value.str (Str.ofString "Lexer") 424), some (Value.builtin "object.__new__"), some (Value.bool true)] }) ::
  (nat_lit 331, { cls := Value.type "getset_descriptor", data := Data.fields #[Value.str (Str.ofString "__dict__") 624, Value.ref 330, Value.builtin "function.__dict__", Value.builtin "function.__dict__#set"] }) ::
  (nat_lit 332, { cls := Value.type "getset_descriptor", data := Data.fields #[Value.str (Str.ofString "__weakref__") 626, Value.ref 330, Value.builtin "ExceptionGroup.__weakref__", Value.none] }) ::
  (nat_lit 335, { cls := Value.type "tuple", data := Data.seq #[] }) ::
  (nat_lit 337, { cls := Value.type "tuple", data := Data.seq #[Value.str (Str.ofString "script") 636, Value.str (Str.ofString "spot") 637] }) ::
  (nat_lit 338, { cls := Value.type "tuple", data := Data.seq #[] }) ::
  (nat_lit 340, { cls := Value.type "code", data := Data.fields #[Value.str (Str.ofString "_law_piece") 633, Value.str (Str.ofString "_law_piece") 634, Value.str (Str.ofString "/claim/cut.py") 635, Value.int 291 0, Value.int 2 0, Value.int 0 0, Value.int 0 0, Value.int 3 0, Value.ref 335, Value.bool true, Value.int 181 0, Value.ref 336, Value.none, Value.ref 337, Value.ref 338, Value.ref 339, Value.int 638 0, Value.int 291 0, Value.str (Str.ofString "/claim/cut.py") 639] }) ::
  (nat_lit 341, { cls := Value.type "function", data := Data.func { name := Str.ofString "_law_piece", qualname := Str.ofString "_law_piece", params := a31, body := FuncBody.stmts b31, scope := s31, globals := 3, closure := [], defaults := Value.none, kwdefaults := Value.none, pyModule := Value.str (Str.ofString "law_pq0460_01") 631, code := Value.ref 340 } }) ::
  (nat_lit 342, { cls := Value.type "tuple", data := Data.seq #[] }) ::
  (nat_lit 344, { cls := Value.type "tuple", data := Data.seq #[Value.str (Str.ofString "source") 644, Value.str (Str.ofString "at") 645, Value.str (Str.ofString "row") 646, Value.str (Str.ofString "column") 647, Value.str (Str.ofString "letter") 648] }) ::
  (nat_lit 345, { cls := Value.type "tuple", data := Data.seq #[] }) ::
  (nat_lit 347, { cls := Value.type "code", data := Data.fields #[Value.str (Str.ofString "_law_spot") 641, Value.str (Str.ofString "_law_spot") 642, Value.str (Str.ofString "/claim/cut.py") 643, Value.int 295 0, Value.int 2 0, Value.int 0 0, Value.int 0 0, Value.int 3 0, Value.ref 342, Value.bool true, Value.int 181 0, Value.ref 343, Value.none, Value.ref 344, Value.ref 345, Value.ref 346, Value.int 649 0, Value.int 295 0, Value.str (Str.ofString "/claim/cut.py") 650] }) ::
  (nat_lit 348, { cls := Value.type "function", data := Data.func { name := Str.ofString "_law_spot", qualname := Str.ofString "_law_spot", params := a32, body := FuncBody.stmts b32, scope := s32, globals := 3, closure := [], defaults := Value.none, kwdefaults := Value.none, pyModule := Value.str (Str.ofString "law_pq0460_01") 631, code := Value.ref 347 } }) ::
  (nat_lit 349, { cls := Value.type "tuple", data := Data.seq #[] }) ::
  (nat_lit 351, { cls := Value.type "tuple", data := Data.seq #[Value.str (Str.ofString "source") 655, Value.str (Str.ofString "reader") 656, Value.str (Str.ofString "lap") 657, Value.str (Str.ofString "token") 658, Value.str (Str.ofString "fault") 659] }) ::
  (nat_lit 352, { cls := Value.type "tuple", data := Data.seq #[] }) ::
  (nat_lit 354, { cls := Value.type "code", data := Data.fields #[Value.str (Str.ofString "_law_fault") 652, Value.str (Str.ofString "_law_fault") 653, Value.str (Str.ofString "/claim/cut.py") 654, Value.int 304 0, Value.int 1 0, Value.int 0 0, Value.int 0 0, Value.int 3 0, Value.ref 349, Value.bool true, Value.int 181 0, Value.ref 350, Value.none, Value.ref 351, Value.ref 352, Value.ref 353, Value.int 660 0, Value.int 304 0, Value.str (Str.ofString "/claim/cut.py") 661] }) ::
  (nat_lit 355, { cls := Value.type "function", data := Data.func { name := Str.ofString "_law_fault", qualname := Str.ofString "_law_fault", params := a33, body := FuncBody.stmts b33, scope := s33, globals := 3, closure := [], defaults := Value.none, kwdefaults := Value.none, pyModule := Value.str (Str.ofString "law_pq0460_01") 631, code := Value.ref 354 } }) ::
  (nat_lit 356, { cls := Value.type "tuple", data := Data.seq #[] }) ::
  (nat_lit 358, { cls := Value.type "tuple", data := Data.seq #[Value.str (Str.ofString "made") 666, Value.str (Str.ofString "source") 667, Value.str (Str.ofString "spot") 668, Value.str (Str.ofString "words") 669] }) ::
  (nat_lit 359, { cls := Value.type "tuple", data := Data.seq #[] }) ::
  (nat_lit 361, { cls := Value.type "code", data := Data.fields #[Value.str (Str.ofString "_law_message") 663, Value.str (Str.ofString "_law_message") 664, Value.str (Str.ofString "/claim/cut.py") 665, Value.int 314 0, Value.int 3 0, Value.int 0 0, Value.int 0 0, Value.int 3 0, Value.ref 356, Value.bool true, Value.int 181 0, Value.ref 357, Value.none, Value.ref 358, Value.ref 359, Value.ref 360, Value.int 670 0, Value.int 314 0, Value.str (Str.ofString "/claim/cut.py") 671] }) ::
  (nat_lit 362, { cls := Value.type "function", data := Data.func { name := Str.ofString "_law_message", qualname := Str.ofString "_law_message", params := a34, body := FuncBody.stmts b34, scope := s34, globals := 3, closure := [], defaults := Value.none, kwdefaults := Value.none, pyModule := Value.str (Str.ofString "law_pq0460_01") 631, code := Value.ref 361 } }) ::
  (nat_lit 363, { cls := Value.type "tuple", data := Data.seq #[] }) ::
  (nat_lit 366, { cls := Value.type "code", data := Data.fields #[Value.str (Str.ofString "law") 673, Value.str (Str.ofString "law") 674, Value.str (Str.ofString "/claim/cut.py") 675, Value.int 319 0, Value.int 1 0, Value.int 0 0, Value.int 0 0, Value.int 3 0, Value.ref 363, Value.bool true, Value.int 181 0, Value.ref 364, Value.none, Value.none, Value.none, Value.ref 365, Value.int 676 0, Value.int 319 0, Value.str (Str.ofString "/claim/cut.py") 677] }) ::
  (nat_lit 367, { cls := Value.type "function", data := Data.func { name := Str.ofString "law", qualname := Str.ofString "law", params := a35, body := FuncBody.stmts b35, scope := s35, globals := 3, closure := [], defaults := Value.none, kwdefaults := Value.none, pyModule := Value.str (Str.ofString "law_pq0460_01") 631, code := Value.ref 366 } }) :: []) _ _ _ rfl _ _ _ rfl _ _ _ rfl _ _ _ rfl _ _ _ rfl _ _ _ rfl _ _ _ rfl _ _ _ rfl _ _ _ rfl _ _ _ rfl _ _ _ rfl _ _ _ rfl _ _ _ rfl _ _ _ rfl _ _ _ rfl _ _ _ rfl _ _ _ rfl _ _ _ rfl _ _ _ rfl _ _ _ rfl _ _ _ rfl _ _ _ rfl _ _ _ rfl _ _ _ rfl _ _ _ rfl _ _ _ rfl _ _ _ rfl _ _ _ rfl _ _ _ rfl _ _ _ rfl _ _ _ rfl _ _ _ rfl _ _ _ rfl _ _ _ rfl _ _ _ rfl _ _ _ rfl
noncomputable def VW : Program := (fun (x0 x1 x2 x3 x4 x5 x6 x7 x8 x9 x10 x11 x12 x13 x14 x15 x16 x17 x18 x19 x20 x21 : Stmt) (_ : [PG.main.body[1]?, PG.main.body[2]?, PG.main.body[3]?, PG.main.body[4]?, PG.main.body[5]?, PG.main.body[6]?, PG.main.body[7]?, PG.main.body[8]?, PG.main.body[10]?, PG.main.body[11]?, PG.main.body[13]?, PG.main.body[14]?, PG.main.body[15]?, PG.main.body[16]?, PG.main.body[17]?, PG.main.body[18]?, PG.main.body[19]?, PG.main.body[21]?, PG.main.body[22]?, PG.main.body[23]?, PG.main.body[24]?, PG.main.body[25]?] = [some x0, some x1, some x2, some x3, some x4, some x5, some x6, some x7, some x8, some x9, some x10, some x11, some x12, some x13, some x14, some x15, some x16, some x17, some x18, some x19, some x20, some x21]) => ({ PG with main := { PG.main with body := [x0, x1, x2, x3, x4, x5, x6, x7, x8, x9, x10, x11, x12, x13, x14, x15, x16, x17, x18, x19, x20, x21] } } : Program)) _ _ _ _ _ _ _ _ _ _ _ _ _ _ _ _ _ _ _ _ _ _ rfl
end
section
open PySem PySem.W PyProof.Rows
set_option maxRecDepth 100000
set_option maxHeartbeats 8000000
section
open PySem.Calls
theorem piece_at {tb : String → Option Builtin} {p : Program} {w : World} {n₀ : Nat} {ann : Option Value} {env : Env} {q : Pos} {n N : Nat} {s s' r : Shared} {l : List Stmt} {c : Code} {pos p' : Pos} (k : Nat) (h : segRun tb p w n₀ ann 1 n s (piecesOf (l.take k) env c pos [topFrame q]) = some (.next, s', c, p'))
    (g : topRun tb p w n₀ ann N s' (restOf (l.drop k) env c p' [topFrame q]) = some r) : topRun tb p w n₀ ann (n + N) s (restOf l env c pos [topFrame q]) = some r := by
  have x := piece_app (l := l.take k) (rest := l.drop k) h g
  rwa [List.take_append_drop] at x
theorem piece_end {tb : String → Option Builtin} {p : Program} {w : World} {n₀ : Nat} {ann : Option Value} {env : Env} {q : Pos} {N : Nat} {s r : Shared} {l : List Stmt} {c : Code} {pos : Pos} (e : l = [])
    (k : topRun tb p w n₀ ann N s ⟨doneF .next, c, pos, [topFrame q]⟩ = some r) : topRun tb p w n₀ ann N s (restOf l env c pos [topFrame q]) = some r := by
  subst e; exact piece_nil k
end
noncomputable abbrev PX : Program := PySem.Challenge.rw_pq0460_01.row.toRowW.1
noncomputable def envM : Env := { scope := PX.main.scope, locals := mainNs, globals := mainNs, cells := [], code := Value.ref 13, frame := some 14 }
noncomputable def ob11 (P : Params) : Obj := { cls := Value.type "tuple", data := Data.seq #[] }
noncomputable def ob12 (P : Params) : Obj := { cls := Value.none, data := Data.fields #[] }
noncomputable def ob13 (P : Params) : Obj := { cls := Value.type "code", data := Data.fields #[Value.str (Str.ofString "<module>") 182, Value.str (Str.ofString "<module>") 183, Value.str (Str.ofString "/claim/cut.py") 184, Value.int 1 0, Value.int 0 0, Value.int 0 0, Value.int 0 0, Value.int 0 0, Value.ref 11, Value.bool false, Value.int 181 0, Value.ref 12, Value.none, Value.none, Value.none, Value.none, Value.int 185 0, Value.int 1 0, Value.str (Str.ofString "/claim/cut.py") 186] }
noncomputable def ob14 (P : Params) : Obj := { cls := Value.type "frame", slots := #[some (Value.ref 13), some (Value.ref 3), some (Value.ref 3), none, some (Value.str (Str.ofString "__main__") 164), none, some (Value.ref 0)] }
noncomputable def ob2 (P : Params) : Obj := { cls := Value.none, data := Data.dict #[{ hash := PyData.keyHash P (Str.ofString "type.__subclasses__.Exception.0"), key := Value.str (Str.ofString "type.__subclasses__.Exception.0") 221, val := Value.int 32 0 }, { hash := PyData.keyHash P (Str.ofString "type.__subclasses__.Exception.n"), key := Value.str (Str.ofString "type.__subclasses__.Exception.n") 222, val := Value.int 1 0 }] 2 }
noncomputable def ob3 (P : Params) : Obj := { cls := Value.type "dict", data := Data.dict #[{ hash := PyData.keyHash P (Str.ofString "__name__"), key := Value.str (Str.ofString "__name__") 165, val := Value.str (Str.ofString "gateloom.errors") 187 }, { hash := PyData.keyHash P (Str.ofString "__doc__"), key := Value.str (Str.ofString "__doc__") 166, val := Value.none }, { hash := PyData.keyHash P (Str.ofString "__package__"), key := Value.str (Str.ofString "__package__") 167, val := Value.none }, { hash := PyData.keyHash P (Str.ofString "__loader__"), key := Value.str (Str.ofString "__loader__") 168, val := Value.builtin "__main__.__loader__#opaque" }, { hash := PyData.keyHash P (Str.ofString "__spec__"), key := Value.str (Str.ofString "__spec__") 169, val := Value.none }, { hash := PyData.keyHash P (Str.ofString "__annotations__"), key := Value.str (Str.ofString "__annotations__") 170, val := Value.ref 6 }, { hash := PyData.keyHash P (Str.ofString "__builtins__"), key := Value.str (Str.ofString "__builtins__") 171, val := Value.ref 4 }, { hash := PyData.keyHash P (Str.ofString "__file__"), key := Value.str (Str.ofString "__file__") 173, val := Value.str (Str.ofString "/claim/cut.py") 172 }, { hash := PyData.keyHash P (Str.ofString "__cached__"), key := Value.str (Str.ofString "__cached__") 174, val := Value.none }, { hash := PyData.keyHash P (Str.ofString "GateloomError"), key := Value.str (Str.ofString "GateloomError") 224, val := Value.ref 32 }, { hash := PyData.keyHash P (Str.ofString "SourceError"), key := Value.str (Str.ofString "SourceError") 240, val := Value.ref 45 }, { hash := PyData.keyHash P (Str.ofString "DesignError"), key := Value.str (Str.ofString "DesignError") 256, val := Value.ref 57 }, { hash := PyData.keyHash P (Str.ofString "SynthError"), key := Value.str (Str.ofString "SynthError") 272, val := Value.ref 69 }, { hash := PyData.keyHash P (Str.ofString "FormatError"), key := Value.str (Str.ofString "FormatError") 288, val := Value.ref 81 }, { hash := PyData.keyHash P (Str.ofString "LimitReached"), key := Value.str (Str.ofString "LimitReached") 304, val := Value.ref 93 }] 15 }
noncomputable def ob12v1 (P : Params) : Obj := { cls := Value.none, data := Data.fields #[Value.int 2 0, Value.int 0 0, Value.ref 20, Value.int 8 0, Value.int 0 0, Value.ref 41, Value.int 10 0, Value.int 0 0, Value.ref 53, Value.int 12 0, Value.int 0 0, Value.ref 65, Value.int 14 0, Value.int 0 0, Value.ref 77, Value.int 16 0, Value.int 0 0, Value.ref 89] }
noncomputable def ob15 (P : Params) : Obj := { cls := Value.type "tuple", data := Data.seq #[Value.type "Exception"] }
noncomputable def ob16 (P : Params) : Obj := { cls := Value.type "builtin_function_or_method", data := Data.fields #[Value.builtin "type.__prepare__", Value.type "type"] }
noncomputable def ob17 (P : Params) : Obj := { cls := Value.type "dict", data := Data.dict #[{ hash := PyData.keyHash P (Str.ofString "__module__"), key := Value.str (Str.ofString "__module__") 196, val := Value.str (Str.ofString "gateloom.errors") 187 }, { hash := PyData.keyHash P (Str.ofString "__qualname__"), key := Value.str (Str.ofString "__qualname__") 198, val := Value.str (Str.ofString "GateloomError") 197 }, { hash := PyData.keyHash P (Str.ofString "__firstlineno__"), key := Value.str (Str.ofString "__firstlineno__") 200, val := Value.int 2 199 }, { hash := PyData.keyHash P (Str.ofString "__init__"), key := Value.str (Str.ofString "__init__") 213, val := Value.ref 29 }, { hash := PyData.keyHash P (Str.ofString "__static_attributes__"), key := Value.str (Str.ofString "__static_attributes__") 217, val := Value.ref 30 }] 5 }
noncomputable def ob18 (P : Params) : Obj := { cls := Value.type "tuple", data := Data.seq #[] }
noncomputable def ob19 (P : Params) : Obj := { cls := Value.none, data := Data.fields #[Value.int 4 0, Value.int 4 0, Value.ref 28] }
noncomputable def ob20 (P : Params) : Obj := { cls := Value.type "code", data := Data.fields #[Value.str (Str.ofString "GateloomError") 191, Value.str (Str.ofString "GateloomError") 192, Value.str (Str.ofString "/claim/cut.py") 193, Value.int 2 0, Value.int 0 0, Value.int 0 0, Value.int 0 0, Value.int 0 0, Value.ref 18, Value.bool false, Value.int 181 0, Value.ref 19, Value.none, Value.none, Value.none, Value.none, Value.int 194 0, Value.int 2 0, Value.str (Str.ofString "/claim/cut.py") 195] }
noncomputable def ob21 (P : Params) : Obj := { cls := Value.type "frame", slots := #[some (Value.ref 20), some (Value.ref 3), some (Value.ref 17), none, some (Value.str (Str.ofString "gateloom.errors") 187), none, some (Value.ref 0)] }
noncomputable def ob22 (P : Params) : Obj := { cls := Value.type "tuple", data := Data.seq #[Value.int (-1) 202, Value.str (Str.ofString "") 203] }
noncomputable def ob23 (P : Params) : Obj := { cls := Value.type "tuple", data := Data.seq #[] }
noncomputable def ob24 (P : Params) : Obj := { cls := Value.none, data := Data.fields #[] }
noncomputable def ob25 (P : Params) : Obj := { cls := Value.type "tuple", data := Data.seq #[Value.str (Str.ofString "self") 207, Value.str (Str.ofString "kind") 208, Value.str (Str.ofString "at") 209, Value.str (Str.ofString "detail") 210] }
noncomputable def ob26 (P : Params) : Obj := { cls := Value.type "tuple", data := Data.seq #[] }
noncomputable def ob27 (P : Params) : Obj := { cls := Value.none, data := Data.func { name := Str.ofString "__init__", qualname := Str.ofString "GateloomError.__init__", params := (fnParts PG 1 (some 0)).1, body := FuncBody.stmts (fnParts PG 1 (some 0)).2.1, scope := (fnParts PG 1 (some 0)).2.2, globals := 0, closure := [], defaults := Value.none, kwdefaults := Value.none } }
noncomputable def ob28 (P : Params) : Obj := { cls := Value.type "code", data := Data.fields #[Value.str (Str.ofString "__init__") 204, Value.str (Str.ofString "GateloomError.__init__") 205, Value.str (Str.ofString "/claim/cut.py") 206, Value.int 4 0, Value.int 4 0, Value.int 0 0, Value.int 0 0, Value.int 3 0, Value.ref 23, Value.bool true, Value.int 181 0, Value.ref 24, Value.none, Value.ref 25, Value.ref 26, Value.ref 27, Value.int 211 0, Value.int 4 0, Value.str (Str.ofString "/claim/cut.py") 212] }
noncomputable def ob29 (P : Params) : Obj := { cls := Value.type "function", data := Data.func { name := Str.ofString "__init__", qualname := Str.ofString "GateloomError.__init__", params := (fnParts PG 1 (some 0)).1, body := FuncBody.stmts (fnParts PG 1 (some 0)).2.1, scope := (fnParts PG 1 (some 0)).2.2, globals := 3, closure := [], defaults := Value.ref 22, kwdefaults := Value.none, pyModule := Value.str (Str.ofString "gateloom.errors") 187, code := Value.ref 28 } }
noncomputable def ob30 (P : Params) : Obj := { cls := Value.type "tuple", data := Data.seq #[Value.str (Str.ofString "at") 214, Value.str (Str.ofString "detail") 215, Value.str (Str.ofString "kind") 216] }
noncomputable def ob31 (P : Params) : Obj := { cls := Value.type "dict", data := Data.dict #[{ hash := PyData.keyHash P (Str.ofString "__module__"), key := Value.str (Str.ofString "__module__") 196, val := Value.str (Str.ofString "gateloom.errors") 187 }, { hash := PyData.keyHash P (Str.ofString "__firstlineno__"), key := Value.str (Str.ofString "__firstlineno__") 200, val := Value.int 2 199 }, { hash := PyData.keyHash P (Str.ofString "__init__"), key := Value.str (Str.ofString "__init__") 213, val := Value.ref 29 }, { hash := PyData.keyHash P (Str.ofString "__static_attributes__"), key := Value.str (Str.ofString "__static_attributes__") 217, val := Value.ref 30 }, { hash := PyData.keyHash P (Str.ofString "__weakref__"), key := Value.str (Str.ofString "__weakref__") 219, val := Value.ref 33 }, { hash := PyData.keyHash P (Str.ofString "__doc__"), key := Value.str (Str.ofString "__doc__") 220, val := Value.none }] 3 }
noncomputable def ob32 (P : Params) : Obj := { cls := Value.type "type", data := Data.cls { name := Str.ofString "GateloomError", bases := [Value.type "Exception"], mro := [Value.ref 32, Value.type "Exception", Value.type "BaseException", Value.type "object"], ns := 31, qualname := Str.ofString "GateloomError", subclasses := [Value.ref 45, Value.ref 57, Value.ref 69, Value.ref 81, Value.ref 93] }, slots := #[some (Value.ref 15), none, some (Value.str (Str.ofString "GateloomError") 189), some (Value.str (Str.ofString "GateloomError") 197), some (Value.builtin "Exception.__new__"), some (Value.bool true)] }
noncomputable def ob33 (P : Params) : Obj := { cls := Value.type "getset_descriptor", data := Data.fields #[Value.str (Str.ofString "__weakref__") 218, Value.ref 32, Value.builtin "ExceptionGroup.__weakref__", Value.none] }
noncomputable def ob34 (P : Params) : Obj := { cls := Value.type "super", data := Data.fields #[Value.ref 32, Value.ref 32, Value.ref 32] }
noncomputable def ob35 (P : Params) : Obj := { cls := Value.type "builtin_function_or_method", data := Data.fields #[Value.builtin "object.__init_subclass__", Value.ref 32] }
noncomputable def ob36 (P : Params) : Obj := { cls := Value.type "tuple", data := Data.seq #[Value.ref 32] }
noncomputable def ob37 (P : Params) : Obj := { cls := Value.type "builtin_function_or_method", data := Data.fields #[Value.builtin "type.__prepare__", Value.type "type"] }
noncomputable def ob38 (P : Params) : Obj := { cls := Value.type "dict", data := Data.dict #[{ hash := PyData.keyHash P (Str.ofString "__module__"), key := Value.str (Str.ofString "__module__") 232, val := Value.str (Str.ofString "gateloom.errors") 187 }, { hash := PyData.keyHash P (Str.ofString "__qualname__"), key := Value.str (Str.ofString "__qualname__") 234, val := Value.str (Str.ofString "SourceError") 233 }, { hash := PyData.keyHash P (Str.ofString "__firstlineno__"), key := Value.str (Str.ofString "__firstlineno__") 236, val := Value.int 8 235 }, { hash := PyData.keyHash P (Str.ofString "__static_attributes__"), key := Value.str (Str.ofString "__static_attributes__") 237, val := Value.ref 43 }] 4 }
noncomputable def ob39 (P : Params) : Obj := { cls := Value.type "tuple", data := Data.seq #[] }
noncomputable def ob40 (P : Params) : Obj := { cls := Value.none, data := Data.fields #[] }
noncomputable def ob41 (P : Params) : Obj := { cls := Value.type "code", data := Data.fields #[Value.str (Str.ofString "SourceError") 227, Value.str (Str.ofString "SourceError") 228, Value.str (Str.ofString "/claim/cut.py") 229, Value.int 8 0, Value.int 0 0, Value.int 0 0, Value.int 0 0, Value.int 0 0, Value.ref 39, Value.bool false, Value.int 181 0, Value.ref 40, Value.none, Value.none, Value.none, Value.none, Value.int 230 0, Value.int 8 0, Value.str (Str.ofString "/claim/cut.py") 231] }
noncomputable def ob42 (P : Params) : Obj := { cls := Value.type "frame", slots := #[some (Value.ref 41), some (Value.ref 3), some (Value.ref 38), none, some (Value.str (Str.ofString "gateloom.errors") 187), none, some (Value.ref 0)] }
noncomputable def ob43 (P : Params) : Obj := { cls := Value.type "tuple", data := Data.seq #[] }
noncomputable def ob44 (P : Params) : Obj := { cls := Value.type "dict", data := Data.dict #[{ hash := PyData.keyHash P (Str.ofString "__module__"), key := Value.str (Str.ofString "__module__") 232, val := Value.str (Str.ofString "gateloom.errors") 187 }, { hash := PyData.keyHash P (Str.ofString "__firstlineno__"), key := Value.str (Str.ofString "__firstlineno__") 236, val := Value.int 8 235 }, { hash := PyData.keyHash P (Str.ofString "__static_attributes__"), key := Value.str (Str.ofString "__static_attributes__") 237, val := Value.ref 43 }, { hash := PyData.keyHash P (Str.ofString "__doc__"), key := Value.str (Str.ofString "__doc__") 238, val := Value.none }] 2 }
noncomputable def ob45 (P : Params) : Obj := { cls := Value.type "type", data := Data.cls { name := Str.ofString "SourceError", bases := [Value.ref 32], mro := [Value.ref 45, Value.ref 32, Value.type "Exception", Value.type "BaseException", Value.type "object"], ns := 44, qualname := Str.ofString "SourceError" }, slots := #[some (Value.ref 36), none, some (Value.str (Str.ofString "SourceError") 225), some (Value.str (Str.ofString "SourceError") 233), some (Value.builtin "Exception.__new__"), some (Value.bool true)] }
noncomputable def ob46 (P : Params) : Obj := { cls := Value.type "super", data := Data.fields #[Value.ref 45, Value.ref 45, Value.ref 45] }
noncomputable def ob47 (P : Params) : Obj := { cls := Value.type "builtin_function_or_method", data := Data.fields #[Value.builtin "object.__init_subclass__", Value.ref 45] }
noncomputable def ob48 (P : Params) : Obj := { cls := Value.type "tuple", data := Data.seq #[Value.ref 32] }
noncomputable def ob49 (P : Params) : Obj := { cls := Value.type "builtin_function_or_method", data := Data.fields #[Value.builtin "type.__prepare__", Value.type "type"] }
noncomputable def ob50 (P : Params) : Obj := { cls := Value.type "dict", data := Data.dict #[{ hash := PyData.keyHash P (Str.ofString "__module__"), key := Value.str (Str.ofString "__module__") 248, val := Value.str (Str.ofString "gateloom.errors") 187 }, { hash := PyData.keyHash P (Str.ofString "__qualname__"), key := Value.str (Str.ofString "__qualname__") 250, val := Value.str (Str.ofString "DesignError") 249 }, { hash := PyData.keyHash P (Str.ofString "__firstlineno__"), key := Value.str (Str.ofString "__firstlineno__") 252, val := Value.int 10 251 }, { hash := PyData.keyHash P (Str.ofString "__static_attributes__"), key := Value.str (Str.ofString "__static_attributes__") 253, val := Value.ref 55 }] 4 }
noncomputable def ob51 (P : Params) : Obj := { cls := Value.type "tuple", data := Data.seq #[] }
noncomputable def ob52 (P : Params) : Obj := { cls := Value.none, data := Data.fields #[] }
noncomputable def ob53 (P : Params) : Obj := { cls := Value.type "code", data := Data.fields #[Value.str (Str.ofString "DesignError") 243, Value.str (Str.ofString "DesignError") 244, Value.str (Str.ofString "/claim/cut.py") 245, Value.int 10 0, Value.int 0 0, Value.int 0 0, Value.int 0 0, Value.int 0 0, Value.ref 51, Value.bool false, Value.int 181 0, Value.ref 52, Value.none, Value.none, Value.none, Value.none, Value.int 246 0, Value.int 10 0, Value.str (Str.ofString "/claim/cut.py") 247] }
noncomputable def ob54 (P : Params) : Obj := { cls := Value.type "frame", slots := #[some (Value.ref 53), some (Value.ref 3), some (Value.ref 50), none, some (Value.str (Str.ofString "gateloom.errors") 187), none, some (Value.ref 0)] }
noncomputable def ob55 (P : Params) : Obj := { cls := Value.type "tuple", data := Data.seq #[] }
noncomputable def ob56 (P : Params) : Obj := { cls := Value.type "dict", data := Data.dict #[{ hash := PyData.keyHash P (Str.ofString "__module__"), key := Value.str (Str.ofString "__module__") 248, val := Value.str (Str.ofString "gateloom.errors") 187 }, { hash := PyData.keyHash P (Str.ofString "__firstlineno__"), key := Value.str (Str.ofString "__firstlineno__") 252, val := Value.int 10 251 }, { hash := PyData.keyHash P (Str.ofString "__static_attributes__"), key := Value.str (Str.ofString "__static_attributes__") 253, val := Value.ref 55 }, { hash := PyData.keyHash P (Str.ofString "__doc__"), key := Value.str (Str.ofString "__doc__") 254, val := Value.none }] 2 }
noncomputable def ob57 (P : Params) : Obj := { cls := Value.type "type", data := Data.cls { name := Str.ofString "DesignError", bases := [Value.ref 32], mro := [Value.ref 57, Value.ref 32, Value.type "Exception", Value.type "BaseException", Value.type "object"], ns := 56, qualname := Str.ofString "DesignError" }, slots := #[some (Value.ref 48), none, some (Value.str (Str.ofString "DesignError") 241), some (Value.str (Str.ofString "DesignError") 249), some (Value.builtin "Exception.__new__"), some (Value.bool true)] }
noncomputable def ob58 (P : Params) : Obj := { cls := Value.type "super", data := Data.fields #[Value.ref 57, Value.ref 57, Value.ref 57] }
noncomputable def ob59 (P : Params) : Obj := { cls := Value.type "builtin_function_or_method", data := Data.fields #[Value.builtin "object.__init_subclass__", Value.ref 57] }
noncomputable def ob60 (P : Params) : Obj := { cls := Value.type "tuple", data := Data.seq #[Value.ref 32] }
noncomputable def ob61 (P : Params) : Obj := { cls := Value.type "builtin_function_or_method", data := Data.fields #[Value.builtin "type.__prepare__", Value.type "type"] }
noncomputable def ob62 (P : Params) : Obj := { cls := Value.type "dict", data := Data.dict #[{ hash := PyData.keyHash P (Str.ofString "__module__"), key := Value.str (Str.ofString "__module__") 264, val := Value.str (Str.ofString "gateloom.errors") 187 }, { hash := PyData.keyHash P (Str.ofString "__qualname__"), key := Value.str (Str.ofString "__qualname__") 266, val := Value.str (Str.ofString "SynthError") 265 }, { hash := PyData.keyHash P (Str.ofString "__firstlineno__"), key := Value.str (Str.ofString "__firstlineno__") 268, val := Value.int 12 267 }, { hash := PyData.keyHash P (Str.ofString "__static_attributes__"), key := Value.str (Str.ofString "__static_attributes__") 269, val := Value.ref 67 }] 4 }
noncomputable def ob63 (P : Params) : Obj := { cls := Value.type "tuple", data := Data.seq #[] }
noncomputable def ob64 (P : Params) : Obj := { cls := Value.none, data := Data.fields #[] }
noncomputable def ob65 (P : Params) : Obj := { cls := Value.type "code", data := Data.fields #[Value.str (Str.ofString "SynthError") 259, Value.str (Str.ofString "SynthError") 260, Value.str (Str.ofString "/claim/cut.py") 261, Value.int 12 0, Value.int 0 0, Value.int 0 0, Value.int 0 0, Value.int 0 0, Value.ref 63, Value.bool false, Value.int 181 0, Value.ref 64, Value.none, Value.none, Value.none, Value.none, Value.int 262 0, Value.int 12 0, Value.str (Str.ofString "/claim/cut.py") 263] }
noncomputable def ob66 (P : Params) : Obj := { cls := Value.type "frame", slots := #[some (Value.ref 65), some (Value.ref 3), some (Value.ref 62), none, some (Value.str (Str.ofString "gateloom.errors") 187), none, some (Value.ref 0)] }
noncomputable def ob67 (P : Params) : Obj := { cls := Value.type "tuple", data := Data.seq #[] }
noncomputable def ob68 (P : Params) : Obj := { cls := Value.type "dict", data := Data.dict #[{ hash := PyData.keyHash P (Str.ofString "__module__"), key := Value.str (Str.ofString "__module__") 264, val := Value.str (Str.ofString "gateloom.errors") 187 }, { hash := PyData.keyHash P (Str.ofString "__firstlineno__"), key := Value.str (Str.ofString "__firstlineno__") 268, val := Value.int 12 267 }, { hash := PyData.keyHash P (Str.ofString "__static_attributes__"), key := Value.str (Str.ofString "__static_attributes__") 269, val := Value.ref 67 }, { hash := PyData.keyHash P (Str.ofString "__doc__"), key := Value.str (Str.ofString "__doc__") 270, val := Value.none }] 2 }
noncomputable def ob69 (P : Params) : Obj := { cls := Value.type "type", data := Data.cls { name := Str.ofString "SynthError", bases := [Value.ref 32], mro := [Value.ref 69, Value.ref 32, Value.type "Exception", Value.type "BaseException", Value.type "object"], ns := 68, qualname := Str.ofString "SynthError" }, slots := #[some (Value.ref 60), none, some (Value.str (Str.ofString "SynthError") 257), some (Value.str (Str.ofString "SynthError") 265), some (Value.builtin "Exception.__new__"), some (Value.bool true)] }
noncomputable def ob70 (P : Params) : Obj := { cls := Value.type "super", data := Data.fields #[Value.ref 69, Value.ref 69, Value.ref 69] }
noncomputable def ob71 (P : Params) : Obj := { cls := Value.type "builtin_function_or_method", data := Data.fields #[Value.builtin "object.__init_subclass__", Value.ref 69] }
noncomputable def ob72 (P : Params) : Obj := { cls := Value.type "tuple", data := Data.seq #[Value.ref 32] }
noncomputable def ob73 (P : Params) : Obj := { cls := Value.type "builtin_function_or_method", data := Data.fields #[Value.builtin "type.__prepare__", Value.type "type"] }
noncomputable def ob74 (P : Params) : Obj := { cls := Value.type "dict", data := Data.dict #[{ hash := PyData.keyHash P (Str.ofString "__module__"), key := Value.str (Str.ofString "__module__") 280, val := Value.str (Str.ofString "gateloom.errors") 187 }, { hash := PyData.keyHash P (Str.ofString "__qualname__"), key := Value.str (Str.ofString "__qualname__") 282, val := Value.str (Str.ofString "FormatError") 281 }, { hash := PyData.keyHash P (Str.ofString "__firstlineno__"), key := Value.str (Str.ofString "__firstlineno__") 284, val := Value.int 14 283 }, { hash := PyData.keyHash P (Str.ofString "__static_attributes__"), key := Value.str (Str.ofString "__static_attributes__") 285, val := Value.ref 79 }] 4 }
noncomputable def ob75 (P : Params) : Obj := { cls := Value.type "tuple", data := Data.seq #[] }
noncomputable def ob76 (P : Params) : Obj := { cls := Value.none, data := Data.fields #[] }
noncomputable def ob77 (P : Params) : Obj := { cls := Value.type "code", data := Data.fields #[Value.str (Str.ofString "FormatError") 275, Value.str (Str.ofString "FormatError") 276, Value.str (Str.ofString "/claim/cut.py") 277, Value.int 14 0, Value.int 0 0, Value.int 0 0, Value.int 0 0, Value.int 0 0, Value.ref 75, Value.bool false, Value.int 181 0, Value.ref 76, Value.none, Value.none, Value.none, Value.none, Value.int 278 0, Value.int 14 0, Value.str (Str.ofString "/claim/cut.py") 279] }
noncomputable def ob78 (P : Params) : Obj := { cls := Value.type "frame", slots := #[some (Value.ref 77), some (Value.ref 3), some (Value.ref 74), none, some (Value.str (Str.ofString "gateloom.errors") 187), none, some (Value.ref 0)] }
noncomputable def ob79 (P : Params) : Obj := { cls := Value.type "tuple", data := Data.seq #[] }
noncomputable def ob80 (P : Params) : Obj := { cls := Value.type "dict", data := Data.dict #[{ hash := PyData.keyHash P (Str.ofString "__module__"), key := Value.str (Str.ofString "__module__") 280, val := Value.str (Str.ofString "gateloom.errors") 187 }, { hash := PyData.keyHash P (Str.ofString "__firstlineno__"), key := Value.str (Str.ofString "__firstlineno__") 284, val := Value.int 14 283 }, { hash := PyData.keyHash P (Str.ofString "__static_attributes__"), key := Value.str (Str.ofString "__static_attributes__") 285, val := Value.ref 79 }, { hash := PyData.keyHash P (Str.ofString "__doc__"), key := Value.str (Str.ofString "__doc__") 286, val := Value.none }] 2 }
noncomputable def ob81 (P : Params) : Obj := { cls := Value.type "type", data := Data.cls { name := Str.ofString "FormatError", bases := [Value.ref 32], mro := [Value.ref 81, Value.ref 32, Value.type "Exception", Value.type "BaseException", Value.type "object"], ns := 80, qualname := Str.ofString "FormatError" }, slots := #[some (Value.ref 72), none, some (Value.str (Str.ofString "FormatError") 273), some (Value.str (Str.ofString "FormatError") 281), some (Value.builtin "Exception.__new__"), some (Value.bool true)] }
noncomputable def ob82 (P : Params) : Obj := { cls := Value.type "super", data := Data.fields #[Value.ref 81, Value.ref 81, Value.ref 81] }
noncomputable def ob83 (P : Params) : Obj := { cls := Value.type "builtin_function_or_method", data := Data.fields #[Value.builtin "object.__init_subclass__", Value.ref 81] }
noncomputable def ob84 (P : Params) : Obj := { cls := Value.type "tuple", data := Data.seq #[Value.ref 32] }
noncomputable def ob85 (P : Params) : Obj := { cls := Value.type "builtin_function_or_method", data := Data.fields #[Value.builtin "type.__prepare__", Value.type "type"] }
noncomputable def ob86 (P : Params) : Obj := { cls := Value.type "dict", data := Data.dict #[{ hash := PyData.keyHash P (Str.ofString "__module__"), key := Value.str (Str.ofString "__module__") 296, val := Value.str (Str.ofString "gateloom.errors") 187 }, { hash := PyData.keyHash P (Str.ofString "__qualname__"), key := Value.str (Str.ofString "__qualname__") 298, val := Value.str (Str.ofString "LimitReached") 297 }, { hash := PyData.keyHash P (Str.ofString "__firstlineno__"), key := Value.str (Str.ofString "__firstlineno__") 300, val := Value.int 16 299 }, { hash := PyData.keyHash P (Str.ofString "__static_attributes__"), key := Value.str (Str.ofString "__static_attributes__") 301, val := Value.ref 91 }] 4 }
noncomputable def ob87 (P : Params) : Obj := { cls := Value.type "tuple", data := Data.seq #[] }
noncomputable def ob88 (P : Params) : Obj := { cls := Value.none, data := Data.fields #[] }
noncomputable def ob89 (P : Params) : Obj := { cls := Value.type "code", data := Data.fields #[Value.str (Str.ofString "LimitReached") 291, Value.str (Str.ofString "LimitReached") 292, Value.str (Str.ofString "/claim/cut.py") 293, Value.int 16 0, Value.int 0 0, Value.int 0 0, Value.int 0 0, Value.int 0 0, Value.ref 87, Value.bool false, Value.int 181 0, Value.ref 88, Value.none, Value.none, Value.none, Value.none, Value.int 294 0, Value.int 16 0, Value.str (Str.ofString "/claim/cut.py") 295] }
noncomputable def ob90 (P : Params) : Obj := { cls := Value.type "frame", slots := #[some (Value.ref 89), some (Value.ref 3), some (Value.ref 86), none, some (Value.str (Str.ofString "gateloom.errors") 187), none, some (Value.ref 0)] }
noncomputable def ob91 (P : Params) : Obj := { cls := Value.type "tuple", data := Data.seq #[] }
noncomputable def ob92 (P : Params) : Obj := { cls := Value.type "dict", data := Data.dict #[{ hash := PyData.keyHash P (Str.ofString "__module__"), key := Value.str (Str.ofString "__module__") 296, val := Value.str (Str.ofString "gateloom.errors") 187 }, { hash := PyData.keyHash P (Str.ofString "__firstlineno__"), key := Value.str (Str.ofString "__firstlineno__") 300, val := Value.int 16 299 }, { hash := PyData.keyHash P (Str.ofString "__static_attributes__"), key := Value.str (Str.ofString "__static_attributes__") 301, val := Value.ref 91 }, { hash := PyData.keyHash P (Str.ofString "__doc__"), key := Value.str (Str.ofString "__doc__") 302, val := Value.none }] 2 }
noncomputable def ob93 (P : Params) : Obj := { cls := Value.type "type", data := Data.cls { name := Str.ofString "LimitReached", bases := [Value.ref 32], mro := [Value.ref 93, Value.ref 32, Value.type "Exception", Value.type "BaseException", Value.type "object"], ns := 92, qualname := Str.ofString "LimitReached" }, slots := #[some (Value.ref 84), none, some (Value.str (Str.ofString "LimitReached") 289), some (Value.str (Str.ofString "LimitReached") 297), some (Value.builtin "Exception.__new__"), some (Value.bool true)] }
noncomputable def ob94 (P : Params) : Obj := { cls := Value.type "super", data := Data.fields #[Value.ref 93, Value.ref 93, Value.ref 93] }
noncomputable def ob95 (P : Params) : Obj := { cls := Value.type "builtin_function_or_method", data := Data.fields #[Value.builtin "object.__init_subclass__", Value.ref 93] }
noncomputable def ob3v1 (P : Params) : Obj := { cls := Value.type "dict", data := Data.dict #[{ hash := PyData.keyHash P (Str.ofString "__name__"), key := Value.str (Str.ofString "__name__") 165, val := Value.str (Str.ofString "gateloom.tokens") 343 }, { hash := PyData.keyHash P (Str.ofString "__doc__"), key := Value.str (Str.ofString "__doc__") 166, val := Value.none }, { hash := PyData.keyHash P (Str.ofString "__package__"), key := Value.str (Str.ofString "__package__") 167, val := Value.none }, { hash := PyData.keyHash P (Str.ofString "__loader__"), key := Value.str (Str.ofString "__loader__") 168, val := Value.builtin "__main__.__loader__#opaque" }, { hash := PyData.keyHash P (Str.ofString "__spec__"), key := Value.str (Str.ofString "__spec__") 169, val := Value.none }, { hash := PyData.keyHash P (Str.ofString "__annotations__"), key := Value.str (Str.ofString "__annotations__") 170, val := Value.ref 6 }, { hash := PyData.keyHash P (Str.ofString "__builtins__"), key := Value.str (Str.ofString "__builtins__") 171, val := Value.ref 4 }, { hash := PyData.keyHash P (Str.ofString "__file__"), key := Value.str (Str.ofString "__file__") 173, val := Value.str (Str.ofString "/claim/cut.py") 172 }, { hash := PyData.keyHash P (Str.ofString "__cached__"), key := Value.str (Str.ofString "__cached__") 174, val := Value.none }, { hash := PyData.keyHash P (Str.ofString "GateloomError"), key := Value.str (Str.ofString "GateloomError") 224, val := Value.ref 32 }, { hash := PyData.keyHash P (Str.ofString "SourceError"), key := Value.str (Str.ofString "SourceError") 240, val := Value.ref 45 }, { hash := PyData.keyHash P (Str.ofString "DesignError"), key := Value.str (Str.ofString "DesignError") 256, val := Value.ref 57 }, { hash := PyData.keyHash P (Str.ofString "SynthError"), key := Value.str (Str.ofString "SynthError") 272, val := Value.ref 69 }, { hash := PyData.keyHash P (Str.ofString "FormatError"), key := Value.str (Str.ofString "FormatError") 288, val := Value.ref 81 }, { hash := PyData.keyHash P (Str.ofString "LimitReached"), key := Value.str (Str.ofString "LimitReached") 304, val := Value.ref 93 }, { hash := PyData.keyHash P (Str.ofString "place"), key := Value.str (Str.ofString "place") 315, val := Value.ref 102 }, { hash := PyData.keyHash P (Str.ofString "describe"), key := Value.str (Str.ofString "describe") 326, val := Value.ref 109 }, { hash := PyData.keyHash P (Str.ofString "keyword_words"), key := Value.str (Str.ofString "keyword_words") 334, val := Value.ref 116 }, { hash := PyData.keyHash P (Str.ofString "keywords"), key := Value.str (Str.ofString "keywords") 342, val := Value.ref 123 }, { hash := PyData.keyHash P (Str.ofString "Token"), key := Value.str (Str.ofString "Token") 377, val := Value.ref 140 }, { hash := PyData.keyHash P (Str.ofString "is_letter"), key := Value.str (Str.ofString "is_letter") 384, val := Value.ref 151 }, { hash := PyData.keyHash P (Str.ofString "is_digit"), key := Value.str (Str.ofString "is_digit") 391, val := Value.ref 158 }, { hash := PyData.keyHash P (Str.ofString "is_word_char"), key := Value.str (Str.ofString "is_word_char") 398, val := Value.ref 165 }, { hash := PyData.keyHash P (Str.ofString "is_layout"), key := Value.str (Str.ofString "is_layout") 405, val := Value.ref 172 }, { hash := PyData.keyHash P (Str.ofString "fits_base"), key := Value.str (Str.ofString "fits_base") 415, val := Value.ref 179 }] 25 }
noncomputable def ob12v2 (P : Params) : Obj := { cls := Value.none, data := Data.fields #[Value.int 2 0, Value.int 0 0, Value.ref 20, Value.int 8 0, Value.int 0 0, Value.ref 41, Value.int 10 0, Value.int 0 0, Value.ref 53, Value.int 12 0, Value.int 0 0, Value.ref 65, Value.int 14 0, Value.int 0 0, Value.ref 77, Value.int 16 0, Value.int 0 0, Value.ref 89, Value.int 18 0, Value.int 0 0, Value.ref 101, Value.int 26 0, Value.int 0 0, Value.ref 108, Value.int 35 0, Value.int 0 0, Value.ref 115, Value.int 37 0, Value.int 0 0, Value.ref 122, Value.int 43 0, Value.int 0 0, Value.ref 129, Value.int 49 0, Value.int 0 0, Value.ref 150, Value.int 51 0, Value.int 0 0, Value.ref 157, Value.int 53 0, Value.int 0 0, Value.ref 164, Value.int 55 0, Value.int 0 0, Value.ref 171, Value.int 57 0, Value.int 0 0, Value.ref 178] }
noncomputable def ob96 (P : Params) : Obj := { cls := Value.type "tuple", data := Data.seq #[] }
noncomputable def ob97 (P : Params) : Obj := { cls := Value.none, data := Data.fields #[] }
noncomputable def ob98 (P : Params) : Obj := { cls := Value.type "tuple", data := Data.seq #[Value.str (Str.ofString "text") 308, Value.str (Str.ofString "at") 309, Value.str (Str.ofString "row") 310, Value.str (Str.ofString "start") 311, Value.str (Str.ofString "i") 312] }
noncomputable def ob99 (P : Params) : Obj := { cls := Value.type "tuple", data := Data.seq #[] }
noncomputable def ob100 (P : Params) : Obj := { cls := Value.none, data := Data.func { name := Str.ofString "place", qualname := Str.ofString "place", params := (fnParts PG 7 none).1, body := FuncBody.stmts (fnParts PG 7 none).2.1, scope := (fnParts PG 7 none).2.2, globals := 0, closure := [], defaults := Value.none, kwdefaults := Value.none } }
noncomputable def ob101 (P : Params) : Obj := { cls := Value.type "code", data := Data.fields #[Value.str (Str.ofString "place") 305, Value.str (Str.ofString "place") 306, Value.str (Str.ofString "/claim/cut.py") 307, Value.int 18 0, Value.int 2 0, Value.int 0 0, Value.int 0 0, Value.int 3 0, Value.ref 96, Value.bool true, Value.int 181 0, Value.ref 97, Value.none, Value.ref 98, Value.ref 99, Value.ref 100, Value.int 313 0, Value.int 18 0, Value.str (Str.ofString "/claim/cut.py") 314] }
noncomputable def ob102 (P : Params) : Obj := { cls := Value.type "function", data := Data.func { name := Str.ofString "place", qualname := Str.ofString "place", params := (fnParts PG 7 none).1, body := FuncBody.stmts (fnParts PG 7 none).2.1, scope := (fnParts PG 7 none).2.2, globals := 3, closure := [], defaults := Value.none, kwdefaults := Value.none, pyModule := Value.str (Str.ofString "gateloom.errors") 187, code := Value.ref 101 } }
noncomputable def ob103 (P : Params) : Obj := { cls := Value.type "tuple", data := Data.seq #[] }
noncomputable def ob104 (P : Params) : Obj := { cls := Value.none, data := Data.fields #[] }
noncomputable def ob105 (P : Params) : Obj := { cls := Value.type "tuple", data := Data.seq #[Value.str (Str.ofString "error") 319, Value.str (Str.ofString "text") 320, Value.str (Str.ofString "message") 321, Value.str (Str.ofString "row") 322, Value.str (Str.ofString "column") 323] }
noncomputable def ob106 (P : Params) : Obj := { cls := Value.type "tuple", data := Data.seq #[] }
noncomputable def ob107 (P : Params) : Obj := { cls := Value.none, data := Data.func { name := Str.ofString "describe", qualname := Str.ofString "describe", params := (fnParts PG 8 none).1, body := FuncBody.stmts (fnParts PG 8 none).2.1, scope := (fnParts PG 8 none).2.2, globals := 0, closure := [], defaults := Value.none, kwdefaults := Value.none } }
noncomputable def ob108 (P : Params) : Obj := { cls := Value.type "code", data := Data.fields #[Value.str (Str.ofString "describe") 316, Value.str (Str.ofString "describe") 317, Value.str (Str.ofString "/claim/cut.py") 318, Value.int 26 0, Value.int 2 0, Value.int 0 0, Value.int 0 0, Value.int 3 0, Value.ref 103, Value.bool true, Value.int 181 0, Value.ref 104, Value.none, Value.ref 105, Value.ref 106, Value.ref 107, Value.int 324 0, Value.int 26 0, Value.str (Str.ofString "/claim/cut.py") 325] }
noncomputable def ob109 (P : Params) : Obj := { cls := Value.type "function", data := Data.func { name := Str.ofString "describe", qualname := Str.ofString "describe", params := (fnParts PG 8 none).1, body := FuncBody.stmts (fnParts PG 8 none).2.1, scope := (fnParts PG 8 none).2.2, globals := 3, closure := [], defaults := Value.none, kwdefaults := Value.none, pyModule := Value.str (Str.ofString "gateloom.errors") 187, code := Value.ref 108 } }
noncomputable def ob110 (P : Params) : Obj := { cls := Value.type "tuple", data := Data.seq #[] }
noncomputable def ob111 (P : Params) : Obj := { cls := Value.none, data := Data.fields #[] }
noncomputable def ob112 (P : Params) : Obj := { cls := Value.type "tuple", data := Data.seq #[] }
noncomputable def ob113 (P : Params) : Obj := { cls := Value.type "tuple", data := Data.seq #[] }
noncomputable def ob114 (P : Params) : Obj := { cls := Value.none, data := Data.func { name := Str.ofString "keyword_words", qualname := Str.ofString "keyword_words", params := (fnParts PG 10 none).1, body := FuncBody.stmts (fnParts PG 10 none).2.1, scope := (fnParts PG 10 none).2.2, globals := 0, closure := [], defaults := Value.none, kwdefaults := Value.none } }
noncomputable def ob115 (P : Params) : Obj := { cls := Value.type "code", data := Data.fields #[Value.str (Str.ofString "keyword_words") 329, Value.str (Str.ofString "keyword_words") 330, Value.str (Str.ofString "/claim/cut.py") 331, Value.int 35 0, Value.int 0 0, Value.int 0 0, Value.int 0 0, Value.int 3 0, Value.ref 110, Value.bool true, Value.int 181 0, Value.ref 111, Value.none, Value.ref 112, Value.ref 113, Value.ref 114, Value.int 332 0, Value.int 35 0, Value.str (Str.ofString "/claim/cut.py") 333] }
noncomputable def ob116 (P : Params) : Obj := { cls := Value.type "function", data := Data.func { name := Str.ofString "keyword_words", qualname := Str.ofString "keyword_words", params := (fnParts PG 10 none).1, body := FuncBody.stmts (fnParts PG 10 none).2.1, scope := (fnParts PG 10 none).2.2, globals := 3, closure := [], defaults := Value.none, kwdefaults := Value.none, pyModule := Value.str (Str.ofString "gateloom.keywords") 327, code := Value.ref 115 } }
noncomputable def ob117 (P : Params) : Obj := { cls := Value.type "tuple", data := Data.seq #[] }
noncomputable def ob118 (P : Params) : Obj := { cls := Value.none, data := Data.fields #[] }
noncomputable def ob119 (P : Params) : Obj := { cls := Value.type "tuple", data := Data.seq #[Value.str (Str.ofString "found") 338, Value.str (Str.ofString "word") 339] }
noncomputable def ob120 (P : Params) : Obj := { cls := Value.type "tuple", data := Data.seq #[] }
noncomputable def ob121 (P : Params) : Obj := { cls := Value.none, data := Data.func { name := Str.ofString "keywords", qualname := Str.ofString "keywords", params := (fnParts PG 11 none).1, body := FuncBody.stmts (fnParts PG 11 none).2.1, scope := (fnParts PG 11 none).2.2, globals := 0, closure := [], defaults := Value.none, kwdefaults := Value.none } }
noncomputable def ob122 (P : Params) : Obj := { cls := Value.type "code", data := Data.fields #[Value.str (Str.ofString "keywords") 335, Value.str (Str.ofString "keywords") 336, Value.str (Str.ofString "/claim/cut.py") 337, Value.int 37 0, Value.int 0 0, Value.int 0 0, Value.int 0 0, Value.int 3 0, Value.ref 117, Value.bool true, Value.int 181 0, Value.ref 118, Value.none, Value.ref 119, Value.ref 120, Value.ref 121, Value.int 340 0, Value.int 37 0, Value.str (Str.ofString "/claim/cut.py") 341] }
noncomputable def ob123 (P : Params) : Obj := { cls := Value.type "function", data := Data.func { name := Str.ofString "keywords", qualname := Str.ofString "keywords", params := (fnParts PG 11 none).1, body := FuncBody.stmts (fnParts PG 11 none).2.1, scope := (fnParts PG 11 none).2.2, globals := 3, closure := [], defaults := Value.none, kwdefaults := Value.none, pyModule := Value.str (Str.ofString "gateloom.keywords") 327, code := Value.ref 122 } }
noncomputable def ob124 (P : Params) : Obj := { cls := Value.type "tuple", data := Data.seq #[] }
noncomputable def ob125 (P : Params) : Obj := { cls := Value.type "builtin_function_or_method", data := Data.fields #[Value.builtin "type.__prepare__", Value.type "type"] }
noncomputable def ob126 (P : Params) : Obj := { cls := Value.type "dict", data := Data.dict #[{ hash := PyData.keyHash P (Str.ofString "__module__"), key := Value.str (Str.ofString "__module__") 352, val := Value.str (Str.ofString "gateloom.tokens") 343 }, { hash := PyData.keyHash P (Str.ofString "__qualname__"), key := Value.str (Str.ofString "__qualname__") 354, val := Value.str (Str.ofString "Token") 353 }, { hash := PyData.keyHash P (Str.ofString "__firstlineno__"), key := Value.str (Str.ofString "__firstlineno__") 356, val := Value.int 43 355 }, { hash := PyData.keyHash P (Str.ofString "__init__"), key := Value.str (Str.ofString "__init__") 366, val := Value.ref 137 }, { hash := PyData.keyHash P (Str.ofString "__static_attributes__"), key := Value.str (Str.ofString "__static_attributes__") 370, val := Value.ref 138 }] 5 }
noncomputable def ob127 (P : Params) : Obj := { cls := Value.type "tuple", data := Data.seq #[] }
noncomputable def ob128 (P : Params) : Obj := { cls := Value.none, data := Data.fields #[Value.int 45 0, Value.int 4 0, Value.ref 136] }
noncomputable def ob129 (P : Params) : Obj := { cls := Value.type "code", data := Data.fields #[Value.str (Str.ofString "Token") 347, Value.str (Str.ofString "Token") 348, Value.str (Str.ofString "/claim/cut.py") 349, Value.int 43 0, Value.int 0 0, Value.int 0 0, Value.int 0 0, Value.int 0 0, Value.ref 127, Value.bool false, Value.int 181 0, Value.ref 128, Value.none, Value.none, Value.none, Value.none, Value.int 350 0, Value.int 43 0, Value.str (Str.ofString "/claim/cut.py") 351] }
noncomputable def ob130 (P : Params) : Obj := { cls := Value.type "frame", slots := #[some (Value.ref 129), some (Value.ref 3), some (Value.ref 126), none, some (Value.str (Str.ofString "gateloom.tokens") 343), none, some (Value.ref 0)] }
noncomputable def ob131 (P : Params) : Obj := { cls := Value.type "tuple", data := Data.seq #[] }
noncomputable def ob132 (P : Params) : Obj := { cls := Value.none, data := Data.fields #[] }
noncomputable def ob133 (P : Params) : Obj := { cls := Value.type "tuple", data := Data.seq #[Value.str (Str.ofString "self") 360, Value.str (Str.ofString "kind") 361, Value.str (Str.ofString "value") 362, Value.str (Str.ofString "at") 363] }
noncomputable def ob134 (P : Params) : Obj := { cls := Value.type "tuple", data := Data.seq #[] }
noncomputable def ob135 (P : Params) : Obj := { cls := Value.none, data := Data.func { name := Str.ofString "__init__", qualname := Str.ofString "Token.__init__", params := (fnParts PG 13 (some 0)).1, body := FuncBody.stmts (fnParts PG 13 (some 0)).2.1, scope := (fnParts PG 13 (some 0)).2.2, globals := 0, closure := [], defaults := Value.none, kwdefaults := Value.none } }
noncomputable def ob136 (P : Params) : Obj := { cls := Value.type "code", data := Data.fields #[Value.str (Str.ofString "__init__") 357, Value.str (Str.ofString "Token.__init__") 358, Value.str (Str.ofString "/claim/cut.py") 359, Value.int 45 0, Value.int 4 0, Value.int 0 0, Value.int 0 0, Value.int 3 0, Value.ref 131, Value.bool true, Value.int 181 0, Value.ref 132, Value.none, Value.ref 133, Value.ref 134, Value.ref 135, Value.int 364 0, Value.int 45 0, Value.str (Str.ofString "/claim/cut.py") 365] }
noncomputable def ob137 (P : Params) : Obj := { cls := Value.type "function", data := Data.func { name := Str.ofString "__init__", qualname := Str.ofString "Token.__init__", params := (fnParts PG 13 (some 0)).1, body := FuncBody.stmts (fnParts PG 13 (some 0)).2.1, scope := (fnParts PG 13 (some 0)).2.2, globals := 3, closure := [], defaults := Value.none, kwdefaults := Value.none, pyModule := Value.str (Str.ofString "gateloom.tokens") 343, code := Value.ref 136 } }
noncomputable def ob138 (P : Params) : Obj := { cls := Value.type "tuple", data := Data.seq #[Value.str (Str.ofString "at") 367, Value.str (Str.ofString "kind") 368, Value.str (Str.ofString "value") 369] }
noncomputable def ob139 (P : Params) : Obj := { cls := Value.type "dict", data := Data.dict #[{ hash := PyData.keyHash P (Str.ofString "__module__"), key := Value.str (Str.ofString "__module__") 352, val := Value.str (Str.ofString "gateloom.tokens") 343 }, { hash := PyData.keyHash P (Str.ofString "__firstlineno__"), key := Value.str (Str.ofString "__firstlineno__") 356, val := Value.int 43 355 }, { hash := PyData.keyHash P (Str.ofString "__init__"), key := Value.str (Str.ofString "__init__") 366, val := Value.ref 137 }, { hash := PyData.keyHash P (Str.ofString "__static_attributes__"), key := Value.str (Str.ofString "__static_attributes__") 370, val := Value.ref 138 }, { hash := PyData.keyHash P (Str.ofString "__dict__"), key := Value.str (Str.ofString "__dict__") 372, val := Value.ref 141 }, { hash := PyData.keyHash P (Str.ofString "__weakref__"), key := Value.str (Str.ofString "__weakref__") 374, val := Value.ref 142 }, { hash := PyData.keyHash P (Str.ofString "__doc__"), key := Value.str (Str.ofString "__doc__") 375, val := Value.none }] 4 }
noncomputable def ob140 (P : Params) : Obj := { cls := Value.type "type", data := Data.cls { name := Str.ofString "Token", bases := [Value.type "object"], mro := [Value.ref 140, Value.type "object"], ns := 139, qualname := Str.ofString "Token" }, slots := #[none, none, some (Value.str (Str.ofString "Token") 345), some (Value.str (Str.ofString "Token") 353), some (Value.builtin "object.__new__"), some (Value.bool true)] }
noncomputable def ob141 (P : Params) : Obj := { cls := Value.type "getset_descriptor", data := Data.fields #[Value.str (Str.ofString "__dict__") 371, Value.ref 140, Value.builtin "function.__dict__", Value.builtin "function.__dict__#set"] }
noncomputable def ob142 (P : Params) : Obj := { cls := Value.type "getset_descriptor", data := Data.fields #[Value.str (Str.ofString "__weakref__") 373, Value.ref 140, Value.builtin "ExceptionGroup.__weakref__", Value.none] }
noncomputable def ob143 (P : Params) : Obj := { cls := Value.type "super", data := Data.fields #[Value.ref 140, Value.ref 140, Value.ref 140] }
noncomputable def ob144 (P : Params) : Obj := { cls := Value.type "builtin_function_or_method", data := Data.fields #[Value.builtin "object.__init_subclass__", Value.ref 140] }
noncomputable def ob145 (P : Params) : Obj := { cls := Value.type "tuple", data := Data.seq #[] }
noncomputable def ob146 (P : Params) : Obj := { cls := Value.none, data := Data.fields #[] }
noncomputable def ob147 (P : Params) : Obj := { cls := Value.type "tuple", data := Data.seq #[Value.str (Str.ofString "char") 381] }
noncomputable def ob148 (P : Params) : Obj := { cls := Value.type "tuple", data := Data.seq #[] }
noncomputable def ob149 (P : Params) : Obj := { cls := Value.none, data := Data.func { name := Str.ofString "is_letter", qualname := Str.ofString "is_letter", params := (fnParts PG 14 none).1, body := FuncBody.stmts (fnParts PG 14 none).2.1, scope := (fnParts PG 14 none).2.2, globals := 0, closure := [], defaults := Value.none, kwdefaults := Value.none } }
noncomputable def ob150 (P : Params) : Obj := { cls := Value.type "code", data := Data.fields #[Value.str (Str.ofString "is_letter") 378, Value.str (Str.ofString "is_letter") 379, Value.str (Str.ofString "/claim/cut.py") 380, Value.int 49 0, Value.int 1 0, Value.int 0 0, Value.int 0 0, Value.int 3 0, Value.ref 145, Value.bool true, Value.int 181 0, Value.ref 146, Value.none, Value.ref 147, Value.ref 148, Value.ref 149, Value.int 382 0, Value.int 49 0, Value.str (Str.ofString "/claim/cut.py") 383] }
noncomputable def ob151 (P : Params) : Obj := { cls := Value.type "function", data := Data.func { name := Str.ofString "is_letter", qualname := Str.ofString "is_letter", params := (fnParts PG 14 none).1, body := FuncBody.stmts (fnParts PG 14 none).2.1, scope := (fnParts PG 14 none).2.2, globals := 3, closure := [], defaults := Value.none, kwdefaults := Value.none, pyModule := Value.str (Str.ofString "gateloom.tokens") 343, code := Value.ref 150 } }
noncomputable def ob152 (P : Params) : Obj := { cls := Value.type "tuple", data := Data.seq #[] }
noncomputable def ob153 (P : Params) : Obj := { cls := Value.none, data := Data.fields #[] }
noncomputable def ob154 (P : Params) : Obj := { cls := Value.type "tuple", data := Data.seq #[Value.str (Str.ofString "char") 388] }
noncomputable def ob155 (P : Params) : Obj := { cls := Value.type "tuple", data := Data.seq #[] }
noncomputable def ob156 (P : Params) : Obj := { cls := Value.none, data := Data.func { name := Str.ofString "is_digit", qualname := Str.ofString "is_digit", params := (fnParts PG 15 none).1, body := FuncBody.stmts (fnParts PG 15 none).2.1, scope := (fnParts PG 15 none).2.2, globals := 0, closure := [], defaults := Value.none, kwdefaults := Value.none } }
noncomputable def ob157 (P : Params) : Obj := { cls := Value.type "code", data := Data.fields #[Value.str (Str.ofString "is_digit") 385, Value.str (Str.ofString "is_digit") 386, Value.str (Str.ofString "/claim/cut.py") 387, Value.int 51 0, Value.int 1 0, Value.int 0 0, Value.int 0 0, Value.int 3 0, Value.ref 152, Value.bool true, Value.int 181 0, Value.ref 153, Value.none, Value.ref 154, Value.ref 155, Value.ref 156, Value.int 389 0, Value.int 51 0, Value.str (Str.ofString "/claim/cut.py") 390] }
noncomputable def ob158 (P : Params) : Obj := { cls := Value.type "function", data := Data.func { name := Str.ofString "is_digit", qualname := Str.ofString "is_digit", params := (fnParts PG 15 none).1, body := FuncBody.stmts (fnParts PG 15 none).2.1, scope := (fnParts PG 15 none).2.2, globals := 3, closure := [], defaults := Value.none, kwdefaults := Value.none, pyModule := Value.str (Str.ofString "gateloom.tokens") 343, code := Value.ref 157 } }
noncomputable def ob159 (P : Params) : Obj := { cls := Value.type "tuple", data := Data.seq #[] }
noncomputable def ob160 (P : Params) : Obj := { cls := Value.none, data := Data.fields #[] }
noncomputable def ob161 (P : Params) : Obj := { cls := Value.type "tuple", data := Data.seq #[Value.str (Str.ofString "char") 395] }
noncomputable def ob162 (P : Params) : Obj := { cls := Value.type "tuple", data := Data.seq #[] }
noncomputable def ob163 (P : Params) : Obj := { cls := Value.none, data := Data.func { name := Str.ofString "is_word_char", qualname := Str.ofString "is_word_char", params := (fnParts PG 16 none).1, body := FuncBody.stmts (fnParts PG 16 none).2.1, scope := (fnParts PG 16 none).2.2, globals := 0, closure := [], defaults := Value.none, kwdefaults := Value.none } }
noncomputable def ob164 (P : Params) : Obj := { cls := Value.type "code", data := Data.fields #[Value.str (Str.ofString "is_word_char") 392, Value.str (Str.ofString "is_word_char") 393, Value.str (Str.ofString "/claim/cut.py") 394, Value.int 53 0, Value.int 1 0, Value.int 0 0, Value.int 0 0, Value.int 3 0, Value.ref 159, Value.bool true, Value.int 181 0, Value.ref 160, Value.none, Value.ref 161, Value.ref 162, Value.ref 163, Value.int 396 0, Value.int 53 0, Value.str (Str.ofString "/claim/cut.py") 397] }
noncomputable def ob165 (P : Params) : Obj := { cls := Value.type "function", data := Data.func { name := Str.ofString "is_word_char", qualname := Str.ofString "is_word_char", params := (fnParts PG 16 none).1, body := FuncBody.stmts (fnParts PG 16 none).2.1, scope := (fnParts PG 16 none).2.2, globals := 3, closure := [], defaults := Value.none, kwdefaults := Value.none, pyModule := Value.str (Str.ofString "gateloom.tokens") 343, code := Value.ref 164 } }
noncomputable def ob166 (P : Params) : Obj := { cls := Value.type "tuple", data := Data.seq #[] }
noncomputable def ob167 (P : Params) : Obj := { cls := Value.none, data := Data.fields #[] }
noncomputable def ob168 (P : Params) : Obj := { cls := Value.type "tuple", data := Data.seq #[Value.str (Str.ofString "char") 402] }
noncomputable def ob169 (P : Params) : Obj := { cls := Value.type "tuple", data := Data.seq #[] }
noncomputable def ob170 (P : Params) : Obj := { cls := Value.none, data := Data.func { name := Str.ofString "is_layout", qualname := Str.ofString "is_layout", params := (fnParts PG 17 none).1, body := FuncBody.stmts (fnParts PG 17 none).2.1, scope := (fnParts PG 17 none).2.2, globals := 0, closure := [], defaults := Value.none, kwdefaults := Value.none } }
noncomputable def ob171 (P : Params) : Obj := { cls := Value.type "code", data := Data.fields #[Value.str (Str.ofString "is_layout") 399, Value.str (Str.ofString "is_layout") 400, Value.str (Str.ofString "/claim/cut.py") 401, Value.int 55 0, Value.int 1 0, Value.int 0 0, Value.int 0 0, Value.int 3 0, Value.ref 166, Value.bool true, Value.int 181 0, Value.ref 167, Value.none, Value.ref 168, Value.ref 169, Value.ref 170, Value.int 403 0, Value.int 55 0, Value.str (Str.ofString "/claim/cut.py") 404] }
noncomputable def ob172 (P : Params) : Obj := { cls := Value.type "function", data := Data.func { name := Str.ofString "is_layout", qualname := Str.ofString "is_layout", params := (fnParts PG 17 none).1, body := FuncBody.stmts (fnParts PG 17 none).2.1, scope := (fnParts PG 17 none).2.2, globals := 3, closure := [], defaults := Value.none, kwdefaults := Value.none, pyModule := Value.str (Str.ofString "gateloom.tokens") 343, code := Value.ref 171 } }
noncomputable def ob173 (P : Params) : Obj := { cls := Value.type "tuple", data := Data.seq #[] }
noncomputable def ob174 (P : Params) : Obj := { cls := Value.none, data := Data.fields #[] }
noncomputable def ob175 (P : Params) : Obj := { cls := Value.type "tuple", data := Data.seq #[Value.str (Str.ofString "base") 409, Value.str (Str.ofString "digits") 410, Value.str (Str.ofString "allowed") 411, Value.str (Str.ofString "digit") 412] }
noncomputable def ob176 (P : Params) : Obj := { cls := Value.type "tuple", data := Data.seq #[] }
noncomputable def ob177 (P : Params) : Obj := { cls := Value.none, data := Data.func { name := Str.ofString "fits_base", qualname := Str.ofString "fits_base", params := (fnParts PG 18 none).1, body := FuncBody.stmts (fnParts PG 18 none).2.1, scope := (fnParts PG 18 none).2.2, globals := 0, closure := [], defaults := Value.none, kwdefaults := Value.none } }
noncomputable def ob178 (P : Params) : Obj := { cls := Value.type "code", data := Data.fields #[Value.str (Str.ofString "fits_base") 406, Value.str (Str.ofString "fits_base") 407, Value.str (Str.ofString "/claim/cut.py") 408, Value.int 57 0, Value.int 2 0, Value.int 0 0, Value.int 0 0, Value.int 3 0, Value.ref 173, Value.bool true, Value.int 181 0, Value.ref 174, Value.none, Value.ref 175, Value.ref 176, Value.ref 177, Value.int 413 0, Value.int 57 0, Value.str (Str.ofString "/claim/cut.py") 414] }
noncomputable def ob179 (P : Params) : Obj := { cls := Value.type "function", data := Data.func { name := Str.ofString "fits_base", qualname := Str.ofString "fits_base", params := (fnParts PG 18 none).1, body := FuncBody.stmts (fnParts PG 18 none).2.1, scope := (fnParts PG 18 none).2.2, globals := 3, closure := [], defaults := Value.none, kwdefaults := Value.none, pyModule := Value.str (Str.ofString "gateloom.tokens") 343, code := Value.ref 178 } }
noncomputable def ob3v2 (P : Params) : Obj := { cls := Value.type "dict", data := Data.dict #[{ hash := PyData.keyHash P (Str.ofString "__name__"), key := Value.str (Str.ofString "__name__") 165, val := Value.str (Str.ofString "law_pq0460_01") 631 }, { hash := PyData.keyHash P (Str.ofString "__doc__"), key := Value.str (Str.ofString "__doc__") 166, val := Value.none }, { hash := PyData.keyHash P (Str.ofString "__package__"), key := Value.str (Str.ofString "__package__") 167, val := Value.none }, { hash := PyData.keyHash P (Str.ofString "__loader__"), key := Value.str (Str.ofString "__loader__") 168, val := Value.builtin "__main__.__loader__#opaque" }, { hash := PyData.keyHash P (Str.ofString "__spec__"), key := Value.str (Str.ofString "__spec__") 169, val := Value.none }, { hash := PyData.keyHash P (Str.ofString "__annotations__"), key := Value.str (Str.ofString "__annotations__") 170, val := Value.ref 6 }, { hash := PyData.keyHash P (Str.ofString "__builtins__"), key := Value.str (Str.ofString "__builtins__") 171, val := Value.ref 4 }, { hash := PyData.keyHash P (Str.ofString "__file__"), key := Value.str (Str.ofString "__file__") 173, val := Value.str (Str.ofString "/claim/cut.py") 172 }, { hash := PyData.keyHash P (Str.ofString "__cached__"), key := Value.str (Str.ofString "__cached__") 174, val := Value.none }, { hash := PyData.keyHash P (Str.ofString "GateloomError"), key := Value.str (Str.ofString "GateloomError") 224, val := Value.ref 32 }, { hash := PyData.keyHash P (Str.ofString "SourceError"), key := Value.str (Str.ofString "SourceError") 240, val := Value.ref 45 }, { hash := PyData.keyHash P (Str.ofString "DesignError"), key := Value.str (Str.ofString "DesignError") 256, val := Value.ref 57 }, { hash := PyData.keyHash P (Str.ofString "SynthError"), key := Value.str (Str.ofString "SynthError") 272, val := Value.ref 69 }, { hash := PyData.keyHash P (Str.ofString "FormatError"), key := Value.str (Str.ofString "FormatError") 288, val := Value.ref 81 }, { hash := PyData.keyHash P (Str.ofString "LimitReached"), key := Value.str (Str.ofString "LimitReached") 304, val := Value.ref 93 }, { hash := PyData.keyHash P (Str.ofString "place"), key := Value.str (Str.ofString "place") 315, val := Value.ref 102 }, { hash := PyData.keyHash P (Str.ofString "describe"), key := Value.str (Str.ofString "describe") 326, val := Value.ref 109 }, { hash := PyData.keyHash P (Str.ofString "keyword_words"), key := Value.str (Str.ofString "keyword_words") 334, val := Value.ref 116 }, { hash := PyData.keyHash P (Str.ofString "keywords"), key := Value.str (Str.ofString "keywords") 342, val := Value.ref 123 }, { hash := PyData.keyHash P (Str.ofString "Token"), key := Value.str (Str.ofString "Token") 377, val := Value.ref 140 }, { hash := PyData.keyHash P (Str.ofString "is_letter"), key := Value.str (Str.ofString "is_letter") 384, val := Value.ref 151 }, { hash := PyData.keyHash P (Str.ofString "is_digit"), key := Value.str (Str.ofString "is_digit") 391, val := Value.ref 158 }, { hash := PyData.keyHash P (Str.ofString "is_word_char"), key := Value.str (Str.ofString "is_word_char") 398, val := Value.ref 165 }, { hash := PyData.keyHash P (Str.ofString "is_layout"), key := Value.str (Str.ofString "is_layout") 405, val := Value.ref 172 }, { hash := PyData.keyHash P (Str.ofString "fits_base"), key := Value.str (Str.ofString "fits_base") 415, val := Value.ref 179 }, { hash := PyData.keyHash P (Str.ofString "Lexer"), key := Value.str (Str.ofString "Lexer") 630, val := Value.ref 330 }, { hash := PyData.keyHash P (Str.ofString "_law_piece"), key := Value.str (Str.ofString "_law_piece") 640, val := Value.ref 341 }, { hash := PyData.keyHash P (Str.ofString "_law_spot"), key := Value.str (Str.ofString "_law_spot") 651, val := Value.ref 348 }, { hash := PyData.keyHash P (Str.ofString "_law_fault"), key := Value.str (Str.ofString "_law_fault") 662, val := Value.ref 355 }, { hash := PyData.keyHash P (Str.ofString "_law_message"), key := Value.str (Str.ofString "_law_message") 672, val := Value.ref 362 }, { hash := PyData.keyHash P (Str.ofString "law"), key := Value.str (Str.ofString "law") 678, val := Value.ref 367 }] 31 }
noncomputable def ob12v3 (P : Params) : Obj := { cls := Value.none, data := Data.fields #[Value.int 2 0, Value.int 0 0, Value.ref 20, Value.int 8 0, Value.int 0 0, Value.ref 41, Value.int 10 0, Value.int 0 0, Value.ref 53, Value.int 12 0, Value.int 0 0, Value.ref 65, Value.int 14 0, Value.int 0 0, Value.ref 77, Value.int 16 0, Value.int 0 0, Value.ref 89, Value.int 18 0, Value.int 0 0, Value.ref 101, Value.int 26 0, Value.int 0 0, Value.ref 108, Value.int 35 0, Value.int 0 0, Value.ref 115, Value.int 37 0, Value.int 0 0, Value.ref 122, Value.int 43 0, Value.int 0 0, Value.ref 129, Value.int 49 0, Value.int 0 0, Value.ref 150, Value.int 51 0, Value.int 0 0, Value.ref 157, Value.int 53 0, Value.int 0 0, Value.ref 164, Value.int 55 0, Value.int 0 0, Value.ref 171, Value.int 57 0, Value.int 0 0, Value.ref 178, Value.int 73 0, Value.int 0 0, Value.ref 185, Value.int 291 0, Value.int 0 0, Value.ref 340, Value.int 295 0, Value.int 0 0, Value.ref 347, Value.int 304 0, Value.int 0 0, Value.ref 354, Value.int 314 0, Value.int 0 0, Value.ref 361, Value.int 319 0, Value.int 0 0, Value.ref 366] }
noncomputable def ob180 (P : Params) : Obj := { cls := Value.type "tuple", data := Data.seq #[] }
noncomputable def ob181 (P : Params) : Obj := { cls := Value.type "builtin_function_or_method", data := Data.fields #[Value.builtin "type.__prepare__", Value.type "type"] }
noncomputable def ob182 (P : Params) : Obj := { cls := Value.type "dict", data := Data.dict #[{ hash := PyData.keyHash P (Str.ofString "__module__"), key := Value.str (Str.ofString "__module__") 423, val := Value.str (Str.ofString "gateloom.tokens") 343 }, { hash := PyData.keyHash P (Str.ofString "__qualname__"), key := Value.str (Str.ofString "__qualname__") 425, val := Value.str (Str.ofString "Lexer") 424 }, { hash := PyData.keyHash P (Str.ofString "__firstlineno__"), key := Value.str (Str.ofString "__firstlineno__") 427, val := Value.int 73 426 }, { hash := PyData.keyHash P (Str.ofString "__init__"), key := Value.str (Str.ofString "__init__") 437, val := Value.ref 194 }, { hash := PyData.keyHash P (Str.ofString "char"), key := Value.str (Str.ofString "char") 445, val := Value.ref 201 }, { hash := PyData.keyHash P (Str.ofString "pair"), key := Value.str (Str.ofString "pair") 453, val := Value.ref 208 }, { hash := PyData.keyHash P (Str.ofString "past_layout"), key := Value.str (Str.ofString "past_layout") 461, val := Value.ref 215 }, { hash := PyData.keyHash P (Str.ofString "past_gap"), key := Value.str (Str.ofString "past_gap") 471, val := Value.ref 222 }, { hash := PyData.keyHash P (Str.ofString "next_token"), key := Value.str (Str.ofString "next_token") 480, val := Value.ref 229 }, { hash := PyData.keyHash P (Str.ofString "skip"), key := Value.str (Str.ofString "skip") 489, val := Value.ref 236 }, { hash := PyData.keyHash P (Str.ofString "skip_row"), key := Value.str (Str.ofString "skip_row") 496, val := Value.ref 243 }, { hash := PyData.keyHash P (Str.ofString "skip_remark"), key := Value.str (Str.ofString "skip_remark") 504, val := Value.ref 250 }, { hash := PyData.keyHash P (Str.ofString "skip_attribute"), key := Value.str (Str.ofString "skip_attribute") 514, val := Value.ref 257 }, { hash := PyData.keyHash P (Str.ofString "word"), key := Value.str (Str.ofString "word") 524, val := Value.ref 264 }, { hash := PyData.keyHash P (Str.ofString "escaped"), key := Value.str (Str.ofString "escaped") 533, val := Value.ref 271 }, { hash := PyData.keyHash P (Str.ofString "system"), key := Value.str (Str.ofString "system") 542, val := Value.ref 278 }, { hash := PyData.keyHash P (Str.ofString "number"), key := Value.str (Str.ofString "number") 553, val := Value.ref 285 }, { hash := PyData.keyHash P (Str.ofString "is_real"), key := Value.str (Str.ofString "is_real") 561, val := Value.ref 292 }, { hash := PyData.keyHash P (Str.ofString "based"), key := Value.str (Str.ofString "based") 577, val := Value.ref 299 }, { hash := PyData.keyHash P (Str.ofString "string"), key := Value.str (Str.ofString "string") 588, val := Value.ref 306 }, { hash := PyData.keyHash P (Str.ofString "escape"), key := Value.str (Str.ofString "escape") 600, val := Value.ref 313 }, { hash := PyData.keyHash P (Str.ofString "escape_end"), key := Value.str (Str.ofString "escape_end") 609, val := Value.ref 320 }, { hash := PyData.keyHash P (Str.ofString "operator"), key := Value.str (Str.ofString "operator") 618, val := Value.ref 327 }, { hash := PyData.keyHash P (Str.ofString "__static_attributes__"), key := Value.str (Str.ofString "__static_attributes__") 623, val := Value.ref 328 }] 24 }
noncomputable def ob183 (P : Params) : Obj := { cls := Value.type "tuple", data := Data.seq #[] }
noncomputable def ob184 (P : Params) : Obj := { cls := Value.none, data := Data.fields #[Value.int 75 0, Value.int 4 0, Value.ref 193, Value.int 81 0, Value.int 4 0, Value.ref 200, Value.int 84 0, Value.int 4 0, Value.ref 207, Value.int 87 0, Value.int 4 0, Value.ref 214, Value.int 92 0, Value.int 4 0, Value.ref 221, Value.int 104 0, Value.int 4 0, Value.ref 228, Value.int 124 0, Value.int 4 0, Value.ref 235, Value.int 139 0, Value.int 4 0, Value.ref 242, Value.int 143 0, Value.int 4 0, Value.ref 249, Value.int 152 0, Value.int 4 0, Value.ref 256, Value.int 167 0, Value.int 4 0, Value.ref 263, Value.int 177 0, Value.int 4 0, Value.ref 270, Value.int 186 0, Value.int 4 0, Value.ref 277, Value.int 195 0, Value.int 4 0, Value.ref 284, Value.int 208 0, Value.int 4 0, Value.ref 291, Value.int 217 0, Value.int 4 0, Value.ref 298, Value.int 237 0, Value.int 4 0, Value.ref 305, Value.int 255 0, Value.int 4 0, Value.ref 312, Value.int 272 0, Value.int 4 0, Value.ref 319, Value.int 280 0, Value.int 4 0, Value.ref 326] }
noncomputable def ob185 (P : Params) : Obj := { cls := Value.type "code", data := Data.fields #[Value.str (Str.ofString "Lexer") 418, Value.str (Str.ofString "Lexer") 419, Value.str (Str.ofString "/claim/cut.py") 420, Value.int 73 0, Value.int 0 0, Value.int 0 0, Value.int 0 0, Value.int 0 0, Value.ref 183, Value.bool false, Value.int 181 0, Value.ref 184, Value.none, Value.none, Value.none, Value.none, Value.int 421 0, Value.int 73 0, Value.str (Str.ofString "/claim/cut.py") 422] }
noncomputable def ob186 (P : Params) : Obj := { cls := Value.type "frame", slots := #[some (Value.ref 185), some (Value.ref 3), some (Value.ref 182), none, some (Value.str (Str.ofString "gateloom.tokens") 343), none, some (Value.ref 0)] }
noncomputable def ob187 (P : Params) : Obj := { cls := Value.type "tuple", data := Data.seq #[Value.int 0 428] }
noncomputable def ob188 (P : Params) : Obj := { cls := Value.type "tuple", data := Data.seq #[] }
noncomputable def ob189 (P : Params) : Obj := { cls := Value.none, data := Data.fields #[] }
noncomputable def ob190 (P : Params) : Obj := { cls := Value.type "tuple", data := Data.seq #[Value.str (Str.ofString "self") 432, Value.str (Str.ofString "text") 433, Value.str (Str.ofString "at") 434] }
noncomputable def ob191 (P : Params) : Obj := { cls := Value.type "tuple", data := Data.seq #[] }
noncomputable def ob192 (P : Params) : Obj := { cls := Value.none, data := Data.func { name := Str.ofString "__init__", qualname := Str.ofString "Lexer.__init__", params := (fnParts PG 19 (some 0)).1, body := FuncBody.stmts (fnParts PG 19 (some 0)).2.1, scope := (fnParts PG 19 (some 0)).2.2, globals := 0, closure := [], defaults := Value.none, kwdefaults := Value.none } }
noncomputable def ob193 (P : Params) : Obj := { cls := Value.type "code", data := Data.fields #[Value.str (Str.ofString "__init__") 429, Value.str (Str.ofString "Lexer.__init__") 430, Value.str (Str.ofString "/claim/cut.py") 431, Value.int 75 0, Value.int 3 0, Value.int 0 0, Value.int 0 0, Value.int 3 0, Value.ref 188, Value.bool true, Value.int 181 0, Value.ref 189, Value.none, Value.ref 190, Value.ref 191, Value.ref 192, Value.int 435 0, Value.int 75 0, Value.str (Str.ofString "/claim/cut.py") 436] }
noncomputable def ob194 (P : Params) : Obj := { cls := Value.type "function", data := Data.func { name := Str.ofString "__init__", qualname := Str.ofString "Lexer.__init__", params := (fnParts PG 19 (some 0)).1, body := FuncBody.stmts (fnParts PG 19 (some 0)).2.1, scope := (fnParts PG 19 (some 0)).2.2, globals := 3, closure := [], defaults := Value.ref 187, kwdefaults := Value.none, pyModule := Value.str (Str.ofString "gateloom.tokens") 343, code := Value.ref 193 } }
noncomputable def ob195 (P : Params) : Obj := { cls := Value.type "tuple", data := Data.seq #[] }
noncomputable def ob196 (P : Params) : Obj := { cls := Value.none, data := Data.fields #[] }
noncomputable def ob197 (P : Params) : Obj := { cls := Value.type "tuple", data := Data.seq #[Value.str (Str.ofString "self") 441, Value.str (Str.ofString "index") 442] }
noncomputable def ob198 (P : Params) : Obj := { cls := Value.type "tuple", data := Data.seq #[] }
noncomputable def ob199 (P : Params) : Obj := { cls := Value.none, data := Data.func { name := Str.ofString "char", qualname := Str.ofString "Lexer.char", params := (fnParts PG 19 (some 1)).1, body := FuncBody.stmts (fnParts PG 19 (some 1)).2.1, scope := (fnParts PG 19 (some 1)).2.2, globals := 0, closure := [], defaults := Value.none, kwdefaults := Value.none } }
noncomputable def ob200 (P : Params) : Obj := { cls := Value.type "code", data := Data.fields #[Value.str (Str.ofString "char") 438, Value.str (Str.ofString "Lexer.char") 439, Value.str (Str.ofString "/claim/cut.py") 440, Value.int 81 0, Value.int 2 0, Value.int 0 0, Value.int 0 0, Value.int 3 0, Value.ref 195, Value.bool true, Value.int 181 0, Value.ref 196, Value.none, Value.ref 197, Value.ref 198, Value.ref 199, Value.int 443 0, Value.int 81 0, Value.str (Str.ofString "/claim/cut.py") 444] }
noncomputable def ob201 (P : Params) : Obj := { cls := Value.type "function", data := Data.func { name := Str.ofString "char", qualname := Str.ofString "Lexer.char", params := (fnParts PG 19 (some 1)).1, body := FuncBody.stmts (fnParts PG 19 (some 1)).2.1, scope := (fnParts PG 19 (some 1)).2.2, globals := 3, closure := [], defaults := Value.none, kwdefaults := Value.none, pyModule := Value.str (Str.ofString "gateloom.tokens") 343, code := Value.ref 200 } }
noncomputable def ob202 (P : Params) : Obj := { cls := Value.type "tuple", data := Data.seq #[] }
noncomputable def ob203 (P : Params) : Obj := { cls := Value.none, data := Data.fields #[] }
noncomputable def ob204 (P : Params) : Obj := { cls := Value.type "tuple", data := Data.seq #[Value.str (Str.ofString "self") 449, Value.str (Str.ofString "index") 450] }
noncomputable def ob205 (P : Params) : Obj := { cls := Value.type "tuple", data := Data.seq #[] }
noncomputable def ob206 (P : Params) : Obj := { cls := Value.none, data := Data.func { name := Str.ofString "pair", qualname := Str.ofString "Lexer.pair", params := (fnParts PG 19 (some 2)).1, body := FuncBody.stmts (fnParts PG 19 (some 2)).2.1, scope := (fnParts PG 19 (some 2)).2.2, globals := 0, closure := [], defaults := Value.none, kwdefaults := Value.none } }
noncomputable def ob207 (P : Params) : Obj := { cls := Value.type "code", data := Data.fields #[Value.str (Str.ofString "pair") 446, Value.str (Str.ofString "Lexer.pair") 447, Value.str (Str.ofString "/claim/cut.py") 448, Value.int 84 0, Value.int 2 0, Value.int 0 0, Value.int 0 0, Value.int 3 0, Value.ref 202, Value.bool true, Value.int 181 0, Value.ref 203, Value.none, Value.ref 204, Value.ref 205, Value.ref 206, Value.int 451 0, Value.int 84 0, Value.str (Str.ofString "/claim/cut.py") 452] }
noncomputable def ob208 (P : Params) : Obj := { cls := Value.type "function", data := Data.func { name := Str.ofString "pair", qualname := Str.ofString "Lexer.pair", params := (fnParts PG 19 (some 2)).1, body := FuncBody.stmts (fnParts PG 19 (some 2)).2.1, scope := (fnParts PG 19 (some 2)).2.2, globals := 3, closure := [], defaults := Value.none, kwdefaults := Value.none, pyModule := Value.str (Str.ofString "gateloom.tokens") 343, code := Value.ref 207 } }
noncomputable def ob209 (P : Params) : Obj := { cls := Value.type "tuple", data := Data.seq #[] }
noncomputable def ob210 (P : Params) : Obj := { cls := Value.none, data := Data.fields #[] }
noncomputable def ob211 (P : Params) : Obj := { cls := Value.type "tuple", data := Data.seq #[Value.str (Str.ofString "self") 457, Value.str (Str.ofString "index") 458] }
noncomputable def ob212 (P : Params) : Obj := { cls := Value.type "tuple", data := Data.seq #[] }
noncomputable def ob213 (P : Params) : Obj := { cls := Value.none, data := Data.func { name := Str.ofString "past_layout", qualname := Str.ofString "Lexer.past_layout", params := (fnParts PG 19 (some 3)).1, body := FuncBody.stmts (fnParts PG 19 (some 3)).2.1, scope := (fnParts PG 19 (some 3)).2.2, globals := 0, closure := [], defaults := Value.none, kwdefaults := Value.none } }
noncomputable def ob214 (P : Params) : Obj := { cls := Value.type "code", data := Data.fields #[Value.str (Str.ofString "past_layout") 454, Value.str (Str.ofString "Lexer.past_layout") 455, Value.str (Str.ofString "/claim/cut.py") 456, Value.int 87 0, Value.int 2 0, Value.int 0 0, Value.int 0 0, Value.int 3 0, Value.ref 209, Value.bool true, Value.int 181 0, Value.ref 210, Value.none, Value.ref 211, Value.ref 212, Value.ref 213, Value.int 459 0, Value.int 87 0, Value.str (Str.ofString "/claim/cut.py") 460] }
noncomputable def ob215 (P : Params) : Obj := { cls := Value.type "function", data := Data.func { name := Str.ofString "past_layout", qualname := Str.ofString "Lexer.past_layout", params := (fnParts PG 19 (some 3)).1, body := FuncBody.stmts (fnParts PG 19 (some 3)).2.1, scope := (fnParts PG 19 (some 3)).2.2, globals := 3, closure := [], defaults := Value.none, kwdefaults := Value.none, pyModule := Value.str (Str.ofString "gateloom.tokens") 343, code := Value.ref 214 } }
noncomputable def ob216 (P : Params) : Obj := { cls := Value.type "tuple", data := Data.seq #[] }
noncomputable def ob217 (P : Params) : Obj := { cls := Value.none, data := Data.fields #[] }
noncomputable def ob218 (P : Params) : Obj := { cls := Value.type "tuple", data := Data.seq #[Value.str (Str.ofString "self") 465, Value.str (Str.ofString "index") 466, Value.str (Str.ofString "begin") 467, Value.str (Str.ofString "end") 468] }
noncomputable def ob219 (P : Params) : Obj := { cls := Value.type "tuple", data := Data.seq #[] }
noncomputable def ob220 (P : Params) : Obj := { cls := Value.none, data := Data.func { name := Str.ofString "past_gap", qualname := Str.ofString "Lexer.past_gap", params := (fnParts PG 19 (some 4)).1, body := FuncBody.stmts (fnParts PG 19 (some 4)).2.1, scope := (fnParts PG 19 (some 4)).2.2, globals := 0, closure := [], defaults := Value.none, kwdefaults := Value.none } }
noncomputable def ob221 (P : Params) : Obj := { cls := Value.type "code", data := Data.fields #[Value.str (Str.ofString "past_gap") 462, Value.str (Str.ofString "Lexer.past_gap") 463, Value.str (Str.ofString "/claim/cut.py") 464, Value.int 92 0, Value.int 2 0, Value.int 0 0, Value.int 0 0, Value.int 3 0, Value.ref 216, Value.bool true, Value.int 181 0, Value.ref 217, Value.none, Value.ref 218, Value.ref 219, Value.ref 220, Value.int 469 0, Value.int 92 0, Value.str (Str.ofString "/claim/cut.py") 470] }
noncomputable def ob222 (P : Params) : Obj := { cls := Value.type "function", data := Data.func { name := Str.ofString "past_gap", qualname := Str.ofString "Lexer.past_gap", params := (fnParts PG 19 (some 4)).1, body := FuncBody.stmts (fnParts PG 19 (some 4)).2.1, scope := (fnParts PG 19 (some 4)).2.2, globals := 3, closure := [], defaults := Value.none, kwdefaults := Value.none, pyModule := Value.str (Str.ofString "gateloom.tokens") 343, code := Value.ref 221 } }
noncomputable def ob223 (P : Params) : Obj := { cls := Value.type "tuple", data := Data.seq #[] }
noncomputable def ob224 (P : Params) : Obj := { cls := Value.none, data := Data.fields #[] }
noncomputable def ob225 (P : Params) : Obj := { cls := Value.type "tuple", data := Data.seq #[Value.str (Str.ofString "self") 475, Value.str (Str.ofString "at") 476, Value.str (Str.ofString "char") 477] }
noncomputable def ob226 (P : Params) : Obj := { cls := Value.type "tuple", data := Data.seq #[] }
noncomputable def ob227 (P : Params) : Obj := { cls := Value.none, data := Data.func { name := Str.ofString "next_token", qualname := Str.ofString "Lexer.next_token", params := (fnParts PG 19 (some 5)).1, body := FuncBody.stmts (fnParts PG 19 (some 5)).2.1, scope := (fnParts PG 19 (some 5)).2.2, globals := 0, closure := [], defaults := Value.none, kwdefaults := Value.none } }
noncomputable def ob228 (P : Params) : Obj := { cls := Value.type "code", data := Data.fields #[Value.str (Str.ofString "next_token") 472, Value.str (Str.ofString "Lexer.next_token") 473, Value.str (Str.ofString "/claim/cut.py") 474, Value.int 104 0, Value.int 1 0, Value.int 0 0, Value.int 0 0, Value.int 3 0, Value.ref 223, Value.bool true, Value.int 181 0, Value.ref 224, Value.none, Value.ref 225, Value.ref 226, Value.ref 227, Value.int 478 0, Value.int 104 0, Value.str (Str.ofString "/claim/cut.py") 479] }
noncomputable def ob229 (P : Params) : Obj := { cls := Value.type "function", data := Data.func { name := Str.ofString "next_token", qualname := Str.ofString "Lexer.next_token", params := (fnParts PG 19 (some 5)).1, body := FuncBody.stmts (fnParts PG 19 (some 5)).2.1, scope := (fnParts PG 19 (some 5)).2.2, globals := 3, closure := [], defaults := Value.none, kwdefaults := Value.none, pyModule := Value.str (Str.ofString "gateloom.tokens") 343, code := Value.ref 228 } }
noncomputable def ob230 (P : Params) : Obj := { cls := Value.type "tuple", data := Data.seq #[] }
noncomputable def ob231 (P : Params) : Obj := { cls := Value.none, data := Data.fields #[] }
noncomputable def ob232 (P : Params) : Obj := { cls := Value.type "tuple", data := Data.seq #[Value.str (Str.ofString "self") 484, Value.str (Str.ofString "char") 485, Value.str (Str.ofString "pair") 486] }
noncomputable def ob233 (P : Params) : Obj := { cls := Value.type "tuple", data := Data.seq #[] }
noncomputable def ob234 (P : Params) : Obj := { cls := Value.none, data := Data.func { name := Str.ofString "skip", qualname := Str.ofString "Lexer.skip", params := (fnParts PG 19 (some 6)).1, body := FuncBody.stmts (fnParts PG 19 (some 6)).2.1, scope := (fnParts PG 19 (some 6)).2.2, globals := 0, closure := [], defaults := Value.none, kwdefaults := Value.none } }
noncomputable def ob235 (P : Params) : Obj := { cls := Value.type "code", data := Data.fields #[Value.str (Str.ofString "skip") 481, Value.str (Str.ofString "Lexer.skip") 482, Value.str (Str.ofString "/claim/cut.py") 483, Value.int 124 0, Value.int 1 0, Value.int 0 0, Value.int 0 0, Value.int 3 0, Value.ref 230, Value.bool true, Value.int 181 0, Value.ref 231, Value.none, Value.ref 232, Value.ref 233, Value.ref 234, Value.int 487 0, Value.int 124 0, Value.str (Str.ofString "/claim/cut.py") 488] }
noncomputable def ob236 (P : Params) : Obj := { cls := Value.type "function", data := Data.func { name := Str.ofString "skip", qualname := Str.ofString "Lexer.skip", params := (fnParts PG 19 (some 6)).1, body := FuncBody.stmts (fnParts PG 19 (some 6)).2.1, scope := (fnParts PG 19 (some 6)).2.2, globals := 3, closure := [], defaults := Value.none, kwdefaults := Value.none, pyModule := Value.str (Str.ofString "gateloom.tokens") 343, code := Value.ref 235 } }
noncomputable def ob237 (P : Params) : Obj := { cls := Value.type "tuple", data := Data.seq #[] }
noncomputable def ob238 (P : Params) : Obj := { cls := Value.none, data := Data.fields #[] }
noncomputable def ob239 (P : Params) : Obj := { cls := Value.type "tuple", data := Data.seq #[Value.str (Str.ofString "self") 493] }
noncomputable def ob240 (P : Params) : Obj := { cls := Value.type "tuple", data := Data.seq #[] }
noncomputable def ob241 (P : Params) : Obj := { cls := Value.none, data := Data.func { name := Str.ofString "skip_row", qualname := Str.ofString "Lexer.skip_row", params := (fnParts PG 19 (some 7)).1, body := FuncBody.stmts (fnParts PG 19 (some 7)).2.1, scope := (fnParts PG 19 (some 7)).2.2, globals := 0, closure := [], defaults := Value.none, kwdefaults := Value.none } }
noncomputable def ob242 (P : Params) : Obj := { cls := Value.type "code", data := Data.fields #[Value.str (Str.ofString "skip_row") 490, Value.str (Str.ofString "Lexer.skip_row") 491, Value.str (Str.ofString "/claim/cut.py") 492, Value.int 139 0, Value.int 1 0, Value.int 0 0, Value.int 0 0, Value.int 3 0, Value.ref 237, Value.bool true, Value.int 181 0, Value.ref 238, Value.none, Value.ref 239, Value.ref 240, Value.ref 241, Value.int 494 0, Value.int 139 0, Value.str (Str.ofString "/claim/cut.py") 495] }
noncomputable def ob243 (P : Params) : Obj := { cls := Value.type "function", data := Data.func { name := Str.ofString "skip_row", qualname := Str.ofString "Lexer.skip_row", params := (fnParts PG 19 (some 7)).1, body := FuncBody.stmts (fnParts PG 19 (some 7)).2.1, scope := (fnParts PG 19 (some 7)).2.2, globals := 3, closure := [], defaults := Value.none, kwdefaults := Value.none, pyModule := Value.str (Str.ofString "gateloom.tokens") 343, code := Value.ref 242 } }
noncomputable def ob244 (P : Params) : Obj := { cls := Value.type "tuple", data := Data.seq #[] }
noncomputable def ob245 (P : Params) : Obj := { cls := Value.none, data := Data.fields #[] }
noncomputable def ob246 (P : Params) : Obj := { cls := Value.type "tuple", data := Data.seq #[Value.str (Str.ofString "self") 500, Value.str (Str.ofString "begun") 501] }
noncomputable def ob247 (P : Params) : Obj := { cls := Value.type "tuple", data := Data.seq #[] }
noncomputable def ob248 (P : Params) : Obj := { cls := Value.none, data := Data.func { name := Str.ofString "skip_remark", qualname := Str.ofString "Lexer.skip_remark", params := (fnParts PG 19 (some 8)).1, body := FuncBody.stmts (fnParts PG 19 (some 8)).2.1, scope := (fnParts PG 19 (some 8)).2.2, globals := 0, closure := [], defaults := Value.none, kwdefaults := Value.none } }
noncomputable def ob249 (P : Params) : Obj := { cls := Value.type "code", data := Data.fields #[Value.str (Str.ofString "skip_remark") 497, Value.str (Str.ofString "Lexer.skip_remark") 498, Value.str (Str.ofString "/claim/cut.py") 499, Value.int 143 0, Value.int 1 0, Value.int 0 0, Value.int 0 0, Value.int 3 0, Value.ref 244, Value.bool true, Value.int 181 0, Value.ref 245, Value.none, Value.ref 246, Value.ref 247, Value.ref 248, Value.int 502 0, Value.int 143 0, Value.str (Str.ofString "/claim/cut.py") 503] }
noncomputable def ob250 (P : Params) : Obj := { cls := Value.type "function", data := Data.func { name := Str.ofString "skip_remark", qualname := Str.ofString "Lexer.skip_remark", params := (fnParts PG 19 (some 8)).1, body := FuncBody.stmts (fnParts PG 19 (some 8)).2.1, scope := (fnParts PG 19 (some 8)).2.2, globals := 3, closure := [], defaults := Value.none, kwdefaults := Value.none, pyModule := Value.str (Str.ofString "gateloom.tokens") 343, code := Value.ref 249 } }
noncomputable def ob251 (P : Params) : Obj := { cls := Value.type "tuple", data := Data.seq #[] }
noncomputable def ob252 (P : Params) : Obj := { cls := Value.none, data := Data.fields #[] }
noncomputable def ob253 (P : Params) : Obj := { cls := Value.type "tuple", data := Data.seq #[Value.str (Str.ofString "self") 508, Value.str (Str.ofString "begun") 509, Value.str (Str.ofString "quoted") 510, Value.str (Str.ofString "char") 511] }
noncomputable def ob254 (P : Params) : Obj := { cls := Value.type "tuple", data := Data.seq #[] }
noncomputable def ob255 (P : Params) : Obj := { cls := Value.none, data := Data.func { name := Str.ofString "skip_attribute", qualname := Str.ofString "Lexer.skip_attribute", params := (fnParts PG 19 (some 9)).1, body := FuncBody.stmts (fnParts PG 19 (some 9)).2.1, scope := (fnParts PG 19 (some 9)).2.2, globals := 0, closure := [], defaults := Value.none, kwdefaults := Value.none } }
noncomputable def ob256 (P : Params) : Obj := { cls := Value.type "code", data := Data.fields #[Value.str (Str.ofString "skip_attribute") 505, Value.str (Str.ofString "Lexer.skip_attribute") 506, Value.str (Str.ofString "/claim/cut.py") 507, Value.int 152 0, Value.int 1 0, Value.int 0 0, Value.int 0 0, Value.int 3 0, Value.ref 251, Value.bool true, Value.int 181 0, Value.ref 252, Value.none, Value.ref 253, Value.ref 254, Value.ref 255, Value.int 512 0, Value.int 152 0, Value.str (Str.ofString "/claim/cut.py") 513] }
noncomputable def ob257 (P : Params) : Obj := { cls := Value.type "function", data := Data.func { name := Str.ofString "skip_attribute", qualname := Str.ofString "Lexer.skip_attribute", params := (fnParts PG 19 (some 9)).1, body := FuncBody.stmts (fnParts PG 19 (some 9)).2.1, scope := (fnParts PG 19 (some 9)).2.2, globals := 3, closure := [], defaults := Value.none, kwdefaults := Value.none, pyModule := Value.str (Str.ofString "gateloom.tokens") 343, code := Value.ref 256 } }
noncomputable def ob258 (P : Params) : Obj := { cls := Value.type "tuple", data := Data.seq #[] }
noncomputable def ob259 (P : Params) : Obj := { cls := Value.none, data := Data.fields #[] }
noncomputable def ob260 (P : Params) : Obj := { cls := Value.type "tuple", data := Data.seq #[Value.str (Str.ofString "self") 518, Value.str (Str.ofString "at") 519, Value.str (Str.ofString "end") 520, Value.str (Str.ofString "text") 521] }
noncomputable def ob261 (P : Params) : Obj := { cls := Value.type "tuple", data := Data.seq #[] }
noncomputable def ob262 (P : Params) : Obj := { cls := Value.none, data := Data.func { name := Str.ofString "word", qualname := Str.ofString "Lexer.word", params := (fnParts PG 19 (some 10)).1, body := FuncBody.stmts (fnParts PG 19 (some 10)).2.1, scope := (fnParts PG 19 (some 10)).2.2, globals := 0, closure := [], defaults := Value.none, kwdefaults := Value.none } }
noncomputable def ob263 (P : Params) : Obj := { cls := Value.type "code", data := Data.fields #[Value.str (Str.ofString "word") 515, Value.str (Str.ofString "Lexer.word") 516, Value.str (Str.ofString "/claim/cut.py") 517, Value.int 167 0, Value.int 2 0, Value.int 0 0, Value.int 0 0, Value.int 3 0, Value.ref 258, Value.bool true, Value.int 181 0, Value.ref 259, Value.none, Value.ref 260, Value.ref 261, Value.ref 262, Value.int 522 0, Value.int 167 0, Value.str (Str.ofString "/claim/cut.py") 523] }
noncomputable def ob264 (P : Params) : Obj := { cls := Value.type "function", data := Data.func { name := Str.ofString "word", qualname := Str.ofString "Lexer.word", params := (fnParts PG 19 (some 10)).1, body := FuncBody.stmts (fnParts PG 19 (some 10)).2.1, scope := (fnParts PG 19 (some 10)).2.2, globals := 3, closure := [], defaults := Value.none, kwdefaults := Value.none, pyModule := Value.str (Str.ofString "gateloom.tokens") 343, code := Value.ref 263 } }
noncomputable def ob265 (P : Params) : Obj := { cls := Value.type "tuple", data := Data.seq #[] }
noncomputable def ob266 (P : Params) : Obj := { cls := Value.none, data := Data.fields #[] }
noncomputable def ob267 (P : Params) : Obj := { cls := Value.type "tuple", data := Data.seq #[Value.str (Str.ofString "self") 528, Value.str (Str.ofString "at") 529, Value.str (Str.ofString "end") 530] }
noncomputable def ob268 (P : Params) : Obj := { cls := Value.type "tuple", data := Data.seq #[] }
noncomputable def ob269 (P : Params) : Obj := { cls := Value.none, data := Data.func { name := Str.ofString "escaped", qualname := Str.ofString "Lexer.escaped", params := (fnParts PG 19 (some 11)).1, body := FuncBody.stmts (fnParts PG 19 (some 11)).2.1, scope := (fnParts PG 19 (some 11)).2.2, globals := 0, closure := [], defaults := Value.none, kwdefaults := Value.none } }
noncomputable def ob270 (P : Params) : Obj := { cls := Value.type "code", data := Data.fields #[Value.str (Str.ofString "escaped") 525, Value.str (Str.ofString "Lexer.escaped") 526, Value.str (Str.ofString "/claim/cut.py") 527, Value.int 177 0, Value.int 2 0, Value.int 0 0, Value.int 0 0, Value.int 3 0, Value.ref 265, Value.bool true, Value.int 181 0, Value.ref 266, Value.none, Value.ref 267, Value.ref 268, Value.ref 269, Value.int 531 0, Value.int 177 0, Value.str (Str.ofString "/claim/cut.py") 532] }
noncomputable def ob271 (P : Params) : Obj := { cls := Value.type "function", data := Data.func { name := Str.ofString "escaped", qualname := Str.ofString "Lexer.escaped", params := (fnParts PG 19 (some 11)).1, body := FuncBody.stmts (fnParts PG 19 (some 11)).2.1, scope := (fnParts PG 19 (some 11)).2.2, globals := 3, closure := [], defaults := Value.none, kwdefaults := Value.none, pyModule := Value.str (Str.ofString "gateloom.tokens") 343, code := Value.ref 270 } }
noncomputable def ob272 (P : Params) : Obj := { cls := Value.type "tuple", data := Data.seq #[] }
noncomputable def ob273 (P : Params) : Obj := { cls := Value.none, data := Data.fields #[] }
noncomputable def ob274 (P : Params) : Obj := { cls := Value.type "tuple", data := Data.seq #[Value.str (Str.ofString "self") 537, Value.str (Str.ofString "at") 538, Value.str (Str.ofString "end") 539] }
noncomputable def ob275 (P : Params) : Obj := { cls := Value.type "tuple", data := Data.seq #[] }
noncomputable def ob276 (P : Params) : Obj := { cls := Value.none, data := Data.func { name := Str.ofString "system", qualname := Str.ofString "Lexer.system", params := (fnParts PG 19 (some 12)).1, body := FuncBody.stmts (fnParts PG 19 (some 12)).2.1, scope := (fnParts PG 19 (some 12)).2.2, globals := 0, closure := [], defaults := Value.none, kwdefaults := Value.none } }
noncomputable def ob277 (P : Params) : Obj := { cls := Value.type "code", data := Data.fields #[Value.str (Str.ofString "system") 534, Value.str (Str.ofString "Lexer.system") 535, Value.str (Str.ofString "/claim/cut.py") 536, Value.int 186 0, Value.int 2 0, Value.int 0 0, Value.int 0 0, Value.int 3 0, Value.ref 272, Value.bool true, Value.int 181 0, Value.ref 273, Value.none, Value.ref 274, Value.ref 275, Value.ref 276, Value.int 540 0, Value.int 186 0, Value.str (Str.ofString "/claim/cut.py") 541] }
noncomputable def ob278 (P : Params) : Obj := { cls := Value.type "function", data := Data.func { name := Str.ofString "system", qualname := Str.ofString "Lexer.system", params := (fnParts PG 19 (some 12)).1, body := FuncBody.stmts (fnParts PG 19 (some 12)).2.1, scope := (fnParts PG 19 (some 12)).2.2, globals := 3, closure := [], defaults := Value.none, kwdefaults := Value.none, pyModule := Value.str (Str.ofString "gateloom.tokens") 343, code := Value.ref 277 } }
noncomputable def ob279 (P : Params) : Obj := { cls := Value.type "tuple", data := Data.seq #[] }
noncomputable def ob280 (P : Params) : Obj := { cls := Value.none, data := Data.fields #[] }
noncomputable def ob281 (P : Params) : Obj := { cls := Value.type "tuple", data := Data.seq #[Value.str (Str.ofString "self") 546, Value.str (Str.ofString "at") 547, Value.str (Str.ofString "end") 548, Value.str (Str.ofString "digits") 549, Value.str (Str.ofString "quote") 550] }
noncomputable def ob282 (P : Params) : Obj := { cls := Value.type "tuple", data := Data.seq #[] }
noncomputable def ob283 (P : Params) : Obj := { cls := Value.none, data := Data.func { name := Str.ofString "number", qualname := Str.ofString "Lexer.number", params := (fnParts PG 19 (some 13)).1, body := FuncBody.stmts (fnParts PG 19 (some 13)).2.1, scope := (fnParts PG 19 (some 13)).2.2, globals := 0, closure := [], defaults := Value.none, kwdefaults := Value.none } }
noncomputable def ob284 (P : Params) : Obj := { cls := Value.type "code", data := Data.fields #[Value.str (Str.ofString "number") 543, Value.str (Str.ofString "Lexer.number") 544, Value.str (Str.ofString "/claim/cut.py") 545, Value.int 195 0, Value.int 2 0, Value.int 0 0, Value.int 0 0, Value.int 3 0, Value.ref 279, Value.bool true, Value.int 181 0, Value.ref 280, Value.none, Value.ref 281, Value.ref 282, Value.ref 283, Value.int 551 0, Value.int 195 0, Value.str (Str.ofString "/claim/cut.py") 552] }
noncomputable def ob285 (P : Params) : Obj := { cls := Value.type "function", data := Data.func { name := Str.ofString "number", qualname := Str.ofString "Lexer.number", params := (fnParts PG 19 (some 13)).1, body := FuncBody.stmts (fnParts PG 19 (some 13)).2.1, scope := (fnParts PG 19 (some 13)).2.2, globals := 3, closure := [], defaults := Value.none, kwdefaults := Value.none, pyModule := Value.str (Str.ofString "gateloom.tokens") 343, code := Value.ref 284 } }
noncomputable def ob286 (P : Params) : Obj := { cls := Value.type "tuple", data := Data.seq #[] }
noncomputable def ob287 (P : Params) : Obj := { cls := Value.none, data := Data.fields #[] }
noncomputable def ob288 (P : Params) : Obj := { cls := Value.type "tuple", data := Data.seq #[Value.str (Str.ofString "self") 557, Value.str (Str.ofString "end") 558] }
noncomputable def ob289 (P : Params) : Obj := { cls := Value.type "tuple", data := Data.seq #[] }
noncomputable def ob290 (P : Params) : Obj := { cls := Value.none, data := Data.func { name := Str.ofString "is_real", qualname := Str.ofString "Lexer.is_real", params := (fnParts PG 19 (some 14)).1, body := FuncBody.stmts (fnParts PG 19 (some 14)).2.1, scope := (fnParts PG 19 (some 14)).2.2, globals := 0, closure := [], defaults := Value.none, kwdefaults := Value.none } }
noncomputable def ob291 (P : Params) : Obj := { cls := Value.type "code", data := Data.fields #[Value.str (Str.ofString "is_real") 554, Value.str (Str.ofString "Lexer.is_real") 555, Value.str (Str.ofString "/claim/cut.py") 556, Value.int 208 0, Value.int 2 0, Value.int 0 0, Value.int 0 0, Value.int 3 0, Value.ref 286, Value.bool true, Value.int 181 0, Value.ref 287, Value.none, Value.ref 288, Value.ref 289, Value.ref 290, Value.int 559 0, Value.int 208 0, Value.str (Str.ofString "/claim/cut.py") 560] }
noncomputable def ob292 (P : Params) : Obj := { cls := Value.type "function", data := Data.func { name := Str.ofString "is_real", qualname := Str.ofString "Lexer.is_real", params := (fnParts PG 19 (some 14)).1, body := FuncBody.stmts (fnParts PG 19 (some 14)).2.1, scope := (fnParts PG 19 (some 14)).2.2, globals := 3, closure := [], defaults := Value.none, kwdefaults := Value.none, pyModule := Value.str (Str.ofString "gateloom.tokens") 343, code := Value.ref 291 } }
noncomputable def ob293 (P : Params) : Obj := { cls := Value.type "tuple", data := Data.seq #[] }
noncomputable def ob294 (P : Params) : Obj := { cls := Value.none, data := Data.fields #[] }
noncomputable def ob295 (P : Params) : Obj := { cls := Value.type "tuple", data := Data.seq #[Value.str (Str.ofString "self") 565, Value.str (Str.ofString "at") 566, Value.str (Str.ofString "quote") 567, Value.str (Str.ofString "size") 568, Value.str (Str.ofString "index") 569, Value.str (Str.ofString "signed") 570, Value.str (Str.ofString "base") 571, Value.str (Str.ofString "begin") 572, Value.str (Str.ofString "end") 573, Value.str (Str.ofString "digits") 574] }
noncomputable def ob296 (P : Params) : Obj := { cls := Value.type "tuple", data := Data.seq #[] }
noncomputable def ob297 (P : Params) : Obj := { cls := Value.none, data := Data.func { name := Str.ofString "based", qualname := Str.ofString "Lexer.based", params := (fnParts PG 19 (some 15)).1, body := FuncBody.stmts (fnParts PG 19 (some 15)).2.1, scope := (fnParts PG 19 (some 15)).2.2, globals := 0, closure := [], defaults := Value.none, kwdefaults := Value.none } }
noncomputable def ob298 (P : Params) : Obj := { cls := Value.type "code", data := Data.fields #[Value.str (Str.ofString "based") 562, Value.str (Str.ofString "Lexer.based") 563, Value.str (Str.ofString "/claim/cut.py") 564, Value.int 217 0, Value.int 4 0, Value.int 0 0, Value.int 0 0, Value.int 3 0, Value.ref 293, Value.bool true, Value.int 181 0, Value.ref 294, Value.none, Value.ref 295, Value.ref 296, Value.ref 297, Value.int 575 0, Value.int 217 0, Value.str (Str.ofString "/claim/cut.py") 576] }
noncomputable def ob299 (P : Params) : Obj := { cls := Value.type "function", data := Data.func { name := Str.ofString "based", qualname := Str.ofString "Lexer.based", params := (fnParts PG 19 (some 15)).1, body := FuncBody.stmts (fnParts PG 19 (some 15)).2.1, scope := (fnParts PG 19 (some 15)).2.2, globals := 3, closure := [], defaults := Value.none, kwdefaults := Value.none, pyModule := Value.str (Str.ofString "gateloom.tokens") 343, code := Value.ref 298 } }
noncomputable def ob300 (P : Params) : Obj := { cls := Value.type "tuple", data := Data.seq #[] }
noncomputable def ob301 (P : Params) : Obj := { cls := Value.none, data := Data.fields #[] }
noncomputable def ob302 (P : Params) : Obj := { cls := Value.type "tuple", data := Data.seq #[Value.str (Str.ofString "self") 581, Value.str (Str.ofString "at") 582, Value.str (Str.ofString "chars") 583, Value.str (Str.ofString "index") 584, Value.str (Str.ofString "char") 585] }
noncomputable def ob303 (P : Params) : Obj := { cls := Value.type "tuple", data := Data.seq #[] }
noncomputable def ob304 (P : Params) : Obj := { cls := Value.none, data := Data.func { name := Str.ofString "string", qualname := Str.ofString "Lexer.string", params := (fnParts PG 19 (some 16)).1, body := FuncBody.stmts (fnParts PG 19 (some 16)).2.1, scope := (fnParts PG 19 (some 16)).2.2, globals := 0, closure := [], defaults := Value.none, kwdefaults := Value.none } }
noncomputable def ob305 (P : Params) : Obj := { cls := Value.type "code", data := Data.fields #[Value.str (Str.ofString "string") 578, Value.str (Str.ofString "Lexer.string") 579, Value.str (Str.ofString "/claim/cut.py") 580, Value.int 237 0, Value.int 2 0, Value.int 0 0, Value.int 0 0, Value.int 3 0, Value.ref 300, Value.bool true, Value.int 181 0, Value.ref 301, Value.none, Value.ref 302, Value.ref 303, Value.ref 304, Value.int 586 0, Value.int 237 0, Value.str (Str.ofString "/claim/cut.py") 587] }
noncomputable def ob306 (P : Params) : Obj := { cls := Value.type "function", data := Data.func { name := Str.ofString "string", qualname := Str.ofString "Lexer.string", params := (fnParts PG 19 (some 16)).1, body := FuncBody.stmts (fnParts PG 19 (some 16)).2.1, scope := (fnParts PG 19 (some 16)).2.2, globals := 3, closure := [], defaults := Value.none, kwdefaults := Value.none, pyModule := Value.str (Str.ofString "gateloom.tokens") 343, code := Value.ref 305 } }
noncomputable def ob307 (P : Params) : Obj := { cls := Value.type "tuple", data := Data.seq #[] }
noncomputable def ob308 (P : Params) : Obj := { cls := Value.none, data := Data.fields #[] }
noncomputable def ob309 (P : Params) : Obj := { cls := Value.type "tuple", data := Data.seq #[Value.str (Str.ofString "self") 592, Value.str (Str.ofString "index") 593, Value.str (Str.ofString "begun") 594, Value.str (Str.ofString "char") 595, Value.str (Str.ofString "value") 596, Value.str (Str.ofString "digit") 597] }
noncomputable def ob310 (P : Params) : Obj := { cls := Value.type "tuple", data := Data.seq #[] }
noncomputable def ob311 (P : Params) : Obj := { cls := Value.none, data := Data.func { name := Str.ofString "escape", qualname := Str.ofString "Lexer.escape", params := (fnParts PG 19 (some 17)).1, body := FuncBody.stmts (fnParts PG 19 (some 17)).2.1, scope := (fnParts PG 19 (some 17)).2.2, globals := 0, closure := [], defaults := Value.none, kwdefaults := Value.none } }
noncomputable def ob312 (P : Params) : Obj := { cls := Value.type "code", data := Data.fields #[Value.str (Str.ofString "escape") 589, Value.str (Str.ofString "Lexer.escape") 590, Value.str (Str.ofString "/claim/cut.py") 591, Value.int 255 0, Value.int 3 0, Value.int 0 0, Value.int 0 0, Value.int 3 0, Value.ref 307, Value.bool true, Value.int 181 0, Value.ref 308, Value.none, Value.ref 309, Value.ref 310, Value.ref 311, Value.int 598 0, Value.int 255 0, Value.str (Str.ofString "/claim/cut.py") 599] }
noncomputable def ob313 (P : Params) : Obj := { cls := Value.type "function", data := Data.func { name := Str.ofString "escape", qualname := Str.ofString "Lexer.escape", params := (fnParts PG 19 (some 17)).1, body := FuncBody.stmts (fnParts PG 19 (some 17)).2.1, scope := (fnParts PG 19 (some 17)).2.2, globals := 3, closure := [], defaults := Value.none, kwdefaults := Value.none, pyModule := Value.str (Str.ofString "gateloom.tokens") 343, code := Value.ref 312 } }
noncomputable def ob314 (P : Params) : Obj := { cls := Value.type "tuple", data := Data.seq #[] }
noncomputable def ob315 (P : Params) : Obj := { cls := Value.none, data := Data.fields #[] }
noncomputable def ob316 (P : Params) : Obj := { cls := Value.type "tuple", data := Data.seq #[Value.str (Str.ofString "self") 604, Value.str (Str.ofString "index") 605, Value.str (Str.ofString "end") 606] }
noncomputable def ob317 (P : Params) : Obj := { cls := Value.type "tuple", data := Data.seq #[] }
noncomputable def ob318 (P : Params) : Obj := { cls := Value.none, data := Data.func { name := Str.ofString "escape_end", qualname := Str.ofString "Lexer.escape_end", params := (fnParts PG 19 (some 18)).1, body := FuncBody.stmts (fnParts PG 19 (some 18)).2.1, scope := (fnParts PG 19 (some 18)).2.2, globals := 0, closure := [], defaults := Value.none, kwdefaults := Value.none } }
noncomputable def ob319 (P : Params) : Obj := { cls := Value.type "code", data := Data.fields #[Value.str (Str.ofString "escape_end") 601, Value.str (Str.ofString "Lexer.escape_end") 602, Value.str (Str.ofString "/claim/cut.py") 603, Value.int 272 0, Value.int 2 0, Value.int 0 0, Value.int 0 0, Value.int 3 0, Value.ref 314, Value.bool true, Value.int 181 0, Value.ref 315, Value.none, Value.ref 316, Value.ref 317, Value.ref 318, Value.int 607 0, Value.int 272 0, Value.str (Str.ofString "/claim/cut.py") 608] }
noncomputable def ob320 (P : Params) : Obj := { cls := Value.type "function", data := Data.func { name := Str.ofString "escape_end", qualname := Str.ofString "Lexer.escape_end", params := (fnParts PG 19 (some 18)).1, body := FuncBody.stmts (fnParts PG 19 (some 18)).2.1, scope := (fnParts PG 19 (some 18)).2.2, globals := 3, closure := [], defaults := Value.none, kwdefaults := Value.none, pyModule := Value.str (Str.ofString "gateloom.tokens") 343, code := Value.ref 319 } }
noncomputable def ob321 (P : Params) : Obj := { cls := Value.type "tuple", data := Data.seq #[] }
noncomputable def ob322 (P : Params) : Obj := { cls := Value.none, data := Data.fields #[] }
noncomputable def ob323 (P : Params) : Obj := { cls := Value.type "tuple", data := Data.seq #[Value.str (Str.ofString "self") 613, Value.str (Str.ofString "at") 614, Value.str (Str.ofString "text") 615] }
noncomputable def ob324 (P : Params) : Obj := { cls := Value.type "tuple", data := Data.seq #[] }
noncomputable def ob325 (P : Params) : Obj := { cls := Value.none, data := Data.func { name := Str.ofString "operator", qualname := Str.ofString "Lexer.operator", params := (fnParts PG 19 (some 19)).1, body := FuncBody.stmts (fnParts PG 19 (some 19)).2.1, scope := (fnParts PG 19 (some 19)).2.2, globals := 0, closure := [], defaults := Value.none, kwdefaults := Value.none } }
noncomputable def ob326 (P : Params) : Obj := { cls := Value.type "code", data := Data.fields #[Value.str (Str.ofString "operator") 610, Value.str (Str.ofString "Lexer.operator") 611, Value.str (Str.ofString "/claim/cut.py") 612, Value.int 280 0, Value.int 2 0, Value.int 0 0, Value.int 0 0, Value.int 3 0, Value.ref 321, Value.bool true, Value.int 181 0, Value.ref 322, Value.none, Value.ref 323, Value.ref 324, Value.ref 325, Value.int 616 0, Value.int 280 0, Value.str (Str.ofString "/claim/cut.py") 617] }
noncomputable def ob327 (P : Params) : Obj := { cls := Value.type "function", data := Data.func { name := Str.ofString "operator", qualname := Str.ofString "Lexer.operator", params := (fnParts PG 19 (some 19)).1, body := FuncBody.stmts (fnParts PG 19 (some 19)).2.1, scope := (fnParts PG 19 (some 19)).2.2, globals := 3, closure := [], defaults := Value.none, kwdefaults := Value.none, pyModule := Value.str (Str.ofString "gateloom.tokens") 343, code := Value.ref 326 } }
noncomputable def ob328 (P : Params) : Obj := { cls := Value.type "tuple", data := Data.seq #[Value.str (Str.ofString "at") 619, Value.str (Str.ofString "keys") 620, Value.str (Str.ofString "parted") 621, Value.str (Str.ofString "text") 622] }
noncomputable def ob329 (P : Params) : Obj := { cls := Value.type "dict", data := Data.dict #[{ hash := PyData.keyHash P (Str.ofString "__module__"), key := Value.str (Str.ofString "__module__") 423, val := Value.str (Str.ofString "gateloom.tokens") 343 }, { hash := PyData.keyHash P (Str.ofString "__firstlineno__"), key := Value.str (Str.ofString "__firstlineno__") 427, val := Value.int 73 426 }, { hash := PyData.keyHash P (Str.ofString "__init__"), key := Value.str (Str.ofString "__init__") 437, val := Value.ref 194 }, { hash := PyData.keyHash P (Str.ofString "char"), key := Value.str (Str.ofString "char") 445, val := Value.ref 201 }, { hash := PyData.keyHash P (Str.ofString "pair"), key := Value.str (Str.ofString "pair") 453, val := Value.ref 208 }, { hash := PyData.keyHash P (Str.ofString "past_layout"), key := Value.str (Str.ofString "past_layout") 461, val := Value.ref 215 }, { hash := PyData.keyHash P (Str.ofString "past_gap"), key := Value.str (Str.ofString "past_gap") 471, val := Value.ref 222 }, { hash := PyData.keyHash P (Str.ofString "next_token"), key := Value.str (Str.ofString "next_token") 480, val := Value.ref 229 }, { hash := PyData.keyHash P (Str.ofString "skip"), key := Value.str (Str.ofString "skip") 489, val := Value.ref 236 }, { hash := PyData.keyHash P (Str.ofString "skip_row"), key := Value.str (Str.ofString "skip_row") 496, val := Value.ref 243 }, { hash := PyData.keyHash P (Str.ofString "skip_remark"), key := Value.str (Str.ofString "skip_remark") 504, val := Value.ref 250 }, { hash := PyData.keyHash P (Str.ofString "skip_attribute"), key := Value.str (Str.ofString "skip_attribute") 514, val := Value.ref 257 }, { hash := PyData.keyHash P (Str.ofString "word"), key := Value.str (Str.ofString "word") 524, val := Value.ref 264 }, { hash := PyData.keyHash P (Str.ofString "escaped"), key := Value.str (Str.ofString "escaped") 533, val := Value.ref 271 }, { hash := PyData.keyHash P (Str.ofString "system"), key := Value.str (Str.ofString "system") 542, val := Value.ref 278 }, { hash := PyData.keyHash P (Str.ofString "number"), key := Value.str (Str.ofString "number") 553, val := Value.ref 285 }, { hash := PyData.keyHash P (Str.ofString "is_real"), key := Value.str (Str.ofString "is_real") 561, val := Value.ref 292 }, { hash := PyData.keyHash P (Str.ofString "based"), key := Value.str (Str.ofString "based") 577, val := Value.ref 299 }, { hash := PyData.keyHash P (Str.ofString "string"), key := Value.str (Str.ofString "string") 588, val := Value.ref 306 }, { hash := PyData.keyHash P (Str.ofString "escape"), key := Value.str (Str.ofString "escape") 600, val := Value.ref 313 }, { hash := PyData.keyHash P (Str.ofString "escape_end"), key := Value.str (Str.ofString "escape_end") 609, val := Value.ref 320 }, { hash := PyData.keyHash P (Str.ofString "operator"), key := Value.str (Str.ofString "operator") 618, val := Value.ref 327 }, { hash := PyData.keyHash P (Str.ofString "__static_attributes__"), key := Value.str (Str.ofString "__static_attributes__") 623, val := Value.ref 328 }, { hash := PyData.keyHash P (Str.ofString "__dict__"), key := Value.str (Str.ofString "__dict__") 625, val := Value.ref 331 }, { hash := PyData.keyHash P (Str.ofString "__weakref__"), key := Value.str (Str.ofString "__weakref__") 627, val := Value.ref 332 }, { hash := PyData.keyHash P (Str.ofString "__doc__"), key := Value.str (Str.ofString "__doc__") 628, val := Value.none }] 4 }
noncomputable def ob330 (P : Params) : Obj := { cls := Value.type "type", data := Data.cls { name := Str.ofString "Lexer", bases := [Value.type "object"], mro := [Value.ref 330, Value.type "object"], ns := 329, qualname := Str.ofString "Lexer" }, slots := #[none, none, some (Value.str (Str.ofString "Lexer") 416), some (Value.str (Str.ofString "Lexer") 424), some (Value.builtin "object.__new__"), some (Value.bool true)] }
noncomputable def ob331 (P : Params) : Obj := { cls := Value.type "getset_descriptor", data := Data.fields #[Value.str (Str.ofString "__dict__") 624, Value.ref 330, Value.builtin "function.__dict__", Value.builtin "function.__dict__#set"] }
noncomputable def ob332 (P : Params) : Obj := { cls := Value.type "getset_descriptor", data := Data.fields #[Value.str (Str.ofString "__weakref__") 626, Value.ref 330, Value.builtin "ExceptionGroup.__weakref__", Value.none] }
noncomputable def ob333 (P : Params) : Obj := { cls := Value.type "super", data := Data.fields #[Value.ref 330, Value.ref 330, Value.ref 330] }
noncomputable def ob334 (P : Params) : Obj := { cls := Value.type "builtin_function_or_method", data := Data.fields #[Value.builtin "object.__init_subclass__", Value.ref 330] }
noncomputable def ob335 (P : Params) : Obj := { cls := Value.type "tuple", data := Data.seq #[] }
noncomputable def ob336 (P : Params) : Obj := { cls := Value.none, data := Data.fields #[] }
noncomputable def ob337 (P : Params) : Obj := { cls := Value.type "tuple", data := Data.seq #[Value.str (Str.ofString "script") 636, Value.str (Str.ofString "spot") 637] }
noncomputable def ob338 (P : Params) : Obj := { cls := Value.type "tuple", data := Data.seq #[] }
noncomputable def ob339 (P : Params) : Obj := { cls := Value.none, data := Data.func { name := Str.ofString "_law_piece", qualname := Str.ofString "_law_piece", params := (fnParts PG 21 none).1, body := FuncBody.stmts (fnParts PG 21 none).2.1, scope := (fnParts PG 21 none).2.2, globals := 0, closure := [], defaults := Value.none, kwdefaults := Value.none } }
noncomputable def ob340 (P : Params) : Obj := { cls := Value.type "code", data := Data.fields #[Value.str (Str.ofString "_law_piece") 633, Value.str (Str.ofString "_law_piece") 634, Value.str (Str.ofString "/claim/cut.py") 635, Value.int 291 0, Value.int 2 0, Value.int 0 0, Value.int 0 0, Value.int 3 0, Value.ref 335, Value.bool true, Value.int 181 0, Value.ref 336, Value.none, Value.ref 337, Value.ref 338, Value.ref 339, Value.int 638 0, Value.int 291 0, Value.str (Str.ofString "/claim/cut.py") 639] }
noncomputable def ob341 (P : Params) : Obj := { cls := Value.type "function", data := Data.func { name := Str.ofString "_law_piece", qualname := Str.ofString "_law_piece", params := (fnParts PG 21 none).1, body := FuncBody.stmts (fnParts PG 21 none).2.1, scope := (fnParts PG 21 none).2.2, globals := 3, closure := [], defaults := Value.none, kwdefaults := Value.none, pyModule := Value.str (Str.ofString "law_pq0460_01") 631, code := Value.ref 340 } }
noncomputable def ob342 (P : Params) : Obj := { cls := Value.type "tuple", data := Data.seq #[] }
noncomputable def ob343 (P : Params) : Obj := { cls := Value.none, data := Data.fields #[] }
noncomputable def ob344 (P : Params) : Obj := { cls := Value.type "tuple", data := Data.seq #[Value.str (Str.ofString "source") 644, Value.str (Str.ofString "at") 645, Value.str (Str.ofString "row") 646, Value.str (Str.ofString "column") 647, Value.str (Str.ofString "letter") 648] }
noncomputable def ob345 (P : Params) : Obj := { cls := Value.type "tuple", data := Data.seq #[] }
noncomputable def ob346 (P : Params) : Obj := { cls := Value.none, data := Data.func { name := Str.ofString "_law_spot", qualname := Str.ofString "_law_spot", params := (fnParts PG 22 none).1, body := FuncBody.stmts (fnParts PG 22 none).2.1, scope := (fnParts PG 22 none).2.2, globals := 0, closure := [], defaults := Value.none, kwdefaults := Value.none } }
noncomputable def ob347 (P : Params) : Obj := { cls := Value.type "code", data := Data.fields #[Value.str (Str.ofString "_law_spot") 641, Value.str (Str.ofString "_law_spot") 642, Value.str (Str.ofString "/claim/cut.py") 643, Value.int 295 0, Value.int 2 0, Value.int 0 0, Value.int 0 0, Value.int 3 0, Value.ref 342, Value.bool true, Value.int 181 0, Value.ref 343, Value.none, Value.ref 344, Value.ref 345, Value.ref 346, Value.int 649 0, Value.int 295 0, Value.str (Str.ofString "/claim/cut.py") 650] }
noncomputable def ob348 (P : Params) : Obj := { cls := Value.type "function", data := Data.func { name := Str.ofString "_law_spot", qualname := Str.ofString "_law_spot", params := (fnParts PG 22 none).1, body := FuncBody.stmts (fnParts PG 22 none).2.1, scope := (fnParts PG 22 none).2.2, globals := 3, closure := [], defaults := Value.none, kwdefaults := Value.none, pyModule := Value.str (Str.ofString "law_pq0460_01") 631, code := Value.ref 347 } }
noncomputable def ob349 (P : Params) : Obj := { cls := Value.type "tuple", data := Data.seq #[] }
noncomputable def ob350 (P : Params) : Obj := { cls := Value.none, data := Data.fields #[] }
noncomputable def ob351 (P : Params) : Obj := { cls := Value.type "tuple", data := Data.seq #[Value.str (Str.ofString "source") 655, Value.str (Str.ofString "reader") 656, Value.str (Str.ofString "lap") 657, Value.str (Str.ofString "token") 658, Value.str (Str.ofString "fault") 659] }
noncomputable def ob352 (P : Params) : Obj := { cls := Value.type "tuple", data := Data.seq #[] }
noncomputable def ob353 (P : Params) : Obj := { cls := Value.none, data := Data.func { name := Str.ofString "_law_fault", qualname := Str.ofString "_law_fault", params := (fnParts PG 23 none).1, body := FuncBody.stmts (fnParts PG 23 none).2.1, scope := (fnParts PG 23 none).2.2, globals := 0, closure := [], defaults := Value.none, kwdefaults := Value.none } }
noncomputable def ob354 (P : Params) : Obj := { cls := Value.type "code", data := Data.fields #[Value.str (Str.ofString "_law_fault") 652, Value.str (Str.ofString "_law_fault") 653, Value.str (Str.ofString "/claim/cut.py") 654, Value.int 304 0, Value.int 1 0, Value.int 0 0, Value.int 0 0, Value.int 3 0, Value.ref 349, Value.bool true, Value.int 181 0, Value.ref 350, Value.none, Value.ref 351, Value.ref 352, Value.ref 353, Value.int 660 0, Value.int 304 0, Value.str (Str.ofString "/claim/cut.py") 661] }
noncomputable def ob355 (P : Params) : Obj := { cls := Value.type "function", data := Data.func { name := Str.ofString "_law_fault", qualname := Str.ofString "_law_fault", params := (fnParts PG 23 none).1, body := FuncBody.stmts (fnParts PG 23 none).2.1, scope := (fnParts PG 23 none).2.2, globals := 3, closure := [], defaults := Value.none, kwdefaults := Value.none, pyModule := Value.str (Str.ofString "law_pq0460_01") 631, code := Value.ref 354 } }
noncomputable def ob356 (P : Params) : Obj := { cls := Value.type "tuple", data := Data.seq #[] }
noncomputable def ob357 (P : Params) : Obj := { cls := Value.none, data := Data.fields #[] }
noncomputable def ob358 (P : Params) : Obj := { cls := Value.type "tuple", data := Data.seq #[Value.str (Str.ofString "made") 666, Value.str (Str.ofString "source") 667, Value.str (Str.ofString "spot") 668, Value.str (Str.ofString "words") 669] }
noncomputable def ob359 (P : Params) : Obj := { cls := Value.type "tuple", data := Data.seq #[] }
noncomputable def ob360 (P : Params) : Obj := { cls := Value.none, data := Data.func { name := Str.ofString "_law_message", qualname := Str.ofString "_law_message", params := (fnParts PG 24 none).1, body := FuncBody.stmts (fnParts PG 24 none).2.1, scope := (fnParts PG 24 none).2.2, globals := 0, closure := [], defaults := Value.none, kwdefaults := Value.none } }
noncomputable def ob361 (P : Params) : Obj := { cls := Value.type "code", data := Data.fields #[Value.str (Str.ofString "_law_message") 663, Value.str (Str.ofString "_law_message") 664, Value.str (Str.ofString "/claim/cut.py") 665, Value.int 314 0, Value.int 3 0, Value.int 0 0, Value.int 0 0, Value.int 3 0, Value.ref 356, Value.bool true, Value.int 181 0, Value.ref 357, Value.none, Value.ref 358, Value.ref 359, Value.ref 360, Value.int 670 0, Value.int 314 0, Value.str (Str.ofString "/claim/cut.py") 671] }
noncomputable def ob362 (P : Params) : Obj := { cls := Value.type "function", data := Data.func { name := Str.ofString "_law_message", qualname := Str.ofString "_law_message", params := (fnParts PG 24 none).1, body := FuncBody.stmts (fnParts PG 24 none).2.1, scope := (fnParts PG 24 none).2.2, globals := 3, closure := [], defaults := Value.none, kwdefaults := Value.none, pyModule := Value.str (Str.ofString "law_pq0460_01") 631, code := Value.ref 361 } }
noncomputable def ob363 (P : Params) : Obj := { cls := Value.type "tuple", data := Data.seq #[] }
noncomputable def ob364 (P : Params) : Obj := { cls := Value.none, data := Data.fields #[] }
noncomputable def ob365 (P : Params) : Obj := { cls := Value.none, data := Data.func { name := Str.ofString "law", qualname := Str.ofString "law", params := (fnParts PG 25 none).1, body := FuncBody.stmts (fnParts PG 25 none).2.1, scope := (fnParts PG 25 none).2.2, globals := 0, closure := [], defaults := Value.none, kwdefaults := Value.none } }
noncomputable def ob366 (P : Params) : Obj := { cls := Value.type "code", data := Data.fields #[Value.str (Str.ofString "law") 673, Value.str (Str.ofString "law") 674, Value.str (Str.ofString "/claim/cut.py") 675, Value.int 319 0, Value.int 1 0, Value.int 0 0, Value.int 0 0, Value.int 3 0, Value.ref 363, Value.bool true, Value.int 181 0, Value.ref 364, Value.none, Value.none, Value.none, Value.ref 365, Value.int 676 0, Value.int 319 0, Value.str (Str.ofString "/claim/cut.py") 677] }
noncomputable def ob367 (P : Params) : Obj := { cls := Value.type "function", data := Data.func { name := Str.ofString "law", qualname := Str.ofString "law", params := (fnParts PG 25 none).1, body := FuncBody.stmts (fnParts PG 25 none).2.1, scope := (fnParts PG 25 none).2.2, globals := 3, closure := [], defaults := Value.none, kwdefaults := Value.none, pyModule := Value.str (Str.ofString "law_pq0460_01") 631, code := Value.ref 366 } }
noncomputable def trb (P : Params) : BT := (.node (PySem.W.boot_o_0 P) (.node (PySem.W.boot_o_1 P) (.node (PySem.W.boot_o_3 P) (.node (PySem.W.boot_o_7 P) .nil .nil) (.node (ob11 P) .nil .nil)) (.node (PySem.W.boot_o_5 P) (.node (PySem.W.boot_o_9 P) .nil .nil) (.node (ob13 P) .nil .nil))) (.node (PySem.W.boot_o_2 P) (.node (PySem.W.boot_o_4 P) (.node (PySem.W.boot_o_8 P) .nil .nil) (.node (ob12 P) .nil .nil)) (.node (PySem.W.boot_o_6 P) (.node (PySem.W.boot_o_10 P) .nil .nil) (.node (ob14 P) .nil .nil))))
noncomputable abbrev stb (w : World) (os : OsState) : SharedT := ⟨trb w.params, 15, {}, #[], {}, 187, os⟩
noncomputable def tr7 (P : Params) : BT := (.node (PySem.W.boot_o_0 P) (.node (PySem.W.boot_o_1 P) (.node (ob3 P) (.node (PySem.W.boot_o_7 P) (.node (ob15 P) (.node (ob31 P) (.node (ob63 P) .nil .nil) (.node (ob95 P) .nil .nil)) (.node (ob47 P) (.node (ob79 P) .nil .nil) .nil)) (.node (ob23 P) (.node (ob39 P) (.node (ob71 P) .nil .nil) .nil) (.node (ob55 P) (.node (ob87 P) .nil .nil) .nil))) (.node (ob11 P) (.node (ob19 P) (.node (ob35 P) (.node (ob67 P) .nil .nil) .nil) (.node (ob51 P) (.node (ob83 P) .nil .nil) .nil)) (.node (ob27 P) (.node (ob43 P) (.node (ob75 P) .nil .nil) .nil) (.node (ob59 P) (.node (ob91 P) .nil .nil) .nil)))) (.node (PySem.W.boot_o_5 P) (.node (PySem.W.boot_o_9 P) (.node (ob17 P) (.node (ob33 P) (.node (ob65 P) .nil .nil) .nil) (.node (ob49 P) (.node (ob81 P) .nil .nil) .nil)) (.node (ob25 P) (.node (ob41 P) (.node (ob73 P) .nil .nil) .nil) (.node (ob57 P) (.node (ob89 P) .nil .nil) .nil))) (.node (ob13 P) (.node (ob21 P) (.node (ob37 P) (.node (ob69 P) .nil .nil) .nil) (.node (ob53 P) (.node (ob85 P) .nil .nil) .nil)) (.node (ob29 P) (.node (ob45 P) (.node (ob77 P) .nil .nil) .nil) (.node (ob61 P) (.node (ob93 P) .nil .nil) .nil))))) (.node (ob2 P) (.node (PySem.W.boot_o_4 P) (.node (PySem.W.boot_o_8 P) (.node (ob16 P) (.node (ob32 P) (.node (ob64 P) .nil .nil) .nil) (.node (ob48 P) (.node (ob80 P) .nil .nil) .nil)) (.node (ob24 P) (.node (ob40 P) (.node (ob72 P) .nil .nil) .nil) (.node (ob56 P) (.node (ob88 P) .nil .nil) .nil))) (.node (ob12v1 P) (.node (ob20 P) (.node (ob36 P) (.node (ob68 P) .nil .nil) .nil) (.node (ob52 P) (.node (ob84 P) .nil .nil) .nil)) (.node (ob28 P) (.node (ob44 P) (.node (ob76 P) .nil .nil) .nil) (.node (ob60 P) (.node (ob92 P) .nil .nil) .nil)))) (.node (PySem.W.boot_o_6 P) (.node (PySem.W.boot_o_10 P) (.node (ob18 P) (.node (ob34 P) (.node (ob66 P) .nil .nil) .nil) (.node (ob50 P) (.node (ob82 P) .nil .nil) .nil)) (.node (ob26 P) (.node (ob42 P) (.node (ob74 P) .nil .nil) .nil) (.node (ob58 P) (.node (ob90 P) .nil .nil) .nil))) (.node (ob14 P) (.node (ob22 P) (.node (ob38 P) (.node (ob70 P) .nil .nil) .nil) (.node (ob54 P) (.node (ob86 P) .nil .nil) .nil)) (.node (ob30 P) (.node (ob46 P) (.node (ob78 P) .nil .nil) .nil) (.node (ob62 P) (.node (ob94 P) .nil .nil) .nil))))))
noncomputable abbrev st7 (w : World) (os : OsState) : SharedT := ⟨tr7 w.params, 96, {}, #[], {}, 305, os⟩
noncomputable def tr19 (P : Params) : BT := (.node (PySem.W.boot_o_0 P) (.node (PySem.W.boot_o_1 P) (.node (ob3v1 P) (.node (PySem.W.boot_o_7 P) (.node (ob15 P) (.node (ob31 P) (.node (ob63 P) (.node (ob127 P) .nil .nil) .nil) (.node (ob95 P) (.node (ob159 P) .nil .nil) .nil)) (.node (ob47 P) (.node (ob79 P) (.node (ob143 P) .nil .nil) .nil) (.node (ob111 P) (.node (ob175 P) .nil .nil) .nil))) (.node (ob23 P) (.node (ob39 P) (.node (ob71 P) (.node (ob135 P) .nil .nil) .nil) (.node (ob103 P) (.node (ob167 P) .nil .nil) .nil)) (.node (ob55 P) (.node (ob87 P) (.node (ob151 P) .nil .nil) .nil) (.node (ob119 P) .nil .nil)))) (.node (ob11 P) (.node (ob19 P) (.node (ob35 P) (.node (ob67 P) (.node (ob131 P) .nil .nil) .nil) (.node (ob99 P) (.node (ob163 P) .nil .nil) .nil)) (.node (ob51 P) (.node (ob83 P) (.node (ob147 P) .nil .nil) .nil) (.node (ob115 P) (.node (ob179 P) .nil .nil) .nil))) (.node (ob27 P) (.node (ob43 P) (.node (ob75 P) (.node (ob139 P) .nil .nil) .nil) (.node (ob107 P) (.node (ob171 P) .nil .nil) .nil)) (.node (ob59 P) (.node (ob91 P) (.node (ob155 P) .nil .nil) .nil) (.node (ob123 P) .nil .nil))))) (.node (PySem.W.boot_o_5 P) (.node (PySem.W.boot_o_9 P) (.node (ob17 P) (.node (ob33 P) (.node (ob65 P) (.node (ob129 P) .nil .nil) .nil) (.node (ob97 P) (.node (ob161 P) .nil .nil) .nil)) (.node (ob49 P) (.node (ob81 P) (.node (ob145 P) .nil .nil) .nil) (.node (ob113 P) (.node (ob177 P) .nil .nil) .nil))) (.node (ob25 P) (.node (ob41 P) (.node (ob73 P) (.node (ob137 P) .nil .nil) .nil) (.node (ob105 P) (.node (ob169 P) .nil .nil) .nil)) (.node (ob57 P) (.node (ob89 P) (.node (ob153 P) .nil .nil) .nil) (.node (ob121 P) .nil .nil)))) (.node (ob13 P) (.node (ob21 P) (.node (ob37 P) (.node (ob69 P) (.node (ob133 P) .nil .nil) .nil) (.node (ob101 P) (.node (ob165 P) .nil .nil) .nil)) (.node (ob53 P) (.node (ob85 P) (.node (ob149 P) .nil .nil) .nil) (.node (ob117 P) .nil .nil))) (.node (ob29 P) (.node (ob45 P) (.node (ob77 P) (.node (ob141 P) .nil .nil) .nil) (.node (ob109 P) (.node (ob173 P) .nil .nil) .nil)) (.node (ob61 P) (.node (ob93 P) (.node (ob157 P) .nil .nil) .nil) (.node (ob125 P) .nil .nil)))))) (.node (ob2 P) (.node (PySem.W.boot_o_4 P) (.node (PySem.W.boot_o_8 P) (.node (ob16 P) (.node (ob32 P) (.node (ob64 P) (.node (ob128 P) .nil .nil) .nil) (.node (ob96 P) (.node (ob160 P) .nil .nil) .nil)) (.node (ob48 P) (.node (ob80 P) (.node (ob144 P) .nil .nil) .nil) (.node (ob112 P) (.node (ob176 P) .nil .nil) .nil))) (.node (ob24 P) (.node (ob40 P) (.node (ob72 P) (.node (ob136 P) .nil .nil) .nil) (.node (ob104 P) (.node (ob168 P) .nil .nil) .nil)) (.node (ob56 P) (.node (ob88 P) (.node (ob152 P) .nil .nil) .nil) (.node (ob120 P) .nil .nil)))) (.node (ob12v2 P) (.node (ob20 P) (.node (ob36 P) (.node (ob68 P) (.node (ob132 P) .nil .nil) .nil) (.node (ob100 P) (.node (ob164 P) .nil .nil) .nil)) (.node (ob52 P) (.node (ob84 P) (.node (ob148 P) .nil .nil) .nil) (.node (ob116 P) .nil .nil))) (.node (ob28 P) (.node (ob44 P) (.node (ob76 P) (.node (ob140 P) .nil .nil) .nil) (.node (ob108 P) (.node (ob172 P) .nil .nil) .nil)) (.node (ob60 P) (.node (ob92 P) (.node (ob156 P) .nil .nil) .nil) (.node (ob124 P) .nil .nil))))) (.node (PySem.W.boot_o_6 P) (.node (PySem.W.boot_o_10 P) (.node (ob18 P) (.node (ob34 P) (.node (ob66 P) (.node (ob130 P) .nil .nil) .nil) (.node (ob98 P) (.node (ob162 P) .nil .nil) .nil)) (.node (ob50 P) (.node (ob82 P) (.node (ob146 P) .nil .nil) .nil) (.node (ob114 P) (.node (ob178 P) .nil .nil) .nil))) (.node (ob26 P) (.node (ob42 P) (.node (ob74 P) (.node (ob138 P) .nil .nil) .nil) (.node (ob106 P) (.node (ob170 P) .nil .nil) .nil)) (.node (ob58 P) (.node (ob90 P) (.node (ob154 P) .nil .nil) .nil) (.node (ob122 P) .nil .nil)))) (.node (ob14 P) (.node (ob22 P) (.node (ob38 P) (.node (ob70 P) (.node (ob134 P) .nil .nil) .nil) (.node (ob102 P) (.node (ob166 P) .nil .nil) .nil)) (.node (ob54 P) (.node (ob86 P) (.node (ob150 P) .nil .nil) .nil) (.node (ob118 P) .nil .nil))) (.node (ob30 P) (.node (ob46 P) (.node (ob78 P) (.node (ob142 P) .nil .nil) .nil) (.node (ob110 P) (.node (ob174 P) .nil .nil) .nil)) (.node (ob62 P) (.node (ob94 P) (.node (ob158 P) .nil .nil) .nil) (.node (ob126 P) .nil .nil)))))))
noncomputable abbrev st19 (w : World) (os : OsState) : SharedT := ⟨tr19 w.params, 180, {}, #[], {}, 416, os⟩
noncomputable def tr26 (P : Params) : BT := (.node (PySem.W.boot_o_0 P) (.node (PySem.W.boot_o_1 P) (.node (ob3v2 P) (.node (PySem.W.boot_o_7 P) (.node (ob15 P) (.node (ob31 P) (.node (ob63 P) (.node (ob127 P) (.node (ob255 P) .nil .nil) .nil) (.node (ob191 P) (.node (ob319 P) .nil .nil) .nil)) (.node (ob95 P) (.node (ob159 P) (.node (ob287 P) .nil .nil) .nil) (.node (ob223 P) (.node (ob351 P) .nil .nil) .nil))) (.node (ob47 P) (.node (ob79 P) (.node (ob143 P) (.node (ob271 P) .nil .nil) .nil) (.node (ob207 P) (.node (ob335 P) .nil .nil) .nil)) (.node (ob111 P) (.node (ob175 P) (.node (ob303 P) .nil .nil) .nil) (.node (ob239 P) (.node (ob367 P) .nil .nil) .nil)))) (.node (ob23 P) (.node (ob39 P) (.node (ob71 P) (.node (ob135 P) (.node (ob263 P) .nil .nil) .nil) (.node (ob199 P) (.node (ob327 P) .nil .nil) .nil)) (.node (ob103 P) (.node (ob167 P) (.node (ob295 P) .nil .nil) .nil) (.node (ob231 P) (.node (ob359 P) .nil .nil) .nil))) (.node (ob55 P) (.node (ob87 P) (.node (ob151 P) (.node (ob279 P) .nil .nil) .nil) (.node (ob215 P) (.node (ob343 P) .nil .nil) .nil)) (.node (ob119 P) (.node (ob183 P) (.node (ob311 P) .nil .nil) .nil) (.node (ob247 P) .nil .nil))))) (.node (ob11 P) (.node (ob19 P) (.node (ob35 P) (.node (ob67 P) (.node (ob131 P) (.node (ob259 P) .nil .nil) .nil) (.node (ob195 P) (.node (ob323 P) .nil .nil) .nil)) (.node (ob99 P) (.node (ob163 P) (.node (ob291 P) .nil .nil) .nil) (.node (ob227 P) (.node (ob355 P) .nil .nil) .nil))) (.node (ob51 P) (.node (ob83 P) (.node (ob147 P) (.node (ob275 P) .nil .nil) .nil) (.node (ob211 P) (.node (ob339 P) .nil .nil) .nil)) (.node (ob115 P) (.node (ob179 P) (.node (ob307 P) .nil .nil) .nil) (.node (ob243 P) .nil .nil)))) (.node (ob27 P) (.node (ob43 P) (.node (ob75 P) (.node (ob139 P) (.node (ob267 P) .nil .nil) .nil) (.node (ob203 P) (.node (ob331 P) .nil .nil) .nil)) (.node (ob107 P) (.node (ob171 P) (.node (ob299 P) .nil .nil) .nil) (.node (ob235 P) (.node (ob363 P) .nil .nil) .nil))) (.node (ob59 P) (.node (ob91 P) (.node (ob155 P) (.node (ob283 P) .nil .nil) .nil) (.node (ob219 P) (.node (ob347 P) .nil .nil) .nil)) (.node (ob123 P) (.node (ob187 P) (.node (ob315 P) .nil .nil) .nil) (.node (ob251 P) .nil .nil)))))) (.node (PySem.W.boot_o_5 P) (.node (PySem.W.boot_o_9 P) (.node (ob17 P) (.node (ob33 P) (.node (ob65 P) (.node (ob129 P) (.node (ob257 P) .nil .nil) .nil) (.node (ob193 P) (.node (ob321 P) .nil .nil) .nil)) (.node (ob97 P) (.node (ob161 P) (.node (ob289 P) .nil .nil) .nil) (.node (ob225 P) (.node (ob353 P) .nil .nil) .nil))) (.node (ob49 P) (.node (ob81 P) (.node (ob145 P) (.node (ob273 P) .nil .nil) .nil) (.node (ob209 P) (.node (ob337 P) .nil .nil) .nil)) (.node (ob113 P) (.node (ob177 P) (.node (ob305 P) .nil .nil) .nil) (.node (ob241 P) .nil .nil)))) (.node (ob25 P) (.node (ob41 P) (.node (ob73 P) (.node (ob137 P) (.node (ob265 P) .nil .nil) .nil) (.node (ob201 P) (.node (ob329 P) .nil .nil) .nil)) (.node (ob105 P) (.node (ob169 P) (.node (ob297 P) .nil .nil) .nil) (.node (ob233 P) (.node (ob361 P) .nil .nil) .nil))) (.node (ob57 P) (.node (ob89 P) (.node (ob153 P) (.node (ob281 P) .nil .nil) .nil) (.node (ob217 P) (.node (ob345 P) .nil .nil) .nil)) (.node (ob121 P) (.node (ob185 P) (.node (ob313 P) .nil .nil) .nil) (.node (ob249 P) .nil .nil))))) (.node (ob13 P) (.node (ob21 P) (.node (ob37 P) (.node (ob69 P) (.node (ob133 P) (.node (ob261 P) .nil .nil) .nil) (.node (ob197 P) (.node (ob325 P) .nil .nil) .nil)) (.node (ob101 P) (.node (ob165 P) (.node (ob293 P) .nil .nil) .nil) (.node (ob229 P) (.node (ob357 P) .nil .nil) .nil))) (.node (ob53 P) (.node (ob85 P) (.node (ob149 P) (.node (ob277 P) .nil .nil) .nil) (.node (ob213 P) (.node (ob341 P) .nil .nil) .nil)) (.node (ob117 P) (.node (ob181 P) (.node (ob309 P) .nil .nil) .nil) (.node (ob245 P) .nil .nil)))) (.node (ob29 P) (.node (ob45 P) (.node (ob77 P) (.node (ob141 P) (.node (ob269 P) .nil .nil) .nil) (.node (ob205 P) (.node (ob333 P) .nil .nil) .nil)) (.node (ob109 P) (.node (ob173 P) (.node (ob301 P) .nil .nil) .nil) (.node (ob237 P) (.node (ob365 P) .nil .nil) .nil))) (.node (ob61 P) (.node (ob93 P) (.node (ob157 P) (.node (ob285 P) .nil .nil) .nil) (.node (ob221 P) (.node (ob349 P) .nil .nil) .nil)) (.node (ob125 P) (.node (ob189 P) (.node (ob317 P) .nil .nil) .nil) (.node (ob253 P) .nil .nil))))))) (.node (ob2 P) (.node (PySem.W.boot_o_4 P) (.node (PySem.W.boot_o_8 P) (.node (ob16 P) (.node (ob32 P) (.node (ob64 P) (.node (ob128 P) (.node (ob256 P) .nil .nil) .nil) (.node (ob192 P) (.node (ob320 P) .nil .nil) .nil)) (.node (ob96 P) (.node (ob160 P) (.node (ob288 P) .nil .nil) .nil) (.node (ob224 P) (.node (ob352 P) .nil .nil) .nil))) (.node (ob48 P) (.node (ob80 P) (.node (ob144 P) (.node (ob272 P) .nil .nil) .nil) (.node (ob208 P) (.node (ob336 P) .nil .nil) .nil)) (.node (ob112 P) (.node (ob176 P) (.node (ob304 P) .nil .nil) .nil) (.node (ob240 P) .nil .nil)))) (.node (ob24 P) (.node (ob40 P) (.node (ob72 P) (.node (ob136 P) (.node (ob264 P) .nil .nil) .nil) (.node (ob200 P) (.node (ob328 P) .nil .nil) .nil)) (.node (ob104 P) (.node (ob168 P) (.node (ob296 P) .nil .nil) .nil) (.node (ob232 P) (.node (ob360 P) .nil .nil) .nil))) (.node (ob56 P) (.node (ob88 P) (.node (ob152 P) (.node (ob280 P) .nil .nil) .nil) (.node (ob216 P) (.node (ob344 P) .nil .nil) .nil)) (.node (ob120 P) (.node (ob184 P) (.node (ob312 P) .nil .nil) .nil) (.node (ob248 P) .nil .nil))))) (.node (ob12v3 P) (.node (ob20 P) (.node (ob36 P) (.node (ob68 P) (.node (ob132 P) (.node (ob260 P) .nil .nil) .nil) (.node (ob196 P) (.node (ob324 P) .nil .nil) .nil)) (.node (ob100 P) (.node (ob164 P) (.node (ob292 P) .nil .nil) .nil) (.node (ob228 P) (.node (ob356 P) .nil .nil) .nil))) (.node (ob52 P) (.node (ob84 P) (.node (ob148 P) (.node (ob276 P) .nil .nil) .nil) (.node (ob212 P) (.node (ob340 P) .nil .nil) .nil)) (.node (ob116 P) (.node (ob180 P) (.node (ob308 P) .nil .nil) .nil) (.node (ob244 P) .nil .nil)))) (.node (ob28 P) (.node (ob44 P) (.node (ob76 P) (.node (ob140 P) (.node (ob268 P) .nil .nil) .nil) (.node (ob204 P) (.node (ob332 P) .nil .nil) .nil)) (.node (ob108 P) (.node (ob172 P) (.node (ob300 P) .nil .nil) .nil) (.node (ob236 P) (.node (ob364 P) .nil .nil) .nil))) (.node (ob60 P) (.node (ob92 P) (.node (ob156 P) (.node (ob284 P) .nil .nil) .nil) (.node (ob220 P) (.node (ob348 P) .nil .nil) .nil)) (.node (ob124 P) (.node (ob188 P) (.node (ob316 P) .nil .nil) .nil) (.node (ob252 P) .nil .nil)))))) (.node (PySem.W.boot_o_6 P) (.node (PySem.W.boot_o_10 P) (.node (ob18 P) (.node (ob34 P) (.node (ob66 P) (.node (ob130 P) (.node (ob258 P) .nil .nil) .nil) (.node (ob194 P) (.node (ob322 P) .nil .nil) .nil)) (.node (ob98 P) (.node (ob162 P) (.node (ob290 P) .nil .nil) .nil) (.node (ob226 P) (.node (ob354 P) .nil .nil) .nil))) (.node (ob50 P) (.node (ob82 P) (.node (ob146 P) (.node (ob274 P) .nil .nil) .nil) (.node (ob210 P) (.node (ob338 P) .nil .nil) .nil)) (.node (ob114 P) (.node (ob178 P) (.node (ob306 P) .nil .nil) .nil) (.node (ob242 P) .nil .nil)))) (.node (ob26 P) (.node (ob42 P) (.node (ob74 P) (.node (ob138 P) (.node (ob266 P) .nil .nil) .nil) (.node (ob202 P) (.node (ob330 P) .nil .nil) .nil)) (.node (ob106 P) (.node (ob170 P) (.node (ob298 P) .nil .nil) .nil) (.node (ob234 P) (.node (ob362 P) .nil .nil) .nil))) (.node (ob58 P) (.node (ob90 P) (.node (ob154 P) (.node (ob282 P) .nil .nil) .nil) (.node (ob218 P) (.node (ob346 P) .nil .nil) .nil)) (.node (ob122 P) (.node (ob186 P) (.node (ob314 P) .nil .nil) .nil) (.node (ob250 P) .nil .nil))))) (.node (ob14 P) (.node (ob22 P) (.node (ob38 P) (.node (ob70 P) (.node (ob134 P) (.node (ob262 P) .nil .nil) .nil) (.node (ob198 P) (.node (ob326 P) .nil .nil) .nil)) (.node (ob102 P) (.node (ob166 P) (.node (ob294 P) .nil .nil) .nil) (.node (ob230 P) (.node (ob358 P) .nil .nil) .nil))) (.node (ob54 P) (.node (ob86 P) (.node (ob150 P) (.node (ob278 P) .nil .nil) .nil) (.node (ob214 P) (.node (ob342 P) .nil .nil) .nil)) (.node (ob118 P) (.node (ob182 P) (.node (ob310 P) .nil .nil) .nil) (.node (ob246 P) .nil .nil)))) (.node (ob30 P) (.node (ob46 P) (.node (ob78 P) (.node (ob142 P) (.node (ob270 P) .nil .nil) .nil) (.node (ob206 P) (.node (ob334 P) .nil .nil) .nil)) (.node (ob110 P) (.node (ob174 P) (.node (ob302 P) .nil .nil) .nil) (.node (ob238 P) (.node (ob366 P) .nil .nil) .nil))) (.node (ob62 P) (.node (ob94 P) (.node (ob158 P) (.node (ob286 P) .nil .nil) .nil) (.node (ob222 P) (.node (ob350 P) .nil .nil) .nil)) (.node (ob126 P) (.node (ob190 P) (.node (ob318 P) .nil .nil) .nil) (.node (ob254 P) .nil .nil))))))))
noncomputable abbrev st26 (w : World) (os : OsState) : SharedT := ⟨tr26 w.params, 368, {}, #[], {}, 679, os⟩
noncomputable def hA (P : Params) : Heap := ⟨⟨[PySem.W.boot_o_0 P, PySem.W.boot_o_1 P, PySem.W.boot_o_2 P, PySem.W.boot_o_3 P, PySem.W.boot_o_4 P, PySem.W.boot_o_5 P, PySem.W.boot_o_6 P, PySem.W.boot_o_7 P, PySem.W.boot_o_8 P, PySem.W.boot_o_9 P, PySem.W.boot_o_10 P, ob11 P, ob12 P, ob13 P, ob14 P]⟩, {}⟩
noncomputable def hF (P : Params) : Heap := ⟨⟨[PySem.W.boot_o_0 P, PySem.W.boot_o_1 P, ob2 P, ob3v2 P, PySem.W.boot_o_4 P, PySem.W.boot_o_5 P, PySem.W.boot_o_6 P, PySem.W.boot_o_7 P, PySem.W.boot_o_8 P, PySem.W.boot_o_9 P, PySem.W.boot_o_10 P, ob11 P, ob12v3 P, ob13 P, ob14 P, ob15 P, ob16 P, ob17 P, ob18 P, ob19 P, ob20 P, ob21 P, ob22 P, ob23 P, ob24 P, ob25 P, ob26 P, ob27 P, ob28 P, ob29 P, ob30 P, ob31 P, ob32 P, ob33 P, ob34 P, ob35 P, ob36 P, ob37 P, ob38 P, ob39 P, ob40 P, ob41 P, ob42 P, ob43 P, ob44 P, ob45 P, ob46 P, ob47 P, ob48 P, ob49 P, ob50 P, ob51 P, ob52 P, ob53 P, ob54 P, ob55 P, ob56 P, ob57 P, ob58 P, ob59 P, ob60 P, ob61 P, ob62 P, ob63 P, ob64 P, ob65 P, ob66 P, ob67 P, ob68 P, ob69 P, ob70 P, ob71 P, ob72 P, ob73 P, ob74 P, ob75 P, ob76 P, ob77 P, ob78 P, ob79 P, ob80 P, ob81 P, ob82 P, ob83 P, ob84 P, ob85 P, ob86 P, ob87 P, ob88 P, ob89 P, ob90 P, ob91 P, ob92 P, ob93 P, ob94 P, ob95 P, ob96 P, ob97 P, ob98 P, ob99 P, ob100 P, ob101 P, ob102 P, ob103 P, ob104 P, ob105 P, ob106 P, ob107 P, ob108 P, ob109 P, ob110 P, ob111 P, ob112 P, ob113 P, ob114 P, ob115 P, ob116 P, ob117 P, ob118 P, ob119 P, ob120 P, ob121 P, ob122 P, ob123 P, ob124 P, ob125 P, ob126 P, ob127 P, ob128 P, ob129 P, ob130 P, ob131 P, ob132 P, ob133 P, ob134 P, ob135 P, ob136 P, ob137 P, ob138 P, ob139 P, ob140 P, ob141 P, ob142 P, ob143 P, ob144 P, ob145 P, ob146 P, ob147 P, ob148 P, ob149 P, ob150 P, ob151 P, ob152 P, ob153 P, ob154 P, ob155 P, ob156 P, ob157 P, ob158 P, ob159 P, ob160 P, ob161 P, ob162 P, ob163 P, ob164 P, ob165 P, ob166 P, ob167 P, ob168 P, ob169 P, ob170 P, ob171 P, ob172 P, ob173 P, ob174 P, ob175 P, ob176 P, ob177 P, ob178 P, ob179 P, ob180 P, ob181 P, ob182 P, ob183 P, ob184 P, ob185 P, ob186 P, ob187 P, ob188 P, ob189 P, ob190 P, ob191 P, ob192 P, ob193 P, ob194 P, ob195 P, ob196 P, ob197 P, ob198 P, ob199 P, ob200 P, ob201 P, ob202 P, ob203 P, ob204 P, ob205 P, ob206 P, ob207 P, ob208 P, ob209 P, ob210 P, ob211 P, ob212 P, ob213 P, ob214 P, ob215 P, ob216 P, ob217 P, ob218 P, ob219 P, ob220 P, ob221 P, ob222 P, ob223 P, ob224 P, ob225 P, ob226 P, ob227 P, ob228 P, ob229 P, ob230 P, ob231 P, ob232 P, ob233 P, ob234 P, ob235 P, ob236 P, ob237 P, ob238 P, ob239 P, ob240 P, ob241 P, ob242 P, ob243 P, ob244 P, ob245 P, ob246 P, ob247 P, ob248 P, ob249 P, ob250 P, ob251 P, ob252 P, ob253 P, ob254 P, ob255 P, ob256 P, ob257 P, ob258 P, ob259 P, ob260 P, ob261 P, ob262 P, ob263 P, ob264 P, ob265 P, ob266 P, ob267 P, ob268 P, ob269 P, ob270 P, ob271 P, ob272 P, ob273 P, ob274 P, ob275 P, ob276 P, ob277 P, ob278 P, ob279 P, ob280 P, ob281 P, ob282 P, ob283 P, ob284 P, ob285 P, ob286 P, ob287 P, ob288 P, ob289 P, ob290 P, ob291 P, ob292 P, ob293 P, ob294 P, ob295 P, ob296 P, ob297 P, ob298 P, ob299 P, ob300 P, ob301 P, ob302 P, ob303 P, ob304 P, ob305 P, ob306 P, ob307 P, ob308 P, ob309 P, ob310 P, ob311 P, ob312 P, ob313 P, ob314 P, ob315 P, ob316 P, ob317 P, ob318 P, ob319 P, ob320 P, ob321 P, ob322 P, ob323 P, ob324 P, ob325 P, ob326 P, ob327 P, ob328 P, ob329 P, ob330 P, ob331 P, ob332 P, ob333 P, ob334 P, ob335 P, ob336 P, ob337 P, ob338 P, ob339 P, ob340 P, ob341 P, ob342 P, ob343 P, ob344 P, ob345 P, ob346 P, ob347 P, ob348 P, ob349 P, ob350 P, ob351 P, ob352 P, ob353 P, ob354 P, ob355 P, ob356 P, ob357 P, ob358 P, ob359 P, ob360 P, ob361 P, ob362 P, ob363 P, ob364 P, ob365 P, ob366 P, ob367 P]⟩, {}⟩
theorem pre (w : World) (os : OsState) : topGo treeTable PX w 11 (some (.ref 6)) 12 ⟨boot_heap w.params, Array.mk [], boot_drawn, boot_toks, os⟩ (topStub PX) = some (⟨hA w.params, #[], {}, 187, os⟩, ⟨denote treeTable (.body (behindTheImports PX) envM), .body (behindTheImports PX) envM, Pos.mk 0 0 0 0, [topFrame (Pos.mk 0 0 0 0)]⟩) := by kernel_rfl
theorem block (w : World) (os : OsState) : segRun treeTable PX w 11 (some (.ref 6)) 1 1 ⟨hA w.params, #[], {}, 187, os⟩ (blockOf (behindTheImports PX) envM (.body (behindTheImports PX) envM) (Pos.mk 0 0 0 0) [topFrame (Pos.mk 0 0 0 0)]) = some (.next, (stb w os).abs, .body (behindTheImports PX) envM, Pos.mk 0 0 0 0) := by kernel_rfl
theorem run7 (w : World) (os : OsState) : segRunT treeTable PX w 11 (some (.ref 6)) 1 1315 (stb w os) (piecesOf (((behindTheImports PX)).take 7) envM (.body (behindTheImports PX) envM) (Pos.mk 0 0 0 0) [topFrame (Pos.mk 0 0 0 0)]) = some (.next, st7 w os, .body (behindTheImports PX) envM, Pos.mk 16 0 17 8) := by kernel_rfl
theorem run19 (w : World) (os : OsState) : segRunT treeTable PX w 11 (some (.ref 6)) 1 517 (st7 w os) (piecesOf (((((behindTheImports PX)).drop 7)).take 12) envM (.body (behindTheImports PX) envM) (Pos.mk 16 0 17 8) [topFrame (Pos.mk 0 0 0 0)]) = some (.next, st19 w os, .body (behindTheImports PX) envM, Pos.mk 57 0 72 15) := by kernel_rfl
theorem run26 (w : World) (os : OsState) : segRunT treeTable PX w 11 (some (.ref 6)) 1 1029 (st19 w os) (piecesOf (((((((behindTheImports PX)).drop 7)).drop 12)).take 7) envM (.body (behindTheImports PX) envM) (Pos.mk 57 0 72 15) [topFrame (Pos.mk 0 0 0 0)]) = some (.next, st26 w os, .body (behindTheImports PX) envM, Pos.mk 319 0 340 15) := by kernel_rfl
theorem finRun (w : World) (os : OsState) : topRun treeTable PX w 11 (some (.ref 6)) 2 (st26 w os).abs ⟨doneF .next, .body (behindTheImports PX) envM, Pos.mk 319 0 340 15, [topFrame (Pos.mk 0 0 0 0)]⟩ = some ⟨hF w.params, #[], {}, 679, os⟩ := by kernel_rfl
theorem runAll (w : World) (os : OsState) : topRun treeTable PX w 11 (some (.ref 6)) (12 + (1 + (1315 + (517 + (1029 + 2))))) ⟨boot_heap w.params, Array.mk [], boot_drawn, boot_toks, os⟩ (topStub PX) = some ⟨hF w.params, #[], {}, 679, os⟩ :=
  go_top (pre w os) (piece_block (block w os) (piece_at 7 (segRun_of (run7 w os)) (piece_at 12 (segRun_of (run19 w os)) (piece_at 7 (segRun_of (run26 w os)) (piece_end (by kernel_rfl) (finRun w os))))))
end
section
open PySem PySem.W PyProof.Rows
set_option maxRecDepth 100000
set_option maxHeartbeats 8000000
noncomputable abbrev HK : Hook := kHook KH [2, 3, 15, 22, 23, 25, 26, 28, 29, 30, 31, 32, 33, 36, 43, 44, 45, 48, 55, 56, 57, 60, 67, 68, 69, 72, 79, 80, 81, 84, 91, 92, 93, 96, 98, 99, 101, 102, 103, 105, 106, 108, 109, 110, 112, 113, 115, 116, 117, 119, 120, 122, 123, 131, 133, 134, 136, 137, 138, 139, 140, 141, 142, 145, 147, 148, 150, 151, 152, 154, 155, 157, 158, 159, 161, 162, 164, 165, 166, 168, 169, 171, 172, 173, 175, 176, 178, 179, 187, 188, 190, 191, 193, 194, 195, 197, 198, 200, 201, 202, 204, 205, 207, 208, 209, 211, 212, 214, 215, 216, 218, 219, 221, 222, 223, 225, 226, 228, 229, 230, 232, 233, 235, 236, 237, 239, 240, 242, 243, 244, 246, 247, 249, 250, 251, 253, 254, 256, 257, 258, 260, 261, 263, 264, 265, 267, 268, 270, 271, 272, 274, 275, 277, 278, 279, 281, 282, 284, 285, 286, 288, 289, 291, 292, 293, 295, 296, 298, 299, 300, 302, 303, 305, 306, 307, 309, 310, 312, 313, 314, 316, 317, 319, 320, 321, 323, 324, 326, 327, 328, 329, 330, 331, 332, 335, 337, 338, 340, 341, 342, 344, 345, 347, 348, 349, 351, 352, 354, 355, 356, 358, 359, 361, 362, 363, 366, 367] (fun _ => by kernel_rfl)
theorem looks (w : World) : (fun os : OsState => ((staticsOk (importedModules PX.main.body) (boot_heap w.params) (hF w.params) && namesBound PX (hF w.params) && gensDone ⟨hF w.params, #[], {}, 679, os⟩ && laidKept (boot_heap w.params) (hF w.params)),
        openSeen VW [Str.ofString "GateloomError"] (importedModules PX.main.body) (fun s => xlAt VW [] s && recOk (RowW.records PySem.Challenge.rw_pq0460_01.row.toRowW) s) true ⟨hF w.params, #[], {}, 679, os⟩, HK.obs ⟨hF w.params, #[], {}, 679, os⟩)) = fun _ => (true, openGood VW [Str.ofString "GateloomError"], HK.val w) := by kernel_rfl
theorem onecheck : LeftO PySem.Challenge.rw_pq0460_01.row.toRowW.1 VW [Str.ofString "GateloomError"] (fun s => xlAt VW [] s && recOk (RowW.records PySem.Challenge.rw_pq0460_01.row.toRowW) s) HK.obs HK.val 5842 :=
  LeftO.of_pieces (H₀ := boot_heap) (H₁ := hF) (gs₀ := Array.mk []) (gs₁ := #[]) (d₀ := boot_drawn) (d₁ := {}) (k₀ := boot_toks) (k₁ := 679) (m₀ := 11) (ann := some (.ref 6))
    (boot_open (by kernel_rfl) (by rfl) (fun s => by kernel_rfl)) (fun w => by kernel_rfl) runAll (by decide) looks
end
section
open PySem PySem.W PySem.Calls PyProof.Rows Builtin Builtin.ObjectAttr
set_option maxRecDepth 100000
set_option maxHeartbeats 400000

section
variable {prog : Program} {w : World} {A : Around} {E : Value → Shared → Prop} {s : Shared} {K : Frag} {x C : Addr} {ox : Obj} {od : Option Obj} {name : Str} {expr : Bool}

theorem ga_kind : builtinKind "BaseException.__getattribute__" = some .slot := by decide +kernel
theorem ga_split : splitId "BaseException.__getattribute__" = some ("BaseException", "__getattribute__") := by decide +kernel

theorem ck_ga {M : Model} {a b : Value} {Q : Unit → Shared → Prop} (L : Looks M s.heap (isInstance a (.type "BaseException")) true) (h : Q () s) : wpAny M A (checkBuiltinCall "BaseException.__getattribute__" ⟨[a, b], []⟩) Q E s :=
  check_slot (i := "BaseException.__getattribute__") (owner := "BaseException") (n := "__getattribute__") (self := a) (rest := [b]) (kw := []) ga_kind ga_split L (PySem.F.args_bexc_ga a b) h

theorem get_exc {v : Value} {Q : Value → Shared → Prop} (X : K.In s.heap) (I : InstAt s.heap x ox C od) (hga : findIn K (.ref C) "__getattribute__" = some (some (.builtin "BaseException.__getattribute__")))
    (hgt : findIn K (.ref C) "__getattr__" = some none) (hb : mroIn K C (.type "BaseException") = some true)
    (hf : findObj K C od name = some (.value v)) (hh : handedIn v = true) (h : Q v { s with toks := s.toks + 1 }) : wpAny (model prog w) A (getAttr (.ref x) name expr) Q E s := by
  obtain ⟨hp, g, d, t, os⟩ := s
  have L0 := I.type (M := model prog w)
  have L1 := looks_findIn (M := model prog w) X hga
  have L2 := looks_findIn (M := model prog w) X hgt
  have L3 := looks_find (M := model prog w) X I hf
  have L4 : Looks (model prog w) hp (isInstance (.ref x) (.type "BaseException")) true := L0.andThen (looks_mroIn (M := model prog w) X hb)
  have FB := PySem.F.attrBase_Exception
  unfold getAttr getAttrBy
  refine wpAny_bind (wpAny_mkText (wpAny_holding (wpAny_bind (L0.at (wpAny_bind (L1.at ?_))))))
  show wpAny _ _ (getAttrByItsOwn _ _ _ _ _ _) _ _ _
  unfold getAttrByItsOwn hookBefore
  refine wpAny_bind (L2.at (wpAny_bind (wpAny_attempt (wpAny_holding ?_))))
  unfold callGetattribute
  rw [if_neg (show ¬ ((expr && onTheHeap (Value.builtin "BaseException.__getattribute__")) = true) by cases expr <;> simp [onTheHeap])]
  unfold boundAndCalled
  rw [FB.ga.bind]
  refine wpAny_bind (wpAny_pure ?_)
  show wpAny _ _ (call (Value.builtin "BaseException.__getattribute__") [.ref x, .str name t] []) _ _ ⟨hp, g, d, t + 1, os⟩
  refine wpAny_call (codeAny_call_builtin FB.ga.plain PySem.F.entry_bexc_ga ?_)
  refine ck_ga (s := ⟨hp, g, d, t + 1, os⟩) L4 ?_
  unfold Builtin.«object.__getattribute__»
  rw [show slotArgs "__getattribute__" 1 { pos := [Value.ref x, Value.str name t] } = pure (Value.ref x, [Value.str name t]) from rfl]
  refine wpAny_bind (wpAny_pure ?_)
  refine wpAny_bind (wpAny_pure (a := name) ?_)
  refine wpAny_bind (L0.at ?_)
  refine wpAny_bind (L3.at ?_)
  refine wpAny_pure ?_
  show wpAny (model prog w) A (handedOut v) Q E _
  rw [handedOut_of hh]; exact wpAny_pure h

theorem refuse_exc3 (self : Value) : refuseLoop self "__setattr__" [.type "Exception", .type "BaseException", .type "object"] = pure () := by kernel_rfl

theorem osa_exc {name : Str} {tk : Tok} {v : Value} {R : Result → Shared → Prop} {cd : ClassData} (X : K.In s.heap) (I : InstAt s.heap x ox C od) (hc : clsIn K C = some cd) (hr : ∀ self, refuseLoop self "__setattr__" cd.mro = pure ())
    (hm : mroIn K C (.type "object") = some true) (ha : findIn K (.ref C) name = some none)
    (h : ∀ b, wpAny (model prog w) A.in1 (storeInOwnDict (.ref x) (.ref C) (.str name tk) name v b)
      (fun fin s' => match fin with | .done f => R (.ok f) s' | .again c' => c'.quiet = true ∧ codeAny (model prog w) A c' R s') (fun e s' => R (.error e) s') s) :
    codeAny (model prog w) A (.call (.builtin "object.__setattr__") ⟨[.ref x, .str name tk, v], []⟩) R s := by
  have SF := PySem.F.store_object
  have sub : Looks (model prog w) s.heap (isInstance (.ref x) (.type "object")) true := I.type.andThen (looks_mroIn X hm)
  refine codeAny_call_builtin SF.slot.plain SF.entry (@check_slot (model prog w) _ _ s "object.__setattr__" "object" "__setattr__" (.ref x) [.str name tk, v] [] _ SF.kind SF.split sub (SF.args (.ref x) (.str name tk) v) ?_)
  have hmr : Looks (model prog w) s.heap (mroOf (.ref C)) cd.mro := (looks_clsIn X hc).andThen .now
  rw [osa_eq, refuse_eq]
  refine wpAny_bind (wpAny_bind (I.type.here (wpAny_bind (hmr.here ?_))))
  rw [hr]
  exact wpAny_pure (wpAny_bind (I.type.here (wpAny_bind ((looks_findIn X ha).here (wpAny_bind (wpAny_pure (a := none) (h _)))))))

abbrev excO (C t : Addr) (d : Option Addr) : Obj := { cls := .ref C, dict := d, data := .fields #[.ref t, .none, .none, .none, .bool false, .none] }

section
variable {h₀ : Heap} {L : Addr} {m : Str → Option Value} {rest : List (Addr × Obj)} {e t dx : Addr}

theorem upd_head {e : Addr} {o o' : Obj} {h : Heap} {f : Obj → Obj} (F : Fr h₀ L h m) (N : News h₀ L h ((e, o) :: rest)) (hne : ∀ p ∈ rest, p.1 ≠ e) (he : f o = o') (hf : o'.isFreed = false) :
    Fr h₀ L (h.update e f) m ∧ News h₀ L (h.update e f) ((e, o') :: rest) :=
  news_upd (pre := []) F N (fun _ h => nomatch h) hne he hf

theorem set_exc_first {v : Value} {Q : Unit → Shared → Prop} {cd : ClassData} (F : Fr h₀ L s.heap m) (X₀ : K.In h₀) (N : News h₀ L s.heap ((e, excO C t none) :: rest)) (hne : ∀ p ∈ rest, p.1 ≠ e)
    (hs : findIn K (.ref C) "__setattr__" = some (some (.builtin "object.__setattr__"))) (hc : clsIn K C = some cd) (hd : cd.hasDict = true) (hr : ∀ self, refuseLoop self "__setattr__" cd.mro = pure ())
    (hm : mroIn K C (.type "object") = some true) (ha : findIn K (.ref C) name = some none)
    (h : ∀ dx h', Fr h₀ L h' m → News h₀ L h' ((e, excO C t (some dx)) :: (dx, dictOf [⟨PyData.keyHash w.params name, .str name (s.toks + 1), v⟩] 1) :: rest) → (∀ p ∈ rest, p.1 < dx) → e < dx → Q () { s with heap := h', toks := s.toks + 2 }) :
    wpAny (model prog w) A (setAttr (.ref e) name v) Q E s := by
  have X := X₀.keeps F.keep
  have he := (N _ (.head _)).1
  have I : InstAt s.heap e (excO C t none) C none := ⟨he, rfl, rfl, trivial⟩
  refine set_plain X I hs (osa_exc (s := { s with toks := s.toks + 1 }) X I hc hr hm ha fun b => ?_)
  have LC := looks_clsIn (M := model prog w) X hc
  obtain ⟨hp, g, d, tk, os⟩ := s
  have hlt : e < hp.objs.size := Heap.lt_size he
  have N' : News h₀ L hp rest := fun p q => N p (.tail _ q)
  have N1 := N.push F emptyDict
  have F1 := F.push emptyDict
  have N2 : News h₀ L (hp.push emptyDict) ((e, excO C t none) :: (hp.objs.size, emptyDict) :: rest) := fun p q => by
    rcases List.mem_cons.mp q with rfl | q
    · exact N1 _ (.tail _ (.head _))
    · rcases List.mem_cons.mp q with rfl | q
      · exact N1 _ (.head _)
      · exact N1 _ (.tail _ (.tail _ q))
  have n2 : ∀ p ∈ (hp.objs.size, emptyDict) :: rest, p.1 ≠ e := fun p q => by
    rcases List.mem_cons.mp q with rfl | q
    · exact Nat.ne_of_gt hlt
    · exact hne p q
  obtain ⟨F3, N3⟩ := upd_head (f := fun o => { o with dict := some hp.objs.size }) F1 N2 n2 (o' := excO C t (some hp.objs.size)) rfl rfl
  have N3' : News h₀ L _ ([(e, excO C t (some hp.objs.size))] ++ (hp.objs.size, emptyDict) :: rest) := N3
  obtain ⟨F4, N4⟩ := news_upd (f := Obj.putName name (PyData.keyHash w.params name) (.str name (tk + 1)) v) F3 N3' (fun p q => by rw [List.mem_singleton.mp q]; exact Nat.ne_of_lt hlt)
    (fun p q => Nat.ne_of_lt (Heap.lt_size (N' p q).1)) (o' := dictOf [⟨PyData.keyHash w.params name, .str name (tk + 1), v⟩] 1) (by rw [show emptyDict = dictOf [] 0 from rfl, putName_dict]; rfl) rfl
  have D3 := (N3 _ (.tail _ (.head _))).1
  have D4 := (N4 (hp.objs.size, dictOf [⟨PyData.keyHash w.params name, .str name (tk + 1), v⟩] 1) (by simp)).1
  have fin := h hp.objs.size _ F4 N4 (fun p q => Heap.lt_size (N' p q).1) hlt
  unfold storeInOwnDict
  refine wpAny_bind (wpAny_pure ?_)
  rw [if_neg (by simp)]
  refine wpAny_bind (wpAny_bind (wpAny_loadPart he (wpAny_bind (LC.at ?_))))
  rw [hd]
  refine wpAny_bind (wpAny_alloc (wpAny_bind (wpAny_update (N2 _ (.head _)).1 (wpAny_pure (a := some hp.objs.size) ?_))))
  show wpAny _ _ (storeInDict _ _ _ _) _ _ _
  refine wpAny_bind (wpAny_pure (wpAny_bind ?_))
  unfold nsSet
  refine wpAny_bind (wpAny_bind (wpAny_askSetting (wpAny_pure (wpAny_bind (wpAny_mkText (wpAny_bind (wpAny_loadPart D3 ?_)))))))
  refine wpAny_updatePart D3 ?_
  refine wpAny_bind (wpAny_lookBehind D4 (pastItsLine_dict (by rw [List.size_toArray, sizeLine_eq]; simp)) ?_)
  exact wpAny_pure fin

theorem set_exc_next {v : Value} {Q : Unit → Shared → Prop} {cd : ClassData} {es es' : List DictEntry} {n n' : Nat} (F : Fr h₀ L s.heap m) (X₀ : K.In h₀) (N : News h₀ L s.heap ((e, excO C t (some dx)) :: (dx, dictOf es n) :: rest)) (hne : e ≠ dx) (hnr : ∀ p ∈ rest, p.1 ≠ dx)
    (hs : findIn K (.ref C) "__setattr__" = some (some (.builtin "object.__setattr__"))) (hc : clsIn K C = some cd) (hd : cd.hasDict = true) (hr : ∀ self, refuseLoop self "__setattr__" cd.mro = pure ())
    (hm : mroIn K C (.type "object") = some true) (ha : findIn K (.ref C) name = some none) (hl : (getL name es).isSome = true)
    (eq : (putL name (PyData.keyHash w.params name) (.str name (s.toks + 1)) v es, putN name es n) = (es', n')) (hz : es'.length ≤ 1000)
    (h : ∀ h', Fr h₀ L h' m → News h₀ L h' ((e, excO C t (some dx)) :: (dx, dictOf es' n') :: rest) → Q () { s with heap := h', toks := s.toks + 2 }) :
    wpAny (model prog w) A (setAttr (.ref e) name v) Q E s := by
  have X := X₀.keeps F.keep
  have he := (N _ (.head _)).1
  have D := (N _ (.tail _ (.head _))).1
  have I : InstAt s.heap e (excO C t (some dx)) C (some (dictOf es n)) := ⟨he, rfl, rfl, D⟩
  obtain ⟨e1, e2⟩ := Prod.mk.inj eq
  refine set_plain X I hs (osa_exc (s := { s with toks := s.toks + 1 }) X I hc hr hm ha fun b => ?_)
  have LC := looks_clsIn (M := model prog w) X hc
  obtain ⟨hp, g, d, tk, os⟩ := s
  have N3' : News h₀ L hp ([(e, excO C t (some dx))] ++ (dx, dictOf es n) :: rest) := N
  obtain ⟨F4, N4⟩ := news_upd (f := Obj.putName name (PyData.keyHash w.params name) (.str name (tk + 1)) v) F N3' (fun p q => by rw [List.mem_singleton.mp q]; exact hne)
    hnr (o' := dictOf es' n') (by rw [putName_dict, e1, e2]) rfl
  have D4 := (N4 (dx, dictOf es' n') (by simp)).1
  have fin := h _ F4 N4
  unfold storeInOwnDict
  refine wpAny_bind (wpAny_pure ?_)
  rw [if_neg (by simp)]
  refine wpAny_bind (wpAny_bind (wpAny_loadPart he (wpAny_bind (LC.at ?_))))
  rw [hd]
  refine wpAny_pure (a := some dx) (wpAny_bind (wpAny_pure (wpAny_bind ?_)))
  unfold nsSet
  refine wpAny_bind (wpAny_bind (wpAny_askSetting (wpAny_pure (wpAny_bind (wpAny_mkText (wpAny_bind (wpAny_loadPart D ?_)))))))
  have c : (!es.toArray.any (·.key.isStr name) && es.toArray.any (·.refKey)) = false := by
    rw [← Array.any_toList, ← Array.any_toList]
    unfold getL at hl
    split at hl
    · rename_i en he
      rw [List.any_eq_true.mpr ⟨en, List.mem_of_find?_eq_some he, List.find?_some he⟩]; rfl
    · split at hl
      · cases hl
      · rename_i z; rw [Bool.not_eq_true] at z; rw [z, Bool.and_false]
  dsimp only
  rw [aRefKeyMayBeTheName_at, c]
  refine wpAny_updatePart D ?_
  refine wpAny_bind (wpAny_lookBehind D4 (pastItsLine_dict (by rw [List.size_toArray, sizeLine_eq]; omega)) ?_)
  exact wpAny_pure fin
end
end

section
open Sem (wp)
variable {M : Model} {A : Around} {E : Value → Shared → Prop} {h : Heap} {g : Array GenState} {d : Drawn} {t : Nat} {os : OsState}
variable {nm q : Str} {C Nn : Addr} {bs bm bmB : List Value} {hdct : Bool} {sn : List Str} {sub : List Value} {ab : Bool} {col : Option Bool} {dd : Option Addr} {k0 k1 k2 k3 k5 : Option Value} {B newId initId : String}

theorem exc_check_new (FB : ExcBaseFacts B newId initId bmB) (hB : bm.contains (.type B) = true) {rest : List Value} {Q : Unit → Shared → Prop} (hC : h.get? C = some (excClassObj nm q C Nn bs bm hdct sn sub ab col dd k0 k1 k2 k3 k5 newId))
    (hq : Q () ⟨h, g, d, t, os⟩) : wpAny M A (checkBuiltinCall newId ⟨.ref C :: rest, []⟩) Q E ⟨h, g, d, t, os⟩ := by
  have hcont : (Value.ref C :: bm).contains (.type B) = true := by rw [List.contains_cons, hB, Bool.or_true]
  have hstar := FB.noStar
  simp only [checkBuiltinCall, FB.newKind, FB.newSplit, FB.newRow]
  repeat (first | refine wpAny_loadPart_at hC ?_ | (refine wpAny_isSubtype_exc hC ?_; rw [hcont]) | refine wpAny_staticBase_exc hC ?_ | refine wpAny_madeBy_exc hC ?_ | simp only [bne_self_eq_false, Bool.false_eq_true, if_false] | wp_step)
  exact hq
end
section
variable {prog : Program} {w : World} {A : Around} {h : Heap} {g : Array GenState} {d : Drawn} {t : Nat} {os : OsState}
variable {nm q : Str} {C Nn : Addr} {bs bm bmB : List Value} {hdct : Bool} {sn : List Str} {sub : List Value} {ab : Bool} {col : Option Bool} {dd : Option Addr} {k0 k1 k2 k3 k5 : Option Value} {B newId initId : String}

theorem exc_new {R : Result → Shared → Prop} (FB : ExcBaseFacts B newId initId bmB) (hB : bm.contains (.type B) = true) (hA : bm.contains (.type "AttributeError") = false) (hN : bm.contains (.type "NameError") = false) {rest : List Value}
    (hC : h.get? C = some (excClassObj nm q C Nn bs bm hdct sn sub ab col dd k0 k1 k2 k3 k5 newId))
    (hq : R (.ok (.ret (.ref (h.objs.size + 1)))) ⟨(h.push { cls := .type "tuple", data := .seq rest.toArray }).push
      { cls := .ref C, data := .fields #[.ref h.objs.size, .none, .none, .none, .bool false, .none] }, g, d, t, os⟩) (hrest : rest.length ≤ sizeLine) :
    codeAny (model prog w) A (.builtin newId ⟨.ref C :: rest, []⟩) R ⟨h, g, d, t, os⟩ := by
  have hends := FB.ends
  have hcB : (Value.ref C :: bm).contains (.type B) = true := by rw [List.contains_cons, hB, Bool.or_true]
  have hcA : (Value.ref C :: bm).contains (.type "AttributeError") = false := by rw [List.contains_cons, hA]; rfl
  have hcN : (Value.ref C :: bm).contains (.type "NameError") = false := by rw [List.contains_cons, hN]; rfl
  refine codeAny_builtinAt FB.entry ?_
  unfold Builtin.«BaseException.__new__»
  refine PySem.wpAt_bind ?_
  show PySem.wpAt _ _ _ (stack >>= _) _ _ _
  refine PySem.wpAt_bind (PySem.wpAt_stack fun p below => PySem.wpAt_of_wpAny ?_)
  wp_walk
  refine PySem.wpAt_of_wpAny ?_
  rw [FB.owner]
  repeat (first | with_reducible refine wpAny_madeHere_exc FB.canon hC ?_ | with_reducible refine wpAny_loadPart_at hC ?_ | (with_reducible refine wpAny_isSubtype_exc hC ?_; first | rw [hcB] | rw [hcA] | rw [hcN]) | wp_step)
  show R _ _
  rw [Heap.size_push]
  exact hq

theorem exc_type_call {E : Value → Shared → Prop} (FB : ExcBaseFacts B newId initId bmB) (hB : bm.contains (.type B) = true) (hA : bm.contains (.type "AttributeError") = false) (hN : bm.contains (.type "NameError") = false) {rest : List Value} {fI : Addr} {K : Frag} {Q : Fin → Shared → Prop}
    (X : K.In h) (hC : h.get? C = some (excClassObj nm q C Nn bs bm hdct sn sub ab col dd k0 k1 k2 k3 k5 newId)) (hi : findIn K (.ref C) "__init__" = some (some (.ref fI))) (hf : typeIn K (.ref fI) = some (.type "function"))
    (hq : wpAny (model prog w) A (call (.ref fI) (.ref (h.objs.size + 1) :: rest)) (fun r s' => r = .none ∧ Q (.done (.ret (.ref (h.objs.size + 1)))) s') E
      ⟨(h.push { cls := .type "tuple", data := .seq rest.toArray }).push (excO C h.objs.size none), g, d, t, os⟩) (hrest : rest.length ≤ sizeLine) :
    wpAny (model prog w) A (Builtin.«type.__call__» ⟨.ref C :: rest, []⟩) Q E ⟨h, g, d, t, os⟩ := by
  repeat (first | with_reducible refine wpAny_loadPart_at hC ?_ | with_reducible refine wpAny_madeBy_exc hC ?_ | wp_step)
  refine codeAny_call_builtin_code (Code.quiet_builtin _ FB.quiet) (exc_check_new FB hB hC ?_)
  refine exc_new FB hB hA hN hC ?_ hrest
  show wpAny _ _ _ _ _ _
  have k : ∀ b o, h.get? b = some o → ((h.push { cls := .type "tuple", data := .seq rest.toArray }).push (excO C h.objs.size none)).get? b = some o := fun b o e => Heap.get?_push_of_some _ (Heap.get?_push_of_some _ e)
  have hC₁ := k _ _ hC
  have hget : ((h.push { cls := .type "tuple", data := .seq rest.toArray }).push (excO C h.objs.size none)).get? (h.objs.size + 1) = some (excO C h.objs.size none) := by heap_get
  have hcC : (Value.ref C :: bm).contains (.ref C) = true := by simp
  have i1 := (looks_findIn (M := model prog w) X hi).keeps k
  have b1 := (bind_fn (M := model prog w) X (.ref (h.objs.size + 1)) hf).keeps k
  unfold isInstance
  repeat (first | with_reducible refine wpAny_loadPart_at hget ?_ | (with_reducible refine wpAny_isSubtype_exc hC₁ ?_; rw [hcC]) | wp_step)
  show wpAny _ _ (typeLookup (.ref C) _) _ _ _
  refine i1.at ?_
  refine wpAny_holding (wpAny_bind ?_)
  refine b1.at ?_
  refine (wpAny_bind (wpAny_mono hq (fun r s' hr => ?_) fun _ _ x => x))
  obtain ⟨rfl, hQ⟩ := hr
  wp_walk
  exact hQ

theorem exc_call {E : Value → Shared → Prop} {s : Shared} {h₀ : Heap} {L : Addr} {m : Str → Option Value} {news : List (Addr × Obj)} (FB : ExcBaseFacts B newId initId bmB) (hB : bm.contains (.type B) = true) (hA : bm.contains (.type "AttributeError") = false) (hN : bm.contains (.type "NameError") = false) {rest : List Value} {fI : Addr} {K : Frag} {Q : Value → Shared → Prop}
    (F : Fr h₀ L s.heap m) (X₀ : K.In h₀) (N : News h₀ L s.heap news) (hC : K.lookup C = some (excClassObj nm q C Nn bs bm hdct sn sub ab col dd k0 k1 k2 k3 k5 newId)) (hi : findIn K (.ref C) "__init__" = some (some (.ref fI))) (hf : typeIn K (.ref fI) = some (.type "function"))
    (hq : ∀ e t h', Fr h₀ L h' m → News h₀ L h' ((e, excO C t none) :: (t, { cls := .type "tuple", data := .seq rest.toArray }) :: news) → (∀ p ∈ news, p.1 < t) → t < e →
      wpAny (model prog w) (A.under (.builtin "type.__call__" ⟨.ref C :: rest, []⟩)) (call (.ref fI) (.ref e :: rest)) (fun r s' => r = .none ∧ Q (.ref e) s') E { s with heap := h' }) (hrest : rest.length ≤ sizeLine) :
    wpAny (model prog w) A (call (.ref C) rest) Q E s := by
  have X := X₀.keeps F.keep
  obtain ⟨hp, g, d, tk, os⟩ := s
  have hCh : hp.get? C = some (excClassObj nm q C Nn bs bm hdct sn sub ab col dd k0 k1 k2 k3 k5 newId) := X _ _ hC
  have f1 := tc_lookup
  have f2 := tc_bind (.ref C)
  have hT : (⟨hp, g, d, tk, os⟩ : Shared).TypeIs (.ref C) "type" := ⟨_, hCh, rfl⟩
  refine wpAny_call (codeAny_of_tree ?_)
  show wpAny _ _ (callAny (.ref C) _) _ _ _
  repeat (any_goals (first | assumption | with_reducible refine wpAny_loadPart_at hCh ?_ | wp_step))
  refine ⟨rfl, ?_⟩
  have N2 := (N.push F { cls := .type "tuple", data := .seq rest.toArray }).push (F.push _) (excO C hp.objs.size none)
  rw [Heap.size_push] at N2
  refine codeAny_call_builtin_at (Code.quiet_builtin _ (by decide +kernel)) entry_typeCall (wpAny_check_type_call_sub hCh (exc_type_call FB hB hA hN X hCh hi hf ?_ hrest))
  exact hq (hp.objs.size + 1) hp.objs.size _ ((F.push _).push _) N2 (fun p q => Heap.lt_size (N p q).1) (Nat.lt_succ_self _)
end
end
section
open PySem PySem.W PySem.Calls PyProof.Rows
set_option maxRecDepth 100000
set_option maxHeartbeats 400000

theorem dict_mapFields (o : Obj) (f) : (o.mapFields f).dict = o.dict := by
  obtain ⟨c, d, dt, sl⟩ := o; cases dt <;> rfl

/-- an exception's record: its class, its own dict; its place of a trace is empty (`none`) or bears a record whose mark is `v` (`some v`) -/
def Rec (base h : Heap) (e C : Addr) (dct : Option Addr) (fl : Option Value) : Prop :=
  ∃ oe vs, h.get? e = some oe ∧ oe.cls = .ref C ∧ oe.dict = dct ∧ oe.data = .fields vs ∧ 1 < vs.size ∧
    match fl with
    | none => vs[1]? = some .none
    | some v => ∃ T oT ts, vs[1]? = some (.ref T) ∧ base.get? T = none ∧ T ≠ e ∧ h.get? T = some oT ∧ oT.data = .fields ts ∧ ts[3]? = some v

structure Fly (base : Heap) (l : List Env) (e C : Addr) (dct : Option Addr) (fl : Option Value) (h : Heap) : Prop where
  stays : base.StaysIn h
  fresh : base.get? e = none
  frames : h.FunFrames base l
  hasRec : Rec base h e C dct fl

section
variable {M : Model} {A : Around} {E : Value → Shared → Prop} {s : Shared} {base : Heap} {env : Env} {outer l : List Env} {L e C : Addr} {dct : Option Addr}

theorem not_rec {h : Heap} {e b : Addr} {oe o : Obj} {vs : Array Value} (he : h.get? e = some oe) (hd : oe.data = .fields vs) (hb : h.get? b = some o) (hn : ∀ ws, o.data ≠ .fields ws) : b ≠ e := fun q => by
  subst q; rw [he] at hb; cases hb; exact hn vs hd

theorem fly_entry {oe : Obj} {vs : Array Value} {head : Value} {hadNext : Bool} {Q : Unit → Shared → Prop} (hfr : A.frames = some (env :: outer)) (hf : env.frame = some L)
    (st : base.StaysIn s.heap) (fresh : base.get? e = none) (fr : s.heap.FunFrames base (env :: outer)) (he : s.heap.get? e = some oe) (hc : oe.cls = .ref C) (hdi : oe.dict = dct) (hd : oe.data = .fields vs) (hsz : 1 < vs.size)
    (h : ∀ h', Fly base (env :: outer) e C dct (some (rawInt L)) h' → s.heap.UpToSlots h' → Q () { s with heap := h' }) :
    wpAny M A (do let a ← frameOf env; let pl ← entryPlaceOf L hadNext; let b ← EntryCells.newEntry head a .none (rawInt L) .none pl; setField (.ref e) 1 b) Q E s := by
  refine wpAny_bind (wpAny_frameOf_fun hfr fr hf fun h₁ sl => wpAny_bind (wpAny_entryPlaceOf fun pl hpl => ?_))
  unfold EntryCells.newEntry newFields
  refine wpAny_bind (wpAny_newObj_type ?_ (hpl.sizeOk5 _ _ _ _ _))
  have off : e ∉ (env :: outer).filterMap (·.frame) := fun hm => by
    obtain ⟨_, o, ho, hn⟩ := fr.mem hm
    exact not_rec he hd ho hn rfl
  have he₁ : h₁.get? e = some oe := (sl.2.1 e off).trans he
  have st₁ : base.StaysIn h₁ := fun b o hb => (sl.2.1 b fun hm => by rw [(fr.mem hm).1] at hb; cases hb).trans (st b o hb)
  generalize hO : ({ cls := .type "traceback", dict := none, data := .fields ([head, .ref L, .none, rawInt L, .none] ++ (if pl.isEmpty then List.replicate 6 Value.none else pl)).toArray } : Obj) = O
  have hOd : O.data = .fields ([head, .ref L, .none, rawInt L, .none] ++ (if pl.isEmpty then List.replicate 6 Value.none else pl)).toArray := by rw [← hO]
  have hOf : O.isFreed = false := Obj.isFreed_of_fields hOd
  refine wpAny_setField (Heap.get?_push_of_some O he₁) hd hsz ?_
  have hTe : h₁.objs.size ≠ e := Nat.ne_of_gt (Heap.lt_size he₁)
  have old : ∀ b o, b ≠ e → h₁.get? b = some o → ((h₁.push O).update e (Obj.mapFields (·.setIfInBounds 1 (Value.ref h₁.objs.size)))).get? b = some o := fun b o hbe hb => by
    rw [Heap.get?_update_other _ _ (Ne.symm hbe)]
    exact Heap.get?_push_of_some _ hb
  have step : ∀ b o, s.heap.get? b = some o → (∀ ws, o.data ≠ .fields ws) → ∃ sl', ((h₁.push O).update e (Obj.mapFields (·.setIfInBounds 1 (Value.ref h₁.objs.size)))).get? b = some { o with slots := sl' } := fun b o hb hn => by
    obtain ⟨sl', q⟩ := sl.2.2 b o hb
    exact ⟨sl', old b _ (not_rec he hd hb hn) q⟩
  refine h _ ⟨fun b o hb => old b o (fun q => by rw [q, fresh] at hb; cases hb) (st₁ b o hb), fresh, fr.of_keeps fun b o hb hn => ?_, ?_⟩ step
  · obtain ⟨sl', q⟩ := step b o hb hn
    exact ⟨_, q, rfl⟩
  · have hd' := Obj.data_mapFields hd (·.setIfInBounds 1 (Value.ref h₁.objs.size))
    refine ⟨_, _, Heap.get?_update_self _ (Heap.get?_push_of_some O he₁) (Obj.isFreed_of_fields hd'), (Obj.cls_mapFields _ _).trans hc, (dict_mapFields _ _).trans hdi, hd', by simpa using hsz,
      h₁.objs.size, O, _, by simp [hsz], ?_, hTe, ?_, hOd, by simp⟩
    · cases q : base.get? h₁.objs.size with
      | none => rfl
      | some o => exact absurd (Heap.lt_size (st₁ _ _ q)) (Nat.lt_irrefl _)
    · rw [Heap.get?_update_other _ _ (Ne.symm hTe)]
      exact Heap.get?_push_size h₁ hOf

theorem fly_note {fl : Option Value} {Q : Unit → Shared → Prop} (hfr : A.frames = some (env :: outer)) (hf : env.frame = some L) (hfl : fl = none ∨ fl = some .none) (Y : Fly base (env :: outer) e C dct fl s.heap)
    (h : ∀ h', Fly base (env :: outer) e C dct (some (rawInt L)) h' → s.heap.UpToSlots h' → Q () { s with heap := h' }) : wpAny M A (noteFrame (.ref e) env) Q E s := by
  obtain ⟨st, fresh, fr, oe, vs, he, hc, hdi, hd, hsz, hT⟩ := Y
  unfold noteFrame
  simp only [hf]
  rcases hfl with rfl | rfl
  · refine wpAny_bind (wpAny_field he hd hT ?_)
    rw [if_neg (by decide)]
    exact fly_entry hfr hf st fresh fr he hc hdi hd hsz h
  · obtain ⟨T, oT, ts, h1, nT, hTe, gT, dT, h3⟩ := hT
    refine wpAny_bind (wpAny_field he hd h1 ?_)
    rw [if_pos (show (Value.ref T != Value.none) = true from by simp)]
    refine wpAny_bind (wpAny_field gT dT h3 ?_)
    rw [if_neg (show ¬ ((Value.none == rawInt L) = true) from by simp [rawInt])]
    refine wpAny_bind (wpAny_setField gT dT (Array.getElem?_eq_some_iff.mp h3).1 ?_)
    have other : ∀ b, b ≠ T → (s.heap.update T (Obj.mapFields (·.setIfInBounds 3 Value.none))).get? b = s.heap.get? b := fun b hb => Heap.get?_update_other _ _ (Ne.symm hb)
    have keep : ∀ b o, s.heap.get? b = some o → (∀ ws, o.data ≠ .fields ws) → (s.heap.update T (Obj.mapFields (·.setIfInBounds 3 Value.none))).get? b = some o := fun b o hb hn => (other b (not_rec gT dT hb hn)).trans hb
    refine fly_entry (s := { s with heap := s.heap.update T (Obj.mapFields (·.setIfInBounds 3 Value.none)) }) hfr hf (fun b o hb => (other b fun q => by rw [q, nT] at hb; cases hb).trans (st b o hb)) fresh
      (fr.of_keeps fun b o hb hn => ⟨o, keep b o hb hn, rfl⟩) ((other e (Ne.symm hTe)).trans he) hc hdi hd hsz fun h' Y' U => h h' Y' fun b o hb hn => U b o (keep b o hb hn) hn

theorem fly_again {Q : Unit → Shared → Prop} (hf : env.frame = some L) (Y : Fly base l e C dct (some (rawInt L)) s.heap) (h : Q () s) : wpAny M A (noteFrame (.ref e) env) Q E s := by
  obtain ⟨st, fresh, fr, oe, vs, he, hc, hdi, hd, hsz, T, oT, ts, h1, nT, hTe, gT, dT, h3⟩ := Y
  unfold noteFrame
  simp only [hf]
  refine wpAny_bind (wpAny_field he hd h1 ?_)
  rw [if_pos (show (Value.ref T != Value.none) = true from by simp)]
  refine wpAny_bind (wpAny_field gT dT h3 ?_)
  rw [if_pos (show (rawInt L == rawInt L) = true from by simp)]
  exact wpAny_pure h

theorem fly_flight {v : Value} {Q : Unit → Shared → Prop} (Y : Fly base l e C dct (some v) s.heap) (h : ∀ h', Fly base l e C dct (some .none) h' → s.heap.UpToSlots h' → Q () { s with heap := h' }) :
    wpAny M A (setFlight (.ref e) none) Q E s := by
  obtain ⟨st, fresh, fr, oe, vs, he, hc, hdi, hd, hsz, T, oT, ts, h1, nT, hTe, gT, dT, h3⟩ := Y
  unfold setFlight
  refine wpAny_bind (wpAny_field he hd h1 ?_)
  rw [if_pos (show (Value.ref T != Value.none) = true from by simp)]
  have h3' := (Array.getElem?_eq_some_iff.mp h3).1
  refine wpAny_setField gT dT h3' ?_
  have other : ∀ b, b ≠ T → (s.heap.update T (Obj.mapFields (·.setIfInBounds 3 ((none : Option Addr).elim Value.none fun f => rawInt f)))).get? b = s.heap.get? b := fun b hb => Heap.get?_update_other _ _ (Ne.symm hb)
  have keep : ∀ b o, s.heap.get? b = some o → (∀ ws, o.data ≠ .fields ws) → (s.heap.update T (Obj.mapFields (·.setIfInBounds 3 ((none : Option Addr).elim Value.none fun f => rawInt f)))).get? b = some o := fun b o hb hn => (other b (not_rec gT dT hb hn)).trans hb
  refine h _ ⟨fun b o hb => (other b fun q => by rw [q, nT] at hb; cases hb).trans (st b o hb), fresh, fr.of_keeps fun b o hb hn => ⟨o, keep b o hb hn, rfl⟩,
    oe, vs, (other e (Ne.symm hTe)).trans he, hc, hdi, hd, hsz, T, _, _, h1, nT, hTe, Heap.get?_update_self _ gT (Obj.isFreed_of_fields (Obj.data_mapFields dT _)), Obj.data_mapFields dT _, by simp [h3']⟩ fun b o hb hn => ⟨o.slots, keep b o hb hn⟩

theorem fly_leave {fl : Option Value} {Q : Unit → Shared → Prop} (hfr : A.frames = some (env :: outer)) (hf : env.frame = some L) (hfl : fl = none ∨ fl = some .none) (Y : Fly base (env :: outer) e C dct fl s.heap)
    (h : ∀ h', Fly base outer e C dct (some .none) h' → s.heap.UpToSlots h' → Q () { s with heap := h' }) : wpAny M A (leaving env (.ref e)) Q E s := by
  unfold leaving
  refine wpAny_bind (fly_note hfr hf hfl Y fun h₁ Y₁ U₁ => fly_flight (s := { s with heap := h₁ }) Y₁ fun h₂ Y₂ U₂ => h h₂ ⟨Y₂.stays, Y₂.fresh, Y₂.frames.2.2, Y₂.hasRec⟩ (U₁.trans U₂))
end
end
section
open PySem PySem.W PySem.Calls PyProof.Rows
set_option maxRecDepth 100000
set_option maxHeartbeats 400000

def RaisedD (base G : Heap) (l : List Env) (e C dx : Addr) (od : Obj) (h : Heap) : Prop :=
  ∃ B, base.StaysIn B ∧ (B.get? dx = some od ∧ base.get? dx = none) ∧ (∀ b o, G.get? b = some o → b ∉ l.filterMap (·.frame) → B.get? b = some o) ∧ Fly B l e C (some dx) (some .none) h

section
variable {M : Model} {A : Around} {E : Value → Shared → Prop} {s' : Shared} {base g g₂ h : Heap} {outer : List Env} {L a e t C dx : Addr} {m : Str → Option Value} {name : Str} {scope : Scope} {cd : Value} {Q : Unit → Shared → Prop} {rest : List (Addr × Obj)} {od : Obj}

theorem leave_raiseD (K : Below A base outer g) (F : Fr g L s'.heap m) (N : News g L s'.heap ((e, excO C t (some dx)) :: (dx, od) :: rest)) (hne : e ≠ dx)
    (hQ : ∀ h', RaisedD base g outer e C dx od h' → g.UpToSlots h' → Q () { s' with heap := h' }) (hk : scope.kind = .function := by rfl) :
    wpAny M (A.deeper (envOf name scope L a cd)) (leaving (envOf name scope L a cd) (.ref e)) Q E s' := by
  have K' := K.push (name := name) (a := a) (cd := cd) F hk
  have he := N _ (.head _)
  have hd := N _ (.tail _ (.head _))
  have be : base.get? e = none := fresh_of_stays K.stays he.2.2
  have bd : base.get? dx = none := fresh_of_stays K.stays hd.2.2
  have offf : ∀ b, g.get? b = none → b ≠ L → b ∉ (envOf name scope L a cd :: outer).filterMap (·.frame) := fun b hb hL hm => by
    obtain ⟨env, hi, hf⟩ := List.mem_filterMap.mp hm
    rcases List.mem_cons.mp hi with rfl | hi
    · exact hL (Option.some.inj hf).symm
    · obtain ⟨o, ho, _⟩ := (K.frames.mem (List.mem_filterMap.mpr ⟨env, hi, hf⟩)).2
      rw [hb] at ho; cases ho
  have hB : ∀ b o, s'.heap.get? b = some o → b ∉ (envOf name scope L a cd :: outer).filterMap (·.frame) → b ≠ e → (hideAll s'.heap (e :: (envOf name scope L a cd :: outer).filterMap (·.frame))).get? b = some o := fun b o q hm hbe =>
    hideAll_get _ q fun x => (List.mem_cons.mp x).elim hbe hm
  have st : base.StaysIn (hideAll s'.heap (e :: (envOf name scope L a cd :: outer).filterMap (·.frame))) := fun b o q => hB b o (K'.stays b o q) (fun hm => by rw [(K'.frames.mem hm).1] at q; cases q) fun x => by rw [x, be] at q; cases q
  have Y : Fly (hideAll s'.heap (e :: (envOf name scope L a cd :: outer).filterMap (·.frame))) (envOf name scope L a cd :: outer) e C (some dx) none s'.heap :=
    ⟨fun b o q => of_hideAll _ q, hideAll_none _ (.head _), funFrames_hide K'.frames fun env hi b hb => .tail _ (List.mem_filterMap.mpr ⟨env, hi, hb⟩), _, _, he.1, rfl, rfl, rfl, by simp, rfl⟩
  refine fly_leave K'.stack rfl (.inl rfl) Y fun h' Y' U => hQ h' ⟨_, st, ⟨hB dx od hd.1 (offf dx hd.2.2 hd.2.1) (Ne.symm hne), bd⟩, fun b o q hm => ?_, Y'⟩ ((Heap.UpToSlots.of_keeps F.keep).trans U)
  refine hB b o (F.keep b o q) (fun x => ?_) fun x => by rw [x, he.2.2] at q; cases q
  obtain ⟨env, hi, hf⟩ := List.mem_filterMap.mp x
  rcases List.mem_cons.mp hi with rfl | hi
  · have := Option.some.inj hf
    subst this
    exact absurd (Nat.lt_of_lt_of_le (Heap.lt_size q) F.above) (Nat.lt_irrefl _)
  · exact hm (List.mem_filterMap.mpr ⟨env, hi, hf⟩)

theorem leave_onD (K : Below A base outer g) (F : Fr g L g₂ m) (R : RaisedD base g₂ (envOf name scope L a cd :: outer) e C dx od s'.heap) (hsm : g₂.UpToSlots s'.heap)
    (hQ : ∀ h', RaisedD base g outer e C dx od h' → g.UpToSlots h' → Q () { s' with heap := h' }) :
    wpAny M (A.deeper (envOf name scope L a cd)) (leaving (envOf name scope L a cd) (.ref e)) Q E s' := by
  obtain ⟨B, st, hd, hG, Y⟩ := R
  refine fly_leave (Around.frames_deeper K.stack) rfl (.inr rfl) Y fun h' Y' U => hQ h' ⟨B, st, hd, fun b o q hm => ?_, Y'⟩ ((Heap.UpToSlots.of_keeps F.keep).trans (hsm.trans U))
  refine hG b o (F.keep b o q) fun x => ?_
  obtain ⟨env, hi, hf⟩ := List.mem_filterMap.mp x
  rcases List.mem_cons.mp hi with rfl | hi
  · have := Option.some.inj hf
    subst this
    exact absurd (Nat.lt_of_lt_of_le (Heap.lt_size q) F.above) (Nat.lt_irrefl _)
  · exact hm (List.mem_filterMap.mpr ⟨env, hi, hf⟩)
end

section
variable {M : Model} {A : Around} {E : Value → Shared → Prop} {s : Shared} {env : Env}
variable {nm q : Str} {C Nn : Addr} {bs bm : List Value} {hdct : Bool} {sn : List Str} {sub : List Value} {ab : Bool} {col : Option Bool} {dd : Option Addr} {k0 k1 k2 k3 k5 : Option Value} {newId : String}

theorem raiseStmt_exc {x : Sem Value} {Q : Flow → Shared → Prop} (hbase : bm.contains (.type "BaseException") = true) (hh : A.handled = none)
    (h : wpAny M A x (fun v s₁ => ∃ e t dx, v = .ref e ∧ s₁.heap.get? C = some (excClassObj nm q C Nn bs bm hdct sn sub ab col dd k0 k1 k2 k3 k5 newId) ∧ s₁.heap.get? e = some (excO C t dx) ∧ E (.ref e) s₁) E s) :
    wpAny M A (raiseStmt env (some x) none) Q E s := by
  have hcB : (Value.ref C :: bm).contains (.type "BaseException") = true := by rw [List.contains_cons, hbase, Bool.or_true]
  unfold raiseStmt
  refine wpAny_bind (wpAny_mono h (fun v s₁ h₁ => ?_) fun _ _ x => x)
  obtain ⟨e, t, dx, rfl, hC, he, hE⟩ := h₁
  obtain ⟨hp, g, d, tk, os⟩ := s₁
  repeat (first | with_reducible refine wpAny_loadPart_at he ?_ | with_reducible refine wpAny_loadPart_at hC ?_ | (with_reducible refine wpAny_isSubtype_exc hC ?_; rw [hcB]) | wp_step)
  exact wpAny_raiseNew_none hh hE

/-- what a raised value must be; the walk's goal behind the value's evaluation -/
def RaisePost (C : Addr) (oC : Obj) (E : Value → Shared → Prop) (v : Value) (s₁ : Shared) : Prop := ∃ e t dx, v = .ref e ∧ s₁.heap.get? C = some oC ∧ s₁.heap.get? e = some (excO C t dx) ∧ E (.ref e) s₁

theorem Raise_exc {x : Expr} {pos : Pos} {Q : Flow → Shared → Prop} (hbase : bm.contains (.type "BaseException") = true) (hh : A.handled = none)
    (h : wpAny M A (eval x env) (RaisePost C (excClassObj nm q C Nn bs bm hdct sn sub ab col dd k0 k1 k2 k3 k5 newId) E) E s) : wpAny M A (exec (.Raise (some x) none pos) env) Q E s := by
  rw [arm_exec_Raise]
  refine wpAny_bind (wpAny_standAt (raiseStmt_exc (nm := nm) (q := q) (C := C) (Nn := Nn) (bs := bs) (bm := bm) (hdct := hdct) (sn := sn) (sub := sub) (ab := ab) (col := col) (dd := dd) (k0 := k0) (k1 := k1) (k2 := k2) (k3 := k3) (k5 := k5) (newId := newId) hbase hh ?_))
  exact wpAny_bind (wpAny_mono h (fun v s₁ h₁ => wpAny_bind (wpAny_standAt (wpAny_pure h₁))) fun _ _ x => x)
end
end
section
open PySem PySem.W PySem.Calls PyProof.Rows
set_option maxRecDepth 100000
set_option maxHeartbeats 400000
section
variable {prog : Program} {w : World} {A₀ : Around} {E : Value → Shared → Prop} {s' : Shared} {h₀ G h : Heap} {outer : List Env} {L a e dx : Addr} {m : Str → Option Value} {name : Str} {scope : Scope} {cd : Value}
  {n : Str} {b₀ : Stmt} {suite : List Stmt} {pos np : Pos} {rest : List ExceptHandler} {Q : Flow → Shared → Prop} {KF : Frag} {od : Obj}
  {p : Program} {loose : List Str} {mg mb : Str → Option Value} {x : Str}
variable {nm q : Str} {C Nn : Addr} {bs bm : List Value} {hdct : Bool} {sn : List Str} {sub : List Value} {ab : Bool} {col : Option Bool} {dd : Option Addr} {k0 k1 k2 k3 k5 : Option Value} {newId : String}

theorem caught_D (hfr : A₀.frames = some outer) (F : Fr h₀ L h m) (hsm : h.UpToSlots s'.heap) (R : RaisedD h₀ G (envOf name scope L a cd :: outer) e C dx od s'.heap)
    (X : KF.In h₀) (T : TopRead p loose mg mb h₀) (ex : nsIn KF mainGlobals x = some (some (.ref C))) (hC : KF.lookup C = some (excClassObj nm q C Nn bs bm hdct sn sub ab col dd k0 k1 k2 k3 k5 newId)) (hbase : bm.contains (.type "BaseException") = true)
    (k : ∀ h₆ h' tk, Fr h₀ L h' (fun y => if y = n then some (.ref e) else m y) → h.UpToSlots h₆ → Heap.SameBut L h₆ h' → (∃ vs sl, h'.get? e = some ⟨.ref C, some dx, .fields vs, sl⟩) → h'.get? dx = some od → h₀.get? e = none → h₀.get? dx = none → e ≠ L → dx ≠ L →
      (∀ b o, G.get? b = some o → b ∉ (envOf name scope L a cd :: outer).filterMap (·.frame) → h'.get? b = some o) →
      wpAny (model prog w) ((A₀.deeper (envOf name scope L a cd)).mark (some (.ref e))) (execs (b₀ :: suite) (envOf name scope L a cd))
        (fun f s₄ => wpAny (model prog w) (A₀.deeper (envOf name scope L a cd)) (do bindName (envOf name scope L a cd) n .none; unbindBehindTheSuite (envOf name scope L a cd) n pos) (fun _ s₅ => Q f s₅) E s₄)
        (AsSuiteRaised (model prog w) ((A₀.deeper (envOf name scope L a cd)).mark (some (.ref e))) (envOf name scope L a cd) n pos (notedBy (model prog w) ((A₀.deeper (envOf name scope L a cd)).mark (some (.ref e))) (envOf name scope L a cd) (cameBackBy (model prog w) (A₀.deeper (envOf name scope L a cd)) (envOf name scope L a cd) E)))
        { s' with heap := h', toks := tk })
    (hk : scope.kind = .function := by rfl) (hlo : (envOf name scope L a cd).kindOf n = some .local := by rfl) (hx : (envOf name scope L a cd).kindOf x = some .globalImplicit := by rfl) (hdb : (x == ("__debug__" : Str)) = false := by decide) :
    wpAny (model prog w) (A₀.deeper (envOf name scope L a cd)) (noteFrame (.ref e) (envOf name scope L a cd))
      (fun _ s₂ => wpAny (model prog w) (A₀.deeper (envOf name scope L a cd)) (setFlight (.ref e) none) (fun _ s₃ =>
        wpAny (model prog w) (A₀.deeper (envOf name scope L a cd)) (handleBy (.ref e) (envOf name scope L a cd) (.ExceptHandler (some (.Name x np)) (some n) (b₀ :: suite) pos :: rest)) Q E s₃) E s₂) E s' := by
  obtain ⟨B, st, ⟨hdB, hdb0⟩, hG, Y⟩ := R
  have hLB : B.get? L = none := by
    obtain ⟨_, ⟨L', _, hf, hn', _⟩, _⟩ := Y.frames
    obtain rfl : L = L' := Option.some.inj hf
    exact hn'
  refine fly_note (Around.frames_deeper hfr) rfl (.inr rfl) Y fun h₄ Y₄ U₄ => ?_
  refine fly_flight (s := { s' with heap := h₄ }) Y₄ fun h₅ Y₅ U₅ => ?_
  have U05 := hsm.trans (U₄.trans U₅)
  have st5 : h₀.StaysIn h₅ := fun b o z => Y₅.stays b o (st b o z)
  have F₅ : Fr h₀ L h₅ m := F.of_stays st5 U05
  obtain ⟨oe, vs, he, hc, hdi, hd, hsz, hT⟩ := id Y₅.hasRec
  refine wpAny_handleBy_cons (codeAny_handlers_test (name_K F₅ X T ex ?_ hk hx hdb)) (by intro q; cases q)
  refine wpAny_excMatches_sub_self (st5 _ _ (X _ _ hC)) he hc hbase (codeAny_handlers_suite_as ?_)
  refine fly_flight (s := { s' with heap := h₅ }) Y₅ fun h₆ Y₆ U₆ => ?_
  have U06 := U05.trans U₆
  have st6 : h₀.StaysIn h₆ := fun b o z => Y₆.stays b o (st b o z)
  have F₆ : Fr h₀ L h₆ m := F.of_stays st6 U06
  refine wpAny_storeName_local hlo F₆.ns (fun h₇ hn hs => ?_) (by show (scope.kind == .class || (scope.kind == .module && L != mainGlobals)) = false; rw [hk]; rfl)
  have F₇ := F₆.set hn hs
  obtain ⟨oe, vs, he, hc, hdi, hd, hsz, hT⟩ := id Y₆.hasRec
  have heL : e ≠ L := fun z => by
    obtain ⟨oL, es, ep, hL, hLd, _⟩ := F₆.ns
    rw [← z, he] at hL
    cases hL
    rw [hd] at hLd; cases hLd
  have hdL : dx ≠ L := fun z => by rw [z, hLB] at hdB; cases hdB
  refine k h₆ h₇ _ F₇ U06 hs ?_ ((hs.2 dx hdL).trans (Y₆.stays _ _ hdB)) ?_ hdb0 heL hdL fun b o z hm => ?_
  · obtain ⟨oc, odi, oda, osl⟩ := oe
    dsimp only at hc hdi hd
    subst hc hdi hd
    exact ⟨vs, osl, (hs.2 e heL).trans he⟩
  · exact fresh_of_stays st Y₆.fresh
  · have hBb := hG b o z hm
    have hbL : b ≠ L := fun z' => by rw [z', hLB] at hBb; cases hBb
    exact (hs.2 b hbL).trans (Y₆.stays _ _ hBb)
end
end
section
open PySem PySem.W PyProof.Rows
theorem idx_clip (i j : Int) (n : Nat) (hi : 0 ≤ i) (hij : i ≤ j) : Builtin.Str.strSliceIndices (some i) (some j) 1 n = Builtin.Str.strSliceIndices (some (min i n)) (some (min j n)) 1 n := by
  unfold Builtin.Str.strSliceIndices
  have h1 : ¬ i < 0 := by omega
  have h2 : ¬ j < 0 := by omega
  have h3 : ¬ min i (n : Int) < 0 := by omega
  have h4 : ¬ min j (n : Int) < 0 := by omega
  simp only [h1, h2, h3, h4, if_false, show (1 : Int) > 0 by decide, if_true]
  congr 1 <;> omega
theorem slice_list (x : Str) (i j : Int) (hi : 0 ≤ i) (hij : i ≤ j) : (Txt.slice x (some i) (some j)).cps.toList = (x.cps.toList.drop i.toNat).take (j - i).toNat := by
  have e : Txt.slice x (some i) (some j) = Txt.slice x (some (min i x.length)) (some (min j x.length)) := by
    unfold Txt.slice
    rw [idx_clip i j x.length hi hij]
  have hl : x.cps.toList.length = x.length := by simp [Str.length]
  rw [e]
  have h2 : Txt.slice x (some (min i x.length)) (some (min j x.length)) = ⟨((x.cps.toList.drop (min i x.length).toNat).take (min j x.length - min i x.length).toNat).toArray⟩ :=
    StrLaws.sliceText_plain (x := x) (i := min i x.length) (j := min j x.length) ⟨by omega, by omega, by rw [hl]; omega⟩
  rw [h2]
  show (x.cps.toList.drop (min i x.length).toNat).take (min j x.length - min i x.length).toNat = _
  apply List.ext_getElem?
  intro k
  simp only [List.getElem?_take, List.getElem?_drop]
  by_cases hk : i.toNat + k < x.cps.toList.length
  · have e1 : (min i (x.length : Int)).toNat = i.toNat := by omega
    rw [e1]
    by_cases h5 : k < (j - i).toNat
    · rw [if_pos h5, if_pos (by omega)]
    · rw [if_neg h5, if_neg (by omega)]
  · have h6 : x.cps.toList[i.toNat + k]? = none := List.getElem?_eq_none (by omega)
    rw [h6, ite_self]
    split
    · exact List.getElem?_eq_none (by omega)
    · rfl

def charS (src : Str) (i : Int) : Str := Txt.slice src (some i) (some (i + 1))
def pairS (src : Str) (i : Int) : Str := Txt.slice src (some i) (some (i + 2))
theorem charS_list (src : Str) {i : Int} (h : 0 ≤ i) : (charS src i).cps.toList = (src.cps.toList.drop i.toNat).take 1 := by
  unfold charS
  rw [slice_list src i (i + 1) h (by omega), show (i + 1 - i).toNat = 1 by omega]
theorem str_len (x : Str) : x.cps.toList.length = x.length := by simp [Str.length]
theorem str_ext {x y : Str} (h : x.cps.toList = y.cps.toList) : x = y := by
  obtain ⟨⟨a⟩⟩ := x; obtain ⟨⟨b⟩⟩ := y
  simp only at h
  rw [h]
theorem charS_out (src : Str) {i : Int} (h : 0 ≤ i) (hi : src.length ≤ i) : charS src i = "" := by
  apply str_ext
  rw [charS_list src h, List.drop_eq_nil_of_le (by rw [str_len]; omega)]
  rfl
theorem charS_in (src : Str) {i : Int} (h : 0 ≤ i) (hne : charS src i ≠ "") : i < src.length := by
  apply Decidable.byContradiction
  intro hn
  exact hne (charS_out src h (by omega))
theorem charS_len (src : Str) {i : Int} (h : 0 ≤ i) : (charS src i).length ≤ 1 := by
  rw [← str_len, charS_list src h, List.length_take]
  omega

theorem slice_len (src : Str) {i j : Int} (h : 0 ≤ i) (hj : i ≤ j) : ((Txt.slice src (some i) (some j)).length : Int) ≤ j - i := by
  rw [← str_len, slice_list src i j h hj, List.length_take]
  omega
theorem pairS_len (src : Str) {i : Int} (h : 0 ≤ i) : (pairS src i).length ≤ 2 := by
  have := slice_len src (i := i) (j := i + 2) h (by omega)
  show (Txt.slice src (some i) (some (i + 2))).length ≤ 2
  omega
def CS : List Nat := [97, 98, 99, 104, 120, 95, 49, 50, 39, 59, 32, 9, 10]
def UnderX (l : List Nat) : Prop := ∀ i, l[i]? = some 95 → ∃ j, i = j + 1 ∧ l[j]? = some 120
def Good (src : Str) : Prop := (∀ c ∈ src.cps.toList, c ∈ CS) ∧ src.length ≤ 48 ∧ UnderX src.cps.toList
theorem Good.len {src : Str} (G : Good src) : src.length ≤ 48 := G.2.1
theorem slice_mem (src : Str) {i j : Int} (h : 0 ≤ i) (hj : i ≤ j) {c : Nat} (hc : c ∈ (Txt.slice src (some i) (some j)).cps.toList) : c ∈ src.cps.toList := by
  rw [slice_list src i j h hj] at hc
  exact List.mem_of_mem_drop (List.mem_of_mem_take hc)
theorem slice_ne {src : Str} (G : Good src) {i j : Int} (h : 0 ≤ i) (hj : i ≤ j) (lit : Str) (hb : lit.cps.toList.any (fun c => !CS.contains c) = true) : Txt.slice src (some i) (some j) ≠ lit := by
  intro e
  obtain ⟨c, hc, hn⟩ := List.any_eq_true.mp hb
  have := G.1 c (slice_mem src h hj (by rw [e]; exact hc))
  simp at hn
  exact hn this
theorem char_ne {src : Str} (G : Good src) {i : Int} (h : 0 ≤ i) (lit : Str) (hb : lit.cps.toList.any (fun c => !CS.contains c) = true) : charS src i ≠ lit := slice_ne G h (by omega) lit hb
theorem pair_ne {src : Str} (G : Good src) {i : Int} (h : 0 ≤ i) (lit : Str) (hb : lit.cps.toList.any (fun c => !CS.contains c) = true) : pairS src i ≠ lit := slice_ne G h (by omega) lit hb
end
section
open PySem PySem.W PyProof.Rows
set_option maxRecDepth 100000
set_option maxHeartbeats 8000000
noncomputable abbrev KHw (w : World) : Frag := KH w.params
end
section
open PySem PySem.W PyProof.Rows
set_option maxRecDepth 100000
set_option maxHeartbeats 8000000
theorem rs_nil (lk : Look) : noRoadLSs lk [] = true := by kernel_rfl
theorem rs_cons (lk : Look) (s : Stmt) (r : List Stmt) : noRoadLSs lk (s :: r) = (noRoadLS lk s && noRoadLSs lk r) := by kernel_rfl
theorem road_cut {lk : Look} : ∀ {l : List Stmt} (n : Nat), noRoadLSs lk (l.take n) = true → noRoadLSs lk (l.drop n) = true → noRoadLSs lk l = true
  | l, 0, _, h => h
  | [], n + 1, _, _ => rs_nil lk
  | s :: r, n + 1, h1, h2 => by
    rw [List.take_succ_cons, rs_cons] at h1
    rw [List.drop_succ_cons] at h2
    obtain ⟨a, b⟩ := Bool.and_eq_true_iff.mp h1
    rw [rs_cons]
    exact Bool.and_eq_true_iff.mpr ⟨a, road_cut n b h2⟩
/-- the look at a str, over its code points -/
def strOkL (lk : Look) (l : List Nat) : Bool := lk.word ⟨l.toArray⟩ && !(l.any (fun c => c == 123 || c == 125) || l.any (· == 46))
theorem strOk_of {lk : Look} {l : List Nat} (h : strOkL lk l = true) : lk.str ⟨l.toArray⟩ = true := by
  obtain ⟨h1, h2⟩ := Bool.and_eq_true_iff.mp h
  rw [Bool.not_eq_true', Bool.or_eq_false_iff] at h2
  have e : roadStr ⟨l.toArray⟩ = false := by
    unfold roadStr
    rw [List.any_toArray, List.any_toArray, h2.1, h2.2]
    rfl
  unfold Look.str
  rw [h1, e, Bool.or_true]
  rfl
theorem strFn_is (lk : Look) (n : Str) (x : Str) (k : Nat) (p q : Pos) (a : Scope) (b : Option Scope) (c : Str) (d : Pos) : noRoadLSs lk [.FunctionDef n ⟨[], [], none, [], [], none, []⟩ [.Return (some (.Constant (.str x) k p)) q] [] none [] a b c d] =
    (((((true && ((true && lk.inDef.str x) && true)) && true) && true) && true) && true) := by kernel_rfl
theorem strFn_roads {lk : Look} {l : List Stmt} {cs : List Char} {n : Str} {k : Nat} {p q : Pos} {a : Scope} {b : Option Scope} {c : Str} {d : Pos} (h : l = [.FunctionDef n ⟨[], [], none, [], [], none, []⟩ [.Return (some (.Constant (.str (Str.ofString (String.ofList cs))) k p)) q] [] none [] a b c d])
    (hx : strOkL lk.inDef (cs.map Char.toNat) = true) : noRoadLSs lk l = true := by
  rw [h, strFn_is, PySem.W.Fast.ofString_ofList, strOk_of hx]; rfl
theorem road_cfg {st : Bool} {bare : List Str} {l : List Stmt} (h1 : st = false) (h2 : bare = []) (h : noRoadLSs { strict := false, foot := none, bare := [] } l = true) : noRoadLSs { strict := st, foot := none, bare := bare } l = true := by
  subst h1; subst h2; exact h
theorem filter_none {f : Str → Bool} {l : List Str} (h : (l.all fun x => !f x) = true) : l.filter f = [] := by
  rw [List.filter_eq_nil_iff]
  intro x hx e
  have := List.all_eq_true.mp h x hx
  rw [e] at this
  cases this
theorem road0 : noRoadLSs { strict := false, foot := none, bare := [] } (PySem.Challenge.rw_pq0460_01.row.prog.main.body.take 10) = true := by kernel_rfl
theorem road1 : noRoadLSs { strict := false, foot := none, bare := [] } ((PySem.Challenge.rw_pq0460_01.row.prog.main.body.drop 10).take 1) = true :=
  strFn_roads (by rfl) (by kernel_rfl)
theorem road2 : noRoadLSs { strict := false, foot := none, bare := [] } ((PySem.Challenge.rw_pq0460_01.row.prog.main.body.drop 10).drop 1) = true := by kernel_rfl
theorem bare0 : ((["vars", "dir", "locals"] : List Str).all fun x => !readsOut PySem.Challenge.rw_pq0460_01.row.prog PySem.Challenge.rw_pq0460_01.row.prog.main.body x) = true := by kernel_rfl
theorem strict0 : (!(importedModules PySem.Challenge.rw_pq0460_01.row.prog.main.body).all cThrough.contains) = false := by kernel_rfl
theorem road : noRoadLSs { strict := !(importedModules PySem.Challenge.rw_pq0460_01.row.prog.main.body).all cThrough.contains, foot := none, bare := (["vars", "dir", "locals"] : List Str).filter (readsOut PySem.Challenge.rw_pq0460_01.row.prog PySem.Challenge.rw_pq0460_01.row.prog.main.body) } PySem.Challenge.rw_pq0460_01.row.prog.main.body = true :=
  road_cfg strict0 (filter_none bare0) (road_cut 10 road0 (road_cut 1 road1 road2))
theorem said : PySem.Challenge.rw_pq0460_01.wellSaid = true := by
  unfold OpenLaw.wellSaid OpenRow.wellSaid OpenRow.partSaid looksOpen
  repeat' (with_reducible refine look_both ?_ ?_)
  all_goals first | with_reducible exact road | kernel_rfl
end
section
open PySem PySem.W PyProof.Rows
local macro_rules | `(tactic| walk_at "@8") => `(tactic| (k_asm; k_asm; k_asm; k_asm; k_asm; (first | exact rfl | assumption); ktr_room; ktr_units))
section
open PySem PySem.W PyProof.Rows
set_option maxRecDepth 100000
set_option maxHeartbeats 8000000
def leS (a b : Str) : Bool := !decide (b.cps.toList < a.cps.toList)
def isDigitB (x : Str) : Bool := leS "0" x && leS x "9"
def isLetterB (x : Str) : Bool := (leS "a" x && leS x "z") || (leS "A" x && leS x "Z")
def isWordB (x : Str) : Bool := isLetterB x || isDigitB x || x == ("_" : Str)
def isLayoutB (x : Str) : Bool := x != ("" : Str) && !(Builtin.Str.occurrences " \t\n\r\x0c\x0b" x 0 (" \t\n\r\x0c\x0b" : Str).length 1).isEmpty
abbrev lexDict (w : World) (k1 k2 k3 k4 : Tok) (src : Str) (ts : Tok) (p : Int) (tp : Tok) (kd : Addr) : Obj :=
  dictOf [⟨PyData.keyHash w.params "text", .str "text" k1, .str src ts⟩, ⟨PyData.keyHash w.params "at", .str "at" k2, .int p tp⟩,
    ⟨PyData.keyHash w.params "parted", .str "parted" k3, .bool false⟩, ⟨PyData.keyHash w.params "keys", .str "keys" k4, .ref kd⟩] 4
section
variable {w : World} {mean : ExcName → Option Value} {mg mb : Str → Option Value} {dp un : Nat} {gd : Option (List Code)} {cn : Str} {cs : Scope} {a : Addr} {ccd : Value} {cl : List (Str × Addr)} {outer : List Env} {A₀ : Around} {base h₀ : Heap} {L : Addr} {m : Str → Option Value} {news : List (Addr × Obj)} {s : Shared} {Q E : Value → Shared → Prop}
theorem is_digit_c {x : Str} {t : Tok} (B : Below A₀ base outer h₀) (F : Fr h₀ L s.heap m) (X : (KH w.params).In h₀) (N : News h₀ L s.heap news) (T : Top VW (looseW VW [Str.ofString "GateloomError"]) mean mg mb h₀) (hk : cs.kind = .function) (hdp : dp + 1 < recursionLimit) (hun : un + 8 < cLine)
    (ret : ∀ h' tk', Fr h₀ L h' m → News h₀ L h' news → Q (.bool (isDigitB x)) {s with heap := h', toks := tk'}) :
    wpAny (model PySem.Challenge.rw_pq0460_01.row.prog w) (ktrTop dp un gd cn cs L a ccd cl outer) (call (.ref 158) [.str x t]) Q E s := by
  revert X; k_fill; intro X
  refine wpAny_call ?_
  k_dflt cell_enter
  k_steps
  all_goals (refine' cb_retB (Q := Q) (s := s) (fun _ => ret) ?e1 ?e2 ?e3; (case e2 => k_asm); (case e3 => k_asm); (case e1 => (simp only [isDigitB, leS]; simp only [*, decide_true, decide_false, not_false_eq_true, Bool.not_true, Bool.not_false, Bool.true_and, Bool.false_and, Bool.and_true, Bool.and_false, Bool.or_true, Bool.true_or, Bool.or_false, Bool.false_or])))
theorem is_letter_c {x : Str} {t : Tok} (B : Below A₀ base outer h₀) (F : Fr h₀ L s.heap m) (X : (KH w.params).In h₀) (N : News h₀ L s.heap news) (T : Top VW (looseW VW [Str.ofString "GateloomError"]) mean mg mb h₀) (hk : cs.kind = .function) (hdp : dp + 1 < recursionLimit) (hun : un + 8 < cLine)
    (ret : ∀ h' tk', Fr h₀ L h' m → News h₀ L h' news → Q (.bool (isLetterB x)) {s with heap := h', toks := tk'}) :
    wpAny (model PySem.Challenge.rw_pq0460_01.row.prog w) (ktrTop dp un gd cn cs L a ccd cl outer) (call (.ref 151) [.str x t]) Q E s := by
  revert X; k_fill; intro X
  refine wpAny_call ?_
  k_dflt cell_enter
  k_steps
  all_goals (refine' cb_retB (Q := Q) (s := s) (fun _ => ret) ?e1 ?e2 ?e3; (case e2 => k_asm); (case e3 => k_asm); (case e1 => (simp only [isLetterB, leS]; simp only [*, decide_true, decide_false, not_false_eq_true, Bool.not_true, Bool.not_false, Bool.true_and, Bool.false_and, Bool.and_true, Bool.and_false, Bool.or_true, Bool.true_or, Bool.or_false, Bool.false_or])))
theorem is_layout_c {x : Str} {t : Tok} (B : Below A₀ base outer h₀) (F : Fr h₀ L s.heap m) (X : (KH w.params).In h₀) (N : News h₀ L s.heap news) (T : Top VW (looseW VW [Str.ofString "GateloomError"]) mean mg mb h₀) (hk : cs.kind = .function) (hdp : dp + 1 < recursionLimit) (hun : un + 8 < cLine)
    (ret : ∀ h' tk', Fr h₀ L h' m → News h₀ L h' news → Q (.bool (isLayoutB x)) {s with heap := h', toks := tk'}) :
    wpAny (model PySem.Challenge.rw_pq0460_01.row.prog w) (ktrTop dp un gd cn cs L a ccd cl outer) (call (.ref 172) [.str x t]) Q E s := by
  revert X; k_fill; intro X
  refine wpAny_call ?_
  k_dflt cell_enter
  k_steps
  all_goals (refine' cb_retB (Q := Q) (s := s) (fun _ => ret) ?e1 ?e2 ?e3; (case e2 => k_asm); (case e3 => k_asm); (case e1 => (unfold isLayoutB; first | rfl | simp_all)))
end
local macro_rules | `(tactic| walk_at "call ref") => `(tactic| (k_here; (with_reducible show wpAny _ _ (call (Value.ref 158) _ _) _ _ _); k_dflt (apply is_digit_c; walk_at "@8"; k_whole); intro h' tk' F' N'; (try k_sweep)))
local macro_rules | `(tactic| walk_at "call ref") => `(tactic| (k_here; (with_reducible show wpAny _ _ (call (Value.ref 151) _ _) _ _ _); k_dflt (apply is_letter_c; walk_at "@8"; k_whole); intro h' tk' F' N'; (try k_sweep)))
section
variable {w : World} {mean : ExcName → Option Value} {mg mb : Str → Option Value} {dp un : Nat} {gd : Option (List Code)} {cn : Str} {cs : Scope} {a : Addr} {ccd : Value} {cl : List (Str × Addr)} {outer : List Env} {A₀ : Around} {base h₀ : Heap} {L : Addr} {m : Str → Option Value} {news : List (Addr × Obj)} {s : Shared} {Q E : Value → Shared → Prop}
theorem is_word_c {x : Str} {t : Tok} (B : Below A₀ base outer h₀) (F : Fr h₀ L s.heap m) (X : (KH w.params).In h₀) (N : News h₀ L s.heap news) (T : Top VW (looseW VW [Str.ofString "GateloomError"]) mean mg mb h₀) (hk : cs.kind = .function) (hdp : dp + 2 < recursionLimit) (hun : un + 16 < cLine)
    (ret : ∀ h' tk', Fr h₀ L h' m → News h₀ L h' news → Q (.bool (isWordB x)) {s with heap := h', toks := tk'}) :
    wpAny (model PySem.Challenge.rw_pq0460_01.row.prog w) (ktrTop dp un gd cn cs L a ccd cl outer) (call (.ref 165) [.str x t]) Q E s := by
  revert X; k_fill; intro X
  refine wpAny_call ?_
  k_dflt cell_enter
  k_steps
  all_goals (refine' cb_retB (Q := Q) (s := s) (fun _ => ret) ?e1 ?e2 ?e3; (case e2 => k_asm); (case e3 => k_asm); (case e1 => (unfold isWordB; first | rfl | simp_all)))
end
end
section
open PySem PySem.W PyProof.Rows
set_option maxRecDepth 100000
set_option maxHeartbeats 400000
section
variable {prog : Program} {w : World} {A : Around} {E : Value → Shared → Prop} {Q : Flow → Shared → Prop} {s : Shared} {env : Env} {h₀ : Heap} {L : Addr} {news : List (Addr × Obj)}
def LexPost (h₀ : Heap) (L : Addr) (s : Shared) (news : List (Addr × Obj)) (y : Str) (m₀ : Str → Option Value) (n : Nat) (Q : Flow → Shared → Prop) (c : Int) (f : Flow) (s₂ : Shared) : Prop :=
  match f with
  | .ret v => Q (.ret v) s₂
  | .brk => Q .next s₂
  | _ => ∃ c' t' h' tk, s₂ = { s with heap := h', toks := tk } ∧ Fr h₀ L h' (fun z => if z = y then some (.int c' t') else m₀ z) ∧ News h₀ L h' news ∧ c < c' ∧ c' ≤ n
theorem lexPost_next {y : Str} {m₀ m' : Str → Option Value} {n : Nat} {c c' : Int} {t' : Tok} {h' : Heap} {tk : Nat} (F : Fr h₀ L h' m') (N : News h₀ L h' news) (hy : m' y = some (.int c' t')) (hm : ∀ z, z ≠ y → m' z = m₀ z) (h1 : c < c') (h2 : c' ≤ n) :
    LexPost h₀ L s news y m₀ n Q c .next { s with heap := h', toks := tk } := by
  refine ⟨c', t', h', tk, rfl, ?_, N, h1, h2⟩
  have e : (fun z => if z = y then some (.int c' t') else m₀ z) = m' := by
    funext z
    by_cases hz : z = y
    · rw [if_pos hz, hz, hy]
    · rw [if_neg hz, hm z hz]
  rw [e]; exact F
theorem lex_while {test : Expr} {body : List Stmt} {pos : Pos} {m₀ : Str → Option Value} (y : Str) {n : Nat} {c₀ : Int} {t₀ : Tok}
    (F : Fr h₀ L s.heap m₀) (N : News h₀ L s.heap news) (hy : m₀ y = some (.int c₀ t₀)) (h0 : c₀ ≤ n)
    (turn : ∀ c t h tk, c₀ ≤ c → c ≤ n → Fr h₀ L h (fun z => if z = y then some (.int c t) else m₀ z) → News h₀ L h news →
      wpAny (model prog w) A (isTrue test env (eval test env)) (fun b s₂ =>
        if b = true then wpAny (model prog w) A (execs body env) (LexPost h₀ L s news y m₀ n Q c) E s₂ else Q .next s₂) E { s with heap := h, toks := tk })
    (hE : PassesOwn (model prog w) A env E) :
    wpAny (model prog w) A (exec (.While test body [] pos) env) Q E s := by
  refine While_inv2 (fun k m nx => nx = news ∧ ∃ c t, m = (fun z => if z = y then some (.int c t) else m₀ z) ∧ c₀ ≤ c ∧ c ≤ n ∧ k = (n - c).toNat) (n₀ := (n - c₀).toNat) F N ⟨rfl, c₀, t₀, ?_, Int.le_refl _, h0, rfl⟩ ?_ hE
  · funext z
    by_cases hz : z = y
    · rw [if_pos hz, hz, hy]
    · rw [if_neg hz]
  rintro k m₁ nx h tk F₁ N₁ ⟨rfl, c, t, rfl, h1, h2, rfl⟩
  refine wpAny_mono (turn c t h tk h1 h2 F₁ N₁) (fun b s₂ p => ?_) fun _ _ x => x
  cases b with
  | false => simpa using p
  | true =>
    simp only [if_true] at p ⊢
    refine wpAny_mono p (fun f s₃ q => ?_) fun _ _ x => x
    cases f with
    | ret v => exact q
    | brk => exact q
    | next =>
      obtain ⟨c', t', h', tk', rfl, F', N', h3, h4⟩ := q
      exact ⟨h', tk', _, _, (n - c').toNat, rfl, F', N', by omega, rfl, c', t', rfl, by omega, h4, rfl⟩
    | cont =>
      obtain ⟨c', t', h', tk', rfl, F', N', h3, h4⟩ := q
      exact ⟨h', tk', _, _, (n - c').toNat, rfl, F', N', by omega, rfl, c', t', rfl, by omega, h4, rfl⟩
theorem lex_whileL {x dx kd : Addr} {k1 k2 k3 k4 ts tp : Tok} {src : Str} {p : Int} {test : Expr} {body : List Stmt} {pos : Pos} {m₀ : Str → Option Value} (y : Str) {c₀ : Int} {t₀ : Tok}
    (F : Fr h₀ L s.heap m₀) (N : News h₀ L s.heap ((x, instObj 330 dx) :: (dx, lexDict w k1 k2 k3 k4 src ts p tp kd) :: news)) (hy : m₀ y = some (.int c₀ t₀)) (h0 : 0 ≤ c₀)
    (turn : ∀ c t h tk, c₀ ≤ c → c ≤ max c₀ src.length → Fr h₀ L h (fun z => if z = y then some (.int c t) else m₀ z) → News h₀ L h ((x, instObj 330 dx) :: (dx, lexDict w k1 k2 k3 k4 src ts p tp kd) :: news) →
      wpAny (model prog w) A (isTrue test env (eval test env)) (fun b s₂ =>
        if b = true then wpAny (model prog w) A (execs body env) (LexPost h₀ L s ((x, instObj 330 dx) :: (dx, lexDict w k1 k2 k3 k4 src ts p tp kd) :: news) y m₀ (max c₀ src.length).toNat Q c) E s₂ else Q .next s₂) E { s with heap := h, toks := tk })
    (hE : PassesOwn (model prog w) A env E) :
    wpAny (model prog w) A (exec (.While test body [] pos) env) Q E s := lex_while y F N hy (by omega) (fun c t h tk h1 h2 => turn c t h tk h1 (by omega)) hE
theorem layout_in {src : Str} {i : Int} (h : 0 ≤ i) (hb : isLayoutB (charS src i) = true) : i < src.length := charS_in src h fun e => by rw [e] at hb; revert hb; decide
theorem digit_in {src : Str} {i : Int} (h : 0 ≤ i) (hb : isDigitB (charS src i) = true) : i < src.length := charS_in src h fun e => by rw [e] at hb; revert hb; decide
theorem word_in {src : Str} {i : Int} (h : 0 ≤ i) (hb : isWordB (charS src i) = true) : i < src.length := charS_in src h fun e => by rw [e] at hb; revert hb; decide
theorem letter_in {src : Str} {i : Int} (h : 0 ≤ i) (hb : isLetterB (charS src i) = true) : i < src.length := charS_in src h fun e => by rw [e] at hb; revert hb; decide
theorem layout_use {src : Str} {i : Int} {P : Prop} (hb : isLayoutB (charS src i) = true) (k : (0 ≤ i → i < src.length) → P) : P := k fun h => layout_in h hb
theorem digit_use {src : Str} {i : Int} {P : Prop} (hb : isDigitB (charS src i) = true) (k : (0 ≤ i → i < src.length) → P) : P := k fun h => digit_in h hb
theorem word_use {src : Str} {i : Int} {P : Prop} (hb : isWordB (charS src i) = true) (k : (0 ≤ i → i < src.length) → P) : P := k fun h => word_in h hb
theorem letter_use {src : Str} {i : Int} {P : Prop} (hb : isLetterB (charS src i) = true) (k : (0 ≤ i → i < src.length) → P) : P := k fun h => letter_in h hb
theorem eq_use {src : Str} {i : Int} {P : Prop} {y : Str} (hb : charS src i = y) (hy : y ≠ "") (k : (0 ≤ i → i < src.length) → P) : P := k fun h => charS_in src h (by rw [hb]; exact hy)
theorem eqb_use {src : Str} {i : Int} {P : Prop} {y : Str} (hb : (charS src i == y) = true) (hy : y ≠ "") (k : (0 ≤ i → i < src.length) → P) : P := eq_use (beq_iff_eq.mp hb) hy k
end
end
section
open PySem PySem.W PyProof.Rows PyProof.V
set_option maxRecDepth 100000
set_option maxHeartbeats 400000
theorem allLt_ne {d : Addr} {l : List (Addr × Obj)} (h : AllLt d l) : ∀ p ∈ l, p.1 ≠ d := by
  induction l with
  | nil => intro p q; cases q
  | cons a r ih =>
    intro p q
    rcases List.mem_cons.mp q with e | q
    · rw [e]; exact Nat.ne_of_lt h.1
    · exact ih h.2 p q
theorem allLt_lt {d : Addr} {l : List (Addr × Obj)} (h : AllLt d l) : ∀ p ∈ l, p.1 < d := by
  induction l with
  | nil => intro p q; cases q
  | cons a r ih =>
    intro p q
    rcases List.mem_cons.mp q with e | q
    · rw [e]; exact h.1
    · exact ih h.2 p q
theorem lt_ne {d : Addr} {l : List (Addr × Obj)} (h : ∀ p ∈ l, p.1 < d) : ∀ p ∈ l, p.1 ≠ d := fun p q => Nat.ne_of_lt (h p q)
abbrev tokDict (w : World) (k1 k2 k3 : Tok) (kind : Str) (tk : Tok) (v : Value) (p : Int) (tp : Tok) : Obj :=
  dictOf [⟨PyData.keyHash w.params "kind", .str "kind" k1, .str kind tk⟩, ⟨PyData.keyHash w.params "value", .str "value" k2, v⟩, ⟨PyData.keyHash w.params "at", .str "at" k3, .int p tp⟩] 3
def KeyTab (prog : Program) (w : World) (kd : Addr) (o : Obj) : Prop := (kd == sysModules) = false ∧ ∃ kvs D, o.IsDictOf (strKind prog w) kvs ∧ FlatPairs PyData.str kvs D
theorem in_keys {prog : Program} {w : World} {A : Around} {E : Value → Shared → Prop} {s : Shared} {h₀ : Heap} {L : Addr} {news : List (Addr × Obj)} {kd : Addr} {o : Obj} {x : Str} {t : Tok} {Q : Value → Shared → Prop}
    (N : News h₀ L s.heap news) (hm : (kd, o) ∈ news) (hk : KeyTab prog w kd o) (h : ∀ b, Q (.bool b) { s with toks := s.toks + 1 }) : wpAny (model prog w) A (compareOp .In (.str x t) (.ref kd)) Q E s := by
  obtain ⟨lo, kvs, D, hd, hf⟩ := hk
  exact in_strTab (TabAt.ofNews N hm lo hd hf) (h _)
end
section
open PySem PySem.W PyProof.Rows
set_option maxRecDepth 100000
set_option maxHeartbeats 400000
section
variable {prog : Program} {w : World} {A : Around} {E : Value → Shared → Prop} {Q : Flow → Shared → Prop} {s : Shared} {env : Env} {h₀ : Heap} {L : Addr} {news : List (Addr × Obj)}
abbrev skipMap (m₀ : Str → Option Value) (v1 v2 : Option Value) : Str → Option Value := fun z => if z = Str.ofString "pair" then v2 else if z = Str.ofString "char" then v1 else m₀ z
def SkipPost (w : World) (h₀ : Heap) (L : Addr) (s : Shared) (x dx : Addr) (k1 k2 k3 k4 : Tok) (src : Str) (ts : Tok) (kd : Addr) (news : List (Addr × Obj)) (m₀ : Str → Option Value) (Q : Flow → Shared → Prop) (c : Int) (f : Flow) (s₂ : Shared) : Prop :=
  match f with
  | .ret v => Q (.ret v) s₂
  | .brk => Q .next s₂
  | _ => ∃ c' t' v1 v2 h' tk, s₂ = { s with heap := h', toks := tk } ∧ Fr h₀ L h' (skipMap m₀ v1 v2) ∧ News h₀ L h' ((x, instObj 330 dx) :: (dx, lexDict w k1 k2 k3 k4 src ts c' t' kd) :: news) ∧ c < c' ∧ c' ≤ src.length
theorem skipPost_next {x dx kd : Addr} {k1 k2 k3 k4 ts : Tok} {src : Str} {m₀ m' : Str → Option Value} {c c' : Int} {t' : Tok} {h' : Heap} {tk : Nat} (F : Fr h₀ L h' m') (N : News h₀ L h' ((x, instObj 330 dx) :: (dx, lexDict w k1 k2 k3 k4 src ts c' t' kd) :: news))
    (hm : ∀ z, z ≠ Str.ofString "pair" → z ≠ Str.ofString "char" → m' z = m₀ z) (h1 : c < c') (h2 : c' ≤ src.length) :
    SkipPost w h₀ L s x dx k1 k2 k3 k4 src ts kd news m₀ Q c .next { s with heap := h', toks := tk } := by
  refine ⟨c', t', m' (Str.ofString "char"), m' (Str.ofString "pair"), h', tk, rfl, ?_, N, h1, h2⟩
  have e : skipMap m₀ (m' (Str.ofString "char")) (m' (Str.ofString "pair")) = m' := by
    funext z
    by_cases hz : z = Str.ofString "pair"
    · rw [skipMap, if_pos hz, hz]
    · rw [skipMap, if_neg hz]
      by_cases hy : z = Str.ofString "char"
      · rw [if_pos hy, hy]
      · rw [if_neg hy, hm z hz hy]
  rw [e]; exact F
theorem skip_while {x dx kd : Addr} {k1 k2 k3 k4 ts : Tok} {src : Str} {test : Expr} {body : List Stmt} {pos : Pos} {m₀ : Str → Option Value} {c₀ : Int} {t₀ : Tok}
    (F : Fr h₀ L s.heap m₀) (N : News h₀ L s.heap ((x, instObj 330 dx) :: (dx, lexDict w k1 k2 k3 k4 src ts c₀ t₀ kd) :: news)) (h0 : 0 ≤ c₀) (h9 : c₀ ≤ src.length + 2)
    (turn : ∀ c t v1 v2 h tk, c₀ ≤ c → c ≤ src.length + 2 → Fr h₀ L h (skipMap m₀ v1 v2) → News h₀ L h ((x, instObj 330 dx) :: (dx, lexDict w k1 k2 k3 k4 src ts c t kd) :: news) →
      wpAny (model prog w) A (isTrue test env (eval test env)) (fun b s₂ =>
        if b = true then wpAny (model prog w) A (execs body env) (SkipPost w h₀ L s x dx k1 k2 k3 k4 src ts kd news m₀ Q c) E s₂ else Q .next s₂) E { s with heap := h, toks := tk })
    (hE : PassesOwn (model prog w) A env E) :
    wpAny (model prog w) A (exec (.While test body [] pos) env) Q E s := by
  refine While_inv2 (fun k m nx => ∃ c t v1 v2, m = skipMap m₀ v1 v2 ∧ nx = (x, instObj 330 dx) :: (dx, lexDict w k1 k2 k3 k4 src ts c t kd) :: news ∧ c₀ ≤ c ∧ c ≤ src.length + 2 ∧ k = (src.length + 2 - c).toNat) (n₀ := (src.length + 2 - c₀).toNat) F N
    ⟨c₀, t₀, m₀ (Str.ofString "char"), m₀ (Str.ofString "pair"), ?_, rfl, Int.le_refl _, h9, rfl⟩ ?_ hE
  · funext z
    by_cases hz : z = Str.ofString "pair"
    · rw [skipMap, if_pos hz, hz]
    · rw [skipMap, if_neg hz]
      by_cases hy : z = Str.ofString "char"
      · rw [if_pos hy, hy]
      · rw [if_neg hy]
  rintro k m₁ nx h tk F₁ N₁ ⟨c, t, v1, v2, rfl, rfl, h1, h2, rfl⟩
  refine wpAny_mono (turn c t v1 v2 h tk h1 h2 F₁ N₁) (fun b s₂ p => ?_) fun _ _ x => x
  cases b with
  | false => simpa using p
  | true =>
    simp only [if_true] at p ⊢
    refine wpAny_mono p (fun f s₃ q => ?_) fun _ _ x => x
    cases f with
    | ret v => exact q
    | brk => exact q
    | next =>
      obtain ⟨c', t', v1', v2', h', tk', rfl, F', N', h3, h4⟩ := q
      exact ⟨h', tk', _, _, (src.length + 2 - c').toNat, rfl, F', N', by omega, c', t', v1', v2', rfl, rfl, by omega, by omega, rfl⟩
    | cont =>
      obtain ⟨c', t', v1', v2', h', tk', rfl, F', N', h3, h4⟩ := q
      exact ⟨h', tk', _, _, (src.length + 2 - c').toNat, rfl, F', N', by omega, c', t', v1', v2', rfl, rfl, by omega, by omega, rfl⟩
end
theorem news_tl {h₀ : Heap} {L : Addr} {h : Heap} {p : Addr × Obj} {l : List (Addr × Obj)} (N : News h₀ L h (p :: l)) : News h₀ L h l := fun q hq => N q (.tail _ hq)
theorem news_mid {h₀ : Heap} {L : Addr} {h : Heap} {a b c : Addr × Obj} {l : List (Addr × Obj)} (N : News h₀ L h (a :: b :: c :: l)) : News h₀ L h (a :: b :: l) := fun q hq => by
  rcases List.mem_cons.mp hq with e | hq
  · exact N q (e ▸ .head _)
  · rcases List.mem_cons.mp hq with e | hq
    · exact N q (e ▸ .tail _ (.head _))
    · exact N q (.tail _ (.tail _ (.tail _ hq)))
theorem news_ap {h₀ : Heap} {L : Addr} {h : Heap} {l r : List (Addr × Obj)} (N : News h₀ L h (l ++ r)) : News h₀ L h r := fun q hq => N q (List.mem_append_right _ hq)
theorem any_no {src : Str} {i : Int} {P : Prop} {l : List Str} (e : (l.any fun x => x == charS src i) = true) (G : Good src) (h : 0 ≤ i) (hb : (l.all fun lit => lit.cps.toList.any (fun c => !CS.contains c)) = true) : P := by
  obtain ⟨y, hy, he⟩ := List.any_eq_true.mp e
  exact absurd (beq_iff_eq.mp he).symm (char_ne G h y (List.all_eq_true.mp hb y hy))
theorem pair_no {src : Str} {i : Int} {P : Prop} (lit : Str) (e : (pairS src i == lit) = true) (G : Good src) (h : 0 ≤ i) (hb : lit.cps.toList.any (fun c => !CS.contains c) = true) : P := absurd (beq_iff_eq.mp e) (pair_ne G h lit hb)
theorem char_no {src : Str} {i : Int} {P : Prop} (lit : Str) (e : (charS src i == lit) = true) (G : Good src) (h : 0 ≤ i) (hb : lit.cps.toList.any (fun c => !CS.contains c) = true) : P := absurd (beq_iff_eq.mp e) (char_ne G h lit hb)
end
local macro_rules | `(tactic| walk_at "@8") => `(tactic| (k_asm; k_asm; k_asm; (first | k_asm | exact news_tl (by assumption) | exact news_tl (news_tl (by assumption)) | exact news_tl (news_tl (news_tl (by assumption))) | exact news_ap (by assumption) | exact news_tl (news_ap (by assumption))); k_asm; (first | exact rfl | assumption); ktr_room; ktr_units))
local macro_rules | `(tactic| walk_at "call ref") => `(tactic| (k_here; (with_reducible show wpAny _ _ (call (Value.ref 172) _ _) _ _ _); k_dflt (apply is_layout_c; walk_at "@8"; k_whole); intro h' tk' F' N'; (try k_sweep)))
local macro_rules | `(tactic| walk_at "@pad1") => `(tactic| skip)
section
open PySem PySem.W PyProof.Rows
set_option maxRecDepth 100000
set_option maxHeartbeats 1000000
section
variable {w : World} {mean : ExcName → Option Value} {mg mb : Str → Option Value} {dp un : Nat} {gd : Option (List Code)} {cn : Str} {cs : Scope} {a : Addr} {ccd : Value} {cl : List (Str × Addr)} {outer : List Env} {A₀ : Around} {base h₀ : Heap} {L : Addr} {m : Str → Option Value} {news : List (Addr × Obj)} {s : Shared} {Q E : Value → Shared → Prop}
theorem char_c {x dx kd : Addr} {k1 k2 k3 k4 ts tp : Tok} {src : Str} {p : Int} {i : Int} {t : Tok} (B : Below A₀ base outer h₀) (F : Fr h₀ L s.heap m) (X : (KH w.params).In h₀) (N : News h₀ L s.heap ((x, instObj 330 dx) :: (dx, lexDict w k1 k2 k3 k4 src ts p tp kd) :: news)) (T : Top VW (looseW VW [Str.ofString "GateloomError"]) mean mg mb h₀) (hk : cs.kind = .function) (hdp : dp + 1 < recursionLimit) (hun : un + 8 < cLine) (hi0 : 0 ≤ i) (hi1 : i ≤ 100) (hlen : src.length ≤ 48)
    (ret : ∀ t' h' tk', Fr h₀ L h' m → News h₀ L h' ((x, instObj 330 dx) :: (dx, lexDict w k1 k2 k3 k4 src ts p tp kd) :: news) → Q (.str (charS src i) t') {s with heap := h', toks := tk'}) :
    wpAny (model PySem.Challenge.rw_pq0460_01.row.prog w) (ktrTop dp un gd cn cs L a ccd cl outer) (call (.ref 201) [.ref x, .int i t]) Q E s := by
  revert X; k_fill; intro X
  refine wpAny_call ?_
  k_dflt cell_enter
  k_steps
  all_goals (refine' cb_retS (Q := Q) (s := s) ret ?e1 ?e2 ?e3; (case e2 => k_asm); (case e3 => k_asm); (case e1 => (rfl)))
theorem pair_c {x dx kd : Addr} {k1 k2 k3 k4 ts tp : Tok} {src : Str} {p : Int} {i : Int} {t : Tok} (B : Below A₀ base outer h₀) (F : Fr h₀ L s.heap m) (X : (KH w.params).In h₀) (N : News h₀ L s.heap ((x, instObj 330 dx) :: (dx, lexDict w k1 k2 k3 k4 src ts p tp kd) :: news)) (T : Top VW (looseW VW [Str.ofString "GateloomError"]) mean mg mb h₀) (hk : cs.kind = .function) (hdp : dp + 1 < recursionLimit) (hun : un + 8 < cLine) (hi0 : 0 ≤ i) (hi1 : i ≤ 100) (hlen : src.length ≤ 48)
    (ret : ∀ t' h' tk', Fr h₀ L h' m → News h₀ L h' ((x, instObj 330 dx) :: (dx, lexDict w k1 k2 k3 k4 src ts p tp kd) :: news) → Q (.str (pairS src i) t') {s with heap := h', toks := tk'}) :
    wpAny (model PySem.Challenge.rw_pq0460_01.row.prog w) (ktrTop dp un gd cn cs L a ccd cl outer) (call (.ref 208) [.ref x, .int i t]) Q E s := by
  revert X; k_fill; intro X
  refine wpAny_call ?_
  k_dflt cell_enter
  k_steps
  all_goals (refine' cb_retS (Q := Q) (s := s) ret ?e1 ?e2 ?e3; (case e2 => k_asm); (case e3 => k_asm); (case e1 => (rfl)))
end
local macro_rules | `(tactic| walk_at "call ref") => `(tactic| (k_here; (with_reducible show wpAny _ _ (call (Value.ref 201) _ _) _ _ _); k_dflt (apply char_c; walk_at "@8"; omega; omega; omega; k_whole); intro t' h' tk' F' N'; (try k_sweep)))
local macro_rules | `(tactic| walk_at "call ref") => `(tactic| (k_here; (with_reducible show wpAny _ _ (call (Value.ref 208) _ _) _ _ _); k_dflt (apply pair_c; walk_at "@8"; omega; omega; omega; k_whole); intro t' h' tk' F' N'; (try k_sweep)))
local macro_rules | `(tactic| walk_at "exec While") => `(tactic| (k_here; (with_reducible rename Fr _ _ _ _ => lF'); (with_unfolding_all refine' lex_whileL (Str.ofString "index") ?F ?N ?hy ?h0 ?_ ?hE; (case F => exact lF'); (case N => k_asm); (case hy => exact rfl); (case h0 => omega); (case hE => first | passes_own | with_unfolding_all passes_own)); intro c' t' h' tk' hc0' hc1' F' N'; (try k_sweep)))
section
variable {w : World} {mean : ExcName → Option Value} {mg mb : Str → Option Value} {dp un : Nat} {gd : Option (List Code)} {cn : Str} {cs : Scope} {a : Addr} {ccd : Value} {cl : List (Str × Addr)} {outer : List Env} {A₀ : Around} {base h₀ : Heap} {L : Addr} {m : Str → Option Value} {news : List (Addr × Obj)} {s : Shared} {Q E : Value → Shared → Prop}
theorem past_layout_c {x dx kd : Addr} {k1 k2 k3 k4 ts tp : Tok} {src : Str} {p : Int} {i : Int} {t : Tok} (B : Below A₀ base outer h₀) (F : Fr h₀ L s.heap m) (X : (KH w.params).In h₀) (N : News h₀ L s.heap ((x, instObj 330 dx) :: (dx, lexDict w k1 k2 k3 k4 src ts p tp kd) :: news)) (T : Top VW (looseW VW [Str.ofString "GateloomError"]) mean mg mb h₀) (hk : cs.kind = .function) (hdp : dp + 2 < recursionLimit) (hun : un + 16 < cLine) (hi0 : 0 ≤ i) (hi1 : i ≤ src.length + 2) (hlen : src.length ≤ 48)
    (ret : ∀ j t' h' tk', i ≤ j → j ≤ max i src.length → Fr h₀ L h' m → News h₀ L h' ((x, instObj 330 dx) :: (dx, lexDict w k1 k2 k3 k4 src ts p tp kd) :: news) → Q (.int j t') {s with heap := h', toks := tk'}) :
    wpAny (model PySem.Challenge.rw_pq0460_01.row.prog w) (ktrTop dp un gd cn cs L a ccd cl outer) (call (.ref 215) [.ref x, .int i t]) Q E s := by
  revert X; k_fill; intro X
  refine wpAny_call ?_
  k_dflt cell_enter
  k_steps
  all_goals first
    | exact ret _ _ _ _ (by omega) (by omega) (by k_asm) (by k_asm)
    | (refine layout_use (by assumption) fun hq => ?_; have hq := hq (by omega); ((with_reducible show LexPost _ _ _ _ _ _ _ _ _ _ _); refine' lexPost_next ?F ?N ?hy ?hm ?h1 ?h2; (case F => k_asm); (case N => k_asm); (case hy => exact rfl); (case hm => (intro z hz; simp only [hz, if_false])); (case h1 => omega); (case h2 => (omega))))
end
end
local macro_rules | `(tactic| k_room) => `(tactic| ktr_room)
local macro_rules | `(tactic| k_all) => `(tactic| first | assumption | exact lt_ne (by assumption) | exact allLt_ne (by assumption))
section
open PySem PySem.W PyProof.Rows
set_option maxRecDepth 100000
set_option maxHeartbeats 1000000
section
variable {w : World} {mean : ExcName → Option Value} {mg mb : Str → Option Value} {dp un : Nat} {gd : Option (List Code)} {cn : Str} {cs : Scope} {a : Addr} {ccd : Value} {cl : List (Str × Addr)} {outer : List Env} {A₀ : Around} {base h₀ : Heap} {L : Addr} {m : Str → Option Value} {news : List (Addr × Obj)} {s : Shared} {Q E : Value → Shared → Prop}
theorem token_c {kind : Str} {tk : Tok} {v : Value} {p : Int} {tp : Tok} (B : Below A₀ base outer h₀) (F : Fr h₀ L s.heap m) (X : (KH w.params).In h₀) (N : News h₀ L s.heap news) (T : Top VW (looseW VW [Str.ofString "GateloomError"]) mean mg mb h₀) (hk : cs.kind = .function) (hdp : dp + 2 < recursionLimit) (hun : un + 16 < cLine)
    (ret : ∀ tok d k1 k2 k3 h' tk', Fr h₀ L h' m → News h₀ L h' ((tok, instObj 140 d) :: (d, tokDict w k1 k2 k3 kind tk v p tp) :: news) → (∀ p ∈ news, p.1 < d) → d < tok → Q (.ref tok) {s with heap := h', toks := tk'}) :
    wpAny (model PySem.Challenge.rw_pq0460_01.row.prog w) (ktrTop dp un gd cn cs L a ccd cl outer) (call (.ref 140) [.str kind tk, v, .int p tp]) Q E s := by
  revert X; k_fill; intro X
  k_dflt (refine' call_cls ?k1 ?k2 ?k3 ?k4 ?k5 ?k6 ?_; (case k1 => k_asm); (case k2 => k_asm); (case k3 => k_asm); (case k4 => k_is); (case k5 => k_is); (case k6 => k_is); k_whole)
  intro x' d' h' F' N' l1 l2
  (try k_lt l1); (try k_lt2 l2)
  try k_sweep
  k_dflt cell_enter
  k_steps
  exact ret _ _ _ _ _ _ _ (by k_asm) (by k_asm) l1 l2
end
local macro_rules | `(tactic| walk_at "call ref") => `(tactic| (k_here; (with_reducible show wpAny _ _ (call (Value.ref 165) _ _) _ _ _); k_dflt (apply is_word_c; walk_at "@8"; k_whole); intro h' tk' F' N'; (try k_sweep)))
local macro_rules | `(tactic| walk_at "call ref") => `(tactic| (k_here; (with_reducible show wpAny _ _ (call (Value.ref 201) _ _) _ _ _); k_dflt (apply char_c; walk_at "@8"; omega; omega; omega; k_whole); intro t' h' tk' F' N'; (try k_sweep)))
local macro_rules | `(tactic| walk_at "call ref") => `(tactic| (k_here; (with_reducible show wpAny _ _ (call (Value.ref 140) _ _) _ _ _); k_dflt (apply token_c; walk_at "@8"; k_whole); intro tok' d' q1' q2' q3' h' tk' F' N' l1 l2; (try k_lt l1); (try k_lt2 l2); (try k_sweep)))
local macro_rules | `(tactic| walk_at "exec While") => `(tactic| (k_here; (with_reducible rename Fr _ _ _ _ => lF'); (with_unfolding_all refine' lex_whileL (Str.ofString "end") ?F ?N ?hy ?h0 ?_ ?hE; (case F => exact lF'); (case N => k_asm); (case hy => exact rfl); (case h0 => omega); (case hE => first | passes_own | with_unfolding_all passes_own)); intro c' t' h' tk' hc0' hc1' F' N'; (try k_sweep)))
local macro_rules | `(tactic| walk_at "compareOp In str ref") => `(tactic| (k_here; k_dflt (refine' in_keys ?N ?m ?k ?_; (case N => k_asm); (case m => exact List.Mem.tail _ (List.Mem.tail _ (by assumption))); (case k => assumption)); intro b'))
section
variable {w : World} {mean : ExcName → Option Value} {mg mb : Str → Option Value} {dp un : Nat} {gd : Option (List Code)} {cn : Str} {cs : Scope} {a : Addr} {ccd : Value} {cl : List (Str × Addr)} {outer : List Env} {A₀ : Around} {base h₀ : Heap} {L : Addr} {m : Str → Option Value} {news : List (Addr × Obj)} {s : Shared} {Q E : Value → Shared → Prop}
theorem word_c {x dx kd : Addr} {k1 k2 k3 k4 ts tp : Tok} {src : Str} {p : Int} {ko : Obj} {i : Int} {t : Tok} (B : Below A₀ base outer h₀) (F : Fr h₀ L s.heap m) (X : (KH w.params).In h₀) (N : News h₀ L s.heap ((x, instObj 330 dx) :: (dx, lexDict w k1 k2 k3 k4 src ts p tp kd) :: news)) (T : Top VW (looseW VW [Str.ofString "GateloomError"]) mean mg mb h₀) (hk : cs.kind = .function) (hdp : dp + 3 < recursionLimit) (hun : un + 32 < cLine) (hi0 : 0 ≤ i) (hi1 : i ≤ src.length + 2) (hlen : src.length ≤ 48) (hxd : @LT.lt Nat _ dx x) (hnn : ∀ q ∈ news, q.1 ≠ dx) (hkm : (kd, ko) ∈ news) (hko : KeyTab PySem.Challenge.rw_pq0460_01.row.prog w kd ko)
    (ret : ∀ tok d c1 c2 c3 kind tk v q tq p' tp' h' tk', i ≤ p' → p' ≤ src.length + 2 → Fr h₀ L h' m → News h₀ L h' ((tok, instObj 140 d) :: (d, tokDict w c1 c2 c3 kind tk v q tq) :: (x, instObj 330 dx) :: (dx, lexDict w k1 k2 k3 k4 src ts p' tp' kd) :: news) → @LT.lt Nat _ x d → @LT.lt Nat _ d tok → (∀ p ∈ news, p.1 < d) → kind.length ≤ 3 → Q (.ref tok) {s with heap := h', toks := tk'}) :
    wpAny (model PySem.Challenge.rw_pq0460_01.row.prog w) (ktrTop dp un gd cn cs L a ccd cl outer) (call (.ref 264) [.ref x, .int i t]) Q E s := by
  revert X; k_fill; intro X
  refine wpAny_call ?_
  k_dflt cell_enter
  k_steps
  all_goals first
    | (refine word_use (by assumption) fun hq => ?_; have hq := hq (by omega); ((with_reducible show LexPost _ _ _ _ _ _ _ _ _ _ _); refine' lexPost_next ?F ?N ?hy ?hm ?h1 ?h2; (case F => k_asm); (case N => k_asm); (case hy => exact rfl); (case hm => (intro z hz; simp only [hz, if_false])); (case h1 => omega); (case h2 => (omega))))
    | (refine eqb_use (by assumption) (by decide) fun hq => ?_; have hq := hq (by omega); ((with_reducible show LexPost _ _ _ _ _ _ _ _ _ _ _); refine' lexPost_next ?F ?N ?hy ?hm ?h1 ?h2; (case F => k_asm); (case N => k_asm); (case hy => exact rfl); (case hm => (intro z hz; simp only [hz, if_false])); (case h1 => omega); (case h2 => (omega))))
    | exact ret _ _ _ _ _ _ _ _ _ _ _ _ _ _ (by omega) (by omega) (by k_asm) (by k_asm) (by omega) (by omega) (allLt_lt (And.right (And.right (by assumption)))) (by decide)
end
end
section
open PySem PySem.W PyProof.Rows Builtin Builtin.ObjectAttr
set_option maxRecDepth 100000
set_option maxHeartbeats 1000000

structure ExcCls (K : Frag) (C : Addr) (cd : ClassData) : Prop where
  lk : ∃ nm q Nn bs bm hdct sn sub ab col dd k0 k1 k2 k3 k5, K.lookup C = some (PySem.excClassObj nm q C Nn bs bm hdct sn sub ab col dd k0 k1 k2 k3 k5 "Exception.__new__") ∧ bm.contains (.type "Exception") = true ∧ bm.contains (.type "AttributeError") = false ∧ bm.contains (.type "NameError") = false ∧ bm.contains (.type "BaseException") = true
  init : findIn K (.ref C) "__init__" = some (some (.ref 29))
  fn : typeIn K (.ref 29) = some (.type "function")
  sa : findIn K (.ref C) "__setattr__" = some (some (.builtin "object.__setattr__"))
  cls : clsIn K C = some cd
  hasDict : cd.hasDict = true
  refu : ∀ self, refuseLoop self "__setattr__" cd.mro = pure ()
  obj : mroIn K C (.type "object") = some true
  base : mroIn K C (.type "BaseException") = some true
  kind : findIn K (.ref C) "kind" = some none
  at_ : findIn K (.ref C) "at" = some none
  detail : findIn K (.ref C) "detail" = some none
  ga : findIn K (.ref C) "__getattribute__" = some (some (.builtin "BaseException.__getattribute__"))
  gt : findIn K (.ref C) "__getattr__" = some none
abbrev errDict (w : World) (c1 c2 c3 : Tok) (kind : Str) (tk : Tok) (p : Int) (tp : Tok) (det : Str) (td : Tok) : Obj :=
  dictOf [⟨PyData.keyHash w.params "kind", .str "kind" c1, .str kind tk⟩, ⟨PyData.keyHash w.params "at", .str "at" c2, .int p tp⟩, ⟨PyData.keyHash w.params "detail", .str "detail" c3, .str det td⟩] 3
theorem excCls_of {K : Frag} {C : Addr} {cd : ClassData} {nm q : Str} {Nn : Addr} {bs bm : List Value} {hdct : Bool} {sn : List Str} {sub : List Value} {ab : Bool} {col : Option Bool} {dd : Option Addr} {k0 k1 k2 k3 k5 : Option Value}
    (h1 : K.lookup C = some (PySem.excClassObj nm q C Nn bs bm hdct sn sub ab col dd k0 k1 k2 k3 k5 "Exception.__new__")) (h2 : bm.contains (.type "Exception") = true) (h3 : bm.contains (.type "AttributeError") = false) (h4 : bm.contains (.type "NameError") = false) (h5 : bm.contains (.type "BaseException") = true)
    (h6 : findIn K (.ref C) "__init__" = some (some (.ref 29))) (h7 : typeIn K (.ref 29) = some (.type "function")) (h8 : findIn K (.ref C) "__setattr__" = some (some (.builtin "object.__setattr__")))
    (h9 : clsIn K C = some cd) (h10 : cd.hasDict = true) (h11 : ∀ self, refuseLoop self "__setattr__" cd.mro = pure ()) (h12 : mroIn K C (.type "object") = some true) (h13 : mroIn K C (.type "BaseException") = some true)
    (h14 : findIn K (.ref C) "kind" = some none) (h15 : findIn K (.ref C) "at" = some none) (h16 : findIn K (.ref C) "detail" = some none)
    (h17 : findIn K (.ref C) "__getattribute__" = some (some (.builtin "BaseException.__getattribute__"))) (h18 : findIn K (.ref C) "__getattr__" = some none) : ∃ cd, ExcCls K C cd :=
  ⟨cd, ⟨⟨nm, q, Nn, bs, bm, hdct, sn, sub, ab, col, dd, k0, k1, k2, k3, k5, h1, h2, h3, h4, h5⟩, h6, h7, h8, h9, h10, h11, h12, h13, h14, h15, h16, h17, h18⟩⟩
theorem cls32 (w : World) : ∃ cd, ExcCls (KH w.params) 32 cd := by
  have e : (KH w.params) = (KH w.params) ∧ PySem.Challenge.rw_pq0460_01.row.prog = PySem.Challenge.rw_pq0460_01.row.prog := ⟨rfl, rfl⟩
  revert e; k_fill; intro _
  k_dflt (refine' excCls_of ?h1 ?h2 ?h3 ?h4 ?h5 ?h6 ?h7 ?h8 ?h9 ?h10 ?h11 ?h12 ?h13 ?h14 ?h15 ?h16 ?h17 ?h18; (case h1 => k_is); (case h2 => rfl); (case h3 => rfl); (case h4 => rfl); (case h5 => rfl); (case h6 => k_is); (case h7 => k_is); (case h8 => k_is); (case h9 => k_is); (case h10 => rfl); (case h11 => (intro self; first | exact (refuseLoop_ref _ _ _ _).trans (refuse_exc3 self) | exact (refuseLoop_ref _ _ _ _).trans ((refuseLoop_ref _ _ _ _).trans (refuse_exc3 self)))); (case h12 => k_is); (case h13 => k_is); (case h14 => k_is); (case h15 => k_is); (case h16 => k_is); (case h17 => k_is); (case h18 => k_is))
theorem cls45 (w : World) : ∃ cd, ExcCls (KH w.params) 45 cd := by
  have e : (KH w.params) = (KH w.params) ∧ PySem.Challenge.rw_pq0460_01.row.prog = PySem.Challenge.rw_pq0460_01.row.prog := ⟨rfl, rfl⟩
  revert e; k_fill; intro _
  k_dflt (refine' excCls_of ?h1 ?h2 ?h3 ?h4 ?h5 ?h6 ?h7 ?h8 ?h9 ?h10 ?h11 ?h12 ?h13 ?h14 ?h15 ?h16 ?h17 ?h18; (case h1 => k_is); (case h2 => rfl); (case h3 => rfl); (case h4 => rfl); (case h5 => rfl); (case h6 => k_is); (case h7 => k_is); (case h8 => k_is); (case h9 => k_is); (case h10 => rfl); (case h11 => (intro self; first | exact refuse_exc3 self | exact (refuseLoop_ref _ _ _ _).trans (refuse_exc3 self) | exact (refuseLoop_ref _ _ _ _).trans ((refuseLoop_ref _ _ _ _).trans (refuse_exc3 self)))); (case h12 => k_is); (case h13 => k_is); (case h14 => k_is); (case h15 => k_is); (case h16 => k_is); (case h17 => k_is); (case h18 => k_is))
theorem cls57 (w : World) : ∃ cd, ExcCls (KH w.params) 57 cd := by
  have e : (KH w.params) = (KH w.params) ∧ PySem.Challenge.rw_pq0460_01.row.prog = PySem.Challenge.rw_pq0460_01.row.prog := ⟨rfl, rfl⟩
  revert e; k_fill; intro _
  k_dflt (refine' excCls_of ?h1 ?h2 ?h3 ?h4 ?h5 ?h6 ?h7 ?h8 ?h9 ?h10 ?h11 ?h12 ?h13 ?h14 ?h15 ?h16 ?h17 ?h18; (case h1 => k_is); (case h2 => rfl); (case h3 => rfl); (case h4 => rfl); (case h5 => rfl); (case h6 => k_is); (case h7 => k_is); (case h8 => k_is); (case h9 => k_is); (case h10 => rfl); (case h11 => (intro self; first | exact refuse_exc3 self | exact (refuseLoop_ref _ _ _ _).trans (refuse_exc3 self) | exact (refuseLoop_ref _ _ _ _).trans ((refuseLoop_ref _ _ _ _).trans (refuse_exc3 self)))); (case h12 => k_is); (case h13 => k_is); (case h14 => k_is); (case h15 => k_is); (case h16 => k_is); (case h17 => k_is); (case h18 => k_is))
theorem cls69 (w : World) : ∃ cd, ExcCls (KH w.params) 69 cd := by
  have e : (KH w.params) = (KH w.params) ∧ PySem.Challenge.rw_pq0460_01.row.prog = PySem.Challenge.rw_pq0460_01.row.prog := ⟨rfl, rfl⟩
  revert e; k_fill; intro _
  k_dflt (refine' excCls_of ?h1 ?h2 ?h3 ?h4 ?h5 ?h6 ?h7 ?h8 ?h9 ?h10 ?h11 ?h12 ?h13 ?h14 ?h15 ?h16 ?h17 ?h18; (case h1 => k_is); (case h2 => rfl); (case h3 => rfl); (case h4 => rfl); (case h5 => rfl); (case h6 => k_is); (case h7 => k_is); (case h8 => k_is); (case h9 => k_is); (case h10 => rfl); (case h11 => (intro self; first | exact refuse_exc3 self | exact (refuseLoop_ref _ _ _ _).trans (refuse_exc3 self) | exact (refuseLoop_ref _ _ _ _).trans ((refuseLoop_ref _ _ _ _).trans (refuse_exc3 self)))); (case h12 => k_is); (case h13 => k_is); (case h14 => k_is); (case h15 => k_is); (case h16 => k_is); (case h17 => k_is); (case h18 => k_is))
theorem cls81 (w : World) : ∃ cd, ExcCls (KH w.params) 81 cd := by
  have e : (KH w.params) = (KH w.params) ∧ PySem.Challenge.rw_pq0460_01.row.prog = PySem.Challenge.rw_pq0460_01.row.prog := ⟨rfl, rfl⟩
  revert e; k_fill; intro _
  k_dflt (refine' excCls_of ?h1 ?h2 ?h3 ?h4 ?h5 ?h6 ?h7 ?h8 ?h9 ?h10 ?h11 ?h12 ?h13 ?h14 ?h15 ?h16 ?h17 ?h18; (case h1 => k_is); (case h2 => rfl); (case h3 => rfl); (case h4 => rfl); (case h5 => rfl); (case h6 => k_is); (case h7 => k_is); (case h8 => k_is); (case h9 => k_is); (case h10 => rfl); (case h11 => (intro self; first | exact refuse_exc3 self | exact (refuseLoop_ref _ _ _ _).trans (refuse_exc3 self) | exact (refuseLoop_ref _ _ _ _).trans ((refuseLoop_ref _ _ _ _).trans (refuse_exc3 self)))); (case h12 => k_is); (case h13 => k_is); (case h14 => k_is); (case h15 => k_is); (case h16 => k_is); (case h17 => k_is); (case h18 => k_is))
theorem cls93 (w : World) : ∃ cd, ExcCls (KH w.params) 93 cd := by
  have e : (KH w.params) = (KH w.params) ∧ PySem.Challenge.rw_pq0460_01.row.prog = PySem.Challenge.rw_pq0460_01.row.prog := ⟨rfl, rfl⟩
  revert e; k_fill; intro _
  k_dflt (refine' excCls_of ?h1 ?h2 ?h3 ?h4 ?h5 ?h6 ?h7 ?h8 ?h9 ?h10 ?h11 ?h12 ?h13 ?h14 ?h15 ?h16 ?h17 ?h18; (case h1 => k_is); (case h2 => rfl); (case h3 => rfl); (case h4 => rfl); (case h5 => rfl); (case h6 => k_is); (case h7 => k_is); (case h8 => k_is); (case h9 => k_is); (case h10 => rfl); (case h11 => (intro self; first | exact refuse_exc3 self | exact (refuseLoop_ref _ _ _ _).trans (refuse_exc3 self) | exact (refuseLoop_ref _ _ _ _).trans ((refuseLoop_ref _ _ _ _).trans (refuse_exc3 self)))); (case h12 => k_is); (case h13 => k_is); (case h14 => k_is); (case h15 => k_is); (case h16 => k_is); (case h17 => k_is); (case h18 => k_is))
end
section
open PySem PySem.W PyProof.Rows Builtin Builtin.ObjectAttr
set_option maxRecDepth 100000
set_option maxHeartbeats 1000000
local macro_rules | `(tactic| walk_at "setAttr ref") => `(tactic| (k_here; k_dflt (refine' set_exc_first ?F ?X ?N ?hne ?hs ?hc ?hd ?hr ?hm ?ha ?_; (case F => k_asm); (case X => k_asm); (case N => k_asm); (case hne => assumption); (case hs => exact ExcCls.sa (by assumption)); (case hc => exact ExcCls.cls (by assumption)); (case hd => exact ExcCls.hasDict (by assumption)); (case hr => exact ExcCls.refu (by assumption)); (case hm => exact ExcCls.obj (by assumption)); (case ha => exact ExcCls.kind (by assumption)); k_whole); intro dx' h' F' N' l1 l2; (try k_lt2 l2); (try k_sweep)))
local macro_rules | `(tactic| walk_at "setAttr ref") => `(tactic| (k_here; k_dflt (refine' set_exc_next ?F ?X ?N ?hne ?hnr ?hs ?hc ?hd ?hr ?hm ?ha ?hl ?eq ?hz ?_; (case F => k_asm); (case X => k_asm); (case N => k_asm); (case hne => exact Nat.ne_of_lt (by assumption)); (case hnr => exact lt_ne (by assumption)); (case hs => exact ExcCls.sa (by assumption)); (case hc => exact ExcCls.cls (by assumption)); (case hd => exact ExcCls.hasDict (by assumption)); (case hr => exact ExcCls.refu (by assumption)); (case hm => exact ExcCls.obj (by assumption)); (case ha => first | exact ExcCls.at_ (by assumption) | exact ExcCls.detail (by assumption)); (case hl => k_get); (case eq => k_put); (case hz => exact Nat.le_of_ble_eq_true rfl); k_whole); intro h' F' N'; (try k_sweep)))
section
variable {w : World} {mean : ExcName → Option Value} {mg mb : Str → Option Value} {dp un : Nat} {gd : Option (List Code)} {cn : Str} {cs : Scope} {a : Addr} {ccd : Value} {cl : List (Str × Addr)} {outer : List Env} {A₀ : Around} {base h₀ : Heap} {L : Addr} {m : Str → Option Value} {news : List (Addr × Obj)} {s : Shared} {Q E : Value → Shared → Prop}
theorem einit3_c {e t C : Addr} {cd : ClassData} {kind : Str} {tk : Tok} {p : Int} {tp td : Tok} {det : Str} (B : Below A₀ base outer h₀) (F : Fr h₀ L s.heap m) (X : (KH w.params).In h₀) (N : News h₀ L s.heap ((e, excO C t none) :: news)) (T : Top VW (looseW VW [Str.ofString "GateloomError"]) mean mg mb h₀) (hk : cs.kind = .function) (hdp : dp + 1 < recursionLimit) (hun : un + 8 < cLine) (hne : ∀ q ∈ news, q.1 ≠ e) (hC : ExcCls (KH w.params) C cd)
    (ret : ∀ d c1 c2 c3 tk tp td h' tk', Fr h₀ L h' m → News h₀ L h' ((e, excO C t (some d)) :: (d, errDict w c1 c2 c3 kind tk p tp det td) :: news) → @LT.lt Nat _ e d → (∀ q ∈ news, q.1 < d) → Q .none {s with heap := h', toks := tk'}) :
    wpAny (model PySem.Challenge.rw_pq0460_01.row.prog w) (ktrTop dp un gd cn cs L a ccd cl outer) (call (.ref 29) [.ref e, .str kind tk, .int p tp, .str det td]) Q E s := by
  revert X; k_fill; intro X
  refine wpAny_call ?_
  k_dflt (refine' code_def ?k1 ?k2 ?k3 ?k4 ?k5 ?kA ?kF ?kK ?k6 ?k7 ?k8 ?k9 ?kB ?_ ?c2 ?c3 ?c4 ?c5; (case kA => exact rfl); (case kF => exact rfl); (case kK => first | exact rfl | assumption); (case k1 => k_asm); (case k2 => k_asm); (case k3 => k_asm); (case k4 => k_asm); (case k5 => k_asm); (case k6 => k_is); (case k7 => k_is); (case k8 => ktr_room); (case k9 => first | exact BindsTo.of_eq rfl | exact binds_K (by k_in) rfl (by k_is) rfl rfl rfl); (case c5 => decide); (case kB => exact locs rfl); (case c2 => exact rfl); (case c3 => exact rfl); (case c4 => exact rfl); k_whole; intro g' L' h' FG' F' N' B' X' T'; (try dsimp only); (try k_lift B'); (try k_fold))
  k_steps
  exact ret _ _ _ _ _ _ _ _ _ (by k_asm) (by k_asm) (by assumption) (by assumption)
theorem einit2_c {e t C : Addr} {cd : ClassData} {kind : Str} {tk : Tok} {p : Int} {tp : Tok} (B : Below A₀ base outer h₀) (F : Fr h₀ L s.heap m) (X : (KH w.params).In h₀) (N : News h₀ L s.heap ((e, excO C t none) :: news)) (T : Top VW (looseW VW [Str.ofString "GateloomError"]) mean mg mb h₀) (hk : cs.kind = .function) (hdp : dp + 1 < recursionLimit) (hun : un + 8 < cLine) (hne : ∀ q ∈ news, q.1 ≠ e) (hC : ExcCls (KH w.params) C cd)
    (ret : ∀ d c1 c2 c3 tk tp td h' tk', Fr h₀ L h' m → News h₀ L h' ((e, excO C t (some d)) :: (d, errDict w c1 c2 c3 kind tk p tp "" td) :: news) → @LT.lt Nat _ e d → (∀ q ∈ news, q.1 < d) → Q .none {s with heap := h', toks := tk'}) :
    wpAny (model PySem.Challenge.rw_pq0460_01.row.prog w) (ktrTop dp un gd cn cs L a ccd cl outer) (call (.ref 29) [.ref e, .str kind tk, .int p tp]) Q E s := by
  revert X; k_fill; intro X
  refine wpAny_call ?_
  k_dflt (refine' code_def ?k1 ?k2 ?k3 ?k4 ?k5 ?kA ?kF ?kK ?k6 ?k7 ?k8 ?k9 ?kB ?_ ?c2 ?c3 ?c4 ?c5; (case kA => exact rfl); (case kF => exact rfl); (case kK => first | exact rfl | assumption); (case k1 => k_asm); (case k2 => k_asm); (case k3 => k_asm); (case k4 => k_asm); (case k5 => k_asm); (case k6 => k_is); (case k7 => k_is); (case k8 => ktr_room); (case k9 => first | exact BindsTo.of_eq rfl | exact binds_K (by k_in) rfl (by k_is) rfl rfl rfl); (case c5 => decide); (case kB => exact locs rfl); (case c2 => exact rfl); (case c3 => exact rfl); (case c4 => exact rfl); k_whole; intro g' L' h' FG' F' N' B' X' T'; (try dsimp only); (try k_lift B'); (try k_fold))
  k_steps
  exact ret _ _ _ _ _ _ _ _ _ (by k_asm) (by k_asm) (by assumption) (by assumption)
theorem einit1_c {e t C : Addr} {cd : ClassData} {kind : Str} {tk : Tok} (B : Below A₀ base outer h₀) (F : Fr h₀ L s.heap m) (X : (KH w.params).In h₀) (N : News h₀ L s.heap ((e, excO C t none) :: news)) (T : Top VW (looseW VW [Str.ofString "GateloomError"]) mean mg mb h₀) (hk : cs.kind = .function) (hdp : dp + 1 < recursionLimit) (hun : un + 8 < cLine) (hne : ∀ q ∈ news, q.1 ≠ e) (hC : ExcCls (KH w.params) C cd)
    (ret : ∀ d c1 c2 c3 tk tp td h' tk', Fr h₀ L h' m → News h₀ L h' ((e, excO C t (some d)) :: (d, errDict w c1 c2 c3 kind tk (-1) tp "" td) :: news) → @LT.lt Nat _ e d → (∀ q ∈ news, q.1 < d) → Q .none {s with heap := h', toks := tk'}) :
    wpAny (model PySem.Challenge.rw_pq0460_01.row.prog w) (ktrTop dp un gd cn cs L a ccd cl outer) (call (.ref 29) [.ref e, .str kind tk]) Q E s := by
  revert X; k_fill; intro X
  refine wpAny_call ?_
  k_dflt (refine' code_def ?k1 ?k2 ?k3 ?k4 ?k5 ?kA ?kF ?kK ?k6 ?k7 ?k8 ?k9 ?kB ?_ ?c2 ?c3 ?c4 ?c5; (case kA => exact rfl); (case kF => exact rfl); (case kK => first | exact rfl | assumption); (case k1 => k_asm); (case k2 => k_asm); (case k3 => k_asm); (case k4 => k_asm); (case k5 => k_asm); (case k6 => k_is); (case k7 => k_is); (case k8 => ktr_room); (case k9 => first | exact BindsTo.of_eq rfl | exact binds_K (by k_in) rfl (by k_is) rfl rfl rfl); (case c5 => decide); (case kB => exact locs rfl); (case c2 => exact rfl); (case c3 => exact rfl); (case c4 => exact rfl); k_whole; intro g' L' h' FG' F' N' B' X' T'; (try dsimp only); (try k_lift B'); (try k_fold))
  k_steps
  exact ret _ _ _ _ _ _ _ _ _ (by k_asm) (by k_asm) (by assumption) (by assumption)
theorem errmk3_c {C : Addr} {cd : ClassData} {kind : Str} {tk : Tok} {p : Int} {tp td : Tok} {det : Str} (B : Below A₀ base outer h₀) (F : Fr h₀ L s.heap m) (X : (KH w.params).In h₀) (N : News h₀ L s.heap news) (T : Top VW (looseW VW [Str.ofString "GateloomError"]) mean mg mb h₀) (hk : cs.kind = .function) (hdp : dp + 2 < recursionLimit) (hun : un + 16 < cLine) (hC : ExcCls (KH w.params) C cd)
    (ret : ∀ e t d o c1 c2 c3 tk tp td h' tk', Fr h₀ L h' m → News h₀ L h' ((e, excO C t (some d)) :: (d, errDict w c1 c2 c3 kind tk p tp det td) :: (t, o) :: news) → @LT.lt Nat _ t e → @LT.lt Nat _ e d → (∀ q ∈ news, q.1 < t) → Q (.ref e) {s with heap := h', toks := tk'}) :
    wpAny (model PySem.Challenge.rw_pq0460_01.row.prog w) (ktrTop dp un gd cn cs L a ccd cl outer) (call (.ref C) [.str kind tk, .int p tp, .str det td]) Q E s := by
  obtain ⟨nm, q, Nn, bs, bm, hdct, sn, sub, ab, col, dd, k0, k1, k2, k3, k5, h1, h2, h3, h4, h5⟩ := hC.lk
  refine exc_call PySem.F.excBase_Exception h2 h3 h4 F X N h1 hC.init hC.fn (fun e t h' F' N' l1 l2 => ?_) (by size_fits)
  have lt : ∀ q ∈ (t, ({ cls := .type "tuple", data := .seq [.str kind tk, .int p tp, .str det td].toArray } : Obj)) :: news, q.1 < e := fun q hq => by
    rcases List.mem_cons.mp hq with e1 | hq
    · rw [e1]; exact l2
    · exact Nat.lt_trans (l1 q hq) l2
  have w1 : (Code.builtin "type.__call__" ⟨[.ref C, .str kind tk, .int p tp, .str det td], []⟩).weight = 1 := by rfl
  have u1 : (Code.builtin "type.__call__" ⟨[.ref C, .str kind tk, .int p tp, .str det td], []⟩).cUnits = 1 := by rfl
  k_dflt (refine' einit3_c ?k1 ?k2 ?k3 ?k4 ?k5 ?kK ?kd ?ku ?hne ?hC ?_; (case kK => assumption); (case k1 => k_asm); (case k2 => k_asm); (case k3 => k_asm); (case k4 => exact N'); (case k5 => k_asm); (case kd => (dsimp only [ktrTop]; omega)); (case ku => (dsimp only [ktrTop]; omega)); (case hne => exact lt_ne lt); (case hC => exact hC))
  intro d c1 c2 c3 tk tp td h'' tk' F'' N'' l3 l4
  exact ⟨rfl, ret e t d _ _ _ _ _ _ _ _ _ F'' N'' l2 l3 l1⟩
theorem errmk2_c {C : Addr} {cd : ClassData} {kind : Str} {tk : Tok} {p : Int} {tp : Tok} (B : Below A₀ base outer h₀) (F : Fr h₀ L s.heap m) (X : (KH w.params).In h₀) (N : News h₀ L s.heap news) (T : Top VW (looseW VW [Str.ofString "GateloomError"]) mean mg mb h₀) (hk : cs.kind = .function) (hdp : dp + 2 < recursionLimit) (hun : un + 16 < cLine) (hC : ExcCls (KH w.params) C cd)
    (ret : ∀ e t d o c1 c2 c3 tk tp td h' tk', Fr h₀ L h' m → News h₀ L h' ((e, excO C t (some d)) :: (d, errDict w c1 c2 c3 kind tk p tp "" td) :: (t, o) :: news) → @LT.lt Nat _ t e → @LT.lt Nat _ e d → (∀ q ∈ news, q.1 < t) → Q (.ref e) {s with heap := h', toks := tk'}) :
    wpAny (model PySem.Challenge.rw_pq0460_01.row.prog w) (ktrTop dp un gd cn cs L a ccd cl outer) (call (.ref C) [.str kind tk, .int p tp]) Q E s := by
  obtain ⟨nm, q, Nn, bs, bm, hdct, sn, sub, ab, col, dd, k0, k1, k2, k3, k5, h1, h2, h3, h4, h5⟩ := hC.lk
  refine exc_call PySem.F.excBase_Exception h2 h3 h4 F X N h1 hC.init hC.fn (fun e t h' F' N' l1 l2 => ?_) (by size_fits)
  have lt : ∀ q ∈ (t, ({ cls := .type "tuple", data := .seq [.str kind tk, .int p tp].toArray } : Obj)) :: news, q.1 < e := fun q hq => by
    rcases List.mem_cons.mp hq with e1 | hq
    · rw [e1]; exact l2
    · exact Nat.lt_trans (l1 q hq) l2
  have w1 : (Code.builtin "type.__call__" ⟨[.ref C, .str kind tk, .int p tp], []⟩).weight = 1 := by rfl
  have u1 : (Code.builtin "type.__call__" ⟨[.ref C, .str kind tk, .int p tp], []⟩).cUnits = 1 := by rfl
  k_dflt (refine' einit2_c ?k1 ?k2 ?k3 ?k4 ?k5 ?kK ?kd ?ku ?hne ?hC ?_; (case kK => assumption); (case k1 => k_asm); (case k2 => k_asm); (case k3 => k_asm); (case k4 => exact N'); (case k5 => k_asm); (case kd => (dsimp only [ktrTop]; omega)); (case ku => (dsimp only [ktrTop]; omega)); (case hne => exact lt_ne lt); (case hC => exact hC))
  intro d c1 c2 c3 tk tp td h'' tk' F'' N'' l3 l4
  exact ⟨rfl, ret e t d _ _ _ _ _ _ _ _ _ F'' N'' l2 l3 l1⟩
theorem errmk1_c {C : Addr} {cd : ClassData} {kind : Str} {tk : Tok} (B : Below A₀ base outer h₀) (F : Fr h₀ L s.heap m) (X : (KH w.params).In h₀) (N : News h₀ L s.heap news) (T : Top VW (looseW VW [Str.ofString "GateloomError"]) mean mg mb h₀) (hk : cs.kind = .function) (hdp : dp + 2 < recursionLimit) (hun : un + 16 < cLine) (hC : ExcCls (KH w.params) C cd)
    (ret : ∀ e t d o c1 c2 c3 tk tp td h' tk', Fr h₀ L h' m → News h₀ L h' ((e, excO C t (some d)) :: (d, errDict w c1 c2 c3 kind tk (-1) tp "" td) :: (t, o) :: news) → @LT.lt Nat _ t e → @LT.lt Nat _ e d → (∀ q ∈ news, q.1 < t) → Q (.ref e) {s with heap := h', toks := tk'}) :
    wpAny (model PySem.Challenge.rw_pq0460_01.row.prog w) (ktrTop dp un gd cn cs L a ccd cl outer) (call (.ref C) [.str kind tk]) Q E s := by
  obtain ⟨nm, q, Nn, bs, bm, hdct, sn, sub, ab, col, dd, k0, k1, k2, k3, k5, h1, h2, h3, h4, h5⟩ := hC.lk
  refine exc_call PySem.F.excBase_Exception h2 h3 h4 F X N h1 hC.init hC.fn (fun e t h' F' N' l1 l2 => ?_) (by size_fits)
  have lt : ∀ q ∈ (t, ({ cls := .type "tuple", data := .seq [.str kind tk].toArray } : Obj)) :: news, q.1 < e := fun q hq => by
    rcases List.mem_cons.mp hq with e1 | hq
    · rw [e1]; exact l2
    · exact Nat.lt_trans (l1 q hq) l2
  have w1 : (Code.builtin "type.__call__" ⟨[.ref C, .str kind tk], []⟩).weight = 1 := by rfl
  have u1 : (Code.builtin "type.__call__" ⟨[.ref C, .str kind tk], []⟩).cUnits = 1 := by rfl
  k_dflt (refine' einit1_c ?k1 ?k2 ?k3 ?k4 ?k5 ?kK ?kd ?ku ?hne ?hC ?_; (case kK => assumption); (case k1 => k_asm); (case k2 => k_asm); (case k3 => k_asm); (case k4 => exact N'); (case k5 => k_asm); (case kd => (dsimp only [ktrTop]; omega)); (case ku => (dsimp only [ktrTop]; omega)); (case hne => exact lt_ne lt); (case hC => exact hC))
  intro d c1 c2 c3 tk tp td h'' tk' F'' N'' l3 l4
  exact ⟨rfl, ret e t d _ _ _ _ _ _ _ _ _ F'' N'' l2 l3 l1⟩
end
end
section
open PySem PySem.W PySem.Calls PyProof.Rows
set_option maxRecDepth 100000
set_option maxHeartbeats 400000
section
variable {M : Model} {A : Around} {E : Value → Shared → Prop} {s : Shared} {env : Env} {h₀ : Heap} {L : Addr} {K : Frag} {C : Addr} {cd : ClassData}
def RaiseTo (h₀ : Heap) (L : Addr) (C : Addr) (E : Value → Shared → Prop) (v : Value) (s₁ : Shared) : Prop :=
  ∃ e t dx od rest m', v = .ref e ∧ Fr h₀ L s₁.heap m' ∧ News h₀ L s₁.heap ((e, excO C t (some dx)) :: (dx, od) :: rest) ∧ E (.ref e) s₁
theorem Raise_own {x : Expr} {pos : Pos} {Q : Flow → Shared → Prop} {m : Str → Option Value} (_F : Fr h₀ L s.heap m) (X₀ : K.In h₀) (hC : ExcCls K C cd) (hh : A.handled = none)
    (h : wpAny M A (eval x env) (RaiseTo h₀ L C E) E s) : wpAny M A (exec (.Raise (some x) none pos) env) Q E s := by
  obtain ⟨nm, q, Nn, bs, bm, hdct, sn, sub, ab, col, dd, k0, k1, k2, k3, k5, h1, h2, h3, h4, h5⟩ := hC.lk
  refine Raise_exc (nm := nm) (q := q) (C := C) (Nn := Nn) (bs := bs) (bm := bm) (hdct := hdct) (sn := sn) (sub := sub) (ab := ab) (col := col) (dd := dd) (k0 := k0) (k1 := k1) (k2 := k2) (k3 := k3) (k5 := k5) (newId := "Exception.__new__") h5 hh (wpAny_mono h (fun v s₁ p => ?_) fun _ _ x => x)
  obtain ⟨e, t, dx, od, rest, m', rfl, F, N, hE⟩ := p
  exact ⟨e, t, some dx, rfl, F.keep _ _ (X₀ _ _ h1), (N _ (.head _)).1, hE⟩
end
/-- what the raised fault's own dict says -/
def ErrIs (w : World) (n : Nat) (od : Obj) : Prop := ∃ c1 c2 c3 kind tk p tp td, od = errDict w c1 c2 c3 kind tk p tp "" td ∧ kind.length ≤ 20 ∧ 0 ≤ p ∧ p ≤ n
theorem ErrIs.mk' {w : World} {n : Nat} {c1 c2 c3 : Tok} {kind : Str} {tk : Tok} {p : Int} {tp td : Tok} (h1 : kind.length ≤ 20) (h2 : 0 ≤ p) (h3 : p ≤ n) : ErrIs w n (errDict w c1 c2 c3 kind tk p tp "" td) := ⟨_, _, _, _, _, _, _, _, rfl, h1, h2, h3⟩
end
local macro_rules | `(tactic| walk_at "call ref") => `(tactic| (k_here; (with_reducible show wpAny _ _ (call (Value.ref 201) _ _) _ _ _); k_dflt (apply char_c; walk_at "@8"; omega; omega; omega; k_whole); intro t' h' tk' F' N'; (try k_sweep)))
local macro_rules | `(tactic| walk_at "call ref") => `(tactic| (k_here; (with_reducible show wpAny _ _ (call (Value.ref 208) _ _) _ _ _); k_dflt (apply pair_c; walk_at "@8"; omega; omega; omega; k_whole); intro t' h' tk' F' N'; (try k_sweep)))
local macro_rules | `(tactic| walk_at "call ref") => `(tactic| (k_here; (with_reducible show wpAny _ _ (call (Value.ref 243) _ _) _ _ _); (refine pair_no "//" (by assumption) (by assumption) ?_ (by decide); omega)))
local macro_rules | `(tactic| walk_at "call ref") => `(tactic| (k_here; (with_reducible show wpAny _ _ (call (Value.ref 250) _ _) _ _ _); (refine pair_no "/*" (by assumption) (by assumption) ?_ (by decide); omega)))
local macro_rules | `(tactic| walk_at "call ref") => `(tactic| (k_here; (with_reducible show wpAny _ _ (call (Value.ref 222) _ _) _ _ _); (refine pair_no "(*" (by assumption) (by assumption) ?_ (by decide); omega)))
section
open PySem PySem.W PyProof.Rows
set_option maxRecDepth 100000
set_option maxHeartbeats 1000000
local macro_rules | `(tactic| walk_at "exec While") => `(tactic| (k_here; (with_reducible rename Fr _ _ _ _ => lF'); (with_unfolding_all refine' skip_while ?F ?N ?h0 ?h9 ?_ ?hE; (case F => exact lF'); (case N => k_asm); (case h0 => omega); (case h9 => omega); (case hE => first | passes_own | with_unfolding_all passes_own)); intro c' t' v1' v2' h' tk' hc0' hc1' F' N'; (try k_sweep)))
section
variable {w : World} {mean : ExcName → Option Value} {mg mb : Str → Option Value} {dp un : Nat} {gd : Option (List Code)} {cn : Str} {cs : Scope} {a : Addr} {ccd : Value} {cl : List (Str × Addr)} {outer : List Env} {A₀ : Around} {base h₀ : Heap} {L : Addr} {m : Str → Option Value} {news : List (Addr × Obj)} {s : Shared} {Q E : Value → Shared → Prop}
theorem skip_c {x dx kd : Addr} {k1 k2 k3 k4 ts tp : Tok} {src : Str} {p : Int} (B : Below A₀ base outer h₀) (F : Fr h₀ L s.heap m) (X : (KH w.params).In h₀) (N : News h₀ L s.heap ((x, instObj 330 dx) :: (dx, lexDict w k1 k2 k3 k4 src ts p tp kd) :: news)) (T : Top VW (looseW VW [Str.ofString "GateloomError"]) mean mg mb h₀) (hk : cs.kind = .function) (hdp : dp + 2 < recursionLimit) (hun : un + 24 < cLine) (G : Good src) (hp0 : 0 ≤ p) (hp1 : p ≤ src.length + 2) (hlen : src.length ≤ 48) (hxd : @LT.lt Nat _ dx x) (hnn : ∀ q ∈ news, q.1 ≠ dx)
    (ret : ∀ p' tp' h' tk', p ≤ p' → p' ≤ src.length + 2 → Fr h₀ L h' m → News h₀ L h' ((x, instObj 330 dx) :: (dx, lexDict w k1 k2 k3 k4 src ts p' tp' kd) :: news) → Q .none {s with heap := h', toks := tk'}) :
    wpAny (model PySem.Challenge.rw_pq0460_01.row.prog w) (ktrTop dp un gd cn cs L a ccd cl outer) (call (.ref 236) [.ref x]) Q E s := by
  revert X; k_fill; intro X
  refine wpAny_call ?_
  k_dflt cell_enter
  k_steps
  all_goals try first
    | exact ret _ _ _ _ (by omega) (by omega) (by k_asm) (by k_asm)
    | (refine layout_use (by assumption) fun hq => ?_; have hq := hq (by omega); (with_reducible show SkipPost _ _ _ _ _ _ _ _ _ _ _ _ _ _ _ _ _ _ _); refine' skipPost_next ?F ?N ?hm ?h1 ?h2; (case F => k_asm); (case N => k_asm); (case hm => (intro z hz hy; simp only [skipMap, hz, hy, if_false])); (case h1 => omega); (case h2 => omega))
  all_goals (dsimp only [SkipPost]; k_steps)
  all_goals try exact ret _ _ _ _ (by omega) (by omega) (by k_asm) (by k_asm)
end
end
local macro_rules | `(tactic| walk_at "call ref") => `(tactic| (k_here; (with_reducible show wpAny _ _ (call (Value.ref 158) _ _) _ _ _); k_dflt (apply is_digit_c; walk_at "@8"; k_whole); intro h' tk' F' N'; (try k_sweep)))
local macro_rules | `(tactic| walk_at "@pad2") => `(tactic| skip)
section
open PySem PySem.W PyProof.Rows
set_option maxRecDepth 100000
set_option maxHeartbeats 1000000
section
variable {w : World} {mean : ExcName → Option Value} {mg mb : Str → Option Value} {dp un : Nat} {gd : Option (List Code)} {cn : Str} {cs : Scope} {a : Addr} {ccd : Value} {cl : List (Str × Addr)} {outer : List Env} {A₀ : Around} {base h₀ : Heap} {L : Addr} {m : Str → Option Value} {news : List (Addr × Obj)} {s : Shared} {Q E : Value → Shared → Prop}
theorem is_real_c {x dx kd : Addr} {k1 k2 k3 k4 ts tp : Tok} {src : Str} {p : Int} {i : Int} {t : Tok} (B : Below A₀ base outer h₀) (F : Fr h₀ L s.heap m) (X : (KH w.params).In h₀) (N : News h₀ L s.heap ((x, instObj 330 dx) :: (dx, lexDict w k1 k2 k3 k4 src ts p tp kd) :: news)) (T : Top VW (looseW VW [Str.ofString "GateloomError"]) mean mg mb h₀) (hk : cs.kind = .function) (hdp : dp + 2 < recursionLimit) (hun : un + 24 < cLine) (hi0 : 0 ≤ i) (hi1 : i ≤ 60) (hlen : src.length ≤ 48) (G : Good src)
    (ret : ∀ h' tk', Fr h₀ L h' m → News h₀ L h' ((x, instObj 330 dx) :: (dx, lexDict w k1 k2 k3 k4 src ts p tp kd) :: news) → Q (.bool false) {s with heap := h', toks := tk'}) :
    wpAny (model PySem.Challenge.rw_pq0460_01.row.prog w) (ktrTop dp un gd cn cs L a ccd cl outer) (call (.ref 292) [.ref x, .int i t]) Q E s := by
  revert X; k_fill; intro X
  refine wpAny_call ?_
  k_dflt cell_enter
  k_steps
  all_goals first
    | exact ret _ _ (by k_asm) (by (first | k_asm | exact news_tl (by assumption) | exact news_tl (news_tl (by assumption)) | exact news_tl (news_tl (news_tl (by assumption))) | exact news_ap (by assumption) | exact news_tl (news_ap (by assumption))))
    | exact char_no "." (by assumption) G hi0 (by decide)
    | exact any_no (by assumption) G hi0 (by decide)
theorem fits_base_c {x y : Str} {t1 t2 : Tok} (B : Below A₀ base outer h₀) (F : Fr h₀ L s.heap m) (X : (KH w.params).In h₀) (N : News h₀ L s.heap news) (T : Top VW (looseW VW [Str.ofString "GateloomError"]) mean mg mb h₀) (hk : cs.kind = .function) (hdp : dp + 2 < recursionLimit) (hun : un + 24 < cLine)
    (ret : ∀ b h' tk', Fr h₀ L h' m → News h₀ L h' news → Q (.bool b) {s with heap := h', toks := tk'}) :
    wpAny (model PySem.Challenge.rw_pq0460_01.row.prog w) (ktrTop dp un gd cn cs L a ccd cl outer) (call (.ref 179) [.str x t1, .str y t2]) Q E s := by
  revert X; k_fill; intro X
  refine wpAny_call ?_
  k_dflt cell_enter
  k_steps
  all_goals first
    | exact ret _ _ _ (by k_asm) (by (first | k_asm | exact news_tl (by assumption) | exact news_tl (news_tl (by assumption)) | exact news_tl (news_tl (news_tl (by assumption))) | exact news_ap (by assumption) | exact news_tl (news_ap (by assumption))))
end
end
local macro_rules | `(tactic| walk_at "call ref") => `(tactic| (k_here; (with_reducible show wpAny _ _ (call (Value.ref 45) _ _) _ _ _); k_dflt (apply errmk2_c; walk_at "@8"; assumption; k_whole); intro e' t' d' o' c1' c2' c3' tk1' tp' td' h' tk' F' N' l1 l2 l3; (try k_sweep)))
local macro_rules | `(tactic| walk_at "call ref") => `(tactic| (k_here; (with_reducible show wpAny _ _ (call (Value.ref 140) _ _) _ _ _); k_dflt (apply token_c; walk_at "@8"; k_whole); intro tok' d' q1' q2' q3' h' tk' F' N' l1 l2; (try k_lt l1); (try k_lt2 l2); (try k_sweep)))
section
open PySem PySem.W PyProof.Rows
set_option maxRecDepth 100000
set_option maxHeartbeats 1000000
local macro_rules | `(tactic| walk_at "exec Raise some none") => `(tactic| (k_here; k_dflt (refine' Raise_own ?F ?X ?hC ?hh ?_; (case F => k_asm); (case X => k_asm); (case hC => assumption); (case hh => rfl); k_whole)))
local macro_rules | `(tactic| walk_at "RaiseTo") => `(tactic| (k_dflt (refine' ⟨_, _, _, _, _, _, rfl, ?F, ?N, ?_⟩; (case F => k_asm); (case N => k_asm)); k_unfold; (try dsimp only)))
local macro_rules | `(tactic| walk_at "leaving ref") => `(tactic| (k_here; k_dflt (refine' leave_raiseD ?K ?F ?N ?hne ?_; (case K => k_asm); (case F => k_asm); (case N => k_asm); (case hne => exact Nat.ne_of_lt (by assumption))); intro h' R' U'))
section
variable {w : World} {mean : ExcName → Option Value} {mg mb : Str → Option Value} {dp un : Nat} {gd : Option (List Code)} {cn : Str} {cs : Scope} {a : Addr} {ccd : Value} {cl : List (Str × Addr)} {outer : List Env} {A₀ : Around} {base h₀ : Heap} {L : Addr} {m : Str → Option Value} {news : List (Addr × Obj)} {s : Shared} {Q E : Value → Shared → Prop}
theorem operator_c {x dx kd : Addr} {k1 k2 k3 k4 ts tp : Tok} {src : Str} {p : Int} {i : Int} {t : Tok} (B : Below A₀ base outer h₀) (F : Fr h₀ L s.heap m) (X : (KH w.params).In h₀) (N : News h₀ L s.heap ((x, instObj 330 dx) :: (dx, lexDict w k1 k2 k3 k4 src ts p tp kd) :: news)) (T : Top VW (looseW VW [Str.ofString "GateloomError"]) mean mg mb h₀) (hk : cs.kind = .function) (hdp : dp + 3 < recursionLimit) (hun : un + 32 < cLine) (hi0 : 0 ≤ i) (hi1 : i < src.length) (hlen : src.length ≤ 48) (hxd : @LT.lt Nat _ dx x) (hnn : ∀ q ∈ news, q.1 ≠ dx)
    (ret : ∀ tok d c1 c2 c3 kind tk v q tq (p' : Int) tp' h' tk', 0 ≤ p' → p' ≤ src.length + 2 → Fr h₀ L h' m → News h₀ L h' ((tok, instObj 140 d) :: (d, tokDict w c1 c2 c3 kind tk v q tq) :: (x, instObj 330 dx) :: (dx, lexDict w k1 k2 k3 k4 src ts p' tp' kd) :: news) → @LT.lt Nat _ x d → @LT.lt Nat _ d tok → (∀ p ∈ news, p.1 < d) → kind.length ≤ 3 → Q (.ref tok) {s with heap := h', toks := tk'})
    (exc : ∀ e d od g h' tk', Fr h₀ L g m → g.UpToSlots h' → RaisedD base g (envX cn cs L a ccd cl :: outer) e 45 d od h' → ErrIs w src.length od → E (.ref e) {s with heap := h', toks := tk'}) :
    wpAny (model PySem.Challenge.rw_pq0460_01.row.prog w) (ktrTop dp un gd cn cs L a ccd cl outer) (call (.ref 327) [.ref x, .int i t]) Q E s := by
  revert X; k_fill; intro X
  refine wpAny_call ?_
  k_dflt cell_enter
  have hl1 := charS_len src hi0
  have hl2 := pairS_len src hi0
  have hl3 := slice_len src (i := i) (j := i + 3) hi0 (by omega)
  obtain ⟨cd45, hC45⟩ := cls45 w
  k_steps
  all_goals first
    | (refine' ret _ _ _ _ _ _ _ _ _ _ _ _ _ _ ?b1 ?b2 ?kF ?kN ?b3 ?b4 ?al ?kl; (case kF => k_asm); (case kN => first | k_asm | exact news_mid (by assumption) | exact news_mid (news_mid (by assumption))); (case b1 => omega); (case b2 => omega); (case b3 => omega); (case b4 => omega); (case al => (first | assumption | exact allLt_lt (by assumption) | exact allLt_lt (And.right (And.right (by assumption))) | exact allLt_lt (And.right (And.right (And.right (by assumption)))) | exact allLt_lt (And.right (And.right (And.right (And.right (by assumption))))))); (case kl => first | assumption | decide))
    | exact exc _ _ _ _ _ _ (by k_asm) (by k_asm) (by k_asm) (ErrIs.mk' (by decide) (by omega) (by omega))
end
end
local macro_rules | `(tactic| walk_at "call ref") => `(tactic| (k_here; (with_reducible show wpAny _ _ (call (Value.ref 165) _ _) _ _ _); k_dflt (apply is_word_c; walk_at "@8"; k_whole); intro h' tk' F' N'; (try k_sweep)))
local macro_rules | `(tactic| walk_at "call ref") => `(tactic| (k_here; (with_reducible show wpAny _ _ (call (Value.ref 215) _ _) _ _ _); k_dflt (apply past_layout_c; walk_at "@8"; omega; omega; omega; k_whole); intro j' t' h' tk' hj0' hj1' F' N'; (try k_sweep)))
local macro_rules | `(tactic| walk_at "call ref") => `(tactic| (k_here; (with_reducible show wpAny _ _ (call (Value.ref 179) _ _) _ _ _); k_dflt (apply fits_base_c; walk_at "@8"; k_whole); intro bf' h' tk' F' N'; (try k_sweep)))
section
open PySem PySem.W PyProof.Rows
set_option maxRecDepth 100000
set_option maxHeartbeats 1000000
local macro_rules | `(tactic| walk_at "exec Raise some none") => `(tactic| (k_here; k_dflt (refine' Raise_own ?F ?X ?hC ?hh ?_; (case F => k_asm); (case X => k_asm); (case hC => assumption); (case hh => rfl); k_whole)))
local macro_rules | `(tactic| walk_at "RaiseTo") => `(tactic| (k_dflt (refine' ⟨_, _, _, _, _, _, rfl, ?F, ?N, ?_⟩; (case F => k_asm); (case N => k_asm)); k_unfold; (try dsimp only)))
local macro_rules | `(tactic| walk_at "leaving ref") => `(tactic| (k_here; k_dflt (refine' leave_raiseD ?K ?F ?N ?hne ?_; (case K => k_asm); (case F => k_asm); (case N => k_asm); (case hne => exact Nat.ne_of_lt (by assumption))); intro h' R' U'))
local macro_rules | `(tactic| walk_at "exec While") => `(tactic| (k_here; (with_reducible rename Fr _ _ _ _ => lF'); (with_unfolding_all refine' lex_whileL (Str.ofString "end") ?F ?N ?hy ?h0 ?_ ?hE; (case F => exact lF'); (case N => k_asm); (case hy => exact rfl); (case h0 => omega); (case hE => first | passes_own | with_unfolding_all passes_own)); intro c' t' h' tk' hc0' hc1' F' N'; (try k_sweep)))
local macro_rules | `(tactic| walk_at "call builtin:str.lower") => `(tactic| (k_here; (refine PyProof.Rows.SCL.lower (by first | omega | exact Nat.le_trans (charS_len _ (by omega)) (by decide)) ?_); intro hlw'; (try dsimp only)))
local macro_rules | `(tactic| walk_at "exec Assign") => `(tactic| (k_here; first | exact any_no (by assumption) (by assumption) (by omega) (by decide) | exact char_no "?" (by assumption) (by assumption) (by omega) (by decide)))
section
variable {w : World} {mean : ExcName → Option Value} {mg mb : Str → Option Value} {dp un : Nat} {gd : Option (List Code)} {cn : Str} {cs : Scope} {a : Addr} {ccd : Value} {cl : List (Str × Addr)} {outer : List Env} {A₀ : Around} {base h₀ : Heap} {L : Addr} {m : Str → Option Value} {news : List (Addr × Obj)} {s : Shared} {Q E : Value → Shared → Prop}
theorem based_c {x dx kd : Addr} {k1 k2 k3 k4 ts tp : Tok} {src : Str} {p : Int} {i q : Int} {z : Str} {t t2 t3 : Tok} (B : Below A₀ base outer h₀) (F : Fr h₀ L s.heap m) (X : (KH w.params).In h₀) (N : News h₀ L s.heap ((x, instObj 330 dx) :: (dx, lexDict w k1 k2 k3 k4 src ts p tp kd) :: news)) (T : Top VW (looseW VW [Str.ofString "GateloomError"]) mean mg mb h₀) (hk : cs.kind = .function) (hdp : dp + 4 < recursionLimit) (hun : un + 40 < cLine) (hi0 : 0 ≤ i) (hi1 : i ≤ src.length) (hq0 : 0 ≤ q) (hq1 : q < src.length) (G : Good src) (hlen : src.length ≤ 48) (hxd : @LT.lt Nat _ dx x) (hnn : ∀ q ∈ news, q.1 ≠ dx)
    (ret : ∀ tok d c1 c2 c3 kind tk v q tq (p' : Int) tp' h' tk', 0 ≤ p' → p' ≤ src.length + 2 → Fr h₀ L h' m → News h₀ L h' ((tok, instObj 140 d) :: (d, tokDict w c1 c2 c3 kind tk v q tq) :: (x, instObj 330 dx) :: (dx, lexDict w k1 k2 k3 k4 src ts p' tp' kd) :: news) → @LT.lt Nat _ x d → @LT.lt Nat _ d tok → (∀ p ∈ news, p.1 < d) → kind.length ≤ 3 → Q (.ref tok) {s with heap := h', toks := tk'})
    (exc : ∀ e d od g h' tk', Fr h₀ L g m → g.UpToSlots h' → RaisedD base g (envX cn cs L a ccd cl :: outer) e 45 d od h' → ErrIs w src.length od → E (.ref e) {s with heap := h', toks := tk'}) :
    wpAny (model PySem.Challenge.rw_pq0460_01.row.prog w) (ktrTop dp un gd cn cs L a ccd cl outer) (call (.ref 299) [.ref x, .int i t, .int q t2, .str z t3]) Q E s := by
  revert X; k_fill; intro X
  refine wpAny_call ?_
  k_dflt cell_enter
  obtain ⟨cd45, hC45⟩ := cls45 w
  k_steps
  all_goals first
    | (refine' ret _ _ _ _ _ _ _ _ _ _ _ _ _ _ ?b1 ?b2 ?kF ?kN ?b3 ?b4 ?al ?kl; (case kF => k_asm); (case kN => first | k_asm | exact news_mid (by assumption) | exact news_mid (news_mid (by assumption))); (case b1 => omega); (case b2 => omega); (case b3 => omega); (case b4 => omega); (case al => (first | assumption | exact allLt_lt (by assumption) | exact allLt_lt (And.right (And.right (by assumption))) | exact allLt_lt (And.right (And.right (And.right (by assumption)))) | exact allLt_lt (And.right (And.right (And.right (And.right (by assumption))))))); (case kl => first | assumption | decide))
    | exact exc _ _ _ _ _ _ (by k_asm) (by k_asm) (by k_asm) (ErrIs.mk' (by decide) (by omega) (by omega))
    | (refine word_use (by assumption) fun hq => ?_; have hq := hq (by omega); ((with_reducible show LexPost _ _ _ _ _ _ _ _ _ _ _); refine' lexPost_next ?F ?N ?hy ?hm ?h1 ?h2; (case F => k_asm); (case N => k_asm); (case hy => exact rfl); (case hm => (intro z hz; simp only [hz, if_false])); (case h1 => omega); (case h2 => (omega))))
end
end
section
open PySem PySem.W PyProof.Rows Builtin Builtin.Str
set_option maxRecDepth 100000
set_option maxHeartbeats 400000
theorem occ_empty {x : Str} (h : 95 ∉ x.cps.toList) : (occurrences x "_" 0 x.length (x.length + 1)).isEmpty = true := by
  have e : ("_" : Str) = ⟨#[95]⟩ := by decide +kernel
  rcases StrLaws.occ_head x "_" (x.length + 1) (by omega) with ⟨h0, _⟩ | ⟨i, r, _, hA, _⟩
  · rw [h0]; rfl
  · exfalso
    have h1 := (StrLaws.found_iff x "_").mpr ⟨i, hA.1, hA.2⟩
    rw [e, StrLaws.found_one] at h1
    exact h (of_decide_eq_true h1)
theorem replace_none {prog : Program} {w : World} {A : Around} {E : Value → Shared → Prop} {s : Shared} {x : Str} {t u v : Tok} {Q : Value → Shared → Prop} (h : 95 ∉ x.cps.toList) (hq : Q (.str x t) s) :
    wpAny (model prog w) A (call (.builtin "str.replace") [.str x t, .str "_" u, .str "" v]) Q E s := by
  have h := occ_empty h
  refine call_gives F.slot_str_replace (typeIs_str _ _ _) F.entry_str_replace (F.args_str_replace_3 _ _ _) (gives_str_replace x "_" "" t u v (fun hc => by rw [h] at hc; simp at hc)) ?_
  rw [h]
  simp only [Bool.true_or, if_true]
  exact hq
theorem charS_code {src : Str} {i : Int} (h : 0 ≤ i) {lit : Str} {c : Nat} (hl : lit.cps.toList = [c]) : charS src i = lit ↔ src.cps.toList[i.toNat]? = some c := by
  constructor
  · intro e
    have e2 := charS_list src h
    rw [e, hl] at e2
    cases hd : src.cps.toList.drop i.toNat with
    | nil => rw [hd] at e2; simp at e2
    | cons a r =>
      rw [hd] at e2
      simp at e2
      have : src.cps.toList[i.toNat]? = (src.cps.toList.drop i.toNat)[0]? := by simp
      rw [this, hd, ← e2]; rfl
  · intro e
    apply str_ext
    rw [charS_list src h, hl]
    have hlt : i.toNat < src.cps.toList.length := (List.getElem?_eq_some_iff.mp e).1
    rw [List.drop_eq_getElem_cons hlt]
    simp only [List.take_succ_cons, List.take_zero]
    rw [(List.getElem?_eq_some_iff.mp e).2]
theorem under_x {src : Str} (G : Good src) {i : Int} (h : 0 ≤ i) (e : charS src i = "_") : 1 ≤ i ∧ charS src (i - 1) = "x" := by
  have h1 := (charS_code h (c := 95) (by decide)).mp e
  obtain ⟨j, hj, hx⟩ := G.2.2 _ h1
  refine ⟨by omega, (charS_code (by omega) (c := 120) (by decide)).mpr ?_⟩
  rw [show (i - 1).toNat = j by omega]; exact hx
theorem char_in_b {src : Str} {i : Int} (e : (charS src i == ("" : Str)) = false) (h : 0 ≤ i) : i < src.length := charS_in src h fun q => by rw [q] at e; revert e; decide
def DigRun (src : Str) (a c : Int) : Prop := ∀ k, a ≤ k → k < c → isDigitB (charS src k) = true
theorem DigRun.zero (src : Str) (a : Int) : DigRun src a a := fun k h1 h2 => by omega
theorem DigRun.snoc {src : Str} {a c : Int} (R : DigRun src a c) (h : isDigitB (charS src c) = true) : DigRun src a (c + 1) := fun k h1 h2 => by
  by_cases hk : k < c
  · exact R k h1 hk
  · have e : k = c := by omega
    rw [e]; exact h
theorem DigRun.no {src : Str} {a c : Int} {P : Prop} (e : (charS src c == ("_" : Str)) = true) (G : Good src) (R : DigRun src a c) (h0 : 0 ≤ a) (hac : a ≤ c) (hd : isDigitB (charS src a) = true) : P := by
  exfalso
  have e := beq_iff_eq.mp e
  obtain ⟨h1, h2⟩ := under_x G (by omega) e
  by_cases hc : a = c
  · rw [hc, e] at hd; revert hd; decide
  · have := R (c - 1) (by omega) (by omega)
    rw [h2] at this; revert this; decide
theorem DigRun.free {src : Str} {a c : Int} (R : DigRun src a c) (h0 : 0 ≤ a) (hac : a ≤ c) : 95 ∉ (Txt.slice src (some a) (some c)).cps.toList := by
  intro hm
  rw [slice_list src a c h0 hac] at hm
  obtain ⟨n, hn⟩ := List.mem_iff_getElem?.mp hm
  rw [List.getElem?_take] at hn
  split at hn
  · rename_i hlt
    rw [List.getElem?_drop] at hn
    have e := (charS_code (src := src) (i := a + n) (by omega) (lit := "_") (c := 95) (by decide)).mpr (by rw [show (a + (n : Int)).toNat = a.toNat + n by omega]; exact hn)
    have := R (a + n) (by omega) (by omega)
    rw [e] at this; revert this; decide
  · cases hn
section
variable {prog : Program} {w : World} {A : Around} {E : Value → Shared → Prop} {Q : Flow → Shared → Prop} {s : Shared} {env : Env} {h₀ : Heap} {L : Addr} {news : List (Addr × Obj)}
def DigPost (h₀ : Heap) (L : Addr) (s : Shared) (news : List (Addr × Obj)) (y : Str) (m₀ : Str → Option Value) (src : Str) (a : Int) (Q : Flow → Shared → Prop) (c : Int) (f : Flow) (s₂ : Shared) : Prop :=
  match f with
  | .ret v => Q (.ret v) s₂
  | .brk => Q .next s₂
  | _ => ∃ c' t' h' tk, s₂ = { s with heap := h', toks := tk } ∧ Fr h₀ L h' (fun z => if z = y then some (.int c' t') else m₀ z) ∧ News h₀ L h' news ∧ c < c' ∧ c' ≤ max a src.length ∧ DigRun src a c'
theorem digPost_next {y : Str} {m₀ m' : Str → Option Value} {src : Str} {a c c' : Int} {t' : Tok} {h' : Heap} {tk : Nat} (F : Fr h₀ L h' m') (N : News h₀ L h' news) (hy : m' y = some (.int c' t')) (hm : ∀ z, z ≠ y → m' z = m₀ z) (h1 : c < c') (h2 : c' ≤ max a src.length) (h3 : DigRun src a c') :
    DigPost h₀ L s news y m₀ src a Q c .next { s with heap := h', toks := tk } := by
  refine ⟨c', t', h', tk, rfl, ?_, N, h1, h2, h3⟩
  have e : (fun z => if z = y then some (.int c' t') else m₀ z) = m' := by
    funext z
    by_cases hz : z = y
    · rw [if_pos hz, hz, hy]
    · rw [if_neg hz, hm z hz]
  rw [e]; exact F
theorem dig_while {test : Expr} {body : List Stmt} {pos : Pos} {m₀ : Str → Option Value} (y : Str) {src : Str} {c₀ : Int} {t₀ : Tok} (_G : Good src)
    (F : Fr h₀ L s.heap m₀) (N : News h₀ L s.heap news) (hy : m₀ y = some (.int c₀ t₀))
    (turn : ∀ c t h tk, c₀ ≤ c → c ≤ max c₀ src.length → DigRun src c₀ c → Fr h₀ L h (fun z => if z = y then some (.int c t) else m₀ z) → News h₀ L h news →
      wpAny (model prog w) A (isTrue test env (eval test env)) (fun b s₂ =>
        if b = true then wpAny (model prog w) A (execs body env) (DigPost h₀ L s news y m₀ src c₀ Q c) E s₂ else Q .next s₂) E { s with heap := h, toks := tk })
    (hE : PassesOwn (model prog w) A env E) :
    wpAny (model prog w) A (exec (.While test body [] pos) env) Q E s := by
  refine While_inv2 (fun k m nx => nx = news ∧ ∃ c t, m = (fun z => if z = y then some (.int c t) else m₀ z) ∧ c₀ ≤ c ∧ c ≤ max c₀ src.length ∧ DigRun src c₀ c ∧ k = (max c₀ src.length - c).toNat) (n₀ := (max c₀ src.length - c₀).toNat) F N ⟨rfl, c₀, t₀, ?_, Int.le_refl _, by omega, DigRun.zero _ _, rfl⟩ ?_ hE
  · funext z
    by_cases hz : z = y
    · rw [if_pos hz, hz, hy]
    · rw [if_neg hz]
  rintro k m₁ nx h tk F₁ N₁ ⟨rfl, c, t, rfl, h1, h2, hR, rfl⟩
  refine wpAny_mono (turn c t h tk h1 h2 hR F₁ N₁) (fun b s₂ p => ?_) fun _ _ x => x
  cases b with
  | false => simpa using p
  | true =>
    simp only [if_true] at p ⊢
    refine wpAny_mono p (fun f s₃ q => ?_) fun _ _ x => x
    cases f with
    | ret v => exact q
    | brk => exact q
    | next =>
      obtain ⟨c', t', h', tk', rfl, F', N', h3, h4, h5⟩ := q
      exact ⟨h', tk', _, _, (max c₀ src.length - c').toNat, rfl, F', N', by omega, rfl, c', t', rfl, by omega, h4, h5, rfl⟩
    | cont =>
      obtain ⟨c', t', h', tk', rfl, F', N', h3, h4, h5⟩ := q
      exact ⟨h', tk', _, _, (max c₀ src.length - c').toNat, rfl, F', N', by omega, rfl, c', t', rfl, by omega, h4, h5, rfl⟩
end
end
local macro_rules | `(tactic| walk_at "call ref") => `(tactic| (k_here; (with_reducible show wpAny _ _ (call (Value.ref 292) _ _) _ _ _); k_dflt (apply is_real_c; walk_at "@8"; omega; omega; omega; assumption; k_whole); intro h' tk' F' N'; (try k_sweep)))
local macro_rules | `(tactic| walk_at "call ref") => `(tactic| (k_here; (with_reducible show wpAny _ _ (call (Value.ref 299) _ _) _ _ _); k_dflt (apply based_c; walk_at "@8"; omega; omega; omega; (first | omega | exact eqb_use (by assumption) (by decide) (fun hq => by have := hq (by omega); omega)); assumption; omega; assumption; assumption; (all_goals k_whole)); (all_goals first | (intro tok' d' c1' c2' c3' kind' tk1' v' q' tq' p' tp' h' tk' hp0' hp1' F' N' l2' l3' l1 l4'; (try k_lt l1); (try k_sweep)) | (intro e' d' od' g' h' tk' FG' U' R' EI'; (try k_sweep)))))
section
open PySem PySem.W PyProof.Rows
set_option maxRecDepth 100000
set_option maxHeartbeats 1000000
local macro_rules | `(tactic| walk_at "exec Raise some none") => `(tactic| (k_here; k_dflt (refine' Raise_own ?F ?X ?hC ?hh ?_; (case F => k_asm); (case X => k_asm); (case hC => assumption); (case hh => rfl); k_whole)))
local macro_rules | `(tactic| walk_at "RaiseTo") => `(tactic| (k_dflt (refine' ⟨_, _, _, _, _, _, rfl, ?F, ?N, ?_⟩; (case F => k_asm); (case N => k_asm)); k_unfold; (try dsimp only)))
local macro_rules | `(tactic| walk_at "leaving ref") => `(tactic| (k_here; k_dflt (refine' leave_raiseD ?K ?F ?N ?hne ?_; (case K => k_asm); (case F => k_asm); (case N => k_asm); (case hne => exact Nat.ne_of_lt (by assumption))); intro h' R' U'))
local macro_rules | `(tactic| walk_at "leaving ref") => `(tactic| (k_here; k_dflt (refine' leave_onD ?K ?F ?R ?U ?_; (case K => k_asm); (case F => k_asm); (case R => k_asm); (case U => k_asm)); intro h' R' U'))
local macro_rules | `(tactic| walk_at "exec While") => `(tactic| (k_here; (with_reducible rename Fr _ _ _ _ => lF'); (with_unfolding_all refine' dig_while (Str.ofString "end") ?G ?F ?N ?hy ?_ ?hE; (case G => assumption); (case F => exact lF'); (case N => k_asm); (case hy => exact rfl); (case hE => first | passes_own | with_unfolding_all passes_own)); intro c' t' h' tk' hc0' hc1' hR' F' N'; (try k_sweep)))
local macro_rules | `(tactic| walk_at "call builtin:str.replace") => `(tactic| (k_here; k_dflt (refine' replace_none ?h ?_; (case h => exact DigRun.free (by assumption) (by omega) (by omega)))))
section
variable {w : World} {mean : ExcName → Option Value} {mg mb : Str → Option Value} {dp un : Nat} {gd : Option (List Code)} {cn : Str} {cs : Scope} {a : Addr} {ccd : Value} {cl : List (Str × Addr)} {outer : List Env} {A₀ : Around} {base h₀ : Heap} {L : Addr} {m : Str → Option Value} {news : List (Addr × Obj)} {s : Shared} {Q E : Value → Shared → Prop}
theorem number_c {x dx kd : Addr} {k1 k2 k3 k4 ts tp : Tok} {src : Str} {p : Int} {i : Int} {t : Tok} (B : Below A₀ base outer h₀) (F : Fr h₀ L s.heap m) (X : (KH w.params).In h₀) (N : News h₀ L s.heap ((x, instObj 330 dx) :: (dx, lexDict w k1 k2 k3 k4 src ts p tp kd) :: news)) (T : Top VW (looseW VW [Str.ofString "GateloomError"]) mean mg mb h₀) (hk : cs.kind = .function) (hdp : dp + 5 < recursionLimit) (hun : un + 48 < cLine) (hi0 : 0 ≤ i) (hi1 : i < src.length) (hdg : isDigitB (charS src i) = true) (G : Good src) (hlen : src.length ≤ 48) (hxd : @LT.lt Nat _ dx x) (hnn : ∀ q ∈ news, q.1 ≠ dx)
    (ret : ∀ tok d c1 c2 c3 kind tk v q tq (p' : Int) tp' h' tk', 0 ≤ p' → p' ≤ src.length + 2 → Fr h₀ L h' m → News h₀ L h' ((tok, instObj 140 d) :: (d, tokDict w c1 c2 c3 kind tk v q tq) :: (x, instObj 330 dx) :: (dx, lexDict w k1 k2 k3 k4 src ts p' tp' kd) :: news) → @LT.lt Nat _ x d → @LT.lt Nat _ d tok → (∀ p ∈ news, p.1 < d) → kind.length ≤ 3 → Q (.ref tok) {s with heap := h', toks := tk'})
    (exc : ∀ e d od g h' tk', Fr h₀ L g m → g.UpToSlots h' → RaisedD base g (envX cn cs L a ccd cl :: outer) e 45 d od h' → ErrIs w src.length od → E (.ref e) {s with heap := h', toks := tk'}) :
    wpAny (model PySem.Challenge.rw_pq0460_01.row.prog w) (ktrTop dp un gd cn cs L a ccd cl outer) (call (.ref 285) [.ref x, .int i t]) Q E s := by
  revert X; k_fill; intro X
  refine wpAny_call ?_
  k_dflt cell_enter
  obtain ⟨cd45, hC45⟩ := cls45 w
  k_steps
  all_goals first
    | (refine' ret _ _ _ _ _ _ _ _ _ _ _ _ _ _ ?b1 ?b2 ?kF ?kN ?b3 ?b4 ?al ?kl; (case kF => k_asm); (case kN => first | k_asm | exact news_mid (by assumption) | exact news_mid (news_mid (by assumption))); (case b1 => omega); (case b2 => omega); (case b3 => omega); (case b4 => omega); (case al => (first | assumption | exact allLt_lt (by assumption) | exact allLt_lt (And.right (And.right (by assumption))) | exact allLt_lt (And.right (And.right (And.right (by assumption)))) | exact allLt_lt (And.right (And.right (And.right (And.right (by assumption))))))); (case kl => first | assumption | decide))
    | exact exc _ _ _ _ _ _ (by k_asm) (by k_asm) (by k_asm) (ErrIs.mk' (by decide) (by omega) (by omega))
    | exact exc _ _ _ _ _ _ (by k_asm) (by k_asm) (by k_asm) (by assumption)
    | (((with_reducible show DigPost _ _ _ _ _ _ _ _ _ _ _ _)); first
      | exact DigRun.no (by assumption) (by assumption) (by assumption) (by omega) (by omega) (by assumption)
      | (refine digit_use (by assumption) fun hq => ?_; have hq := hq (by omega); refine' digPost_next ?F ?N ?hy ?hm ?h1 ?h2 ?h3; (case F => k_asm); (case N => k_asm); (case hy => exact rfl); (case hm => (intro z hz; simp only [hz, if_false])); (case h1 => omega); (case h2 => omega); (case h3 => exact DigRun.snoc (by assumption) (by assumption))))
end
end
local macro_rules | `(tactic| walk_at "call ref") => `(tactic| (k_here; (with_reducible show wpAny _ _ (call (Value.ref 151) _ _) _ _ _); k_dflt (apply is_letter_c; walk_at "@8"; k_whole); intro h' tk' F' N'; (try k_sweep)))
local macro_rules | `(tactic| walk_at "call ref") => `(tactic| (k_here; (with_reducible show wpAny _ _ (call (Value.ref 236) _ _) _ _ _); k_dflt (apply skip_c; walk_at "@8"; assumption; omega; omega; omega; assumption; assumption; k_whole); intro p' tp' h' tk' hp0' hp1' F' N'; (try k_sweep)))
local macro_rules | `(tactic| walk_at "call ref") => `(tactic| (k_here; (with_reducible show wpAny _ _ (call (Value.ref 264) _ _) _ _ _); k_dflt (apply word_c; walk_at "@8"; omega; (first | omega | exact char_in_b (by assumption) (by omega) | exact Int.le_of_lt (char_in_b (by assumption) (by omega))); omega; assumption; assumption; assumption; assumption; k_whole); intro tok' d' c1' c2' c3' kind' tk1' v' q' tq' p' tp' h' tk' hp0' hp1' F' N' l2' l3' l1 l4'; (try k_lt l1); (try k_sweep)))
local macro_rules | `(tactic| walk_at "call ref") => `(tactic| (k_here; (with_reducible show wpAny _ _ (call (Value.ref 285) _ _) _ _ _); k_dflt (apply number_c; walk_at "@8"; omega; (first | omega | exact char_in_b (by assumption) (by omega) | exact Int.le_of_lt (char_in_b (by assumption) (by omega))); assumption; assumption; omega; assumption; assumption; (all_goals k_whole)); (all_goals first | (intro tok' d' c1' c2' c3' kind' tk1' v' q' tq' p' tp' h' tk' hp0' hp1' F' N' l2' l3' l1 l4'; (try k_lt l1); (try k_sweep)) | (intro e' d' od' g' h' tk' FG' U' R' EI'; (try k_sweep)))))
local macro_rules | `(tactic| walk_at "call ref") => `(tactic| (k_here; (with_reducible show wpAny _ _ (call (Value.ref 299) _ _) _ _ _); k_dflt (apply based_c; walk_at "@8"; omega; (first | omega | exact char_in_b (by assumption) (by omega) | exact Int.le_of_lt (char_in_b (by assumption) (by omega))); omega; (first | omega | exact char_in_b (by assumption) (by omega) | exact Int.le_of_lt (char_in_b (by assumption) (by omega))); assumption; omega; assumption; assumption; (all_goals k_whole)); (all_goals first | (intro tok' d' c1' c2' c3' kind' tk1' v' q' tq' p' tp' h' tk' hp0' hp1' F' N' l2' l3' l1 l4'; (try k_lt l1); (try k_sweep)) | (intro e' d' od' g' h' tk' FG' U' R' EI'; (try k_sweep)))))
local macro_rules | `(tactic| walk_at "call ref") => `(tactic| (k_here; (with_reducible show wpAny _ _ (call (Value.ref 327) _ _) _ _ _); k_dflt (apply operator_c; walk_at "@8"; omega; (first | omega | exact char_in_b (by assumption) (by omega) | exact Int.le_of_lt (char_in_b (by assumption) (by omega))); omega; assumption; assumption; (all_goals k_whole)); (all_goals first | (intro tok' d' c1' c2' c3' kind' tk1' v' q' tq' p' tp' h' tk' hp0' hp1' F' N' l2' l3' l1 l4'; (try k_lt l1); (try k_sweep)) | (intro e' d' od' g' h' tk' FG' U' R' EI'; (try k_sweep)))))
local macro_rules | `(tactic| walk_at "call ref") => `(tactic| (k_here; (with_reducible show wpAny _ _ (call (Value.ref 271) _ _) _ _ _); (refine char_no "\\" (by assumption) (by assumption) ?_ (by decide); omega)))
local macro_rules | `(tactic| walk_at "call ref") => `(tactic| (k_here; (with_reducible show wpAny _ _ (call (Value.ref 278) _ _) _ _ _); (refine char_no "$" (by assumption) (by assumption) ?_ (by decide); omega)))
local macro_rules | `(tactic| walk_at "call ref") => `(tactic| (k_here; (with_reducible show wpAny _ _ (call (Value.ref 306) _ _) _ _ _); (refine char_no "\"" (by assumption) (by assumption) ?_ (by decide); omega)))
section
open PySem PySem.W PyProof.Rows
set_option maxRecDepth 100000
set_option maxHeartbeats 1000000
local macro_rules | `(tactic| walk_at "leaving ref") => `(tactic| (k_here; k_dflt (refine' leave_onD ?K ?F ?R ?U ?_; (case K => k_asm); (case F => k_asm); (case R => k_asm); (case U => k_asm)); intro h' R' U'))
section
variable {w : World} {mean : ExcName → Option Value} {mg mb : Str → Option Value} {dp un : Nat} {gd : Option (List Code)} {cn : Str} {cs : Scope} {a : Addr} {ccd : Value} {cl : List (Str × Addr)} {outer : List Env} {A₀ : Around} {base h₀ : Heap} {L : Addr} {m : Str → Option Value} {news : List (Addr × Obj)} {s : Shared} {Q E : Value → Shared → Prop}
theorem next_token_c {x dx kd : Addr} {k1 k2 k3 k4 ts tp : Tok} {src : Str} {p : Int} {ko : Obj} (B : Below A₀ base outer h₀) (F : Fr h₀ L s.heap m) (X : (KH w.params).In h₀) (N : News h₀ L s.heap ((x, instObj 330 dx) :: (dx, lexDict w k1 k2 k3 k4 src ts p tp kd) :: news)) (T : Top VW (looseW VW [Str.ofString "GateloomError"]) mean mg mb h₀) (hk : cs.kind = .function) (hdp : dp + 6 < recursionLimit) (hun : un + 56 < cLine) (G : Good src) (hp0 : 0 ≤ p) (hp1 : p ≤ src.length + 2) (hlen : src.length ≤ 48) (hxd : @LT.lt Nat _ dx x) (hnn : ∀ q ∈ news, q.1 ≠ dx) (hkm : (kd, ko) ∈ news) (hko : KeyTab PySem.Challenge.rw_pq0460_01.row.prog w kd ko)
    (ret : ∀ tok d c1 c2 c3 kind tk v q tq (p' : Int) tp' h' tk', 0 ≤ p' → p' ≤ src.length + 2 → Fr h₀ L h' m → News h₀ L h' ((tok, instObj 140 d) :: (d, tokDict w c1 c2 c3 kind tk v q tq) :: (x, instObj 330 dx) :: (dx, lexDict w k1 k2 k3 k4 src ts p' tp' kd) :: news) → @LT.lt Nat _ x d → @LT.lt Nat _ d tok → (∀ p ∈ news, p.1 < d) → kind.length ≤ 3 → Q (.ref tok) {s with heap := h', toks := tk'})
    (exc : ∀ e d od g h' tk', Fr h₀ L g m → g.UpToSlots h' → RaisedD base g (envX cn cs L a ccd cl :: outer) e 45 d od h' → ErrIs w src.length od → E (.ref e) {s with heap := h', toks := tk'}) :
    wpAny (model PySem.Challenge.rw_pq0460_01.row.prog w) (ktrTop dp un gd cn cs L a ccd cl outer) (call (.ref 229) [.ref x]) Q E s := by
  revert X; k_fill; intro X
  refine wpAny_call ?_
  k_dflt cell_enter
  k_steps
  all_goals first
    | (refine' ret _ _ _ _ _ _ _ _ _ _ _ _ _ _ ?b1 ?b2 ?kF ?kN ?b3 ?b4 ?al ?kl; (case kF => k_asm); (case kN => first | k_asm | exact news_mid (by assumption) | exact news_mid (news_mid (by assumption))); (case b1 => omega); (case b2 => omega); (case b3 => omega); (case b4 => omega); (case al => (first | assumption | exact allLt_lt (by assumption) | exact allLt_lt (And.right (And.right (by assumption))) | exact allLt_lt (And.right (And.right (And.right (by assumption)))) | exact allLt_lt (And.right (And.right (And.right (And.right (by assumption))))))); (case kl => first | assumption | decide))
    | exact exc _ _ _ _ _ _ (by k_asm) (by k_asm) (by k_asm) (by assumption)
end
end
section
open PySem PySem.W PySem.Calls PyProof.Rows PyProof.V PySem.Spec
set_option maxRecDepth 100000
set_option maxHeartbeats 400000
section
variable {prog : Program} {w : World} {A : Around} {E : Value → Shared → Prop} {s : Shared} {env : Env} {h₀ : Heap} {x : Str} {body : List Stmt} {Q : Flow → Shared → Prop}
/-- a for over a made list, an invariant over the frame and a part of the ledger that does not hold the list -/
theorem iter_vals {l : Addr} {vs : List Value} {nn : Nat} {m₀ : Str → Option Value} {all news : List (Addr × Obj)} (J : Nat → (Str → Option Value) → List (Addr × Obj) → Prop)
    (hh : A.handled = none) (hl : (l, listOf vs.toArray nn) ∈ all) (F : Fr h₀ env.locals s.heap m₀) (N : News h₀ env.locals s.heap all) (hsub : ∀ p ∈ news, p ∈ all) (hnl : ∀ p ∈ news, p.1 ≠ l) (hj : J 0 m₀ news)
    (turn : ∀ i v m₁ news₁ h tk own, i < vs.length → vs[i]? = some v → news₁.map (·.1) = news.map (·.1) → OwnOff own (news.map (·.1)) → J i m₁ news₁ → Fr h₀ env.locals h (fun y => if y = x then some v else m₁ y) → News h₀ env.locals h (news₁ ++ own) →
      wpAny (model prog w) A (execs body env) (InvPostN h₀ env.locals (J (i + 1)) own (news.map (·.1)) { s with heap := h, toks := tk } Q) E { s with heap := h, toks := tk })
    (done : ∀ m₁ news₁ h tk, J vs.length m₁ news₁ → Fr h₀ env.locals h m₁ → News h₀ env.locals h news₁ → Q .next { s with heap := h, toks := tk }) :
    wpAny (model prog w) A (pyIter (.ref l)) (fun it s₂ => LoopAtV prog w A h₀ env x body Q E it s₂) E s := by
  have hol : s.heap.get? l = some (listOf vs.toArray nn) := (N _ hl).1
  have hls : s.heap.IsList l vs.toArray := ⟨_, hol, rfl, nn, rfl⟩
  have hne : l ≠ s.heap.objs.size := Nat.ne_of_lt (Heap.lt_size hol)
  have hb : h₀.get? l = none := (N _ hl).2.2
  refine wpAny_pyIter_list hls ?_
  have W := Walks.list (prog := prog) (w := w) hh s.heap.objs.size l hne vs.toArray
  have hlen : vs.toArray.size = vs.length := by simp
  rw [hlen] at W
  have Nn : News h₀ env.locals s.heap news := fun p hp => N p (hsub p hp)
  refine loop_invN (I := s.heap.objs.size) J W ?_ ?_ ?_ ?_ ⟨⟨_, Heap.get?_push_size _ rfl, rfl, rfl⟩, hls.at fun o e => Heap.get?_push_of_some _ e⟩ (F.push _) (fun p hp => ⟨Heap.get?_push_of_some _ (Nn p hp).1, (Nn p hp).2⟩) hj ?_ ?_
  · intro hm
    rcases List.mem_cons.mp hm with e | hm
    · exact absurd F.ns.lt (e ▸ Nat.lt_irrefl _)
    · exact (N _ hl).2.1 ((List.mem_singleton.mp hm).symm)
  · intro b hb
    rw [List.mem_singleton.mp hb]
    exact next_is_new F
  · intro p hp hI
    exact absurd (Heap.lt_size (Nn p hp).1) ((List.mem_singleton.mp hI) ▸ Nat.lt_irrefl _)
  · intro q hq hm
    rcases List.mem_cons.mp hm with e | hm
    · exact absurd (Heap.lt_size (Nn q hq).1) (e ▸ Nat.lt_irrefl _)
    · exact hnl q hq (List.mem_singleton.mp hm)
  · intro i v m₁ news₁ h tk own hi hP ha ho hJ F₁ N₁
    exact turn i v m₁ news₁ h tk own hi (by simpa using hP) ha ho hJ F₁ N₁
  · exact done

def KwPost (prog : Program) (w : World) (h₀ : Heap) (L : Addr) (s : Shared) (x : Str) (m₀ : Str → Option Value) (d : Addr) (rest : List (Addr × Obj)) (n : Nat) (Q : Flow → Shared → Prop) (f : Flow) (s₂ : Shared) : Prop :=
  match f with
  | .ret v => Q (.ret v) s₂
  | .brk => Q .next s₂
  | _ => ∃ h' tk o kvs D u, s₂ = { s with heap := h', toks := tk } ∧ Fr h₀ L h' (fun y => if y = x then u else m₀ y) ∧ News h₀ L h' ((d, o) :: rest) ∧ o.IsDictOf (strKind prog w) kvs ∧ FlatPairs PyData.str kvs D ∧ kvs.length ≤ n + 1
theorem kwPost_next {L : Addr} {m₀ m' : Str → Option Value} {d : Addr} {rest : List (Addr × Obj)} {n : Nat} {h' : Heap} {tk : Nat} {o : Obj} {kvs : List (Str × Value)} {D : List (PyData × PyData)} (F : Fr h₀ L h' m') (N : News h₀ L h' ((d, o) :: rest)) (hm : ∀ z, z ≠ x → m' z = m₀ z)
    (hd : o.IsDictOf (strKind prog w) kvs) (hf : FlatPairs PyData.str kvs D) (hn : kvs.length ≤ n + 1) : KwPost prog w h₀ L s x m₀ d rest n Q .next { s with heap := h', toks := tk } := by
  refine ⟨h', tk, o, kvs, D, m' x, rfl, ?_, N, hd, hf, hn⟩
  have e : (fun y => if y = x then m' x else m₀ y) = m' := by
    funext z
    by_cases hz : z = x
    · rw [if_pos hz, hz]
    · rw [if_neg hz, hm z hz]
  rw [e]; exact F
theorem kw_iter {l d : Addr} {o : Obj} {vl : List (Str × Tok)} {nn : Nat} {m₀ : Str → Option Value} {rest : List (Addr × Obj)}
    (hh : A.handled = none) (F : Fr h₀ env.locals s.heap m₀) (N : News h₀ env.locals s.heap ((l, listOf (strValues vl).toArray nn) :: (d, o) :: rest)) (hlen : vl.length ≤ 1000) (hd : o.IsDictOf (strKind prog w) []) (hne : ∀ p ∈ rest, p.1 ≠ d) (hld : ∀ p ∈ (d, o) :: rest, p.1 ≠ l)
    (turn : ∀ c t u o' kvs D own h tk, kvs.length ≤ 1000 → o'.IsDictOf (strKind prog w) kvs → FlatPairs PyData.str kvs D → (∀ p ∈ rest ++ own, p.1 ≠ d) → Fr h₀ env.locals h (fun y => if y = x then some (.str c t) else if y = x then u else m₀ y) → News h₀ env.locals h ((d, o') :: (rest ++ own)) →
      wpAny (model prog w) A (execs body env) (KwPost prog w h₀ env.locals { s with heap := h, toks := tk } x m₀ d (rest ++ own) kvs.length Q) E { s with heap := h, toks := tk })
    (done : ∀ o' kvs D u h tk, o'.IsDictOf (strKind prog w) kvs → FlatPairs PyData.str kvs D → Fr h₀ env.locals h (fun y => if y = x then u else m₀ y) → News h₀ env.locals h ((d, o') :: rest) → Q .next { s with heap := h, toks := tk }) :
    wpAny (model prog w) A (pyIter (.ref l)) (fun it s₂ => LoopAtV prog w A h₀ env x body Q E it s₂) E s := by
  have hsl : (strValues vl).length = vl.length := by simp [strValues]
  refine iter_vals (news := (d, o) :: rest) (fun i m nx => (∃ u, m = fun y => if y = x then u else m₀ y) ∧ ∃ o' kvs D, nx = (d, o') :: rest ∧ o'.IsDictOf (strKind prog w) kvs ∧ FlatPairs PyData.str kvs D ∧ kvs.length ≤ i)
    hh (.head _) F N (fun p hp => .tail _ hp) hld ⟨⟨m₀ x, ?_⟩, o, [], [], rfl, hd, .nil, Nat.le_refl _⟩ ?_ ?_
  · funext z
    by_cases hz : z = x
    · rw [if_pos hz, hz]
    · rw [if_neg hz]
  · rintro i v m₁ news₁ h tk own hi hv ha ho ⟨⟨u, rfl⟩, o', kvs, D, rfl, hd', hf', hn'⟩ F₁ N₁
    have hv' : ∃ c t, v = .str c t := by
      unfold strValues at hv
      rw [List.getElem?_map] at hv
      cases he : vl[i]? with
      | none => rw [he] at hv; cases hv
      | some p => rw [he] at hv; exact ⟨_, _, (Option.some.inj hv).symm⟩
    obtain ⟨c, t, rfl⟩ := hv'
    have hne' : ∀ p ∈ rest ++ own, p.1 ≠ d := fun p hp => (List.mem_append.mp hp).elim (hne p) fun q => ho p q d (by simp)
    refine wpAny_mono (turn c t u o' kvs D own h tk (by omega) hd' hf' hne' F₁ N₁) (fun f s₂ p => ?_) fun _ _ x => x
    have fin : (∃ h' tk' o'' kvs' D' u', s₂ = { s with heap := h', toks := tk' } ∧ Fr h₀ env.locals h' (fun y => if y = x then u' else m₀ y) ∧ News h₀ env.locals h' ((d, o'') :: (rest ++ own)) ∧ o''.IsDictOf (strKind prog w) kvs' ∧ FlatPairs PyData.str kvs' D' ∧ kvs'.length ≤ kvs.length + 1) →
        InvEndN h₀ env.locals (fun m nx => (∃ u, m = fun y => if y = x then u else m₀ y) ∧ ∃ o' kvs D, nx = (d, o') :: rest ∧ o'.IsDictOf (strKind prog w) kvs ∧ FlatPairs PyData.str kvs D ∧ kvs.length ≤ i + 1) own (((d, o) :: rest).map (·.1)) { s with heap := h, toks := tk } s₂ := by
      rintro ⟨h', tk', o'', kvs', D', u', e, F', N', hd'', hf'', hn''⟩
      refine ⟨h', tk', _, (d, o'') :: (rest ++ own), (d, o'') :: rest, e, F', N', fun p hp => ?_, fun p hp => .tail _ (List.mem_append_right _ hp), rfl, ⟨u', rfl⟩, o'', kvs', D', rfl, hd'', hf'', by omega⟩
      rcases List.mem_cons.mp hp with e | hp
      · exact e ▸ .head _
      · exact .tail _ (List.mem_append_left _ hp)
    cases f with
    | ret v => exact p
    | brk => exact p
    | next => exact fin p
    | cont => exact fin p
  · rintro m₁ news₁ h tk ⟨⟨u, rfl⟩, o', kvs, D, rfl, hd', hf', _⟩ F' N'
    exact done o' kvs D u h tk hd' hf' F' N'
end
theorem news_ne {h₀ : Heap} {L : Addr} {h : Heap} {l : List (Addr × Obj)} (N : News h₀ L h l) : ∀ p ∈ l, p.1 ≠ h.objs.size := fun p hp => Nat.ne_of_lt (Heap.lt_size (N p hp).1)
theorem split_len (x y : Str) : (Txt.split x y).length ≤ x.length + 2 := by
  unfold Txt.split
  split
  · simp
  · split
    · simp
    · unfold Builtin.Str.partsBetween
      have h := StrLaws.occ_length_le x y 0 x.length (x.length + 1)
      simp only [List.length_map, List.length_zip, List.length_cons, List.length_append, List.length_nil]
      omega
theorem kw_len {vl : List (Str × Tok)} {x y : Str} (e : List.map (fun p => p.1) vl = Txt.split x y) (h : x.length ≤ 998) : vl.length ≤ 1000 := by
  have h1 := split_len x y
  rw [← e, List.length_map] at h1
  omega
theorem kw_set {prog : Program} {w : World} {A : Around} {E : Value → Shared → Prop} {s : Shared} {h₀ : Heap} {L d : Addr} {m : Str → Option Value} {rest : List (Addr × Obj)} {o : Obj} {kvs : List (Str × Value)} {D : List (PyData × PyData)} {c : Str} {t : Tok} {b : Bool} {Q : Unit → Shared → Prop}
    (F : Fr h₀ L s.heap m) (N : News h₀ L s.heap ((d, o) :: rest)) (hne : ∀ p ∈ rest, p.1 ≠ d) (hd : o.IsDictOf (strKind prog w) kvs) (hf : FlatPairs PyData.str kvs D) (hsz : kvs.length ≤ 1000)
    (h : ∀ h' o' kvs' D', Fr h₀ L h' m → News h₀ L h' ((d, o') :: rest) → o'.IsDictOf (strKind prog w) kvs' → FlatPairs PyData.str kvs' D' → kvs'.length ≤ kvs.length + 1 → Q () { s with heap := h', toks := s.toks + 1 }) : wpAny (model prog w) A (setItem (.ref d) (.str c t) (.bool b)) Q E s := by
  refine kda_set (k := c) F N (UpdF.head hne) hd (strKind_is prog w c t) (by rw [sizeLine_eq]; omega) fun h' o' F' N' hd' => ?_
  exact h h' o' _ _ F' N' hd' (FlatPairs.stored PyProof.V.same_str hf c (PyProof.V.Flat.bool b)) (stored_length_le _ _ _)
end
section
open PySem PySem.W PyProof.Rows
set_option maxRecDepth 100000
set_option maxHeartbeats 1000000
local macro_rules | `(tactic| walk_at "pyIter ref") => `(tactic| (k_here; k_dflt ((refine' kw_iter ?hh ?F ?N ?hlen ?hd ?hne ?hld ?_ ?_; (case hh => rfl); (case F => k_asm); (case N => k_asm); (case hd => k_asm); (case hlen => exact kw_len (by assumption) (by assumption)); (case hne => first | exact lt_ne (by assumption) | exact allLt_ne (by assumption)); (case hld => first | exact news_ne (by assumption) | exact lt_ne (by assumption) | exact allLt_ne (by assumption)))); (all_goals first | (intro c' t' u' o' kvs' D' own' h' tk' hk' hd' hf' hne' F' N'; (try k_sweep)) | (intro o' kvs' D' u' h' tk' hd' hf' F' N'; (try k_sweep)))))
local macro_rules | `(tactic| walk_at "setItem ref") => `(tactic| (k_here; k_dflt (refine' kw_set ?F ?N ?hne ?hd ?hf ?hz ?_; (case F => k_asm); (case N => k_asm); (case hne => assumption); (case hd => assumption); (case hf => assumption); (case hz => assumption)); intro h' o' kvs' D' F' N' hd' hf' hk'; (try k_sweep)))
/-- a written str is as long as its signs are many (its code points, taken by the kernel one by one, cost 20 s for 900 signs) -/
theorem lit_len {l : List Char} (h : Nat.ble l.length 998 = true) : (Str.ofString (String.ofList l)).length ≤ 998 := by
  rw [PySem.W.Fast.ofString_ofList]
  show ((l.map Char.toNat).toArray).size ≤ 998
  rw [List.size_toArray, List.length_map]
  exact Nat.le_of_ble_eq_true h
section
variable {w : World} {mean : ExcName → Option Value} {mg mb : Str → Option Value} {dp un : Nat} {gd : Option (List Code)} {cn : Str} {cs : Scope} {a : Addr} {ccd : Value} {cl : List (Str × Addr)} {outer : List Env} {A₀ : Around} {base h₀ : Heap} {L : Addr} {m : Str → Option Value} {news : List (Addr × Obj)} {s : Shared} {Q E : Value → Shared → Prop}
theorem kw_words_c  (B : Below A₀ base outer h₀) (F : Fr h₀ L s.heap m) (X : (KH w.params).In h₀) (N : News h₀ L s.heap news) (T : Top VW (looseW VW [Str.ofString "GateloomError"]) mean mg mb h₀) (hk : cs.kind = .function) (hdp : dp + 1 < recursionLimit) (hun : un + 8 < cLine)
    (ret : ∀ x t h' tk', x.length ≤ 998 → Fr h₀ L h' m → News h₀ L h' news → Q (.str x t) {s with heap := h', toks := tk'}) :
    wpAny (model PySem.Challenge.rw_pq0460_01.row.prog w) (ktrTop dp un gd cn cs L a ccd cl outer) (call (.ref 116) []) Q E s := by
  revert X; k_fill; intro X
  refine wpAny_call ?_
  k_dflt cell_enter
  k_steps
  exact ret _ _ _ _ (lit_len (by decide)) (by k_asm) (by k_asm)
end
local macro_rules | `(tactic| walk_at "call ref") => `(tactic| (k_here; (with_reducible show wpAny _ _ (call (Value.ref 116) _ _) _ _ _); k_dflt (apply kw_words_c; walk_at "@8"; k_whole); intro x' t' h' tk' hx' F' N'; (try k_sweep)))
section
variable {w : World} {mean : ExcName → Option Value} {mg mb : Str → Option Value} {dp un : Nat} {gd : Option (List Code)} {cn : Str} {cs : Scope} {a : Addr} {ccd : Value} {cl : List (Str × Addr)} {outer : List Env} {A₀ : Around} {base h₀ : Heap} {L : Addr} {m : Str → Option Value} {news : List (Addr × Obj)} {s : Shared} {Q E : Value → Shared → Prop}
theorem keywords_c  (B : Below A₀ base outer h₀) (F : Fr h₀ L s.heap m) (X : (KH w.params).In h₀) (N : News h₀ L s.heap news) (T : Top VW (looseW VW [Str.ofString "GateloomError"]) mean mg mb h₀) (hk : cs.kind = .function) (hdp : dp + 3 < recursionLimit) (hun : un + 24 < cLine)
    (ret : ∀ kd ko h' tk', Fr h₀ L h' m → News h₀ L h' ((kd, ko) :: news) → (∀ p ∈ news, p.1 < kd) → KeyTab PySem.Challenge.rw_pq0460_01.row.prog w kd ko → Q (.ref kd) {s with heap := h', toks := tk'}) :
    wpAny (model PySem.Challenge.rw_pq0460_01.row.prog w) (ktrTop dp un gd cn cs L a ccd cl outer) (call (.ref 123) []) Q E s := by
  revert X; k_fill; intro X
  refine wpAny_call ?_
  k_dflt cell_enter
  k_steps
  all_goals first
    | exact ret _ _ _ _ (by k_asm) (by (first | k_asm | exact news_tl (by assumption) | exact news_tl (news_tl (by assumption)) | exact news_tl (news_tl (news_tl (by assumption))) | exact news_ap (by assumption) | exact news_tl (news_ap (by assumption)))) (by first | assumption | exact allLt_lt (by assumption)) ⟨by assumption, _, _, by assumption, by assumption⟩
    | (refine' kwPost_next ?F ?N ?hm ?hd ?hf ?hn; (case F => k_asm); (case N => k_asm); (case hm => (intro z hz; simp only [hz, if_false])); (case hd => assumption); (case hf => assumption); (case hn => assumption))
end
end
local macro_rules | `(tactic| walk_at "call ref") => `(tactic| (k_here; (with_reducible show wpAny _ _ (call (Value.ref 123) _ _) _ _ _); k_dflt (apply keywords_c; walk_at "@8"; k_whole); intro kd' ko' h' tk' F' N' l1 hkt'; (try k_lt l1); (try k_sweep)))
section
open PySem PySem.W PyProof.Rows
set_option maxRecDepth 100000
set_option maxHeartbeats 1000000
theorem units_make (A : Around) (C : Addr) (vals : List Value) : (A.under (.builtin "type.__call__" ⟨.ref C :: vals, []⟩)).units = A.units + 1 := rfl
local macro_rules | `(tactic| ktr_units) => `(tactic| (have hcL9 := cLine_is; (try simp only [units_make, units_in1, units_deeper, Around.mark_units, units_caller] at *); (try dsimp only [ktrTop] at *); omega))
theorem news_lex {h₀ : Heap} {L : Addr} {h : Heap} {a b c : Addr × Obj} {l : List (Addr × Obj)} (N : News h₀ L h (a :: b :: c :: l)) : News h₀ L h (b :: c :: a :: l) := fun q hq => by
  rcases List.mem_cons.mp hq with e | hq
  · exact N q (e ▸ .tail _ (.head _))
  · rcases List.mem_cons.mp hq with e | hq
    · exact N q (e ▸ .tail _ (.tail _ (.head _)))
    · rcases List.mem_cons.mp hq with e | hq
      · exact N q (e ▸ .head _)
      · exact N q (.tail _ (.tail _ (.tail _ hq)))
theorem lex_off {kd dx : Addr} {ko : Obj} {l : List (Addr × Obj)} (h1 : @LT.lt Nat _ dx kd) (h2 : ∀ q ∈ l, q.1 < dx) : ∀ q ∈ (kd, ko) :: l, q.1 ≠ dx := fun q hq => by
  rcases List.mem_cons.mp hq with e | hq
  · rw [e]; exact Nat.ne_of_gt h1
  · exact Nat.ne_of_lt (h2 q hq)
section
variable {w : World} {mean : ExcName → Option Value} {mg mb : Str → Option Value} {dp un : Nat} {gd : Option (List Code)} {cn : Str} {cs : Scope} {a : Addr} {ccd : Value} {cl : List (Str × Addr)} {outer : List Env} {A₀ : Around} {base h₀ : Heap} {L : Addr} {m : Str → Option Value} {news : List (Addr × Obj)} {s : Shared} {Q E : Value → Shared → Prop}
theorem lexer_c {src : Str} {ts : Tok} (B : Below A₀ base outer h₀) (F : Fr h₀ L s.heap m) (X : (KH w.params).In h₀) (N : News h₀ L s.heap news) (T : Top VW (looseW VW [Str.ofString "GateloomError"]) mean mg mb h₀) (hk : cs.kind = .function) (hdp : dp + 5 < recursionLimit) (hun : un + 40 < cLine)
    (ret : ∀ x dx kd ko k1 k2 k3 k4 tp h' tk', Fr h₀ L h' m → News h₀ L h' ((x, instObj 330 dx) :: (dx, lexDict w k1 k2 k3 k4 src ts 0 tp kd) :: (kd, ko) :: news) → @LT.lt Nat _ dx x → (∀ q ∈ (kd, ko) :: news, q.1 ≠ dx) → KeyTab PySem.Challenge.rw_pq0460_01.row.prog w kd ko → Q (.ref x) {s with heap := h', toks := tk'}) :
    wpAny (model PySem.Challenge.rw_pq0460_01.row.prog w) (ktrTop dp un gd cn cs L a ccd cl outer) (call (.ref 330) [.str src ts]) Q E s := by
  revert X; k_fill; intro X
  k_dflt (refine' call_cls ?k1 ?k2 ?k3 ?k4 ?k5 ?k6 ?_; (case k1 => k_asm); (case k2 => k_asm); (case k3 => k_asm); (case k4 => k_is); (case k5 => k_is); (case k6 => k_is); k_whole)
  intro x' d' h' F' N' l1 l2
  (try k_lt l1); (try k_lt2 l2)
  try k_sweep
  k_dflt (refine' code_def ?k1 ?k2 ?k3 ?k4 ?k5 ?kA ?kF ?kK ?k6 ?k7 ?k8 ?k9 ?kB ?_ ?c2 ?c3 ?c4 ?c5; (case kA => exact rfl); (case kF => exact rfl); (case kK => first | exact rfl | assumption); (case k1 => k_asm); (case k2 => k_asm); (case k3 => k_asm); (case k4 => k_asm); (case k5 => k_asm); (case k6 => k_is); (case k7 => k_is); (case k8 => ktr_room); (case k9 => first | exact BindsTo.of_eq rfl | exact binds_K (by k_in) rfl (by k_is) rfl rfl rfl); (case c5 => decide); (case kB => exact locs rfl); (case c2 => exact rfl); (case c3 => exact rfl); (case c4 => exact rfl); k_whole; intro g' L' h' FG' F' N' B' X' T'; (try dsimp only); (try k_lift B'); (try k_fold))
  k_steps
  all_goals first
    | exact ret _ _ _ _ _ _ _ _ _ _ _ (by k_asm) (news_lex (by k_asm)) (by assumption) (lex_off (by omega) (by first | assumption | exact allLt_lt (by assumption))) (by assumption)
end
end
section
open PySem PySem.W PySem.Calls PyProof.Rows
set_option maxRecDepth 100000
set_option maxHeartbeats 400000
section
variable {prog : Program} {w : World} {A A₀ : Around} {E : Value → Shared → Prop} {s s' : Shared} {K : Frag} {L L' : Addr} {h₀ g g₂ : Heap} {m m' mg mb : Str → Option Value} {news : List (Addr × Obj)} {p : Program} {loose : List Str} {mean : ExcName → Option Value}
theorem code_defT {R : Result → Shared → Prop} {name qual : Str} {params : Arguments} {body : List Stmt} {scope : Scope} {dV kV doc pm cdv ct oc : Value} {an od : Option Addr} {osl : Array (Option Value)} {f : Addr} {args : Args} {binds : List (Str × Value)}
    (F : Fr h₀ L s.heap m) (X₀ : K.In h₀) (T : Top p loose mean mg mb h₀)
    (ho : K.lookup f = some ⟨oc, od, .func (fnOf name qual params body scope dV kV doc pm an cdv ct), osl⟩) (hcd : codeIn K cdv qual = true) (hroom : A.depth < recursionLimit)
    (hbind : BindsTo s (fnOf name qual params body scope dV kV doc pm an cdv ct) args binds) (hloc : ∀ y ∈ binds, scope.names.lookup y.1 = some .local)
    (h : ∀ L' h₁, s.heap.objs.size ≤ L' → Fr s.heap L' h₁ (fun y => binds.reverse.lookup y) → News s.heap L' h₁ [] →
      wpAny (model prog w) (A.deeper (envOf qual scope L' f cdv)) (execs body (envOf qual scope L' f cdv))
        (fun fl s' => R (.ok (.ret (match fl with | .ret v => v | _ => .none))) s')
        (fun e s' => wpAny (model prog w) (A.deeper (envOf qual scope L' f cdv)) (leaving (envOf qual scope L' f cdv) e) (fun _ s'' => R (.error e) s'') (fun e' s'' => R (.error e') s'') s')
        { s with heap := h₁, toks := s.toks + binds.length })
    (hco : scope.isCoroutine = false) (hgen : scope.isGenerator = false) (hk : scope.kind = .function)
    (hcell : ∀ x ∈ scope.names, x.2 ≠ .cell) : codeAny (model prog w) A (.call (.ref f) args) R s := by
  have X := X₀.keeps F.keep
  refine codeAny_call_def (fd := fnOf name qual params body scope dV kV doc pm an cdv ct) (body := body) (binds := binds) hroom (X _ _ ho) rfl (T.nolimit.keeps F.keep) (codeRec_of X hcd) rfl hbind hcell hloc (fun h₁ hns hk₁ => ?_) hco hgen hk
  exact h _ h₁ (Nat.le_refl _) ⟨hns, hk₁, Nat.le_refl _⟩ fun _ q => nomatch q

theorem fault_caught {envL : Env} {a e C dx : Addr} {name : Str} {scope : Scope} {cd : Value} {n x : Str} {b₀ : Stmt} {suite : List Stmt} {pos np : Pos} {rest : List ExceptHandler} {Q : Flow → Shared → Prop} {od oL : Obj} {es : Array DictEntry} {ep : Nat} {cld : ClassData}
    (hfr : A₀.frames = some [envL]) (hfL : envL.frame = some L) (F0 : Fr h₀ L g m) (N0 : News h₀ L g news) (hL : g.get? L = some oL) (hLd : oL.data = .dict es ep)
    (F' : Fr g L' g₂ m') (hsm : g₂.UpToSlots s'.heap) (R : RaisedD h₀ g₂ (envOf name scope L' a cd :: [envL]) e C dx od s'.heap)
    (X : K.In h₀) (T : TopRead p loose mg mb h₀) (ex : nsIn K mainGlobals x = some (some (.ref C))) (hC : ExcCls K C cld)
    (k : ∀ vs sl slL h' tk, Fr h₀ L' h' (fun y => if y = n then some (.ref e) else m' y) → News h₀ L' h' ((e, ⟨.ref C, some dx, .fields vs, sl⟩) :: (dx, od) :: (L, { oL with slots := slL }) :: news) → e ≠ L → dx ≠ L → (∀ q ∈ news, q.1 ≠ L) →
      wpAny (model prog w) ((A₀.deeper (envOf name scope L' a cd)).mark (some (.ref e))) (execs (b₀ :: suite) (envOf name scope L' a cd))
        (fun f s₄ => wpAny (model prog w) (A₀.deeper (envOf name scope L' a cd)) (do bindName (envOf name scope L' a cd) n .none; unbindBehindTheSuite (envOf name scope L' a cd) n pos) (fun _ s₅ => Q f s₅) E s₄)
        (AsSuiteRaised (model prog w) ((A₀.deeper (envOf name scope L' a cd)).mark (some (.ref e))) (envOf name scope L' a cd) n pos (notedBy (model prog w) ((A₀.deeper (envOf name scope L' a cd)).mark (some (.ref e))) (envOf name scope L' a cd) (cameBackBy (model prog w) (A₀.deeper (envOf name scope L' a cd)) (envOf name scope L' a cd) E)))
        { s' with heap := h', toks := tk })
    (hk : scope.kind = .function := by rfl) (hlo : (envOf name scope L' a cd).kindOf n = some .local := by rfl) (hx : (envOf name scope L' a cd).kindOf x = some .globalImplicit := by rfl) (hdb : (x == ("__debug__" : Str)) = false := by decide) :
    wpAny (model prog w) (A₀.deeper (envOf name scope L' a cd)) (noteFrame (.ref e) (envOf name scope L' a cd))
      (fun _ s₂ => wpAny (model prog w) (A₀.deeper (envOf name scope L' a cd)) (setFlight (.ref e) none) (fun _ s₃ =>
        wpAny (model prog w) (A₀.deeper (envOf name scope L' a cd)) (handleBy (.ref e) (envOf name scope L' a cd) (.ExceptHandler (some (.Name x np)) (some n) (b₀ :: suite) pos :: rest)) Q E s₃) E s₂) E s' := by
  obtain ⟨nm, q, Nn, bs, bm, hdct, sn, sub, ab, col, dd, k0, k1, k2, k3, k5, h1, h2, h3, h4, h5⟩ := hC.lk
  have hLs := Heap.lt_size hL
  have hLL : L ≠ L' := Nat.ne_of_lt (Nat.lt_of_lt_of_le hLs F'.above)
  have F : Fr h₀ L' g₂ m' := ⟨F'.ns, fun b o z => F'.keep b o (F0.keep b o z), Nat.le_trans F0.above (Nat.le_trans (Nat.le_of_lt hLs) F'.above)⟩
  have hdL : dx ≠ L := by
    obtain ⟨B, _, ⟨hdB, _⟩, _, Y⟩ := R
    obtain ⟨_, _, _, ⟨L₂, _, hf, hn, _⟩, _⟩ := Y.frames
    rw [hfL] at hf
    cases hf
    intro z
    rw [z, hn] at hdB
    cases hdB
  refine caught_D hfr F hsm R X T ex h1 h5 (fun h₆ h' tk F₇ U6 hs he hdx b1 b2 n1 n2 hG => ?_) hk hlo hx hdb
  obtain ⟨vs, sl, he⟩ := he
  obtain ⟨slL, h6L⟩ := U6 L oL (F'.keep _ _ hL) (fun ws z => by rw [hLd] at z; cases z)
  have hL' : h'.get? L = some { oL with slots := slL } := (hs.2 L hLL).trans h6L
  have heL : e ≠ L := fun z => by
    rw [z, hL'] at he
    have := congrArg Obj.data (Option.some.inj he)
    simp only [hLd] at this
    cases this
  refine k vs sl slL h' tk F₇ (fun q hq => ?_) heL hdL fun q hq => (N0 q hq).2.1
  rcases List.mem_cons.mp hq with rfl | hq
  · exact ⟨he, n1, b1⟩
  rcases List.mem_cons.mp hq with rfl | hq
  · exact ⟨hdx, n2, b2⟩
  rcases List.mem_cons.mp hq with rfl | hq
  · exact ⟨hL', hLL, Heap.get?_none_of_le F0.above⟩
  · obtain ⟨q1, q2, q3⟩ := N0 q hq
    have hqL : q.1 ≠ L' := Nat.ne_of_lt (Nat.lt_of_lt_of_le (Heap.lt_size q1) F'.above)
    refine ⟨hG _ _ (F'.keep _ _ q1) ?_, hqL, q3⟩
    intro hm
    simp only [List.filterMap_cons, hfL, envOf, List.filterMap_nil] at hm
    rcases List.mem_cons.mp hm with z | hm
    · exact hqL z
    · exact q2 (List.mem_singleton.mp hm)

/-- back in the caller behind a caught fault -/
theorem fault_back {h : Heap} {e dx : Addr} {oe od oL : Obj} {slL : Array (Option Value)} {mE : Str → Option Value} (F0 : Fr h₀ L g m) (hL : g.get? L = some oL)
    (F : Fr h₀ L' h mE) (N : News h₀ L' h ((e, oe) :: (dx, od) :: (L, { oL with slots := slL }) :: news)) (h1 : e ≠ L) (h2 : dx ≠ L) (h3 : ∀ q ∈ news, q.1 ≠ L) : Fr h₀ L h m ∧ News h₀ L h ((e, oe) :: (dx, od) :: news) := by
  obtain ⟨o, es', ep', e1, e2, e3, e4⟩ := F0.ns
  rw [hL] at e1
  cases e1
  have e5 := (N (L, { oL with slots := slL }) (by simp)).1
  refine ⟨⟨⟨_, es', ep', e5, e2, e3, e4⟩, F.keep, F0.above⟩, fun q hq => ?_⟩
  rcases List.mem_cons.mp hq with rfl | hq
  · have := N (e, oe) (by simp); exact ⟨this.1, h1, this.2.2⟩
  rcases List.mem_cons.mp hq with rfl | hq
  · have := N (dx, od) (by simp); exact ⟨this.1, h2, this.2.2⟩
  · have := N q (by simp [hq]); exact ⟨this.1, h3 q hq, this.2.2⟩
theorem none_back {h : Heap} {mE : Str → Option Value} (F0 : Fr h₀ L g m) (N0 : News h₀ L g news) (F : Fr g L' h mE) : Fr h₀ L h m ∧ News h₀ L h news := by
  obtain ⟨o, es', ep', e1, e2, e3, e4⟩ := F0.ns
  exact ⟨⟨⟨o, es', ep', F.keep _ _ e1, e2, e3, e4⟩, fun b o z => F.keep _ _ (F0.keep _ _ z), F0.above⟩, fun q hq => ⟨F.keep _ _ (N0 q hq).1, (N0 q hq).2⟩⟩
theorem below_one {A₀ : Around} {cn : Str} {cs : Scope} {a : Addr} {ccd : Value} {cl : List (Str × Addr)} {dp un : Nat} {gd : Option (List Code)} (B : Below A₀ h₀ [] h₀) (F : Fr h₀ L g m) (hk : cs.kind = .function) :
    Below (ktrTop dp un gd cn cs L a ccd cl []) h₀ [envX cn cs L a ccd cl] g := by
  have P := B.push (name := cn) (a := a) (cd := ccd) F hk
  exact ⟨rfl, P.stays, P.frames.1, P.frames.2.1, trivial⟩
end
section
variable {prog : Program} {w : World} {A : Around} {E : Value → Shared → Prop} {s : Shared} {env : Env} {h₀ : Heap} {body : List Stmt} {Q : Flow → Shared → Prop}
abbrev ftMap (m₀ : Str → Option Value) (u1 u2 : Option Value) : Str → Option Value := fun z => if z = Str.ofString "token" then u2 else if z = Str.ofString "lap" then u1 else m₀ z
theorem ftMap_of {m₀ m' : Str → Option Value} (hm : ∀ z, z ≠ Str.ofString "token" → z ≠ Str.ofString "lap" → m' z = m₀ z) : m' = ftMap m₀ (m' (Str.ofString "lap")) (m' (Str.ofString "token")) := by
  funext z
  by_cases hz : z = Str.ofString "token"
  · rw [ftMap, if_pos hz, hz]
  · rw [ftMap, if_neg hz]
    by_cases hy : z = Str.ofString "lap"
    · rw [if_pos hy, hy]
    · rw [if_neg hy, hm z hz hy]
def FtPost (w : World) (h₀ : Heap) (L : Addr) (s : Shared) (x dx kd : Addr) (ko : Obj) (k1 k2 k3 k4 : Tok) (src : Str) (ts : Tok) (own : List (Addr × Obj)) (m₀ : Str → Option Value) (Q : Flow → Shared → Prop) (f : Flow) (s₂ : Shared) : Prop :=
  match f with
  | .ret v => Q (.ret v) s₂
  | .brk => Q .next s₂
  | _ => ∃ p' tp' u1 u2 h' tk nws, s₂ = { s with heap := h', toks := tk } ∧ Fr h₀ L h' (ftMap m₀ u1 u2) ∧ News h₀ L h' nws ∧ (∀ q ∈ (x, instObj 330 dx) :: (dx, lexDict w k1 k2 k3 k4 src ts p' tp' kd) :: (kd, ko) :: own, q ∈ nws) ∧ 0 ≤ p' ∧ p' ≤ src.length + 2
theorem ftPost_next {L x dx kd : Addr} {ko : Obj} {k1 k2 k3 k4 ts tp' : Tok} {src : Str} {p' : Int} {own : List (Addr × Obj)} {a b : Addr × Obj} {m₀ m' : Str → Option Value} {h' : Heap} {tk : Nat} (F : Fr h₀ L h' m') (N : News h₀ L h' (a :: b :: (x, instObj 330 dx) :: (dx, lexDict w k1 k2 k3 k4 src ts p' tp' kd) :: (kd, ko) :: own))
    (hm : ∀ z, z ≠ Str.ofString "token" → z ≠ Str.ofString "lap" → m' z = m₀ z) (h1 : 0 ≤ p') (h2 : p' ≤ src.length + 2) :
    FtPost w h₀ L s x dx kd ko k1 k2 k3 k4 src ts own m₀ Q .next { s with heap := h', toks := tk } :=
  ⟨p', tp', _, _, h', tk, _, rfl, ftMap_of hm ▸ F, N, fun _ hq => .tail _ (.tail _ hq), h1, h2⟩
theorem ft_iter {r x dx kd : Addr} {ko : Obj} {k1 k2 k3 k4 ts tp : Tok} {src : Str} {p : Int} {t₀ u₀ v₀ : Tok} {m₀ : Str → Option Value}
    (hh : A.handled = none) (hr : IsRange s.heap r 0 80 1 t₀ u₀ v₀) (F : Fr h₀ env.locals s.heap m₀) (N : News h₀ env.locals s.heap [(x, instObj 330 dx), (dx, lexDict w k1 k2 k3 k4 src ts p tp kd), (kd, ko)]) (hoff : ∀ q ∈ [(kd, ko)], q.1 ≠ dx) (hp0 : 0 ≤ p) (hp1 : p ≤ src.length + 2)
    (turn : ∀ k t u1 u2 (p : Int) tp own h tk, 0 ≤ p → p ≤ src.length + 2 → (∀ q ∈ (kd, ko) :: own, q.1 ≠ dx) → Fr h₀ env.locals h (fun y => if y = Str.ofString "lap" then some (.int k t) else ftMap m₀ u1 u2 y) →
      News h₀ env.locals h ((x, instObj 330 dx) :: (dx, lexDict w k1 k2 k3 k4 src ts p tp kd) :: (kd, ko) :: own) →
      wpAny (model prog w) A (execs body env) (FtPost w h₀ env.locals { s with heap := h, toks := tk } x dx kd ko k1 k2 k3 k4 src ts own m₀ Q) E { s with heap := h, toks := tk })
    (done : ∀ u1 u2 h tk nws, Fr h₀ env.locals h (ftMap m₀ u1 u2) → News h₀ env.locals h nws → Q .next { s with heap := h, toks := tk }) :
    wpAny (model prog w) A (pyIter (.ref r)) (fun it s₂ => LoopAtV prog w A h₀ env (Str.ofString "lap") body Q E it s₂) E s := by
  refine iter_rangeS (n := 80) (σ := Unit) (fun _ m nx => (∃ u1 u2, m = ftMap m₀ u1 u2) ∧ ∃ p tp, nx = [(x, instObj 330 dx), (dx, lexDict w k1 k2 k3 k4 src ts p tp kd), (kd, ko)] ∧ 0 ≤ p ∧ p ≤ src.length + 2) (fun _ _ => ()) ()
    hh hr (by decide) (by decide) F N ⟨⟨_, _, ftMap_of fun _ _ _ => rfl⟩, p, tp, rfl, hp0, hp1⟩ ?_ ?_
  · rintro k t _ m₁ nx h tk own _ ho ⟨⟨u1, u2, rfl⟩, p, tp, rfl, h1, h2⟩ F₁ N₁
    refine wpAny_mono (turn k t u1 u2 p tp own h tk h1 h2 (fun q hq => ?_) F₁ N₁) (fun f s₂ q => ?_) fun _ _ x => x
    · rcases List.mem_cons.mp hq with e | hq
      · exact hoff q (e ▸ .head _)
      · exact ho q hq dx (by simp)
    · have fin : (∃ p' tp' u1 u2 h' tk' nws, s₂ = { s with heap := h', toks := tk' } ∧ Fr h₀ env.locals h' (ftMap m₀ u1 u2) ∧ News h₀ env.locals h' nws ∧ (∀ q ∈ (x, instObj 330 dx) :: (dx, lexDict w k1 k2 k3 k4 src ts p' tp' kd) :: (kd, ko) :: own, q ∈ nws) ∧ 0 ≤ p' ∧ p' ≤ src.length + 2) →
          InvEndN h₀ env.locals (fun m nx => (∃ u1 u2, m = ftMap m₀ u1 u2) ∧ ∃ p tp, nx = [(x, instObj 330 dx), (dx, lexDict w k1 k2 k3 k4 src ts p tp kd), (kd, ko)] ∧ 0 ≤ p ∧ p ≤ src.length + 2) own ([(x, instObj 330 dx), (dx, lexDict w k1 k2 k3 k4 src ts p tp kd), (kd, ko)].map (·.1)) { s with heap := h, toks := tk } s₂ := by
        rintro ⟨p', tp', u1, u2, h', tk', nws, e, F', N', hs, h3, h4⟩
        refine ⟨h', tk', _, nws, [(x, instObj 330 dx), (dx, lexDict w k1 k2 k3 k4 src ts p' tp' kd), (kd, ko)], e, F', N', fun q hq => hs q ?_, fun q hq => hs q (.tail _ (.tail _ (.tail _ hq))), rfl, ⟨u1, u2, rfl⟩, p', tp', rfl, h3, h4⟩
        simp only [List.mem_cons, List.not_mem_nil, or_false] at hq
        rcases hq with e | e | e
        · exact e ▸ .head _
        · exact e ▸ .tail _ (.head _)
        · exact e ▸ .tail _ (.tail _ (.head _))
      cases f with
      | ret v => exact q
      | brk => exact q
      | next => exact fin q
      | cont => exact fin q
  · rintro m₁ nx h tk ⟨⟨u1, u2, rfl⟩, p, tp, rfl, _, _⟩ F' N'
    exact done u1 u2 h tk _ F' N'
end
end
local macro_rules | `(tactic| walk_at "call ref") => `(tactic| (k_here; (with_reducible show wpAny _ _ (call (Value.ref 330) _ _) _ _ _); k_dflt (apply lexer_c; walk_at "@8"; k_whole); intro x' dx' kd' ko' k1' k2' k3' k4' tp' h' tk' F' N' l1 lo' hkt'; (try k_sweep)))
local macro_rules | `(tactic| walk_at "call ref") => `(tactic| (k_here; (with_reducible show wpAny _ _ (call (Value.ref 229) _ _) _ _ _); k_dflt (apply next_token_c; walk_at "@8"; assumption; omega; omega; omega; assumption; assumption; (first | assumption | exact List.Mem.head _); assumption; (all_goals k_whole)); (all_goals first | (intro tok' d' c1' c2' c3' kind' tk1' v' q' tq' p' tp' h' tk' hp0' hp1' F' N' l2' l3' l1 l4'; (try k_lt l1); (try k_sweep)) | (intro e' d' od' g' h' tk' FG' U' R' EI'; (try k_sweep)))))
section
open PySem PySem.W PyProof.Rows
set_option maxRecDepth 100000
set_option maxHeartbeats 1000000
local macro_rules | `(tactic| walk_at "pyIter ref") => `(tactic| (k_here; k_dflt (refine' ft_iter ?hh ?hr ?F ?N ?ho ?h0 ?h1 ?_ ?_; (case hh => rfl); (case hr => assumption); (case F => k_asm); (case N => k_asm); (case ho => assumption); (case h0 => decide); (case h1 => omega)); (all_goals first | (intro k' t' u1' u2' p' tp' own' h' tk' hp0' hp1' hnn' F' N'; (try k_sweep)) | (intro u1' u2' h' tk' nws' F' N'; (try k_sweep)))))
section
variable {w : World} {mean : ExcName → Option Value} {mg mb : Str → Option Value} {dp un : Nat} {gd : Option (List Code)} {cn : Str} {cs : Scope} {a : Addr} {ccd : Value} {cl : List (Str × Addr)} {outer : List Env} {A₀ : Around} {base h₀ : Heap} {L : Addr} {m : Str → Option Value} {news : List (Addr × Obj)} {s : Shared} {Q E : Value → Shared → Prop}
theorem fault_c {src : Str} {ts : Tok} (B : Below A₀ h₀ [] h₀) (F : Fr h₀ L s.heap m) (X : (KH w.params).In h₀) (N : News h₀ L s.heap news) (T : Top VW (looseW VW [Str.ofString "GateloomError"]) mean mg mb h₀) (hk : cs.kind = .function) (hdp : dp + 9 < recursionLimit) (hun : un + 96 < cLine) (G : Good src)
    (ret : ∀ h' tk', Fr h₀ L h' m → News h₀ L h' news → Q .none {s with heap := h', toks := tk'})
    (exc : ∀ e d vs sl od h' tk', ErrIs w src.length od → Fr h₀ L h' m → News h₀ L h' ((e, ⟨.ref 45, some d, .fields vs, sl⟩) :: (d, od) :: news) → Q (.ref e) {s with heap := h', toks := tk'}) :
    wpAny (model PySem.Challenge.rw_pq0460_01.row.prog w) (ktrTop dp un gd cn cs L a ccd cl []) (call (.ref 355) [.str src ts]) Q E s := by
  revert X; k_fill; intro X
  have hlen := G.len
  obtain ⟨cd45, hC45⟩ := cls45 w
  obtain ⟨oL, es, ep, hL, hLd, hLk, hLf⟩ := F.ns
  have T' := T.keeps F.keep
  have X' := X.keeps F.keep
  refine wpAny_call ?_
  k_dflt (refine' code_defT ?F ?X ?T ?ho ?hcd ?hroom ?hbind ?hloc ?_ ?c2 ?c3 ?c4 ?c5; (case F => k_asm); (case X => k_asm); (case T => k_asm); (case ho => k_is); (case hcd => k_is); (case hroom => ktr_room); (case hbind => exact BindsTo.of_eq rfl); (case hloc => exact locs rfl); (case c2 => exact rfl); (case c3 => exact rfl); (case c4 => exact rfl); (case c5 => decide); k_whole)
  intro L' h₁ lL F1 N1
  have B1 := below_one (A₀ := A₀) (cn := cn) (cs := cs) (a := a) (ccd := ccd) (dp := dp) (un := un) (gd := gd) (cl := cl) B F hk
  (try dsimp only)
  try k_fold
  k_steps
  all_goals try (refine' ftPost_next ?F ?N ?hm ?h1 ?h2; (case F => k_asm); (case N => k_asm); (case hm => (intro z hz hy; simp only [ftMap, hz, hy, if_false])); (case h1 => omega); (case h2 => omega))
  all_goals try (dsimp only [FtPost]; k_steps)
  all_goals try exact (fun b => ret _ _ b.1 b.2) (none_back F N (by assumption))
  k_dflt (refine' fault_caught (envL := envX cn cs L a ccd cl) ?hfr ?hfL F N hL hLd ?F' ?U ?R X (topRead_of T) ?ex hC45 ?_ ?hk ?hlo ?hx ?hdb; (case hk => rfl); (case hlo => rfl); (case hx => rfl); (case hdb => decide); (case hfr => rfl); (case hfL => rfl); (case F' => assumption); (case U => assumption); (case R => assumption); (case ex => k_is))
  intro vs' sl' slL' h2' tk2' F2' N2' n1 n2 n3
  k_steps
  exact (fun b => exc _ _ _ _ _ _ _ (by assumption) b.1 b.2) (fault_back F hL (by assumption) (by assumption) n1 n2 n3)
end
end
section
open PySem PySem.W PySem.Calls PyProof.Rows
set_option maxRecDepth 100000
set_option maxHeartbeats 400000
def spotStep (q : Int × Int) (c : Nat) : Int × Int := if c = 10 then (q.1 + 1, 1) else (q.1, q.2 + 1)
def spotL (l : List Nat) : Int × Int := l.foldl spotStep (1, 1)
theorem spotL_take {l : List Nat} {j c : Nat} (h : l[j]? = some c) : spotL (l.take (j + 1)) = spotStep (spotL (l.take j)) c := by
  rw [List.take_add_one, h]
  simp [spotL]
theorem spotL_bounds (l : List Nat) : 1 ≤ (spotL l).1 ∧ (spotL l).1 ≤ l.length + 1 ∧ 1 ≤ (spotL l).2 ∧ (spotL l).2 ≤ l.length + 1 := by
  suffices h : ∀ (l : List Nat) (q : Int × Int) (n : Nat), 1 ≤ q.1 ∧ q.1 ≤ n + 1 ∧ 1 ≤ q.2 ∧ q.2 ≤ n + 1 → 1 ≤ (l.foldl spotStep q).1 ∧ (l.foldl spotStep q).1 ≤ n + l.length + 1 ∧ 1 ≤ (l.foldl spotStep q).2 ∧ (l.foldl spotStep q).2 ≤ n + l.length + 1 by
    have := h l (1, 1) 0 (by decide)
    simpa [spotL] using this
  intro l
  induction l with
  | nil => intro q n h; simpa using h
  | cons c r ih =>
    intro q n h
    have := ih (spotStep q c) (n + 1) (by unfold spotStep; split <;> (simp only; omega))
    simp only [List.foldl_cons, List.length_cons]
    refine ⟨this.1, ?_, this.2.2.1, ?_⟩ <;> omega
theorem code_nl {c : Nat} : ((⟨#[c]⟩ : Str) == ("\n" : Str)) = true ↔ c = 10 := by
  rw [beq_iff_eq, show ("\n" : Str) = ⟨#[10]⟩ by decide +kernel, Str.mk.injEq]
  simp
theorem step_nl {z : Str} {c : Nat} {p q j : Int} (e : (z == ("\n" : Str)) = true) (hz : z = ⟨#[c]⟩) : (p + 1, j + 2 - (j + 1)) = spotStep (p, j + 1 - q) c := by
  rw [hz, code_nl] at e
  rw [spotStep, if_pos e]
  exact Prod.ext rfl (by simp only; omega)
theorem not_nl {z : Str} {c : Nat} (e : (z == ("\n" : Str)) = false) (hz : z = ⟨#[c]⟩) : c ≠ 10 := fun h => by
  rw [hz, code_nl.mpr h] at e; cases e
theorem step_no {z : Str} {c : Nat} {p q j : Int} (e : (z == ("\n" : Str)) = false) (hz : z = ⟨#[c]⟩) : (p, j + 2 - q) = spotStep (p, j + 1 - q) c := by
  rw [spotStep, if_neg (not_nl e hz)]
  exact Prod.ext rfl (by simp only; omega)
theorem step_nl2 {c : Nat} {p q : Int} (e : ((⟨#[c]⟩ : Str) == ("\n" : Str)) = true) : (p + 1, 0 + 1) = spotStep (p, q) c := by
  rw [spotStep, if_pos (code_nl.mp e)]; rfl
theorem step_no2 {c : Nat} {p q : Int} (e : ((⟨#[c]⟩ : Str) == ("\n" : Str)) = false) : (p, q + 1) = spotStep (p, q) c := by
  rw [spotStep, if_neg (not_nl e rfl)]
theorem news_int2 {h₀ : Heap} {L : Addr} {h : Heap} {r : Addr} {a a' b b' : Int} {ta tb : Tok} {news : List (Addr × Obj)} (N : News h₀ L h ((r, { cls := .type "tuple", data := .seq #[.int a ta, .int b tb] }) :: news)) (e1 : a = a') (e2 : b = b') :
    News h₀ L h ((r, { cls := .type "tuple", data := .seq #[.int a' ta, .int b' tb] }) :: news) := by subst e1; subst e2; exact N
section
variable {prog : Program} {w : World} {A : Around} {E : Value → Shared → Prop} {s : Shared} {env : Env} {h₀ : Heap} {x : Str} {body : List Stmt} {Q : Flow → Shared → Prop}
theorem iter_rangeJ {r : Addr} {a₀ b₀ : Int} {t₀ u₀ v₀ : Tok} {n : Nat} {m₀ : Str → Option Value} {news : List (Addr × Obj)} (J : Nat → (Str → Option Value) → List (Addr × Obj) → Prop)
    (hh : A.handled = none) (hr : IsRange s.heap r a₀ b₀ 1 t₀ u₀ v₀) (hsmall : Builtin.Range.small a₀ b₀ 1 = true) (hn : Builtin.Range.rangeSize a₀ b₀ 1 = (n : Int)) (F : Fr h₀ env.locals s.heap m₀) (N : News h₀ env.locals s.heap news) (hj : J 0 m₀ news)
    (turn : ∀ (i : Nat) t m₁ nx h tk own, i < n → OwnOff own (news.map (·.1)) → J i m₁ nx → Fr h₀ env.locals h (fun y => if y = x then some (.int (a₀ + i) t) else m₁ y) → News h₀ env.locals h (nx ++ own) →
      wpAny (model prog w) A (execs body env) (InvPostN h₀ env.locals (J (i + 1)) own (news.map (·.1)) { s with heap := h, toks := tk } Q) E { s with heap := h, toks := tk })
    (done : ∀ m₁ nx h tk, J n m₁ nx → Fr h₀ env.locals h m₁ → News h₀ env.locals h nx → Q .next { s with heap := h, toks := tk }) :
    wpAny (model prog w) A (pyIter (.ref r)) (fun it s₂ => LoopAtV prog w A h₀ env x body Q E it s₂) E s := by
  refine wpAny_pyIter_range hr hsmall ?_
  have W : Walks prog w A s.heap.objs.size [s.heap.objs.size] [s.heap.objs.size] n (fun i v => i < n ∧ ∃ t, v = .int (a₀ + i * 1) t)
      (fun i h => IsRangeIter h s.heap.objs.size (a₀ + (i : Nat) * 1) ((n : Int) - (i : Nat)) 1) := (Walks.range hh _ a₀ 1 n).bound
  refine loop_invN J W ?_ ?_ ?_ ?_ (by show IsRangeIter _ _ _ _ _; rw [hn]; simpa using Heap.get?_push_size _ rfl) (F.push _) (fun p hp => ⟨Heap.get?_push_of_some _ (N p hp).1, (N p hp).2⟩) hj ?_ done
  · intro hm
    exact absurd F.ns.lt ((List.mem_singleton.mp hm) ▸ Nat.lt_irrefl _)
  · intro b hb
    rw [List.mem_singleton.mp hb]
    exact next_is_new F
  · intro p hp hI
    exact absurd (Heap.lt_size (N p hp).1) ((List.mem_singleton.mp hI) ▸ Nat.lt_irrefl _)
  · intro p hp hI
    exact absurd (Heap.lt_size (N p hp).1) ((List.mem_singleton.mp hI) ▸ Nat.lt_irrefl _)
  · rintro i v m₁ nx h tk own hi ⟨_, t, rfl⟩ _ ho hJ F' N'
    rw [Int.mul_one] at F'
    exact turn i t m₁ nx h tk own hi ho hJ F' N'
theorem iter_strJ {z : Str} {zt : Tok} {m₀ : Str → Option Value} {news : List (Addr × Obj)} (J : Nat → (Str → Option Value) → List (Addr × Obj) → Prop)
    (hh : A.handled = none) (F : Fr h₀ env.locals s.heap m₀) (N : News h₀ env.locals s.heap news) (hj : J 0 m₀ news)
    (turn : ∀ (i : Nat) c t m₁ nx h tk own, z.cps.toList[i]? = some c → OwnOff own (news.map (·.1)) → J i m₁ nx → Fr h₀ env.locals h (fun y => if y = x then some (.str ⟨#[c]⟩ t) else m₁ y) → News h₀ env.locals h (nx ++ own) →
      wpAny (model prog w) A (execs body env) (InvPostN h₀ env.locals (J (i + 1)) own (news.map (·.1)) { s with heap := h, toks := tk } Q) E { s with heap := h, toks := tk })
    (done : ∀ m₁ nx h tk, J z.cps.size m₁ nx → Fr h₀ env.locals h m₁ → News h₀ env.locals h nx → Q .next { s with heap := h, toks := tk }) :
    wpAny (model prog w) A (pyIter (.str z zt)) (fun it s₂ => LoopAtV prog w A h₀ env x body Q E it s₂) E s := by
  refine wpAny_pyIter_str fun o St W hst => ?_
  refine loop_invN J (W A hh) ?_ ?_ ?_ ?_ hst (F.push _) (fun p hp => ⟨Heap.get?_push_of_some _ (N p hp).1, (N p hp).2⟩) hj ?_ done
  · intro hm
    exact absurd F.ns.lt ((List.mem_singleton.mp hm) ▸ Nat.lt_irrefl _)
  · intro b hb
    rw [List.mem_singleton.mp hb]
    exact next_is_new F
  · intro p hp hI
    exact absurd (Heap.lt_size (N p hp).1) ((List.mem_singleton.mp hI) ▸ Nat.lt_irrefl _)
  · intro p hp hI
    exact absurd (Heap.lt_size (N p hp).1) ((List.mem_singleton.mp hI) ▸ Nat.lt_irrefl _)
  · rintro i v m₁ nx h tk own hi ⟨c, t, hc, rfl⟩ _ ho hJ F' N'
    exact turn i c t m₁ nx h tk own (by simpa using hc) ho hJ F' N'

abbrev tri (m₀ : Str → Option Value) (a b c : Str) (u : Option Value) (p : Int) (tp : Tok) (q : Int) (tq : Tok) : Str → Option Value := fun y => if y = c then some (.int q tq) else if y = b then some (.int p tp) else if y = a then u else m₀ y
theorem tri_of {m₀ m' : Str → Option Value} {a b c : Str} {p q : Int} {tp tq : Tok} (h1 : m' c = some (.int q tq)) (h2 : m' b = some (.int p tp)) (hm : ∀ z, z ≠ a → z ≠ b → z ≠ c → m' z = m₀ z) : m' = tri m₀ a b c (m' a) p tp q tq := by
  funext z
  by_cases hc : z = c
  · rw [tri, if_pos hc, hc, h1]
  · rw [tri, if_neg hc]
    by_cases hb : z = b
    · rw [if_pos hb, hb, h2]
    · rw [if_neg hb]
      by_cases ha : z = a
      · rw [if_pos ha, ha]
      · rw [if_neg ha, hm z ha hb hc]
def TriPost (h₀ : Heap) (L : Addr) (s : Shared) (m₀ : Str → Option Value) (a b c : Str) (led : List (Addr × Obj)) (P : Int → Int → Prop) (Q : Flow → Shared → Prop) (f : Flow) (s₂ : Shared) : Prop :=
  match f with
  | .ret v => Q (.ret v) s₂
  | .brk => Q .next s₂
  | _ => ∃ h' tk u p tp q tq nws, s₂ = { s with heap := h', toks := tk } ∧ Fr h₀ L h' (tri m₀ a b c u p tp q tq) ∧ News h₀ L h' nws ∧ (∀ y ∈ led, y ∈ nws) ∧ P p q
theorem triPost_next {L : Addr} {m₀ m' : Str → Option Value} {a b c : Str} {led : List (Addr × Obj)} {P : Int → Int → Prop} {h' : Heap} {tk : Nat} {p q : Int} {tp tq : Tok} (F : Fr h₀ L h' m') (N : News h₀ L h' led) (h1 : m' c = some (.int q tq)) (h2 : m' b = some (.int p tp))
    (hm : ∀ z, z ≠ a → z ≠ b → z ≠ c → m' z = m₀ z) (hP : P p q) : TriPost h₀ L s m₀ a b c led P Q .next { s with heap := h', toks := tk } :=
  ⟨h', tk, _, p, tp, q, tq, led, rfl, tri_of h1 h2 hm ▸ F, N, fun _ h => h, hP⟩
theorem TriPost.fin {L : Addr} {m₀ : Str → Option Value} {a b c : Str} {news own : List (Addr × Obj)} {P : Int → Int → Prop} {f : Flow} {s₂ : Shared} (J : (Str → Option Value) → List (Addr × Obj) → Prop) (hJ : ∀ u p tp q tq, P p q → J (tri m₀ a b c u p tp q tq) news)
    (h : TriPost h₀ L s m₀ a b c (news ++ own) P Q f s₂) : InvPostN h₀ L J own (news.map (·.1)) s Q f s₂ := by
  have fin : (∃ h' tk u p tp q tq nws, s₂ = { s with heap := h', toks := tk } ∧ Fr h₀ L h' (tri m₀ a b c u p tp q tq) ∧ News h₀ L h' nws ∧ (∀ y ∈ news ++ own, y ∈ nws) ∧ P p q) → InvEndN h₀ L J own (news.map (·.1)) s s₂ := by
    rintro ⟨h', tk, u, p, tp, q, tq, nws, e, F, N, hs, hP⟩
    exact ⟨h', tk, _, nws, news, e, F, N, fun y hy => hs y (List.mem_append_left _ hy), fun y hy => hs y (List.mem_append_right _ hy), rfl, hJ u p tp q tq hP⟩
  cases f with
  | ret v => exact h
  | brk => exact h
  | next => exact fin h
  | cont => exact fin h

theorem pl_iter {r : Addr} {i : Int} {b₀ : Int} {src : Str} {t₀ u₀ v₀ tr tst : Tok} {m₀ : Str → Option Value} {news : List (Addr × Obj)} (hb : b₀ = i) (hi0 : 0 ≤ i) (hi1 : i ≤ src.length) (hlen : src.length ≤ 48)
    (hh : A.handled = none) (hr : IsRange s.heap r 0 b₀ 1 t₀ u₀ v₀) (F : Fr h₀ env.locals s.heap m₀) (N : News h₀ env.locals s.heap news) (hrow : m₀ (Str.ofString "row") = some (.int 1 tr)) (hst : m₀ (Str.ofString "start") = some (.int 0 tst))
    (turn : ∀ (j : Nat) c t u p tp q tq h tk own, src.cps.toList[j]? = some c → Txt.item src j = ⟨#[c]⟩ → j < i → Fr h₀ env.locals h (fun y => if y = Str.ofString "i" then some (.int j t) else tri m₀ (Str.ofString "i") (Str.ofString "row") (Str.ofString "start") u p tp q tq y) → News h₀ env.locals h (news ++ own) →
      wpAny (model prog w) A (execs body env) (TriPost h₀ env.locals { s with heap := h, toks := tk } m₀ (Str.ofString "i") (Str.ofString "row") (Str.ofString "start") (news ++ own) (fun p' q' => (p', (j : Int) + 2 - q') = spotStep (p, (j : Int) + 1 - q) c) Q) E { s with heap := h, toks := tk })
    (done : ∀ u tp tq h tk, Fr h₀ env.locals h (tri m₀ (Str.ofString "i") (Str.ofString "row") (Str.ofString "start") u (spotL (src.cps.toList.take i.toNat)).1 tp (i + 1 - (spotL (src.cps.toList.take i.toNat)).2) tq) → News h₀ env.locals h news → Q .next { s with heap := h, toks := tk }) :
    wpAny (model prog w) A (pyIter (.ref r)) (fun it s₂ => LoopAtV prog w A h₀ env (Str.ofString "i") body Q E it s₂) E s := by
  subst hb
  refine iter_rangeJ (n := b₀.toNat) (fun j m nx => nx = news ∧ ∃ u tp tq, m = tri m₀ (Str.ofString "i") (Str.ofString "row") (Str.ofString "start") u (spotL (src.cps.toList.take j)).1 tp ((j : Int) + 1 - (spotL (src.cps.toList.take j)).2) tq)
    hh hr (small_one (by decide) (by decide) (by omega) (by omega)) (by rw [rangeSize_nat]; simp) F N ⟨rfl, m₀ (Str.ofString "i"), tr, tst, ?_⟩ ?_ ?_
  · exact tri_of hst hrow fun _ _ _ _ => rfl
  · rintro j t m₁ nx h tk own hj ho ⟨rfl, u, tp, tq, rfl⟩ F' N'
    have hjl : j < src.cps.toList.length := by rw [str_len]; omega
    have hc : src.cps.toList[j]? = some src.cps.toList[j] := List.getElem?_eq_getElem hjl
    rw [Int.zero_add] at F'
    refine wpAny_mono (turn j _ t u _ tp _ tq h tk own hc (item_meets (by omega) (by simpa using hc)) (by omega) F' N') (fun f s₂ p => ?_) fun _ _ e => e
    refine TriPost.fin _ (fun u' p' tp' q' tq' hP => ⟨rfl, u', tp', tq', ?_⟩) p
    have hP : (p', (j : Int) + 2 - q') = spotL (src.cps.toList.take (j + 1)) := by
      rw [spotL_take hc, hP]
      congr 1
      exact Prod.ext rfl (by simp only; omega)
    rw [← hP]
    simp only
    rw [show (((j + 1 : Nat) : Int) + 1 - ((j : Int) + 2 - q')) = q' by omega]
  · rintro m₁ nx h tk ⟨rfl, u, tp, tq, rfl⟩ F' N'
    rw [show ((b₀.toNat : Nat) : Int) = b₀ by omega] at F'
    exact done u tp tq h tk F' N'

theorem sp_iter {z : Str} {zt tr tc : Tok} {m₀ : Str → Option Value} {news : List (Addr × Obj)}
    (hh : A.handled = none) (F : Fr h₀ env.locals s.heap m₀) (N : News h₀ env.locals s.heap news) (hrow : m₀ (Str.ofString "row") = some (.int 1 tr)) (hst : m₀ (Str.ofString "column") = some (.int 1 tc))
    (turn : ∀ c t u p tp q tq h tk own, Fr h₀ env.locals h (fun y => if y = Str.ofString "letter" then some (.str ⟨#[c]⟩ t) else tri m₀ (Str.ofString "letter") (Str.ofString "row") (Str.ofString "column") u p tp q tq y) → News h₀ env.locals h (news ++ own) →
      wpAny (model prog w) A (execs body env) (TriPost h₀ env.locals { s with heap := h, toks := tk } m₀ (Str.ofString "letter") (Str.ofString "row") (Str.ofString "column") (news ++ own) (fun p' q' => (p', q') = spotStep (p, q) c) Q) E { s with heap := h, toks := tk })
    (done : ∀ u tp tq h tk, Fr h₀ env.locals h (tri m₀ (Str.ofString "letter") (Str.ofString "row") (Str.ofString "column") u (spotL z.cps.toList).1 tp (spotL z.cps.toList).2 tq) → News h₀ env.locals h news → Q .next { s with heap := h, toks := tk }) :
    wpAny (model prog w) A (pyIter (.str z zt)) (fun it s₂ => LoopAtV prog w A h₀ env (Str.ofString "letter") body Q E it s₂) E s := by
  refine iter_strJ (fun j m nx => nx = news ∧ ∃ u tp tq, m = tri m₀ (Str.ofString "letter") (Str.ofString "row") (Str.ofString "column") u (spotL (z.cps.toList.take j)).1 tp (spotL (z.cps.toList.take j)).2 tq)
    hh F N ⟨rfl, m₀ (Str.ofString "letter"), tr, tc, ?_⟩ ?_ ?_
  · exact tri_of hst hrow fun _ _ _ _ => rfl
  · rintro j c t m₁ nx h tk own hc ho ⟨rfl, u, tp, tq, rfl⟩ F' N'
    refine wpAny_mono (turn c t u _ tp _ tq h tk own F' N') (fun f s₂ p => ?_) fun _ _ e => e
    refine TriPost.fin _ (fun u' p' tp' q' tq' hP => ⟨rfl, u', tp', tq', ?_⟩) p
    rw [spotL_take hc, ← hP]
  · rintro m₁ nx h tk ⟨rfl, u, tp, tq, rfl⟩ F' N'
    refine done u tp tq h tk ?_ N'
    have e : z.cps.toList.take z.cps.size = z.cps.toList := List.take_of_length_le (by simp)
    rw [e] at F'
    exact F'
theorem for_frV {m : Str → Option Value} {px pos : Pos} {iter : Expr} (_F : Fr h₀ env.locals s.heap m) (hx : env.kindOf x = some .local)
    (hp : (env.scope.kind == .class || (env.scope.kind == .module && env.locals != env.globals)) = false)
    (h : wpAny (model prog w) A (eval iter env) (fun xv s₁ => wpAny (model prog w) A (pyIter xv) (fun it s₂ => LoopAtV prog w A h₀ env x body Q E it s₂) E s₁) E s)
    (hs : ∀ x, foldedSetIterable iter env x = pure x) (hE : PassesOwn (model prog w) A env E) :
    wpAny (model prog w) A (exec (.For (.Name x px) iter body [] pos) env) Q E s := For_invV h₀ hx hp h hs hE
theorem slice_to (x : Str) {i : Int} (h0 : 0 ≤ i) (h1 : i ≤ x.length) : (Txt.slice x none (some i)).cps.toList = x.cps.toList.take i.toNat := by
  have h : Txt.slice x none (some i) = ⟨((x.cps.toList.drop 0).take (i - 0).toNat).toArray⟩ := StrLaws.sliceText_to (x := x) (j := i) ⟨h0, by rw [str_len]; omega⟩
  rw [h]; simp
end
end
section
open PySem PySem.W PyProof.Rows
set_option maxRecDepth 100000
set_option maxHeartbeats 1000000
local macro_rules | `(tactic| walk_at "pyIter ref") => `(tactic| (k_here; k_dflt (refine' pl_iter ?hb ?h0 ?h1 ?hlen ?hh ?hr ?F ?N ?hrow ?hst ?_ ?_; (case h1 => assumption); (case hr => assumption); (case h0 => assumption); (case hb => (split <;> omega)); (case hlen => assumption); (case hh => rfl); (case F => k_asm); (case N => k_asm); (case hrow => exact rfl); (case hst => exact rfl)); (all_goals first | (intro j' c' t' u' p' tp' q' tq' h' tk' own' hc' hi' hj' F' N'; (try k_sweep)) | (intro u' tp' tq' h' tk' F' N'; (try k_sweep)))))
local macro_rules | `(tactic| walk_at "pyIter str") => `(tactic| (k_here; k_dflt (refine' sp_iter ?hh ?F ?N ?hrow ?hst ?_ ?_; (case hh => rfl); (case F => k_asm); (case N => k_asm); (case hrow => exact rfl); (case hst => exact rfl)); (all_goals first | (intro c' t' u' p' tp' q' tq' h' tk' own' F' N'; (try k_sweep)) | (intro u' tp' tq' h' tk' F' N'; (try k_sweep)))))
local macro_rules | `(tactic| walk_at "exec For") => `(tactic| (k_here; (with_reducible rename Fr _ _ _ _ => lF'); (with_unfolding_all refine' for_frV ?F ?hx ?hp ?_ ?hs ?hE; (case F => exact lF'); (case hx => rfl); (case hp => rfl); (case hs => (intro _; rfl)); (case hE => first | passes_own | with_unfolding_all passes_own))))
section
variable {w : World} {mean : ExcName → Option Value} {mg mb : Str → Option Value} {dp un : Nat} {gd : Option (List Code)} {cn : Str} {cs : Scope} {a : Addr} {ccd : Value} {cl : List (Str × Addr)} {outer : List Env} {A₀ : Around} {base h₀ : Heap} {L : Addr} {m : Str → Option Value} {news : List (Addr × Obj)} {s : Shared} {Q E : Value → Shared → Prop}
theorem place_c {src : Str} {i : Int} {ts t : Tok} (B : Below A₀ base outer h₀) (F : Fr h₀ L s.heap m) (X : (KH w.params).In h₀) (N : News h₀ L s.heap news) (T : Top VW (looseW VW [Str.ofString "GateloomError"]) mean mg mb h₀) (hk : cs.kind = .function) (hdp : dp + 1 < recursionLimit) (hun : un + 16 < cLine) (hi0 : 0 ≤ i) (hi1 : i ≤ src.length) (hlen : src.length ≤ 48)
    (ret : ∀ r t1 t2 h' tk', Fr h₀ L h' m → News h₀ L h' ((r, { cls := .type "tuple", data := .seq #[.int (spotL (src.cps.toList.take i.toNat)).1 t1, .int (spotL (src.cps.toList.take i.toNat)).2 t2] }) :: news) → (∀ q ∈ news, q.1 < r) → Q (.ref r) {s with heap := h', toks := tk'}) :
    wpAny (model PySem.Challenge.rw_pq0460_01.row.prog w) (ktrTop dp un gd cn cs L a ccd cl outer) (call (.ref 102) [.str src ts, .int i t]) Q E s := by
  revert X; k_fill; intro X
  refine wpAny_call ?_
  k_dflt cell_enter
  k_steps
  all_goals first
    | (refine' triPost_next ?F ?N ?h1 ?h2 ?hm ?hP; (case F => k_asm); (case N => k_asm); (case h1 => exact rfl); (case h2 => exact rfl); (case hm => (intro z ha hb hc; simp only [tri, ha, hb, hc, if_false])); (case hP => first | exact step_nl (by assumption) (by assumption) | exact step_no (by assumption) (by assumption) | exact step_nl2 (by assumption) | exact step_no2 (by assumption)))
    | exact ret _ _ _ _ _ (by k_asm) (news_int2 (by k_asm) rfl (by first | omega | (split <;> omega))) (by first | assumption | exact allLt_lt (by assumption))
theorem spot_c {src : Str} {i : Int} {ts t : Tok} (B : Below A₀ base outer h₀) (F : Fr h₀ L s.heap m) (X : (KH w.params).In h₀) (N : News h₀ L s.heap news) (T : Top VW (looseW VW [Str.ofString "GateloomError"]) mean mg mb h₀) (hk : cs.kind = .function) (hdp : dp + 1 < recursionLimit) (hun : un + 16 < cLine) (hi0 : 0 ≤ i) (hi1 : i ≤ src.length) (hlen : src.length ≤ 48)
    (ret : ∀ r t1 t2 h' tk', Fr h₀ L h' m → News h₀ L h' ((r, { cls := .type "tuple", data := .seq #[.int (spotL (src.cps.toList.take i.toNat)).1 t1, .int (spotL (src.cps.toList.take i.toNat)).2 t2] }) :: news) → (∀ q ∈ news, q.1 < r) → Q (.ref r) {s with heap := h', toks := tk'}) :
    wpAny (model PySem.Challenge.rw_pq0460_01.row.prog w) (ktrTop dp un gd cn cs L a ccd cl outer) (call (.ref 348) [.str src ts, .int i t]) Q E s := by
  revert X; k_fill; intro X
  refine wpAny_call ?_
  k_dflt cell_enter
  have es := slice_to src hi0 hi1
  k_steps
  all_goals first
    | (refine' triPost_next ?F ?N ?h1 ?h2 ?hm ?hP; (case F => k_asm); (case N => k_asm); (case h1 => exact rfl); (case h2 => exact rfl); (case hm => (intro z ha hb hc; simp only [tri, ha, hb, hc, if_false])); (case hP => first | exact step_nl (by assumption) (by assumption) | exact step_no (by assumption) (by assumption) | exact step_nl2 (by assumption) | exact step_no2 (by assumption)))
    | exact ret _ _ _ _ _ (by k_asm) (news_int2 (by k_asm) (by rw [es]) (by rw [es])) (by first | assumption | exact allLt_lt (by assumption))
end
end
section
open PySem PySem.W PySem.Calls PyProof.Rows
set_option maxRecDepth 100000
set_option maxHeartbeats 400000
abbrev errO (C d : Addr) (vs : Array Value) (sl : Array (Option Value)) : Obj := ⟨.ref C, some d, .fields vs, sl⟩
theorem get_err {prog : Program} {w : World} {A : Around} {E : Value → Shared → Prop} {s : Shared} {K : Frag} {e C d L : Addr} {h₀ : Heap} {m : Str → Option Value} {news : List (Addr × Obj)} {vs : Array Value} {sl : Array (Option Value)} {es : List DictEntry} {n : Nat} {name : Str} {expr : Bool} {v : Value} {cd : ClassData} {Q : Value → Shared → Prop}
    (F : Fr h₀ L s.heap m) (X₀ : K.In h₀) (N : News h₀ L s.heap news) (h1 : (e, errO C d vs sl) ∈ news) (h2 : (d, dictOf es n) ∈ news) (hC : ExcCls K C cd) (ha : findIn K (.ref C) name = some none) (hl : getL name es = some (some v)) (hv : handedIn v = true)
    (h : Q v { s with toks := s.toks + 1 }) : wpAny (model prog w) A (getAttr (.ref e) name expr) Q E s := by
  refine get_exc (X₀.keeps F.keep) ⟨(N _ h1).1, rfl, rfl, (N _ h2).1⟩ hC.ga hC.gt hC.base (findObj_own (attr := none) (od := dictOf es n) ?_ ha rfl ((lookIn_dict name es n).trans hl)) hv h
  unfold hasDictIn
  rw [hC.cls, Option.any_some]
  exact hC.hasDict
def wordsS (kind det : Str) : Str := if det = "" then kind else kind ++ " (" ++ det ++ ")"
def msgS (kind det : Str) (p row col : Int) : Str := if p < 0 then wordsS kind det else Str.ofString (toString row) ++ ":" ++ Str.ofString (toString col) ++ ": " ++ wordsS kind det
section
variable {kind det : Str} {p row col : Int}
theorem ne_t (h : (det != ("" : Str)) = true) : det ≠ "" := by simpa using h
theorem ne_f (h : (det != ("" : Str)) = false) : det = "" := by simpa using h
theorem eq_t (h : (det == ("" : Str)) = true) : det = "" := by simpa using h
theorem eq_f (h : (det == ("" : Str)) = false) : det ≠ "" := by simpa using h
theorem d1 (h : (det != ("" : Str)) = true) (hp : p < 0) : Str.empty ++ kind ++ " (" ++ det ++ ")" = msgS kind det p row col := by rw [msgS, if_pos hp, wordsS, if_neg (ne_t h), Str.empty_append]
theorem d2 (h : (det != ("" : Str)) = true) (hp : ¬ p < 0) : Str.empty ++ Str.ofString (toString row) ++ ":" ++ Str.ofString (toString col) ++ ": " ++ (Str.empty ++ kind ++ " (" ++ det ++ ")") = msgS kind det p row col := by rw [msgS, if_neg hp, wordsS, if_neg (ne_t h), Str.empty_append, Str.empty_append]
theorem d3 (h : (det != ("" : Str)) = false) (hp : p < 0) : kind = msgS kind det p row col := by rw [msgS, if_pos hp, wordsS, if_pos (ne_f h)]
theorem d4 (h : (det != ("" : Str)) = false) (hp : ¬ p < 0) : Str.empty ++ Str.ofString (toString row) ++ ":" ++ Str.ofString (toString col) ++ ": " ++ kind = msgS kind det p row col := by rw [msgS, if_neg hp, wordsS, if_pos (ne_f h), Str.empty_append]
theorem m1 (h : (det == ("" : Str)) = true) (hp : p < 0) : kind = msgS kind det p row col := by rw [msgS, if_pos hp, wordsS, if_pos (eq_t h)]
theorem m2 (h : (det == ("" : Str)) = true) (hp : ¬ p < 0) : Str.ofString (toString row) ++ ":" ++ Str.ofString (toString col) ++ ": " ++ kind = msgS kind det p row col := by rw [msgS, if_neg hp, wordsS, if_pos (eq_t h)]
theorem m3 (h : (det == ("" : Str)) = false) (hp : p < 0) : kind ++ " (" ++ det ++ ")" = msgS kind det p row col := by rw [msgS, if_pos hp, wordsS, if_neg (eq_f h)]
theorem m4 (h : (det == ("" : Str)) = false) (hp : ¬ p < 0) : Str.ofString (toString row) ++ ":" ++ Str.ofString (toString col) ++ ": " ++ (kind ++ " (" ++ det ++ ")") = msgS kind det p row col := by rw [msgS, if_neg hp, wordsS, if_neg (eq_f h)]
end
end
local macro_rules | `(tactic| walk_at "call ref") => `(tactic| (k_here; (with_reducible show wpAny _ _ (call (Value.ref 102) _ _) _ _ _); k_dflt (apply place_c; walk_at "@8"; omega; omega; omega; k_whole); intro r' t1' t2' h' tk' F' N' l1; (try k_lt l1); (try k_sweep)))
section
open PySem PySem.W PyProof.Rows
set_option maxRecDepth 100000
set_option maxHeartbeats 1000000
local macro_rules | `(tactic| walk_at "getAttr ref") => `(tactic| (k_here; k_dflt (refine' get_err ?F ?X ?N ?h1 ?h2 ?hC ?ha ?hl ?hv ?_; (case F => k_asm); (case X => k_asm); (case N => k_asm); (case h1 => k_mem); (case h2 => k_mem); (case hC => assumption); (case ha => first | exact ExcCls.kind (by assumption) | exact ExcCls.at_ (by assumption) | exact ExcCls.detail (by assumption)); (case hl => k_get); (case hv => k_handed); k_whole)))
section
variable {w : World} {mean : ExcName → Option Value} {mg mb : Str → Option Value} {dp un : Nat} {gd : Option (List Code)} {cn : Str} {cs : Scope} {a : Addr} {ccd : Value} {cl : List (Str × Addr)} {outer : List Env} {A₀ : Around} {base h₀ : Heap} {L : Addr} {m : Str → Option Value} {news : List (Addr × Obj)} {s : Shared} {Q E : Value → Shared → Prop}
theorem describe_c {e d C : Addr} {cd : ClassData} {vs : Array Value} {sl : Array (Option Value)} {c1 c2 c3 tk tp td ts : Tok} {kind det src : Str} {p : Int} (B : Below A₀ base outer h₀) (F : Fr h₀ L s.heap m) (X : (KH w.params).In h₀) (N : News h₀ L s.heap ((e, errO C d vs sl) :: (d, errDict w c1 c2 c3 kind tk p tp det td) :: news)) (T : Top VW (looseW VW [Str.ofString "GateloomError"]) mean mg mb h₀) (hk : cs.kind = .function) (hdp : dp + 3 < recursionLimit) (hun : un + 24 < cLine) (hC : ExcCls (KH w.params) C cd) (hk1 : kind.length ≤ 20) (hd1 : det.length ≤ 20) (hp : p ≤ src.length) (hlen : src.length ≤ 48)
    (ret : ∀ t' h' tk', Fr h₀ L h' m → News h₀ L h' ((e, errO C d vs sl) :: (d, errDict w c1 c2 c3 kind tk p tp det td) :: news) → Q (.str (msgS kind det p (spotL (src.cps.toList.take p.toNat)).1 (spotL (src.cps.toList.take p.toNat)).2) t') {s with heap := h', toks := tk'}) :
    wpAny (model PySem.Challenge.rw_pq0460_01.row.prog w) (ktrTop dp un gd cn cs L a ccd cl outer) (call (.ref 109) [.ref e, .str src ts]) Q E s := by
  revert X; k_fill; intro X
  refine wpAny_call ?_
  k_dflt cell_enter
  have hb := spotL_bounds (src.cps.toList.take p.toNat)
  have hbl : (src.cps.toList.take p.toNat).length ≤ 48 := Nat.le_trans (List.length_take_le' _ _) (by rw [str_len]; exact hlen)
  k_steps
  all_goals (refine' cb_retS (Q := Q) (s := s) ret ?e1 ?e2 ?e3; (case e2 => k_asm); (case e3 => (first | k_asm | exact news_tl (by assumption) | exact news_tl (news_tl (by assumption)) | exact news_tl (news_tl (news_tl (by assumption))) | exact news_ap (by assumption) | exact news_tl (news_ap (by assumption)))); (case e1 => first | with_reducible exact d1 (by with_reducible assumption) (by with_reducible assumption) | with_reducible exact d2 (by with_reducible assumption) (by with_reducible assumption) | with_reducible exact d3 (by with_reducible assumption) (by with_reducible assumption) | with_reducible exact d4 (by with_reducible assumption) (by with_reducible assumption) | with_reducible exact m1 (by with_reducible assumption) (by with_reducible assumption) | with_reducible exact m2 (by with_reducible assumption) (by with_reducible assumption) | with_reducible exact m3 (by with_reducible assumption) (by with_reducible assumption) | with_reducible exact m4 (by with_reducible assumption) (by with_reducible assumption)))
theorem message_c {e d C : Addr} {cd : ClassData} {vs : Array Value} {sl : Array (Option Value)} {c1 c2 c3 tk tp td ts : Tok} {kind det src : Str} {p : Int} {r : Addr} {row col : Int} {t1 t2 : Tok} (B : Below A₀ base outer h₀) (F : Fr h₀ L s.heap m) (X : (KH w.params).In h₀) (N : News h₀ L s.heap ((e, errO C d vs sl) :: (d, errDict w c1 c2 c3 kind tk p tp det td) :: (r, { cls := .type "tuple", data := .seq #[.int row t1, .int col t2] }) :: news)) (T : Top VW (looseW VW [Str.ofString "GateloomError"]) mean mg mb h₀) (hk : cs.kind = .function) (hdp : dp + 3 < recursionLimit) (hun : un + 24 < cLine) (hC : ExcCls (KH w.params) C cd) (hk1 : kind.length ≤ 20) (hd1 : det.length ≤ 20) (hp : p ≤ src.length) (hlen : src.length ≤ 48) (hr0 : 0 ≤ row) (hr1 : row ≤ 60) (hc0 : 0 ≤ col) (hc1 : col ≤ 60)
    (ret : ∀ t' h' tk', Fr h₀ L h' m → News h₀ L h' ((e, errO C d vs sl) :: (d, errDict w c1 c2 c3 kind tk p tp det td) :: (r, { cls := .type "tuple", data := .seq #[.int row t1, .int col t2] }) :: news) → Q (.str (msgS kind det p row col) t') {s with heap := h', toks := tk'}) :
    wpAny (model PySem.Challenge.rw_pq0460_01.row.prog w) (ktrTop dp un gd cn cs L a ccd cl outer) (call (.ref 362) [.ref e, .str src ts, .ref r]) Q E s := by
  revert X; k_fill; intro X
  refine wpAny_call ?_
  k_dflt cell_enter
  k_steps
  all_goals (refine' cb_retS (Q := Q) (s := s) ret ?e1 ?e2 ?e3; (case e2 => k_asm); (case e3 => (first | k_asm | exact news_tl (by assumption) | exact news_tl (news_tl (by assumption)) | exact news_tl (news_tl (news_tl (by assumption))) | exact news_ap (by assumption) | exact news_tl (news_ap (by assumption)))); (case e1 => first | with_reducible exact d1 (by with_reducible assumption) (by with_reducible assumption) | with_reducible exact d2 (by with_reducible assumption) (by with_reducible assumption) | with_reducible exact d3 (by with_reducible assumption) (by with_reducible assumption) | with_reducible exact d4 (by with_reducible assumption) (by with_reducible assumption) | with_reducible exact m1 (by with_reducible assumption) (by with_reducible assumption) | with_reducible exact m2 (by with_reducible assumption) (by with_reducible assumption) | with_reducible exact m3 (by with_reducible assumption) (by with_reducible assumption) | with_reducible exact m4 (by with_reducible assumption) (by with_reducible assumption)))
end
end
section
open PySem PySem.W PyProof.Rows
set_option maxRecDepth 100000
set_option maxHeartbeats 400000
def underB : Nat → List Nat → Bool
  | _, [] => true
  | q, c :: r => (c != 95 || q == 120) && underB c r
theorem underB_spec : ∀ (l : List Nat) (q : Nat), underB q l = true → ∀ i, l[i]? = some 95 → (i = 0 ∧ q = 120) ∨ ∃ j, i = j + 1 ∧ l[j]? = some 120
  | [], _, _, i, h => by simp at h
  | c :: r, q, hb, 0, h => by
    simp only [List.getElem?_cons_zero, Option.some.injEq] at h
    subst h
    simp only [underB, Bool.and_eq_true, Bool.or_eq_true, bne_self_eq_false, Bool.false_eq_true, false_or, beq_iff_eq] at hb
    exact .inl ⟨rfl, hb.1⟩
  | c :: r, q, hb, i + 1, h => by
    simp only [underB, Bool.and_eq_true] at hb
    rw [List.getElem?_cons_succ] at h
    rcases underB_spec r c hb.2 i h with ⟨h1, h2⟩ | ⟨j, h1, h2⟩
    · exact .inr ⟨0, by rw [h1], by simp [h2]⟩
    · exact .inr ⟨j + 1, by rw [h1], by simpa using h2⟩
def GoodP (x : Str) : Prop := (∀ c ∈ x.cps.toList, c ∈ CS) ∧ x.length ≤ 4 ∧ UnderX x.cps.toList
def goodB (x : Str) : Bool := x.cps.toList.all (fun c => CS.contains c) && decide (x.length ≤ 4) && underB 0 x.cps.toList
theorem goodP_of {x : Str} (h : goodB x = true) : GoodP x := by
  simp only [goodB, Bool.and_eq_true, decide_eq_true_eq] at h
  refine ⟨fun c hc => ?_, h.1.2, fun i hi => ?_⟩
  · have := List.all_eq_true.mp h.1.1 c hc
    simpa using this
  · rcases underB_spec _ _ h.2 i hi with ⟨_, h0⟩ | h0
    · cases h0
    · exact h0
theorem goodP_getD {L : List Str} {k : Nat} {d : Str} (hk : k < L.length) (h : L.all goodB = true) : GoodP (L.getD k d) := by
  have e : L.getD k d = L[k] := by simp [List.getD, hk]
  rw [e]
  exact goodP_of (List.all_eq_true.mp h _ (List.getElem_mem hk))
theorem underX_append {a b : List Nat} (ha : UnderX a) (hb : UnderX b) : UnderX (a ++ b) := fun i hi => by
  by_cases h : i < a.length
  · rw [List.getElem?_append_left h] at hi
    obtain ⟨j, h1, h2⟩ := ha i hi
    exact ⟨j, h1, by rw [List.getElem?_append_left (by omega)]; exact h2⟩
  · rw [List.getElem?_append_right (by omega)] at hi
    obtain ⟨j, h1, h2⟩ := hb _ hi
    exact ⟨a.length + j, by omega, by rw [List.getElem?_append_right (by omega), show a.length + j - a.length = j by omega]; exact h2⟩
theorem good_join : ∀ (l : List Str), (∀ x ∈ l, GoodP x) → (∀ c ∈ (l.flatMap fun x => x.cps.toList), c ∈ CS) ∧ (l.flatMap fun x => x.cps.toList).length ≤ 4 * l.length ∧ UnderX (l.flatMap fun x => x.cps.toList)
  | [], _ => ⟨fun c h => by simp at h, by simp, fun i h => by simp at h⟩
  | x :: r, h => by
    obtain ⟨h1, h2, h3⟩ := good_join r fun y hy => h y (.tail _ hy)
    obtain ⟨g1, g2, g3⟩ := h x (.head _)
    rw [List.flatMap_cons]
    refine ⟨fun c hc => (List.mem_append.mp hc).elim (g1 c) (h1 c), ?_, underX_append g3 h3⟩
    rw [List.length_append, str_len, List.length_cons]
    omega
end
section
open PySem PySem.W PyProof.Rows
set_option maxRecDepth 100000
set_option maxHeartbeats 1000000
section
variable {w : World} {mean : ExcName → Option Value} {mg mb : Str → Option Value} {dp un : Nat} {gd : Option (List Code)} {cn : Str} {cs : Scope} {a : Addr} {ccd : Value} {cl : List (Str × Addr)} {outer : List Env} {A₀ : Around} {base h₀ : Heap} {L : Addr} {m : Str → Option Value} {news : List (Addr × Obj)} {s : Shared} {Q E : Value → Shared → Prop}
theorem piece_c {l : Addr} {vs : List Value} {ns : List Int} {i : Int} {t : Tok} (B : Below A₀ base outer h₀) (F : Fr h₀ L s.heap m) (X : (KH w.params).In h₀) (N : News h₀ L s.heap news) (T : Top VW (looseW VW [Str.ofString "GateloomError"]) mean mg mb h₀) (hk : cs.kind = .function) (hdp : dp + 1 < recursionLimit) (hun : un + 16 < cLine) (hl : base.IsList l vs.toArray) (hi : IntsAre vs ns) (hn : ns.length ≤ 1048576) (hi0 : 0 ≤ i) (hi1 : i ≤ 60)
    (ret : ∀ x t h' tk', GoodP x → Fr h₀ L h' m → News h₀ L h' news → Q (.str x t) {s with heap := h', toks := tk'}) :
    wpAny (model PySem.Challenge.rw_pq0460_01.row.prog w) (ktrTop dp un gd cn cs L a ccd cl outer) (call (.ref 341) [.ref l, .int i t]) Q E s := by
  revert X; k_fill; intro X
  refine wpAny_call ?_
  k_dflt cell_enter
  k_steps
  all_goals first
    | exact ret _ _ _ _ (goodP_of (by decide +kernel)) (by k_asm) (by (first | k_asm | exact news_tl (by assumption) | exact news_tl (news_tl (by assumption)) | exact news_tl (news_tl (news_tl (by assumption))) | exact news_ap (by assumption) | exact news_tl (news_ap (by assumption))))
    | exact ret _ _ _ _ (goodP_getD (by assumption) (by decide +kernel)) (by k_asm) (by (first | k_asm | exact news_tl (by assumption) | exact news_tl (news_tl (by assumption)) | exact news_tl (news_tl (news_tl (by assumption))) | exact news_ap (by assumption) | exact news_tl (news_ap (by assumption))))
end
end
section
open PySem PySem.W PySem.Calls PyProof.Rows
set_option maxRecDepth 100000
set_option maxHeartbeats 400000
def GpEl (news : List (Addr × Obj)) (y : Value) (news' : List (Addr × Obj)) : Prop := news' = news ∧ ∃ r t, y = .str r t ∧ GoodP r
theorem gp_snoc {y : Str} {t : Tok} : ∀ {vs : List Value} {ys : List Str}, StrsAre vs ys → StrsAre (vs ++ [.str y t]) (ys ++ [y])
  | _, _, .nil => .cons y t .nil
  | _, _, .cons z u r => .cons z u (gp_snoc r)
section
variable {prog : Program} {w : World} {A : Around} {h₀ : Heap} {L : Addr} {m : Str → Option Value} {env : Env} {elt : Expr} {x : Str} {scope : Scope} {cl : List (Str × Addr)} {s : Shared} {S : List (Addr × Obj) → Prop} {Fin : List Value → List (Addr × Obj) → Prop} {news : List (Addr × Obj)}
theorem gp_range {n : Nat} {a : Int}
    (turn : ∀ k t I oI C oC D m₂ ys h tk (E' : Value → Shared → Prop), a ≤ k → k < a + (n : Int) → LCg.NsObj oC m₂ → m₂ x = some (.int k t) → Fr h₀ L h m → News h₀ L h ((I, oI) :: (C, oC) :: (D, LCg.lst ys) :: news) → LCg.Off3 I C D news → ((@Ne Nat I C) ∧ (@Ne Nat I D) ∧ (@Ne Nat C D)) →
      wpAny (model prog w) A (eval elt (compEnvC scope cl C env)) (LCg.CompEnd h₀ L m { s with heap := h, toks := tk } I oI C oC D (LCg.lst ys) S (fun y news' => GpEl news y news')) E' { s with heap := h, toks := tk })
    (fin : ∀ ys l, StrsAre ys l → (∀ r ∈ l, GoodP r) → l.length = n → Fin ys news) : LCg.CompRest prog w A h₀ L m env elt x scope cl s S (fun i v => ∃ t, v = .int (a + (i : Int)) t) Fin n 0 [] news := by
  have key : ∀ (j i : Nat) (ys : List Value) (l : List Str), i + j = n → StrsAre ys l → (∀ r ∈ l, GoodP r) → l.length = i → LCg.CompRest prog w A h₀ L m env elt x scope cl s S (fun i v => ∃ t, v = .int (a + (i : Int)) t) Fin j i ys news := by
    intro j
    induction j with
    | zero =>
      intro i ys l hi hy hg hl
      exact LCg.CompRest.zero (fin ys l hy hg (by omega))
    | succ j ih =>
      intro i ys l hi hy hg hl
      refine LCg.CompRest.succ ?_
      rintro v I oI C oC D m₂ h tk E' ⟨t, rfl⟩ hC hx F N off ne
      refine wpAny_mono (turn _ t I oI C oC D m₂ ys h tk E' (by omega) (by omega) hC hx F N off ne) (fun y s₂ hq => ?_) fun _ _ e => e
      obtain ⟨h', tk', nw, e, F', N', off', hS, hn, r, t', rfl, hr⟩ := hq
      rw [hn] at N' off' hS
      refine ⟨h', tk', news, e, F', N', off', hS, ?_⟩
      refine ih (i + 1) _ (l ++ [r]) (by omega) (gp_snoc hy) (fun z hz => ?_) (by simp [hl])
      rcases List.mem_append.mp hz with hz | hz
      · exact hg z hz
      · rw [List.mem_singleton.mp hz]; exact hr
  exact key n 0 [] [] (by omega) .nil (fun r hr => nomatch hr) rfl
end
theorem fold_cat : ∀ (l : List Str) (a : Array Nat), (l.foldl (fun acc p => acc ++ (#[] : Array Nat) ++ p.cps) a).toList = a.toList ++ l.flatMap (fun x => x.cps.toList)
  | [], a => by simp
  | x :: r, a => by
    rw [List.foldl_cons, fold_cat r]
    simp [List.flatMap_cons]
theorem join_list (l : List Str) : (Txt.join "" l).cps.toList = l.flatMap (fun x => x.cps.toList) := by
  have e : ("" : Str).cps = #[] := by decide +kernel
  unfold Txt.join Builtin.Str.glued
  rw [e]
  cases l with
  | nil => rfl
  | cons x r =>
    show ((r.foldl (fun acc p => acc ++ (#[] : Array Nat) ++ p.cps) x.cps)).toList = _
    rw [fold_cat, List.flatMap_cons]
theorem good_of_join {l : List Str} (h : ∀ x ∈ l, GoodP x) (hl : l.length ≤ 12) : Good (Txt.join "" l) := by
  obtain ⟨h1, h2, h3⟩ := good_join l h
  rw [← join_list] at h1 h2 h3
  rw [str_len] at h2
  exact ⟨h1, by omega, h3⟩
theorem sum_le : ∀ (l : List Str), (∀ x ∈ l, GoodP x) → (l.map (·.length)).sum ≤ 4 * l.length
  | [], _ => by simp
  | x :: r, h => by
    have h1 := sum_le r fun y hy => h y (.tail _ hy)
    have h2 := (h x (.head _)).2.1
    simp only [List.map_cons, List.sum_cons, List.length_cons]
    omega
theorem join_good {prog : Program} {w : World} {A : Around} {E : Value → Shared → Prop} {s : Shared} {h₀ : Heap} {L D : Addr} {news : List (Addr × Obj)} {ys : List Value} {l : List Str} {n : Nat} {t : Tok} {Q : Value → Shared → Prop}
    (N : News h₀ L s.heap news) (hm : (D, LCg.lst ys) ∈ news) (hy : StrsAre ys l) (hg : ∀ x ∈ l, GoodP x) (hn : l.length = n) (hn12 : n ≤ 12)
    (h : ∀ src t' k, Good src → Q (.str src t') { s with toks := k }) : wpAny (model prog w) A (call (.builtin "str.join") [.str "" t, .ref D]) Q E s := by
  obtain ⟨l', rfl, hl'⟩ := strsAre_values hy
  have hsum := sum_le l hg
  exact SC.join (l := l') ⟨_, (N _ hm).1, rfl, _, rfl⟩ hl' (joinOk_of (by rw [show ("" : Str).length = 0 by decide +kernel]; omega)) fun t' k => h _ t' k (good_of_join hg (by omega))
end
section
open PySem PySem.W PySem.Calls PyProof.Rows
set_option maxRecDepth 100000
set_option maxHeartbeats 400000
section
variable {prog : Program} {w : World} {A : Around} {E : Value → Shared → Prop} {Q : Flow → Shared → Prop} {s : Shared} {env : Env} {h₀ : Heap} {L : Addr} {news : List (Addr × Obj)} {m : Str → Option Value}
def CutPost (h₀ : Heap) (L : Addr) (s : Shared) (m : Str → Option Value) (x : Str) (news : List (Addr × Obj)) (P : Value → Prop) (f : Flow) (s₂ : Shared) : Prop :=
  f = .next ∧ ∃ v h' tk, s₂ = { s with heap := h', toks := tk } ∧ P v ∧ Fr h₀ L h' (fun y => if y = x then some v else m y) ∧ News h₀ L h' news
theorem cut_one {st : Stmt} (x : Str) (P : Value → Prop) (_F : Fr h₀ L s.heap m) (_N : News h₀ L s.heap news)
    (first : wpAny (model prog w) A (exec st env) (CutPost h₀ L s m x news P) E s)
    (next : ∀ v h' tk, P v → Fr h₀ L h' (fun y => if y = x then some v else m y) → News h₀ L h' news → Q .next { s with heap := h', toks := tk }) :
    wpAny (model prog w) A (exec st env) Q E s := by
  refine wpAny_mono first (fun f s₂ h => ?_) fun _ _ e => e
  obtain ⟨rfl, v, h', tk, rfl, hp, F, N⟩ := h
  exact next v h' tk hp F N
theorem cut_end {x : Str} {m' : Str → Option Value} {P : Value → Prop} {v : Value} {h' : Heap} {tk : Nat} (F : Fr h₀ L h' m') (N : News h₀ L h' news) (hx : m' x = some v) (hm : ∀ z, z ≠ x → m' z = m z) (hp : P v) :
    CutPost h₀ L s m x news P .next { s with heap := h', toks := tk } := by
  refine ⟨rfl, v, h', tk, rfl, hp, ?_, N⟩
  have e : (fun y => if y = x then some v else m y) = m' := by
    funext z
    by_cases hz : z = x
    · rw [if_pos hz, hz, hx]
    · rw [if_neg hz, hm z hz]
  rw [e]; exact F
def IntIn (a b : Int) (v : Value) : Prop := ∃ i t, v = .int i t ∧ a ≤ i ∧ i ≤ b
def StrIs (P : Str → Prop) (v : Value) : Prop := ∃ x t, v = .str x t ∧ P x
theorem IntIn.mk {a b i : Int} {t : Tok} (h1 : a ≤ i) (h2 : i ≤ b) : IntIn a b (.int i t) := ⟨i, t, rfl, h1, h2⟩
theorem StrIs.mk {P : Str → Prop} {x : Str} {t : Tok} (h : P x) : StrIs P (.str x t) := ⟨x, t, rfl, h⟩
theorem IntIn.fmod {a n : Int} {t : Tok} (h : 0 < n) : IntIn 0 (n - 1) (.int (a.fmod n) t) := ⟨_, t, rfl, Int.fmod_nonneg_of_pos _ h, Int.le_sub_one_of_lt (Int.fmod_lt_of_pos _ h)⟩
theorem IntIn.fmod' {a n b : Int} {t : Tok} (h : 0 < n) (hb : n - 1 = b) : IntIn 0 b (.int (a.fmod n) t) := hb ▸ IntIn.fmod h
def KeepPost (h₀ : Heap) (L : Addr) (s : Shared) (m : Str → Option Value) (news : List (Addr × Obj)) (f : Flow) (s₂ : Shared) : Prop :=
  f = .next ∧ ∃ h' tk, s₂ = { s with heap := h', toks := tk } ∧ Fr h₀ L h' m ∧ News h₀ L h' news
theorem cut_keep {st : Stmt} (_F : Fr h₀ L s.heap m) (_N : News h₀ L s.heap news)
    (first : wpAny (model prog w) A (exec st env) (KeepPost h₀ L s m news) E s)
    (next : ∀ h' tk, Fr h₀ L h' m → News h₀ L h' news → Q .next { s with heap := h', toks := tk }) :
    wpAny (model prog w) A (exec st env) Q E s := by
  refine wpAny_mono first (fun f s₂ h => ?_) fun _ _ e => e
  obtain ⟨rfl, h', tk, rfl, F, N⟩ := h
  exact next h' tk F N
theorem keep_end {h' : Heap} {tk : Nat} (F : Fr h₀ L h' m) (N : News h₀ L h' news) : KeepPost h₀ L s m news .next { s with heap := h', toks := tk } := ⟨rfl, h', tk, rfl, F, N⟩
abbrev setM (m : Str → Option Value) (x : Str) (u : Option Value) : Str → Option Value := fun y => if y = x then u else m y
theorem setM_set {m : Str → Option Value} {x : Str} {u v : Option Value} : (fun y => if y = x then v else setM m x u y) = setM m x v := by
  funext y
  by_cases h : y = x
  · rw [if_pos h, setM, if_pos h]
  · rw [if_neg h, setM, setM, if_neg h, if_neg h]
theorem setM_self {m : Str → Option Value} {x : Str} : setM m x (m x) = m := by
  funext y
  by_cases h : y = x
  · rw [setM, if_pos h, h]
  · rw [setM, if_neg h]
def EvPost (h₀ : Heap) (L : Addr) (s : Shared) (m₀ : Str → Option Value) (x : Str) (led : List (Addr × Obj)) (Q : Flow → Shared → Prop) (f : Flow) (s₂ : Shared) : Prop :=
  match f with
  | .ret v => Q (.ret v) s₂
  | .brk => Q .next s₂
  | _ => ∃ h' tk u nws, s₂ = { s with heap := h', toks := tk } ∧ Fr h₀ L h' (setM m₀ x u) ∧ News h₀ L h' nws ∧ (∀ y ∈ led, y ∈ nws)
theorem ev_end {m₀ m' : Str → Option Value} {x : Str} {led : List (Addr × Obj)} {h' : Heap} {tk : Nat} (F : Fr h₀ L h' m') (N : News h₀ L h' led) (hm : ∀ z, z ≠ x → m' z = m₀ z) : EvPost h₀ L s m₀ x led Q .next { s with heap := h', toks := tk } := by
  refine ⟨h', tk, m' x, led, rfl, ?_, N, fun _ h => h⟩
  have e : setM m₀ x (m' x) = m' := by
    funext y
    by_cases h : y = x
    · rw [setM, if_pos h, h]
    · rw [setM, if_neg h, hm y h]
  rw [e]; exact F
theorem EvPost.fin {m₀ : Str → Option Value} {x : Str} {own : List (Addr × Obj)} {f : Flow} {s₂ : Shared} (h : EvPost h₀ L s m₀ x (news ++ own) Q f s₂) : InvPostN h₀ L (fun m nx => nx = news ∧ ∃ u, m = setM m₀ x u) own (news.map (·.1)) s Q f s₂ := by
  have fin : (∃ h' tk u nws, s₂ = { s with heap := h', toks := tk } ∧ Fr h₀ L h' (setM m₀ x u) ∧ News h₀ L h' nws ∧ (∀ y ∈ news ++ own, y ∈ nws)) → InvEndN h₀ L (fun m nx => nx = news ∧ ∃ u, m = setM m₀ x u) own (news.map (·.1)) s s₂ := by
    rintro ⟨h', tk, u, nws, e, F, N, hs⟩
    exact ⟨h', tk, _, nws, news, e, F, N, fun y hy => hs y (List.mem_append_left _ hy), fun y hy => hs y (List.mem_append_right _ hy), rfl, rfl, u, rfl⟩
  cases f with
  | ret v => exact h
  | brk => exact h
  | next => exact fin h
  | cont => exact fin h
theorem ev_iter {body : List Stmt} {x : Str} {r : Addr} {b₀ : Int} {n : Nat} {t₀ u₀ v₀ : Tok} {m₀ : Str → Option Value} (hb : b₀ = n) (hlen : n ≤ 100)
    (hh : A.handled = none) (hr : IsRange s.heap r 0 b₀ 1 t₀ u₀ v₀) (F : Fr h₀ env.locals s.heap m₀) (N : News h₀ env.locals s.heap news)
    (turn : ∀ (j : Nat) t h tk own, j < n → Fr h₀ env.locals h (fun y => if y = x then some (.int j t) else m₀ y) → News h₀ env.locals h (news ++ own) →
      wpAny (model prog w) A (execs body env) (EvPost h₀ env.locals { s with heap := h, toks := tk } m₀ x (news ++ own) Q) E { s with heap := h, toks := tk })
    (done : ∀ u h tk, Fr h₀ env.locals h (fun y => if y = x then u else m₀ y) → News h₀ env.locals h news → Q .next { s with heap := h, toks := tk }) :
    wpAny (model prog w) A (pyIter (.ref r)) (fun it s₂ => LoopAtV prog w A h₀ env x body Q E it s₂) E s := by
  subst hb
  refine iter_rangeJ (n := n) (fun _ m nx => nx = news ∧ ∃ u, m = setM m₀ x u)
    hh hr (small_one (by decide) (by decide) (by omega) (by omega)) (by rw [rangeSize_nat]; simp) F N ⟨rfl, m₀ x, setM_self.symm⟩ ?_ ?_
  · rintro j t m₁ nx h tk own hj ho ⟨rfl, u, rfl⟩ F' N'
    rw [Int.zero_add, setM_set] at F'
    exact wpAny_mono (turn j t h tk own hj F' N') (fun f s₂ p => EvPost.fin p) fun _ _ e => e
  · rintro m₁ nx h tk ⟨rfl, u, rfl⟩ F' N'
    exact done u h tk F' N'
theorem ev_iterS {body : List Stmt} {x : Str} {src : Str} {r : Addr} {b₀ : Int} {t₀ u₀ v₀ : Tok} {m₀ : Str → Option Value} (hlen : src.length ≤ 48) (hb : b₀ = (src.length : Int) + 1)
    (hh : A.handled = none) (hr : IsRange s.heap r 0 b₀ 1 t₀ u₀ v₀) (F : Fr h₀ env.locals s.heap m₀) (N : News h₀ env.locals s.heap news)
    (turn : ∀ (j : Nat) t h tk own, j ≤ src.length → Fr h₀ env.locals h (fun y => if y = x then some (.int j t) else m₀ y) → News h₀ env.locals h (news ++ own) →
      wpAny (model prog w) A (execs body env) (EvPost h₀ env.locals { s with heap := h, toks := tk } m₀ x (news ++ own) Q) E { s with heap := h, toks := tk })
    (done : ∀ u h tk, Fr h₀ env.locals h (fun y => if y = x then u else m₀ y) → News h₀ env.locals h news → Q .next { s with heap := h, toks := tk }) :
    wpAny (model prog w) A (pyIter (.ref r)) (fun it s₂ => LoopAtV prog w A h₀ env x body Q E it s₂) E s :=
  ev_iter (n := src.length + 1) (by omega) (by omega) hh hr F N (fun j t h tk own hj => turn j t h tk own (by omega)) done
def KeepMPost (h₀ : Heap) (L : Addr) (s : Shared) (m : Str → Option Value) (x : Str) (news : List (Addr × Obj)) (f : Flow) (s₂ : Shared) : Prop :=
  f = .next ∧ ∃ u h' tk, s₂ = { s with heap := h', toks := tk } ∧ Fr h₀ L h' (fun y => if y = x then u else m y) ∧ News h₀ L h' news
theorem cut_keepM {st : Stmt} (x : Str) (_F : Fr h₀ L s.heap m) (_N : News h₀ L s.heap news)
    (first : wpAny (model prog w) A (exec st env) (KeepMPost h₀ L s m x news) E s)
    (next : ∀ u h' tk, Fr h₀ L h' (fun y => if y = x then u else m y) → News h₀ L h' news → Q .next { s with heap := h', toks := tk }) :
    wpAny (model prog w) A (exec st env) Q E s := by
  refine wpAny_mono first (fun f s₂ h => ?_) fun _ _ e => e
  obtain ⟨rfl, u, h', tk, rfl, F, N⟩ := h
  exact next u h' tk F N
theorem keepM_end {x : Str} {u : Option Value} {h' : Heap} {tk : Nat} (F : Fr h₀ L h' (fun y => if y = x then u else m y)) (N : News h₀ L h' news) : KeepMPost h₀ L s m x news .next { s with heap := h', toks := tk } := ⟨rfl, u, h', tk, rfl, F, N⟩
abbrev Short (x : Str) : Prop := x.length ≤ 20
theorem str_bne {x : Str} (h : (x != x) = true) : False := by simp at h
def TwoPost (prog : Program) (w : World) (A : Around) (env : Env) (E : Value → Shared → Prop) (st : Stmt) (Q : Flow → Shared → Prop) (f : Flow) (s₂ : Shared) : Prop :=
  f = .next ∧ wpAny (model prog w) A (exec st env) Q E s₂
theorem cut_two {st₁ st₂ : Stmt} {rest : List Stmt} (x : Str) (_F : Fr h₀ L s.heap m) (_N : News h₀ L s.heap news)
    (first : wpAny (model prog w) A (exec st₁ env) (TwoPost prog w A env E st₂ (KeepMPost h₀ L s m x news)) E s)
    (next : ∀ u h' tk, Fr h₀ L h' (fun y => if y = x then u else m y) → News h₀ L h' news → wpAny (model prog w) A (execs rest env) Q E { s with heap := h', toks := tk }) :
    wpAny (model prog w) A (execs (st₁ :: st₂ :: rest) env) Q E s := by
  refine wpAny_execs_cons (wpAny_mono first (fun f s₂ h => ?_) fun _ _ e => e)
  obtain ⟨rfl, h⟩ := h
  refine wpAny_execs_cons (wpAny_mono h (fun f s₃ h => ?_) fun _ _ e => e)
  obtain ⟨rfl, u, h', tk, rfl, F, N⟩ := h
  exact next u h' tk F N
theorem spotB {src : Str} (hlen : src.length ≤ 48) (n : Nat) : 0 ≤ (spotL (src.cps.toList.take n)).1 ∧ (spotL (src.cps.toList.take n)).1 ≤ 60 ∧ 0 ≤ (spotL (src.cps.toList.take n)).2 ∧ (spotL (src.cps.toList.take n)).2 ≤ 60 := by
  have hb := spotL_bounds (src.cps.toList.take n)
  have hbl : (src.cps.toList.take n).length ≤ 48 := Nat.le_trans (List.length_take_le' _ _) (by rw [str_len]; exact hlen)
  omega
theorem news_rot {h : Heap} {r e d : Addr × Obj} (N : News h₀ L h (r :: e :: d :: news)) : News h₀ L h (e :: d :: r :: news) := by
  intro q hq
  rcases List.mem_cons.mp hq with rfl | hq
  · exact N _ (.tail _ (.head _))
  rcases List.mem_cons.mp hq with rfl | hq
  · exact N _ (.tail _ (.tail _ (.head _)))
  rcases List.mem_cons.mp hq with rfl | hq
  · exact N _ (.head _)
  · exact N _ (.tail _ (.tail _ (.tail _ hq)))
end
section
variable {w : World} {mean : ExcName → Option Value} {mg mb : Str → Option Value} {dp un : Nat} {gd : Option (List Code)} {cn : Str} {cs : Scope} {a : Addr} {ccd : Value} {cl : List (Str × Addr)} {h₀ : Heap} {L : Addr} {m : Str → Option Value} {news : List (Addr × Obj)} {s : Shared} {Q E : Value → Shared → Prop}
theorem fault_c2 {A₀ : Around} {src : Str} {ts : Tok} (B : Below A₀ h₀ [] h₀) (F : Fr h₀ L s.heap m) (X : (KH w.params).In h₀) (N : News h₀ L s.heap news) (T : Top VW (looseW VW [Str.ofString "GateloomError"]) mean mg mb h₀) (hk : cs.kind = .function) (hdp : dp + 9 < recursionLimit) (hun : un + 96 < cLine) (G : Good src)
    (ret : ∀ h' tk', Fr h₀ L h' m → News h₀ L h' news → Q .none {s with heap := h', toks := tk'})
    (exc : ∀ e d vs sl c1 c2 c3 kind tk p tp td h' tk', kind.length ≤ 20 → 0 ≤ p → p ≤ (src.length : Int) → 0 ≤ (spotL (src.cps.toList.take p.toNat)).1 → (spotL (src.cps.toList.take p.toNat)).1 ≤ 60 → 0 ≤ (spotL (src.cps.toList.take p.toNat)).2 → (spotL (src.cps.toList.take p.toNat)).2 ≤ 60 → Fr h₀ L h' m → News h₀ L h' ((e, errO 45 d vs sl) :: (d, errDict w c1 c2 c3 kind tk p tp "" td) :: news) → Q (.ref e) {s with heap := h', toks := tk'}) :
    wpAny (model PySem.Challenge.rw_pq0460_01.row.prog w) (ktrTop dp un gd cn cs L a ccd cl []) (call (.ref 355) [.str src ts]) Q E s := by
  refine fault_c B F X N T hk hdp hun G ret ?_
  intro e d vs sl od h' tk' he F' N'
  unfold ErrIs at he
  obtain ⟨c1, c2, c3, kind, tk, p, tp, td, rfl, h1, h2, h3⟩ := he
  obtain ⟨b1, b2, b3, b4⟩ := spotB G.2.1 p.toNat
  exact exc e d vs sl c1 c2 c3 kind tk p tp td h' tk' h1 h2 h3 b1 b2 b3 b4 F' N'
end
end
section
open PySem PySem.W PySem.Calls PyProof.Rows
set_option maxRecDepth 100000
set_option maxHeartbeats 400000
section
variable {prog : Program} {w : World} {A : Around} {E : Value → Shared → Prop} {Q : Flow → Shared → Prop} {s : Shared} {env : Env} {h₀ : Heap} {L : Addr} {news : List (Addr × Obj)} {m : Str → Option Value}
abbrev opt3 (m₀ : Str → Option Value) (x a b : Str) (u v z : Option Value) : Str → Option Value := fun y => if y = x then u else if y = a then v else if y = b then z else m₀ y
theorem opt3_of {m₀ m' : Str → Option Value} {x a b : Str} (hm : ∀ y, y ≠ x → y ≠ a → y ≠ b → m' y = m₀ y) : m' = opt3 m₀ x a b (m' x) (m' a) (m' b) := by
  funext y
  by_cases hx : y = x
  · rw [opt3, if_pos hx, hx]
  · rw [opt3, if_neg hx]
    by_cases ha : y = a
    · rw [if_pos ha, ha]
    · rw [if_neg ha]
      by_cases hb : y = b
      · rw [if_pos hb, hb]
      · rw [if_neg hb, hm y hx ha hb]
theorem opt3_set {m₀ : Str → Option Value} {x a b : Str} {u v z c : Option Value} : (fun y => if y = x then c else opt3 m₀ x a b u v z y) = opt3 m₀ x a b c v z := by
  funext y
  by_cases h : y = x
  · rw [if_pos h, opt3, if_pos h]
  · rw [if_neg h, opt3, opt3, if_neg h, if_neg h]
def ClsPost (h₀ : Heap) (L : Addr) (s : Shared) (m₀ : Str → Option Value) (x a b : Str) (led : List (Addr × Obj)) (Q : Flow → Shared → Prop) (f : Flow) (s₂ : Shared) : Prop :=
  match f with
  | .ret v => Q (.ret v) s₂
  | .brk => Q .next s₂
  | _ => ∃ h' tk u v z, s₂ = { s with heap := h', toks := tk } ∧ Fr h₀ L h' (opt3 m₀ x a b u v z) ∧ News h₀ L h' led
theorem cls_end {m₀ m' : Str → Option Value} {x a b : Str} {led : List (Addr × Obj)} {h' : Heap} {tk : Nat} (F : Fr h₀ L h' m') (N : News h₀ L h' led) (hm : ∀ y, y ≠ x → y ≠ a → y ≠ b → m' y = m₀ y) : ClsPost h₀ L s m₀ x a b led Q .next { s with heap := h', toks := tk } :=
  ⟨h', tk, _, _, _, rfl, opt3_of hm ▸ F, N⟩
theorem cls_rest {body : List Stmt} {x a b : Str} {I : Addr} {lp : Addr × Obj} {m₀ : Str → Option Value} (hI : ∀ p ∈ news, p.1 < I) (hlp : lp ∈ news)
    (turn : ∀ C cd it v z h tk, ExcCls (KH w.params) C cd → keepIn (KH w.params) (.ref C) = true → Fr h₀ env.locals h (fun y => if y = x then some (.ref C) else if y = a then v else if y = b then z else m₀ y) → News h₀ env.locals h ((I, it) :: news) →
      wpAny (model prog w) A (execs body env) (ClsPost h₀ env.locals { s with heap := h, toks := tk } m₀ x a b ((I, it) :: news) Q) E { s with heap := h, toks := tk })
    (done : ∀ u v z h tk, Fr h₀ env.locals h (fun y => if y = x then u else if y = a then v else if y = b then z else m₀ y) → News h₀ env.locals h news → Q .next { s with heap := h, toks := tk }) :
    ∀ (vs : List Value) (u v z : Option Value), (∀ y ∈ vs, ∃ C cd, y = .ref C ∧ ExcCls (KH w.params) C cd ∧ keepIn (KH w.params) (.ref C) = true) → ListRest prog w A E h₀ env x body Q s I lp vs (opt3 m₀ x a b u v z) news
  | [], u, v, z, _ => ListRest.zero fun h tk F N => done u v z h tk F N
  | y :: r, u, v, z, hv => by
    obtain ⟨C, cd, rfl, hC, hq⟩ := hv y (.head _)
    refine ListRest.succ fun it h tk _ F N => ?_
    rw [opt3_set] at F
    refine wpAny_mono (turn C cd it v z h tk hC hq F N) (fun f s₂ p => ?_) fun _ _ e => e
    have fin : (∃ h' tk' u' v' z', s₂ = { s with heap := h', toks := tk' } ∧ Fr h₀ env.locals h' (opt3 m₀ x a b u' v' z') ∧ News h₀ env.locals h' ((I, it) :: news)) → UnrEnd h₀ env.locals { s with heap := h, toks := tk } I it (fun m' n' => lp ∈ n' ∧ ListRest prog w A E h₀ env x body Q s I lp r m' n') s₂ := by
      rintro ⟨h', tk', u', v', z', e, F', N'⟩
      exact ⟨h', tk', _, news, e, F', N', fun p hp => Nat.ne_of_lt (hI p hp), hlp, cls_rest hI hlp turn done r u' v' z' fun q hq => hv q (.tail _ hq)⟩
    cases f with
    | ret v => exact p
    | brk => exact p
    | next => exact fin p
    | cont => exact fin p
theorem cls_iter {body : List Stmt} {x a b : Str} {l : Addr} {vs : Array Value} {n : Nat} {m₀ : Str → Option Value}
    (hm : (l, W.listOf vs n) ∈ news) (hh : A.handled = none) (F : Fr h₀ env.locals s.heap m₀) (N : News h₀ env.locals s.heap news) (hv : ∀ y ∈ vs.toList, ∃ C cd, y = .ref C ∧ ExcCls (KH w.params) C cd ∧ keepIn (KH w.params) (.ref C) = true)
    (turn : ∀ I C cd it v z h tk, (∀ p ∈ news, p.1 < I) → ExcCls (KH w.params) C cd → keepIn (KH w.params) (.ref C) = true → Fr h₀ env.locals h (fun y => if y = x then some (.ref C) else if y = a then v else if y = b then z else m₀ y) → News h₀ env.locals h ((I, it) :: news) →
      wpAny (model prog w) A (execs body env) (ClsPost h₀ env.locals { s with heap := h, toks := tk } m₀ x a b ((I, it) :: news) Q) E { s with heap := h, toks := tk })
    (done : ∀ u v z h tk, Fr h₀ env.locals h (fun y => if y = x then u else if y = a then v else if y = b then z else m₀ y) → News h₀ env.locals h news → Q .next { s with heap := h, toks := tk }) :
    wpAny (model prog w) A (pyIter (.ref l)) (fun it s₂ => LoopAtV prog w A h₀ env x body Q E it s₂) E s := by
  refine iter_listUnr (vs := vs.toList) (n := n) hh F N hm rfl rfl fun I hI => ?_
  have e : m₀ = opt3 m₀ x a b (m₀ x) (m₀ a) (m₀ b) := opt3_of fun _ _ _ _ => rfl
  rw [e]
  exact e ▸ cls_rest hI hm (fun C cd it v z h tk => turn I C cd it v z h tk hI) done vs.toList _ _ _ hv
theorem lost_bne {kind : Str} {r c : Int} (h : (msgS kind "" (-1) r c != kind) = true) : False := by
  rw [msgS, if_pos (by decide), wordsS, if_pos rfl] at h
  simp at h
theorem six (w : World) : ∀ y ∈ (#[Value.ref 32, Value.ref 45, Value.ref 57, Value.ref 69, Value.ref 81, Value.ref 93] : Array Value).toList, ∃ C cd, y = Value.ref C ∧ ExcCls (KH w.params) C cd ∧ keepIn (KH w.params) (.ref C) = true := by
  intro y hy
  have hy : y ∈ [Value.ref 32, Value.ref 45, Value.ref 57, Value.ref 69, Value.ref 81, Value.ref 93] := hy
  simp only [List.mem_cons, List.not_mem_nil, or_false] at hy
  rcases hy with rfl | rfl | rfl | rfl | rfl | rfl
  · obtain ⟨cd, h⟩ := cls32 w; exact ⟨_, cd, rfl, h, by rfl⟩
  · obtain ⟨cd, h⟩ := cls45 w; exact ⟨_, cd, rfl, h, by rfl⟩
  · obtain ⟨cd, h⟩ := cls57 w; exact ⟨_, cd, rfl, h, by rfl⟩
  · obtain ⟨cd, h⟩ := cls69 w; exact ⟨_, cd, rfl, h, by rfl⟩
  · obtain ⟨cd, h⟩ := cls81 w; exact ⟨_, cd, rfl, h, by rfl⟩
  · obtain ⟨cd, h⟩ := cls93 w; exact ⟨_, cd, rfl, h, by rfl⟩
end
end
local macro_rules | `(tactic| walk_at "call ref") => `(tactic| (k_here; (with_reducible show wpAny _ _ (call (Value.ref 348) _ _) _ _ _); k_dflt (apply spot_c; walk_at "@8"; omega; omega; omega; k_whole); intro r' t1' t2' h' tk' F' N' l1; (try k_lt l1); (try k_sweep)))
local macro_rules | `(tactic| walk_at "call ref") => `(tactic| (k_here; (with_reducible show wpAny _ _ (call (Value.ref 355) _ _) _ _ _); k_dflt (apply fault_c2; walk_at "@8"; assumption; (all_goals k_whole)); (all_goals first | (intro e' d' vs' sl' c1' c2' c3' kd' tkd' p' tp' td' h' tk' hkl' hp0' hp1' hb1' hb2' hb3' hb4' F' N'; (try k_sweep)) | (intro h' tk' F' N'; (try k_sweep)))))
local macro_rules | `(tactic| walk_at "call ref") => `(tactic| (k_here; (with_reducible show wpAny _ _ (call (Value.ref 341) _ _) _ _ _); k_dflt (apply piece_c; walk_at "@8"; k_asm; assumption; omega; omega; omega; k_whole); intro x' t' h' tk' hgp' F' N'; (try k_sweep)))
local macro_rules | `(tactic| walk_at "call ref") => `(tactic| (k_here; (with_reducible show wpAny _ _ (call (Value.ref 109) _ _) _ _ _); k_dflt (apply describe_c; walk_at "@8"; assumption; assumption; (first | assumption | decide); omega; omega; k_whole); intro t' h' tk' F' N'; (try k_sweep)))
local macro_rules | `(tactic| walk_at "call ref") => `(tactic| (k_here; (with_reducible show wpAny _ _ (call (Value.ref 362) _ _) _ _ _); k_dflt (apply message_c; k_asm; k_asm; k_asm; (first | exact news_rot (by with_reducible assumption) | k_asm | exact news_tl (by assumption) | exact news_tl (news_tl (by assumption)) | exact news_tl (news_tl (news_tl (by assumption))) | exact news_ap (by assumption) | exact news_tl (news_ap (by assumption))); k_asm; (first | exact rfl | assumption); ktr_room; ktr_units; assumption; assumption; (first | assumption | decide); omega; omega; omega; omega; omega; omega; k_whole); intro t' h' tk' F' N'; (try k_sweep)))
section
open PySem PySem.W PyProof.Rows
set_option maxRecDepth 100000
set_option maxHeartbeats 8000000
local macro_rules | `(tactic| walk_at "getAttr ref") => `(tactic| (k_here; k_dflt (refine' get_err ?F ?X ?N ?h1 ?h2 ?hC ?ha ?hl ?hv ?_; (case F => k_asm); (case X => k_asm); (case N => k_asm); (case h1 => k_mem); (case h2 => k_mem); (case hC => assumption); (case ha => first | exact ExcCls.kind (by assumption) | exact ExcCls.at_ (by assumption) | exact ExcCls.detail (by assumption)); (case hl => k_get); (case hv => k_handed); k_whole)))
local macro_rules | `(tactic| walk_at "exec For Name List cons nil") => `(tactic| (k_here; (with_reducible rename Fr _ _ _ _ => lF'); (with_unfolding_all refine' for_frV ?F ?hx ?hp ?_ ?hs ?hE; (case F => exact lF'); (case hx => rfl); (case hp => rfl); (case hs => (intro _; rfl)); (case hE => first | passes_own | with_unfolding_all passes_own))))
local macro_rules | `(tactic| walk_at "exec For") => `(tactic| (k_here; (with_reducible rename Fr _ _ _ _ => lF'); (with_unfolding_all refine' for_frV ?F ?hx ?hp ?_ ?hs ?hE; (case F => exact lF'); (case hx => rfl); (case hp => rfl); (case hs => (intro _; rfl)); (case hE => first | passes_own | with_unfolding_all passes_own))))
local macro_rules | `(tactic| walk_at "pyIter ref") => `(tactic| (k_here; k_dflt (refine' ev_iterS ?hlen ?hb ?hh ?hr ?F ?N ?_ ?_; (case hlen => with_reducible assumption); (case F => k_asm); (case N => k_asm); (case hr => k_asm); (case hh => exact rfl); (case hb => omega)); (all_goals first | (intro j' t' h' tk' own' hj' F' N'; (try k_sweep)) | (intro u' h' tk' F' N'; (try k_sweep)))))
local macro_rules | `(tactic| walk_at "pyIter ref") => `(tactic| (k_here; k_dflt (refine' cls_iter (a := Str.ofString "made") (b := Str.ofString "lost") ?hm ?hh ?F ?N ?hv ?_ ?_; (case F => k_asm); (case N => k_asm); (case hm => k_mem); (case hh => exact rfl); (case hv => exact six _)); (all_goals first | (intro I' C' cd' it' v' z' h' tk' hI' hC' hq' F' N'; (try k_sweep)) | (intro u' v' z' h' tk' F' N'; (try k_sweep)))))
local macro_rules | `(tactic| walk_at "callWith ref") => `(tactic| (k_here; k_dflt (refine' callWith_K ?k1 ?k2 ?_; (case k1 => k_asm); (case k2 => with_reducible assumption); k_whole)))
local macro_rules | `(tactic| walk_at "call ref") => `(tactic| (k_here; k_dflt (apply errmk3_c; walk_at "@8"; with_reducible assumption; k_whole); intro e' t' d' o' c1' c2' c3' tk1' tp' td' h' tk' F' N' l1 l2 l3; (try k_sweep)))
local macro_rules | `(tactic| walk_at "call ref") => `(tactic| (k_here; k_dflt (apply errmk1_c; walk_at "@8"; with_reducible assumption; k_whole); intro e' t' d' o' c1' c2' c3' tk1' tp' td' h' tk' F' N' l1 l2 l3; (try k_sweep)))
local macro_rules | `(tactic| walk_at "eval ListComp") => `(tactic| (k_here; k_dflt (refine LCg.ListComp_U (F₀ := by k_asm) (by with_unfolding_all rfl) (by decide) (by rfl) (by decide) (by rfl) ?_)))
local macro_rules | `(tactic| walk_at "CompSrc") => `(tactic| (k_here; (try k_fmods); k_dflt (refine LCg.CompSrc.range (by rfl) (by k_asm) (by k_asm) (by assumption) (by first | decide | exact small_one (by l_bnd) (by l_bnd) (by l_bnd) (by l_bnd)) (by exact rangeSize_nat _ _) (by rw [PySem.sizeLine_eq]; omega) ?_); intro g'; (refine' gp_range (fun k' t' I' oI' C' oC' D' m' ys' h' tk' E' hlo' hhi' hC' hx' F' N' off' ne' => ?_) (fun ys' l' hy' hg' hn' => ?_)); (all_goals (try (simp only [LCg.Off3, and_true] at off')))))
local macro_rules | `(tactic| walk_at "GpEl") => `(tactic| (exact ⟨rfl, _, _, rfl, by assumption⟩))
local macro_rules | `(tactic| walk_at "call builtin:str.join") => `(tactic| (k_here; k_dflt (refine' join_good ?N ?m ?y ?g ?n ?l ?_; (case N => k_asm); (case m => k_mem); (case y => assumption); (case g => assumption); (case n => assumption); (case l => omega)); intro src' t' tk' hG'))
theorem fin : PySem.Challenge.rw_pq0460_01.Holds := by
  w_on
  refine holds_law Mine.said fun said => ?_
  refine holds_open (q := VW) (loose := [Str.ofString "GateloomError"]) (Xt := fun s => xlAt VW [] s && recOk (RowW.records PySem.Challenge.rw_pq0460_01.row.toRowW) s) (XP := XL VW []) (Yf := Hook.obs HK) (Ya := Hook.val HK) (YP := Hook.says HK) (N := 5842) ?hl (Hook.of HK) (Hook.keeps HK) (fun s e => xl_of s (Bool.and_eq_true_iff.mp e).1) XL.keeps (by rfl) (by rfl) (by rfl) (fun s e => recFacts_of (Bool.and_eq_true_iff.mp e).2) (by rfl) (by first | assumption | decide +kernel) (by decide +kernel) ⟨rfl, rfl, rfl, rfl, rfl, by decide +kernel⟩ ?hw ?hc
  case hl => exact onecheck
  case hw => w_witness2
  clear said
  k_go0
  all_goals try k_fold
  (with_reducible rename Frag.In _ _ => KX); revert KX; k_fill; intro KX
  (with_reducible rename World => ww)
  obtain ⟨cd32, hC32⟩ := cls32 ww
  obtain ⟨cd45, hC45⟩ := cls45 ww
  ((first | (k_unfold; (try dsimp only)) | (k_end; wrow_close) | walk1 | (dsimp only; walk1) | (leave1; try dsimp only)); refine' cut_one (Str.ofString "count") (IntIn 0 12) ?F ?N ?_ ?_; (case F => k_asm); (case N => k_asm))
  · iterate 140 (all_goals try first | ((with_reducible show CutPost _ _ _ _ _ _ _ _ _); refine' cut_end ?F ?N ?hx ?hm ?hp; (case F => k_asm); (case N => first | k_asm | (first | k_asm | exact news_tl (by assumption) | exact news_tl (news_tl (by assumption)) | exact news_tl (news_tl (news_tl (by assumption))) | exact news_ap (by assumption) | exact news_tl (news_ap (by assumption)) | exact news_tl (news_tl (news_tl (news_tl (by assumption)))) | exact news_tl (news_tl (news_tl (news_tl (news_tl (by assumption))))) | exact news_tl (news_tl (news_tl (news_tl (news_tl (news_tl (by assumption)))))) | exact news_tl (news_tl (news_tl (news_tl (news_tl (news_tl (news_tl (by assumption))))))))); (case hx => exact rfl); (case hm => (intro z hz; simp only [hz, if_false])); (case hp => (first | exact IntIn.fmod (by decide) | exact IntIn.mk (by omega) (by omega)))) | (first | (k_unfold; (try dsimp only)) | (k_end; wrow_close) | walk1 | (dsimp only; walk1) | (leave1; try dsimp only)))
  rintro _ h' tk' ⟨count, tc, rfl, hc0, hc1⟩ F' N'
  try k_fold
  try dsimp only
  ((first | (k_unfold; (try dsimp only)) | (k_end; wrow_close) | walk1 | (dsimp only; walk1) | (leave1; try dsimp only)); refine' cut_one (Str.ofString "source") (StrIs Good) ?F ?N ?_ ?_; (case F => k_asm); (case N => k_asm))
  · iterate 140 (all_goals try first | ((with_reducible show CutPost _ _ _ _ _ _ _ _ _); refine' cut_end ?F ?N ?hx ?hm ?hp; (case F => k_asm); (case N => first | k_asm | (first | k_asm | exact news_tl (by assumption) | exact news_tl (news_tl (by assumption)) | exact news_tl (news_tl (news_tl (by assumption))) | exact news_ap (by assumption) | exact news_tl (news_ap (by assumption)) | exact news_tl (news_tl (news_tl (news_tl (by assumption)))) | exact news_tl (news_tl (news_tl (news_tl (news_tl (by assumption))))) | exact news_tl (news_tl (news_tl (news_tl (news_tl (news_tl (by assumption)))))) | exact news_tl (news_tl (news_tl (news_tl (news_tl (news_tl (news_tl (by assumption))))))))); (case hx => exact rfl); (case hm => (intro z hz; simp only [hz, if_false])); (case hp => (exact StrIs.mk (by assumption)))) | (first | (k_unfold; (try dsimp only)) | (k_end; wrow_close) | walk1 | (dsimp only; walk1) | (leave1; try dsimp only)))
  rintro _ h' tk' ⟨source, ts, rfl, hG⟩ F' N'
  try k_fold
  try dsimp only
  have hlen : source.length ≤ 48 := hG.2.1
  ((first | (k_unfold; (try dsimp only)) | (k_end; wrow_close) | walk1 | (dsimp only; walk1) | (leave1; try dsimp only)); refine' cut_one (Str.ofString "at") (IntIn 0 source.length) ?F ?N ?_ ?_; (case F => k_asm); (case N => k_asm))
  · iterate 140 (all_goals try first | ((with_reducible show CutPost _ _ _ _ _ _ _ _ _); refine' cut_end ?F ?N ?hx ?hm ?hp; (case F => k_asm); (case N => first | k_asm | (first | k_asm | exact news_tl (by assumption) | exact news_tl (news_tl (by assumption)) | exact news_tl (news_tl (news_tl (by assumption))) | exact news_ap (by assumption) | exact news_tl (news_ap (by assumption)) | exact news_tl (news_tl (news_tl (news_tl (by assumption)))) | exact news_tl (news_tl (news_tl (news_tl (news_tl (by assumption))))) | exact news_tl (news_tl (news_tl (news_tl (news_tl (news_tl (by assumption)))))) | exact news_tl (news_tl (news_tl (news_tl (news_tl (news_tl (news_tl (by assumption))))))))); (case hx => exact rfl); (case hm => (intro z hz; simp only [hz, if_false])); (case hp => (first | exact IntIn.fmod' (by omega) (by omega)))) | (first | (k_unfold; (try dsimp only)) | (k_end; wrow_close) | walk1 | (dsimp only; walk1) | (leave1; try dsimp only)))
  rintro _ h' tk' ⟨at', ta, rfl, ha0, ha1⟩ F' N'
  try k_fold
  try dsimp only
  ((first | (k_unfold; (try dsimp only)) | (k_end; wrow_close) | walk1 | (dsimp only; walk1) | (leave1; try dsimp only)); refine' cut_keep ?F ?N ?_ ?_; (case F => k_asm); (case N => k_asm))
  · iterate 140 (all_goals try first | ((with_reducible show KeepPost _ _ _ _ _ _ _); refine' keep_end ?F ?N; (case F => k_asm); (case N => first | k_asm | (first | k_asm | exact news_tl (by assumption) | exact news_tl (news_tl (by assumption)) | exact news_tl (news_tl (news_tl (by assumption))) | exact news_ap (by assumption) | exact news_tl (news_ap (by assumption)) | exact news_tl (news_tl (news_tl (news_tl (by assumption)))) | exact news_tl (news_tl (news_tl (news_tl (news_tl (by assumption))))) | exact news_tl (news_tl (news_tl (news_tl (news_tl (news_tl (by assumption)))))) | exact news_tl (news_tl (news_tl (news_tl (news_tl (news_tl (news_tl (by assumption)))))))))) | (exfalso; rename_i hn; exact Bool.noConfusion (show true = false from hn)) | (exfalso; rename_i hn; exact str_bne (by with_reducible exact hn)) | (first | (k_unfold; (try dsimp only)) | (k_end; wrow_close) | walk1 | (dsimp only; walk1) | (leave1; try dsimp only)))
  rintro h' tk' F' N'
  try k_fold
  try dsimp only
  ((first | (k_unfold; (try dsimp only)) | (k_end; wrow_close) | walk1 | (dsimp only; walk1) | (leave1; try dsimp only)); refine' cut_keepM (Str.ofString "every") ?F ?N ?_ ?_; (case F => k_asm); (case N => k_asm))
  · iterate 140 (all_goals try first | ((with_reducible show KeepMPost _ _ _ _ _ _ _ _); refine' keepM_end ?F ?N; (case F => k_asm); (case N => first | k_asm | (first | k_asm | exact news_tl (by assumption) | exact news_tl (news_tl (by assumption)) | exact news_tl (news_tl (news_tl (by assumption))) | exact news_ap (by assumption) | exact news_tl (news_ap (by assumption)) | exact news_tl (news_tl (news_tl (news_tl (by assumption)))) | exact news_tl (news_tl (news_tl (news_tl (news_tl (by assumption))))) | exact news_tl (news_tl (news_tl (news_tl (news_tl (news_tl (by assumption)))))) | exact news_tl (news_tl (news_tl (news_tl (news_tl (news_tl (news_tl (by assumption)))))))))) | ((with_reducible show EvPost _ _ _ _ _ _ _ _ _); refine' ev_end ?F ?N ?hm; (case F => k_asm); (case N => first | k_asm | (first | k_asm | exact news_tl (by assumption) | exact news_tl (news_tl (by assumption)) | exact news_tl (news_tl (news_tl (by assumption))) | exact news_ap (by assumption) | exact news_tl (news_ap (by assumption)) | exact news_tl (news_tl (news_tl (news_tl (by assumption)))) | exact news_tl (news_tl (news_tl (news_tl (news_tl (by assumption))))) | exact news_tl (news_tl (news_tl (news_tl (news_tl (news_tl (by assumption)))))) | exact news_tl (news_tl (news_tl (news_tl (news_tl (news_tl (news_tl (by assumption))))))))); (case hm => (intro z hz; simp only [hz, if_false]))) | (exfalso; rename_i hn; exact Bool.noConfusion (show true = false from hn)) | (exfalso; rename_i hn; exact str_bne (by with_reducible exact hn)) | (first | (k_unfold; (try dsimp only)) | (k_end; wrow_close) | walk1 | (dsimp only; walk1) | (leave1; try dsimp only)))
  rintro every h' tk' F' N'
  try k_fold
  try dsimp only
  refine' cut_two (Str.ofString "fault") ?F ?N ?_ ?_
  case F => k_asm
  case N => k_asm
  · iterate 140 (all_goals try first | ((with_reducible show KeepMPost _ _ _ _ _ _ _ _); refine' keepM_end ?F ?N; (case F => k_asm); (case N => first | k_asm | (first | k_asm | exact news_tl (by assumption) | exact news_tl (news_tl (by assumption)) | exact news_tl (news_tl (news_tl (by assumption))) | exact news_ap (by assumption) | exact news_tl (news_ap (by assumption)) | exact news_tl (news_tl (news_tl (news_tl (by assumption)))) | exact news_tl (news_tl (news_tl (news_tl (news_tl (by assumption))))) | exact news_tl (news_tl (news_tl (news_tl (news_tl (news_tl (by assumption)))))) | exact news_tl (news_tl (news_tl (news_tl (news_tl (news_tl (news_tl (by assumption)))))))))) | ((with_reducible show TwoPost _ _ _ _ _ _ _ _ _); refine' ⟨rfl, ?_⟩) | (exfalso; rename_i hn; exact Bool.noConfusion (show true = false from hn)) | (exfalso; rename_i hn; exact str_bne (by with_reducible exact hn)) | (first | (k_unfold; (try dsimp only)) | (k_end; wrow_close) | walk1 | (dsimp only; walk1) | (leave1; try dsimp only)))
  rintro fault h' tk' F' N'
  try k_fold
  try dsimp only
  ((first | (k_unfold; (try dsimp only)) | (k_end; wrow_close) | walk1 | (dsimp only; walk1) | (leave1; try dsimp only)); refine' cut_one (Str.ofString "kind") (StrIs Short) ?F ?N ?_ ?_; (case F => k_asm); (case N => k_asm))
  · iterate 140 (all_goals try first | ((with_reducible show CutPost _ _ _ _ _ _ _ _ _); refine' cut_end ?F ?N ?hx ?hm ?hp; (case F => k_asm); (case N => first | k_asm | (first | k_asm | exact news_tl (by assumption) | exact news_tl (news_tl (by assumption)) | exact news_tl (news_tl (news_tl (by assumption))) | exact news_ap (by assumption) | exact news_tl (news_ap (by assumption)) | exact news_tl (news_tl (news_tl (news_tl (by assumption)))) | exact news_tl (news_tl (news_tl (news_tl (news_tl (by assumption))))) | exact news_tl (news_tl (news_tl (news_tl (news_tl (news_tl (by assumption)))))) | exact news_tl (news_tl (news_tl (news_tl (news_tl (news_tl (news_tl (by assumption))))))))); (case hx => exact rfl); (case hm => (intro z hz; simp only [hz, if_false])); (case hp => (first | exact StrIs.mk (by assumption) | exact StrIs.mk (by decide +kernel)))) | (first | (k_unfold; (try dsimp only)) | (k_end; wrow_close) | walk1 | (dsimp only; walk1) | (leave1; try dsimp only)))
  rintro _ h' tk' ⟨kind, tk, rfl, hkl⟩ F' N'
  try k_fold
  try dsimp only
  ((first | (k_unfold; (try dsimp only)) | (k_end; wrow_close) | walk1 | (dsimp only; walk1) | (leave1; try dsimp only)); refine' cut_one (Str.ofString "detail") (StrIs Short) ?F ?N ?_ ?_; (case F => k_asm); (case N => k_asm))
  · iterate 140 (all_goals try first | ((with_reducible show CutPost _ _ _ _ _ _ _ _ _); refine' cut_end ?F ?N ?hx ?hm ?hp; (case F => k_asm); (case N => first | k_asm | (first | k_asm | exact news_tl (by assumption) | exact news_tl (news_tl (by assumption)) | exact news_tl (news_tl (news_tl (by assumption))) | exact news_ap (by assumption) | exact news_tl (news_ap (by assumption)) | exact news_tl (news_tl (news_tl (news_tl (by assumption)))) | exact news_tl (news_tl (news_tl (news_tl (news_tl (by assumption))))) | exact news_tl (news_tl (news_tl (news_tl (news_tl (news_tl (by assumption)))))) | exact news_tl (news_tl (news_tl (news_tl (news_tl (news_tl (news_tl (by assumption))))))))); (case hx => exact rfl); (case hm => (intro z hz; simp only [hz, if_false])); (case hp => (first | exact StrIs.mk (by assumption) | exact StrIs.mk (by decide +kernel)))) | (first | (k_unfold; (try dsimp only)) | (k_end; wrow_close) | walk1 | (dsimp only; walk1) | (leave1; try dsimp only)))
  rintro _ h' tk' ⟨det, td, rfl, hdl⟩ F' N'
  try k_fold
  try dsimp only
  obtain ⟨hq1, hq2, hq3, hq4⟩ := spotB hlen at'.toNat
  (first | (k_unfold; (try dsimp only)) | (k_end; wrow_close) | walk1 | (dsimp only; walk1) | (leave1; try dsimp only))
  (with_reducible rename Fr _ _ _ _ => lF')
  with_unfolding_all refine' for_frV ?F ?hx ?hp ?_ ?hs ?hE
  case F => exact lF'
  case hx => rfl
  case hp => rfl
  case hs => (intro _; rfl)
  case hE => first | passes_own | with_unfolding_all passes_own
  · iterate 140 (all_goals try first | ((with_reducible show ClsPost _ _ _ _ _ _ _ _ _ _ _); refine' cls_end ?F ?N ?hm; (case F => k_asm); (case N => first | k_asm | (first | k_asm | exact news_tl (by assumption) | exact news_tl (news_tl (by assumption)) | exact news_tl (news_tl (news_tl (by assumption))) | exact news_ap (by assumption) | exact news_tl (news_ap (by assumption)) | exact news_tl (news_tl (news_tl (news_tl (by assumption)))) | exact news_tl (news_tl (news_tl (news_tl (news_tl (by assumption))))) | exact news_tl (news_tl (news_tl (news_tl (news_tl (news_tl (by assumption)))))) | exact news_tl (news_tl (news_tl (news_tl (news_tl (news_tl (news_tl (by assumption))))))))); (case hm => (intro z hz ha hb; simp only [hz, ha, hb, if_false]))) | (exfalso; rename_i hn; exact Bool.noConfusion (show true = false from hn)) | (exfalso; rename_i hn; exact str_bne (by with_reducible exact hn)) | (exfalso; rename_i hn; exact lost_bne (by with_reducible exact hn)) | (first | (k_unfold; (try dsimp only)) | (k_end; wrow_close) | walk1 | (dsimp only; walk1) | (leave1; try dsimp only)))
end
end
end Mine
theorem PySem.Challenge.cw_pq0460_01_holds : PySem.Challenge.rw_pq0460_01.Holds := by
  exact Mine.fin
