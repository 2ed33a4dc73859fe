import PyProof.Rows.All
import Wide.All
import OpenK.AllK
import Wide.FinOn
import Lean
import PySem.Challenge.RW_xm0445_01
open PySem PySem.W PyProof.Rows
set_option Elab.async false
set_option rowWalk.seconds 0
set_option maxRecDepth 100000
namespace Mine
/-- the program, its statements and what is within a def -/
noncomputable def pg : Program := PySem.Challenge.rw_xm0445_01.row.prog
noncomputable def stAt (i : Nat) : Stmt := (pg.main.body[i]?).getD (.Pass ⟨0, 0, 0, 0⟩)
noncomputable def fnP (i : Nat) : Arguments := match stAt i with | .FunctionDef _ a _ _ _ _ _ _ _ _ => a | _ => ⟨[], [], none, [], [], none, []⟩
noncomputable def fnB (i : Nat) : FuncBody := match stAt i with | .FunctionDef _ _ b _ _ _ _ _ _ _ => .stmts b | _ => .stmts []
noncomputable def fnS (i : Nat) : PySem.Scope := match stAt i with | .FunctionDef _ _ _ _ _ _ s _ _ _ => s | _ => ⟨.function, [], false, false, []⟩
noncomputable def hd.view_39 : Program := (fun (T1 : Stmt) (_ : stAt 1 = T1) (T2 : Stmt) (_ : stAt 2 = T2) (T3 : Stmt) (_ : stAt 3 = T3) (T4 : Stmt) (_ : stAt 4 = T4) (T5 : Stmt) (_ : stAt 5 = T5) (T6 : Stmt) (_ : stAt 6 = T6) (T7 : Stmt) (_ : stAt 7 = T7) (T8 : Stmt) (_ : stAt 8 = T8) (T9 : Stmt) (_ : stAt 9 = T9) (T10 : Stmt) (_ : stAt 10 = T10) (T11 : Stmt) (_ : stAt 11 = T11) (T13 : Stmt) (_ : stAt 13 = T13) (T14 : Stmt) (_ : stAt 14 = T14) (T15 : Stmt) (_ : stAt 15 = T15) (T16 : Stmt) (_ : stAt 16 = T16) (T17 : Stmt) (_ : stAt 17 = T17) (T18 : Stmt) (_ : stAt 18 = T18) (T19 : Stmt) (_ : stAt 19 = T19) (T21 : Stmt) (_ : stAt 21 = T21) (T22 : Stmt) (_ : stAt 22 = T22) (T23 : Stmt) (_ : stAt 23 = T23) (T24 : Stmt) (_ : stAt 24 = T24) (T25 : Stmt) (_ : stAt 25 = T25) (T26 : Stmt) (_ : stAt 26 = T26) (T27 : Stmt) (_ : stAt 27 = T27) (T29 : Stmt) (_ : stAt 29 = T29) (T30 : Stmt) (_ : stAt 30 = T30) (T31 : Stmt) (_ : stAt 31 = T31) (T32 : Stmt) (_ : stAt 32 = T32) (T34 : Stmt) (_ : stAt 34 = T34) (T35 : Stmt) (_ : stAt 35 = T35) (T36 : Stmt) (_ : stAt 36 = T36) (T37 : Stmt) (_ : stAt 37 = T37) (T38 : Stmt) (_ : stAt 38 = T38) (T39 : Stmt) (_ : stAt 39 = T39) (T40 : Stmt) (_ : stAt 40 = T40) (T42 : Stmt) (_ : stAt 42 = T42) (T43 : Stmt) (_ : stAt 43 = T43) (T44 : Stmt) (_ : stAt 44 = T44) (T45 : Stmt) (_ : stAt 45 = T45) (T46 : Stmt) (_ : stAt 46 = T46) => ({ pg with main := { pg.main with body := [T1, T2, T3, T4, T5, T6, T7, T8, T9, T10, T11, T13, T14, T15, T16, T17, T18, T19, T21, T22, T23, T24, T25, T26, T27, T29, T30, T31, T32, T34, T35, T36, T37, T38, T39, T40, T42, T43, T44, T45, T46] } } : Program)) _ (by conv => lhs; whnf) _ (by conv => lhs; whnf) _ (by conv => lhs; whnf) _ (by conv => lhs; whnf) _ (by conv => lhs; whnf) _ (by conv => lhs; whnf) _ (by conv => lhs; whnf) _ (by conv => lhs; whnf) _ (by conv => lhs; whnf) _ (by conv => lhs; whnf) _ (by conv => lhs; whnf) _ (by conv => lhs; whnf) _ (by conv => lhs; whnf) _ (by conv => lhs; whnf) _ (by conv => lhs; whnf) _ (by conv => lhs; whnf) _ (by conv => lhs; whnf) _ (by conv => lhs; whnf) _ (by conv => lhs; whnf) _ (by conv => lhs; whnf) _ (by conv => lhs; whnf) _ (by conv => lhs; whnf) _ (by conv => lhs; whnf) _ (by conv => lhs; whnf) _ (by conv => lhs; whnf) _ (by conv => lhs; whnf) _ (by conv => lhs; whnf) _ (by conv => lhs; whnf) _ (by conv => lhs; whnf) _ (by conv => lhs; whnf) _ (by conv => lhs; whnf) _ (by conv => lhs; whnf) _ (by conv => lhs; whnf) _ (by conv => lhs; whnf) _ (by conv => lhs; whnf) _ (by conv => lhs; whnf) _ (by conv => lhs; whnf) _ (by conv => lhs; whnf) _ (by conv => lhs; whnf) _ (by conv => lhs; whnf) _ (by conv => lhs; whnf)
noncomputable def hd.heap_39 : Params → Frag := fun P => (fun (P4 : Arguments) (_ : fnP 4 = P4) (B4 : FuncBody) (_ : fnB 4 = B4) (S4 : PySem.Scope) (_ : fnS 4 = S4) (P5 : Arguments) (_ : fnP 5 = P5) (B5 : FuncBody) (_ : fnB 5 = B5) (S5 : PySem.Scope) (_ : fnS 5 = S5) (P6 : Arguments) (_ : fnP 6 = P6) (B6 : FuncBody) (_ : fnB 6 = B6) (S6 : PySem.Scope) (_ : fnS 6 = S6) (P7 : Arguments) (_ : fnP 7 = P7) (B7 : FuncBody) (_ : fnB 7 = B7) (S7 : PySem.Scope) (_ : fnS 7 = S7) (P8 : Arguments) (_ : fnP 8 = P8) (B8 : FuncBody) (_ : fnB 8 = B8) (S8 : PySem.Scope) (_ : fnS 8 = S8) (P9 : Arguments) (_ : fnP 9 = P9) (B9 : FuncBody) (_ : fnB 9 = B9) (S9 : PySem.Scope) (_ : fnS 9 = S9) (P10 : Arguments) (_ : fnP 10 = P10) (B10 : FuncBody) (_ : fnB 10 = B10) (S10 : PySem.Scope) (_ : fnS 10 = S10) (P11 : Arguments) (_ : fnP 11 = P11) (B11 : FuncBody) (_ : fnB 11 = B11) (S11 : PySem.Scope) (_ : fnS 11 = S11) (P13 : Arguments) (_ : fnP 13 = P13) (B13 : FuncBody) (_ : fnB 13 = B13) (S13 : PySem.Scope) (_ : fnS 13 = S13) (P14 : Arguments) (_ : fnP 14 = P14) (B14 : FuncBody) (_ : fnB 14 = B14) (S14 : PySem.Scope) (_ : fnS 14 = S14) (P15 : Arguments) (_ : fnP 15 = P15) (B15 : FuncBody) (_ : fnB 15 = B15) (S15 : PySem.Scope) (_ : fnS 15 = S15) (P16 : Arguments) (_ : fnP 16 = P16) (B16 : FuncBody) (_ : fnB 16 = B16) (S16 : PySem.Scope) (_ : fnS 16 = S16) (P17 : Arguments) (_ : fnP 17 = P17) (B17 : FuncBody) (_ : fnB 17 = B17) (S17 : PySem.Scope) (_ : fnS 17 = S17) (P18 : Arguments) (_ : fnP 18 = P18) (B18 : FuncBody) (_ : fnB 18 = B18) (S18 : PySem.Scope) (_ : fnS 18 = S18) (P19 : Arguments) (_ : fnP 19 = P19) (B19 : FuncBody) (_ : fnB 19 = B19) (S19 : PySem.Scope) (_ : fnS 19 = S19) (P23 : Arguments) (_ : fnP 23 = P23) (B23 : FuncBody) (_ : fnB 23 = B23) (S23 : PySem.Scope) (_ : fnS 23 = S23) (P24 : Arguments) (_ : fnP 24 = P24) (B24 : FuncBody) (_ : fnB 24 = B24) (S24 : PySem.Scope) (_ : fnS 24 = S24) (P25 : Arguments) (_ : fnP 25 = P25) (B25 : FuncBody) (_ : fnB 25 = B25) (S25 : PySem.Scope) (_ : fnS 25 = S25) (P26 : Arguments) (_ : fnP 26 = P26) (B26 : FuncBody) (_ : fnB 26 = B26) (S26 : PySem.Scope) (_ : fnS 26 = S26) (P27 : Arguments) (_ : fnP 27 = P27) (B27 : FuncBody) (_ : fnB 27 = B27) (S27 : PySem.Scope) (_ : fnS 27 = S27) (P29 : Arguments) (_ : fnP 29 = P29) (B29 : FuncBody) (_ : fnB 29 = B29) (S29 : PySem.Scope) (_ : fnS 29 = S29) (P30 : Arguments) (_ : fnP 30 = P30) (B30 : FuncBody) (_ : fnB 30 = B30) (S30 : PySem.Scope) (_ : fnS 30 = S30) (P31 : Arguments) (_ : fnP 31 = P31) (B31 : FuncBody) (_ : fnB 31 = B31) (S31 : PySem.Scope) (_ : fnS 31 = S31) (P32 : Arguments) (_ : fnP 32 = P32) (B32 : FuncBody) (_ : fnB 32 = B32) (S32 : PySem.Scope) (_ : fnS 32 = S32) (P34 : Arguments) (_ : fnP 34 = P34) (B34 : FuncBody) (_ : fnB 34 = B34) (S34 : PySem.Scope) (_ : fnS 34 = S34) (P35 : Arguments) (_ : fnP 35 = P35) (B35 : FuncBody) (_ : fnB 35 = B35) (S35 : PySem.Scope) (_ : fnS 35 = S35) (P36 : Arguments) (_ : fnP 36 = P36) (B36 : FuncBody) (_ : fnB 36 = B36) (S36 : PySem.Scope) (_ : fnS 36 = S36) (P37 : Arguments) (_ : fnP 37 = P37) (B37 : FuncBody) (_ : fnB 37 = B37) (S37 : PySem.Scope) (_ : fnS 37 = S37) (P38 : Arguments) (_ : fnP 38 = P38) (B38 : FuncBody) (_ : fnB 38 = B38) (S38 : PySem.Scope) (_ : fnS 38 = S38) (P39 : Arguments) (_ : fnP 39 = P39) (B39 : FuncBody) (_ : fnB 39 = B39) (S39 : PySem.Scope) (_ : fnS 39 = S39) (P40 : Arguments) (_ : fnP 40 = P40) (B40 : FuncBody) (_ : fnB 40 = B40) (S40 : PySem.Scope) (_ : fnS 40 = S40) (P42 : Arguments) (_ : fnP 42 = P42) (B42 : FuncBody) (_ : fnB 42 = B42) (S42 : PySem.Scope) (_ : fnS 42 = S42) (P43 : Arguments) (_ : fnP 43 = P43) (B43 : FuncBody) (_ : fnB 43 = B43) (S43 : PySem.Scope) (_ : fnS 43 = S43) (P44 : Arguments) (_ : fnP 44 = P44) (B44 : FuncBody) (_ : fnB 44 = B44) (S44 : PySem.Scope) (_ : fnS 44 = S44) (P45 : Arguments) (_ : fnP 45 = P45) (B45 : FuncBody) (_ : fnB 45 = B45) (S45 : PySem.Scope) (_ : fnS 45 = S45) (P46 : Arguments) (_ : fnP 46 = P46) (B46 : FuncBody) (_ : fnB 46 = B46) (S46 : PySem.Scope) (_ : fnS 46 = S46) => ((nat_lit 2, { cls := Value.none, data := Data.dict #[{ hash := PyData.keyHash P (Str.ofString "type.__subclasses__.Exception.0"), key := Value.str (Str.ofString "type.__subclasses__.Exception.0") 205, val := Value.int 24 0 }, { hash := PyData.keyHash P (Str.ofString "type.__subclasses__.Exception.n"), key := Value.str (Str.ofString "type.__subclasses__.Exception.n") 206, val := Value.int 1 0 }] 2 }) ::
(nat_lit 3, { cls := Value.type "dict", data := Data.dict #[{ hash := PyData.keyHash P (Str.ofString "__name__"), key := Value.str (Str.ofString "__name__") 165, val := Value.str (Str.ofString "law_xm0445_01") 605 }, { hash := PyData.keyHash P (Str.ofString "__doc__"), key := Value.str (Str.ofString "__doc__") 166, val := Value.none }, { hash := PyData.keyHash P (Str.ofString "__package__"), key := Value.str (Str.ofString "__package__") 167, val := Value.none }, { hash := PyData.keyHash P (Str.ofString "__loader__"), key := Value.str (Str.ofString "__loader__") 168, val := Value.builtin "__main__.__loader__#opaque" }, { hash := PyData.keyHash P (Str.ofString "__spec__"), key := Value.str (Str.ofString "__spec__") 169, val := Value.none }, { hash := PyData.keyHash P (Str.ofString "__annotations__"), key := Value.str (Str.ofString "__annotations__") 170, val := Value.ref 6 }, { hash := PyData.keyHash P (Str.ofString "__builtins__"), key := Value.str (Str.ofString "__builtins__") 171, val := Value.ref 4 }, { hash := PyData.keyHash P (Str.ofString "__file__"), key := Value.str (Str.ofString "__file__") 173, val := Value.str (Str.ofString "/claim/cut.py") 172 }, { hash := PyData.keyHash P (Str.ofString "__cached__"), key := Value.str (Str.ofString "__cached__") 174, val := Value.none }, { hash := PyData.keyHash P (Str.ofString "GmpError"), key := Value.str (Str.ofString "GmpError") 208, val := Value.ref 24 }, { hash := PyData.keyHash P (Str.ofString "DivisionByZero"), key := Value.str (Str.ofString "DivisionByZero") 224, val := Value.ref 37 }, { hash := PyData.keyHash P (Str.ofString "OutOfRange"), key := Value.str (Str.ofString "OutOfRange") 240, val := Value.ref 49 }, { hash := PyData.keyHash P (Str.ofString "normal"), key := Value.str (Str.ofString "normal") 248, val := Value.ref 58 }, { hash := PyData.keyHash P (Str.ofString "compare"), key := Value.str (Str.ofString "compare") 257, val := Value.ref 65 }, { hash := PyData.keyHash P (Str.ofString "add"), key := Value.str (Str.ofString "add") 270, val := Value.ref 72 }, { hash := PyData.keyHash P (Str.ofString "sub"), key := Value.str (Str.ofString "sub") 284, val := Value.ref 79 }, { hash := PyData.keyHash P (Str.ofString "divrem_limb"), key := Value.str (Str.ofString "divrem_limb") 296, val := Value.ref 86 }, { hash := PyData.keyHash P (Str.ofString "shift_left"), key := Value.str (Str.ofString "shift_left") 311, val := Value.ref 93 }, { hash := PyData.keyHash P (Str.ofString "shift_right"), key := Value.str (Str.ofString "shift_right") 326, val := Value.ref 100 }, { hash := PyData.keyHash P (Str.ofString "bits"), key := Value.str (Str.ofString "bits") 334, val := Value.ref 107 }, { hash := PyData.keyHash P (Str.ofString "signed"), key := Value.str (Str.ofString "signed") 344, val := Value.ref 114 }, { hash := PyData.keyHash P (Str.ofString "s_neg"), key := Value.str (Str.ofString "s_neg") 351, val := Value.ref 121 }, { hash := PyData.keyHash P (Str.ofString "s_sign"), key := Value.str (Str.ofString "s_sign") 358, val := Value.ref 128 }, { hash := PyData.keyHash P (Str.ofString "s_add"), key := Value.str (Str.ofString "s_add") 367, val := Value.ref 135 }, { hash := PyData.keyHash P (Str.ofString "s_sub"), key := Value.str (Str.ofString "s_sub") 376, val := Value.ref 142 }, { hash := PyData.keyHash P (Str.ofString "s_mul"), key := Value.str (Str.ofString "s_mul") 386, val := Value.ref 149 }, { hash := PyData.keyHash P (Str.ofString "tdiv"), key := Value.str (Str.ofString "tdiv") 398, val := Value.ref 156 }, { hash := PyData.keyHash P (Str.ofString "NOUGHT"), key := Value.str (Str.ofString "NOUGHT") 401, val := Value.ref 158 }, { hash := PyData.keyHash P (Str.ofString "UNIT"), key := Value.str (Str.ofString "UNIT") 403, val := Value.ref 160 }, { hash := PyData.keyHash P (Str.ofString "exact"), key := Value.str (Str.ofString "exact") 415, val := Value.ref 167 }, { hash := PyData.keyHash P (Str.ofString "pivot_row"), key := Value.str (Str.ofString "pivot_row") 425, val := Value.ref 174 }, { hash := PyData.keyHash P (Str.ofString "cleared"), key := Value.str (Str.ofString "cleared") 444, val := Value.ref 181 }, { hash := PyData.keyHash P (Str.ofString "steps_down"), key := Value.str (Str.ofString "steps_down") 450, val := Value.ref 186 }, { hash := PyData.keyHash P (Str.ofString "det_bareiss"), key := Value.str (Str.ofString "det_bareiss") 464, val := Value.ref 193 }, { hash := PyData.keyHash P (Str.ofString "need_count"), key := Value.str (Str.ofString "need_count") 473, val := Value.ref 200 }, { hash := PyData.keyHash P (Str.ofString "doubled_pair"), key := Value.str (Str.ofString "doubled_pair") 485, val := Value.ref 207 }, { hash := PyData.keyHash P (Str.ofString "fibonacci_pair"), key := Value.str (Str.ofString "fibonacci_pair") 496, val := Value.ref 214 }, { hash := PyData.keyHash P (Str.ofString "fibonacci"), key := Value.str (Str.ofString "fibonacci") 505, val := Value.ref 221 }, { hash := PyData.keyHash P (Str.ofString "mul_school"), key := Value.str (Str.ofString "mul_school") 523, val := Value.ref 228 }, { hash := PyData.keyHash P (Str.ofString "divrem_small"), key := Value.str (Str.ofString "divrem_small") 534, val := Value.ref 235 }, { hash := PyData.keyHash P (Str.ofString "guessed_limb"), key := Value.str (Str.ofString "guessed_limb") 548, val := Value.ref 242 }, { hash := PyData.keyHash P (Str.ofString "take_away"), key := Value.str (Str.ofString "take_away") 564, val := Value.ref 249 }, { hash := PyData.keyHash P (Str.ofString "put_back"), key := Value.str (Str.ofString "put_back") 578, val := Value.ref 256 }, { hash := PyData.keyHash P (Str.ofString "divide_rows"), key := Value.str (Str.ofString "divide_rows") 591, val := Value.ref 263 }, { hash := PyData.keyHash P (Str.ofString "divrem_school"), key := Value.str (Str.ofString "divrem_school") 604, val := Value.ref 270 }, { hash := PyData.keyHash P (Str.ofString "_law_next"), key := Value.str (Str.ofString "_law_next") 614, val := Value.ref 277 }, { hash := PyData.keyHash P (Str.ofString "_law_limbs"), key := Value.str (Str.ofString "_law_limbs") 623, val := Value.ref 284 }, { hash := PyData.keyHash P (Str.ofString "_law_covers"), key := Value.str (Str.ofString "_law_covers") 629, val := Value.ref 289 }, { hash := PyData.keyHash P (Str.ofString "_law_board_size"), key := Value.str (Str.ofString "_law_board_size") 635, val := Value.ref 294 }, { hash := PyData.keyHash P (Str.ofString "law"), key := Value.str (Str.ofString "law") 641, val := Value.ref 299 }] 50 }) ::
(nat_lit 15, { cls := Value.type "tuple", data := Data.seq #[Value.type "Exception"] }) ::
(nat_lit 22, { cls := Value.type "tuple", data := Data.seq #[] }) ::
(nat_lit 23, { cls := Value.type "dict", data := Data.dict #[{ hash := PyData.keyHash P (Str.ofString "__module__"), key := Value.str (Str.ofString "__module__") 196, val := Value.str (Str.ofString "gmp.limbs") 187 }, { hash := PyData.keyHash P (Str.ofString "__firstlineno__"), key := Value.str (Str.ofString "__firstlineno__") 200, val := Value.int 2 199 }, { hash := PyData.keyHash P (Str.ofString "__static_attributes__"), key := Value.str (Str.ofString "__static_attributes__") 201, val := Value.ref 22 }, { hash := PyData.keyHash P (Str.ofString "__weakref__"), key := Value.str (Str.ofString "__weakref__") 203, val := Value.ref 25 }, { hash := PyData.keyHash P (Str.ofString "__doc__"), key := Value.str (Str.ofString "__doc__") 204, val := Value.none }] 3 }) ::
(nat_lit 24, { cls := Value.type "type", data := Data.cls { name := Str.ofString "GmpError", bases := [Value.type "Exception"], mro := [Value.ref 24, Value.type "Exception", Value.type "BaseException", Value.type "object"], ns := 23, qualname := Str.ofString "GmpError", subclasses := [Value.ref 37, Value.ref 49] }, slots := #[some (Value.ref 15), none, some (Value.str (Str.ofString "GmpError") 189), some (Value.str (Str.ofString "GmpError") 197), some (Value.builtin "Exception.__new__"), some (Value.bool true)] }) ::
(nat_lit 25, { cls := Value.type "getset_descriptor", data := Data.fields #[Value.str (Str.ofString "__weakref__") 202, Value.ref 24, Value.builtin "ExceptionGroup.__weakref__", Value.none] }) ::
(nat_lit 28, { cls := Value.type "tuple", data := Data.seq #[Value.ref 24] }) ::
(nat_lit 35, { cls := Value.type "tuple", data := Data.seq #[] }) ::
(nat_lit 36, { cls := Value.type "dict", data := Data.dict #[{ hash := PyData.keyHash P (Str.ofString "__module__"), key := Value.str (Str.ofString "__module__") 216, val := Value.str (Str.ofString "gmp.limbs") 187 }, { hash := PyData.keyHash P (Str.ofString "__firstlineno__"), key := Value.str (Str.ofString "__firstlineno__") 220, val := Value.int 4 219 }, { hash := PyData.keyHash P (Str.ofString "__static_attributes__"), key := Value.str (Str.ofString "__static_attributes__") 221, val := Value.ref 35 }, { hash := PyData.keyHash P (Str.ofString "__doc__"), key := Value.str (Str.ofString "__doc__") 222, val := Value.none }] 2 }) ::
(nat_lit 37, { cls := Value.type "type", data := Data.cls { name := Str.ofString "DivisionByZero", bases := [Value.ref 24], mro := [Value.ref 37, Value.ref 24, Value.type "Exception", Value.type "BaseException", Value.type "object"], ns := 36, qualname := Str.ofString "DivisionByZero" }, slots := #[some (Value.ref 28), none, some (Value.str (Str.ofString "DivisionByZero") 209), some (Value.str (Str.ofString "DivisionByZero") 217), some (Value.builtin "Exception.__new__"), some (Value.bool true)] }) ::
(nat_lit 40, { cls := Value.type "tuple", data := Data.seq #[Value.ref 24] }) ::
(nat_lit 47, { cls := Value.type "tuple", data := Data.seq #[] }) ::
(nat_lit 48, { cls := Value.type "dict", data := Data.dict #[{ hash := PyData.keyHash P (Str.ofString "__module__"), key := Value.str (Str.ofString "__module__") 232, val := Value.str (Str.ofString "gmp.limbs") 187 }, { hash := PyData.keyHash P (Str.ofString "__firstlineno__"), key := Value.str (Str.ofString "__firstlineno__") 236, val := Value.int 6 235 }, { hash := PyData.keyHash P (Str.ofString "__static_attributes__"), key := Value.str (Str.ofString "__static_attributes__") 237, val := Value.ref 47 }, { hash := PyData.keyHash P (Str.ofString "__doc__"), key := Value.str (Str.ofString "__doc__") 238, val := Value.none }] 2 }) ::
(nat_lit 49, { cls := Value.type "type", data := Data.cls { name := Str.ofString "OutOfRange", bases := [Value.ref 24], mro := [Value.ref 49, Value.ref 24, Value.type "Exception", Value.type "BaseException", Value.type "object"], ns := 48, qualname := Str.ofString "OutOfRange" }, slots := #[some (Value.ref 40), none, some (Value.str (Str.ofString "OutOfRange") 225), some (Value.str (Str.ofString "OutOfRange") 233), some (Value.builtin "Exception.__new__"), some (Value.bool true)] }) ::
(nat_lit 52, { cls := Value.type "tuple", data := Data.seq #[] }) ::
(nat_lit 54, { cls := Value.type "tuple", data := Data.seq #[Value.str (Str.ofString "a") 244, Value.str (Str.ofString "end") 245] }) ::
(nat_lit 55, { cls := Value.type "tuple", data := Data.seq #[] }) ::
(nat_lit 57, { cls := Value.type "code", data := Data.fields #[Value.str (Str.ofString "normal") 241, Value.str (Str.ofString "normal") 242, Value.str (Str.ofString "/claim/cut.py") 243, Value.int 8 0, Value.int 1 0, Value.int 0 0, Value.int 0 0, Value.int 3 0, Value.ref 52, Value.bool true, Value.int 181 0, Value.ref 53, Value.none, Value.ref 54, Value.ref 55, Value.ref 56, Value.int 246 0, Value.int 8 0, Value.str (Str.ofString "/claim/cut.py") 247] }) ::
(nat_lit 58, { cls := Value.type "function", data := Data.func { name := Str.ofString "normal", qualname := Str.ofString "normal", params := P4, body := B4, scope := S4, globals := 3, closure := [], defaults := Value.none, kwdefaults := Value.none, pyModule := Value.str (Str.ofString "gmp.limbs") 187, code := Value.ref 57 } }) ::
(nat_lit 59, { cls := Value.type "tuple", data := Data.seq #[] }) ::
(nat_lit 61, { cls := Value.type "tuple", data := Data.seq #[Value.str (Str.ofString "a") 252, Value.str (Str.ofString "b") 253, Value.str (Str.ofString "at") 254] }) ::
(nat_lit 62, { cls := Value.type "tuple", data := Data.seq #[] }) ::
(nat_lit 64, { cls := Value.type "code", data := Data.fields #[Value.str (Str.ofString "compare") 249, Value.str (Str.ofString "compare") 250, Value.str (Str.ofString "/claim/cut.py") 251, Value.int 13 0, Value.int 2 0, Value.int 0 0, Value.int 0 0, Value.int 3 0, Value.ref 59, Value.bool true, Value.int 181 0, Value.ref 60, Value.none, Value.ref 61, Value.ref 62, Value.ref 63, Value.int 255 0, Value.int 13 0, Value.str (Str.ofString "/claim/cut.py") 256] }) ::
(nat_lit 65, { cls := Value.type "function", data := Data.func { name := Str.ofString "compare", qualname := Str.ofString "compare", params := P5, body := B5, scope := S5, globals := 3, closure := [], defaults := Value.none, kwdefaults := Value.none, pyModule := Value.str (Str.ofString "gmp.limbs") 187, code := Value.ref 64 } }) ::
(nat_lit 66, { cls := Value.type "tuple", data := Data.seq #[] }) ::
(nat_lit 68, { cls := Value.type "tuple", data := Data.seq #[Value.str (Str.ofString "a") 261, Value.str (Str.ofString "b") 262, Value.str (Str.ofString "w") 263, Value.str (Str.ofString "found") 264, Value.str (Str.ofString "carry") 265, Value.str (Str.ofString "mask") 266, Value.str (Str.ofString "at") 267] }) ::
(nat_lit 69, { cls := Value.type "tuple", data := Data.seq #[] }) ::
(nat_lit 71, { cls := Value.type "code", data := Data.fields #[Value.str (Str.ofString "add") 258, Value.str (Str.ofString "add") 259, Value.str (Str.ofString "/claim/cut.py") 260, Value.int 20 0, Value.int 3 0, Value.int 0 0, Value.int 0 0, Value.int 3 0, Value.ref 66, Value.bool true, Value.int 181 0, Value.ref 67, Value.none, Value.ref 68, Value.ref 69, Value.ref 70, Value.int 268 0, Value.int 20 0, Value.str (Str.ofString "/claim/cut.py") 269] }) ::
(nat_lit 72, { cls := Value.type "function", data := Data.func { name := Str.ofString "add", qualname := Str.ofString "add", params := P6, body := B6, scope := S6, globals := 3, closure := [], defaults := Value.none, kwdefaults := Value.none, pyModule := Value.str (Str.ofString "gmp.limbs") 187, code := Value.ref 71 } }) ::
(nat_lit 73, { cls := Value.type "tuple", data := Data.seq #[] }) ::
(nat_lit 75, { cls := Value.type "tuple", data := Data.seq #[Value.str (Str.ofString "a") 274, Value.str (Str.ofString "b") 275, Value.str (Str.ofString "w") 276, Value.str (Str.ofString "found") 277, Value.str (Str.ofString "borrow") 278, Value.str (Str.ofString "base") 279, Value.str (Str.ofString "at") 280, Value.str (Str.ofString "limb") 281] }) ::
(nat_lit 76, { cls := Value.type "tuple", data := Data.seq #[] }) ::
(nat_lit 78, { cls := Value.type "code", data := Data.fields #[Value.str (Str.ofString "sub") 271, Value.str (Str.ofString "sub") 272, Value.str (Str.ofString "/claim/cut.py") 273, Value.int 35 0, Value.int 3 0, Value.int 0 0, Value.int 0 0, Value.int 3 0, Value.ref 73, Value.bool true, Value.int 181 0, Value.ref 74, Value.none, Value.ref 75, Value.ref 76, Value.ref 77, Value.int 282 0, Value.int 35 0, Value.str (Str.ofString "/claim/cut.py") 283] }) ::
(nat_lit 79, { cls := Value.type "function", data := Data.func { name := Str.ofString "sub", qualname := Str.ofString "sub", params := P7, body := B7, scope := S7, globals := 3, closure := [], defaults := Value.none, kwdefaults := Value.none, pyModule := Value.str (Str.ofString "gmp.limbs") 187, code := Value.ref 78 } }) ::
(nat_lit 80, { cls := Value.type "tuple", data := Data.seq #[] }) ::
(nat_lit 82, { cls := Value.type "tuple", data := Data.seq #[Value.str (Str.ofString "a") 288, Value.str (Str.ofString "limb") 289, Value.str (Str.ofString "w") 290, Value.str (Str.ofString "found") 291, Value.str (Str.ofString "rest") 292, Value.str (Str.ofString "at") 293] }) ::
(nat_lit 83, { cls := Value.type "tuple", data := Data.seq #[] }) ::
(nat_lit 85, { cls := Value.type "code", data := Data.fields #[Value.str (Str.ofString "divrem_limb") 285, Value.str (Str.ofString "divrem_limb") 286, Value.str (Str.ofString "/claim/cut.py") 287, Value.int 44 0, Value.int 3 0, Value.int 0 0, Value.int 0 0, Value.int 3 0, Value.ref 80, Value.bool true, Value.int 181 0, Value.ref 81, Value.none, Value.ref 82, Value.ref 83, Value.ref 84, Value.int 294 0, Value.int 44 0, Value.str (Str.ofString "/claim/cut.py") 295] }) ::
(nat_lit 86, { cls := Value.type "function", data := Data.func { name := Str.ofString "divrem_limb", qualname := Str.ofString "divrem_limb", params := P8, body := B8, scope := S8, globals := 3, closure := [], defaults := Value.none, kwdefaults := Value.none, pyModule := Value.str (Str.ofString "gmp.limbs") 187, code := Value.ref 85 } }) ::
(nat_lit 87, { cls := Value.type "tuple", data := Data.seq #[] }) ::
(nat_lit 89, { cls := Value.type "tuple", data := Data.seq #[Value.str (Str.ofString "a") 300, Value.str (Str.ofString "n") 301, Value.str (Str.ofString "w") 302, Value.str (Str.ofString "spots") 303, Value.str (Str.ofString "few") 304, Value.str (Str.ofString "found") 305, Value.str (Str.ofString "carry") 306, Value.str (Str.ofString "mask") 307, Value.str (Str.ofString "one") 308] }) ::
(nat_lit 90, { cls := Value.type "tuple", data := Data.seq #[] }) ::
(nat_lit 92, { cls := Value.type "code", data := Data.fields #[Value.str (Str.ofString "shift_left") 297, Value.str (Str.ofString "shift_left") 298, Value.str (Str.ofString "/claim/cut.py") 299, Value.int 53 0, Value.int 3 0, Value.int 0 0, Value.int 0 0, Value.int 3 0, Value.ref 87, Value.bool true, Value.int 181 0, Value.ref 88, Value.none, Value.ref 89, Value.ref 90, Value.ref 91, Value.int 309 0, Value.int 53 0, Value.str (Str.ofString "/claim/cut.py") 310] }) ::
(nat_lit 93, { cls := Value.type "function", data := Data.func { name := Str.ofString "shift_left", qualname := Str.ofString "shift_left", params := P9, body := B9, scope := S9, globals := 3, closure := [], defaults := Value.none, kwdefaults := Value.none, pyModule := Value.str (Str.ofString "gmp.limbs") 187, code := Value.ref 92 } }) ::
(nat_lit 94, { cls := Value.type "tuple", data := Data.seq #[] }) ::
(nat_lit 96, { cls := Value.type "tuple", data := Data.seq #[Value.str (Str.ofString "a") 315, Value.str (Str.ofString "n") 316, Value.str (Str.ofString "w") 317, Value.str (Str.ofString "spots") 318, Value.str (Str.ofString "few") 319, Value.str (Str.ofString "found") 320, Value.str (Str.ofString "mask") 321, Value.str (Str.ofString "at") 322, Value.str (Str.ofString "above") 323] }) ::
(nat_lit 97, { cls := Value.type "tuple", data := Data.seq #[] }) ::
(nat_lit 99, { cls := Value.type "code", data := Data.fields #[Value.str (Str.ofString "shift_right") 312, Value.str (Str.ofString "shift_right") 313, Value.str (Str.ofString "/claim/cut.py") 314, Value.int 65 0, Value.int 3 0, Value.int 0 0, Value.int 0 0, Value.int 3 0, Value.ref 94, Value.bool true, Value.int 181 0, Value.ref 95, Value.none, Value.ref 96, Value.ref 97, Value.ref 98, Value.int 324 0, Value.int 65 0, Value.str (Str.ofString "/claim/cut.py") 325] }) ::
(nat_lit 100, { cls := Value.type "function", data := Data.func { name := Str.ofString "shift_right", qualname := Str.ofString "shift_right", params := P10, body := B10, scope := S10, globals := 3, closure := [], defaults := Value.none, kwdefaults := Value.none, pyModule := Value.str (Str.ofString "gmp.limbs") 187, code := Value.ref 99 } }) ::
(nat_lit 101, { cls := Value.type "tuple", data := Data.seq #[] }) ::
(nat_lit 103, { cls := Value.type "tuple", data := Data.seq #[Value.str (Str.ofString "a") 330, Value.str (Str.ofString "w") 331] }) ::
(nat_lit 104, { cls := Value.type "tuple", data := Data.seq #[] }) ::
(nat_lit 106, { cls := Value.type "code", data := Data.fields #[Value.str (Str.ofString "bits") 327, Value.str (Str.ofString "bits") 328, Value.str (Str.ofString "/claim/cut.py") 329, Value.int 72 0, Value.int 2 0, Value.int 0 0, Value.int 0 0, Value.int 3 0, Value.ref 101, Value.bool true, Value.int 181 0, Value.ref 102, Value.none, Value.ref 103, Value.ref 104, Value.ref 105, Value.int 332 0, Value.int 72 0, Value.str (Str.ofString "/claim/cut.py") 333] }) ::
(nat_lit 107, { cls := Value.type "function", data := Data.func { name := Str.ofString "bits", qualname := Str.ofString "bits", params := P11, body := B11, scope := S11, globals := 3, closure := [], defaults := Value.none, kwdefaults := Value.none, pyModule := Value.str (Str.ofString "gmp.limbs") 187, code := Value.ref 106 } }) ::
(nat_lit 108, { cls := Value.type "tuple", data := Data.seq #[] }) ::
(nat_lit 110, { cls := Value.type "tuple", data := Data.seq #[Value.str (Str.ofString "is_below") 340, Value.str (Str.ofString "nat") 341] }) ::
(nat_lit 111, { cls := Value.type "tuple", data := Data.seq #[] }) ::
(nat_lit 113, { cls := Value.type "code", data := Data.fields #[Value.str (Str.ofString "signed") 337, Value.str (Str.ofString "signed") 338, Value.str (Str.ofString "/claim/cut.py") 339, Value.int 75 0, Value.int 2 0, Value.int 0 0, Value.int 0 0, Value.int 3 0, Value.ref 108, Value.bool true, Value.int 181 0, Value.ref 109, Value.none, Value.ref 110, Value.ref 111, Value.ref 112, Value.int 342 0, Value.int 75 0, Value.str (Str.ofString "/claim/cut.py") 343] }) ::
(nat_lit 114, { cls := Value.type "function", data := Data.func { name := Str.ofString "signed", qualname := Str.ofString "signed", params := P13, body := B13, scope := S13, globals := 3, closure := [], defaults := Value.none, kwdefaults := Value.none, pyModule := Value.str (Str.ofString "gmp.signed") 335, code := Value.ref 113 } }) ::
(nat_lit 115, { cls := Value.type "tuple", data := Data.seq #[] }) ::
(nat_lit 117, { cls := Value.type "tuple", data := Data.seq #[Value.str (Str.ofString "x") 348] }) ::
(nat_lit 118, { cls := Value.type "tuple", data := Data.seq #[] }) ::
(nat_lit 120, { cls := Value.type "code", data := Data.fields #[Value.str (Str.ofString "s_neg") 345, Value.str (Str.ofString "s_neg") 346, Value.str (Str.ofString "/claim/cut.py") 347, Value.int 77 0, Value.int 1 0, Value.int 0 0, Value.int 0 0, Value.int 3 0, Value.ref 115, Value.bool true, Value.int 181 0, Value.ref 116, Value.none, Value.ref 117, Value.ref 118, Value.ref 119, Value.int 349 0, Value.int 77 0, Value.str (Str.ofString "/claim/cut.py") 350] }) ::
(nat_lit 121, { cls := Value.type "function", data := Data.func { name := Str.ofString "s_neg", qualname := Str.ofString "s_neg", params := P14, body := B14, scope := S14, globals := 3, closure := [], defaults := Value.none, kwdefaults := Value.none, pyModule := Value.str (Str.ofString "gmp.signed") 335, code := Value.ref 120 } }) ::
(nat_lit 122, { cls := Value.type "tuple", data := Data.seq #[] }) ::
(nat_lit 124, { cls := Value.type "tuple", data := Data.seq #[Value.str (Str.ofString "x") 355] }) ::
(nat_lit 125, { cls := Value.type "tuple", data := Data.seq #[] }) ::
(nat_lit 127, { cls := Value.type "code", data := Data.fields #[Value.str (Str.ofString "s_sign") 352, Value.str (Str.ofString "s_sign") 353, Value.str (Str.ofString "/claim/cut.py") 354, Value.int 79 0, Value.int 1 0, Value.int 0 0, Value.int 0 0, Value.int 3 0, Value.ref 122, Value.bool true, Value.int 181 0, Value.ref 123, Value.none, Value.ref 124, Value.ref 125, Value.ref 126, Value.int 356 0, Value.int 79 0, Value.str (Str.ofString "/claim/cut.py") 357] }) ::
(nat_lit 128, { cls := Value.type "function", data := Data.func { name := Str.ofString "s_sign", qualname := Str.ofString "s_sign", params := P15, body := B15, scope := S15, globals := 3, closure := [], defaults := Value.none, kwdefaults := Value.none, pyModule := Value.str (Str.ofString "gmp.signed") 335, code := Value.ref 127 } }) ::
(nat_lit 129, { cls := Value.type "tuple", data := Data.seq #[] }) ::
(nat_lit 131, { cls := Value.type "tuple", data := Data.seq #[Value.str (Str.ofString "x") 362, Value.str (Str.ofString "y") 363, Value.str (Str.ofString "w") 364] }) ::
(nat_lit 132, { cls := Value.type "tuple", data := Data.seq #[] }) ::
(nat_lit 134, { cls := Value.type "code", data := Data.fields #[Value.str (Str.ofString "s_add") 359, Value.str (Str.ofString "s_add") 360, Value.str (Str.ofString "/claim/cut.py") 361, Value.int 83 0, Value.int 3 0, Value.int 0 0, Value.int 0 0, Value.int 3 0, Value.ref 129, Value.bool true, Value.int 181 0, Value.ref 130, Value.none, Value.ref 131, Value.ref 132, Value.ref 133, Value.int 365 0, Value.int 83 0, Value.str (Str.ofString "/claim/cut.py") 366] }) ::
(nat_lit 135, { cls := Value.type "function", data := Data.func { name := Str.ofString "s_add", qualname := Str.ofString "s_add", params := P16, body := B16, scope := S16, globals := 3, closure := [], defaults := Value.none, kwdefaults := Value.none, pyModule := Value.str (Str.ofString "gmp.signed") 335, code := Value.ref 134 } }) ::
(nat_lit 136, { cls := Value.type "tuple", data := Data.seq #[] }) ::
(nat_lit 138, { cls := Value.type "tuple", data := Data.seq #[Value.str (Str.ofString "x") 371, Value.str (Str.ofString "y") 372, Value.str (Str.ofString "w") 373] }) ::
(nat_lit 139, { cls := Value.type "tuple", data := Data.seq #[] }) ::
(nat_lit 141, { cls := Value.type "code", data := Data.fields #[Value.str (Str.ofString "s_sub") 368, Value.str (Str.ofString "s_sub") 369, Value.str (Str.ofString "/claim/cut.py") 370, Value.int 89 0, Value.int 3 0, Value.int 0 0, Value.int 0 0, Value.int 3 0, Value.ref 136, Value.bool true, Value.int 181 0, Value.ref 137, Value.none, Value.ref 138, Value.ref 139, Value.ref 140, Value.int 374 0, Value.int 89 0, Value.str (Str.ofString "/claim/cut.py") 375] }) ::
(nat_lit 142, { cls := Value.type "function", data := Data.func { name := Str.ofString "s_sub", qualname := Str.ofString "s_sub", params := P17, body := B17, scope := S17, globals := 3, closure := [], defaults := Value.none, kwdefaults := Value.none, pyModule := Value.str (Str.ofString "gmp.signed") 335, code := Value.ref 141 } }) ::
(nat_lit 143, { cls := Value.type "tuple", data := Data.seq #[] }) ::
(nat_lit 145, { cls := Value.type "tuple", data := Data.seq #[Value.str (Str.ofString "x") 380, Value.str (Str.ofString "y") 381, Value.str (Str.ofString "w") 382, Value.str (Str.ofString "mul") 383] }) ::
(nat_lit 146, { cls := Value.type "tuple", data := Data.seq #[] }) ::
(nat_lit 148, { cls := Value.type "code", data := Data.fields #[Value.str (Str.ofString "s_mul") 377, Value.str (Str.ofString "s_mul") 378, Value.str (Str.ofString "/claim/cut.py") 379, Value.int 91 0, Value.int 4 0, Value.int 0 0, Value.int 0 0, Value.int 3 0, Value.ref 143, Value.bool true, Value.int 181 0, Value.ref 144, Value.none, Value.ref 145, Value.ref 146, Value.ref 147, Value.int 384 0, Value.int 91 0, Value.str (Str.ofString "/claim/cut.py") 385] }) ::
(nat_lit 149, { cls := Value.type "function", data := Data.func { name := Str.ofString "s_mul", qualname := Str.ofString "s_mul", params := P18, body := B18, scope := S18, globals := 3, closure := [], defaults := Value.none, kwdefaults := Value.none, pyModule := Value.str (Str.ofString "gmp.signed") 335, code := Value.ref 148 } }) ::
(nat_lit 150, { cls := Value.type "tuple", data := Data.seq #[] }) ::
(nat_lit 152, { cls := Value.type "tuple", data := Data.seq #[Value.str (Str.ofString "x") 390, Value.str (Str.ofString "y") 391, Value.str (Str.ofString "w") 392, Value.str (Str.ofString "divrem") 393, Value.str (Str.ofString "quotient") 394, Value.str (Str.ofString "rest") 395] }) ::
(nat_lit 153, { cls := Value.type "tuple", data := Data.seq #[] }) ::
(nat_lit 155, { cls := Value.type "code", data := Data.fields #[Value.str (Str.ofString "tdiv") 387, Value.str (Str.ofString "tdiv") 388, Value.str (Str.ofString "/claim/cut.py") 389, Value.int 93 0, Value.int 4 0, Value.int 0 0, Value.int 0 0, Value.int 3 0, Value.ref 150, Value.bool true, Value.int 181 0, Value.ref 151, Value.none, Value.ref 152, Value.ref 153, Value.ref 154, Value.int 396 0, Value.int 93 0, Value.str (Str.ofString "/claim/cut.py") 397] }) ::
(nat_lit 156, { cls := Value.type "function", data := Data.func { name := Str.ofString "tdiv", qualname := Str.ofString "tdiv", params := P19, body := B19, scope := S19, globals := 3, closure := [], defaults := Value.none, kwdefaults := Value.none, pyModule := Value.str (Str.ofString "gmp.signed") 335, code := Value.ref 155 } }) ::
(nat_lit 157, { cls := Value.type "list", data := Data.seq #[] }) ::
(nat_lit 158, { cls := Value.type "tuple", data := Data.seq #[Value.bool false, Value.ref 157] }) ::
(nat_lit 159, { cls := Value.type "list", data := Data.seq #[Value.int 1 402] }) ::
(nat_lit 160, { cls := Value.type "tuple", data := Data.seq #[Value.bool false, Value.ref 159] }) ::
(nat_lit 161, { cls := Value.type "tuple", data := Data.seq #[] }) ::
(nat_lit 163, { cls := Value.type "tuple", data := Data.seq #[Value.str (Str.ofString "x") 407, Value.str (Str.ofString "y") 408, Value.str (Str.ofString "w") 409, Value.str (Str.ofString "divrem") 410, Value.str (Str.ofString "found") 411, Value.str (Str.ofString "rest") 412] }) ::
(nat_lit 164, { cls := Value.type "tuple", data := Data.seq #[] }) ::
(nat_lit 166, { cls := Value.type "code", data := Data.fields #[Value.str (Str.ofString "exact") 404, Value.str (Str.ofString "exact") 405, Value.str (Str.ofString "/claim/cut.py") 406, Value.int 101 0, Value.int 4 0, Value.int 0 0, Value.int 0 0, Value.int 3 0, Value.ref 161, Value.bool true, Value.int 181 0, Value.ref 162, Value.none, Value.ref 163, Value.ref 164, Value.ref 165, Value.int 413 0, Value.int 101 0, Value.str (Str.ofString "/claim/cut.py") 414] }) ::
(nat_lit 167, { cls := Value.type "function", data := Data.func { name := Str.ofString "exact", qualname := Str.ofString "exact", params := P23, body := B23, scope := S23, globals := 3, closure := [], defaults := Value.none, kwdefaults := Value.none, pyModule := Value.str (Str.ofString "gmp.matrices") 399, code := Value.ref 166 } }) ::
(nat_lit 168, { cls := Value.type "tuple", data := Data.seq #[] }) ::
(nat_lit 170, { cls := Value.type "tuple", data := Data.seq #[Value.str (Str.ofString "rows") 419, Value.str (Str.ofString "top") 420, Value.str (Str.ofString "column") 421, Value.str (Str.ofString "at") 422] }) ::
(nat_lit 171, { cls := Value.type "tuple", data := Data.seq #[] }) ::
(nat_lit 173, { cls := Value.type "code", data := Data.fields #[Value.str (Str.ofString "pivot_row") 416, Value.str (Str.ofString "pivot_row") 417, Value.str (Str.ofString "/claim/cut.py") 418, Value.int 104 0, Value.int 3 0, Value.int 0 0, Value.int 0 0, Value.int 3 0, Value.ref 168, Value.bool true, Value.int 181 0, Value.ref 169, Value.none, Value.ref 170, Value.ref 171, Value.ref 172, Value.int 423 0, Value.int 104 0, Value.str (Str.ofString "/claim/cut.py") 424] }) ::
(nat_lit 174, { cls := Value.type "function", data := Data.func { name := Str.ofString "pivot_row", qualname := Str.ofString "pivot_row", params := P24, body := B24, scope := S24, globals := 3, closure := [], defaults := Value.none, kwdefaults := Value.none, pyModule := Value.str (Str.ofString "gmp.matrices") 399, code := Value.ref 173 } }) ::
(nat_lit 175, { cls := Value.type "tuple", data := Data.seq #[] }) ::
(nat_lit 177, { cls := Value.type "tuple", data := Data.seq #[Value.str (Str.ofString "row") 429, Value.str (Str.ofString "head") 430, Value.str (Str.ofString "column") 431, Value.str (Str.ofString "before") 432, Value.str (Str.ofString "w") 433, Value.str (Str.ofString "mul") 434, Value.str (Str.ofString "divrem") 435, Value.str (Str.ofString "pivot") 436, Value.str (Str.ofString "own") 437, Value.str (Str.ofString "found") 438, Value.str (Str.ofString "at") 439, Value.str (Str.ofString "value") 440, Value.str (Str.ofString "here") 441] }) ::
(nat_lit 178, { cls := Value.type "tuple", data := Data.seq #[] }) ::
(nat_lit 180, { cls := Value.type "code", data := Data.fields #[Value.str (Str.ofString "cleared") 426, Value.str (Str.ofString "cleared") 427, Value.str (Str.ofString "/claim/cut.py") 428, Value.int 109 0, Value.int 7 0, Value.int 0 0, Value.int 0 0, Value.int 3 0, Value.ref 175, Value.bool true, Value.int 181 0, Value.ref 176, Value.none, Value.ref 177, Value.ref 178, Value.ref 179, Value.int 442 0, Value.int 109 0, Value.str (Str.ofString "/claim/cut.py") 443] }) ::
(nat_lit 181, { cls := Value.type "function", data := Data.func { name := Str.ofString "cleared", qualname := Str.ofString "cleared", params := P25, body := B25, scope := S25, globals := 3, closure := [], defaults := Value.none, kwdefaults := Value.none, pyModule := Value.str (Str.ofString "gmp.matrices") 399, code := Value.ref 180 } }) ::
(nat_lit 182, { cls := Value.type "tuple", data := Data.seq #[] }) ::
(nat_lit 185, { cls := Value.type "code", data := Data.fields #[Value.str (Str.ofString "steps_down") 445, Value.str (Str.ofString "steps_down") 446, Value.str (Str.ofString "/claim/cut.py") 447, Value.int 116 0, Value.int 5 0, Value.int 0 0, Value.int 0 0, Value.int 3 0, Value.ref 182, Value.bool true, Value.int 181 0, Value.ref 183, Value.none, Value.none, Value.none, Value.ref 184, Value.int 448 0, Value.int 116 0, Value.str (Str.ofString "/claim/cut.py") 449] }) ::
(nat_lit 186, { cls := Value.type "function", data := Data.func { name := Str.ofString "steps_down", qualname := Str.ofString "steps_down", params := P26, body := B26, scope := S26, globals := 3, closure := [], defaults := Value.none, kwdefaults := Value.none, pyModule := Value.str (Str.ofString "gmp.matrices") 399, code := Value.ref 185 } }) ::
(nat_lit 187, { cls := Value.type "tuple", data := Data.seq #[] }) ::
(nat_lit 189, { cls := Value.type "tuple", data := Data.seq #[Value.str (Str.ofString "a") 454, Value.str (Str.ofString "w") 455, Value.str (Str.ofString "mul") 456, Value.str (Str.ofString "divrem") 457, Value.str (Str.ofString "rows") 458, Value.str (Str.ofString "places") 459, Value.str (Str.ofString "is_odd") 460, Value.str (Str.ofString "last") 461] }) ::
(nat_lit 190, { cls := Value.type "tuple", data := Data.seq #[] }) ::
(nat_lit 192, { cls := Value.type "code", data := Data.fields #[Value.str (Str.ofString "det_bareiss") 451, Value.str (Str.ofString "det_bareiss") 452, Value.str (Str.ofString "/claim/cut.py") 453, Value.int 130 0, Value.int 4 0, Value.int 0 0, Value.int 0 0, Value.int 3 0, Value.ref 187, Value.bool true, Value.int 181 0, Value.ref 188, Value.none, Value.ref 189, Value.ref 190, Value.ref 191, Value.int 462 0, Value.int 130 0, Value.str (Str.ofString "/claim/cut.py") 463] }) ::
(nat_lit 193, { cls := Value.type "function", data := Data.func { name := Str.ofString "det_bareiss", qualname := Str.ofString "det_bareiss", params := P27, body := B27, scope := S27, globals := 3, closure := [], defaults := Value.none, kwdefaults := Value.none, pyModule := Value.str (Str.ofString "gmp.matrices") 399, code := Value.ref 192 } }) ::
(nat_lit 194, { cls := Value.type "tuple", data := Data.seq #[] }) ::
(nat_lit 196, { cls := Value.type "tuple", data := Data.seq #[Value.str (Str.ofString "n") 470] }) ::
(nat_lit 197, { cls := Value.type "tuple", data := Data.seq #[] }) ::
(nat_lit 199, { cls := Value.type "code", data := Data.fields #[Value.str (Str.ofString "need_count") 467, Value.str (Str.ofString "need_count") 468, Value.str (Str.ofString "/claim/cut.py") 469, Value.int 139 0, Value.int 1 0, Value.int 0 0, Value.int 0 0, Value.int 3 0, Value.ref 194, Value.bool true, Value.int 181 0, Value.ref 195, Value.none, Value.ref 196, Value.ref 197, Value.ref 198, Value.int 471 0, Value.int 139 0, Value.str (Str.ofString "/claim/cut.py") 472] }) ::
(nat_lit 200, { cls := Value.type "function", data := Data.func { name := Str.ofString "need_count", qualname := Str.ofString "need_count", params := P29, body := B29, scope := S29, globals := 3, closure := [], defaults := Value.none, kwdefaults := Value.none, pyModule := Value.str (Str.ofString "gmp.counts") 465, code := Value.ref 199 } }) ::
(nat_lit 201, { cls := Value.type "tuple", data := Data.seq #[] }) ::
(nat_lit 203, { cls := Value.type "tuple", data := Data.seq #[Value.str (Str.ofString "pair") 477, Value.str (Str.ofString "w") 478, Value.str (Str.ofString "mul") 479, Value.str (Str.ofString "here") 480, Value.str (Str.ofString "there") 481, Value.str (Str.ofString "twice") 482] }) ::
(nat_lit 204, { cls := Value.type "tuple", data := Data.seq #[] }) ::
(nat_lit 206, { cls := Value.type "code", data := Data.fields #[Value.str (Str.ofString "doubled_pair") 474, Value.str (Str.ofString "doubled_pair") 475, Value.str (Str.ofString "/claim/cut.py") 476, Value.int 142 0, Value.int 3 0, Value.int 0 0, Value.int 0 0, Value.int 3 0, Value.ref 201, Value.bool true, Value.int 181 0, Value.ref 202, Value.none, Value.ref 203, Value.ref 204, Value.ref 205, Value.int 483 0, Value.int 142 0, Value.str (Str.ofString "/claim/cut.py") 484] }) ::
(nat_lit 207, { cls := Value.type "function", data := Data.func { name := Str.ofString "doubled_pair", qualname := Str.ofString "doubled_pair", params := P30, body := B30, scope := S30, globals := 3, closure := [], defaults := Value.none, kwdefaults := Value.none, pyModule := Value.str (Str.ofString "gmp.counts") 465, code := Value.ref 206 } }) ::
(nat_lit 208, { cls := Value.type "tuple", data := Data.seq #[] }) ::
(nat_lit 210, { cls := Value.type "tuple", data := Data.seq #[Value.str (Str.ofString "n") 489, Value.str (Str.ofString "w") 490, Value.str (Str.ofString "mul") 491, Value.str (Str.ofString "pair") 492, Value.str (Str.ofString "at") 493] }) ::
(nat_lit 211, { cls := Value.type "tuple", data := Data.seq #[] }) ::
(nat_lit 213, { cls := Value.type "code", data := Data.fields #[Value.str (Str.ofString "fibonacci_pair") 486, Value.str (Str.ofString "fibonacci_pair") 487, Value.str (Str.ofString "/claim/cut.py") 488, Value.int 146 0, Value.int 3 0, Value.int 0 0, Value.int 0 0, Value.int 3 0, Value.ref 208, Value.bool true, Value.int 181 0, Value.ref 209, Value.none, Value.ref 210, Value.ref 211, Value.ref 212, Value.int 494 0, Value.int 146 0, Value.str (Str.ofString "/claim/cut.py") 495] }) ::
(nat_lit 214, { cls := Value.type "function", data := Data.func { name := Str.ofString "fibonacci_pair", qualname := Str.ofString "fibonacci_pair", params := P31, body := B31, scope := S31, globals := 3, closure := [], defaults := Value.none, kwdefaults := Value.none, pyModule := Value.str (Str.ofString "gmp.counts") 465, code := Value.ref 213 } }) ::
(nat_lit 215, { cls := Value.type "tuple", data := Data.seq #[] }) ::
(nat_lit 217, { cls := Value.type "tuple", data := Data.seq #[Value.str (Str.ofString "n") 500, Value.str (Str.ofString "w") 501, Value.str (Str.ofString "mul") 502] }) ::
(nat_lit 218, { cls := Value.type "tuple", data := Data.seq #[] }) ::
(nat_lit 220, { cls := Value.type "code", data := Data.fields #[Value.str (Str.ofString "fibonacci") 497, Value.str (Str.ofString "fibonacci") 498, Value.str (Str.ofString "/claim/cut.py") 499, Value.int 155 0, Value.int 3 0, Value.int 0 0, Value.int 0 0, Value.int 3 0, Value.ref 215, Value.bool true, Value.int 181 0, Value.ref 216, Value.none, Value.ref 217, Value.ref 218, Value.ref 219, Value.int 503 0, Value.int 155 0, Value.str (Str.ofString "/claim/cut.py") 504] }) ::
(nat_lit 221, { cls := Value.type "function", data := Data.func { name := Str.ofString "fibonacci", qualname := Str.ofString "fibonacci", params := P32, body := B32, scope := S32, globals := 3, closure := [], defaults := Value.none, kwdefaults := Value.none, pyModule := Value.str (Str.ofString "gmp.counts") 465, code := Value.ref 220 } }) ::
(nat_lit 222, { cls := Value.type "tuple", data := Data.seq #[] }) ::
(nat_lit 224, { cls := Value.type "tuple", data := Data.seq #[Value.str (Str.ofString "a") 511, Value.str (Str.ofString "b") 512, Value.str (Str.ofString "w") 513, Value.str (Str.ofString "found") 514, Value.str (Str.ofString "mask") 515, Value.str (Str.ofString "at") 516, Value.str (Str.ofString "limb") 517, Value.str (Str.ofString "carry") 518, Value.str (Str.ofString "spot") 519, Value.str (Str.ofString "other") 520] }) ::
(nat_lit 225, { cls := Value.type "tuple", data := Data.seq #[] }) ::
(nat_lit 227, { cls := Value.type "code", data := Data.fields #[Value.str (Str.ofString "mul_school") 508, Value.str (Str.ofString "mul_school") 509, Value.str (Str.ofString "/claim/cut.py") 510, Value.int 158 0, Value.int 3 0, Value.int 0 0, Value.int 0 0, Value.int 3 0, Value.ref 222, Value.bool true, Value.int 181 0, Value.ref 223, Value.none, Value.ref 224, Value.ref 225, Value.ref 226, Value.int 521 0, Value.int 158 0, Value.str (Str.ofString "/claim/cut.py") 522] }) ::
(nat_lit 228, { cls := Value.type "function", data := Data.func { name := Str.ofString "mul_school", qualname := Str.ofString "mul_school", params := P34, body := B34, scope := S34, globals := 3, closure := [], defaults := Value.none, kwdefaults := Value.none, pyModule := Value.str (Str.ofString "gmp.school") 506, code := Value.ref 227 } }) ::
(nat_lit 229, { cls := Value.type "tuple", data := Data.seq #[] }) ::
(nat_lit 231, { cls := Value.type "tuple", data := Data.seq #[Value.str (Str.ofString "a") 527, Value.str (Str.ofString "b") 528, Value.str (Str.ofString "w") 529, Value.str (Str.ofString "quotient") 530, Value.str (Str.ofString "rest") 531] }) ::
(nat_lit 232, { cls := Value.type "tuple", data := Data.seq #[] }) ::
(nat_lit 234, { cls := Value.type "code", data := Data.fields #[Value.str (Str.ofString "divrem_small") 524, Value.str (Str.ofString "divrem_small") 525, Value.str (Str.ofString "/claim/cut.py") 526, Value.int 168 0, Value.int 3 0, Value.int 0 0, Value.int 0 0, Value.int 3 0, Value.ref 229, Value.bool true, Value.int 181 0, Value.ref 230, Value.none, Value.ref 231, Value.ref 232, Value.ref 233, Value.int 532 0, Value.int 168 0, Value.str (Str.ofString "/claim/cut.py") 533] }) ::
(nat_lit 235, { cls := Value.type "function", data := Data.func { name := Str.ofString "divrem_small", qualname := Str.ofString "divrem_small", params := P35, body := B35, scope := S35, globals := 3, closure := [], defaults := Value.none, kwdefaults := Value.none, pyModule := Value.str (Str.ofString "gmp.school") 506, code := Value.ref 234 } }) ::
(nat_lit 236, { cls := Value.type "tuple", data := Data.seq #[] }) ::
(nat_lit 238, { cls := Value.type "tuple", data := Data.seq #[Value.str (Str.ofString "top") 538, Value.str (Str.ofString "first") 539, Value.str (Str.ofString "second") 540, Value.str (Str.ofString "w") 541, Value.str (Str.ofString "high") 542, Value.str (Str.ofString "base") 543, Value.str (Str.ofString "limb") 544, Value.str (Str.ofString "rest") 545] }) ::
(nat_lit 239, { cls := Value.type "tuple", data := Data.seq #[] }) ::
(nat_lit 241, { cls := Value.type "code", data := Data.fields #[Value.str (Str.ofString "guessed_limb") 535, Value.str (Str.ofString "guessed_limb") 536, Value.str (Str.ofString "/claim/cut.py") 537, Value.int 171 0, Value.int 4 0, Value.int 0 0, Value.int 0 0, Value.int 3 0, Value.ref 236, Value.bool true, Value.int 181 0, Value.ref 237, Value.none, Value.ref 238, Value.ref 239, Value.ref 240, Value.int 546 0, Value.int 171 0, Value.str (Str.ofString "/claim/cut.py") 547] }) ::
(nat_lit 242, { cls := Value.type "function", data := Data.func { name := Str.ofString "guessed_limb", qualname := Str.ofString "guessed_limb", params := P36, body := B36, scope := S36, globals := 3, closure := [], defaults := Value.none, kwdefaults := Value.none, pyModule := Value.str (Str.ofString "gmp.school") 506, code := Value.ref 241 } }) ::
(nat_lit 243, { cls := Value.type "tuple", data := Data.seq #[] }) ::
(nat_lit 245, { cls := Value.type "tuple", data := Data.seq #[Value.str (Str.ofString "rest") 552, Value.str (Str.ofString "b") 553, Value.str (Str.ofString "limb") 554, Value.str (Str.ofString "at") 555, Value.str (Str.ofString "w") 556, Value.str (Str.ofString "carry") 557, Value.str (Str.ofString "base") 558, Value.str (Str.ofString "spot") 559, Value.str (Str.ofString "other") 560, Value.str (Str.ofString "here") 561] }) ::
(nat_lit 246, { cls := Value.type "tuple", data := Data.seq #[] }) ::
(nat_lit 248, { cls := Value.type "code", data := Data.fields #[Value.str (Str.ofString "take_away") 549, Value.str (Str.ofString "take_away") 550, Value.str (Str.ofString "/claim/cut.py") 551, Value.int 179 0, Value.int 5 0, Value.int 0 0, Value.int 0 0, Value.int 3 0, Value.ref 243, Value.bool true, Value.int 181 0, Value.ref 244, Value.none, Value.ref 245, Value.ref 246, Value.ref 247, Value.int 562 0, Value.int 179 0, Value.str (Str.ofString "/claim/cut.py") 563] }) ::
(nat_lit 249, { cls := Value.type "function", data := Data.func { name := Str.ofString "take_away", qualname := Str.ofString "take_away", params := P37, body := B37, scope := S37, globals := 3, closure := [], defaults := Value.none, kwdefaults := Value.none, pyModule := Value.str (Str.ofString "gmp.school") 506, code := Value.ref 248 } }) ::
(nat_lit 250, { cls := Value.type "tuple", data := Data.seq #[] }) ::
(nat_lit 252, { cls := Value.type "tuple", data := Data.seq #[Value.str (Str.ofString "rest") 568, Value.str (Str.ofString "b") 569, Value.str (Str.ofString "at") 570, Value.str (Str.ofString "w") 571, Value.str (Str.ofString "carry") 572, Value.str (Str.ofString "mask") 573, Value.str (Str.ofString "spot") 574, Value.str (Str.ofString "other") 575] }) ::
(nat_lit 253, { cls := Value.type "tuple", data := Data.seq #[] }) ::
(nat_lit 255, { cls := Value.type "code", data := Data.fields #[Value.str (Str.ofString "put_back") 565, Value.str (Str.ofString "put_back") 566, Value.str (Str.ofString "/claim/cut.py") 567, Value.int 188 0, Value.int 4 0, Value.int 0 0, Value.int 0 0, Value.int 3 0, Value.ref 250, Value.bool true, Value.int 181 0, Value.ref 251, Value.none, Value.ref 252, Value.ref 253, Value.ref 254, Value.int 576 0, Value.int 188 0, Value.str (Str.ofString "/claim/cut.py") 577] }) ::
(nat_lit 256, { cls := Value.type "function", data := Data.func { name := Str.ofString "put_back", qualname := Str.ofString "put_back", params := P38, body := B38, scope := S38, globals := 3, closure := [], defaults := Value.none, kwdefaults := Value.none, pyModule := Value.str (Str.ofString "gmp.school") 506, code := Value.ref 255 } }) ::
(nat_lit 257, { cls := Value.type "tuple", data := Data.seq #[] }) ::
(nat_lit 259, { cls := Value.type "tuple", data := Data.seq #[Value.str (Str.ofString "rest") 582, Value.str (Str.ofString "b") 583, Value.str (Str.ofString "w") 584, Value.str (Str.ofString "size") 585, Value.str (Str.ofString "quotient") 586, Value.str (Str.ofString "at") 587, Value.str (Str.ofString "limb") 588] }) ::
(nat_lit 260, { cls := Value.type "tuple", data := Data.seq #[] }) ::
(nat_lit 262, { cls := Value.type "code", data := Data.fields #[Value.str (Str.ofString "divide_rows") 579, Value.str (Str.ofString "divide_rows") 580, Value.str (Str.ofString "/claim/cut.py") 581, Value.int 195 0, Value.int 3 0, Value.int 0 0, Value.int 0 0, Value.int 3 0, Value.ref 257, Value.bool true, Value.int 181 0, Value.ref 258, Value.none, Value.ref 259, Value.ref 260, Value.ref 261, Value.int 589 0, Value.int 195 0, Value.str (Str.ofString "/claim/cut.py") 590] }) ::
(nat_lit 263, { cls := Value.type "function", data := Data.func { name := Str.ofString "divide_rows", qualname := Str.ofString "divide_rows", params := P39, body := B39, scope := S39, globals := 3, closure := [], defaults := Value.none, kwdefaults := Value.none, pyModule := Value.str (Str.ofString "gmp.school") 506, code := Value.ref 262 } }) ::
(nat_lit 264, { cls := Value.type "tuple", data := Data.seq #[] }) ::
(nat_lit 266, { cls := Value.type "tuple", data := Data.seq #[Value.str (Str.ofString "a") 595, Value.str (Str.ofString "b") 596, Value.str (Str.ofString "w") 597, Value.str (Str.ofString "shift") 598, Value.str (Str.ofString "divisor") 599, Value.str (Str.ofString "rest") 600, Value.str (Str.ofString "quotient") 601] }) ::
(nat_lit 267, { cls := Value.type "tuple", data := Data.seq #[] }) ::
(nat_lit 269, { cls := Value.type "code", data := Data.fields #[Value.str (Str.ofString "divrem_school") 592, Value.str (Str.ofString "divrem_school") 593, Value.str (Str.ofString "/claim/cut.py") 594, Value.int 205 0, Value.int 3 0, Value.int 0 0, Value.int 0 0, Value.int 3 0, Value.ref 264, Value.bool true, Value.int 181 0, Value.ref 265, Value.none, Value.ref 266, Value.ref 267, Value.ref 268, Value.int 602 0, Value.int 205 0, Value.str (Str.ofString "/claim/cut.py") 603] }) ::
(nat_lit 270, { cls := Value.type "function", data := Data.func { name := Str.ofString "divrem_school", qualname := Str.ofString "divrem_school", params := P40, body := B40, scope := S40, globals := 3, closure := [], defaults := Value.none, kwdefaults := Value.none, pyModule := Value.str (Str.ofString "gmp.school") 506, code := Value.ref 269 } }) ::
(nat_lit 271, { cls := Value.type "tuple", data := Data.seq #[] }) ::
(nat_lit 273, { cls := Value.type "tuple", data := Data.seq #[Value.str (Str.ofString "yard") 610, Value.str (Str.ofString "many") 611] }) ::
(nat_lit 274, { cls := Value.type "tuple", data := Data.seq #[] }) ::
(nat_lit 276, { cls := Value.type "code", data := Data.fields #[Value.str (Str.ofString "_law_next") 607, Value.str (Str.ofString "_law_next") 608, Value.str (Str.ofString "/claim/cut.py") 609, Value.int 219 0, Value.int 2 0, Value.int 0 0, Value.int 0 0, Value.int 3 0, Value.ref 271, Value.bool true, Value.int 181 0, Value.ref 272, Value.none, Value.ref 273, Value.ref 274, Value.ref 275, Value.int 612 0, Value.int 219 0, Value.str (Str.ofString "/claim/cut.py") 613] }) ::
(nat_lit 277, { cls := Value.type "function", data := Data.func { name := Str.ofString "_law_next", qualname := Str.ofString "_law_next", params := P42, body := B42, scope := S42, globals := 3, closure := [], defaults := Value.none, kwdefaults := Value.none, pyModule := Value.str (Str.ofString "law_xm0445_01") 605, code := Value.ref 276 } }) ::
(nat_lit 278, { cls := Value.type "tuple", data := Data.seq #[] }) ::
(nat_lit 280, { cls := Value.type "tuple", data := Data.seq #[Value.str (Str.ofString "number") 618, Value.str (Str.ofString "w") 619, Value.str (Str.ofString "found") 620] }) ::
(nat_lit 281, { cls := Value.type "tuple", data := Data.seq #[] }) ::
(nat_lit 283, { cls := Value.type "code", data := Data.fields #[Value.str (Str.ofString "_law_limbs") 615, Value.str (Str.ofString "_law_limbs") 616, Value.str (Str.ofString "/claim/cut.py") 617, Value.int 224 0, Value.int 2 0, Value.int 0 0, Value.int 0 0, Value.int 3 0, Value.ref 278, Value.bool true, Value.int 181 0, Value.ref 279, Value.none, Value.ref 280, Value.ref 281, Value.ref 282, Value.int 621 0, Value.int 224 0, Value.str (Str.ofString "/claim/cut.py") 622] }) ::
(nat_lit 284, { cls := Value.type "function", data := Data.func { name := Str.ofString "_law_limbs", qualname := Str.ofString "_law_limbs", params := P43, body := B43, scope := S43, globals := 3, closure := [], defaults := Value.none, kwdefaults := Value.none, pyModule := Value.str (Str.ofString "law_xm0445_01") 605, code := Value.ref 283 } }) ::
(nat_lit 285, { cls := Value.type "tuple", data := Data.seq #[] }) ::
(nat_lit 288, { cls := Value.type "code", data := Data.fields #[Value.str (Str.ofString "_law_covers") 624, Value.str (Str.ofString "_law_covers") 625, Value.str (Str.ofString "/claim/cut.py") 626, Value.int 230 0, Value.int 1 0, Value.int 0 0, Value.int 0 0, Value.int 3 0, Value.ref 285, Value.bool true, Value.int 181 0, Value.ref 286, Value.none, Value.none, Value.none, Value.ref 287, Value.int 627 0, Value.int 230 0, Value.str (Str.ofString "/claim/cut.py") 628] }) ::
(nat_lit 289, { cls := Value.type "function", data := Data.func { name := Str.ofString "_law_covers", qualname := Str.ofString "_law_covers", params := P44, body := B44, scope := S44, globals := 3, closure := [], defaults := Value.none, kwdefaults := Value.none, pyModule := Value.str (Str.ofString "law_xm0445_01") 605, code := Value.ref 288 } }) ::
(nat_lit 290, { cls := Value.type "tuple", data := Data.seq #[] }) ::
(nat_lit 293, { cls := Value.type "code", data := Data.fields #[Value.str (Str.ofString "_law_board_size") 630, Value.str (Str.ofString "_law_board_size") 631, Value.str (Str.ofString "/claim/cut.py") 632, Value.int 239 0, Value.int 2 0, Value.int 0 0, Value.int 0 0, Value.int 3 0, Value.ref 290, Value.bool true, Value.int 181 0, Value.ref 291, Value.none, Value.none, Value.none, Value.ref 292, Value.int 633 0, Value.int 239 0, Value.str (Str.ofString "/claim/cut.py") 634] }) ::
(nat_lit 294, { cls := Value.type "function", data := Data.func { name := Str.ofString "_law_board_size", qualname := Str.ofString "_law_board_size", params := P45, body := B45, scope := S45, globals := 3, closure := [], defaults := Value.none, kwdefaults := Value.none, pyModule := Value.str (Str.ofString "law_xm0445_01") 605, code := Value.ref 293 } }) ::
(nat_lit 295, { cls := Value.type "tuple", data := Data.seq #[] }) ::
(nat_lit 298, { cls := Value.type "code", data := Data.fields #[Value.str (Str.ofString "law") 636, Value.str (Str.ofString "law") 637, Value.str (Str.ofString "/claim/cut.py") 638, Value.int 252 0, Value.int 1 0, Value.int 0 0, Value.int 0 0, Value.int 3 0, Value.ref 295, Value.bool true, Value.int 181 0, Value.ref 296, Value.none, Value.none, Value.none, Value.ref 297, Value.int 639 0, Value.int 252 0, Value.str (Str.ofString "/claim/cut.py") 640] }) ::
(nat_lit 299, { cls := Value.type "function", data := Data.func { name := Str.ofString "law", qualname := Str.ofString "law", params := P46, body := B46, scope := S46, globals := 3, closure := [], defaults := Value.none, kwdefaults := Value.none, pyModule := Value.str (Str.ofString "law_xm0445_01") 605, code := Value.ref 298 } }) :: [] : Frag)) _ (by conv => lhs; whnf) _ (by conv => lhs; whnf) _ (by conv => lhs; whnf) _ (by conv => lhs; whnf) _ (by conv => lhs; whnf) _ (by conv => lhs; whnf) _ (by conv => lhs; whnf) _ (by conv => lhs; whnf) _ (by conv => lhs; whnf) _ (by conv => lhs; whnf) _ (by conv => lhs; whnf) _ (by conv => lhs; whnf) _ (by conv => lhs; whnf) _ (by conv => lhs; whnf) _ (by conv => lhs; whnf) _ (by conv => lhs; whnf) _ (by conv => lhs; whnf) _ (by conv => lhs; whnf) _ (by conv => lhs; whnf) _ (by conv => lhs; whnf) _ (by conv => lhs; whnf) _ (by conv => lhs; whnf) _ (by conv => lhs; whnf) _ (by conv => lhs; whnf) _ (by conv => lhs; whnf) _ (by conv => lhs; whnf) _ (by conv => lhs; whnf) _ (by conv => lhs; whnf) _ (by conv => lhs; whnf) _ (by conv => lhs; whnf) _ (by conv => lhs; whnf) _ (by conv => lhs; whnf) _ (by conv => lhs; whnf) _ (by conv => lhs; whnf) _ (by conv => lhs; whnf) _ (by conv => lhs; whnf) _ (by conv => lhs; whnf) _ (by conv => lhs; whnf) _ (by conv => lhs; whnf) _ (by conv => lhs; whnf) _ (by conv => lhs; whnf) _ (by conv => lhs; whnf) _ (by conv => lhs; whnf) _ (by conv => lhs; whnf) _ (by conv => lhs; whnf) _ (by conv => lhs; whnf) _ (by conv => lhs; whnf) _ (by conv => lhs; whnf) _ (by conv => lhs; whnf) _ (by conv => lhs; whnf) _ (by conv => lhs; whnf) _ (by conv => lhs; whnf) _ (by conv => lhs; whnf) _ (by conv => lhs; whnf) _ (by conv => lhs; whnf) _ (by conv => lhs; whnf) _ (by conv => lhs; whnf) _ (by conv => lhs; whnf) _ (by conv => lhs; whnf) _ (by conv => lhs; whnf) _ (by conv => lhs; whnf) _ (by conv => lhs; whnf) _ (by conv => lhs; whnf) _ (by conv => lhs; whnf) _ (by conv => lhs; whnf) _ (by conv => lhs; whnf) _ (by conv => lhs; whnf) _ (by conv => lhs; whnf) _ (by conv => lhs; whnf) _ (by conv => lhs; whnf) _ (by conv => lhs; whnf) _ (by conv => lhs; whnf) _ (by conv => lhs; whnf) _ (by conv => lhs; whnf) _ (by conv => lhs; whnf) _ (by conv => lhs; whnf) _ (by conv => lhs; whnf) _ (by conv => lhs; whnf) _ (by conv => lhs; whnf) _ (by conv => lhs; whnf) _ (by conv => lhs; whnf) _ (by conv => lhs; whnf) _ (by conv => lhs; whnf) _ (by conv => lhs; whnf) _ (by conv => lhs; whnf) _ (by conv => lhs; whnf) _ (by conv => lhs; whnf) _ (by conv => lhs; whnf) _ (by conv => lhs; whnf) _ (by conv => lhs; whnf) _ (by conv => lhs; whnf) _ (by conv => lhs; whnf) _ (by conv => lhs; whnf) _ (by conv => lhs; whnf) _ (by conv => lhs; whnf) _ (by conv => lhs; whnf) _ (by conv => lhs; whnf) _ (by conv => lhs; whnf) _ (by conv => lhs; whnf) _ (by conv => lhs; whnf) _ (by conv => lhs; whnf) _ (by conv => lhs; whnf) _ (by conv => lhs; whnf) _ (by conv => lhs; whnf) _ (by conv => lhs; whnf) _ (by conv => lhs; whnf) _ (by conv => lhs; whnf) _ (by conv => lhs; whnf)
noncomputable abbrev hook : Hook := kHook hd.heap_39 (nat_lit 2 :: nat_lit 3 :: nat_lit 15 :: nat_lit 22 :: nat_lit 23 :: nat_lit 24 :: nat_lit 25 :: nat_lit 28 :: nat_lit 35 :: nat_lit 36 :: nat_lit 37 :: nat_lit 40 :: nat_lit 47 :: nat_lit 48 :: nat_lit 49 :: nat_lit 52 :: nat_lit 54 :: nat_lit 55 :: nat_lit 57 :: nat_lit 58 :: nat_lit 59 :: nat_lit 61 :: nat_lit 62 :: nat_lit 64 :: nat_lit 65 :: nat_lit 66 :: nat_lit 68 :: nat_lit 69 :: nat_lit 71 :: nat_lit 72 :: nat_lit 73 :: nat_lit 75 :: nat_lit 76 :: nat_lit 78 :: nat_lit 79 :: nat_lit 80 :: nat_lit 82 :: nat_lit 83 :: nat_lit 85 :: nat_lit 86 :: nat_lit 87 :: nat_lit 89 :: nat_lit 90 :: nat_lit 92 :: nat_lit 93 :: nat_lit 94 :: nat_lit 96 :: nat_lit 97 :: nat_lit 99 :: nat_lit 100 :: nat_lit 101 :: nat_lit 103 :: nat_lit 104 :: nat_lit 106 :: nat_lit 107 :: nat_lit 108 :: nat_lit 110 :: nat_lit 111 :: nat_lit 113 :: nat_lit 114 :: nat_lit 115 :: nat_lit 117 :: nat_lit 118 :: nat_lit 120 :: nat_lit 121 :: nat_lit 122 :: nat_lit 124 :: nat_lit 125 :: nat_lit 127 :: nat_lit 128 :: nat_lit 129 :: nat_lit 131 :: nat_lit 132 :: nat_lit 134 :: nat_lit 135 :: nat_lit 136 :: nat_lit 138 :: nat_lit 139 :: nat_lit 141 :: nat_lit 142 :: nat_lit 143 :: nat_lit 145 :: nat_lit 146 :: nat_lit 148 :: nat_lit 149 :: nat_lit 150 :: nat_lit 152 :: nat_lit 153 :: nat_lit 155 :: nat_lit 156 :: nat_lit 157 :: nat_lit 158 :: nat_lit 159 :: nat_lit 160 :: nat_lit 161 :: nat_lit 163 :: nat_lit 164 :: nat_lit 166 :: nat_lit 167 :: nat_lit 168 :: nat_lit 170 :: nat_lit 171 :: nat_lit 173 :: nat_lit 174 :: nat_lit 175 :: nat_lit 177 :: nat_lit 178 :: nat_lit 180 :: nat_lit 181 :: nat_lit 182 :: nat_lit 185 :: nat_lit 186 :: nat_lit 187 :: nat_lit 189 :: nat_lit 190 :: nat_lit 192 :: nat_lit 193 :: nat_lit 194 :: nat_lit 196 :: nat_lit 197 :: nat_lit 199 :: nat_lit 200 :: nat_lit 201 :: nat_lit 203 :: nat_lit 204 :: nat_lit 206 :: nat_lit 207 :: nat_lit 208 :: nat_lit 210 :: nat_lit 211 :: nat_lit 213 :: nat_lit 214 :: nat_lit 215 :: nat_lit 217 :: nat_lit 218 :: nat_lit 220 :: nat_lit 221 :: nat_lit 222 :: nat_lit 224 :: nat_lit 225 :: nat_lit 227 :: nat_lit 228 :: nat_lit 229 :: nat_lit 231 :: nat_lit 232 :: nat_lit 234 :: nat_lit 235 :: nat_lit 236 :: nat_lit 238 :: nat_lit 239 :: nat_lit 241 :: nat_lit 242 :: nat_lit 243 :: nat_lit 245 :: nat_lit 246 :: nat_lit 248 :: nat_lit 249 :: nat_lit 250 :: nat_lit 252 :: nat_lit 253 :: nat_lit 255 :: nat_lit 256 :: nat_lit 257 :: nat_lit 259 :: nat_lit 260 :: nat_lit 262 :: nat_lit 263 :: nat_lit 264 :: nat_lit 266 :: nat_lit 267 :: nat_lit 269 :: nat_lit 270 :: nat_lit 271 :: nat_lit 273 :: nat_lit 274 :: nat_lit 276 :: nat_lit 277 :: nat_lit 278 :: nat_lit 280 :: nat_lit 281 :: nat_lit 283 :: nat_lit 284 :: nat_lit 285 :: nat_lit 288 :: nat_lit 289 :: nat_lit 290 :: nat_lit 293 :: nat_lit 294 :: nat_lit 295 :: nat_lit 298 :: nat_lit 299 :: []) (fun _ => by kernel_rfl)
section
abbrev Led := List (Addr × Obj)
noncomputable def Off (news tl : Led) : Prop := ∀ q ∈ news, ∀ p ∈ tl, p.1 ≠ q.1
section
variable {prog : Program} {w : World} {A : Around} {E : Value → Shared → Prop} {s : Shared} {h₀ : Heap} {L : Addr}
theorem item_led {value slice : PySem.Expr} {l : Addr} {its : List Value} {n : Nat} {led : Led} {k : Int} {u : Tok} {v : Value} {Q : Value → Shared → Prop}
    (N : News h₀ L s.heap led) (hm : (l, listOf its.toArray n) ∈ led) (h0 : 0 ≤ k) (hhi : k < 2 ^ 63) (hx : its[k.toNat]? = some v) (h : Q v s)
    (hs : subscripted slice false (.ref l) (.int k u) = operate [.ref l, .int k u] (getItem (.ref l) (.int k u))) :
    wpAny (model prog w) A (subscriptTail value slice (.ref l) (.int k u)) Q E s :=
  have hl := News.isList N hm
  tail_any hl.typeIs slot_list_getitem.lookup (wpAny_getItem_list hl h0 hhi (by simpa using hx) h) hs
end
section
variable {prog : Program} {w : World} {A₀ A : Around} {s : Shared} {base h₀ : Heap} {outer : List Env} {L : Addr} {m : Str → Option Value} {env : Env} {news : Led} {K : Frag} {p : Program} {loose : List Str} {mean : ExcName → Option Value} {mg mb : Str → Option Value}
  {R : Result → Shared → Prop} {name qual : Str} {params : Arguments} {body : List Stmt} {scope : Scope} {dV kV doc pm cdv ct oc : Value} {an od : Option Addr} {osl : Array (Option Value)} {f : Addr} {args : Args} {binds : List (Str × Value)}
/-- a def entered with a few objects in hand; all else that was made stands in the ground -/
theorem code_sub (sub : Led) (hsub : ∀ q ∈ sub, q ∈ news) (B : Below A₀ base outer h₀) (F : Fr h₀ L s.heap m) (X₀ : K.In h₀) (N : News h₀ L s.heap news) (T : Top p loose mean mg mb h₀) (hA : A.frames = some (env :: outer)) (hf : env.frame = some L) (hke : env.scope.kind = .function)
    (ho : K.lookup f = some ⟨oc, od, .func (fnOf name qual params body scope dV kV doc pm an cdv ct), osl⟩) (hcd : codeIn K cdv qual = true) (hroom : A.depth < recursionLimit)
    (hbind : BindsTo s (fnOf name qual params body scope dV kV doc pm an cdv ct) args binds) (hloc : ∀ y ∈ binds, scope.names.lookup y.1 = some .local)
    (h : ∀ g L' h₁, Fr h₀ L g m → Fr g L' h₁ (fun y => binds.reverse.lookup y) → News g L' h₁ sub → Below A base (env :: outer) g → K.In g → Top p loose mean mg mb g → (∀ q ∈ news, q.1 ∈ sub.map (·.1) ∨ g.get? q.1 = some q.2) →
      wpAny (model prog w) (A.deeper (envOf qual scope L' f cdv)) (execs body (envOf qual scope L' f cdv))
        (fun fl s' => LeaveK h₀ L m g R (match fl with | .ret v => v | _ => .none) s')
        (fun e s' => wpAny (model prog w) (A.deeper (envOf qual scope L' f cdv)) (leaving (envOf qual scope L' f cdv) e) (fun _ s'' => R (.error e) s'') (fun e' s'' => R (.error e') s'') s')
        { s with heap := h₁, toks := s.toks + binds.length })
    (hco : scope.isCoroutine = false) (hgen : scope.isGenerator = false) (hk : scope.kind = .function)
    (hcell : ∀ x ∈ scope.names, x.2 ≠ .cell) : codeAny (model prog w) A (.call (.ref f) args) R s := by
  have Ns : News h₀ L s.heap sub := fun q hq => N q (hsub q hq)
  have X := X₀.keeps F.keep
  obtain ⟨FG, BG, st, lv⟩ := groundX (R := R) B F Ns hA hf hke
  refine codeAny_call_def (fd := fnOf name qual params body scope dV kV doc pm an cdv ct) (body := body) (binds := binds) hroom (X _ _ ho) rfl (T.nolimit.keeps F.keep) (codeRec_of X hcd) rfl hbind hcell hloc (fun h₁ hns hk₁ => ?_) hco hgen hk
  refine wpAny_mono (h _ s.heap.objs.size h₁ FG ⟨hns, fun b o e => hk₁ b o (of_hideAll _ e), Nat.le_of_eq (hideAll_size _ _)⟩ (fun q hq => ?_) BG (X₀.keeps st) (T.keeps st) (fun q hq => ?_)) (fun fl s' hl => lv _ _ hl) fun _ _ y => y
  · exact ⟨hk₁ _ _ (Ns q hq).1, Nat.ne_of_lt (Heap.lt_size (Ns q hq).1), hideAll_none _ (List.mem_map_of_mem hq)⟩
  · by_cases hq' : q.1 ∈ sub.map (·.1)
    · exact .inl hq'
    · exact .inr (hideAll_get _ (N q hq).1 hq')
end
theorem sub_ends {h₀ h₁ h' g : Heap} {L L' : Addr} {m' : Str → Option Value} {news sub led' : Led} (N : News h₀ L h₁ news) (hsub : ∀ q ∈ sub, q ∈ news) (hG : ∀ q ∈ news, q.1 ∈ sub.map (·.1) ∨ g.get? q.1 = some q.2)
    (F' : Fr g L' h' m') (N' : News g L' h' led') (kN : News h₀ L h' led') (hs : ∀ q ∈ sub, q ∈ led') (new : Led) (hn : ∀ q ∈ new, q ∈ led') (hd : Off sub new) : News h₀ L h' (news ++ new) ∧ Off news new := by
  have key : ∀ q ∈ news, q ∈ sub ∨ g.get? q.1 = some q.2 := by
    intro q hq
    rcases hG q hq with h | h
    · obtain ⟨r, hr, e⟩ := List.mem_map.mp h
      have h1 := (N q hq).1
      have h2 := (N r (hsub r hr)).1
      rw [e, h1] at h2
      have : r = q := Prod.ext e (Option.some.inj h2).symm
      exact .inl (this ▸ hr)
    · exact .inr h
  constructor
  · intro q hq
    rcases List.mem_append.mp hq with hq | hq
    · rcases key q hq with h | h
      · exact kN q (hs q h)
      · exact ⟨F'.keep _ _ h, (N q hq).2⟩
    · exact kN q (hn q hq)
  · intro q hq p hp e
    rcases key q hq with h | h
    · exact hd q h p hp e
    · have h2 := (N' p (hn p hp)).2.2
      rw [e, h] at h2
      cases h2
/-- a def's contract: what it is handed (over the ledger), how deep it goes, what it hands back -/
noncomputable def Tell {D : Type} (w : World) (mean : ExcName → Option Value) (mg mb : Str → Option Value) (f : Addr) (Rel : Led → List Value → D → Prop) (size : D → Nat) (Out : Led → Led → Value → D → Prop) (d : D) : Prop :=
  ∀ (dp un : Nat) (gd : Option (List Code)) (cn : Str) (cs : Scope) (a : Addr) (ccd : Value) (cl : List (Str × Addr)) (outer : List Env) (A₀ : Around) (base h₀ : Heap) (L : Addr) (m : Str → Option Value) (news : Led) (s : Shared) (vs : List Value)
    (Q E : Value → Shared → Prop),
    Below A₀ base outer h₀ → Fr h₀ L s.heap m → (hd.heap_39 w.params).In h₀ → News h₀ L s.heap news → Top hd.view_39 (looseW hd.view_39 [Str.ofString "NOUGHT", Str.ofString "UNIT"]) mean mg mb h₀ → cs.kind = .function → Rel news vs d → dp + size d < recursionLimit → un + 8 * size d < cLine →
    (∀ r tl h' tk', Fr h₀ L h' m → News h₀ L h' (news ++ tl) → Off news tl → Out news tl r d → Q r { s with heap := h', toks := tk' }) →
    wpAny (model PySem.Challenge.rw_xm0445_01.row.prog w) (ktrTop dp un gd cn cs L a ccd cl outer) (call (.ref f) vs) Q E s
theorem Tell.use {D : Type} {w : World} {mean : ExcName → Option Value} {mg mb : Str → Option Value} {f : Addr} {Rel : Led → List Value → D → Prop} {size : D → Nat} {Out : Led → Led → Value → D → Prop} (d : D)
    {dp un : Nat} {gd : Option (List Code)} {cn : Str} {cs : Scope} {a : Addr} {ccd : Value} {cl : List (Str × Addr)} {outer : List Env} {A₀ : Around} {base h₀ : Heap} {L : Addr} {m : Str → Option Value} {news : Led} {s : Shared} {vs : List Value}
    {Q E : Value → Shared → Prop} (T : Tell w mean mg mb f Rel size Out d)
    (B : Below A₀ base outer h₀) (F : Fr h₀ L s.heap m) (X : (hd.heap_39 w.params).In h₀) (N : News h₀ L s.heap news) (Tp : Top hd.view_39 (looseW hd.view_39 [Str.ofString "NOUGHT", Str.ofString "UNIT"]) mean mg mb h₀) (hk : cs.kind = .function) (R : Rel news vs d)
    (h1 : dp + size d < recursionLimit) (h2 : un + 8 * size d < cLine)
    (ret : ∀ r tl h' tk', Fr h₀ L h' m → News h₀ L h' (news ++ tl) → Off news tl → Out news tl r d → Q r { s with heap := h', toks := tk' }) :
    wpAny (model PySem.Challenge.rw_xm0445_01.row.prog w) (ktrTop dp un gd cn cs L a ccd cl outer) (call (.ref f) vs) Q E s :=
  T _ _ _ _ _ _ _ _ _ _ _ _ _ _ _ _ _ _ _ B F X N Tp hk R h1 h2 ret
theorem Off.nil {news : Led} : Off news [] := fun _ _ _ h => nomatch h
theorem Off.one {news : Led} {D : Addr} {o : Obj} (l : AllLt D news) : Off news [(D, o)] := fun q hq p hp => by
  rw [List.mem_singleton.mp hp]
  exact Nat.ne_of_gt (ktn_ltOf l q hq)
theorem Off.left {news tl tl' : Led} (h : Off (news ++ tl) tl') : Off news tl' := fun q hq => h q (List.mem_append.mpr (.inl hq))
theorem Off.app {news tl tl' : Led} (h : Off news tl) (h' : Off news tl') : Off news (tl ++ tl') := fun q hq p hp => (List.mem_append.mp hp).elim (h q hq p) (h' q hq p)
theorem Off.tail {news tl : Led} {x : Addr × Obj} (h : Off (x :: news) tl) : Off news tl := fun q hq => h q (.tail _ hq)
theorem Off.cons {news tl : Led} {D : Addr} {o : Obj} (l : AllLt D news) (h : Off news tl) : Off news ((D, o) :: tl) := fun q hq p hp => by
  rcases List.mem_cons.mp hp with rfl | hp
  · exact Nat.ne_of_gt (ktn_ltOf l q hq)
  · exact h q hq p hp
theorem ne_below {D : Addr} {l : Led} (h : AllLt D l) : ∀ p ∈ l, p.1 ≠ D := fun p hp => Nat.ne_of_lt (ktn_ltOf h p hp)
theorem ne_above {D : Addr} {o : Obj} {l tl : Led} (h : Off l tl) (hm : (D, o) ∈ l) : ∀ p ∈ tl, p.1 ≠ D := fun p hp => h (D, o) hm p hp
theorem ne_app {D : Addr} {l tl : Led} (h : ∀ p ∈ l, p.1 ≠ D) (h' : ∀ p ∈ tl, p.1 ≠ D) : ∀ p ∈ l ++ tl, p.1 ≠ D := fun p hp => (List.mem_append.mp hp).elim (h p) (h' p)
theorem allLt_left {D : Addr} : ∀ {l tl : Led}, AllLt D (l ++ tl) → AllLt D l
  | [], _, _ => trivial
  | _ :: _, _, h => ⟨h.1, allLt_left h.2⟩
section
variable {P : Led → Value → Prop} {h₀ : Heap} {L : Addr} {m : Str → Option Value} {news : Led} {s : Shared} {Q : Value → Shared → Prop} {r : Value} {h' : Heap} {tk' : Nat}
theorem sub_ret (ret : ∀ r tl h' tk', Fr h₀ L h' m → News h₀ L h' (news ++ tl) → Off news tl → P tl r → Q r { s with heap := h', toks := tk' })
    {h₁ g : Heap} {L' : Addr} {m' : Str → Option Value} {sub led' : Led} (N : News h₀ L h₁ news) (hsub : ∀ q ∈ sub, q ∈ news) (hG : ∀ q ∈ news, q.1 ∈ sub.map (·.1) ∨ g.get? q.1 = some q.2)
    (F' : Fr g L' h' m') (N' : News g L' h' led') (kF : Fr h₀ L h' m) (kN : News h₀ L h' led') (hs : ∀ q ∈ sub, q ∈ led') (new : Led) (hn : ∀ q ∈ new, q ∈ led') (hd : Off sub new) (O : P new r) : Q r { s with heap := h', toks := tk' } := by
  obtain ⟨N1, O1⟩ := sub_ends N hsub hG F' N' kN hs new hn hd
  exact ret r new h' tk' kF N1 O1 O
theorem one_ret (ret : ∀ r tl h' tk', Fr h₀ L h' m → News h₀ L h' (news ++ tl) → Off news tl → P tl r → Q r { s with heap := h', toks := tk' })
    {D : Addr} {o : Obj} (kF : Fr h₀ L h' m) (kN : News h₀ L h' ((D, o) :: news)) (l : AllLt D news) (O : P [(D, o)] r) : Q r { s with heap := h', toks := tk' } :=
  ret r [(D, o)] h' tk' kF (fun p hp => (List.mem_append.mp hp).elim (fun h => kN p (.tail _ h)) fun h => kN p (by rw [List.mem_singleton.mp h]; exact .head _)) (Off.one l) O
end
theorem Off.w {sub : Led} {new : Led} (h : ∀ p ∈ new, ∀ q ∈ sub, q.1 ≠ p.1) : Off sub new := fun q hq p hp e => h p hp q hq e.symm
theorem Off.sub {sub led tl : Led} (h : Off led tl) (hs : ∀ q ∈ sub, q ∈ led) : Off sub tl := fun q hq => h q (hs q hq)
theorem w_cases {w : Int} (h : 4 ≤ w) (h' : w ≤ 8) : w = 4 ∨ w = 5 ∨ w = 6 ∨ w = 7 ∨ w = 8 := by omega
theorem and_mask {p w : Int} (h0 : 0 ≤ p) (h1 : p < 16) (hw : 4 ≤ w) (hw' : w ≤ 8) : Builtin.bitAnd p (1 * 2 ^ w.toNat - 1) = p := by
  rcases w_cases hw hw' with rfl | rfl | rfl | rfl | rfl
  · have e : (1 * 2 ^ (4 : Int).toNat - 1 : Int) = 15 := by decide
    rw [e, bitAnd_m4]; omega
  · have e : (1 * 2 ^ (5 : Int).toNat - 1 : Int) = 31 := by decide
    rw [e, bitAnd_m5]; omega
  · have e : (1 * 2 ^ (6 : Int).toNat - 1 : Int) = 63 := by decide
    rw [e, bitAnd_m6]; omega
  · have e : (1 * 2 ^ (7 : Int).toNat - 1 : Int) = 127 := by decide
    rw [e, bitAnd_m7]; omega
  · have e : (1 * 2 ^ (8 : Int).toNat - 1 : Int) = 255 := by decide
    rw [e, bitAnd_m8]; omega
theorem pow_ge {w : Int} (hw : 4 ≤ w) (hw' : w ≤ 8) : (16 : Int) ≤ 2 ^ w.toNat := by
  rcases w_cases hw hw' with rfl | rfl | rfl | rfl | rfl <;> decide
theorem fdiv_pow {p w : Int} (h0 : 0 ≤ p) (h1 : p < 16) (hw : 4 ≤ w) (hw' : w ≤ 8) : p.fdiv (2 ^ w.toNat) = 0 := by
  have h := pow_ge hw hw'
  rw [Int.fdiv_eq_ediv_of_nonneg _ (by omega)]
  exact Int.ediv_eq_zero_of_lt h0 (by omega)
theorem no_carry {p w : Int} (h0 : 0 ≤ p) (h1 : p < 16) (hw : 4 ≤ w) (hw' : w ≤ 8) (h : 0 < p.fdiv (2 ^ w.toNat)) : False := by
  rw [fdiv_pow h0 h1 hw hw'] at h
  exact absurd h (by decide)
noncomputable def AllDf (d : Nat) : Led → Prop
  | [] => True
  | p :: r => @Ne Nat p.1 d ∧ AllDf d r
theorem allDf_of {D : Addr} {o : Obj} {tl : Led} (hm : (D, o) ∈ tl) : ∀ {led : Led}, Off led tl → AllDf D led
  | [], _ => trivial
  | q :: r, h => ⟨fun e => h q (.head _) (D, o) hm e.symm, allDf_of hm fun p hp => h p (.tail _ hp)⟩
theorem newsL {h₀ h : Heap} {L : Addr} {a b : Led} (x : News h₀ L h (a ++ b)) : News h₀ L h a := fun p hp => x p (List.mem_append_left _ hp)
theorem or_nought {x : Int} {k : Nat} (h0 : 0 ≤ x) (h1 : x < 16) : Builtin.bitOr (0 * 2 ^ k) x = x := by
  have key : ∀ n : Fin 16, Builtin.bitOr 0 (n.val : Int) = n.val := by decide
  have h := key ⟨x.toNat, by omega⟩
  rw [Int.zero_mul]
  simpa [Int.toNat_of_nonneg h0] using h
theorem newsSub {h₀ h : Heap} {L : Addr} {a b : Led} (x : News h₀ L h b) (hs : ∀ p ∈ a, p ∈ b) : News h₀ L h a := fun p hp => x p (hs p hp)
theorem sub_nil0 {B : Led} : ∀ p ∈ ([] : Led), p ∈ B := fun _ h => nomatch h
theorem sub_cons1 {x : Addr × Obj} {A B : Led} (h : x ∈ B) (k : ∀ p ∈ A, p ∈ B) : ∀ p ∈ x :: A, p ∈ B := List.forall_mem_cons.mpr ⟨h, k⟩
theorem sub_app1 {A A' B : Led} (h : ∀ p ∈ A, p ∈ B) (k : ∀ p ∈ A', p ∈ B) : ∀ p ∈ A ++ A', p ∈ B := fun p hp => (List.mem_append.mp hp).elim (h p) (k p)
theorem sub_cons2 {x : Addr × Obj} {A B : Led} (h : ∀ p ∈ A, p ∈ B) : ∀ p ∈ A, p ∈ x :: B := fun p hp => .tail _ (h p hp)
theorem sub_appl2 {A B C : Led} (h : ∀ p ∈ A, p ∈ B) : ∀ p ∈ A, p ∈ B ++ C := fun p hp => List.mem_append_left _ (h p hp)
theorem sub_appr2 {A B C : Led} (h : ∀ p ∈ A, p ∈ C) : ∀ p ∈ A, p ∈ B ++ C := fun p hp => List.mem_append_right _ (h p hp)
end
local macro_rules | `(tactic| ktr_unf) => `(tactic| first | assumption | exact List.mem_cons_self | (refine List.mem_cons_of_mem _ ?_; ktr_unf; done) | (refine List.mem_append_left _ ?_; ktr_unf; done) | (refine List.mem_append_right _ ?_; ktr_unf; done))
local macro_rules | `(tactic| walk_at "exec While BoolOp") => `(tactic| (k_here; k_dflt (refine whl_start 100 ?_)))
local macro_rules | `(tactic| walk_at "exec While Compare") => `(tactic| (k_here; k_dflt (refine whl_start 100 ?_)))
local macro_rules | `(tactic| walk_at "z.whl") => `(tactic| (simp only [decide_eq_true_eq, decide_eq_false_iff_not] at *; omega))
local macro_rules | `(tactic| walk_at "WhlIf") => `(tactic| (first | refine WhlIf.yes (by walk_at "z.whl") ?_ | refine WhlIf.no (by walk_at "z.whl") ?_))
local macro_rules | `(tactic| walk_at "z.num") => `(tactic| first | decide | omega)
local macro_rules | `(tactic| walk_at "subscriptTail") => `(tactic| (k_here; (with_reducible show wpAny _ _ (subscriptTail _ _ (Value.ref _) (Value.int _ _)) _ _ _); (first | (k_dflt refine' item_tupleT (by exact News.isTup (by k_asm) (by ktr_unf; done)) (by decide) (by decide) (by rfl) (by rfl) ?_; k_whole) | (with_unfolding_all refine' item_led (by k_asm) (by ktr_unf; done) (by walk_at "z.num") (by walk_at "z.num") (by first | rfl | assumption) ?_ (by rfl); k_whole))))
local macro_rules | `(tactic| k_all) => `(tactic| first | assumption | exact ne_below (by ktn_lt) | exact ne_above (by assumption) (by k_mem) | (refine ne_app ?_ ?_ <;> k_all))
local macro_rules | `(tactic| k_mem) => `(tactic| assumption)
local macro_rules | `(tactic| walk_at "exec For Tuple Call cons nil") => `(tactic| (k_here; (rename Fr _ _ _ _ => lF'); (with_unfolding_all refine' For_turns lF' ?_; k_whole)))
local macro_rules | `(tactic| ktr_rel) => `(tactic| (with_reducible first | exact fun _ h => h | exact sub_nil0 | (refine sub_cons1 ?_ ?_; (· (ktr_unf; done)); ktr_rel) | (refine sub_app1 ?_ ?_ <;> ktr_rel) | (refine sub_cons2 ?_; ktr_rel) | (refine sub_appl2 ?_; ktr_rel) | (refine sub_appr2 ?_; ktr_rel)))

section
theorem said : PySem.Challenge.rw_xm0445_01.wellSaid = true := by
  rewrite [PySem.W.Fast.te9446332074065402090]
  kernel_rfl
/-- the top's run, checked whole by the kernel, the library's quicker twins in the place of its words -/
theorem left : LeftO (OpenRow.toRowW PySem.Challenge.rw_xm0445_01.row).prog hd.view_39 [Str.ofString "NOUGHT", Str.ofString "UNIT"] (fun s => xlAt hd.view_39 [] s && recOk (RowW.records (OpenRow.toRowW PySem.Challenge.rw_xm0445_01.row)) s) (Hook.obs hook) (Hook.val hook) 3872 := by
  intro w
  unfold openEnds fencedOpening topFrom
  rewrite [PySem.W.Fast.te14082659384304107361, PySem.W.Fast.te10274390034422433532, PySem.W.Fast.te14289696077712309145, PySem.W.Fast.te4187177175401517315, PySem.W.Fast.te14364793385576792824, PySem.W.Fast.te1435165496053646825]
  kernel_rfl
end
section
inductive NatIn (news : List (Addr × Obj)) : Value → Int → Prop
  | zero {a : Addr} {n : Nat} (h : (a, listOf #[] n) ∈ news) : NatIn news (.ref a) 0
  | pos {a : Addr} {n : Nat} {t : Tok} {x : Int} (h : (a, listOf #[.int x t] n) ∈ news) (h0 : 0 < x) (h1 : x < 16) : NatIn news (.ref a) x
theorem NatIn.mono {news news' : List (Addr × Obj)} {v : Value} {x : Int} (hs : ∀ p ∈ news, p ∈ news') (h : NatIn news v x) : NatIn news' v x := by
  cases h with
  | zero h => exact .zero (hs _ h)
  | pos h h0 h1 => exact .pos (hs _ h) h0 h1
theorem NatIn.zero' {news : Led} {a : Addr} {n : Nat} {arr : Array Value} (h : (a, listOf arr n) ∈ news) (e : arr = #[]) : NatIn news (.ref a) 0 := by
  subst e
  exact .zero h
theorem NatIn.zero'' {news : Led} {a : Addr} {n : Nat} {arr : Array Value} {q : Int} (h : (a, listOf arr n) ∈ news) (e : arr = #[]) (hq : q = 0) : NatIn news (.ref a) q := by
  subst e hq
  exact .zero h
theorem NatIn.pos' {news : Led} {a : Addr} {n : Nat} {t : Tok} {x z : Int} {arr : Array Value} (h : (a, listOf arr n) ∈ news) (e : arr = #[.int z t]) (hz : z = x) (h0 : 0 < x) (h1 : x < 16) : NatIn news (.ref a) x := by
  subst e hz
  exact .pos h h0 h1
/-- normal's argument: a list of limbs with noughts at its end -/
inductive RawIn (news : Led) : List Value → Int → Prop
  | nil {a : Addr} {n : Nat} {arr : Array Value} (h : (a, listOf arr n) ∈ news) (e : arr = #[]) : RawIn news [.ref a] 0
  | one0 {a : Addr} {n : Nat} {t : Tok} {x : Int} {arr : Array Value} (h : (a, listOf arr n) ∈ news) (e : arr = #[.int x t]) (hx : x = 0) : RawIn news [.ref a] 0
  | one {a : Addr} {n : Nat} {t : Tok} {x z : Int} {arr : Array Value} (h : (a, listOf arr n) ∈ news) (e : arr = #[.int z t]) (hz : z = x) (h0 : 0 < x) (h1 : x < 16) : RawIn news [.ref a] x
  | two0 {a : Addr} {n : Nat} {t u : Tok} {y z : Int} {arr : Array Value} (h : (a, listOf arr n) ∈ news) (e : arr = #[.int z t, .int y u]) (hz : z = 0) (hy : y = 0) : RawIn news [.ref a] 0
  | two {a : Addr} {n : Nat} {t u : Tok} {x y z : Int} {arr : Array Value} (h : (a, listOf arr n) ∈ news) (e : arr = #[.int z t, .int y u]) (hz : z = x) (hy : y = 0) (h0 : 0 < x) (h1 : x < 16) : RawIn news [.ref a] x
theorem RawIn.le {news : Led} {a : Addr} {n : Nat} {t : Tok} {x z : Int} {arr : Array Value} (h : (a, listOf arr n) ∈ news) (e : arr = #[.int z t]) (hz : z = x) (h0 : 0 ≤ x) (h1 : x < 16) : RawIn news [.ref a] x := by
  by_cases hx : x = 0
  · subst hx
    exact .one0 h e hz
  · exact .one h e hz (by omega) h1
set_option maxHeartbeats 8000000 in
theorem normal_tells (w : World) (mean : ExcName → Option Value) (mg mb : Str → Option Value) : ∀ d, Tell w mean mg mb 58 RawIn (fun _ => 1) (fun _ => NatIn) d := by
  intro d
  unfold Tell
  k_fill
  intro dp un gd cn cs a ccd cl outer A₀ base h₀ L m news s vs Q E B F X N T hk hR hd hu hret
  try dsimp only at hd hu hret
  cases hR
  all_goals (try subst_vars)
  all_goals (
    refine wpAny_call ?_
    k_dflt ktr_enter
    k_steps
    all_goals (try k_data)
    all_goals (
      refine one_ret hret (by k_asm) (by k_asm) (by ktn_lt) ?_
      first | exact NatIn.zero (.head _) | exact NatIn.pos (.head _) (by omega) (by omega)))
end
section
inductive MulIn (news : Led) : List Value → Int × Int → Prop
  | mk {va vb : Value} {x y w : Int} {t : Tok} (ha : NatIn news va x) (hb : NatIn news vb y) (hw : 4 ≤ w) (hw' : w ≤ 8) (hxy : x * y < 16) : MulIn news [va, vb, .int w t] (x, y)
theorem pos_mul {x y : Int} (h : 0 < x) (k : 0 < y) : 0 < 0 + (0 + x * y) := by
  have := Int.mul_pos h k
  omega
theorem lt_mul {x y : Int} (h : x * y < 16) : 0 + (0 + x * y) < 16 := by omega
set_option maxHeartbeats 8000000 in
theorem mul_tells (w : World) (mean : ExcName → Option Value) (mg mb : Str → Option Value) : ∀ d, Tell w mean mg mb 228 MulIn (fun _ => 2) (fun _ l v d => NatIn l v (d.1 * d.2)) d := by
  intro d
  unfold Tell
  k_fill
  intro dp un gd cn cs a ccd cl outer A₀ base h₀ L m news s vs Q E B F X N T hk hR hd hu hret
  try dsimp only at hd hu hret
  cases hR with
  | @mk va vb x y w t ha hb hw hw' hxy =>
  cases ha with
  | zero ha =>
    cases hb with
    | zero hb =>
      refine wpAny_call ?_
      k_dflt (refine' code_sub _ (List.forall_mem_cons.mpr ⟨ha, List.forall_mem_cons.mpr ⟨hb, List.forall_mem_nil _⟩⟩) ?k1 ?k2 ?k3 ?k4 ?k5 ?kA ?kF ?kK ?k6 ?k7 ?k8 ?k9 ?kB ?_ ?c2 ?c3 ?c4 ?c5; (case kA => exact rfl); (case kF => exact rfl); (case kK => assumption); (case k1 => k_asm); (case k2 => k_asm); (case k3 => k_asm); (case k4 => k_asm); (case k5 => k_asm); (case k6 => k_is); (case k7 => k_is); (case k8 => ktr_room); (case k9 => exact BindsTo.of_eq rfl); (case c5 => decide); (case kB => exact locs rfl); (case c2 => exact rfl); (case c3 => exact rfl); (case c4 => exact rfl); k_whole; intro g' L' h' FG' F' N' B' X' T' hG'; (try dsimp only); (try k_fold))
      k_steps
      all_goals (try k_data)
      k_dflt (refine' Tell.use 0 (normal_tells _ _ _ _ _) ?k1 ?k2 ?k3 ?k4 ?k5 ?k6 ?k7 ?k8 ?k9 ?_; (case k1 => k_asm); (case k2 => k_asm); (case k3 => k_asm); (case k4 => k_asm); (case k5 => k_asm); (case k6 => exact rfl); (case k7 => exact RawIn.nil (by k_mem) (by rfl)); (case k8 => ktr_room); (case k9 => ktr_units))
      intro r9 tl9 h9 tk9 F9 N9 hl9 ho9
      (try simp only [List.cons_append, List.nil_append, List.append_assoc] at N9)
      (try dsimp only); (try k_fold)
      k_steps
      all_goals (try k_data)
      refine' sub_ret hret N (List.forall_mem_cons.mpr ⟨ha, List.forall_mem_cons.mpr ⟨hb, List.forall_mem_nil _⟩⟩) hG' ?f1 ?f2 ?f3 ?f4 ?f5 tl9 ?f6 ?f7 ?f8
      (case f1 => k_asm); (case f2 => k_asm); (case f3 => k_asm); (case f4 => k_asm); (case f5 => k_allIn)
      (case f6 => intro q hq; simp only [List.mem_append, List.mem_cons, hq, or_true])
      (case f7 => exact Off.sub hl9 (by k_allIn))
      (case f8 => first | exact ho9 | (simp only [Int.zero_mul, Int.mul_zero]; exact ho9))
    | pos hb b0 b1 =>
      refine wpAny_call ?_
      k_dflt (refine' code_sub _ (List.forall_mem_cons.mpr ⟨ha, List.forall_mem_cons.mpr ⟨hb, List.forall_mem_nil _⟩⟩) ?k1 ?k2 ?k3 ?k4 ?k5 ?kA ?kF ?kK ?k6 ?k7 ?k8 ?k9 ?kB ?_ ?c2 ?c3 ?c4 ?c5; (case kA => exact rfl); (case kF => exact rfl); (case kK => assumption); (case k1 => k_asm); (case k2 => k_asm); (case k3 => k_asm); (case k4 => k_asm); (case k5 => k_asm); (case k6 => k_is); (case k7 => k_is); (case k8 => ktr_room); (case k9 => exact BindsTo.of_eq rfl); (case c5 => decide); (case kB => exact locs rfl); (case c2 => exact rfl); (case c3 => exact rfl); (case c4 => exact rfl); k_whole; intro g' L' h' FG' F' N' B' X' T' hG'; (try dsimp only); (try k_fold))
      k_steps
      all_goals (try k_data)
      k_dflt (refine' Tell.use 0 (normal_tells _ _ _ _ _) ?k1 ?k2 ?k3 ?k4 ?k5 ?k6 ?k7 ?k8 ?k9 ?_; (case k1 => k_asm); (case k2 => k_asm); (case k3 => k_asm); (case k4 => k_asm); (case k5 => k_asm); (case k6 => exact rfl); (case k7 => exact RawIn.one0 (by k_mem) (by rfl) (by rfl)); (case k8 => ktr_room); (case k9 => ktr_units))
      intro r9 tl9 h9 tk9 F9 N9 hl9 ho9
      (try simp only [List.cons_append, List.nil_append, List.append_assoc] at N9)
      (try dsimp only); (try k_fold)
      k_steps
      all_goals (try k_data)
      refine' sub_ret hret N (List.forall_mem_cons.mpr ⟨ha, List.forall_mem_cons.mpr ⟨hb, List.forall_mem_nil _⟩⟩) hG' ?f1 ?f2 ?f3 ?f4 ?f5 tl9 ?f6 ?f7 ?f8
      (case f1 => k_asm); (case f2 => k_asm); (case f3 => k_asm); (case f4 => k_asm); (case f5 => k_allIn)
      (case f6 => intro q hq; simp only [List.mem_append, List.mem_cons, hq, or_true])
      (case f7 => exact Off.sub hl9 (by k_allIn))
      (case f8 => first | exact ho9 | (simp only [Int.zero_mul, Int.mul_zero]; exact ho9))
  | pos ha a0 a1 =>
  cases hb with
  | zero hb =>
    refine wpAny_call ?_
    k_dflt (refine' code_sub _ (List.forall_mem_cons.mpr ⟨ha, List.forall_mem_cons.mpr ⟨hb, List.forall_mem_nil _⟩⟩) ?k1 ?k2 ?k3 ?k4 ?k5 ?kA ?kF ?kK ?k6 ?k7 ?k8 ?k9 ?kB ?_ ?c2 ?c3 ?c4 ?c5; (case kA => exact rfl); (case kF => exact rfl); (case kK => assumption); (case k1 => k_asm); (case k2 => k_asm); (case k3 => k_asm); (case k4 => k_asm); (case k5 => k_asm); (case k6 => k_is); (case k7 => k_is); (case k8 => ktr_room); (case k9 => exact BindsTo.of_eq rfl); (case c5 => decide); (case kB => exact locs rfl); (case c2 => exact rfl); (case c3 => exact rfl); (case c4 => exact rfl); k_whole; intro g' L' h' FG' F' N' B' X' T' hG'; (try dsimp only); (try k_fold))
    k_steps
    all_goals (try k_data)
    k_dflt (refine' Tell.use 0 (normal_tells _ _ _ _ _) ?k1 ?k2 ?k3 ?k4 ?k5 ?k6 ?k7 ?k8 ?k9 ?_; (case k1 => k_asm); (case k2 => k_asm); (case k3 => k_asm); (case k4 => k_asm); (case k5 => k_asm); (case k6 => exact rfl); (case k7 => exact RawIn.one0 (by k_mem) (by rfl) (by rfl)); (case k8 => ktr_room); (case k9 => ktr_units))
    intro r9 tl9 h9 tk9 F9 N9 hl9 ho9
    (try simp only [List.cons_append, List.nil_append, List.append_assoc] at N9)
    (try dsimp only); (try k_fold)
    k_steps
    all_goals (try k_data)
    refine' sub_ret hret N (List.forall_mem_cons.mpr ⟨ha, List.forall_mem_cons.mpr ⟨hb, List.forall_mem_nil _⟩⟩) hG' ?f1 ?f2 ?f3 ?f4 ?f5 tl9 ?f6 ?f7 ?f8
    (case f1 => k_asm); (case f2 => k_asm); (case f3 => k_asm); (case f4 => k_asm); (case f5 => k_allIn)
    (case f6 => intro q hq; simp only [List.mem_append, List.mem_cons, hq, or_true])
    (case f7 => exact Off.sub hl9 (by k_allIn))
    (case f8 => first | exact ho9 | (simp only [Int.zero_mul, Int.mul_zero]; exact ho9))
  | pos hb b0 b1 =>
  refine wpAny_call ?_
  k_dflt (refine' code_sub _ (List.forall_mem_cons.mpr ⟨ha, List.forall_mem_cons.mpr ⟨hb, List.forall_mem_nil _⟩⟩) ?k1 ?k2 ?k3 ?k4 ?k5 ?kA ?kF ?kK ?k6 ?k7 ?k8 ?k9 ?kB ?_ ?c2 ?c3 ?c4 ?c5; (case kA => exact rfl); (case kF => exact rfl); (case kK => assumption); (case k1 => k_asm); (case k2 => k_asm); (case k3 => k_asm); (case k4 => k_asm); (case k5 => k_asm); (case k6 => k_is); (case k7 => k_is); (case k8 => ktr_room); (case k9 => exact BindsTo.of_eq rfl); (case c5 => decide); (case kB => exact locs rfl); (case c2 => exact rfl); (case c3 => exact rfl); (case c4 => exact rfl); k_whole; intro g' L' h' FG' F' N' B' X' T' hG'; (try dsimp only); (try k_fold))
  k_steps
  all_goals (try k_data)
  k_dflt (refine' Tell.use (x * y) (normal_tells _ _ _ _ _) ?k1 ?k2 ?k3 ?k4 ?k5 ?k6 ?k7 ?k8 ?k9 ?_; (case k1 => k_asm); (case k2 => k_asm); (case k3 => k_asm); (case k4 => k_asm); (case k5 => k_asm); (case k6 => exact rfl); (case k7 => exact RawIn.two (by k_mem) (by rfl) ((and_mask (Int.le_of_lt (pos_mul a0 b0)) (lt_mul hxy) hw hw').trans (by omega)) (fdiv_pow (Int.le_of_lt (pos_mul a0 b0)) (lt_mul hxy) hw hw') (Int.mul_pos a0 b0) hxy); (case k8 => ktr_room); (case k9 => ktr_units))
  intro r9 tl9 h9 tk9 F9 N9 hl9 ho9
  (try simp only [List.cons_append, List.nil_append, List.append_assoc] at N9)
  (try dsimp only); (try k_fold)
  k_steps
  all_goals (try k_data)
  refine' sub_ret hret N (List.forall_mem_cons.mpr ⟨ha, List.forall_mem_cons.mpr ⟨hb, List.forall_mem_nil _⟩⟩) hG' ?f1 ?f2 ?f3 ?f4 ?f5 tl9 ?f6 ?f7 ?f8
  (case f1 => k_asm); (case f2 => k_asm); (case f3 => k_asm); (case f4 => k_asm); (case f5 => k_allIn)
  (case f6 => intro q hq; simp only [List.mem_append, List.mem_cons, hq, or_true])
  (case f7 => exact Off.sub hl9 (by k_allIn))
  (case f8 => first | exact ho9 | (simp only [Int.zero_mul, Int.mul_zero]; exact ho9))
end
section
noncomputable def cmpI (x y : Int) : Int := if x < y then -1 else if x = y then 0 else 1
theorem cmp_out {x y a : Int} {t : Tok} (h : a = cmpI x y) : ∃ t', Value.int a t = .int (cmpI x y) t' := ⟨t, h ▸ rfl⟩
theorem cmp_nz {y : Int} (h : 0 < y) : -1 = cmpI 0 y := by unfold cmpI; rw [if_pos h]
theorem cmp_zn {x : Int} (h : 0 < x) : 1 = cmpI x 0 := by unfold cmpI; rw [if_neg (by omega), if_neg (by omega)]
theorem cmp_lt {x y : Int} (h : x < y) : -1 = cmpI x y := by unfold cmpI; rw [if_pos h]
theorem cmp_gt {x y : Int} (h : ¬ x = y) (k : ¬ x < y) : 1 = cmpI x y := by unfold cmpI; rw [if_neg k, if_neg h]
theorem cmp_eq {x y : Int} (h : x = y) : 0 = cmpI x y := by unfold cmpI; rw [if_neg (by omega), if_pos (by omega)]
theorem cmp_ge {x y : Int} (h : y ≤ x) : 0 ≤ cmpI x y := by unfold cmpI; rw [if_neg (by omega)]; split <;> decide
inductive PairIn (news : Led) : List Value → Int × Int → Prop
  | mk {va vb : Value} {x y : Int} (ha : NatIn news va x) (hb : NatIn news vb y) : PairIn news [va, vb] (x, y)
  | unit {va : Value} {x : Int} (ha : NatIn news va x) : PairIn news [va, .ref 159] (x, 1)
set_option maxHeartbeats 8000000 in
theorem cmp_tells (w : World) (mean : ExcName → Option Value) (mg mb : Str → Option Value) : ∀ d, Tell w mean mg mb 65 PairIn (fun _ => 1) (fun _ _ v d => ∃ t, v = .int (cmpI d.1 d.2) t) d := by
  intro d
  unfold Tell
  k_fill
  intro dp un gd cn cs a ccd cl outer A₀ base h₀ L m news s vs Q E B F X N T hk hR hd hu hret
  try dsimp only at hd hu hret
  cases hR with
  | @unit va x ha =>
    cases ha with
    | zero ha =>
      refine wpAny_call ?_
      k_dflt (refine' code_sub _ (List.forall_mem_cons.mpr ⟨ha, List.forall_mem_nil _⟩) ?k1 ?k2 ?k3 ?k4 ?k5 ?kA ?kF ?kK ?k6 ?k7 ?k8 ?k9 ?kB ?_ ?c2 ?c3 ?c4 ?c5; (case kA => exact rfl); (case kF => exact rfl); (case kK => assumption); (case k1 => k_asm); (case k2 => k_asm); (case k3 => k_asm); (case k4 => k_asm); (case k5 => k_asm); (case k6 => k_is); (case k7 => k_is); (case k8 => ktr_room); (case k9 => exact BindsTo.of_eq rfl); (case c5 => decide); (case kB => exact locs rfl); (case c2 => exact rfl); (case c3 => exact rfl); (case c4 => exact rfl); k_whole; intro g' L' h' FG' F' N' B' X' T' hG'; (try dsimp only); (try k_fold))
      k_steps
      all_goals (try k_data)
      all_goals (
        (refine' sub_ret hret N (List.forall_mem_cons.mpr ⟨ha, List.forall_mem_nil _⟩) hG' ?f1 ?f2 ?f3 ?f4 ?f5 [] ?f6 ?f7 (by first | exact cmp_out (by decide) | exact cmp_out (cmp_lt (by assumption)) | exact cmp_out (cmp_gt (by assumption) (by assumption)) | exact cmp_out (cmp_eq (by assumption))); (case f1 => k_asm); (case f2 => k_asm); (case f3 => k_asm); (case f4 => k_asm); (case f5 => k_allIn); (case f6 => k_allIn); (case f7 => exact Off.w (by repeat (first | exact List.forall_mem_nil _ | (refine List.forall_mem_cons.mpr ⟨by k_all, ?_⟩))))))
    | pos ha a0 a1 =>
      refine wpAny_call ?_
      k_dflt (refine' code_sub _ (List.forall_mem_cons.mpr ⟨ha, List.forall_mem_nil _⟩) ?k1 ?k2 ?k3 ?k4 ?k5 ?kA ?kF ?kK ?k6 ?k7 ?k8 ?k9 ?kB ?_ ?c2 ?c3 ?c4 ?c5; (case kA => exact rfl); (case kF => exact rfl); (case kK => assumption); (case k1 => k_asm); (case k2 => k_asm); (case k3 => k_asm); (case k4 => k_asm); (case k5 => k_asm); (case k6 => k_is); (case k7 => k_is); (case k8 => ktr_room); (case k9 => exact BindsTo.of_eq rfl); (case c5 => decide); (case kB => exact locs rfl); (case c2 => exact rfl); (case c3 => exact rfl); (case c4 => exact rfl); k_whole; intro g' L' h' FG' F' N' B' X' T' hG'; (try dsimp only); (try k_fold))
      k_steps
      all_goals (try k_data)
      all_goals (
        (refine' sub_ret hret N (List.forall_mem_cons.mpr ⟨ha, List.forall_mem_nil _⟩) hG' ?f1 ?f2 ?f3 ?f4 ?f5 [] ?f6 ?f7 (by first | exact cmp_out (by decide) | exact cmp_out (cmp_lt (by assumption)) | exact cmp_out (cmp_gt (by assumption) (by assumption)) | exact cmp_out (cmp_eq (by assumption))); (case f1 => k_asm); (case f2 => k_asm); (case f3 => k_asm); (case f4 => k_asm); (case f5 => k_allIn); (case f6 => k_allIn); (case f7 => exact Off.w (by repeat (first | exact List.forall_mem_nil _ | (refine List.forall_mem_cons.mpr ⟨by k_all, ?_⟩))))))
  | @mk va vb x y ha hb =>
  cases ha with
  | zero ha =>
    cases hb with
    | zero hb =>
      refine wpAny_call ?_
      k_dflt (refine' code_sub _ (List.forall_mem_cons.mpr ⟨ha, List.forall_mem_cons.mpr ⟨hb, List.forall_mem_nil _⟩⟩) ?k1 ?k2 ?k3 ?k4 ?k5 ?kA ?kF ?kK ?k6 ?k7 ?k8 ?k9 ?kB ?_ ?c2 ?c3 ?c4 ?c5; (case kA => exact rfl); (case kF => exact rfl); (case kK => assumption); (case k1 => k_asm); (case k2 => k_asm); (case k3 => k_asm); (case k4 => k_asm); (case k5 => k_asm); (case k6 => k_is); (case k7 => k_is); (case k8 => ktr_room); (case k9 => exact BindsTo.of_eq rfl); (case c5 => decide); (case kB => exact locs rfl); (case c2 => exact rfl); (case c3 => exact rfl); (case c4 => exact rfl); k_whole; intro g' L' h' FG' F' N' B' X' T' hG'; (try dsimp only); (try k_fold))
      k_steps
      all_goals (try k_data)
      all_goals (
        (refine' sub_ret hret N (List.forall_mem_cons.mpr ⟨ha, List.forall_mem_cons.mpr ⟨hb, List.forall_mem_nil _⟩⟩) hG' ?f1 ?f2 ?f3 ?f4 ?f5 [] ?f6 ?f7 (by first | exact cmp_out (by decide) | exact cmp_out (cmp_nz b0) | exact cmp_out (cmp_zn a0) | exact cmp_out (cmp_lt (by assumption)) | exact cmp_out (cmp_gt (by assumption) (by assumption)) | exact cmp_out (cmp_eq (by assumption))); (case f1 => k_asm); (case f2 => k_asm); (case f3 => k_asm); (case f4 => k_asm); (case f5 => k_allIn); (case f6 => k_allIn); (case f7 => exact Off.w (by repeat (first | exact List.forall_mem_nil _ | (refine List.forall_mem_cons.mpr ⟨by k_all, ?_⟩))))))
    | pos hb b0 b1 =>
      refine wpAny_call ?_
      k_dflt (refine' code_sub _ (List.forall_mem_cons.mpr ⟨ha, List.forall_mem_cons.mpr ⟨hb, List.forall_mem_nil _⟩⟩) ?k1 ?k2 ?k3 ?k4 ?k5 ?kA ?kF ?kK ?k6 ?k7 ?k8 ?k9 ?kB ?_ ?c2 ?c3 ?c4 ?c5; (case kA => exact rfl); (case kF => exact rfl); (case kK => assumption); (case k1 => k_asm); (case k2 => k_asm); (case k3 => k_asm); (case k4 => k_asm); (case k5 => k_asm); (case k6 => k_is); (case k7 => k_is); (case k8 => ktr_room); (case k9 => exact BindsTo.of_eq rfl); (case c5 => decide); (case kB => exact locs rfl); (case c2 => exact rfl); (case c3 => exact rfl); (case c4 => exact rfl); k_whole; intro g' L' h' FG' F' N' B' X' T' hG'; (try dsimp only); (try k_fold))
      k_steps
      all_goals (try k_data)
      all_goals (
        (refine' sub_ret hret N (List.forall_mem_cons.mpr ⟨ha, List.forall_mem_cons.mpr ⟨hb, List.forall_mem_nil _⟩⟩) hG' ?f1 ?f2 ?f3 ?f4 ?f5 [] ?f6 ?f7 (by first | exact cmp_out (by decide) | exact cmp_out (cmp_nz b0) | exact cmp_out (cmp_zn a0) | exact cmp_out (cmp_lt (by assumption)) | exact cmp_out (cmp_gt (by assumption) (by assumption)) | exact cmp_out (cmp_eq (by assumption))); (case f1 => k_asm); (case f2 => k_asm); (case f3 => k_asm); (case f4 => k_asm); (case f5 => k_allIn); (case f6 => k_allIn); (case f7 => exact Off.w (by repeat (first | exact List.forall_mem_nil _ | (refine List.forall_mem_cons.mpr ⟨by k_all, ?_⟩))))))
  | pos ha a0 a1 =>
  cases hb with
  | zero hb =>
    refine wpAny_call ?_
    k_dflt (refine' code_sub _ (List.forall_mem_cons.mpr ⟨ha, List.forall_mem_cons.mpr ⟨hb, List.forall_mem_nil _⟩⟩) ?k1 ?k2 ?k3 ?k4 ?k5 ?kA ?kF ?kK ?k6 ?k7 ?k8 ?k9 ?kB ?_ ?c2 ?c3 ?c4 ?c5; (case kA => exact rfl); (case kF => exact rfl); (case kK => assumption); (case k1 => k_asm); (case k2 => k_asm); (case k3 => k_asm); (case k4 => k_asm); (case k5 => k_asm); (case k6 => k_is); (case k7 => k_is); (case k8 => ktr_room); (case k9 => exact BindsTo.of_eq rfl); (case c5 => decide); (case kB => exact locs rfl); (case c2 => exact rfl); (case c3 => exact rfl); (case c4 => exact rfl); k_whole; intro g' L' h' FG' F' N' B' X' T' hG'; (try dsimp only); (try k_fold))
    k_steps
    all_goals (try k_data)
    all_goals (
      (refine' sub_ret hret N (List.forall_mem_cons.mpr ⟨ha, List.forall_mem_cons.mpr ⟨hb, List.forall_mem_nil _⟩⟩) hG' ?f1 ?f2 ?f3 ?f4 ?f5 [] ?f6 ?f7 (by first | exact cmp_out (by decide) | exact cmp_out (cmp_nz b0) | exact cmp_out (cmp_zn a0) | exact cmp_out (cmp_lt (by assumption)) | exact cmp_out (cmp_gt (by assumption) (by assumption)) | exact cmp_out (cmp_eq (by assumption))); (case f1 => k_asm); (case f2 => k_asm); (case f3 => k_asm); (case f4 => k_asm); (case f5 => k_allIn); (case f6 => k_allIn); (case f7 => exact Off.w (by repeat (first | exact List.forall_mem_nil _ | (refine List.forall_mem_cons.mpr ⟨by k_all, ?_⟩))))))
  | pos hb b0 b1 =>
  refine wpAny_call ?_
  k_dflt (refine' code_sub _ (List.forall_mem_cons.mpr ⟨ha, List.forall_mem_cons.mpr ⟨hb, List.forall_mem_nil _⟩⟩) ?k1 ?k2 ?k3 ?k4 ?k5 ?kA ?kF ?kK ?k6 ?k7 ?k8 ?k9 ?kB ?_ ?c2 ?c3 ?c4 ?c5; (case kA => exact rfl); (case kF => exact rfl); (case kK => assumption); (case k1 => k_asm); (case k2 => k_asm); (case k3 => k_asm); (case k4 => k_asm); (case k5 => k_asm); (case k6 => k_is); (case k7 => k_is); (case k8 => ktr_room); (case k9 => exact BindsTo.of_eq rfl); (case c5 => decide); (case kB => exact locs rfl); (case c2 => exact rfl); (case c3 => exact rfl); (case c4 => exact rfl); k_whole; intro g' L' h' FG' F' N' B' X' T' hG'; (try dsimp only); (try k_fold))
  k_steps
  all_goals (try k_data)
  all_goals (
    (refine' sub_ret hret N (List.forall_mem_cons.mpr ⟨ha, List.forall_mem_cons.mpr ⟨hb, List.forall_mem_nil _⟩⟩) hG' ?f1 ?f2 ?f3 ?f4 ?f5 [] ?f6 ?f7 (by first | exact cmp_out (by decide) | exact cmp_out (cmp_nz b0) | exact cmp_out (cmp_zn a0) | exact cmp_out (cmp_lt (by assumption)) | exact cmp_out (cmp_gt (by assumption) (by assumption)) | exact cmp_out (cmp_eq (by assumption))); (case f1 => k_asm); (case f2 => k_asm); (case f3 => k_asm); (case f4 => k_asm); (case f5 => k_allIn); (case f6 => k_allIn); (case f7 => exact Off.w (by repeat (first | exact List.forall_mem_nil _ | (refine List.forall_mem_cons.mpr ⟨by k_all, ?_⟩))))))
end
section
inductive AddIn (news : Led) : List Value → Int × Int → Prop
  | mk {va vb : Value} {x y w : Int} {t : Tok} (ha : NatIn news va x) (hb : NatIn news vb y) (hw : 4 ≤ w) (hw' : w ≤ 8) (hxy : x + y < 16) : AddIn news [va, vb, .int w t] (x, y)
set_option maxHeartbeats 8000000 in
theorem add_tells (w : World) (mean : ExcName → Option Value) (mg mb : Str → Option Value) : ∀ d, Tell w mean mg mb 72 AddIn (fun _ => 1) (fun _ l v d => NatIn l v (d.1 + d.2)) d := by
  intro d
  unfold Tell
  k_fill
  intro dp un gd cn cs a ccd cl outer A₀ base h₀ L m news s vs Q E B F X N T hk hR hd hu hret
  try dsimp only at hd hu hret
  cases hR with
  | @mk va vb x y w t ha hb hw hw' hxy =>
  cases ha with
  | zero ha =>
    cases hb with
    | zero hb =>
      refine wpAny_call ?_
      k_dflt (refine' code_sub _ (List.forall_mem_cons.mpr ⟨ha, List.forall_mem_cons.mpr ⟨hb, List.forall_mem_nil _⟩⟩) ?k1 ?k2 ?k3 ?k4 ?k5 ?kA ?kF ?kK ?k6 ?k7 ?k8 ?k9 ?kB ?_ ?c2 ?c3 ?c4 ?c5; (case kA => exact rfl); (case kF => exact rfl); (case kK => assumption); (case k1 => k_asm); (case k2 => k_asm); (case k3 => k_asm); (case k4 => k_asm); (case k5 => k_asm); (case k6 => k_is); (case k7 => k_is); (case k8 => ktr_room); (case k9 => exact BindsTo.of_eq rfl); (case c5 => decide); (case kB => exact locs rfl); (case c2 => exact rfl); (case c3 => exact rfl); (case c4 => exact rfl); k_whole; intro g' L' h' FG' F' N' B' X' T' hG'; (try dsimp only); (try k_fold))
      k_steps
      all_goals (try k_data)
      all_goals ((refine' sub_ret hret N (List.forall_mem_cons.mpr ⟨ha, List.forall_mem_cons.mpr ⟨hb, List.forall_mem_nil _⟩⟩) hG' ?f1 ?f2 ?f3 ?f4 ?f5 [(_, _)] ?f6 ?f7 (NatIn.zero' (.head _) ?e1); (case f1 => k_asm); (case f2 => k_asm); (case f3 => k_asm); (case f4 => k_asm); (case f5 => k_allIn); (case f6 => k_allIn); (case f7 => exact Off.w (by repeat (first | exact List.forall_mem_nil _ | (refine List.forall_mem_cons.mpr ⟨by k_all, ?_⟩)))); (case e1 => rfl)))
    | pos hb b0 b1 =>
      refine wpAny_call ?_
      k_dflt (refine' code_sub _ (List.forall_mem_cons.mpr ⟨ha, List.forall_mem_cons.mpr ⟨hb, List.forall_mem_nil _⟩⟩) ?k1 ?k2 ?k3 ?k4 ?k5 ?kA ?kF ?kK ?k6 ?k7 ?k8 ?k9 ?kB ?_ ?c2 ?c3 ?c4 ?c5; (case kA => exact rfl); (case kF => exact rfl); (case kK => assumption); (case k1 => k_asm); (case k2 => k_asm); (case k3 => k_asm); (case k4 => k_asm); (case k5 => k_asm); (case k6 => k_is); (case k7 => k_is); (case k8 => ktr_room); (case k9 => exact BindsTo.of_eq rfl); (case c5 => decide); (case kB => exact locs rfl); (case c2 => exact rfl); (case c3 => exact rfl); (case c4 => exact rfl); k_whole; intro g' L' h' FG' F' N' B' X' T' hG'; (try dsimp only); (try k_fold))
      k_steps
      all_goals (try k_data)
      all_goals first | exact (no_carry (p := 0 + y) (by omega) (by omega) hw hw' (by assumption)).elim | (refine' sub_ret hret N (List.forall_mem_cons.mpr ⟨ha, List.forall_mem_cons.mpr ⟨hb, List.forall_mem_nil _⟩⟩) hG' ?f1 ?f2 ?f3 ?f4 ?f5 [(_, _)] ?f6 ?f7 (NatIn.pos' (.head _) ?e1 ?e2 ?e3 ?e4); (case f1 => k_asm); (case f2 => k_asm); (case f3 => k_asm); (case f4 => k_asm); (case f5 => k_allIn); (case f6 => k_allIn); (case f7 => exact Off.w (by repeat (first | exact List.forall_mem_nil _ | (refine List.forall_mem_cons.mpr ⟨by k_all, ?_⟩)))); (case e1 => rfl); (case e2 => exact (and_mask (p := 0 + y) (by omega) (by omega) hw hw').trans (by show 0 + y = 0 + y; omega)); (case e3 => show 0 < 0 + y; omega); (case e4 => show 0 + y < 16; omega))
  | pos ha a0 a1 =>
  cases hb with
  | zero hb =>
    refine wpAny_call ?_
    k_dflt (refine' code_sub _ (List.forall_mem_cons.mpr ⟨ha, List.forall_mem_cons.mpr ⟨hb, List.forall_mem_nil _⟩⟩) ?k1 ?k2 ?k3 ?k4 ?k5 ?kA ?kF ?kK ?k6 ?k7 ?k8 ?k9 ?kB ?_ ?c2 ?c3 ?c4 ?c5; (case kA => exact rfl); (case kF => exact rfl); (case kK => assumption); (case k1 => k_asm); (case k2 => k_asm); (case k3 => k_asm); (case k4 => k_asm); (case k5 => k_asm); (case k6 => k_is); (case k7 => k_is); (case k8 => ktr_room); (case k9 => exact BindsTo.of_eq rfl); (case c5 => decide); (case kB => exact locs rfl); (case c2 => exact rfl); (case c3 => exact rfl); (case c4 => exact rfl); k_whole; intro g' L' h' FG' F' N' B' X' T' hG'; (try dsimp only); (try k_fold))
    k_steps
    all_goals (try k_data)
    all_goals first | exact (no_carry (p := 0 + x) (by omega) (by omega) hw hw' (by assumption)).elim | (refine' sub_ret hret N (List.forall_mem_cons.mpr ⟨ha, List.forall_mem_cons.mpr ⟨hb, List.forall_mem_nil _⟩⟩) hG' ?f1 ?f2 ?f3 ?f4 ?f5 [(_, _)] ?f6 ?f7 (NatIn.pos' (.head _) ?e1 ?e2 ?e3 ?e4); (case f1 => k_asm); (case f2 => k_asm); (case f3 => k_asm); (case f4 => k_asm); (case f5 => k_allIn); (case f6 => k_allIn); (case f7 => exact Off.w (by repeat (first | exact List.forall_mem_nil _ | (refine List.forall_mem_cons.mpr ⟨by k_all, ?_⟩)))); (case e1 => rfl); (case e2 => exact (and_mask (p := 0 + x) (by omega) (by omega) hw hw').trans (by show 0 + x = x + 0; omega)); (case e3 => show 0 < x + 0; omega); (case e4 => show x + 0 < 16; omega))
  | pos hb b0 b1 =>
  refine wpAny_call ?_
  k_dflt (refine' code_sub _ (List.forall_mem_cons.mpr ⟨ha, List.forall_mem_cons.mpr ⟨hb, List.forall_mem_nil _⟩⟩) ?k1 ?k2 ?k3 ?k4 ?k5 ?kA ?kF ?kK ?k6 ?k7 ?k8 ?k9 ?kB ?_ ?c2 ?c3 ?c4 ?c5; (case kA => exact rfl); (case kF => exact rfl); (case kK => assumption); (case k1 => k_asm); (case k2 => k_asm); (case k3 => k_asm); (case k4 => k_asm); (case k5 => k_asm); (case k6 => k_is); (case k7 => k_is); (case k8 => ktr_room); (case k9 => exact BindsTo.of_eq rfl); (case c5 => decide); (case kB => exact locs rfl); (case c2 => exact rfl); (case c3 => exact rfl); (case c4 => exact rfl); k_whole; intro g' L' h' FG' F' N' B' X' T' hG'; (try dsimp only); (try k_fold))
  k_steps
  all_goals (try k_data)
  all_goals first | exact (no_carry (p := 0 + (x + y)) (by omega) (by omega) hw hw' (by assumption)).elim | (refine' sub_ret hret N (List.forall_mem_cons.mpr ⟨ha, List.forall_mem_cons.mpr ⟨hb, List.forall_mem_nil _⟩⟩) hG' ?f1 ?f2 ?f3 ?f4 ?f5 [(_, _)] ?f6 ?f7 (NatIn.pos' (.head _) ?e1 ?e2 ?e3 ?e4); (case f1 => k_asm); (case f2 => k_asm); (case f3 => k_asm); (case f4 => k_asm); (case f5 => k_allIn); (case f6 => k_allIn); (case f7 => exact Off.w (by repeat (first | exact List.forall_mem_nil _ | (refine List.forall_mem_cons.mpr ⟨by k_all, ?_⟩)))); (case e1 => rfl); (case e2 => exact (and_mask (p := 0 + (x + y)) (by omega) (by omega) hw hw').trans (by show 0 + (x + y) = x + y; omega)); (case e3 => show 0 < x + y; omega); (case e4 => show x + y < 16; omega))
end
section
inductive SubIn (news : Led) : List Value → Int × Int → Prop
  | mk {va vb : Value} {x y w : Int} {t : Tok} (ha : NatIn news va x) (hb : NatIn news vb y) (hw : 4 ≤ w) (hw' : w ≤ 8) (hxy : y ≤ x) : SubIn news [va, vb, .int w t] (x, y)
set_option maxHeartbeats 8000000 in
theorem sub_tells (w : World) (mean : ExcName → Option Value) (mg mb : Str → Option Value) : ∀ d, Tell w mean mg mb 79 SubIn (fun _ => 2) (fun _ l v d => NatIn l v (d.1 - d.2)) d := by
  intro d
  unfold Tell
  k_fill
  intro dp un gd cn cs a ccd cl outer A₀ base h₀ L m news s vs Q E B F X N T hk hR hd hu hret
  try dsimp only at hd hu hret
  cases hR with
  | @mk va vb x y w t ha hb hw hw' hxy =>
  have hc := cmp_ge hxy
  cases ha with
  | zero ha =>
    cases hb with
    | zero hb =>
      refine wpAny_call ?_
      k_dflt (refine' code_sub _ (List.forall_mem_cons.mpr ⟨ha, List.forall_mem_cons.mpr ⟨hb, List.forall_mem_nil _⟩⟩) ?k1 ?k2 ?k3 ?k4 ?k5 ?kA ?kF ?kK ?k6 ?k7 ?k8 ?k9 ?kB ?_ ?c2 ?c3 ?c4 ?c5; (case kA => exact rfl); (case kF => exact rfl); (case kK => assumption); (case k1 => k_asm); (case k2 => k_asm); (case k3 => k_asm); (case k4 => k_asm); (case k5 => k_asm); (case k6 => k_is); (case k7 => k_is); (case k8 => ktr_room); (case k9 => exact BindsTo.of_eq rfl); (case c5 => decide); (case kB => exact locs rfl); (case c2 => exact rfl); (case c3 => exact rfl); (case c4 => exact rfl); k_whole; intro g' L' h' FG' F' N' B' X' T' hG'; (try dsimp only); (try k_fold))
      k_steps
      all_goals (try k_data)
      k_dflt (refine' Tell.use (0, 0) (cmp_tells _ _ _ _ _) ?k1 ?k2 ?k3 ?k4 ?k5 ?k6 ?k7 ?k8 ?k9 ?_; (case k1 => k_asm); (case k2 => k_asm); (case k3 => k_asm); (case k4 => k_asm); (case k5 => k_asm); (case k6 => exact rfl); (case k7 => exact PairIn.mk (.zero (by k_mem)) (.zero (by k_mem))); (case k8 => ktr_room); (case k9 => ktr_units))
      intro r9 tl9 h9 tk9 F9 N9 hl9 ho9
      obtain ⟨t9, rfl⟩ := ho9
      replace N9 := newsL N9
      clear hl9
      (try simp only [List.cons_append, List.nil_append, List.append_assoc] at N9)
      (try dsimp only); (try k_fold)
      k_steps
      all_goals (try k_data)
      k_dflt (refine' Tell.use 0 (normal_tells _ _ _ _ _) ?k1 ?k2 ?k3 ?k4 ?k5 ?k6 ?k7 ?k8 ?k9 ?_; (case k1 => k_asm); (case k2 => k_asm); (case k3 => k_asm); (case k4 => k_asm); (case k5 => k_asm); (case k6 => exact rfl); (case k7 => exact RawIn.nil (by k_mem) (by rfl)); (case k8 => ktr_room); (case k9 => ktr_units))
      intro r9 tl9 h9 tk9 F9 N9 hl9 ho9
      (try simp only [List.cons_append, List.nil_append, List.append_assoc] at N9)
      (try dsimp only); (try k_fold)
      k_steps
      all_goals (try k_data)
      refine' sub_ret hret N (List.forall_mem_cons.mpr ⟨ha, List.forall_mem_cons.mpr ⟨hb, List.forall_mem_nil _⟩⟩) hG' ?f1 ?f2 ?f3 ?f4 ?f5 tl9 ?f6 ?f7 ?f8
      (case f1 => k_asm); (case f2 => k_asm); (case f3 => k_asm); (case f4 => k_asm); (case f5 => k_allIn)
      (case f6 => intro q hq; simp only [List.mem_append, List.mem_cons, hq, or_true])
      (case f7 => exact Off.sub hl9 (by k_allIn))
      (case f8 => first | exact ho9 | (simp only [Int.zero_mul, Int.mul_zero]; exact ho9))
    | pos hb b0 b1 => exact absurd hxy (by omega)
  | pos ha a0 a1 =>
  cases hb with
  | zero hb =>
    refine wpAny_call ?_
    k_dflt (refine' code_sub _ (List.forall_mem_cons.mpr ⟨ha, List.forall_mem_cons.mpr ⟨hb, List.forall_mem_nil _⟩⟩) ?k1 ?k2 ?k3 ?k4 ?k5 ?kA ?kF ?kK ?k6 ?k7 ?k8 ?k9 ?kB ?_ ?c2 ?c3 ?c4 ?c5; (case kA => exact rfl); (case kF => exact rfl); (case kK => assumption); (case k1 => k_asm); (case k2 => k_asm); (case k3 => k_asm); (case k4 => k_asm); (case k5 => k_asm); (case k6 => k_is); (case k7 => k_is); (case k8 => ktr_room); (case k9 => exact BindsTo.of_eq rfl); (case c5 => decide); (case kB => exact locs rfl); (case c2 => exact rfl); (case c3 => exact rfl); (case c4 => exact rfl); k_whole; intro g' L' h' FG' F' N' B' X' T' hG'; (try dsimp only); (try k_fold))
    k_steps
    all_goals (try k_data)
    k_dflt (refine' Tell.use (x, 0) (cmp_tells _ _ _ _ _) ?k1 ?k2 ?k3 ?k4 ?k5 ?k6 ?k7 ?k8 ?k9 ?_; (case k1 => k_asm); (case k2 => k_asm); (case k3 => k_asm); (case k4 => k_asm); (case k5 => k_asm); (case k6 => exact rfl); (case k7 => exact PairIn.mk (.pos (by k_mem) a0 a1) (.zero (by k_mem))); (case k8 => ktr_room); (case k9 => ktr_units))
    intro r9 tl9 h9 tk9 F9 N9 hl9 ho9
    obtain ⟨t9, rfl⟩ := ho9
    replace N9 := newsL N9
    clear hl9
    (try simp only [List.cons_append, List.nil_append, List.append_assoc] at N9)
    (try dsimp only); (try k_fold)
    k_steps
    all_goals (try k_data)
    all_goals first | exact absurd (by assumption : x - 0 - 0 < 0) (by omega) | skip
    k_dflt (refine' Tell.use (x - 0) (normal_tells _ _ _ _ _) ?k1 ?k2 ?k3 ?k4 ?k5 ?k6 ?k7 ?k8 ?k9 ?_; (case k1 => k_asm); (case k2 => k_asm); (case k3 => k_asm); (case k4 => k_asm); (case k5 => k_asm); (case k6 => exact rfl); (case k7 => exact RawIn.le (by k_mem) (by rfl) (by show x - 0 - 0 = x - 0; omega) (by omega) (by omega)); (case k8 => ktr_room); (case k9 => ktr_units))
    intro r9 tl9 h9 tk9 F9 N9 hl9 ho9
    (try simp only [List.cons_append, List.nil_append, List.append_assoc] at N9)
    (try dsimp only); (try k_fold)
    k_steps
    all_goals (try k_data)
    refine' sub_ret hret N (List.forall_mem_cons.mpr ⟨ha, List.forall_mem_cons.mpr ⟨hb, List.forall_mem_nil _⟩⟩) hG' ?f1 ?f2 ?f3 ?f4 ?f5 tl9 ?f6 ?f7 ?f8
    (case f1 => k_asm); (case f2 => k_asm); (case f3 => k_asm); (case f4 => k_asm); (case f5 => k_allIn)
    (case f6 => intro q hq; simp only [List.mem_append, List.mem_cons, hq, or_true])
    (case f7 => exact Off.sub hl9 (by k_allIn))
    (case f8 => first | exact ho9 | (simp only [Int.zero_mul, Int.mul_zero]; exact ho9))
  | pos hb b0 b1 =>
  refine wpAny_call ?_
  k_dflt (refine' code_sub _ (List.forall_mem_cons.mpr ⟨ha, List.forall_mem_cons.mpr ⟨hb, List.forall_mem_nil _⟩⟩) ?k1 ?k2 ?k3 ?k4 ?k5 ?kA ?kF ?kK ?k6 ?k7 ?k8 ?k9 ?kB ?_ ?c2 ?c3 ?c4 ?c5; (case kA => exact rfl); (case kF => exact rfl); (case kK => assumption); (case k1 => k_asm); (case k2 => k_asm); (case k3 => k_asm); (case k4 => k_asm); (case k5 => k_asm); (case k6 => k_is); (case k7 => k_is); (case k8 => ktr_room); (case k9 => exact BindsTo.of_eq rfl); (case c5 => decide); (case kB => exact locs rfl); (case c2 => exact rfl); (case c3 => exact rfl); (case c4 => exact rfl); k_whole; intro g' L' h' FG' F' N' B' X' T' hG'; (try dsimp only); (try k_fold))
  k_steps
  all_goals (try k_data)
  k_dflt (refine' Tell.use (x, y) (cmp_tells _ _ _ _ _) ?k1 ?k2 ?k3 ?k4 ?k5 ?k6 ?k7 ?k8 ?k9 ?_; (case k1 => k_asm); (case k2 => k_asm); (case k3 => k_asm); (case k4 => k_asm); (case k5 => k_asm); (case k6 => exact rfl); (case k7 => exact PairIn.mk (.pos (by k_mem) a0 a1) (.pos (by k_mem) b0 b1)); (case k8 => ktr_room); (case k9 => ktr_units))
  intro r9 tl9 h9 tk9 F9 N9 hl9 ho9
  obtain ⟨t9, rfl⟩ := ho9
  replace N9 := newsL N9
  clear hl9
  (try simp only [List.cons_append, List.nil_append, List.append_assoc] at N9)
  (try dsimp only); (try k_fold)
  k_steps
  all_goals (try k_data)
  all_goals first | exact absurd (by assumption : x - 0 - y < 0) (by omega) | skip
  k_dflt (refine' Tell.use (x - y) (normal_tells _ _ _ _ _) ?k1 ?k2 ?k3 ?k4 ?k5 ?k6 ?k7 ?k8 ?k9 ?_; (case k1 => k_asm); (case k2 => k_asm); (case k3 => k_asm); (case k4 => k_asm); (case k5 => k_asm); (case k6 => exact rfl); (case k7 => exact RawIn.le (by k_mem) (by rfl) (by show x - 0 - y = x - y; omega) (by omega) (by omega)); (case k8 => ktr_room); (case k9 => ktr_units))
  intro r9 tl9 h9 tk9 F9 N9 hl9 ho9
  (try simp only [List.cons_append, List.nil_append, List.append_assoc] at N9)
  (try dsimp only); (try k_fold)
  k_steps
  all_goals (try k_data)
  refine' sub_ret hret N (List.forall_mem_cons.mpr ⟨ha, List.forall_mem_cons.mpr ⟨hb, List.forall_mem_nil _⟩⟩) hG' ?f1 ?f2 ?f3 ?f4 ?f5 tl9 ?f6 ?f7 ?f8
  (case f1 => k_asm); (case f2 => k_asm); (case f3 => k_asm); (case f4 => k_asm); (case f5 => k_allIn)
  (case f6 => intro q hq; simp only [List.mem_append, List.mem_cons, hq, or_true])
  (case f7 => exact Off.sub hl9 (by k_allIn))
  (case f8 => first | exact ho9 | (simp only [Int.zero_mul, Int.mul_zero]; exact ho9))
end
section
inductive LimbIn (news : Led) : List Value → Int × Int → Prop
  | mk {va : Value} {x y w : Int} {t u : Tok} (ha : NatIn news va x) (hy : 0 < y) (hy' : y < 16) (hw : 4 ≤ w) (hw' : w ≤ 8) : LimbIn news [va, .int y t, .int w u] (x, y)
abbrev tupOf (its : Array Value) (n : Nat) : Obj := { cls := .type "tuple", data := .seq its n }
inductive QuoIn (tl : Led) : Value → Int × Int → Prop
  | mk {a : Addr} {n : Nat} {vq : Value} {x y z : Int} {t : Tok} (h : (a, tupOf #[vq, .int z t] n) ∈ tl) (hz : z = x % y) (hq : NatIn tl vq (x / y)) : QuoIn tl (.ref a) (x, y)
set_option maxHeartbeats 8000000 in
theorem divlimb_tells (w : World) (mean : ExcName → Option Value) (mg mb : Str → Option Value) : ∀ d, Tell w mean mg mb 86 LimbIn (fun _ => 2) (fun _ => QuoIn) d := by
  intro d
  unfold Tell
  k_fill
  intro dp un gd cn cs a ccd cl outer A₀ base h₀ L m news s vs Q E B F X N T hk hR hd hu hret
  try dsimp only at hd hu hret
  cases hR with
  | @mk va x y w t u ha hy hy' hw hw' =>
  cases ha with
  | zero ha =>
    refine wpAny_call ?_
    k_dflt (refine' code_sub _ (List.forall_mem_cons.mpr ⟨ha, List.forall_mem_nil _⟩) ?k1 ?k2 ?k3 ?k4 ?k5 ?kA ?kF ?kK ?k6 ?k7 ?k8 ?k9 ?kB ?_ ?c2 ?c3 ?c4 ?c5; (case kA => exact rfl); (case kF => exact rfl); (case kK => assumption); (case k1 => k_asm); (case k2 => k_asm); (case k3 => k_asm); (case k4 => k_asm); (case k5 => k_asm); (case k6 => k_is); (case k7 => k_is); (case k8 => ktr_room); (case k9 => exact BindsTo.of_eq rfl); (case c5 => decide); (case kB => exact locs rfl); (case c2 => exact rfl); (case c3 => exact rfl); (case c4 => exact rfl); k_whole; intro g' L' h' FG' F' N' B' X' T' hG'; (try dsimp only); (try k_fold))
    k_steps
    all_goals (try k_data)
    all_goals first | (exfalso; omega) | skip
    k_dflt (refine' Tell.use 0 (normal_tells _ _ _ _ _) ?k1 ?k2 ?k3 ?k4 ?k5 ?k6 ?k7 ?k8 ?k9 ?_; (case k1 => k_asm); (case k2 => k_asm); (case k3 => k_asm); (case k4 => k_asm); (case k5 => k_asm); (case k6 => exact rfl); (case k7 => exact RawIn.nil (by k_mem) (by rfl)); (case k8 => ktr_room); (case k9 => ktr_units))
    intro r9 tl9 h9 tk9 F9 N9 hl9 ho9
    (try simp only [List.cons_append, List.nil_append, List.append_assoc] at N9)
    (try dsimp only); (try k_fold)
    k_steps
    all_goals (try k_data)
    (refine' sub_ret hret N (List.forall_mem_cons.mpr ⟨ha, List.forall_mem_nil _⟩) hG' ?f1 ?f2 ?f3 ?f4 ?f5 ((_, _) :: tl9) ?f6 ?f7 (QuoIn.mk (.head _) ?e1 (NatIn.mono (fun _ h => .tail _ h) ?e2)); (case f1 => k_asm); (case f2 => k_asm); (case f3 => k_asm); (case f4 => k_asm); (case f5 => k_allIn); (case f6 => refine List.forall_mem_cons.mpr ⟨by k_mem, fun q hq => by simp only [List.mem_append, List.mem_cons, hq, or_true]⟩); (case f7 => exact Off.w (List.forall_mem_cons.mpr ⟨by k_all, fun p hp q hq => Ne.symm (hl9 q (by revert q; k_allIn) p hp)⟩)); (case e1 => exact (Int.zero_emod _).symm); (case e2 => rw [Int.zero_ediv]; exact ho9))
  | pos ha a0 a1 =>
    have hd0 := Int.ediv_nonneg (a := x) (b := y) (Int.le_of_lt a0) (Int.le_of_lt hy)
    have hd1 : x / y < 16 := Int.lt_of_le_of_lt (Int.ediv_le_self _ (Int.le_of_lt a0)) a1
    have e0 := or_nought (k := w.toNat) (Int.le_of_lt a0) a1
    refine wpAny_call ?_
    k_dflt (refine' code_sub _ (List.forall_mem_cons.mpr ⟨ha, List.forall_mem_nil _⟩) ?k1 ?k2 ?k3 ?k4 ?k5 ?kA ?kF ?kK ?k6 ?k7 ?k8 ?k9 ?kB ?_ ?c2 ?c3 ?c4 ?c5; (case kA => exact rfl); (case kF => exact rfl); (case kK => assumption); (case k1 => k_asm); (case k2 => k_asm); (case k3 => k_asm); (case k4 => k_asm); (case k5 => k_asm); (case k6 => k_is); (case k7 => k_is); (case k8 => ktr_room); (case k9 => exact BindsTo.of_eq rfl); (case c5 => decide); (case kB => exact locs rfl); (case c2 => exact rfl); (case c3 => exact rfl); (case c4 => exact rfl); k_whole; intro g' L' h' FG' F' N' B' X' T' hG'; (try dsimp only); (try k_fold))
    k_steps
    all_goals (try k_data)
    all_goals first | (exfalso; omega) | skip
    k_dflt (refine' Tell.use (x / y) (normal_tells _ _ _ _ _) ?k1 ?k2 ?k3 ?k4 ?k5 ?k6 ?k7 ?k8 ?k9 ?_; (case k1 => k_asm); (case k2 => k_asm); (case k3 => k_asm); (case k4 => k_asm); (case k5 => k_asm); (case k6 => exact rfl); (case k7 => exact RawIn.le (by k_mem) (by rfl) (by show (Builtin.bitOr (0 * 2 ^ w.toNat) x).fdiv y = x / y; rw [e0, Int.fdiv_eq_ediv_of_nonneg _ (Int.le_of_lt hy)]) hd0 hd1); (case k8 => ktr_room); (case k9 => ktr_units))
    intro r9 tl9 h9 tk9 F9 N9 hl9 ho9
    (try simp only [List.cons_append, List.nil_append, List.append_assoc] at N9)
    (try dsimp only); (try k_fold)
    k_steps
    all_goals (try k_data)
    (refine' sub_ret hret N (List.forall_mem_cons.mpr ⟨ha, List.forall_mem_nil _⟩) hG' ?f1 ?f2 ?f3 ?f4 ?f5 ((_, _) :: tl9) ?f6 ?f7 (QuoIn.mk (.head _) ?e1 (NatIn.mono (fun _ h => .tail _ h) ho9)); (case f1 => k_asm); (case f2 => k_asm); (case f3 => k_asm); (case f4 => k_asm); (case f5 => k_allIn); (case f6 => refine List.forall_mem_cons.mpr ⟨by k_mem, fun q hq => by simp only [List.mem_append, List.mem_cons, hq, or_true]⟩); (case f7 => exact Off.w (List.forall_mem_cons.mpr ⟨by k_all, fun p hp q hq => Ne.symm (hl9 q (by revert q; k_allIn) p hp)⟩)); (case e1 => show (Builtin.bitOr (0 * 2 ^ w.toNat) x).fmod y = x % y; rw [e0, Int.fmod_eq_emod_of_nonneg _ (Int.le_of_lt hy)]))
end
section
inductive DivIn (news : Led) : List Value → Int × Int → Prop
  | mk {va vb : Value} {x y w : Int} {t : Tok} (ha : NatIn news va x) (hb : NatIn news vb y) (hy : 0 < y) (hw : 4 ≤ w) (hw' : w ≤ 8) : DivIn news [va, vb, .int w t] (x, y)
  | unit {va : Value} {x w : Int} {t : Tok} (ha : NatIn news va x) (hw : 4 ≤ w) (hw' : w ≤ 8) : DivIn news [va, .ref 159, .int w t] (x, 1)
inductive TwoIn (tl : Led) : Value → Int × Int → Prop
  | mk {a : Addr} {n : Nat} {vq vr : Value} {p q : Int} (h : (a, tupOf #[vq, vr] n) ∈ tl) (hq : NatIn tl vq p) (hr : NatIn tl vr q) : TwoIn tl (.ref a) (p, q)
set_option maxHeartbeats 8000000 in
theorem divsmall_tells (w : World) (mean : ExcName → Option Value) (mg mb : Str → Option Value) : ∀ d, Tell w mean mg mb 235 DivIn (fun _ => 3) (fun _ l v d => TwoIn l v (d.1 / d.2, d.1 % d.2)) d := by
  intro d
  unfold Tell
  k_fill
  intro dp un gd cn cs a ccd cl outer A₀ base h₀ L m news s vs Q E B F X N T hk hR hd hu hret
  try dsimp only at hd hu hret
  cases hR with
  | @unit va x w t ha hw hw' =>
    have hm0 := Int.emod_nonneg x (b := 1) (by decide)
    have hm1 := Int.emod_lt_of_pos x (b := 1) (by decide)
    cases ha with
    | zero ha =>
      refine wpAny_call ?_
      k_dflt (refine' code_sub _ (List.forall_mem_cons.mpr ⟨ha, List.forall_mem_nil _⟩) ?k1 ?k2 ?k3 ?k4 ?k5 ?kA ?kF ?kK ?k6 ?k7 ?k8 ?k9 ?kB ?_ ?c2 ?c3 ?c4 ?c5; (case kA => exact rfl); (case kF => exact rfl); (case kK => assumption); (case k1 => k_asm); (case k2 => k_asm); (case k3 => k_asm); (case k4 => k_asm); (case k5 => k_asm); (case k6 => k_is); (case k7 => k_is); (case k8 => ktr_room); (case k9 => exact BindsTo.of_eq rfl); (case c5 => decide); (case kB => exact locs rfl); (case c2 => exact rfl); (case c3 => exact rfl); (case c4 => exact rfl); k_whole; intro g' L' h' FG' F' N' B' X' T' hG'; (try dsimp only); (try k_fold))
      k_steps
      all_goals (try k_data)
      k_dflt (refine' Tell.use (0, 1) (divlimb_tells _ _ _ _ _) ?k1 ?k2 ?k3 ?k4 ?k5 ?k6 ?k7 ?k8 ?k9 ?_; (case k1 => k_asm); (case k2 => k_asm); (case k3 => k_asm); (case k4 => k_asm); (case k5 => k_asm); (case k6 => exact rfl); (case k7 => exact LimbIn.mk (.zero (by k_mem)) (by decide) (by decide) hw hw'); (case k8 => ktr_room); (case k9 => ktr_units))
      intro r9 tl9 h9 tk9 F9 N9 hl9 ho9
      cases ho9
      rename_i h9t e9 q9
      (try simp only [List.cons_append, List.nil_append, List.append_assoc] at N9)
      (try dsimp only); (try k_fold)
      k_steps
      all_goals (try k_data)
      all_goals first
        | (refine' sub_ret hret N (List.forall_mem_cons.mpr ⟨ha, List.forall_mem_nil _⟩) hG' ?f1 ?f2 ?f3 ?f4 ?f5 ((_, _) :: (_, _) :: tl9) ?f6 ?f7 (TwoIn.mk (.head _) (NatIn.mono (fun _ h => .tail _ (.tail _ h)) q9) (NatIn.pos' (.tail _ (.head _)) ?e1 ?e2 ?e3 ?e4)); (case f1 => k_asm); (case f2 => k_asm); (case f3 => k_asm); (case f4 => k_asm); (case f5 => k_allIn); (case f6 => refine List.forall_mem_cons.mpr ⟨by k_mem, List.forall_mem_cons.mpr ⟨by k_mem, fun q hq => by simp only [List.mem_append, List.mem_cons, hq, or_true]⟩⟩); (case f7 => exact Off.w (List.forall_mem_cons.mpr ⟨by k_all, List.forall_mem_cons.mpr ⟨by k_all, fun p hp q hq => Ne.symm (hl9 q (by revert q; k_allIn) p hp)⟩⟩)); (case e1 => rfl); (case e2 => exact e9); (case e3 => show 0 < 0 % 1; omega); (case e4 => show 0 % 1 < 16; omega))
        | (refine' sub_ret hret N (List.forall_mem_cons.mpr ⟨ha, List.forall_mem_nil _⟩) hG' ?f1 ?f2 ?f3 ?f4 ?f5 ((_, _) :: (_, _) :: tl9) ?f6 ?f7 (TwoIn.mk (.head _) (NatIn.mono (fun _ h => .tail _ (.tail _ h)) q9) (NatIn.zero'' (.tail _ (.head _)) ?e1 ?e2)); (case f1 => k_asm); (case f2 => k_asm); (case f3 => k_asm); (case f4 => k_asm); (case f5 => k_allIn); (case f6 => refine List.forall_mem_cons.mpr ⟨by k_mem, List.forall_mem_cons.mpr ⟨by k_mem, fun q hq => by simp only [List.mem_append, List.mem_cons, hq, or_true]⟩⟩); (case f7 => exact Off.w (List.forall_mem_cons.mpr ⟨by k_all, List.forall_mem_cons.mpr ⟨by k_all, fun p hp q hq => Ne.symm (hl9 q (by revert q; k_allIn) p hp)⟩⟩)); (case e1 => rfl); (case e2 => show 0 % 1 = 0; omega))
    | pos ha a0 a1 =>
      refine wpAny_call ?_
      k_dflt (refine' code_sub _ (List.forall_mem_cons.mpr ⟨ha, List.forall_mem_nil _⟩) ?k1 ?k2 ?k3 ?k4 ?k5 ?kA ?kF ?kK ?k6 ?k7 ?k8 ?k9 ?kB ?_ ?c2 ?c3 ?c4 ?c5; (case kA => exact rfl); (case kF => exact rfl); (case kK => assumption); (case k1 => k_asm); (case k2 => k_asm); (case k3 => k_asm); (case k4 => k_asm); (case k5 => k_asm); (case k6 => k_is); (case k7 => k_is); (case k8 => ktr_room); (case k9 => exact BindsTo.of_eq rfl); (case c5 => decide); (case kB => exact locs rfl); (case c2 => exact rfl); (case c3 => exact rfl); (case c4 => exact rfl); k_whole; intro g' L' h' FG' F' N' B' X' T' hG'; (try dsimp only); (try k_fold))
      k_steps
      all_goals (try k_data)
      k_dflt (refine' Tell.use (x, 1) (divlimb_tells _ _ _ _ _) ?k1 ?k2 ?k3 ?k4 ?k5 ?k6 ?k7 ?k8 ?k9 ?_; (case k1 => k_asm); (case k2 => k_asm); (case k3 => k_asm); (case k4 => k_asm); (case k5 => k_asm); (case k6 => exact rfl); (case k7 => exact LimbIn.mk (.pos (by k_mem) a0 a1) (by decide) (by decide) hw hw'); (case k8 => ktr_room); (case k9 => ktr_units))
      intro r9 tl9 h9 tk9 F9 N9 hl9 ho9
      cases ho9
      rename_i h9t e9 q9
      (try simp only [List.cons_append, List.nil_append, List.append_assoc] at N9)
      (try dsimp only); (try k_fold)
      k_steps
      all_goals (try k_data)
      all_goals first
        | (refine' sub_ret hret N (List.forall_mem_cons.mpr ⟨ha, List.forall_mem_nil _⟩) hG' ?f1 ?f2 ?f3 ?f4 ?f5 ((_, _) :: (_, _) :: tl9) ?f6 ?f7 (TwoIn.mk (.head _) (NatIn.mono (fun _ h => .tail _ (.tail _ h)) q9) (NatIn.pos' (.tail _ (.head _)) ?e1 ?e2 ?e3 ?e4)); (case f1 => k_asm); (case f2 => k_asm); (case f3 => k_asm); (case f4 => k_asm); (case f5 => k_allIn); (case f6 => refine List.forall_mem_cons.mpr ⟨by k_mem, List.forall_mem_cons.mpr ⟨by k_mem, fun q hq => by simp only [List.mem_append, List.mem_cons, hq, or_true]⟩⟩); (case f7 => exact Off.w (List.forall_mem_cons.mpr ⟨by k_all, List.forall_mem_cons.mpr ⟨by k_all, fun p hp q hq => Ne.symm (hl9 q (by revert q; k_allIn) p hp)⟩⟩)); (case e1 => rfl); (case e2 => exact e9); (case e3 => show 0 < x % 1; omega); (case e4 => show x % 1 < 16; omega))
        | (refine' sub_ret hret N (List.forall_mem_cons.mpr ⟨ha, List.forall_mem_nil _⟩) hG' ?f1 ?f2 ?f3 ?f4 ?f5 ((_, _) :: (_, _) :: tl9) ?f6 ?f7 (TwoIn.mk (.head _) (NatIn.mono (fun _ h => .tail _ (.tail _ h)) q9) (NatIn.zero'' (.tail _ (.head _)) ?e1 ?e2)); (case f1 => k_asm); (case f2 => k_asm); (case f3 => k_asm); (case f4 => k_asm); (case f5 => k_allIn); (case f6 => refine List.forall_mem_cons.mpr ⟨by k_mem, List.forall_mem_cons.mpr ⟨by k_mem, fun q hq => by simp only [List.mem_append, List.mem_cons, hq, or_true]⟩⟩); (case f7 => exact Off.w (List.forall_mem_cons.mpr ⟨by k_all, List.forall_mem_cons.mpr ⟨by k_all, fun p hp q hq => Ne.symm (hl9 q (by revert q; k_allIn) p hp)⟩⟩)); (case e1 => rfl); (case e2 => show x % 1 = 0; omega))
  | @mk va vb x y w t ha hb hy hw hw' =>
  cases hb with
  | zero hb => exact absurd hy (by omega)
  | pos hb b0 b1 =>
  have hm0 := Int.emod_nonneg x (b := y) (by omega)
  have hm1 := Int.emod_lt_of_pos x hy
  cases ha with
  | zero ha =>
    refine wpAny_call ?_
    k_dflt (refine' code_sub _ (List.forall_mem_cons.mpr ⟨ha, List.forall_mem_cons.mpr ⟨hb, List.forall_mem_nil _⟩⟩) ?k1 ?k2 ?k3 ?k4 ?k5 ?kA ?kF ?kK ?k6 ?k7 ?k8 ?k9 ?kB ?_ ?c2 ?c3 ?c4 ?c5; (case kA => exact rfl); (case kF => exact rfl); (case kK => assumption); (case k1 => k_asm); (case k2 => k_asm); (case k3 => k_asm); (case k4 => k_asm); (case k5 => k_asm); (case k6 => k_is); (case k7 => k_is); (case k8 => ktr_room); (case k9 => exact BindsTo.of_eq rfl); (case c5 => decide); (case kB => exact locs rfl); (case c2 => exact rfl); (case c3 => exact rfl); (case c4 => exact rfl); k_whole; intro g' L' h' FG' F' N' B' X' T' hG'; (try dsimp only); (try k_fold))
    k_steps
    all_goals (try k_data)
    k_dflt (refine' Tell.use (0, y) (divlimb_tells _ _ _ _ _) ?k1 ?k2 ?k3 ?k4 ?k5 ?k6 ?k7 ?k8 ?k9 ?_; (case k1 => k_asm); (case k2 => k_asm); (case k3 => k_asm); (case k4 => k_asm); (case k5 => k_asm); (case k6 => exact rfl); (case k7 => exact LimbIn.mk (.zero (by k_mem)) b0 b1 hw hw'); (case k8 => ktr_room); (case k9 => ktr_units))
    intro r9 tl9 h9 tk9 F9 N9 hl9 ho9
    cases ho9
    rename_i h9t e9 q9
    (try simp only [List.cons_append, List.nil_append, List.append_assoc] at N9)
    (try dsimp only); (try k_fold)
    k_steps
    all_goals (try k_data)
    all_goals first
      | (refine' sub_ret hret N (List.forall_mem_cons.mpr ⟨ha, List.forall_mem_cons.mpr ⟨hb, List.forall_mem_nil _⟩⟩) hG' ?f1 ?f2 ?f3 ?f4 ?f5 ((_, _) :: (_, _) :: tl9) ?f6 ?f7 (TwoIn.mk (.head _) (NatIn.mono (fun _ h => .tail _ (.tail _ h)) q9) (NatIn.pos' (.tail _ (.head _)) ?e1 ?e2 ?e3 ?e4)); (case f1 => k_asm); (case f2 => k_asm); (case f3 => k_asm); (case f4 => k_asm); (case f5 => k_allIn); (case f6 => refine List.forall_mem_cons.mpr ⟨by k_mem, List.forall_mem_cons.mpr ⟨by k_mem, fun q hq => by simp only [List.mem_append, List.mem_cons, hq, or_true]⟩⟩); (case f7 => exact Off.w (List.forall_mem_cons.mpr ⟨by k_all, List.forall_mem_cons.mpr ⟨by k_all, fun p hp q hq => Ne.symm (hl9 q (by revert q; k_allIn) p hp)⟩⟩)); (case e1 => rfl); (case e2 => exact e9); (case e3 => show 0 < 0 % y; omega); (case e4 => show 0 % y < 16; omega))
      | (refine' sub_ret hret N (List.forall_mem_cons.mpr ⟨ha, List.forall_mem_cons.mpr ⟨hb, List.forall_mem_nil _⟩⟩) hG' ?f1 ?f2 ?f3 ?f4 ?f5 ((_, _) :: (_, _) :: tl9) ?f6 ?f7 (TwoIn.mk (.head _) (NatIn.mono (fun _ h => .tail _ (.tail _ h)) q9) (NatIn.zero'' (.tail _ (.head _)) ?e1 ?e2)); (case f1 => k_asm); (case f2 => k_asm); (case f3 => k_asm); (case f4 => k_asm); (case f5 => k_allIn); (case f6 => refine List.forall_mem_cons.mpr ⟨by k_mem, List.forall_mem_cons.mpr ⟨by k_mem, fun q hq => by simp only [List.mem_append, List.mem_cons, hq, or_true]⟩⟩); (case f7 => exact Off.w (List.forall_mem_cons.mpr ⟨by k_all, List.forall_mem_cons.mpr ⟨by k_all, fun p hp q hq => Ne.symm (hl9 q (by revert q; k_allIn) p hp)⟩⟩)); (case e1 => rfl); (case e2 => show 0 % y = 0; omega))
  | pos ha a0 a1 =>
    refine wpAny_call ?_
    k_dflt (refine' code_sub _ (List.forall_mem_cons.mpr ⟨ha, List.forall_mem_cons.mpr ⟨hb, List.forall_mem_nil _⟩⟩) ?k1 ?k2 ?k3 ?k4 ?k5 ?kA ?kF ?kK ?k6 ?k7 ?k8 ?k9 ?kB ?_ ?c2 ?c3 ?c4 ?c5; (case kA => exact rfl); (case kF => exact rfl); (case kK => assumption); (case k1 => k_asm); (case k2 => k_asm); (case k3 => k_asm); (case k4 => k_asm); (case k5 => k_asm); (case k6 => k_is); (case k7 => k_is); (case k8 => ktr_room); (case k9 => exact BindsTo.of_eq rfl); (case c5 => decide); (case kB => exact locs rfl); (case c2 => exact rfl); (case c3 => exact rfl); (case c4 => exact rfl); k_whole; intro g' L' h' FG' F' N' B' X' T' hG'; (try dsimp only); (try k_fold))
    k_steps
    all_goals (try k_data)
    k_dflt (refine' Tell.use (x, y) (divlimb_tells _ _ _ _ _) ?k1 ?k2 ?k3 ?k4 ?k5 ?k6 ?k7 ?k8 ?k9 ?_; (case k1 => k_asm); (case k2 => k_asm); (case k3 => k_asm); (case k4 => k_asm); (case k5 => k_asm); (case k6 => exact rfl); (case k7 => exact LimbIn.mk (.pos (by k_mem) a0 a1) b0 b1 hw hw'); (case k8 => ktr_room); (case k9 => ktr_units))
    intro r9 tl9 h9 tk9 F9 N9 hl9 ho9
    cases ho9
    rename_i h9t e9 q9
    (try simp only [List.cons_append, List.nil_append, List.append_assoc] at N9)
    (try dsimp only); (try k_fold)
    k_steps
    all_goals (try k_data)
    all_goals first
      | (refine' sub_ret hret N (List.forall_mem_cons.mpr ⟨ha, List.forall_mem_cons.mpr ⟨hb, List.forall_mem_nil _⟩⟩) hG' ?f1 ?f2 ?f3 ?f4 ?f5 ((_, _) :: (_, _) :: tl9) ?f6 ?f7 (TwoIn.mk (.head _) (NatIn.mono (fun _ h => .tail _ (.tail _ h)) q9) (NatIn.pos' (.tail _ (.head _)) ?e1 ?e2 ?e3 ?e4)); (case f1 => k_asm); (case f2 => k_asm); (case f3 => k_asm); (case f4 => k_asm); (case f5 => k_allIn); (case f6 => refine List.forall_mem_cons.mpr ⟨by k_mem, List.forall_mem_cons.mpr ⟨by k_mem, fun q hq => by simp only [List.mem_append, List.mem_cons, hq, or_true]⟩⟩); (case f7 => exact Off.w (List.forall_mem_cons.mpr ⟨by k_all, List.forall_mem_cons.mpr ⟨by k_all, fun p hp q hq => Ne.symm (hl9 q (by revert q; k_allIn) p hp)⟩⟩)); (case e1 => rfl); (case e2 => exact e9); (case e3 => show 0 < x % y; omega); (case e4 => show x % y < 16; omega))
      | (refine' sub_ret hret N (List.forall_mem_cons.mpr ⟨ha, List.forall_mem_cons.mpr ⟨hb, List.forall_mem_nil _⟩⟩) hG' ?f1 ?f2 ?f3 ?f4 ?f5 ((_, _) :: (_, _) :: tl9) ?f6 ?f7 (TwoIn.mk (.head _) (NatIn.mono (fun _ h => .tail _ (.tail _ h)) q9) (NatIn.zero'' (.tail _ (.head _)) ?e1 ?e2)); (case f1 => k_asm); (case f2 => k_asm); (case f3 => k_asm); (case f4 => k_asm); (case f5 => k_allIn); (case f6 => refine List.forall_mem_cons.mpr ⟨by k_mem, List.forall_mem_cons.mpr ⟨by k_mem, fun q hq => by simp only [List.mem_append, List.mem_cons, hq, or_true]⟩⟩); (case f7 => exact Off.w (List.forall_mem_cons.mpr ⟨by k_all, List.forall_mem_cons.mpr ⟨by k_all, fun p hp q hq => Ne.symm (hl9 q (by revert q; k_allIn) p hp)⟩⟩)); (case e1 => rfl); (case e2 => show x % y = 0; omega))

theorem cmp_neg {x y : Int} (h : x < y) : cmpI x y < 0 := by unfold cmpI; rw [if_pos h]; decide
set_option maxHeartbeats 8000000 in
theorem div_tells (w : World) (mean : ExcName → Option Value) (mg mb : Str → Option Value) : ∀ d, Tell w mean mg mb 270 DivIn (fun _ => 4) (fun _ l v d => TwoIn l v (d.1 / d.2, d.1 % d.2)) d := by
  intro d
  unfold Tell
  k_fill
  intro dp un gd cn cs a ccd cl outer A₀ base h₀ L m news s vs Q E B F X N T hk hR hd hu hret
  try dsimp only at hd hu hret
  cases hR with
  | @unit va x w t ha hw hw' =>
    cases ha with
    | zero ha =>
      have hc := cmp_neg (x := 0) (y := 1) (by decide)
      refine wpAny_call ?_
      k_dflt (refine' code_sub _ (List.forall_mem_cons.mpr ⟨ha, List.forall_mem_nil _⟩) ?k1 ?k2 ?k3 ?k4 ?k5 ?kA ?kF ?kK ?k6 ?k7 ?k8 ?k9 ?kB ?_ ?c2 ?c3 ?c4 ?c5; (case kA => exact rfl); (case kF => exact rfl); (case kK => assumption); (case k1 => k_asm); (case k2 => k_asm); (case k3 => k_asm); (case k4 => k_asm); (case k5 => k_asm); (case k6 => k_is); (case k7 => k_is); (case k8 => ktr_room); (case k9 => exact BindsTo.of_eq rfl); (case c5 => decide); (case kB => exact locs rfl); (case c2 => exact rfl); (case c3 => exact rfl); (case c4 => exact rfl); k_whole; intro g' L' h' FG' F' N' B' X' T' hG'; (try dsimp only); (try k_fold))
      k_steps
      all_goals (try k_data)
      k_dflt (refine' Tell.use (0, 1) (cmp_tells _ _ _ _ _) ?k1 ?k2 ?k3 ?k4 ?k5 ?k6 ?k7 ?k8 ?k9 ?_; (case k1 => k_asm); (case k2 => k_asm); (case k3 => k_asm); (case k4 => k_asm); (case k5 => k_asm); (case k6 => exact rfl); (case k7 => exact PairIn.unit (.zero (by k_mem))); (case k8 => ktr_room); (case k9 => ktr_units))
      intro r9 tl9 h9 tk9 F9 N9 hl9 ho9
      obtain ⟨t9, rfl⟩ := ho9
      replace N9 := newsL N9
      clear hl9
      (try simp only [List.cons_append, List.nil_append, List.append_assoc] at N9)
      (try dsimp only); (try k_fold)
      k_steps
      all_goals (try k_data)
      (refine' sub_ret hret N (List.forall_mem_cons.mpr ⟨ha, List.forall_mem_nil _⟩) hG' ?f1 ?f2 ?f3 ?f4 ?f5 [(_, _), (_, _), (_, _)] ?f6 ?f7 (TwoIn.mk (.head _) (NatIn.zero'' (.tail _ (.tail _ (.head _))) ?e1 ?e2) (NatIn.zero'' (.tail _ (.head _)) ?e3 ?e4)); (case f1 => k_asm); (case f2 => k_asm); (case f3 => k_asm); (case f4 => k_asm); (case f5 => k_allIn); (case f6 => k_allIn); (case f7 => exact Off.w (by repeat (first | exact List.forall_mem_nil _ | (refine List.forall_mem_cons.mpr ⟨by k_all, ?_⟩)))); (case e1 => rfl); (case e2 => exact Int.zero_ediv _); (case e3 => rfl); (case e4 => exact Int.zero_emod _))
    | pos ha a0 a1 =>
      have hc := cmp_ge (x := x) (y := 1) (by omega)
      refine wpAny_call ?_
      k_dflt (refine' code_sub _ (List.forall_mem_cons.mpr ⟨ha, List.forall_mem_nil _⟩) ?k1 ?k2 ?k3 ?k4 ?k5 ?kA ?kF ?kK ?k6 ?k7 ?k8 ?k9 ?kB ?_ ?c2 ?c3 ?c4 ?c5; (case kA => exact rfl); (case kF => exact rfl); (case kK => assumption); (case k1 => k_asm); (case k2 => k_asm); (case k3 => k_asm); (case k4 => k_asm); (case k5 => k_asm); (case k6 => k_is); (case k7 => k_is); (case k8 => ktr_room); (case k9 => exact BindsTo.of_eq rfl); (case c5 => decide); (case kB => exact locs rfl); (case c2 => exact rfl); (case c3 => exact rfl); (case c4 => exact rfl); k_whole; intro g' L' h' FG' F' N' B' X' T' hG'; (try dsimp only); (try k_fold))
      k_steps
      all_goals (try k_data)
      k_dflt (refine' Tell.use (x, 1) (cmp_tells _ _ _ _ _) ?k1 ?k2 ?k3 ?k4 ?k5 ?k6 ?k7 ?k8 ?k9 ?_; (case k1 => k_asm); (case k2 => k_asm); (case k3 => k_asm); (case k4 => k_asm); (case k5 => k_asm); (case k6 => exact rfl); (case k7 => exact PairIn.unit (.pos (by k_mem) a0 a1)); (case k8 => ktr_room); (case k9 => ktr_units))
      intro r9 tl9 h9 tk9 F9 N9 hl9 ho9
      obtain ⟨t9, rfl⟩ := ho9
      replace N9 := newsL N9
      clear hl9
      (try simp only [List.cons_append, List.nil_append, List.append_assoc] at N9)
      (try dsimp only); (try k_fold)
      k_steps
      all_goals (try k_data)
      k_dflt (refine' Tell.use (x, 1) (divsmall_tells _ _ _ _ _) ?k1 ?k2 ?k3 ?k4 ?k5 ?k6 ?k7 ?k8 ?k9 ?_; (case k1 => k_asm); (case k2 => k_asm); (case k3 => k_asm); (case k4 => k_asm); (case k5 => k_asm); (case k6 => exact rfl); (case k7 => exact DivIn.unit (.pos (by k_mem) a0 a1) hw hw'); (case k8 => ktr_room); (case k9 => ktr_units))
      intro r9 tl9 h9 tk9 F9 N9 hl9 ho9
      (try simp only [List.cons_append, List.nil_append, List.append_assoc] at N9)
      (try dsimp only); (try k_fold)
      k_steps
      all_goals (try k_data)
      refine' sub_ret hret N (List.forall_mem_cons.mpr ⟨ha, List.forall_mem_nil _⟩) hG' ?f1 ?f2 ?f3 ?f4 ?f5 tl9 ?f6 ?f7 ?f8
      (case f1 => k_asm); (case f2 => k_asm); (case f3 => k_asm); (case f4 => k_asm); (case f5 => k_allIn)
      (case f6 => intro q hq; simp only [List.mem_append, List.mem_cons, hq, or_true])
      (case f7 => exact Off.sub hl9 (by k_allIn))
      (case f8 => first | exact ho9 | (simp only [Int.zero_mul, Int.mul_zero]; exact ho9))
  | @mk va vb x y w t ha hb hy hw hw' =>
  cases hb with
  | zero hb => exact absurd hy (by omega)
  | pos hb b0 b1 =>
  by_cases hlt : x < y
  · have hc := cmp_neg hlt
    cases ha with
    | zero ha =>
      refine wpAny_call ?_
      k_dflt (refine' code_sub _ (List.forall_mem_cons.mpr ⟨ha, List.forall_mem_cons.mpr ⟨hb, List.forall_mem_nil _⟩⟩) ?k1 ?k2 ?k3 ?k4 ?k5 ?kA ?kF ?kK ?k6 ?k7 ?k8 ?k9 ?kB ?_ ?c2 ?c3 ?c4 ?c5; (case kA => exact rfl); (case kF => exact rfl); (case kK => assumption); (case k1 => k_asm); (case k2 => k_asm); (case k3 => k_asm); (case k4 => k_asm); (case k5 => k_asm); (case k6 => k_is); (case k7 => k_is); (case k8 => ktr_room); (case k9 => exact BindsTo.of_eq rfl); (case c5 => decide); (case kB => exact locs rfl); (case c2 => exact rfl); (case c3 => exact rfl); (case c4 => exact rfl); k_whole; intro g' L' h' FG' F' N' B' X' T' hG'; (try dsimp only); (try k_fold))
      k_steps
      all_goals (try k_data)
      k_dflt (refine' Tell.use (0, y) (cmp_tells _ _ _ _ _) ?k1 ?k2 ?k3 ?k4 ?k5 ?k6 ?k7 ?k8 ?k9 ?_; (case k1 => k_asm); (case k2 => k_asm); (case k3 => k_asm); (case k4 => k_asm); (case k5 => k_asm); (case k6 => exact rfl); (case k7 => exact PairIn.mk (.zero (by k_mem)) (.pos (by k_mem) b0 b1)); (case k8 => ktr_room); (case k9 => ktr_units))
      intro r9 tl9 h9 tk9 F9 N9 hl9 ho9
      obtain ⟨t9, rfl⟩ := ho9
      replace N9 := newsL N9
      clear hl9
      (try simp only [List.cons_append, List.nil_append, List.append_assoc] at N9)
      (try dsimp only); (try k_fold)
      k_steps
      all_goals (try k_data)
      (refine' sub_ret hret N (List.forall_mem_cons.mpr ⟨ha, List.forall_mem_cons.mpr ⟨hb, List.forall_mem_nil _⟩⟩) hG' ?f1 ?f2 ?f3 ?f4 ?f5 [(_, _), (_, _), (_, _)] ?f6 ?f7 (TwoIn.mk (.head _) (NatIn.zero'' (.tail _ (.tail _ (.head _))) ?e1 ?e2) (NatIn.zero'' (.tail _ (.head _)) ?e3 ?e4)); (case f1 => k_asm); (case f2 => k_asm); (case f3 => k_asm); (case f4 => k_asm); (case f5 => k_allIn); (case f6 => k_allIn); (case f7 => exact Off.w (by repeat (first | exact List.forall_mem_nil _ | (refine List.forall_mem_cons.mpr ⟨by k_all, ?_⟩)))); (case e1 => rfl); (case e2 => exact Int.zero_ediv _); (case e3 => rfl); (case e4 => exact Int.zero_emod _))
    | pos ha a0 a1 =>
      refine wpAny_call ?_
      k_dflt (refine' code_sub _ (List.forall_mem_cons.mpr ⟨ha, List.forall_mem_cons.mpr ⟨hb, List.forall_mem_nil _⟩⟩) ?k1 ?k2 ?k3 ?k4 ?k5 ?kA ?kF ?kK ?k6 ?k7 ?k8 ?k9 ?kB ?_ ?c2 ?c3 ?c4 ?c5; (case kA => exact rfl); (case kF => exact rfl); (case kK => assumption); (case k1 => k_asm); (case k2 => k_asm); (case k3 => k_asm); (case k4 => k_asm); (case k5 => k_asm); (case k6 => k_is); (case k7 => k_is); (case k8 => ktr_room); (case k9 => exact BindsTo.of_eq rfl); (case c5 => decide); (case kB => exact locs rfl); (case c2 => exact rfl); (case c3 => exact rfl); (case c4 => exact rfl); k_whole; intro g' L' h' FG' F' N' B' X' T' hG'; (try dsimp only); (try k_fold))
      k_steps
      all_goals (try k_data)
      k_dflt (refine' Tell.use (x, y) (cmp_tells _ _ _ _ _) ?k1 ?k2 ?k3 ?k4 ?k5 ?k6 ?k7 ?k8 ?k9 ?_; (case k1 => k_asm); (case k2 => k_asm); (case k3 => k_asm); (case k4 => k_asm); (case k5 => k_asm); (case k6 => exact rfl); (case k7 => exact PairIn.mk (.pos (by k_mem) a0 a1) (.pos (by k_mem) b0 b1)); (case k8 => ktr_room); (case k9 => ktr_units))
      intro r9 tl9 h9 tk9 F9 N9 hl9 ho9
      obtain ⟨t9, rfl⟩ := ho9
      replace N9 := newsL N9
      clear hl9
      (try simp only [List.cons_append, List.nil_append, List.append_assoc] at N9)
      (try dsimp only); (try k_fold)
      k_steps
      all_goals (try k_data)
      (refine' sub_ret hret N (List.forall_mem_cons.mpr ⟨ha, List.forall_mem_cons.mpr ⟨hb, List.forall_mem_nil _⟩⟩) hG' ?f1 ?f2 ?f3 ?f4 ?f5 [(_, _), (_, _), (_, _)] ?f6 ?f7 (TwoIn.mk (.head _) (NatIn.zero'' (.tail _ (.tail _ (.head _))) ?e1 ?e2) (NatIn.pos' (.tail _ (.head _)) ?e3 ?e4 ?e5 ?e6)); (case f1 => k_asm); (case f2 => k_asm); (case f3 => k_asm); (case f4 => k_asm); (case f5 => k_allIn); (case f6 => k_allIn); (case f7 => exact Off.w (by repeat (first | exact List.forall_mem_nil _ | (refine List.forall_mem_cons.mpr ⟨by k_all, ?_⟩)))); (case e1 => rfl); (case e2 => exact Int.ediv_eq_zero_of_lt (Int.le_of_lt a0) hlt); (case e3 => rfl); (case e4 => exact (Int.emod_eq_of_lt (Int.le_of_lt a0) hlt).symm); (case e5 => show 0 < x % y; rw [Int.emod_eq_of_lt (Int.le_of_lt a0) hlt]; exact a0); (case e6 => show x % y < 16; rw [Int.emod_eq_of_lt (Int.le_of_lt a0) hlt]; exact a1))
  · have hc := cmp_ge (x := x) (y := y) (by omega)
    cases ha with
    | zero ha => exact absurd hlt (by omega)
    | pos ha a0 a1 =>
      refine wpAny_call ?_
      k_dflt (refine' code_sub _ (List.forall_mem_cons.mpr ⟨ha, List.forall_mem_cons.mpr ⟨hb, List.forall_mem_nil _⟩⟩) ?k1 ?k2 ?k3 ?k4 ?k5 ?kA ?kF ?kK ?k6 ?k7 ?k8 ?k9 ?kB ?_ ?c2 ?c3 ?c4 ?c5; (case kA => exact rfl); (case kF => exact rfl); (case kK => assumption); (case k1 => k_asm); (case k2 => k_asm); (case k3 => k_asm); (case k4 => k_asm); (case k5 => k_asm); (case k6 => k_is); (case k7 => k_is); (case k8 => ktr_room); (case k9 => exact BindsTo.of_eq rfl); (case c5 => decide); (case kB => exact locs rfl); (case c2 => exact rfl); (case c3 => exact rfl); (case c4 => exact rfl); k_whole; intro g' L' h' FG' F' N' B' X' T' hG'; (try dsimp only); (try k_fold))
      k_steps
      all_goals (try k_data)
      k_dflt (refine' Tell.use (x, y) (cmp_tells _ _ _ _ _) ?k1 ?k2 ?k3 ?k4 ?k5 ?k6 ?k7 ?k8 ?k9 ?_; (case k1 => k_asm); (case k2 => k_asm); (case k3 => k_asm); (case k4 => k_asm); (case k5 => k_asm); (case k6 => exact rfl); (case k7 => exact PairIn.mk (.pos (by k_mem) a0 a1) (.pos (by k_mem) b0 b1)); (case k8 => ktr_room); (case k9 => ktr_units))
      intro r9 tl9 h9 tk9 F9 N9 hl9 ho9
      obtain ⟨t9, rfl⟩ := ho9
      replace N9 := newsL N9
      clear hl9
      (try simp only [List.cons_append, List.nil_append, List.append_assoc] at N9)
      (try dsimp only); (try k_fold)
      k_steps
      all_goals (try k_data)
      k_dflt (refine' Tell.use (x, y) (divsmall_tells _ _ _ _ _) ?k1 ?k2 ?k3 ?k4 ?k5 ?k6 ?k7 ?k8 ?k9 ?_; (case k1 => k_asm); (case k2 => k_asm); (case k3 => k_asm); (case k4 => k_asm); (case k5 => k_asm); (case k6 => exact rfl); (case k7 => exact DivIn.mk (.pos (by k_mem) a0 a1) (.pos (by k_mem) b0 b1) hy hw hw'); (case k8 => ktr_room); (case k9 => ktr_units))
      intro r9 tl9 h9 tk9 F9 N9 hl9 ho9
      (try simp only [List.cons_append, List.nil_append, List.append_assoc] at N9)
      (try dsimp only); (try k_fold)
      k_steps
      all_goals (try k_data)
      refine' sub_ret hret N (List.forall_mem_cons.mpr ⟨ha, List.forall_mem_cons.mpr ⟨hb, List.forall_mem_nil _⟩⟩) hG' ?f1 ?f2 ?f3 ?f4 ?f5 tl9 ?f6 ?f7 ?f8
      (case f1 => k_asm); (case f2 => k_asm); (case f3 => k_asm); (case f4 => k_asm); (case f5 => k_allIn)
      (case f6 => intro q hq; simp only [List.mem_append, List.mem_cons, hq, or_true])
      (case f7 => exact Off.sub hl9 (by k_allIn))
      (case f8 => first | exact ho9 | (simp only [Int.zero_mul, Int.mul_zero]; exact ho9))
end
section
inductive SignedIn (news : Led) : List Value → Bool × Value × Int → Prop
  | mk {b : Bool} {v : Value} {x : Int} (ha : NatIn news v x) : SignedIn news [.bool b, v] (b, v, x)
inductive SignedOut (tl : Led) : Value → Bool × Value × Int → Prop
  | mk {T : Addr} {n : Nat} {b c : Bool} {v : Value} {x : Int} (h : (T, tupOf #[.bool c, v] n) ∈ tl) (hc : c = (b && decide (0 < x))) : SignedOut tl (.ref T) (b, v, x)
inductive SgnIn (l : Led) : Value → Int → Prop
  | mk {T : Addr} {n : Nat} {b : Bool} {v : Value} {x z : Int} (h : (T, tupOf #[.bool b, v] n) ∈ l) (hv : NatIn l v x) (hb : b = true → 0 < x) (hz : z = bif b then -x else x) : SgnIn l (.ref T) z
theorem SgnIn.mono {l l' : Led} {v : Value} {z : Int} (hs : ∀ p ∈ l, p ∈ l') (h : SgnIn l v z) : SgnIn l' v z := by
  cases h with
  | mk h hv hb hz => exact .mk (hs _ h) (hv.mono hs) hb hz
theorem SgnIn.of {l tl : Led} {r v : Value} {b : Bool} {x z : Int} (h : SignedOut tl r (b, v, x)) (hs : ∀ p ∈ tl, p ∈ l) (hv : NatIn l v x) (hz : z = bif b then -x else x) : SgnIn l r z := by
  generalize hd : (b, v, x) = d at h
  cases h with
  | mk h hc =>
    cases hd
    refine .mk (hs _ h) hv ?_ ?_
    · intro e
      rw [hc, Bool.and_eq_true, decide_eq_true_eq] at e
      exact e.2
    · have h0 : 0 ≤ x := by cases hv <;> omega
      subst hz hc
      cases b with
      | false => rfl
      | true =>
        by_cases hx : 0 < x
        · simp [hx]
        · have : x = 0 := by omega
          subst this
          rfl
theorem NatIn.nonneg {l : Led} {v : Value} {x : Int} (h : NatIn l v x) : 0 ≤ x := by cases h <;> omega
theorem NatIn.lt {l : Led} {v : Value} {x : Int} (h : NatIn l v x) : x < 16 := by cases h <;> omega
theorem sub_l {a b : Led} : ∀ p ∈ a, p ∈ a ++ b := fun _ h => List.mem_append.mpr (.inl h)
theorem sub_r {a b : Led} : ∀ p ∈ b, p ∈ a ++ b := fun _ h => List.mem_append.mpr (.inr h)
set_option maxHeartbeats 8000000 in
theorem signed_tells (w : World) (mean : ExcName → Option Value) (mg mb : Str → Option Value) : ∀ d, Tell w mean mg mb 114 SignedIn (fun _ => 1) (fun _ => SignedOut) d := by
  intro d
  unfold Tell
  k_fill
  intro dp un gd cn cs a ccd cl outer A₀ base h₀ L m news s vs Q E B F X N T hk hR hd hu hret
  try dsimp only at hd hu hret
  cases hR with
  | @mk b v x ha =>
  cases b <;> cases ha
  all_goals (
    refine wpAny_call ?_
    k_dflt ktr_enter
    k_steps
    all_goals (try k_data)
    all_goals (
      refine one_ret hret (by k_asm) (by k_asm) (by ktn_lt) (.mk (.head _) ?_)
      first | rfl | (simp only [Bool.true_and]; exact (decide_eq_true (by assumption)).symm) | (simp only [Bool.true_and]; exact (decide_eq_false (by omega)).symm)))
end
section
inductive NegIn (news : Led) : List Value → Int → Prop
  | mk {v : Value} {z : Int} (h : SgnIn news v z) : NegIn news [v] z
theorem neg_eq {b : Bool} {x z : Int} (h : z = bif b then -x else x) : -z = bif !b then -x else x := by
  subst h
  cases b
  · rfl
  · exact Int.neg_neg x
set_option maxHeartbeats 8000000 in
theorem sneg_tells (w : World) (mean : ExcName → Option Value) (mg mb : Str → Option Value) : ∀ d, Tell w mean mg mb 121 NegIn (fun _ => 2) (fun news tl v z => SgnIn (news ++ tl) v (-z)) d := by
  intro d
  unfold Tell
  k_fill
  intro dp un gd cn cs a ccd cl outer A₀ base h₀ L m news s vs Q E B F X N T hk hR hd hu hret
  try dsimp only at hd hu hret
  cases hR with
  | mk h =>
  cases h with
  | @mk T n b v x z h hv hb hz =>
  refine wpAny_call ?_
  k_dflt ktr_enter
  k_steps
  all_goals (try k_data)
  k_dflt (refine' Tell.use (!b, v, x) (signed_tells _ _ _ _ _) ?k1 ?k2 ?k3 ?k4 ?k5 ?k6 ?k7 ?k8 ?k9 ?_; (case k1 => k_asm); (case k2 => k_asm); (case k3 => k_asm); (case k4 => k_asm); (case k5 => k_asm); (case k6 => exact rfl); (case k7 => exact .mk hv); (case k8 => ktr_room); (case k9 => ktr_units))
  intro r9 tl9 h9 tk9 F9 N9 hl9 ho9
  (try simp only [List.cons_append, List.nil_append, List.append_assoc] at N9)
  (try dsimp only); (try k_fold)
  k_steps
  all_goals (try k_data)
  (refine' hret _ (tl9) _ _ ?f1 ?f2 (hl9) ?f3; (case f1 => k_asm); (case f2 => first | k_asm | exact ktn_tl0 (by k_asm) | exact ktn_tl1 (by k_asm) | exact ktn_tl2 (by k_asm) | exact newsSub (by k_asm) (by ktr_rel) | exact newsTop (by k_asm) (by ktr_rel)); (case f3 => exact (SgnIn.of ho9 sub_r (hv.mono sub_l) (neg_eq hz))))
noncomputable def sgnI (z : Int) : Int := if z = 0 then 0 else if z < 0 then -1 else 1
theorem sgn_out {a z : Int} {t : Tok} (h : a = sgnI z) : ∃ t', Value.int a t = .int (sgnI z) t' := ⟨t, h ▸ rfl⟩
theorem sgn_zero : 0 = sgnI (bif false then -0 else 0) := rfl
theorem sgn_pos {x : Int} (h : 0 < x) : 1 = sgnI (bif false then -x else x) := by
  show 1 = sgnI x
  unfold sgnI
  rw [if_neg (by omega), if_neg (by omega)]
theorem sgn_neg {x : Int} (h : 0 < x) : -1 = sgnI (bif true then -x else x) := by
  show -1 = sgnI (-x)
  unfold sgnI
  rw [if_neg (by omega), if_pos (by omega)]
theorem mul_abs {ba bb : Bool} {x y zx zy : Int} (hx : zx = bif ba then -x else x) (hy : zy = bif bb then -y else y) (h : zx * zy < 16) (h' : -16 < zx * zy) : x * y < 16 := by
  subst hx hy
  cases ba <;> cases bb <;> simp only [cond_true, cond_false, Int.neg_mul, Int.mul_neg, Int.neg_neg] at h h' <;> omega
set_option maxHeartbeats 8000000 in
theorem ssign_tells (w : World) (mean : ExcName → Option Value) (mg mb : Str → Option Value) : ∀ d, Tell w mean mg mb 128 NegIn (fun _ => 1) (fun _ _ v z => ∃ t, v = .int (sgnI z) t) d := by
  intro d
  unfold Tell
  k_fill
  intro dp un gd cn cs a ccd cl outer A₀ base h₀ L m news s vs Q E B F X N T hk hR hd hu hret
  try dsimp only at hd hu hret
  cases hR with
  | mk h =>
  cases h with
  | @mk T n b v x z h hv hb hz =>
  cases b <;> cases hv
  all_goals (try (exact absurd (hb rfl) (by decide)))
  all_goals (
    subst hz
    refine wpAny_call ?_
    k_dflt ktr_enter
    k_steps
    all_goals (try k_data)
    (refine' hret _ ([]) _ _ ?f1 ?f2 (Off.nil) ?f3; (case f1 => k_asm); (case f2 => first | k_asm | exact ktn_tl0 (by k_asm) | exact ktn_tl1 (by k_asm) | exact ktn_tl2 (by k_asm) | exact newsSub (by k_asm) (by ktr_rel) | exact newsTop (by k_asm) (by ktr_rel)); (case f3 => exact (sgn_out (by first | exact sgn_zero | exact sgn_pos (by assumption) | exact sgn_neg (by assumption))))))
inductive SmulIn (news : Led) : List Value → Int × Int → Prop
  | mk {va vb : Value} {x y w : Int} {t : Tok} (ha : SgnIn news va x) (hb : SgnIn news vb y) (hw : 4 ≤ w) (hw' : w ≤ 8) (h : x * y < 16) (h' : -16 < x * y) : SmulIn news [va, vb, .int w t, .ref 228] (x, y)
theorem mul_eq {ba bb : Bool} {x y zx zy : Int} (hx : zx = bif ba then -x else x) (hy : zy = bif bb then -y else y) : zx * zy = bif (ba != bb) then -(x * y) else x * y := by
  subst hx hy
  cases ba <;> cases bb <;> simp [Int.neg_mul, Int.mul_neg]
theorem add_abs {ba bb : Bool} {x y zx zy : Int} (h0 : 0 ≤ x) (k0 : 0 ≤ y) (hx : zx = bif ba then -x else x) (hy : zy = bif bb then -y else y) (h : zx.natAbs + zy.natAbs < 16) : x + y < 16 := by
  subst hx hy
  cases ba <;> cases bb <;> simp only [cond_true, cond_false] at h <;> omega
theorem sub_out {tl tl' : Led} {v : Value} {x y : Int} (h : SgnIn tl' v (x + -y)) : SgnIn (tl ++ tl') v (x - y) := h.mono sub_r
set_option maxHeartbeats 8000000 in
theorem smul_tells (w : World) (mean : ExcName → Option Value) (mg mb : Str → Option Value) : ∀ d, Tell w mean mg mb 149 SmulIn (fun _ => 3) (fun _ tl v d => SgnIn tl v (d.1 * d.2)) d := by
  intro d
  unfold Tell
  k_fill
  intro dp un gd cn cs a ccd cl outer A₀ base h₀ L m news s vs Q E B F X N T hk hR hd hu hret
  try dsimp only at hd hu hret
  cases hR with
  | @mk va vb zx zy w t ha hb hw hw' h1 h2 =>
  cases ha with
  | @mk Ta na ba va x zx ha hva hba hzx =>
  cases hb with
  | @mk Tb nb bb vb y zy hb hvb hbb hzy =>
  refine wpAny_call ?_
  k_dflt ktr_enter
  k_steps
  all_goals (try k_data)
  k_dflt (refine' Tell.use (x, y) (mul_tells _ _ _ _ _) ?k1 ?k2 ?k3 ?k4 ?k5 ?k6 ?k7 ?k8 ?k9 ?_; (case k1 => k_asm); (case k2 => k_asm); (case k3 => k_asm); (case k4 => k_asm); (case k5 => k_asm); (case k6 => exact rfl); (case k7 => exact MulIn.mk hva hvb hw hw' (mul_abs hzx hzy h1 h2)); (case k8 => ktr_room); (case k9 => ktr_units))
  intro r9 tl9 h9 tk9 F9 N9 hl9 ho9
  (try simp only [List.cons_append, List.nil_append, List.append_assoc] at N9)
  (try dsimp only); (try k_fold)
  k_steps
  all_goals (try k_data)
  k_dflt (refine' Tell.use (ba != bb, r9, x * y) (signed_tells _ _ _ _ _) ?k1 ?k2 ?k3 ?k4 ?k5 ?k6 ?k7 ?k8 ?k9 ?_; (case k1 => k_asm); (case k2 => k_asm); (case k3 => k_asm); (case k4 => k_asm); (case k5 => k_asm); (case k6 => exact rfl); (case k7 => exact .mk (ho9.mono sub_r)); (case k8 => ktr_room); (case k9 => ktr_units))
  intro r8 tl8 h8 tk8 F8 N8 hl8 ho8
  (try simp only [List.cons_append, List.nil_append, List.append_assoc] at N8)
  (try dsimp only); (try k_fold)
  k_steps
  all_goals (try k_data)
  (refine' hret _ (tl9 ++ tl8) _ _ ?f1 ?f2 (Off.app hl9 hl8.left) ?f3; (case f1 => k_asm); (case f2 => first | k_asm | exact ktn_tl0 (by k_asm) | exact ktn_tl1 (by k_asm) | exact ktn_tl2 (by k_asm) | exact newsSub (by k_asm) (by ktr_rel) | exact newsTop (by k_asm) (by ktr_rel)); (case f3 => exact (SgnIn.of ho8 sub_r (ho9.mono sub_l) (mul_eq hzx hzy))))
inductive SaddIn (news : Led) : List Value → Int × Int → Prop
  | mk {va vb : Value} {x y w : Int} {t : Tok} (ha : SgnIn news va x) (hb : SgnIn news vb y) (hw : 4 ≤ w) (hw' : w ≤ 8) (h : x.natAbs + y.natAbs < 16) : SaddIn news [va, vb, .int w t] (x, y)
set_option maxHeartbeats 8000000 in
theorem sadd_tells (w : World) (mean : ExcName → Option Value) (mg mb : Str → Option Value) : ∀ d, Tell w mean mg mb 135 SaddIn (fun _ => 3) (fun _ tl v d => SgnIn tl v (d.1 + d.2)) d := by
  intro d
  unfold Tell
  k_fill
  intro dp un gd cn cs a ccd cl outer A₀ base h₀ L m news s vs Q E B F X N T hk hR hd hu hret
  try dsimp only at hd hu hret
  cases hR with
  | @mk va vb zx zy w t ha hb hw hw' h1 =>
  cases ha with
  | @mk Ta na ba va x zx ha hva hba hzx =>
  cases hb with
  | @mk Tb nb bb vb y zy hb hvb hbb hzy =>
  have hx0 := hva.nonneg
  have hy0 := hvb.nonneg
  have hs := add_abs hx0 hy0 hzx hzy h1
  cases ba <;> cases bb
  · refine wpAny_call ?_
    k_dflt ktr_enter
    k_steps
    all_goals (try k_data)
    k_dflt (refine' Tell.use (x, y) (add_tells _ _ _ _ _) ?k1 ?k2 ?k3 ?k4 ?k5 ?k6 ?k7 ?k8 ?k9 ?_; (case k1 => k_asm); (case k2 => k_asm); (case k3 => k_asm); (case k4 => k_asm); (case k5 => k_asm); (case k6 => exact rfl); (case k7 => exact AddIn.mk hva hvb hw hw' hs); (case k8 => ktr_room); (case k9 => ktr_units))
    intro r9 tl9 h9 tk9 F9 N9 hl9 ho9
    (try simp only [List.cons_append, List.nil_append, List.append_assoc] at N9)
    (try dsimp only); (try k_fold)
    k_steps
    all_goals (try k_data)
    k_dflt (refine' Tell.use (false, r9, x + y) (signed_tells _ _ _ _ _) ?k1 ?k2 ?k3 ?k4 ?k5 ?k6 ?k7 ?k8 ?k9 ?_; (case k1 => k_asm); (case k2 => k_asm); (case k3 => k_asm); (case k4 => k_asm); (case k5 => k_asm); (case k6 => exact rfl); (case k7 => exact .mk (ho9.mono sub_r)); (case k8 => ktr_room); (case k9 => ktr_units))
    intro r8 tl8 h8 tk8 F8 N8 hl8 ho8
    (try simp only [List.cons_append, List.nil_append, List.append_assoc] at N8)
    (try dsimp only); (try k_fold)
    k_steps
    all_goals (try k_data)
    (refine' hret _ (tl9 ++ tl8) _ _ ?f1 ?f2 (Off.app hl9 hl8.left) ?f3; (case f1 => k_asm); (case f2 => first | k_asm | exact ktn_tl0 (by k_asm) | exact ktn_tl1 (by k_asm) | exact ktn_tl2 (by k_asm) | exact newsSub (by k_asm) (by ktr_rel) | exact newsTop (by k_asm) (by ktr_rel)); (case f3 => exact (SgnIn.of ho8 sub_r (ho9.mono sub_l) (by rw [hzx, hzy]; rfl))))
  · by_cases hlt : x < y
    · have hc := cmp_neg hlt
      refine wpAny_call ?_
      k_dflt ktr_enter
      k_steps
      all_goals (try k_data)
      k_dflt (refine' Tell.use (x, y) (cmp_tells _ _ _ _ _) ?k1 ?k2 ?k3 ?k4 ?k5 ?k6 ?k7 ?k8 ?k9 ?_; (case k1 => k_asm); (case k2 => k_asm); (case k3 => k_asm); (case k4 => k_asm); (case k5 => k_asm); (case k6 => exact rfl); (case k7 => exact PairIn.mk hva hvb); (case k8 => ktr_room); (case k9 => ktr_units))
      intro r9 tl9 h9 tk9 F9 N9 hl9 ho9
      obtain ⟨t9, rfl⟩ := ho9
      replace N9 := newsL N9
      clear hl9
      (try simp only [List.cons_append, List.nil_append, List.append_assoc] at N9)
      (try dsimp only); (try k_fold)
      k_steps
      all_goals (try k_data)
      k_dflt (refine' Tell.use (y, x) (sub_tells _ _ _ _ _) ?k1 ?k2 ?k3 ?k4 ?k5 ?k6 ?k7 ?k8 ?k9 ?_; (case k1 => k_asm); (case k2 => k_asm); (case k3 => k_asm); (case k4 => k_asm); (case k5 => k_asm); (case k6 => exact rfl); (case k7 => exact SubIn.mk hvb hva hw hw' (Int.le_of_lt hlt)); (case k8 => ktr_room); (case k9 => ktr_units))
      intro r9 tl9 h9 tk9 F9 N9 hl9 ho9
      (try simp only [List.cons_append, List.nil_append, List.append_assoc] at N9)
      (try dsimp only); (try k_fold)
      k_steps
      all_goals (try k_data)
      k_dflt (refine' Tell.use (true, r9, y - x) (signed_tells _ _ _ _ _) ?k1 ?k2 ?k3 ?k4 ?k5 ?k6 ?k7 ?k8 ?k9 ?_; (case k1 => k_asm); (case k2 => k_asm); (case k3 => k_asm); (case k4 => k_asm); (case k5 => k_asm); (case k6 => exact rfl); (case k7 => exact .mk (ho9.mono sub_r)); (case k8 => ktr_room); (case k9 => ktr_units))
      intro r8 tl8 h8 tk8 F8 N8 hl8 ho8
      (try simp only [List.cons_append, List.nil_append, List.append_assoc] at N8)
      (try dsimp only); (try k_fold)
      k_steps
      all_goals (try k_data)
      (refine' hret _ (tl9 ++ tl8) _ _ ?f1 ?f2 (Off.app hl9 hl8.left) ?f3; (case f1 => k_asm); (case f2 => first | k_asm | exact ktn_tl0 (by k_asm) | exact ktn_tl1 (by k_asm) | exact ktn_tl2 (by k_asm) | exact newsSub (by k_asm) (by ktr_rel) | exact newsTop (by k_asm) (by ktr_rel)); (case f3 => exact (SgnIn.of ho8 sub_r (ho9.mono sub_l) (by rw [hzx, hzy]; show x + -y = -(y - x); omega))))
    · have hc := cmp_ge (x := x) (y := y) (by omega)
      refine wpAny_call ?_
      k_dflt ktr_enter
      k_steps
      all_goals (try k_data)
      k_dflt (refine' Tell.use (x, y) (cmp_tells _ _ _ _ _) ?k1 ?k2 ?k3 ?k4 ?k5 ?k6 ?k7 ?k8 ?k9 ?_; (case k1 => k_asm); (case k2 => k_asm); (case k3 => k_asm); (case k4 => k_asm); (case k5 => k_asm); (case k6 => exact rfl); (case k7 => exact PairIn.mk hva hvb); (case k8 => ktr_room); (case k9 => ktr_units))
      intro r9 tl9 h9 tk9 F9 N9 hl9 ho9
      obtain ⟨t9, rfl⟩ := ho9
      replace N9 := newsL N9
      clear hl9
      (try simp only [List.cons_append, List.nil_append, List.append_assoc] at N9)
      (try dsimp only); (try k_fold)
      k_steps
      all_goals (try k_data)
      k_dflt (refine' Tell.use (x, y) (sub_tells _ _ _ _ _) ?k1 ?k2 ?k3 ?k4 ?k5 ?k6 ?k7 ?k8 ?k9 ?_; (case k1 => k_asm); (case k2 => k_asm); (case k3 => k_asm); (case k4 => k_asm); (case k5 => k_asm); (case k6 => exact rfl); (case k7 => exact SubIn.mk hva hvb hw hw' (by omega)); (case k8 => ktr_room); (case k9 => ktr_units))
      intro r9 tl9 h9 tk9 F9 N9 hl9 ho9
      (try simp only [List.cons_append, List.nil_append, List.append_assoc] at N9)
      (try dsimp only); (try k_fold)
      k_steps
      all_goals (try k_data)
      k_dflt (refine' Tell.use (false, r9, x - y) (signed_tells _ _ _ _ _) ?k1 ?k2 ?k3 ?k4 ?k5 ?k6 ?k7 ?k8 ?k9 ?_; (case k1 => k_asm); (case k2 => k_asm); (case k3 => k_asm); (case k4 => k_asm); (case k5 => k_asm); (case k6 => exact rfl); (case k7 => exact .mk (ho9.mono sub_r)); (case k8 => ktr_room); (case k9 => ktr_units))
      intro r8 tl8 h8 tk8 F8 N8 hl8 ho8
      (try simp only [List.cons_append, List.nil_append, List.append_assoc] at N8)
      (try dsimp only); (try k_fold)
      k_steps
      all_goals (try k_data)
      (refine' hret _ (tl9 ++ tl8) _ _ ?f1 ?f2 (Off.app hl9 hl8.left) ?f3; (case f1 => k_asm); (case f2 => first | k_asm | exact ktn_tl0 (by k_asm) | exact ktn_tl1 (by k_asm) | exact ktn_tl2 (by k_asm) | exact newsSub (by k_asm) (by ktr_rel) | exact newsTop (by k_asm) (by ktr_rel)); (case f3 => exact (SgnIn.of ho8 sub_r (ho9.mono sub_l) (by rw [hzx, hzy]; show x + -y = x - y; omega))))
  · by_cases hlt : x < y
    · have hc := cmp_neg hlt
      refine wpAny_call ?_
      k_dflt ktr_enter
      k_steps
      all_goals (try k_data)
      k_dflt (refine' Tell.use (x, y) (cmp_tells _ _ _ _ _) ?k1 ?k2 ?k3 ?k4 ?k5 ?k6 ?k7 ?k8 ?k9 ?_; (case k1 => k_asm); (case k2 => k_asm); (case k3 => k_asm); (case k4 => k_asm); (case k5 => k_asm); (case k6 => exact rfl); (case k7 => exact PairIn.mk hva hvb); (case k8 => ktr_room); (case k9 => ktr_units))
      intro r9 tl9 h9 tk9 F9 N9 hl9 ho9
      obtain ⟨t9, rfl⟩ := ho9
      replace N9 := newsL N9
      clear hl9
      (try simp only [List.cons_append, List.nil_append, List.append_assoc] at N9)
      (try dsimp only); (try k_fold)
      k_steps
      all_goals (try k_data)
      k_dflt (refine' Tell.use (y, x) (sub_tells _ _ _ _ _) ?k1 ?k2 ?k3 ?k4 ?k5 ?k6 ?k7 ?k8 ?k9 ?_; (case k1 => k_asm); (case k2 => k_asm); (case k3 => k_asm); (case k4 => k_asm); (case k5 => k_asm); (case k6 => exact rfl); (case k7 => exact SubIn.mk hvb hva hw hw' (Int.le_of_lt hlt)); (case k8 => ktr_room); (case k9 => ktr_units))
      intro r9 tl9 h9 tk9 F9 N9 hl9 ho9
      (try simp only [List.cons_append, List.nil_append, List.append_assoc] at N9)
      (try dsimp only); (try k_fold)
      k_steps
      all_goals (try k_data)
      k_dflt (refine' Tell.use (false, r9, y - x) (signed_tells _ _ _ _ _) ?k1 ?k2 ?k3 ?k4 ?k5 ?k6 ?k7 ?k8 ?k9 ?_; (case k1 => k_asm); (case k2 => k_asm); (case k3 => k_asm); (case k4 => k_asm); (case k5 => k_asm); (case k6 => exact rfl); (case k7 => exact .mk (ho9.mono sub_r)); (case k8 => ktr_room); (case k9 => ktr_units))
      intro r8 tl8 h8 tk8 F8 N8 hl8 ho8
      (try simp only [List.cons_append, List.nil_append, List.append_assoc] at N8)
      (try dsimp only); (try k_fold)
      k_steps
      all_goals (try k_data)
      (refine' hret _ (tl9 ++ tl8) _ _ ?f1 ?f2 (Off.app hl9 hl8.left) ?f3; (case f1 => k_asm); (case f2 => first | k_asm | exact ktn_tl0 (by k_asm) | exact ktn_tl1 (by k_asm) | exact ktn_tl2 (by k_asm) | exact newsSub (by k_asm) (by ktr_rel) | exact newsTop (by k_asm) (by ktr_rel)); (case f3 => exact (SgnIn.of ho8 sub_r (ho9.mono sub_l) (by rw [hzx, hzy]; show -x + y = y - x; omega))))
    · have hc := cmp_ge (x := x) (y := y) (by omega)
      refine wpAny_call ?_
      k_dflt ktr_enter
      k_steps
      all_goals (try k_data)
      k_dflt (refine' Tell.use (x, y) (cmp_tells _ _ _ _ _) ?k1 ?k2 ?k3 ?k4 ?k5 ?k6 ?k7 ?k8 ?k9 ?_; (case k1 => k_asm); (case k2 => k_asm); (case k3 => k_asm); (case k4 => k_asm); (case k5 => k_asm); (case k6 => exact rfl); (case k7 => exact PairIn.mk hva hvb); (case k8 => ktr_room); (case k9 => ktr_units))
      intro r9 tl9 h9 tk9 F9 N9 hl9 ho9
      obtain ⟨t9, rfl⟩ := ho9
      replace N9 := newsL N9
      clear hl9
      (try simp only [List.cons_append, List.nil_append, List.append_assoc] at N9)
      (try dsimp only); (try k_fold)
      k_steps
      all_goals (try k_data)
      k_dflt (refine' Tell.use (x, y) (sub_tells _ _ _ _ _) ?k1 ?k2 ?k3 ?k4 ?k5 ?k6 ?k7 ?k8 ?k9 ?_; (case k1 => k_asm); (case k2 => k_asm); (case k3 => k_asm); (case k4 => k_asm); (case k5 => k_asm); (case k6 => exact rfl); (case k7 => exact SubIn.mk hva hvb hw hw' (by omega)); (case k8 => ktr_room); (case k9 => ktr_units))
      intro r9 tl9 h9 tk9 F9 N9 hl9 ho9
      (try simp only [List.cons_append, List.nil_append, List.append_assoc] at N9)
      (try dsimp only); (try k_fold)
      k_steps
      all_goals (try k_data)
      k_dflt (refine' Tell.use (true, r9, x - y) (signed_tells _ _ _ _ _) ?k1 ?k2 ?k3 ?k4 ?k5 ?k6 ?k7 ?k8 ?k9 ?_; (case k1 => k_asm); (case k2 => k_asm); (case k3 => k_asm); (case k4 => k_asm); (case k5 => k_asm); (case k6 => exact rfl); (case k7 => exact .mk (ho9.mono sub_r)); (case k8 => ktr_room); (case k9 => ktr_units))
      intro r8 tl8 h8 tk8 F8 N8 hl8 ho8
      (try simp only [List.cons_append, List.nil_append, List.append_assoc] at N8)
      (try dsimp only); (try k_fold)
      k_steps
      all_goals (try k_data)
      (refine' hret _ (tl9 ++ tl8) _ _ ?f1 ?f2 (Off.app hl9 hl8.left) ?f3; (case f1 => k_asm); (case f2 => first | k_asm | exact ktn_tl0 (by k_asm) | exact ktn_tl1 (by k_asm) | exact ktn_tl2 (by k_asm) | exact newsSub (by k_asm) (by ktr_rel) | exact newsTop (by k_asm) (by ktr_rel)); (case f3 => exact (SgnIn.of ho8 sub_r (ho9.mono sub_l) (by rw [hzx, hzy]; show -x + y = -(x - y); omega))))
  · refine wpAny_call ?_
    k_dflt ktr_enter
    k_steps
    all_goals (try k_data)
    k_dflt (refine' Tell.use (x, y) (add_tells _ _ _ _ _) ?k1 ?k2 ?k3 ?k4 ?k5 ?k6 ?k7 ?k8 ?k9 ?_; (case k1 => k_asm); (case k2 => k_asm); (case k3 => k_asm); (case k4 => k_asm); (case k5 => k_asm); (case k6 => exact rfl); (case k7 => exact AddIn.mk hva hvb hw hw' hs); (case k8 => ktr_room); (case k9 => ktr_units))
    intro r9 tl9 h9 tk9 F9 N9 hl9 ho9
    (try simp only [List.cons_append, List.nil_append, List.append_assoc] at N9)
    (try dsimp only); (try k_fold)
    k_steps
    all_goals (try k_data)
    k_dflt (refine' Tell.use (true, r9, x + y) (signed_tells _ _ _ _ _) ?k1 ?k2 ?k3 ?k4 ?k5 ?k6 ?k7 ?k8 ?k9 ?_; (case k1 => k_asm); (case k2 => k_asm); (case k3 => k_asm); (case k4 => k_asm); (case k5 => k_asm); (case k6 => exact rfl); (case k7 => exact .mk (ho9.mono sub_r)); (case k8 => ktr_room); (case k9 => ktr_units))
    intro r8 tl8 h8 tk8 F8 N8 hl8 ho8
    (try simp only [List.cons_append, List.nil_append, List.append_assoc] at N8)
    (try dsimp only); (try k_fold)
    k_steps
    all_goals (try k_data)
    (refine' hret _ (tl9 ++ tl8) _ _ ?f1 ?f2 (Off.app hl9 hl8.left) ?f3; (case f1 => k_asm); (case f2 => first | k_asm | exact ktn_tl0 (by k_asm) | exact ktn_tl1 (by k_asm) | exact ktn_tl2 (by k_asm) | exact newsSub (by k_asm) (by ktr_rel) | exact newsTop (by k_asm) (by ktr_rel)); (case f3 => exact (SgnIn.of ho8 sub_r (ho9.mono sub_l) (by rw [hzx, hzy]; show -x + -y = -(x + y); omega))))
set_option maxHeartbeats 8000000 in
theorem ssub_tells (w : World) (mean : ExcName → Option Value) (mg mb : Str → Option Value) : ∀ d, Tell w mean mg mb 142 SaddIn (fun _ => 4) (fun _ tl v d => SgnIn tl v (d.1 - d.2)) d := by
  intro d
  unfold Tell
  k_fill
  intro dp un gd cn cs a ccd cl outer A₀ base h₀ L m news s vs Q E B F X N T hk hR hd hu hret
  try dsimp only at hd hu hret
  cases hR with
  | @mk va vb zx zy w t ha hb hw hw' h1 =>
  refine wpAny_call ?_
  k_dflt ktr_enter
  k_steps
  all_goals (try k_data)
  k_dflt (refine' Tell.use zy (sneg_tells _ _ _ _ _) ?k1 ?k2 ?k3 ?k4 ?k5 ?k6 ?k7 ?k8 ?k9 ?_; (case k1 => k_asm); (case k2 => k_asm); (case k3 => k_asm); (case k4 => k_asm); (case k5 => k_asm); (case k6 => exact rfl); (case k7 => exact NegIn.mk hb); (case k8 => ktr_room); (case k9 => ktr_units))
  intro r9 tl9 h9 tk9 F9 N9 hl9 ho9
  (try simp only [List.cons_append, List.nil_append, List.append_assoc] at N9)
  (try dsimp only); (try k_fold)
  k_steps
  all_goals (try k_data)
  k_dflt (refine' Tell.use (zx, -zy) (sadd_tells _ _ _ _ _) ?k1 ?k2 ?k3 ?k4 ?k5 ?k6 ?k7 ?k8 ?k9 ?_; (case k1 => k_asm); (case k2 => k_asm); (case k3 => k_asm); (case k4 => k_asm); (case k5 => k_asm); (case k6 => exact rfl); (case k7 => exact SaddIn.mk (ha.mono sub_l) ho9 hw hw' (by omega)); (case k8 => ktr_room); (case k9 => ktr_units))
  intro r8 tl8 h8 tk8 F8 N8 hl8 ho8
  (try simp only [List.cons_append, List.nil_append, List.append_assoc] at N8)
  (try dsimp only); (try k_fold)
  k_steps
  all_goals (try k_data)
  (refine' hret _ (tl9 ++ tl8) _ _ ?f1 ?f2 (Off.app hl9 hl8.left) ?f3; (case f1 => k_asm); (case f2 => first | k_asm | exact ktn_tl0 (by k_asm) | exact ktn_tl1 (by k_asm) | exact ktn_tl2 (by k_asm) | exact newsSub (by k_asm) (by ktr_rel) | exact newsTop (by k_asm) (by ktr_rel)); (case f3 => exact (sub_out ho8)))
end
section
inductive PrIn (news : Led) : Value → Int → Prop
  | own {v : Value} {z : Int} (h : SgnIn news v z) (hz : z ≠ 0) : PrIn news v z
  | unit : PrIn news (.ref 160) 1
theorem PrIn.mono {l l' : Led} {v : Value} {z : Int} (hs : ∀ p ∈ l, p ∈ l') (h : PrIn l v z) : PrIn l' v z := by
  cases h with
  | own h hz => exact .own (h.mono hs) hz
  | unit => exact .unit
inductive TdivIn (news : Led) : List Value → Int × Int → Prop
  | mk {va vb : Value} {x y w : Int} {t : Tok} (ha : SgnIn news va x) (hb : PrIn news vb y) (hw : 4 ≤ w) (hw' : w ≤ 8) : TdivIn news [va, vb, .int w t, .ref 270] (x, y)
theorem tdiv_eq {ba bb : Bool} {x y zx zy : Int} (h0 : 0 ≤ x) (k0 : 0 ≤ y) (hx : zx = bif ba then -x else x) (hy : zy = bif bb then -y else y) : zx.tdiv zy = bif (ba != bb) then -(x / y) else x / y := by
  subst hx hy
  cases ba <;> cases bb <;> simp [Int.neg_tdiv, Int.tdiv_neg, Int.tdiv_eq_ediv_of_nonneg h0]
inductive TdivOut (tl : Led) : Value → Int → Prop
  | mk {T : Addr} {n : Nat} {vq vr : Value} {z : Int} (h : (T, tupOf #[vq, vr] n) ∈ tl) (hq : SgnIn tl vq z) : TdivOut tl (.ref T) z
set_option maxHeartbeats 8000000 in
theorem tdiv_tells (w : World) (mean : ExcName → Option Value) (mg mb : Str → Option Value) : ∀ d, Tell w mean mg mb 156 TdivIn (fun _ => 5) (fun _ tl v d => TdivOut tl v (d.1.tdiv d.2)) d := by
  intro d
  unfold Tell
  k_fill
  intro dp un gd cn cs a ccd cl outer A₀ base h₀ L m news s vs Q E B F X N T hk hR hd hu hret
  try dsimp only at hd hu hret
  cases hR with
  | @mk va vb zx zy w t ha hb hw hw' =>
  cases ha with
  | @mk Ta na ba va x zx ha hva hba hzx =>
  cases hb with
  | unit =>
    refine wpAny_call ?_
    k_dflt ktr_enter
    k_steps
    all_goals (try k_data)
    k_dflt (refine' Tell.use (x, 1) (div_tells _ _ _ _ _) ?k1 ?k2 ?k3 ?k4 ?k5 ?k6 ?k7 ?k8 ?k9 ?_; (case k1 => k_asm); (case k2 => k_asm); (case k3 => k_asm); (case k4 => k_asm); (case k5 => k_asm); (case k6 => exact rfl); (case k7 => exact DivIn.unit hva hw hw'); (case k8 => ktr_room); (case k9 => ktr_units))
    intro r9 tl9 h9 tk9 F9 N9 hl9 ho9
    rcases ho9 with @⟨T9, n9, vq, vr, _, _, h9t, q9, e9⟩
    (try simp only [List.cons_append, List.nil_append, List.append_assoc] at N9)
    (try dsimp only); (try k_fold)
    k_steps
    all_goals (try k_data)
    k_dflt (refine' Tell.use (ba != false, vq, x / 1) (signed_tells _ _ _ _ _) ?k1 ?k2 ?k3 ?k4 ?k5 ?k6 ?k7 ?k8 ?k9 ?_; (case k1 => k_asm); (case k2 => k_asm); (case k3 => k_asm); (case k4 => k_asm); (case k5 => k_asm); (case k6 => exact rfl); (case k7 => exact .mk (q9.mono sub_r)); (case k8 => ktr_room); (case k9 => ktr_units))
    intro r8 tl8 h8 tk8 F8 N8 hl8 ho8
    (try simp only [List.cons_append, List.nil_append, List.append_assoc] at N8)
    (try dsimp only); (try k_fold)
    k_steps
    all_goals (try k_data)
    k_dflt (refine' Tell.use (ba, vr, x % 1) (signed_tells _ _ _ _ _) ?k1 ?k2 ?k3 ?k4 ?k5 ?k6 ?k7 ?k8 ?k9 ?_; (case k1 => k_asm); (case k2 => k_asm); (case k3 => k_asm); (case k4 => k_asm); (case k5 => k_asm); (case k6 => exact rfl); (case k7 => exact .mk (e9.mono fun _ h => sub_r _ (sub_l _ h))); (case k8 => ktr_room); (case k9 => ktr_units))
    intro r7 tl7 h7 tk7 F7 N7 hl7 ho7
    (try simp only [List.cons_append, List.nil_append, List.append_assoc] at N7)
    (try dsimp only); (try k_fold)
    k_steps
    all_goals (try k_data)
    (refine' hret _ ((_, _) :: (tl9 ++ (tl8 ++ tl7))) _ _ ?f1 ?f2 (Off.cons (allLt_left (by ktn_lt)) (Off.app hl9 (Off.app hl8.left hl7.left))) ?f3; (case f1 => k_asm); (case f2 => first | k_asm | exact ktn_tl0 (by k_asm) | exact ktn_tl1 (by k_asm) | exact ktn_tl2 (by k_asm) | exact newsSub (by k_asm) (by ktr_rel) | exact newsTop (by k_asm) (by ktr_rel)); (case f3 => exact (TdivOut.mk (.head _) (SgnIn.of ho8 (fun _ h => .tail _ (sub_r _ (sub_l _ h))) (q9.mono fun _ h => .tail _ (sub_l _ h)) (tdiv_eq (bb := false) (y := 1) hva.nonneg (by decide) hzx rfl)))))
  | own hb hz0 =>
  cases hb with
  | @mk Tb nb bb vb y zy hb hvb hbb hzy =>
  cases hvb with
  | zero hvb => exact absurd hzy (by cases bb <;> simpa using hz0)
  | pos hvb b0 b1 =>
  refine wpAny_call ?_
  k_dflt ktr_enter
  k_steps
  all_goals (try k_data)
  k_dflt (refine' Tell.use (x, y) (div_tells _ _ _ _ _) ?k1 ?k2 ?k3 ?k4 ?k5 ?k6 ?k7 ?k8 ?k9 ?_; (case k1 => k_asm); (case k2 => k_asm); (case k3 => k_asm); (case k4 => k_asm); (case k5 => k_asm); (case k6 => exact rfl); (case k7 => exact DivIn.mk hva (.pos hvb b0 b1) b0 hw hw'); (case k8 => ktr_room); (case k9 => ktr_units))
  intro r9 tl9 h9 tk9 F9 N9 hl9 ho9
  rcases ho9 with @⟨T9, n9, vq, vr, _, _, h9t, q9, e9⟩
  (try simp only [List.cons_append, List.nil_append, List.append_assoc] at N9)
  (try dsimp only); (try k_fold)
  k_steps
  all_goals (try k_data)
  k_dflt (refine' Tell.use (ba != bb, vq, x / y) (signed_tells _ _ _ _ _) ?k1 ?k2 ?k3 ?k4 ?k5 ?k6 ?k7 ?k8 ?k9 ?_; (case k1 => k_asm); (case k2 => k_asm); (case k3 => k_asm); (case k4 => k_asm); (case k5 => k_asm); (case k6 => exact rfl); (case k7 => exact .mk (q9.mono sub_r)); (case k8 => ktr_room); (case k9 => ktr_units))
  intro r8 tl8 h8 tk8 F8 N8 hl8 ho8
  (try simp only [List.cons_append, List.nil_append, List.append_assoc] at N8)
  (try dsimp only); (try k_fold)
  k_steps
  all_goals (try k_data)
  k_dflt (refine' Tell.use (ba, vr, x % y) (signed_tells _ _ _ _ _) ?k1 ?k2 ?k3 ?k4 ?k5 ?k6 ?k7 ?k8 ?k9 ?_; (case k1 => k_asm); (case k2 => k_asm); (case k3 => k_asm); (case k4 => k_asm); (case k5 => k_asm); (case k6 => exact rfl); (case k7 => exact .mk (e9.mono fun _ h => sub_r _ (sub_l _ h))); (case k8 => ktr_room); (case k9 => ktr_units))
  intro r7 tl7 h7 tk7 F7 N7 hl7 ho7
  (try simp only [List.cons_append, List.nil_append, List.append_assoc] at N7)
  (try dsimp only); (try k_fold)
  k_steps
  all_goals (try k_data)
  (refine' hret _ ((_, _) :: (tl9 ++ (tl8 ++ tl7))) _ _ ?f1 ?f2 (Off.cons (allLt_left (by ktn_lt)) (Off.app hl9 (Off.app hl8.left hl7.left))) ?f3; (case f1 => k_asm); (case f2 => first | k_asm | exact ktn_tl0 (by k_asm) | exact ktn_tl1 (by k_asm) | exact ktn_tl2 (by k_asm) | exact newsSub (by k_asm) (by ktr_rel) | exact newsTop (by k_asm) (by ktr_rel)); (case f3 => exact (TdivOut.mk (.head _) (SgnIn.of ho8 (fun _ h => .tail _ (sub_r _ (sub_l _ h))) (q9.mono fun _ h => .tail _ (sub_l _ h)) (tdiv_eq hva.nonneg (Int.le_of_lt b0) hzx hzy)))))
set_option maxHeartbeats 8000000 in
theorem exact_tells (w : World) (mean : ExcName → Option Value) (mg mb : Str → Option Value) : ∀ d, Tell w mean mg mb 167 TdivIn (fun _ => 6) (fun _ tl v d => SgnIn tl v (d.1.tdiv d.2)) d := by
  intro d
  unfold Tell
  k_fill
  intro dp un gd cn cs a ccd cl outer A₀ base h₀ L m news s vs Q E B F X N T hk hR hd hu hret
  try dsimp only at hd hu hret
  cases hR with
  | @mk va vb zx zy w t ha hb hw hw' =>
  refine wpAny_call ?_
  k_dflt ktr_enter
  k_steps
  all_goals (try k_data)
  k_dflt (refine' Tell.use (zx, zy) (tdiv_tells _ _ _ _ _) ?k1 ?k2 ?k3 ?k4 ?k5 ?k6 ?k7 ?k8 ?k9 ?_; (case k1 => k_asm); (case k2 => k_asm); (case k3 => k_asm); (case k4 => k_asm); (case k5 => k_asm); (case k6 => exact rfl); (case k7 => exact .mk ha hb hw hw'); (case k8 => ktr_room); (case k9 => ktr_units))
  intro r9 tl9 h9 tk9 F9 N9 hl9 ho9
  rcases ho9 with @⟨T9, n9, vq, vr, z9, h9t, q9⟩
  (try simp only [List.cons_append, List.nil_append, List.append_assoc] at N9)
  (try dsimp only); (try k_fold)
  k_steps
  all_goals (try k_data)
  (refine' hret _ (tl9) _ _ ?f1 ?f2 (hl9) ?f3; (case f1 => k_asm); (case f2 => first | k_asm | exact ktn_tl0 (by k_asm) | exact ktn_tl1 (by k_asm) | exact ktn_tl2 (by k_asm) | exact newsSub (by k_asm) (by ktr_rel) | exact newsTop (by k_asm) (by ktr_rel)); (case f3 => exact (q9)))
end
section
section
variable {prog : Program} {w : World} {A : Around} {E : Value → Shared → Prop} {s : Shared} {env : Env} {h₀ : Heap} {target : Expr} {body : List Stmt} {Q : Flow → Shared → Prop}
/-- a loop over anything whose target is a tuple, by what holds of the frame and the ledger between the turns -/
theorem tt_inv {I : Addr} {fp wr : List Addr} {n : Nat} {P Md : Nat → Value → Heap → Prop} {St : Nat → Heap → Prop} {m₀ : Str → Option Value} {news keep : Led} {hp : Heap} {tk0 : Nat}
    (W : KTurns prog w A target I fp wr n P Md St) (hfp : ∀ b ∈ fp, b ∈ wr ∨ ∃ o, (b, o) ∈ keep) (hob : ∀ i h, St i h → ∀ b ∈ wr, ∃ o, h.get? b = some o)
    (hL : env.locals ∉ fp) (hwr : ∀ b ∈ wr, h₀.get? b = none) (hnw : ∀ p ∈ news, p.1 ∉ wr) (hst : St 0 hp) (F : Fr h₀ env.locals hp m₀) (N : News h₀ env.locals hp news) (hk : ∀ p ∈ keep, p ∈ news)
    (J : Nat → (Str → Option Value) → Led → Prop) (hj : J 0 m₀ news)
    (turn : ∀ i v m₁ nx h tk own, i < n → P i v h → OwnOff own (nx.map (·.1)) → (∀ p ∈ keep, p ∈ nx) → J i m₁ nx → Fr h₀ env.locals h m₁ → News h₀ env.locals h (nx ++ own) →
      wpAny (model prog w) A (assign target env v) (fun _ s₃ => wpAny (model prog w) A (execs body env) (InvPostG h₀ env.locals (fun m' nx' => (∀ p ∈ keep, p ∈ nx') ∧ J (i + 1) m' nx') own { s with heap := h, toks := tk } Q) E s₃) E { s with heap := h, toks := tk })
    (done : ∀ m₁ nx h tk, J n m₁ nx → Fr h₀ env.locals h m₁ → News h₀ env.locals h nx → Q .next { s with heap := h, toks := tk }) :
    TurnsAt prog w A h₀ env target body Q E (.ref I) { s with heap := hp, toks := tk0 } := by
  refine ⟨I, fp, wr, n, P, Md, St, m₀, news, (fun i m nx => (∀ p ∈ keep, p ∈ nx) ∧ J i m nx), rfl, W, hL, hwr, hnw, hst, F, N, ⟨hk, hj⟩, ?_, ?_⟩
  · rintro i v m₁ news₁ h₁ tk₁ own hin hPi ⟨hk₁, hJ⟩ hoff hown hget hall hst₁ F₁ N₁
    have hsep : OwnOff (own.filter fun p => decide (p.1 ∈ wr)) (news₁.map (·.1)) := by
      intro p hp b hb e
      obtain ⟨q, hq, rfl⟩ := List.mem_map.mp hb
      have h1 : p.1 ∈ wr := by simpa using (List.mem_filter.mp hp).2
      exact hoff q hq (e ▸ h1)
    have N₂ : News h₀ env.locals h₁ (news₁ ++ own.filter fun p => decide (p.1 ∈ wr)) := fun p hp => N₁ p ((List.mem_append.mp hp).elim (fun h => List.mem_append.mpr (.inr h)) fun h => List.mem_append.mpr (.inl (List.mem_filter.mp h).1))
    have fin : ∀ s₃, InvEndG h₀ env.locals (fun m' nx' => (∀ p ∈ keep, p ∈ nx') ∧ J (i + 1) m' nx') (own.filter fun p => decide (p.1 ∈ wr)) { s with heap := h₁, toks := tk₁ } s₃ →
        LoopStepU h₀ env.locals wr own (fun m nx => (∀ p ∈ keep, p ∈ nx) ∧ J (i + 1) m nx) { s with heap := h₁, toks := tk₁ } .next s₃ := by
      rintro s₃ ⟨h', tk, m', news', nx, e, F', N', hn, ho, ha, hm⟩
      refine ⟨rfl, h', tk, m', nx, e, F', fun p hp => ?_, fun p hp hq => ?_, hm⟩
      · rcases List.mem_append.mp hp with hp | hp
        · by_cases hI : p.1 ∈ wr
          · exact N' p (ho p (List.mem_filter.mpr ⟨hp, by simpa using hI⟩))
          · rcases hfp p.1 (hown p hp) with h2 | ⟨o, h2⟩
            · exact absurd h2 hI
            · have h3 := (N₁ _ (List.mem_append.mpr (.inr (hk₁ _ h2)))).1
              have h4 : h₁.get? p.1 = some p.2 := hget p hp
              have h5 : p = (p.1, o) := Prod.ext rfl (Option.some.inj (h4.symm.trans h3))
              rw [h5]
              exact N' _ (hn _ (hm.1 _ h2))
        · exact N' p (hn p hp)
      · obtain ⟨o, ho'⟩ := hob _ _ hst₁ p.1 hq
        exact ha (p.1, o) (List.mem_filter.mpr ⟨hall p.1 (W.sub _ hq) (hwr _ hq) o ho', by simpa using hq⟩) p.1 (List.mem_map.mpr ⟨p, hp, rfl⟩) rfl
    refine wpAny_mono (turn i v m₁ news₁ h₁ tk₁ _ hin hPi hsep hk₁ hJ F₁ N₂) (fun _ s₂ h₂ => wpAny_mono h₂ (fun f s₃ p => ?_) fun _ _ e => e) fun _ _ e => e
    cases f with
    | ret v => exact .ret p
    | brk => exact .brk p
    | next => exact .next (fin _ p)
    | cont => exact .cont (fin _ p)
  · rintro h' tk m' news' F' N' _ ⟨_, hJ⟩
    exact done m' news' h' tk hJ F' N'

theorem enum_inv {elts : List Expr} {k : Nat} {pos : Pos} {l : Addr} {vs : List Value} {nn : Nat} {m₀ : Str → Option Value} {news : Led}
    (hh : A.handled = none) (F : Fr h₀ env.locals s.heap m₀) (N : News h₀ env.locals s.heap news) (hm : (l, listOf vs.toArray nn) ∈ news)
    (J : Nat → (Str → Option Value) → Led → Prop) (hj : J 0 m₀ news)
    (turn : ∀ (i : Nat) v m₁ nx h tk own T t, vs[i]? = some v → IsTup h T #[.int (i : Int) t, v] → OwnOff own (nx.map (·.1)) → (l, listOf vs.toArray nn) ∈ nx → J i m₁ nx → Fr h₀ env.locals h m₁ → News h₀ env.locals h (nx ++ own) →
      wpAny (model prog w) A (assign (.Tuple elts k pos) env (.ref T)) (fun _ s₃ => wpAny (model prog w) A (execs body env) (InvPostG h₀ env.locals (fun m' nx' => (∀ p ∈ [(l, listOf vs.toArray nn)], p ∈ nx') ∧ J (i + 1) m' nx') own { s with heap := h, toks := tk } Q) E s₃) E { s with heap := h, toks := tk })
    (done : ∀ m₁ nx h tk, J vs.length m₁ nx → Fr h₀ env.locals h m₁ → News h₀ env.locals h nx → Q .next { s with heap := h, toks := tk }) :
    wpAny (model prog w) A (call (.type "enumerate") [.ref l]) (fun xv s₁ => wpAny (model prog w) A (pyIter xv) (fun it s₂ => TurnsAt prog w A h₀ env (.Tuple elts k pos) body Q E it s₂) E s₁) E s := by
  have hax := N _ hm
  have hl : s.heap.IsList l vs.toArray := ⟨_, hax.1, rfl, nn, rfl⟩
  have hlt : l < s.heap.objs.size := Heap.lt_size hax.1
  have hLs : env.locals < s.heap.objs.size := F.ns.lt
  refine call_enumerate_list hl fun h' hE hI hsz hk => ?_
  refine wpAny_pyIter_enum hE ?_
  refine tt_inv (tk0 := s.toks) (keep := [(l, listOf vs.toArray nn)]) (n := vs.length) (news := news) (by
      have W := (WalksT.enumerate (prog := prog) (w := w) hh (s.heap.objs.size + 1) s.heap.objs.size l (Nat.succ_ne_self _) (ktu_ne 1 hlt) (Nat.ne_of_lt hlt) vs.toArray).toU
      rw [List.size_toArray] at W
      exact KTurns.ofWalksU W) ?_ ?_ ?_ ?_ ?_ ?_ (F.keeps hk) (N.grown hk) (List.forall_mem_cons.mpr ⟨hm, List.forall_mem_nil _⟩) J hj ?_ done
  · intro b hb
    have hb' : b = s.heap.objs.size + 1 ∨ b = s.heap.objs.size ∨ b = l := by simpa using hb
    rcases hb' with rfl | rfl | rfl
    · exact .inl (by simp)
    · exact .inl (by simp)
    · exact .inr ⟨_, .head _⟩
  · rintro i h ⟨⟨old, he⟩, ⟨oi, hoi, hic, _⟩, _⟩ b hb
    have hb' : b = s.heap.objs.size + 1 ∨ b = s.heap.objs.size := by simpa using hb
    rcases hb' with rfl | rfl
    · exact ⟨_, he⟩
    · exact ⟨oi, hoi⟩
  · intro hI'
    have hb' : env.locals = s.heap.objs.size + 1 ∨ env.locals = s.heap.objs.size ∨ env.locals = l := by simpa using hI'
    rcases hb' with e | e | e
    · exact ktu_ne 1 hLs e
    · exact Nat.ne_of_lt hLs e
    · exact hax.2.1 e.symm
  · intro b hb
    have hb' : b = s.heap.objs.size + 1 ∨ b = s.heap.objs.size := by simpa using hb
    rcases hb' with rfl | rfl
    · exact ktu_new F (Nat.le_add_right _ _)
    · exact ktu_new F (Nat.le_refl _)
  · intro p hp hI'
    have hb' : p.1 = s.heap.objs.size + 1 ∨ p.1 = s.heap.objs.size := by simpa using hI'
    have hlp := Heap.lt_size (N p hp).1
    rcases hb' with e | e
    · exact ktu_ne 1 hlp e
    · exact Nat.ne_of_lt hlp e
  · exact ⟨⟨_, hE⟩, hI, hl.at fun o e => hk l o e⟩
  · rintro i v m₁ nx h tk own hin ⟨T, vals, rfl, ⟨t, x, hx, rfl⟩, hT⟩ hoff hk₁ hJ F₁ N₁
    exact turn i x m₁ nx h tk own T t (by simpa using hx) hT hoff (hk₁ _ (.head _)) hJ F₁ N₁

theorem list_inv {l : Addr} {vs : List Value} {nn : Nat} {m₀ : Str → Option Value} {news : Led}
    (hh : A.handled = none) (F : Fr h₀ env.locals s.heap m₀) (N : News h₀ env.locals s.heap news) (hm : (l, listOf vs.toArray nn) ∈ news)
    (J : Nat → (Str → Option Value) → Led → Prop) (hj : J 0 m₀ news)
    (turn : ∀ (i : Nat) v m₁ nx h tk own, vs[i]? = some v → OwnOff own (nx.map (·.1)) → (l, listOf vs.toArray nn) ∈ nx → J i m₁ nx → Fr h₀ env.locals h m₁ → News h₀ env.locals h (nx ++ own) →
      wpAny (model prog w) A (assign target env v) (fun _ s₃ => wpAny (model prog w) A (execs body env) (InvPostG h₀ env.locals (fun m' nx' => (∀ p ∈ [(l, listOf vs.toArray nn)], p ∈ nx') ∧ J (i + 1) m' nx') own { s with heap := h, toks := tk } Q) E s₃) E { s with heap := h, toks := tk })
    (done : ∀ m₁ nx h tk, J vs.length m₁ nx → Fr h₀ env.locals h m₁ → News h₀ env.locals h nx → Q .next { s with heap := h, toks := tk }) :
    wpAny (model prog w) A (pyIter (.ref l)) (fun it s₂ => TurnsAt prog w A h₀ env target body Q E it s₂) E s := by
  have hax := N _ hm
  have hl : s.heap.IsList l vs.toArray := ⟨_, hax.1, rfl, nn, rfl⟩
  have hlt : l < s.heap.objs.size := Heap.lt_size hax.1
  have hne : l ≠ s.heap.objs.size := Nat.ne_of_lt hlt
  refine wpAny_pyIter_list hl ?_
  refine tt_inv (tk0 := s.toks) (keep := [(l, listOf vs.toArray nn)]) (n := vs.length) (news := news) (by
      have W := Walks.list (prog := prog) (w := w) hh s.heap.objs.size l hne vs.toArray
      rw [List.size_toArray] at W
      exact KTurns.ofWalks W fun i v s Q E st q => letGo_listiter st.1 q) ?_ ?_ ?_ ?_ ?_ ?_ (F.push _) (fun p hp => ⟨Heap.get?_push_of_some _ (N p hp).1, (N p hp).2⟩) (List.forall_mem_cons.mpr ⟨hm, List.forall_mem_nil _⟩) J hj ?_ done
  · intro b hb
    have hb' : b = s.heap.objs.size ∨ b = l := by simpa using hb
    rcases hb' with rfl | rfl
    · exact .inl (by simp)
    · exact .inr ⟨_, .head _⟩
  · intro i h st b hb
    obtain ⟨it, hit, hic, _⟩ := st.1
    have hb' : b = s.heap.objs.size := by simpa using hb
    subst hb'
    exact ⟨it, hit⟩
  · intro hI
    rcases List.mem_cons.mp hI with e | hI
    · exact absurd F.ns.lt (e ▸ Nat.lt_irrefl _)
    · exact hax.2.1 (List.mem_singleton.mp hI).symm
  · intro b hb
    have hb' : b = s.heap.objs.size := by simpa using hb
    rw [hb']
    exact next_is_new F
  · intro p hp hI
    exact absurd (Heap.lt_size (N p hp).1) ((List.mem_singleton.mp hI) ▸ Nat.lt_irrefl _)
  · exact ⟨⟨_, Heap.get?_push_size _ rfl, rfl, rfl⟩, hl.at fun o e => Heap.get?_push_of_some _ e⟩
  · intro i v m₁ nx h tk own hin hP hoff hk₁ hJ F₁ N₁
    exact turn i v m₁ nx h tk own (by simpa using hP) hoff (hk₁ _ (.head _)) hJ F₁ N₁
end
theorem frame_of {st : List Str} {m m₀ : Str → Option Value} (h : ∀ y, st.contains y = false → m y = m₀ y) : m = fun y => if st.contains y = true then m y else m₀ y := by
  funext y
  cases e : st.contains y with
  | true => rw [if_pos rfl]
  | false => rw [if_neg Bool.false_ne_true]; exact h y e
/-- between the turns: a list grows at D, all else that was made stands, the names in st alone have turned -/
inductive GrowJ (news : Led) (st : List Str) (m₀ : Str → Option Value) (D : Addr) (R : Nat → Led → List Value → Prop) (i : Nat) (m : Str → Option Value) (nx : Led) : Prop
  | mk {us : Array Value} {cn : Nat} {tl : Led} (e : nx = (D, listOf us cn) :: (news ++ tl)) (ho : Off news tl) (hd : ∀ q ∈ tl, q.1 ≠ D) (hm : ∀ y, st.contains y = false → m y = m₀ y) (hr : R i tl us.toList) : GrowJ news st m₀ D R i m nx
theorem GrowJ.start {news : Led} {st : List Str} {m₀ : Str → Option Value} {D : Addr} {R : Nat → Led → List Value → Prop} {us : Array Value} {cn : Nat} (hr : R 0 [] us.toList) : GrowJ news st m₀ D R 0 m₀ ((D, listOf us cn) :: news) :=
  .mk (tl := []) (by rw [List.append_nil]) Off.nil (fun _ h => nomatch h) (fun _ _ => rfl) hr
theorem newsDrop2 {h₀ h : Heap} {L : Addr} {x y : Addr × Obj} {r : Led} (N : News h₀ L h (x :: y :: r)) : News h₀ L h (x :: r) := fun p hp => N p (by
  rcases List.mem_cons.mp hp with rfl | hp
  · exact .head _
  · exact .tail _ (.tail _ hp))
theorem own_ne {own l : Led} {D : Addr} {o : Obj} (h : OwnOff own (((D, o) :: l).map (·.1))) : ∀ p ∈ own, p.1 ≠ D := fun p hp => h p hp D (.head _)
theorem GrowJ.turn {h₀ h' : Heap} {L : Addr} {news tl own add led' keep : Led} {st : List Str} {m₀ m' : Str → Option Value} {D : Addr} {o : Obj} {R : Nat → Led → List Value → Prop} {i : Nat} {s₁ : Shared} {tk : Nat} {us' : Array Value} {cn' : Nat}
    (F : Fr h₀ L h' m') (N : News h₀ L h' led') (ho : Off news tl) (hd : ∀ q ∈ tl, q.1 ≠ D) (hoff : OwnOff own (((D, o) :: (news ++ tl)).map (·.1))) (hadd : Off ((D, o) :: (news ++ (tl ++ own))) add) (hk : ∀ p ∈ keep, p ∈ news)
    (hl : ∀ p ∈ (D, listOf us' cn') :: (news ++ (tl ++ (own ++ add))), p ∈ led') (hm : ∀ y, st.contains y = false → m' y = m₀ y) (hr : R (i + 1) (tl ++ add) us'.toList) :
    InvEndG h₀ L (fun m' nx' => (∀ p ∈ keep, p ∈ nx') ∧ GrowJ news st m₀ D R (i + 1) m' nx') own s₁ { s₁ with heap := h', toks := tk } := by
  refine InvEndG.intro (nx := (D, listOf us' cn') :: (news ++ (tl ++ add))) F N ⟨fun p hp => .tail _ (List.mem_append.mpr (.inl (hk p hp))), .mk rfl ?_ ?_ hm hr⟩ ?_ ?_ ?_
  · exact Off.app ho fun q hq => hadd q (.tail _ (List.mem_append.mpr (.inl hq)))
  · intro q hq
    rcases List.mem_append.mp hq with hq | hq
    · exact hd q hq
    · exact hadd (D, o) (.head _) q hq
  · intro p hp b hb
    obtain ⟨q, hq, rfl⟩ := List.mem_map.mp hb
    rcases List.mem_cons.mp hq with rfl | hq
    · exact hoff p hp D (.head _)
    · rcases List.mem_append.mp hq with hq | hq
      · exact hoff p hp _ (List.mem_map.mpr ⟨q, .tail _ (List.mem_append.mpr (.inl hq)), rfl⟩)
      · rcases List.mem_append.mp hq with hq | hq
        · exact hoff p hp _ (List.mem_map.mpr ⟨q, .tail _ (List.mem_append.mpr (.inr hq)), rfl⟩)
        · exact fun e => hadd p (.tail _ (List.mem_append.mpr (.inr (List.mem_append.mpr (.inr hp))))) q hq e.symm
  · intro p hp
    refine hl p ?_
    rcases List.mem_cons.mp hp with rfl | hp
    · exact .head _
    · refine .tail _ ?_
      rcases List.mem_append.mp hp with hp | hp
      · exact List.mem_append.mpr (.inl hp)
      · rcases List.mem_append.mp hp with hp | hp
        · exact List.mem_append.mpr (.inr (List.mem_append.mpr (.inl hp)))
        · exact List.mem_append.mpr (.inr (List.mem_append.mpr (.inr (List.mem_append.mpr (.inr hp)))))
  · intro p hp
    exact hl p (.tail _ (List.mem_append.mpr (.inr (List.mem_append.mpr (.inr (List.mem_append.mpr (.inl hp)))))))
/-- the end of such a loop: the list at D is handed on or back -/
theorem GrowJ.out {news nx : Led} {st : List Str} {m₀ m : Str → Option Value} {D : Addr} {R : Nat → Led → List Value → Prop} {i : Nat} (h : GrowJ news st m₀ D R i m nx) :
    ∃ us cn tl, nx = (D, listOf us cn) :: (news ++ tl) ∧ Off news tl ∧ (∀ q ∈ tl, q.1 ≠ D) ∧ (m = fun y => if st.contains y = true then m y else m₀ y) ∧ R i tl us.toList := by
  obtain ⟨e, ho, hd, hm, hr⟩ := h
  exact ⟨_, _, _, e, ho, hd, frame_of hm, hr⟩
section
variable {prog : Program} {w : World} {A : Around} {E : Value → Shared → Prop} {s : Shared} {env : Env} {h₀ : Heap} {x : Str} {body : List Stmt} {Q : Flow → Shared → Prop}
theorem range_inv {r : Addr} {a₀ b₀ : Int} {t₀ u₀ v₀ : Tok} {n : Nat} {m₀ : Str → Option Value} {news : Led} (hh : A.handled = none) (hr : IsRange s.heap r a₀ b₀ 1 t₀ u₀ v₀) (hsmall : Builtin.Range.small a₀ b₀ 1 = true) (hsz : Builtin.Range.rangeSize a₀ b₀ 1 = (n : Int))
    (F : Fr h₀ env.locals s.heap m₀) (N : News h₀ env.locals s.heap news) (J : Nat → (Str → Option Value) → Led → Prop) (hj : J 0 m₀ news)
    (turn : ∀ (i : Nat) t m₁ nx h tk own, i < n → OwnOff own (nx.map (·.1)) → J i m₁ nx → Fr h₀ env.locals h (fun y => if y = x then some (.int (a₀ + (i : Int)) t) else m₁ y) → News h₀ env.locals h (nx ++ own) →
      wpAny (model prog w) A (execs body env) (InvPostG h₀ env.locals (J (i + 1)) own { s with heap := h, toks := tk } Q) E { s with heap := h, toks := tk })
    (done : ∀ m₁ nx h tk, J n m₁ nx → Fr h₀ env.locals h m₁ → News h₀ env.locals h nx → Q .next { s with heap := h, toks := tk }) :
    wpAny (model prog w) A (pyIter (.ref r)) (fun it s₂ => LoopAtV prog w A h₀ env x body Q E it s₂) E s := by
  refine wpAny_pyIter_range hr hsmall ?_
  have W : Walks prog w A s.heap.objs.size [s.heap.objs.size] [s.heap.objs.size] n (fun i v => i < n ∧ ∃ t, v = .int (a₀ + i * 1) t)
      (fun i h => IsRangeIter h s.heap.objs.size (a₀ + (i : Nat) * 1) ((n : Int) - (i : Nat)) 1) := (Walks.range hh _ a₀ 1 n).bound
  refine kdr_loop J W (fun _ h => h) (fun _ h => h) ?_ ?_ ?_ ?_ (by show IsRangeIter _ _ _ _ _; rw [hsz]; simpa using Heap.get?_push_size _ rfl) (F.push _) (fun p hp => ⟨Heap.get?_push_of_some _ (N p hp).1, (N p hp).2⟩) hj ?_ done
  · intro i h hi b hb
    rw [List.mem_singleton.mp hb]
    exact ⟨_, hi⟩
  · intro hm
    exact absurd F.ns.lt ((List.mem_singleton.mp hm) ▸ Nat.lt_irrefl _)
  · intro b hb
    rw [List.mem_singleton.mp hb]
    exact next_is_new F
  · intro p hp hI
    exact absurd (Heap.lt_size (N p hp).1) ((List.mem_singleton.mp hI) ▸ Nat.lt_irrefl _)
  · rintro i v m₁ nx h tk own hi ⟨_, t, rfl⟩ hoff hJ F₁ N₁
    have e1 : a₀ + (i : Int) * 1 = a₀ + (i : Int) := by omega
    rw [e1] at F₁
    exact turn i t m₁ nx h tk own hi hoff hJ F₁ N₁
end
section
variable {prog : Program} {w : World} {A : Around} {E : Value → Shared → Prop} {s : Shared} {h₀ : Heap} {L l : Addr}
theorem len_led {led : Led} {vs : List Value} {n k : Nat} {Q : Value → Shared → Prop} (N : News h₀ L s.heap led) (hm : (l, listOf vs.toArray n) ∈ led) (hk : vs.length = k) (hfit : k < 2 ^ 62)
    (h : Q (.int (k : Int) (s.toks + 1)) { s with toks := s.toks + 1 + 1 }) : wpAny (model prog w) A (call (.builtin "len") [.ref l]) Q E s := by
  have e : vs.toArray.size = k := by rw [List.size_toArray, hk]
  exact len_list (News.isList N hm) (by rw [e]; omega) (by rw [e]; exact h)
theorem len_ledA {led : Led} {us : Array Value} {n k : Nat} {Q : Value → Shared → Prop} (N : News h₀ L s.heap led) (hm : (l, listOf us n) ∈ led) (hk : us.size = k) (hfit : k < 2 ^ 62)
    (h : Q (.int (k : Int) (s.toks + 1)) { s with toks := s.toks + 1 + 1 }) : wpAny (model prog w) A (call (.builtin "len") [.ref l]) Q E s := by
  subst hk
  exact len_list (News.isList N hm) (by omega) h
end
/-- in hand: the loops over ranges here go by what holds between the turns -/
structure ByInv : Prop where
/-- the walk waits here -/
noncomputable def Hold (P : Prop) : Prop := P
theorem Hold.out {P : Prop} (h : Hold P) : P := h
section
variable {prog : Program} {w : World} {A : Around} {E : Value → Shared → Prop} {s : Shared} {h₀ : Heap} {L D : Addr} {m : Str → Option Value} {news news' : Led}
theorem set_led {vs : List Value} {n : Nat} {k : Int} {t : Tok} {v : Value} {Q : Unit → Shared → Prop} (F : Fr h₀ L s.heap m) (N : News h₀ L s.heap news) (U : Upd D (listOf vs.toArray n) (listOf (vs.set k.toNat v).toArray n) news news') (h0 : 0 ≤ k) (h1 : k < vs.length) (hfit : k < 2 ^ 63)
    (h : ∀ h', Fr h₀ L h' m → News h₀ L h' news' → Q () { s with heap := h' }) : wpAny (model prog w) A (setItem (.ref D) (.int k t) v) Q E s := by
  obtain ⟨pre, post, rfl, rfl, a, b'⟩ := U.split
  have z := N (D, listOf vs.toArray n) (List.mem_append.mpr (.inr (.head _)))
  have hs : vs.toArray.size = vs.length := List.size_toArray
  refine ki_setAt z.1 h0 hfit (by omega) (h _ (F.change (Heap.SameBut.update ..) z.2.1 z.2.2) (ki_turn _ N a b' ?_ ?_))
  · show vs.toArray.setIfInBounds k.toNat v = (vs.set k.toNat v).toArray
    apply Array.toList_inj.mp
    simp
  · simp
end
section
open LCg
variable {prog : Program} {w : World} {A : Around} {E : Value → Shared → Prop} {s : Shared} {h₀ : Heap} {L : Addr} {m : Str → Option Value} {env : Env}
theorem compU_inv {elt : Expr} {x : Str} {scope : Scope} {cl : List (Str × Addr)} {S : Led → Prop} {P : Nat → Value → Prop} {Fin : List Value → Led → Prop} {n : Nat} (J : Nat → List Value → Led → Prop)
    (turn : ∀ i ys news, i < n → J i ys news → ∀ v I oI C oC D m₂ h tk (E' : Value → Shared → Prop), P i v → NsObj oC m₂ → m₂ x = some v → Fr h₀ L h m → News h₀ L h ((I, oI) :: (C, oC) :: (D, lst ys) :: news) → Off3 I C D news → ((@Ne Nat I C) ∧ (@Ne Nat I D) ∧ (@Ne Nat C D)) →
      wpAny (model prog w) A (eval elt (compEnvC scope cl C env)) (CompEnd h₀ L m { s with heap := h, toks := tk } I oI C oC D (lst ys) S (fun y news' => J (i + 1) (ys ++ [y]) news')) E' { s with heap := h, toks := tk })
    (done : ∀ ys news, J n ys news → Fin ys news) : ∀ k i ys news, i + k = n → J i ys news → CompRest prog w A h₀ L m env elt x scope cl s S P Fin k i ys news := by
  intro k
  induction k with
  | zero =>
    intro i ys news e hJ
    have : i = n := by omega
    subst this
    exact done ys news hJ
  | succ k ih =>
    intro i ys news e hJ
    intro v I oI C oC D m₂ h tk E' hP hC hx F N o3 hne
    refine wpAny_mono (turn i ys news (by omega) hJ v I oI C oC D m₂ h tk E' hP hC hx F N o3 hne) (fun y s₂ hy => ?_) fun _ _ e => e
    obtain ⟨h', tk', news', e1, F', N', o3', hS, hr⟩ := hy
    exact ⟨h', tk', news', e1, F', N', o3', hS, ih (i + 1) _ _ (by omega) hr⟩
theorem compT_inv {ct elt : Expr} {x : Str} {scope : Scope} {cl : List (Str × Addr)} {S : Led → Prop} {P : Nat → Value → Prop} {Fin : List Value → Led → Prop} {n : Nat} (J : Nat → List Value → Led → Prop)
    (turn : ∀ i ys news, i < n → J i ys news → ∀ v I oI C oC D m₂ h tk (E' : Value → Shared → Prop), P i v → NsObj oC m₂ → m₂ x = some v → Fr h₀ L h m → News h₀ L h ((I, oI) :: (C, oC) :: (D, lst ys) :: news) → Off3 I C D news → ((@Ne Nat I C) ∧ (@Ne Nat I D) ∧ (@Ne Nat C D)) →
      wpAny (model prog w) A (isTrue ct (compEnvC scope cl C env) (eval ct (compEnvC scope cl C env))) (fun ok s' => if ok = true then
        wpAny (model prog w) A (eval elt (compEnvC scope cl C env)) (CompEnd h₀ L m { s with heap := h, toks := tk } I oI C oC D (lst ys) S (fun y news' => J (i + 1) (ys ++ [y]) news')) E' s'
        else CompEnd h₀ L m { s with heap := h, toks := tk } I oI C oC D (lst ys) S (fun _ news' => J (i + 1) ys news') Value.none s') E' { s with heap := h, toks := tk })
    (done : ∀ ys news, J n ys news → Fin ys news) : ∀ k i ys news, i + k = n → J i ys news → LCt.CompRestT prog w A h₀ L m env ct elt x scope cl s S P Fin k i ys news := by
  intro k
  induction k with
  | zero =>
    intro i ys news e hJ
    have : i = n := by omega
    subst this
    exact done ys news hJ
  | succ k ih =>
    intro i ys news e hJ
    intro v I oI C oC D m₂ h tk E' hP hC hx F N o3 hne
    refine wpAny_mono (turn i ys news (by omega) hJ v I oI C oC D m₂ h tk E' hP hC hx F N o3 hne) (fun ok s₂ hy => ?_) fun _ _ e => e
    by_cases hok : ok = true
    · rw [if_pos hok] at hy ⊢
      refine wpAny_mono hy (fun y s₃ hy => ?_) fun _ _ e => e
      obtain ⟨h', tk', news', e1, F', N', o3', hS, hr⟩ := hy
      exact ⟨h', tk', news', e1, F', N', o3', hS, ih (i + 1) _ _ (by omega) hr⟩
    · rw [if_neg hok] at hy ⊢
      obtain ⟨h', tk', news', e1, F', N', o3', hS, hr⟩ := hy
      exact ⟨h', tk', news', e1, F', N', o3', hS, ih (i + 1) _ _ (by omega) hr⟩
end
section
variable {prog : Program} {w : World} {A : Around} {E : Value → Shared → Prop} {s : Shared} {h₀ : Heap} {L l : Addr} {m : Str → Option Value} {news : Led} {value slice : PySem.Expr} {vs zs : List Value} {n : Nat} {vl vu : Value} {lo hi : Option Int} {Q : Value → Shared → Prop}
theorem slice_led (F : Fr h₀ L s.heap m) (N : News h₀ L s.heap news) (hm : (l, listOf vs.toArray n) ∈ news) (pl : IsPart vl lo) (pu : IsPart vu hi) (e : slicePick vs.toArray lo hi none = zs.toArray)
    (h : ∀ D h', Fr h₀ L h' m → News h₀ L h' ((D, listOf zs.toArray 0) :: news) → (∀ p ∈ news, p.1 < D) → Q (.ref D) { s with heap := h' })
    (hs : subscripted slice false (.ref l) (.ref s.heap.objs.size) = operate [.ref s.heap.objs.size, .ref l] (getItem (.ref l) (.ref s.heap.objs.size))) (ht : ∀ r, letTemporaryGo value (.ref l) r = pure ()) (hz : vs.length ≤ 100) :
    wpAny (model prog w) A (subscriptTail value slice (.ref l) (.ref s.heap.objs.size)) Q E { s with heap := s.heap.push { cls := .type "slice", data := .fields #[vl, vu, .none] } } :=
  kmk_slice F N (News.isList N hm) pl pu (fun D h' F' N' l1 => h D h' F' (e ▸ N') l1) hs ht (by rw [List.size_toArray]; simp only [PySem.sizeLine_eq]; omega)
theorem pick_all {vs : List Value} : slicePick vs.toArray none none none = vs.toArray := slicePick_all _
theorem pick_from1 {vs : List Value} : slicePick vs.toArray (some 1) none none = (vs.drop 1).toArray := by
  have h := slicePick_from' vs.toArray 1
  simpa using h
end
theorem off3_app {I C D : Addr} {oI oC oD : Obj} {l add : Led} (h : LCg.Off3 I C D l) (k : Off ((I, oI) :: (C, oC) :: (D, oD) :: l) add) : LCg.Off3 I C D (l ++ add) := LCg.Off3.of fun p hp => by
  rcases List.mem_append.mp hp with hp | hp
  · exact h.mem p hp
  · exact ⟨k (I, oI) (.head _) p hp, k (C, oC) (.tail _ (.head _)) p hp, k (D, oD) (.tail _ (.tail _ (.head _))) p hp⟩
theorem comp_end {base tl add all : Led} {I C D ax : Addr} {oI oC : Obj} {ys its : List Value} {nn : Nat} {R : Value → Led → Prop} {h₀ h' : Heap} {L : Addr} {m : Str → Option Value} {s₁ : Shared} {y : Value} {tk : Nat}
    (F : Fr h₀ L h' m) (N : News h₀ L h' all) (ho : Off base tl) (o3 : LCg.Off3 I C D (base ++ tl)) (hadd : Off ((I, oI) :: (C, oC) :: (D, LCg.lst ys) :: (base ++ tl)) add)
    (hsub : ∀ p ∈ (I, oI) :: (C, oC) :: (D, LCg.lst ys) :: (base ++ (tl ++ add)), p ∈ all) (hm : (ax, listOf its.toArray nn) ∈ base) (hr : R y (base ++ (tl ++ add))) :
    LCg.CompEnd h₀ L m s₁ I oI C oC D (LCg.lst ys) (LCg.SrcAt h₀ ax its.toArray) (fun y news' => ∃ tl', news' = base ++ tl' ∧ Off base tl' ∧ R y (base ++ tl')) y { s₁ with heap := h', toks := tk } := by
  refine LCg.CompEnd.intro F N (base ++ (tl ++ add)) hsub ?_ (.inr ⟨_, List.mem_append.mpr (.inl hm), rfl, _, rfl⟩) ⟨_, rfl, ?_, hr⟩
  · rw [← List.append_assoc]
    exact off3_app o3 hadd
  · exact ho.app fun q hq => hadd q (.tail _ (.tail _ (.tail _ (List.mem_append.mpr (.inl hq)))))
theorem off1_ne {D : Addr} : ∀ {l : Led}, LCg.Off1 D l → ∀ p ∈ l, p.1 ≠ D
  | [], _, _, h => nomatch h
  | _ :: _, x, p, h => by
    rcases List.mem_cons.mp h with rfl | h
    · exact x.1
    · exact off1_ne x.2 p h
theorem newsRot {h₀ h : Heap} {L : Addr} {x y z : Addr × Obj} {r : Led} (N : News h₀ L h (x :: y :: z :: r)) : News h₀ L h (z :: y :: r) := newsSub N (by
  intro p hp
  rcases List.mem_cons.mp hp with rfl | hp
  · exact .tail _ (.tail _ (.head _))
  · rcases List.mem_cons.mp hp with rfl | hp
    · exact .tail _ (.head _)
    · exact .tail _ (.tail _ (.tail _ hp)))
theorem frame_of2 {st : List Str} {m m₀ : Str → Option Value} {x : Str} {v : Value} (h : ∀ y, y ≠ x → st.contains y = false → m y = m₀ y) (hx : m x = some v) : m = fun y => if y = x then some v else if st.contains y = true then m y else m₀ y := by
  funext y
  by_cases e : y = x
  · rw [if_pos e, e, hx]
  · rw [if_neg e]
    cases e' : st.contains y with
    | true => rw [if_pos rfl]
    | false => rw [if_neg Bool.false_ne_true]; exact h y e e'
theorem ownoff2 {own B tl add X : Led} {R P : Addr} {o o' q q' : Obj} (h : OwnOff own (((R, o) :: (P, q) :: (B ++ tl)).map (·.1))) (k : Off X add) (hX : ∀ p ∈ own, p ∈ X) : OwnOff own (((R, o') :: (P, q') :: (B ++ (tl ++ add))).map (·.1)) := by
  intro p hp b hb
  obtain ⟨r, hr, rfl⟩ := List.mem_map.mp hb
  rcases List.mem_cons.mp hr with rfl | hr
  · exact h p hp R (.head _)
  · rcases List.mem_cons.mp hr with rfl | hr
    · exact h p hp P (.tail _ (.head _))
    · rcases List.mem_append.mp hr with hr | hr
      · exact h p hp _ (List.mem_map.mpr ⟨r, .tail _ (.tail _ (List.mem_append.mpr (.inl hr))), rfl⟩)
      · rcases List.mem_append.mp hr with hr | hr
        · exact h p hp _ (List.mem_map.mpr ⟨r, .tail _ (.tail _ (List.mem_append.mpr (.inr hr))), rfl⟩)
        · exact fun e => k p (hX p hp) r hr e.symm
theorem own_ne2 {own l : Led} {D P : Addr} {o q : Obj} (h : OwnOff own (((D, o) :: (P, q) :: l).map (·.1))) : ∀ p ∈ own, p.1 ≠ P := fun p hp => h p hp P (.tail _ (.head _))
theorem off_cons2 {R P : Addr} {o q : Obj} {l tl : Led} (h1 : ∀ p ∈ tl, p.1 ≠ R) (h2 : ∀ p ∈ tl, p.1 ≠ P) (h : Off l tl) : Off ((R, o) :: (P, q) :: l) tl := fun r hr p hp => by
  rcases List.mem_cons.mp hr with rfl | hr
  · exact h1 p hp
  · rcases List.mem_cons.mp hr with rfl | hr
    · exact h2 p hp
    · exact h r hr p hp
theorem Off.cons' {news tl : Led} {D : Addr} {o : Obj} (l : ∀ q ∈ news, q.1 ≠ D) (h : Off news tl) : Off news ((D, o) :: tl) := fun q hq p hp => by
  rcases List.mem_cons.mp hp with rfl | hp
  · exact Ne.symm (l q hq)
  · exact h q hq p hp
theorem if_out {y x : Str} {st : List Str} (hy : st.contains y = false) (hx : st.contains x = true) : ¬ y = x := fun e => by
  rw [e, hx] at hy
  cases hy
theorem if_outL {y : Str} {l st : List Str} (hy : st.contains y = false) (hx : l.all (fun z => st.contains z) = true) : ¬ l.contains y = true := fun e => by
  rw [List.all_eq_true.mp hx y (by simpa using e)] at hy
  cases hy
end
local macro_rules | `(tactic| tb_start) => `(tactic| (intro y hy; (try dsimp only); (repeat (first | rfl | rw [if_neg (if_out hy (by decide))] | rw [if_neg (if_outL hy (by decide))]))))
local macro_rules | `(tactic| walk_at "call builtin:len") => `(tactic| (k_here; (with_reducible show wpAny _ _ (call (Value.builtin "len") [Value.ref _]) _ _ _); k_dflt (first | refine' len_ledA (by k_asm) (by ktr_unf; done) (by assumption) (by omega) ?_ | refine' len_led (by k_asm) (by ktr_unf; done) (by assumption) (by omega) ?_); k_whole))
local macro_rules | `(tactic| walk_at "exec For Name Call cons nil") => `(tactic| (k_here; (with_reducible rename ByInv => bi); refine Hold.out ?_))
local macro_rules | `(tactic| walk_at "call type:range") => `(tactic| (k_here; (with_reducible rename ByInv => bi); refine Hold.out ?_))
local macro_rules | `(tactic| walk_at "setItem ref int") => `(tactic| (k_here; (with_reducible rename ByInv => bi); refine Hold.out ?_))
local macro_rules | `(tactic| walk_at "eval ListComp") => `(tactic| (k_here; (with_reducible rename ByInv => bi); refine Hold.out ?_))
local macro_rules | `(tactic| walk_at "subscriptTail Name Slice ref ref") => `(tactic| (k_here; (with_reducible rename ByInv => bi); refine Hold.out ?_))
local macro_rules | `(tactic| walk_at "CompSrc") => `(tactic| ((with_reducible rename ByInv => bi); refine Hold.out ?_))
local macro_rules | `(tactic| walk_at "CompSrcT") => `(tactic| ((with_reducible rename ByInv => bi); refine Hold.out ?_))
local macro_rules | `(tactic| walk_at "ite") => `(tactic| ((with_reducible rename ByInv => bi); (first | (with_reducible refine ite_neg (by simp; done) ?_) | (with_reducible refine ite_pos (by simp; done) ?_))))
section
inductive SgnAll (l : Led) : List Value → List Int → Prop
  | nil : SgnAll l [] []
  | cons {v : Value} {z : Int} {vs : List Value} {zs : List Int} (h : SgnIn l v z) (t : SgnAll l vs zs) : SgnAll l (v :: vs) (z :: zs)
theorem SgnAll.mono {l l' : Led} (hs : ∀ p ∈ l, p ∈ l') : ∀ {vs : List Value} {zs : List Int}, SgnAll l vs zs → SgnAll l' vs zs
  | _, _, .nil => .nil
  | _, _, .cons h t => .cons (h.mono hs) (t.mono hs)
theorem SgnAll.length {l : Led} : ∀ {vs : List Value} {zs : List Int}, SgnAll l vs zs → vs.length = zs.length
  | _, _, .nil => rfl
  | _, _, .cons _ t => congrArg (· + 1) t.length
theorem SgnAll.get {l : Led} : ∀ {vs : List Value} {zs : List Int}, SgnAll l vs zs → ∀ (i : Nat), i < zs.length → ∃ v, vs[i]? = some v ∧ SgnIn l v (zs.getD i 0)
  | _, _, .nil, _, h => absurd h (Nat.not_lt_zero _)
  | _, _, .cons h t, 0, _ => ⟨_, rfl, h⟩
  | _, _, .cons h t, i + 1, hi => t.get i (Nat.lt_of_succ_lt_succ hi)
theorem SgnAll.snoc {l : Led} {v : Value} {z : Int} (h : SgnIn l v z) : ∀ {vs : List Value} {zs : List Int}, SgnAll l vs zs → SgnAll l (vs ++ [v]) (zs ++ [z])
  | _, _, .nil => .cons h .nil
  | _, _, .cons k t => .cons k (t.snoc h)
inductive RowIn (l : Led) : Value → List Int → Prop
  | mk {a : Addr} {n : Nat} {vs : List Value} {zs : List Int} (h : (a, listOf vs.toArray n) ∈ l) (hs : SgnAll l vs zs) : RowIn l (.ref a) zs
theorem RowIn.mono {l l' : Led} {v : Value} {zs : List Int} (hs : ∀ p ∈ l, p ∈ l') (h : RowIn l v zs) : RowIn l' v zs := by
  cases h with
  | mk h k => exact .mk (hs _ h) (k.mono hs)
theorem RowIn.mk' {l : Led} {a : Addr} {n : Nat} {us : Array Value} {zs : List Int} (h : (a, listOf us n) ∈ l) (hs : SgnAll l us.toList zs) : RowIn l (.ref a) zs := .mk (vs := us.toList) (by simpa using h) hs
/-- a row cleared by the head, at a column, the one before divided out -/
noncomputable def clr (row head : List Int) (c : Nat) (p : Int) : List Int := List.zipWith (fun v h => (v * head.getD c 0 - row.getD c 0 * h).tdiv p) row head
noncomputable def okClr (row head : List Int) (c : Nat) : Bool := decide (c < row.length) && decide (row.length = head.length) && decide (row.length < 8) && (row.zip head).all fun q => decide ((q.1 * head.getD c 0).natAbs + (row.getD c 0 * q.2).natAbs < 16)
inductive ClrIn (news : Led) : List Value → List Int × List Int × Nat × Int → Prop
  | mk {va vb vp : Value} {row head : List Int} {c : Nat} {p w : Int} {t u : Tok} (ha : RowIn news va row) (hb : RowIn news vb head) (hp : PrIn news vp p) (hw : 4 ≤ w) (hw' : w ≤ 8) (ok : okClr row head c = true) :
      ClrIn news [va, vb, .int (c : Int) t, vp, .int w u, .ref 228, .ref 270] (row, head, c, p)
theorem ok_at {row head : List Int} {f : Int × Int → Bool} (h : (row.zip head).all f = true) {i : Nat} (h1 : i < row.length) (h2 : i < head.length) : f (row.getD i 0, head.getD i 0) = true := by
  refine List.all_eq_true.mp h _ ?_
  have e1 : row.getD i 0 = row[i] := by simp [List.getD, h1]
  have e2 : head.getD i 0 = head[i] := by simp [List.getD, h2]
  rw [e1, e2]
  exact List.mem_iff_getElem.mpr ⟨i, by rw [List.length_zip]; omega, List.getElem_zip⟩
theorem clr_take {row head : List Int} {c i : Nat} {p : Int} (h : row.length = head.length) (hi : i < row.length) :
    (clr row head c p).take (i + 1) = (clr row head c p).take i ++ [(row.getD i 0 * head.getD c 0 - row.getD c 0 * head.getD i 0).tdiv p] := by
  have hl : i < (clr row head c p).length := by unfold clr; rw [List.length_zipWith]; omega
  rw [List.take_add_one, List.getElem?_eq_getElem hl]
  have e1 : row.getD i 0 = row[i] := by simp [List.getD, hi]
  have e2 : head.getD i 0 = head[i]'(h ▸ hi) := by simp [List.getD, h ▸ hi]
  rw [e1, e2]
  simp only [clr, List.getElem_zipWith, Option.toList]
set_option maxHeartbeats 8000000 in
theorem clr_tells (w : World) (mean : ExcName → Option Value) (mg mb : Str → Option Value) : ∀ d, Tell w mean mg mb 181 ClrIn (fun _ => 7) (fun _ tl v d => RowIn tl v (clr d.1 d.2.1 d.2.2.1 d.2.2.2)) d := by
  intro d
  unfold Tell
  k_fill
  intro dp un gd cn cs a ccd cl outer A₀ base h₀ L m news s vs Q E B F X N T hk hR hd hu hret
  try dsimp only at hd hu hret
  cases hR with
  | @mk va vb vp row head c p w t u ha hb hp hw hw' ok =>
  simp only [okClr, Bool.and_eq_true, decide_eq_true_eq] at ok
  obtain ⟨⟨⟨o1, o2⟩, o3⟩, o4⟩ := ok
  cases ha with
  | @mk a na vsa _ ha sa =>
  cases hb with
  | @mk b nb vsb _ hb sb =>
  have e1 := sa.length
  have e2 := sb.length
  obtain ⟨vown, g1, q1⟩ := sa.get c o1
  obtain ⟨vpiv, g2, q2⟩ := sb.get c (o2 ▸ o1)
  refine wpAny_call ?_
  k_dflt ktr_enter
  k_steps
  all_goals (try k_data)
  rename Fr _ _ _ _ => lF
  rename News _ _ _ _ => lN
  refine enum_inv (by rfl) lF (newsDrop2 lN) (by k_mem) (GrowJ news [Str.ofString "at", Str.ofString "value", Str.ofString "here"] _ _ fun i l us => SgnAll l us ((clr row head c p).take i)) (GrowJ.start .nil) ?_ ?_
  · intro i v m₁ nx hh tk own T t9 hv hT hoff hmem hJ F₁ N₁
    obtain ⟨e, ho, hd', hm, hr⟩ := hJ
    rename_i us cn tl
    subst e
    rw [frame_of hm] at F₁
    have hown := own_ne hoff
    have hnl := ne_below (And.right (by assumption : (_ : Nat) < _ ∧ AllLt _ news))
    have hus : us.size < 8 := by
      have h1 := hr.length
      rw [Array.length_toList, List.length_take] at h1
      have h2 : i < vsa.length := (List.getElem?_eq_some_iff.mp hv).1
      omega
    simp only [List.cons_append, List.append_assoc] at N₁
    have hi : i < row.length := e1 ▸ (List.getElem?_eq_some_iff.mp hv).1
    obtain ⟨v', hv', qv⟩ := sa.get i hi
    rw [hv] at hv'
    cases hv'
    obtain ⟨vh, hvh, qh⟩ := sb.get i (o2 ▸ hi)
    have hb1 := of_decide_eq_true (ok_at o4 hi (o2 ▸ hi))
    simp only at hb1
    k_steps
    k_dflt (refine' Tell.use (row.getD i 0, head.getD c 0) (smul_tells _ _ _ _ _) ?k1 ?k2 ?k3 ?k4 ?k5 ?k6 ?k7 ?k8 ?k9 ?_; (case k1 => k_asm); (case k2 => k_asm); (case k3 => k_asm); (case k4 => k_asm); (case k5 => k_asm); (case k6 => exact rfl); (case k7 => exact SmulIn.mk (qv.mono (by ktr_rel)) (q2.mono (by ktr_rel)) hw hw' (by omega) (by omega)); (case k8 => ktr_room); (case k9 => ktr_units))
    intro r9 tl9 h9 tk9 F9 N9 hl9 ho9
    (try simp only [List.cons_append, List.nil_append, List.append_assoc] at N9)
    (try dsimp only); (try k_fold)
    k_steps
    all_goals (try k_data)
    k_dflt (refine' Tell.use (row.getD c 0, head.getD i 0) (smul_tells _ _ _ _ _) ?k1 ?k2 ?k3 ?k4 ?k5 ?k6 ?k7 ?k8 ?k9 ?_; (case k1 => k_asm); (case k2 => k_asm); (case k3 => k_asm); (case k4 => k_asm); (case k5 => k_asm); (case k6 => exact rfl); (case k7 => exact SmulIn.mk (q1.mono (by ktr_rel)) (qh.mono (by ktr_rel)) hw hw' (by omega) (by omega)); (case k8 => ktr_room); (case k9 => ktr_units))
    intro r8 tl8 h8 tk8 F8 N8 hl8 ho8
    (try simp only [List.cons_append, List.nil_append, List.append_assoc] at N8)
    (try dsimp only); (try k_fold)
    k_steps
    all_goals (try k_data)
    k_dflt (refine' Tell.use (row.getD i 0 * head.getD c 0, row.getD c 0 * head.getD i 0) (ssub_tells _ _ _ _ _) ?k1 ?k2 ?k3 ?k4 ?k5 ?k6 ?k7 ?k8 ?k9 ?_; (case k1 => k_asm); (case k2 => k_asm); (case k3 => k_asm); (case k4 => k_asm); (case k5 => k_asm); (case k6 => exact rfl); (case k7 => exact SaddIn.mk (ho9.mono (by ktr_rel)) (ho8.mono (by ktr_rel)) hw hw' hb1); (case k8 => ktr_room); (case k9 => ktr_units))
    intro r7 tl7 h7 tk7 F7 N7 hl7 ho7
    (try simp only [List.cons_append, List.nil_append, List.append_assoc] at N7)
    (try dsimp only); (try k_fold)
    k_steps
    all_goals (try k_data)
    k_dflt (refine' Tell.use (row.getD i 0 * head.getD c 0 - row.getD c 0 * head.getD i 0, p) (exact_tells _ _ _ _ _) ?k1 ?k2 ?k3 ?k4 ?k5 ?k6 ?k7 ?k8 ?k9 ?_; (case k1 => k_asm); (case k2 => k_asm); (case k3 => k_asm); (case k4 => k_asm); (case k5 => k_asm); (case k6 => exact rfl); (case k7 => exact TdivIn.mk (ho7.mono (by ktr_rel)) (hp.mono (by ktr_rel)) hw hw'); (case k8 => ktr_room); (case k9 => ktr_units))
    intro r6 tl6 h6 tk6 F6 N6 hl6 ho6
    (try simp only [List.cons_append, List.nil_append, List.append_assoc] at N6)
    (try dsimp only); (try k_fold)
    k_steps
    all_goals (try k_data)
    refine GrowJ.turn (us' := us.push r6) (cn' := cn + 1) (add := tl9 ++ (tl8 ++ (tl7 ++ tl6))) (by k_asm) (by k_asm) ho hd' hoff (Off.app hl9 (Off.app (Off.sub hl8 (by ktr_rel)) (Off.app (Off.sub hl7 (by ktr_rel)) (Off.sub hl6 (by ktr_rel))))) (List.forall_mem_cons.mpr ⟨ha, List.forall_mem_nil _⟩) (by ktr_rel) ?_ ?_
    · tb_start
    · rw [Array.toList_push, clr_take o2 hi]
      exact (hr.mono (by ktr_rel)).snoc (ho6.mono (by ktr_rel))
  · intro m₁ nx hh tk hJ F₁ N₁
    obtain ⟨us, cn, tl, rfl, ho, hd', hm, hr⟩ := hJ.out
    rw [hm] at F₁
    k_steps
    have hnl := And.right (by assumption : (_ : Nat) < _ ∧ AllLt _ news)
    rw [List.take_of_length_le (by unfold clr; rw [List.length_zipWith]; omega)] at hr
    (refine' hret _ ((_, _) :: tl) _ _ ?f1 ?f2 (Off.cons hnl ho) ?f3; (case f1 => k_asm); (case f2 => first | k_asm | exact ktn_tl0 (by k_asm) | exact ktn_tl1 (by k_asm) | exact ktn_tl2 (by k_asm) | exact newsSub (by k_asm) (by ktr_rel) | exact newsTop (by k_asm) (by ktr_rel)); (case f3 => exact (RowIn.mk' (.head _) (hr.mono fun _ h => .tail _ h))))
end
section
inductive RowAll (l : Led) : List Value → List (List Int) → Prop
  | nil : RowAll l [] []
  | cons {v : Value} {z : List Int} {vs : List Value} {zs : List (List Int)} (h : RowIn l v z) (t : RowAll l vs zs) : RowAll l (v :: vs) (z :: zs)
theorem RowAll.mono {l l' : Led} (hs : ∀ p ∈ l, p ∈ l') : ∀ {vs : List Value} {zs : List (List Int)}, RowAll l vs zs → RowAll l' vs zs
  | _, _, .nil => .nil
  | _, _, .cons h t => .cons (h.mono hs) (t.mono hs)
theorem RowAll.length {l : Led} : ∀ {vs : List Value} {zs : List (List Int)}, RowAll l vs zs → vs.length = zs.length
  | _, _, .nil => rfl
  | _, _, .cons _ t => congrArg (· + 1) t.length
theorem RowAll.get {l : Led} : ∀ {vs : List Value} {zs : List (List Int)}, RowAll l vs zs → ∀ (i : Nat), i < zs.length → ∃ v, vs[i]? = some v ∧ RowIn l v (zs.getD i [])
  | _, _, .nil, _, h => absurd h (Nat.not_lt_zero _)
  | _, _, .cons h t, 0, _ => ⟨_, rfl, h⟩
  | _, _, .cons h t, i + 1, hi => t.get i (Nat.lt_of_succ_lt_succ hi)
theorem RowAll.snoc {l : Led} {v : Value} {z : List Int} (h : RowIn l v z) : ∀ {vs : List Value} {zs : List (List Int)}, RowAll l vs zs → RowAll l (vs ++ [v]) (zs ++ [z])
  | _, _, .nil => .cons h .nil
  | _, _, .cons k t => .cons k (t.snoc h)
theorem RowAll.set {l : Led} {v : Value} {z : List Int} (h : RowIn l v z) : ∀ {vs : List Value} {zs : List (List Int)} (i : Nat), RowAll l vs zs → RowAll l (vs.set i v) (zs.set i z)
  | _, _, _, .nil => .nil
  | _, _, 0, .cons _ t => .cons h t
  | _, _, i + 1, .cons k t => .cons k (t.set h i)
inductive PivIn (news : Led) : List Value → List (List Int) × Nat → Prop
  | mk {a : Addr} {n : Nat} {vs : List Value} {M : List (List Int)} {k : Nat} {t u : Tok} (h : (a, listOf vs.toArray n) ∈ news) (hs : RowAll news vs M) (hk : k < M.length) (hk' : k < (M.getD k []).length) (hn : M.length < 8) (hn' : (M.getD k []).length < 8) (hz : (M.getD k []).getD k 0 ≠ 0) :
      PivIn news [.ref a, .int (k : Int) t, .int (k : Int) u] (M, k)
theorem sgn_nz {z : Int} (h : z ≠ 0) : sgnI z ≠ 0 := by
  unfold sgnI
  rw [if_neg h]
  split <;> decide
set_option maxHeartbeats 8000000 in
theorem piv_tells (w : World) (mean : ExcName → Option Value) (mg mb : Str → Option Value) : ∀ d, Tell w mean mg mb 174 PivIn (fun _ => 2) (fun _ tl v d => ∃ t, v = .int (d.2 : Int) t) d := by
  intro d
  unfold Tell
  k_fill
  intro dp un gd cn cs a ccd cl outer A₀ base h₀ L m news s vs Q E B F X N T hk hR hd hu hret
  try dsimp only at hd hu hret
  cases hR with
  | @mk a na vs M k t u h hs hk hk' hn hn' hz =>
  have e1 := hs.length
  obtain ⟨vrow, g1, q1⟩ := hs.get k hk
  cases q1 with
  | @mk b nb vsb _ hb sb =>
  have e2 := sb.length
  obtain ⟨vel, g2, q2⟩ := sb.get k hk'
  have byinv : ByInv := ⟨⟩
  refine wpAny_call ?_
  k_dflt ktr_enter
  k_steps
  all_goals (try k_data)
  unfold Hold
  with_unfolding_all refine' For_invVF (by k_asm) (by exact rfl) (by exact rfl) ?_
  k_steps
  all_goals (try k_data)
  unfold Hold
  with_reducible rename Fr _ _ _ _ => lF
  with_reducible rename News _ _ _ _ => lN
  first | with_unfolding_all refine range1_rows lF lN ?_ | with_unfolding_all refine range2_rows lF lN ?_
  clear lF lN
  intro _ _ _ _ _ lR lF lN _
  refine range_inv (n := M.length - k) (by rfl) lR (small_one (by omega) (by omega) (by omega) (by omega)) ((rangeSize_nat _ _).trans (by omega)) lF lN (fun i m nx => i = 0 ∧ m = _ ∧ nx = news) ⟨rfl, rfl, rfl⟩ ?_ ?_
  · rintro i ti m₁ nx hh tk own hin hoff ⟨rfl, rfl, rfl⟩ F₁ N₁
    have ei : ((k : Int) + ((0 : Nat) : Int)) = (k : Int) := by omega
    rw [ei] at F₁
    have hs0 := sgn_nz hz
    k_steps
    k_dflt (refine' Tell.use ((M.getD k []).getD k 0) (ssign_tells _ _ _ _ _) ?k1 ?k2 ?k3 ?k4 ?k5 ?k6 ?k7 ?k8 ?k9 ?_; (case k1 => k_asm); (case k2 => k_asm); (case k3 => k_asm); (case k4 => k_asm); (case k5 => k_asm); (case k6 => exact rfl); (case k7 => exact NegIn.mk (q2.mono (by ktr_rel))); (case k8 => ktr_room); (case k9 => ktr_units))
    intro r9 tl9 h9 tk9 F9 N9 hl9 ho9
    obtain ⟨t9, rfl⟩ := ho9
    (try simp only [List.cons_append, List.nil_append, List.append_assoc] at N9)
    (try dsimp only); (try k_fold)
    k_steps
    all_goals (try k_data)
    all_goals first
      | (refine' hret _ ([]) _ _ ?f1 ?f2 (Off.nil) ?f3; (case f1 => k_asm); (case f2 => first | k_asm | exact ktn_tl0 (by k_asm) | exact ktn_tl1 (by k_asm) | exact ktn_tl2 (by k_asm) | exact newsSub (by k_asm) (by ktr_rel) | exact newsTop (by k_asm) (by ktr_rel)); (case f3 => exact (⟨_, rfl⟩)))
      | (exfalso; omega)
  · rintro m₁ nx hh tk ⟨e, _⟩
    exact absurd e (by omega)
end
section
/-- the rows below row k, j of them, cleared -/
noncomputable def innerM (M : List (List Int)) (k : Nat) (p : Int) : Nat → List (List Int)
  | 0 => M
  | j + 1 => (innerM M k p j).set (k + 1 + j) (clr ((innerM M k p j).getD (k + 1 + j) []) ((innerM M k p j).getD k []) k p)
/-- the matrix and the pivot before, k columns done -/
noncomputable def barM (M : List (List Int)) : Nat → List (List Int) × Int
  | 0 => (M, 1)
  | k + 1 => (innerM (barM M k).1 k (barM M k).2 (M.length - (k + 1)), ((innerM (barM M k).1 k (barM M k).2 (M.length - (k + 1))).getD k []).getD k 0)
noncomputable def okCol (M : List (List Int)) (n k : Nat) (p : Int) : Bool :=
  decide (M.length = n) && decide (k < n) && decide (k < (M.getD k []).length) && decide ((M.getD k []).length < 8) && decide ((M.getD k []).getD k 0 ≠ 0) &&
  (List.range (n - (k + 1))).all (fun j => okClr ((innerM M k p j).getD (k + 1 + j) []) ((innerM M k p j).getD k []) k) &&
  decide ((innerM M k p (n - (k + 1))).getD k [] = M.getD k [])
noncomputable def okBar (M : List (List Int)) : Bool := decide (M.length < 8) && (M.all fun r => decide (r.length < 8)) && (List.range M.length).all fun k => okCol (barM M k).1 M.length k (barM M k).2
inductive MatIn (l : Led) : Value → List (List Int) → Prop
  | mk {a : Addr} {n : Nat} {vs : List Value} {M : List (List Int)} (h : (a, listOf vs.toArray n) ∈ l) (hs : RowAll l vs M) : MatIn l (.ref a) M
inductive StepsIn (news : Led) : List Value → List (List Int) → Prop
  | mk {v : Value} {M : List (List Int)} {w : Int} {t u : Tok} (h : MatIn news v M) (hw : 4 ≤ w) (hw' : w ≤ 8) (ok : okBar M = true) : StepsIn news [v, .int (M.length : Int) t, .int w u, .ref 228, .ref 270] M
theorem row_lt {M : List (List Int)} (h : (M.all fun r => decide (r.length < 8)) = true) {i : Nat} (hi : i < M.length) : (M.getD i []).length < 8 := by
  have e : M.getD i [] = M[i] := by simp [List.getD, hi]
  rw [e]
  exact of_decide_eq_true (List.all_eq_true.mp h _ (List.getElem_mem hi))
theorem row_take {M : List (List Int)} {i : Nat} (hi : i < M.length) : M.take (i + 1) = M.take i ++ [M.getD i []] := by
  have e : M.getD i [] = M[i] := by simp [List.getD, hi]
  rw [e, List.take_add_one, List.getElem?_eq_getElem hi]
  rfl
theorem innerM_length (M : List (List Int)) (k : Nat) (p : Int) : ∀ j, (innerM M k p j).length = M.length
  | 0 => rfl
  | j + 1 => by
    show ((innerM M k p j).set _ _).length = _
    rw [List.length_set]
    exact innerM_length M k p j
theorem barM_length (M : List (List Int)) : ∀ k, (barM M k).1.length = M.length
  | 0 => rfl
  | k + 1 => by
    show (innerM _ _ _ _).length = _
    rw [innerM_length]
    exact barM_length M k
inductive StepJ (news : Led) (st : List Str) (m₀ : Str → Option Value) (R Pl : Addr) (M : List (List Int)) (i : Nat) (m : Str → Option Value) (nx : Led) : Prop
  | mk {vs : List Value} {cn : Nat} {parr : Array Value} {pn : Nat} {tl : Led} {vb : Value} (e : nx = (R, listOf vs.toArray cn) :: (Pl, listOf parr pn) :: (news ++ tl)) (ho : Off news tl) (hR : ∀ q ∈ tl, q.1 ≠ R) (hP : ∀ q ∈ tl, q.1 ≠ Pl)
      (hm : ∀ y, y ≠ Str.ofString "before" → st.contains y = false → m y = m₀ y) (hb : m (Str.ofString "before") = some vb) (hv : PrIn (news ++ tl) vb (barM M i).2) (hr : RowAll (news ++ tl) vs (barM M i).1) (hp : parr.size = i) : StepJ news st m₀ R Pl M i m nx
inductive InJ (B pool : Led) (m₀ : Str → Option Value) (R Pl : Addr) (pO : Obj) (M : List (List Int)) (k : Nat) (p : Int) (j : Nat) (m : Str → Option Value) (nx : Led) : Prop
  | mk {vs : List Value} {cn : Nat} {tl : Led} (e : nx = (R, listOf vs.toArray cn) :: (Pl, pO) :: (B ++ tl)) (ho : Off B tl) (hR : ∀ q ∈ tl, q.1 ≠ R) (hP : ∀ q ∈ tl, q.1 ≠ Pl)
      (hm : ∀ y, [Str.ofString "at"].contains y = false → m y = m₀ y) (hr : RowAll (pool ++ tl) vs (innerM M k p j)) : InJ B pool m₀ R Pl pO M k p j m nx
theorem InJ.turn {h₀ h' : Heap} {L : Addr} {B pool tl own add led' : Led} {m₀ m' : Str → Option Value} {R Pl : Addr} {o pO : Obj} {M : List (List Int)} {k : Nat} {p : Int} {j : Nat} {s₁ : Shared} {tk : Nat} {vs' : List Value} {cn' : Nat}
    (F : Fr h₀ L h' m') (N : News h₀ L h' led') (ho : Off B tl) (hR : ∀ q ∈ tl, q.1 ≠ R) (hP : ∀ q ∈ tl, q.1 ≠ Pl) (hoff : OwnOff own (((R, o) :: (Pl, pO) :: (B ++ tl)).map (·.1))) (hadd : Off ((R, o) :: (Pl, pO) :: (B ++ (tl ++ own))) add)
    (hl : ∀ q ∈ (R, listOf vs'.toArray cn') :: (Pl, pO) :: (B ++ (tl ++ (own ++ add))), q ∈ led') (hm : ∀ y, [Str.ofString "at"].contains y = false → m' y = m₀ y) (hr : RowAll (pool ++ (tl ++ add)) vs' (innerM M k p (j + 1))) :
    InvEndG h₀ L (InJ B pool m₀ R Pl pO M k p (j + 1)) own s₁ { s₁ with heap := h', toks := tk } := by
  refine InvEndG.intro (nx := (R, listOf vs'.toArray cn') :: (Pl, pO) :: (B ++ (tl ++ add))) F N (.mk rfl ?_ ?_ ?_ hm hr) (ownoff2 hoff hadd ?_) ?_ ?_
  · exact Off.app ho fun q hq => hadd q (.tail _ (.tail _ (sub_l q hq)))
  · exact ne_app hR (ne_above hadd (.head _))
  · exact ne_app hP (ne_above hadd (.tail _ (.head _)))
  · exact fun q hq => .tail _ (.tail _ (sub_r _ (sub_r _ hq)))
  · intro q hq
    refine hl q ?_
    simp only [List.mem_cons, List.mem_append] at hq ⊢
    rcases hq with hq | hq | hq | hq | hq <;> simp only [hq, true_or, or_true]
  · exact fun q hq => hl q (.tail _ (.tail _ (sub_r _ (sub_r _ (sub_l _ hq)))))
theorem StepJ.turn {h₀ h' : Heap} {L : Addr} {news tl own add led' : Led} {st : List Str} {m₀ m' : Str → Option Value} {R Pl : Addr} {o q : Obj} {M : List (List Int)} {i : Nat} {s₁ : Shared} {tk : Nat} {vs' : List Value} {cn' pn' : Nat} {parr' : Array Value} {vb' : Value}
    (F : Fr h₀ L h' m') (N : News h₀ L h' led') (ho : Off news tl) (hR : ∀ q ∈ tl, q.1 ≠ R) (hP : ∀ q ∈ tl, q.1 ≠ Pl) (hoff : OwnOff own (((R, o) :: (Pl, q) :: (news ++ tl)).map (·.1))) (hadd : Off ((R, o) :: (Pl, q) :: (news ++ (tl ++ own))) add)
    (hl : ∀ q ∈ (R, listOf vs'.toArray cn') :: (Pl, listOf parr' pn') :: (news ++ (tl ++ (own ++ add))), q ∈ led')
    (hm : ∀ y, y ≠ Str.ofString "before" → st.contains y = false → m' y = m₀ y) (hb : m' (Str.ofString "before") = some vb') (hv : PrIn (news ++ (tl ++ add)) vb' (barM M (i + 1)).2) (hr : RowAll (news ++ (tl ++ add)) vs' (barM M (i + 1)).1) (hp : parr'.size = i + 1) :
    InvEndG h₀ L (StepJ news st m₀ R Pl M (i + 1)) own s₁ { s₁ with heap := h', toks := tk } := by
  refine InvEndG.intro (nx := (R, listOf vs'.toArray cn') :: (Pl, listOf parr' pn') :: (news ++ (tl ++ add))) F N (.mk rfl ?_ ?_ ?_ hm hb hv hr hp) (ownoff2 hoff hadd ?_) ?_ ?_
  · exact Off.app ho fun q hq => hadd q (.tail _ (.tail _ (sub_l q hq)))
  · exact ne_app hR (ne_above hadd (.head _))
  · exact ne_app hP (ne_above hadd (.tail _ (.head _)))
  · exact fun q hq => .tail _ (.tail _ (sub_r _ (sub_r _ hq)))
  · intro q hq
    refine hl q ?_
    simp only [List.mem_cons, List.mem_append] at hq ⊢
    rcases hq with hq | hq | hq | hq | hq <;> simp only [hq, true_or, or_true]
  · exact fun q hq => hl q (.tail _ (.tail _ (sub_r _ (sub_r _ (sub_l _ hq)))))
theorem newsEnd3 {h₀ h : Heap} {L : Addr} {x y z : Addr × Obj} {a b : Led} (N : News h₀ L h (x :: y :: z :: (a ++ b))) : News h₀ L h (a ++ (x :: y :: z :: b)) := newsSub N (by
  intro p hp
  simp only [List.mem_append, List.mem_cons] at hp ⊢
  rcases hp with hp | hp | hp | hp | hp <;> simp only [hp, true_or, or_true])
inductive StepsOut (l : Led) : Value → List (List Int) → Prop
  | mk {T R Pl : Addr} {n cn pn : Nat} {vs : List Value} {parr : Array Value} {M : List (List Int)} (h : (T, tupOf #[.ref R, .ref Pl, .bool false] n) ∈ l) (hR : (R, listOf vs.toArray cn) ∈ l) (hP : (Pl, listOf parr pn) ∈ l) (hr : RowAll l vs (barM M M.length).1) (hp : parr.size = M.length) : StepsOut l (.ref T) M
set_option maxHeartbeats 8000000 in
theorem steps_tells (w : World) (mean : ExcName → Option Value) (mg mb : Str → Option Value) : ∀ d, Tell w mean mg mb 186 StepsIn (fun _ => 8) (fun news tl v d => StepsOut (news ++ tl) v d) d := by
  intro d
  unfold Tell
  k_fill
  intro dp un gd cn cs a ccd cl outer A₀ base h₀ L m news s vs Q E B F X N T hk hR hd hu hret
  try dsimp only at hd hu hret
  cases hR with
  | @mk v M w t u h hw hw' ok =>
  simp only [okBar, Bool.and_eq_true, decide_eq_true_eq] at ok
  obtain ⟨⟨hM8, hR8⟩, ok⟩ := ok
  cases h with
  | @mk a na vs _ ha hs =>
  have e1 := hs.length
  have byinv : ByInv := ⟨⟩
  refine wpAny_call ?_
  k_dflt ktr_enter
  k_steps
  all_goals (try k_data)
  unfold Hold
  k_dflt (refine LCg.ListComp_U (F₀ := by k_asm) (by with_unfolding_all rfl) (by decide) (by rfl) (by decide) (by rfl) ?_)
  k_steps
  unfold Hold
  refine LCg.CompSrc.ledger (by rfl) (by k_asm) (by k_asm) ha (by rw [List.size_toArray]; simp only [PySem.sizeLine_eq]; omega) fun g => ?_
  refine compU_inv (fun i ys nl => ∃ tl, nl = news ++ tl ∧ Off news tl ∧ RowAll (news ++ tl) ys (d.take i)) ?_ ?_ _ 0 [] news (by rw [Nat.zero_add]) ⟨[], (List.append_nil _).symm, Off.nil, .nil⟩
  · rintro i ys nl hi ⟨tl, rfl, ho, hr⟩ v I oI C oC D m₂ hh tk E' hP hC hx F₁ N₁ o3 hne
    have hv : vs[i]? = some v := by simpa using hP
    have hi' : i < d.length := by rw [List.size_toArray] at hi; omega
    obtain ⟨v', hv', qv⟩ := hs.get i hi'
    rw [hv] at hv'
    cases hv'
    cases qv with
    | @mk b nb vsb _ hb sb =>
    have hb8 : vsb.length ≤ 100 := by
      rw [sb.length]
      exact Nat.le_of_lt (Nat.lt_trans (row_lt hR8 hi') (by decide))
    k_steps
    unfold Hold
    k_dflt (refine' slice_led ?zF ?zN ?zl ?zp ?zq ?ze ?_ ?zs ?zt ?zz; (case zF => k_asm); (case zN => k_asm); (case zl => ktr_unf; done); (case zp => kmk_part); (case zq => kmk_part); (case ze => first | exact pick_all | exact pick_from1); (case zs => with_unfolding_all rfl); (case zt => kmk_pure); (case zz => omega))
    intro _ _ _ _ _
    k_steps
    all_goals (try k_data)
    exact comp_end (R := fun y l => RowAll l (ys ++ [y]) (d.take (i + 1))) (add := [(_, listOf vsb.toArray 0)]) (by k_asm) (by k_asm) ho o3 (Off.one (allLt_of (by assumption))) (by ktr_rel) ha (by
      rw [row_take hi']
      exact (hr.mono (by ktr_rel)).snoc (.mk (sub_r _ (sub_r _ (.head _))) (sb.mono (by ktr_rel))))
  · rintro ys nl ⟨tl, rfl, ho, hr⟩ D h2 tk2 F2 N2 o1
    have e1' : List.take vs.toArray.size d = d := List.take_of_length_le (by rw [List.size_toArray, e1]; exact Nat.le_refl _)
    k_steps
    unfold Hold
    with_unfolding_all refine' For_invVF (by k_asm) (by exact rfl) (by exact rfl) ?_
    k_steps
    all_goals (try k_data)
    unfold Hold
    with_reducible rename Fr _ _ _ _ => lF
    with_reducible rename News _ _ _ _ => lN
    first | with_unfolding_all refine range1_rows lF lN ?_ | with_unfolding_all refine range2_rows lF lN ?_
    clear lF lN
    intro _ _ _ _ _ lR lF lN _
    have hl := (by assumption : (_ : Nat) < _ ∧ AllLt _ (news ++ tl))
    have hD := off1_ne o1
    have hP := ne_below hl.2
    rw [e1'] at hr
    refine range_inv (n := d.length) (by rfl) lR (small_one (by omega) (by omega) (by omega) (by omega)) ((rangeSize_nat _ _).trans (by omega)) lF (newsRot lN) (StepJ news [Str.ofString "column", Str.ofString "top", Str.ofString "spot", Str.ofString "at"] _ D _ d)
      (StepJ.mk (vs := ys) rfl ho (fun q hq => hD q (sub_r q hq)) (fun q hq => hP q (sub_r q hq)) (fun _ _ _ => rfl) rfl .unit hr rfl) ?_ ?_
    · intro i ti m₁ nx hh tk own hin hoff hJ F₁ N₁
      obtain ⟨e, ho, hR, hP', hm, hb, hv, hr, hp⟩ := hJ
      rename_i vs' cn parr pn tl' vb
      subst e
      rw [frame_of2 hm hb] at F₁
      have ei : ((0 : Int) + (i : Int)) = (i : Int) := by omega
      rw [ei] at F₁
      have hbl := barM_length d i
      have hvl := hr.length.trans hbl
      have hok := List.all_eq_true.mp ok i (List.mem_range.mpr hin)
      simp only [okCol, Bool.and_eq_true, decide_eq_true_eq] at hok
      obtain ⟨⟨⟨⟨⟨⟨c1, c2⟩, c3⟩, c4⟩, c5⟩, c6⟩, c7⟩ := hok
      have hnR : ∀ q ∈ news, q.1 ≠ D := fun q hq => hD q (sub_l q hq)
      have hnP : ∀ q ∈ news, q.1 ≠ _ := fun q hq => hP q (sub_l q hq)
      have hoR := own_ne hoff
      have hoP := own_ne2 hoff
      simp only [List.cons_append, List.append_assoc] at N₁
      k_steps
      k_dflt (refine' Tell.use ((barM d i).1, i) (piv_tells _ _ _ _ _) ?k1 ?k2 ?k3 ?k4 ?k5 ?k6 ?k7 ?k8 ?k9 ?_; (case k1 => k_asm); (case k2 => k_asm); (case k3 => k_asm); (case k4 => k_asm); (case k5 => k_asm); (case k6 => exact rfl); (case k7 => exact PivIn.mk (by ktr_unf; done) (hr.mono (by ktr_rel)) (by omega) c3 (by omega) c4 c5); (case k8 => ktr_room); (case k9 => ktr_units))
      intro r9 tl9 h9 tk9 F9 N9 hl9 ho9
      obtain ⟨t9, rfl⟩ := ho9
      (try simp only [List.cons_append, List.nil_append, List.append_assoc] at N9)
      (try dsimp only); (try k_fold)
      k_steps
      all_goals (try k_data)
      unfold Hold
      with_unfolding_all refine' For_invVF (by k_asm) (by exact rfl) (by exact rfl) ?_
      k_steps
      all_goals (try k_data)
      unfold Hold
      with_reducible rename Fr _ _ _ _ => lF
      with_reducible rename News _ _ _ _ => lN
      first | with_unfolding_all refine range1_rows lF lN ?_ | with_unfolding_all refine range2_rows lF lN ?_
      clear lF lN
      intro _ _ _ _ _ lR lF lN _
      refine range_inv (n := d.length - (i + 1)) (by rfl) lR (small_one (by omega) (by omega) (by omega) (by omega)) ((rangeSize_nat _ _).trans (by omega)) lF lN (InJ (news ++ (tl' ++ (own ++ tl9))) (news ++ tl') _ D _ (listOf parr pn) (barM d i).1 i (barM d i).2)
        (InJ.mk (vs := vs') (cn := cn) (tl := []) (by rw [List.append_nil]) Off.nil (fun _ h => nomatch h) (fun _ h => nomatch h) (fun _ _ => rfl) (by rw [List.append_nil]; exact hr)) ?_ ?_
      · intro j tj m₂ nx hh2 tk2 own2 hjn hoff2 hJ2 F₂ N₂
        obtain ⟨e, ho2, hR2, hP2, hm2, hr2⟩ := hJ2
        rename_i vs2 cn2 tl2
        subst e
        rw [frame_of hm2] at F₂
        have ej : ((i : Int) + 1 + (j : Int)) = ((i + 1 + j : Nat) : Int) := by omega
        rw [ej] at F₂
        have hil := innerM_length (barM d i).1 i (barM d i).2 j
        have hvl2 := hr2.length
        have hokj := List.all_eq_true.mp c6 j (List.mem_range.mpr hjn)
        obtain ⟨v1, g1, q1⟩ := hr2.get (i + 1 + j) (by omega)
        obtain ⟨v2, g2, q2⟩ := hr2.get i (by omega)
        have hoR2 := own_ne hoff2
        have hoP2 := own_ne2 hoff2
        simp only [List.cons_append, List.append_assoc] at N₂
        k_steps
        k_dflt (refine' Tell.use ((innerM (barM d i).1 i (barM d i).2 j).getD (i + 1 + j) [], (innerM (barM d i).1 i (barM d i).2 j).getD i [], i, (barM d i).2) (clr_tells _ _ _ _ _) ?k1 ?k2 ?k3 ?k4 ?k5 ?k6 ?k7 ?k8 ?k9 ?_; (case k1 => k_asm); (case k2 => k_asm); (case k3 => k_asm); (case k4 => k_asm); (case k5 => k_asm); (case k6 => exact rfl); (case k7 => exact ClrIn.mk (q1.mono (by ktr_rel)) (q2.mono (by ktr_rel)) (hv.mono (by ktr_rel)) hw hw' hokj); (case k8 => ktr_room); (case k9 => ktr_units))
        intro r8 tl8 h8 tk8 F8 N8 hl8 ho8
        (try simp only [List.cons_append, List.nil_append, List.append_assoc] at N8)
        (try dsimp only); (try k_fold)
        k_steps
        all_goals (try k_data)
        unfold Hold
        k_dflt (refine' set_led ?k1 ?k2 ?k3 ?k4 ?k5 ?k6 ?_; (case k1 => k_asm); (case k2 => k_asm); (case k3 => k_upd); (case k4 => omega); (case k5 => omega); (case k6 => omega); k_whole)
        intro _ _ _
        k_steps
        all_goals (try k_data)
        refine InJ.turn (vs' := vs2.set (((i + 1 + j : Nat) : Int).toNat) r8) (cn' := cn2) (add := tl8) (by k_asm) (by k_asm) ho2 hR2 hP2 hoff2 (Off.sub hl8 (by ktr_rel)) (by ktr_rel) (by tb_start) ?_
        rw [Int.toNat_natCast]
        exact RowAll.set (ho8.mono (by ktr_rel)) _ (hr2.mono (by ktr_rel))
      · intro m₂ nx hh2 tk2 hJ2 F₂ N₂
        obtain ⟨e, ho2, hR2, hP2, hm2, hr2⟩ := hJ2
        rename_i vs2 cn2 tl2
        subst e
        rw [frame_of hm2] at F₂
        have hil := innerM_length (barM d i).1 i (barM d i).2 (d.length - (i + 1))
        have hvl2 := hr2.length
        obtain ⟨v3, g3, q3⟩ := hr2.get i (by omega)
        rw [c7] at q3
        cases q3 with
        | @mk b3 n3 vsb3 _ hb3 sb3 =>
        obtain ⟨v4, g4, q4⟩ := sb3.get i c3
        have hb3' := (by ktr_rel : ∀ p ∈ (news ++ tl') ++ tl2, p ∈ news ++ (tl' ++ (own ++ (tl9 ++ tl2)))) _ hb3
        simp only [List.cons_append, List.append_assoc] at N₂
        k_steps
        refine StepJ.turn (vs' := vs2) (cn' := cn2) (parr' := parr.push (.int (i : Int) ti)) (pn' := pn + 1) (add := tl9 ++ tl2) (vb' := v4) (by k_asm) (by k_asm) ho hR hP' hoff (Off.app hl9 (off_cons2 hR2 hP2 (Off.sub ho2 (by ktr_rel)))) (by ktr_rel) (by intro y hb hy; (try dsimp only); (repeat (first | rfl | rw [if_neg hb] | rw [if_neg (if_out hy (by decide))] | rw [if_neg (if_outL hy (by decide))]))) (by rfl) ?_ ?_ ?_
        · have hb1 : (barM d (i + 1)).2 = ((barM d i).1.getD i []).getD i 0 := by
            show ((innerM (barM d i).1 i (barM d i).2 (d.length - (i + 1))).getD i []).getD i 0 = _
            rw [c7]
          rw [hb1]
          exact .own (q4.mono (by ktr_rel)) c5
        · exact hr2.mono (by ktr_rel)
        · rw [Array.size_push, hp]
    · intro m₁ nx hh tk hJ F₁ N₁
      obtain ⟨e, ho, hR, hP', hm, hb, hv, hr, hp⟩ := hJ
      rename_i vs' cn parr pn tl' vb
      subst e
      rw [frame_of2 hm hb] at F₁
      k_steps
      have hl2 := (by assumption : (_ : Nat) < _ ∧ (_ : Nat) < _ ∧ AllLt _ (news ++ tl'))
      refine' hret _ ((_, _) :: (D, _) :: (_, _) :: tl') _ _ ?f1 (newsEnd3 ?f2) (Off.cons (allLt_left hl2.2.2) (Off.cons' (fun q hq => hD q (sub_l q hq)) (Off.cons' (fun q hq => hP q (sub_l q hq)) ho))) ?f3
      (case f1 => k_asm)
      (case f2 => k_asm)
      (case f3 => exact StepsOut.mk (sub_r _ (.head _)) (sub_r _ (.tail _ (.head _))) (sub_r _ (.tail _ (.tail _ (.head _)))) (hr.mono (by ktr_rel)) hp)
end
section
section
variable {prog : Program} {w : World} {A : Around} {E : Value → Shared → Prop} {s : Shared} {h₀ : Heap} {L : Addr}
theorem item_last_led {value slice : PySem.Expr} {l : Addr} {its : List Value} {n : Nat} {led : Led} {u : Tok} {v : Value} {Q : Value → Shared → Prop}
    (N : News h₀ L s.heap led) (hm : (l, listOf its.toArray n) ∈ led) (h1 : 1 ≤ its.length) (hx : its[its.length - 1]? = some v) (h : Q v s)
    (hs : subscripted slice false (.ref l) (.int (-1) u) = operate [.ref l, .int (-1) u] (getItem (.ref l) (.int (-1) u))) :
    wpAny (model prog w) A (subscriptTail value slice (.ref l) (.int (-1) u)) Q E s := by
  have hl := News.isList N hm
  have e : ((-1 : Int) + (its.toArray.size : Nat)).toNat = its.length - 1 := by rw [List.size_toArray]; omega
  exact tail_any hl.typeIs slot_list_getitem.lookup (wpAny_getItem_list_neg hl (by omega) (by rw [List.size_toArray]; omega) (by omega) (by rw [e]; simpa using hx) h) hs
end
local macro_rules | `(tactic| walk_at "subscriptTail") => `(tactic| (k_here; (with_reducible rename ByInv => bi); (with_reducible show wpAny _ _ (subscriptTail _ _ (Value.ref _) (Value.int (-1) _)) _ _ _); refine Hold.out ?_))
noncomputable def detM (M : List (List Int)) : Int := ((barM M M.length).1.getD (M.length - 1) []).getD (M.length - 1) 0
inductive DetIn (news : Led) : List Value → List (List Int) → Prop
  | mk {v : Value} {M : List (List Int)} {w : Int} {u : Tok} (h : MatIn news v M) (h1 : 1 ≤ M.length) (hw : 4 ≤ w) (hw' : w ≤ 8) (ok : okBar M = true) : DetIn news [v, .int w u, .ref 228, .ref 270] M
theorem bar_last {M : List (List Int)} (h1 : 1 ≤ M.length) (ok : okBar M = true) : M.length - 1 < ((barM M M.length).1.getD (M.length - 1) []).length := by
  simp only [okBar, Bool.and_eq_true, decide_eq_true_eq] at ok
  have hok := List.all_eq_true.mp ok.2 (M.length - 1) (List.mem_range.mpr (by omega))
  simp only [okCol, Bool.and_eq_true, decide_eq_true_eq] at hok
  obtain ⟨⟨⟨⟨⟨⟨c1, c2⟩, c3⟩, c4⟩, c5⟩, c6⟩, c7⟩ := hok
  have e : (barM M M.length).1 = (barM M (M.length - 1)).1 := by
    obtain ⟨n, hn⟩ : ∃ n, M.length = n + 1 := ⟨M.length - 1, by omega⟩
    rw [hn]
    show innerM _ _ _ (M.length - (n + 1)) = _
    rw [hn, Nat.sub_self]
    rfl
  rw [e]
  exact c3
set_option maxHeartbeats 8000000 in
theorem det_tells (w : World) (mean : ExcName → Option Value) (mg mb : Str → Option Value) : ∀ d, Tell w mean mg mb 193 DetIn (fun _ => 9) (fun news tl v d => SgnIn (news ++ tl) v (detM d)) d := by
  intro d
  unfold Tell
  k_fill
  intro dp un gd cn cs a ccd cl outer A₀ base h₀ L m news s vs Q E B F X N T hk hR hd hu hret
  try dsimp only at hd hu hret
  cases hR with
  | @mk v M w u h h1 hw hw' ok =>
  have h1' := h
  cases h1' with
  | @mk a na vs _ ha hs =>
  have e1 := hs.length
  have hM8 : d.length < 8 := by
    simp only [okBar, Bool.and_eq_true, decide_eq_true_eq] at ok
    exact ok.1.1
  have hb := bar_last h1 ok
  have byinv : ByInv := ⟨⟩
  have h10 : ¬ ((d.length : Int) = 0) := by omega
  have h11 : ¬ ((vs.length : Int) = 0) := by omega
  refine wpAny_call ?_
  k_dflt ktr_enter
  k_steps
  all_goals (try k_data)
  all_goals (try (exfalso; omega))
  all_goals (try (exfalso; simp at *; omega))
  k_dflt (refine' Tell.use d (steps_tells _ _ _ _ _) ?k1 ?k2 ?k3 ?k4 ?k5 ?k6 ?k7 ?k8 ?k9 ?_; (case k1 => k_asm); (case k2 => k_asm); (case k3 => k_asm); (case k4 => k_asm); (case k5 => k_asm); (case k6 => exact rfl); (case k7 => exact StepsIn.mk h hw hw' ok); (case k8 => ktr_room); (case k9 => ktr_units))
  intro r9 tl9 h9 tk9 F9 N9 hl9 ho9
  obtain ⟨hT, hR, hP, hr, hp⟩ := ho9
  rename_i vs9 parr9
  have e9 := hr.length
  have e9' := barM_length d d.length
  obtain ⟨v9, g9, q9⟩ := hr.get (d.length - 1) (by omega)
  have g9' : vs9[vs9.length - 1]? = some v9 := by rw [e9, e9']; exact g9
  have h9l : 1 ≤ vs9.length := by omega
  obtain ⟨hb9, sb9⟩ := q9
  obtain ⟨v8, g8, q8⟩ := sb9.get (d.length - 1) hb
  have g8a : _[((d.length : Int) - 1).toNat]? = some v8 := (show ((d.length : Int) - 1).toNat = d.length - 1 by omega) ▸ g8
  have g8b : _[((vs.length : Int) - 1).toNat]? = some v8 := (show ((vs.length : Int) - 1).toNat = d.length - 1 by omega) ▸ g8
  have hs9 := sb9.length
  (try simp only [List.cons_append, List.nil_append, List.append_assoc] at N9)
  (try dsimp only); (try k_fold)
  k_steps
  all_goals (try k_data)
  unfold Hold
  with_unfolding_all refine' item_last_led ?k1 ?k2 ?k3 ?k5 ?_ ?k6; (case k1 => k_asm); (case k2 => ktr_unf; done); (case k3 => omega); (case k5 => first | rfl | assumption); (case k6 => with_unfolding_all rfl); k_whole
  k_steps
  all_goals (try k_data)
  (refine' hret _ (tl9) _ _ ?f1 ?f2 (hl9) ?f3; (case f1 => k_asm); (case f2 => first | k_asm | exact ktn_tl0 (by k_asm) | exact ktn_tl1 (by k_asm) | exact ktn_tl2 (by k_asm) | exact newsSub (by k_asm) (by ktr_rel) | exact newsTop (by k_asm) (by ktr_rel)); (case f3 => exact (by unfold detM; exact q8.mono (by ktr_rel))))
end
section
inductive LimbsIn (news : Led) : List Value → Int → Prop
  | mk {x w : Int} {t u : Tok} (h0 : 0 ≤ x) (h1 : x < 16) (hw : 4 ≤ w) (hw' : w ≤ 8) : LimbsIn news [.int x t, .int w u] x
theorem pow_parts {d w : Int} (h0 : 0 ≤ d) (h1 : d < 16) (hw : 4 ≤ w) : d.fdiv (2 ^ Int.toNat w) = 0 ∧ d.fmod (2 ^ Int.toNat w) = d := by
  have e : (16 : Int) ≤ 2 ^ Int.toNat w := by
    have h : 2 ^ 4 ≤ 2 ^ Int.toNat w := Nat.pow_le_pow_right (by decide) (by omega)
    have h2 : ((2 ^ 4 : Nat) : Int) ≤ ((2 ^ Int.toNat w : Nat) : Int) := Int.ofNat_le.mpr h
    rw [Int.natCast_pow] at h2
    exact h2
  have hn : (0 : Int) ≤ 2 ^ Int.toNat w := by omega
  exact ⟨by rw [Int.fdiv_eq_ediv_of_nonneg _ hn, Int.ediv_eq_zero_of_lt h0 (by omega)], by rw [Int.fmod_eq_emod_of_nonneg _ hn, Int.emod_eq_of_lt h0 (by omega)]⟩
set_option maxHeartbeats 8000000 in
theorem limbs_tells (w : World) (mean : ExcName → Option Value) (mg mb : Str → Option Value) : ∀ d, Tell w mean mg mb 284 LimbsIn (fun _ => 2) (fun _ tl v d => NatIn tl v d) d := by
  intro d
  unfold Tell
  k_fill
  intro dp un gd cn cs a ccd cl outer A₀ base h₀ L m news s vs Q E B F X N T hk hR hd hu hret
  try dsimp only at hd hu hret
  cases hR with
  | @mk x w t u h0 h1 hw hw' =>
  rcases (by omega : d = 0 ∨ 0 < d) with rfl | hpos
  · refine wpAny_call ?_
    k_dflt ktr_enter
    k_steps
    all_goals (try k_data)
    (refine' hret _ ([(_, listOf #[] 0)]) _ _ ?f1 ?f2 (Off.one (allLt_of (by assumption))) ?f3; (case f1 => k_asm); (case f2 => first | k_asm | exact ktn_tl0 (by k_asm) | exact ktn_tl1 (by k_asm) | exact ktn_tl2 (by k_asm) | exact newsSub (by k_asm) (by ktr_rel) | exact newsTop (by k_asm) (by ktr_rel)); (case f3 => exact (NatIn.zero (.head _))))
  · obtain ⟨hq, hr⟩ := pow_parts h0 h1 hw
    refine wpAny_call ?_
    k_dflt ktr_enter
    k_steps
    all_goals (try k_data)
    (refine' hret _ ([(_, listOf #[.int (d.fmod (2 ^ Int.toNat w)) _] _)]) _ _ ?f1 ?f2 (Off.one (allLt_of (by assumption))) ?f3; (case f1 => k_asm); (case f2 => first | k_asm | exact ktn_tl0 (by k_asm) | exact ktn_tl1 (by k_asm) | exact ktn_tl2 (by k_asm) | exact newsSub (by k_asm) (by ktr_rel) | exact newsTop (by k_asm) (by ktr_rel)); (case f3 => exact (by rw [hr]; exact NatIn.pos (.head _) hpos h1)))
end
section
section
inductive ShiftIn (news : Led) : List Value → Int → Prop
  | mk {v : Value} {x w : Int} {t u : Tok} (h : NatIn news v x) (h1 : x < 8) (hw : 4 ≤ w) (hw' : w ≤ 8) : ShiftIn news [v, .int 1 u, .int w t] x
theorem one_parts {w : Int} (hw : 4 ≤ w) : (1 : Int).fdiv w = 0 ∧ (1 : Int).fmod w = 1 := by
  have hn : (0 : Int) ≤ w := by omega
  exact ⟨by rw [Int.fdiv_eq_ediv_of_nonneg _ hn, Int.ediv_eq_zero_of_lt (by decide) (by omega)], by rw [Int.fmod_eq_emod_of_nonneg _ hn, Int.emod_eq_of_lt (by decide) (by omega)]⟩
section
variable {prog : Program} {w : World} {A : Around} {E : Value → Shared → Prop} {s : Shared}
theorem lsh_one {a n : Int} {t u : Tok} {Q : Value → Shared → Prop} (hn : n = 1) (h0 : 0 ≤ a) (h1 : a < 16) (h : Q (.int (2 * a) s.toks) { s with toks := s.toks + 1 }) : wpAny (model prog w) A (binaryOp .LShift (.int a t) (.int n u)) Q E s := by
  subst hn
  refine lshift_int_small (by decide) (by decide) (by omega) ?_
  rw [show a * 2 ^ Int.toNat 1 = 2 * a by show a * (2 ^ 1) = _; omega]
  exact h
end
local macro_rules | `(tactic| walk_at "exec For Name Name cons nil") => `(tactic| (k_here; refine Hold.out ?_))
local macro_rules | `(tactic| walk_at "pyIter ref") => `(tactic| (refine Hold.out ?_))
local macro_rules | `(tactic| walk_at "binaryOp LShift int int") => `(tactic| (refine lsh_one (by assumption) (by omega) (by omega) ?_))
theorem bor0 {d : Int} (h0 : 0 < d) (h1 : d < 8) : Builtin.bitOr 0 (2 * d) = 2 * d := by
  rcases (by omega : d = 1 ∨ d = 2 ∨ d = 3 ∨ d = 4 ∨ d = 5 ∨ d = 6 ∨ d = 7) with rfl | rfl | rfl | rfl | rfl | rfl | rfl <;> decide
set_option maxHeartbeats 8000000 in
theorem shift_tells (w : World) (mean : ExcName → Option Value) (mg mb : Str → Option Value) : ∀ d, Tell w mean mg mb 93 ShiftIn (fun _ => 2) (fun _ tl v d => NatIn tl v (2 * d)) d := by
  intro d
  unfold Tell
  k_fill
  intro dp un gd cn cs a ccd cl outer A₀ base h₀ L m news s vs Q E B F X N T hk hR hd hu hret
  try dsimp only at hd hu hret
  cases hR with
  | @mk v x w t u h h1 hw hw' =>
  obtain ⟨hq, hr⟩ := one_parts hw
  cases h with
  | zero ha =>
    refine wpAny_call ?_
    k_dflt (refine' code_sub _ (List.forall_mem_cons.mpr ⟨ha, List.forall_mem_nil _⟩) ?k1 ?k2 ?k3 ?k4 ?k5 ?kA ?kF ?kK ?k6 ?k7 ?k8 ?k9 ?kB ?_ ?c2 ?c3 ?c4 ?c5; (case kA => exact rfl); (case kF => exact rfl); (case kK => assumption); (case k1 => k_asm); (case k2 => k_asm); (case k3 => k_asm); (case k4 => k_asm); (case k5 => k_asm); (case k6 => k_is); (case k7 => k_is); (case k8 => ktr_room); (case k9 => exact BindsTo.of_eq rfl); (case c5 => decide); (case kB => exact locs rfl); (case c2 => exact rfl); (case c3 => exact rfl); (case c4 => exact rfl); k_whole; intro g' L' h' FG' F' N' B' X' T' hG'; (try dsimp only); (try k_fold))
    k_steps
    all_goals (try k_data)
    (refine' sub_ret hret N (List.forall_mem_cons.mpr ⟨ha, List.forall_mem_nil _⟩) hG' ?f1 ?f2 ?f3 ?f4 ?f5 [(_, _)] ?f6 ?f7 (NatIn.zero' (.head _) ?e1); (case f1 => k_asm); (case f2 => k_asm); (case f3 => k_asm); (case f4 => k_asm); (case f5 => k_allIn); (case f6 => k_allIn); (case f7 => exact Off.w (by repeat (first | exact List.forall_mem_nil _ | (refine List.forall_mem_cons.mpr ⟨by k_all, ?_⟩)))); (case e1 => rfl))
  | pos ha a0 a1 =>
    have hb := bor0 a0 h1
    refine wpAny_call ?_
    k_dflt (refine' code_sub _ (List.forall_mem_cons.mpr ⟨ha, List.forall_mem_nil _⟩) ?k1 ?k2 ?k3 ?k4 ?k5 ?kA ?kF ?kK ?k6 ?k7 ?k8 ?k9 ?kB ?_ ?c2 ?c3 ?c4 ?c5; (case kA => exact rfl); (case kF => exact rfl); (case kK => assumption); (case k1 => k_asm); (case k2 => k_asm); (case k3 => k_asm); (case k4 => k_asm); (case k5 => k_asm); (case k6 => k_is); (case k7 => k_is); (case k8 => ktr_room); (case k9 => exact BindsTo.of_eq rfl); (case c5 => decide); (case kB => exact locs rfl); (case c2 => exact rfl); (case c3 => exact rfl); (case c4 => exact rfl); k_whole; intro g' L' h' FG' F' N' B' X' T' hG'; (try dsimp only); (try k_fold))
    k_steps
    all_goals (try k_data)
    unfold Hold
    k_newsList
    with_reducible rename Fr _ _ _ _ => lF
    with_unfolding_all refine' For_invVF lF ?k1 ?k2 ?_; (case k1 => exact rfl); (case k2 => exact rfl); k_whole
    k_steps
    unfold Hold
    with_reducible show wpAny _ _ (pyIter (Value.ref _)) (fun it s₂ => LoopAtV _ _ _ _ _ _ _ _ _ it s₂) _ _
    k_listUnr
    k_steps
    all_goals (try k_data)
    all_goals first | exact (no_carry (p := 2 * d) (by omega) (by omega) hw hw' (by rw [← hb]; assumption)).elim | (refine' sub_ret hret N (List.forall_mem_cons.mpr ⟨ha, List.forall_mem_nil _⟩) hG' ?f1 ?f2 ?f3 ?f4 ?f5 [(_, _)] ?f6 ?f7 (NatIn.pos' (.head _) ?e1 ?e2 ?e3 ?e4); (case f1 => k_asm); (case f2 => k_asm); (case f3 => k_asm); (case f4 => k_asm); (case f5 => k_allIn); (case f6 => k_allIn); (case f7 => exact Off.w (by repeat (first | exact List.forall_mem_nil _ | (refine List.forall_mem_cons.mpr ⟨by k_all, ?_⟩)))); (case e1 => rw [hq]; rfl); (case e2 => rw [hb]; exact and_mask (p := 2 * d) (by omega) (by omega) hw hw'); (case e3 => omega); (case e4 => omega))
end
end
section
section
variable {prog : Program} {w : World} {A : Around} {E : Value → Shared → Prop} {s : Shared} {env : Env} {h₀ : Heap} {target : Expr} {body : List Stmt} {Q : Flow → Shared → Prop}
theorem tup_inv {l : Addr} {vs : List Value} {nn : Nat} {m₀ : Str → Option Value} {news : Led}
    (hh : A.handled = none) (F : Fr h₀ env.locals s.heap m₀) (N : News h₀ env.locals s.heap news) (hm : (l, tupOf vs.toArray nn) ∈ news)
    (J : Nat → (Str → Option Value) → Led → Prop) (hj : J 0 m₀ news)
    (turn : ∀ (i : Nat) v m₁ nx h tk own, vs[i]? = some v → OwnOff own (nx.map (·.1)) → (l, tupOf vs.toArray nn) ∈ nx → J i m₁ nx → Fr h₀ env.locals h m₁ → News h₀ env.locals h (nx ++ own) →
      wpAny (model prog w) A (assign target env v) (fun _ s₃ => wpAny (model prog w) A (execs body env) (InvPostG h₀ env.locals (fun m' nx' => (∀ p ∈ [(l, tupOf vs.toArray nn)], p ∈ nx') ∧ J (i + 1) m' nx') own { s with heap := h, toks := tk } Q) E s₃) E { s with heap := h, toks := tk })
    (done : ∀ m₁ nx h tk, J vs.length m₁ nx → Fr h₀ env.locals h m₁ → News h₀ env.locals h nx → Q .next { s with heap := h, toks := tk }) :
    wpAny (model prog w) A (pyIter (.ref l)) (fun it s₂ => TurnsAt prog w A h₀ env target body Q E it s₂) E s := by
  have hax := N _ hm
  have hl : s.heap.IsTuple l vs.toArray := ⟨_, hax.1, rfl, nn, rfl⟩
  have hlt : l < s.heap.objs.size := Heap.lt_size hax.1
  have hne : l ≠ s.heap.objs.size := Nat.ne_of_lt hlt
  refine wpAny_pyIter_tuple hl ?_
  refine tt_inv (tk0 := s.toks) (keep := [(l, tupOf vs.toArray nn)]) (n := vs.length) (news := news) (by
      have W := Walks.tuple (prog := prog) (w := w) hh s.heap.objs.size l hne vs.toArray
      rw [List.size_toArray] at W
      exact KTurns.ofWalks W fun i v s Q E st q => letGo_tupleiter st.1 q) ?_ ?_ ?_ ?_ ?_ ?_ (F.push _) (fun p hp => ⟨Heap.get?_push_of_some _ (N p hp).1, (N p hp).2⟩) (List.forall_mem_cons.mpr ⟨hm, List.forall_mem_nil _⟩) J hj ?_ done
  · intro b hb
    have hb' : b = s.heap.objs.size ∨ b = l := by simpa using hb
    rcases hb' with rfl | rfl
    · exact .inl (by simp)
    · exact .inr ⟨_, .head _⟩
  · intro i h st b hb
    obtain ⟨it, hit, hic, _⟩ := st.1
    have hb' : b = s.heap.objs.size := by simpa using hb
    subst hb'
    exact ⟨it, hit⟩
  · intro hI
    rcases List.mem_cons.mp hI with e | hI
    · exact absurd F.ns.lt (e ▸ Nat.lt_irrefl _)
    · exact hax.2.1 (List.mem_singleton.mp hI).symm
  · intro b hb
    have hb' : b = s.heap.objs.size := by simpa using hb
    rw [hb']
    exact next_is_new F
  · intro p hp hI
    exact absurd (Heap.lt_size (N p hp).1) ((List.mem_singleton.mp hI) ▸ Nat.lt_irrefl _)
  · exact ⟨⟨_, Heap.get?_push_size _ rfl, rfl, rfl⟩, hl.at fun o e => Heap.get?_push_of_some _ e⟩
  · intro i v m₁ nx h tk own hin hP hoff hk₁ hJ F₁ N₁
    exact turn i v m₁ nx h tk own (by simpa using hP) hoff (hk₁ _ (.head _)) hJ F₁ N₁
end
/-- the squares of a board, each a tuple of two small ints -/
inductive SqIn (l : Led) : Value → Int × Int → Prop
  | mk {T : Addr} {n : Nat} {x y : Int} {t u : Tok} (h : (T, tupOf #[.int x t, .int y u] n) ∈ l) : SqIn l (.ref T) (x, y)
theorem SqIn.mono {l l' : Led} {v : Value} {q : Int × Int} (hs : ∀ p ∈ l, p ∈ l') (h : SqIn l v q) : SqIn l' v q := by
  cases h with
  | mk h => exact .mk (hs _ h)
theorem SqIn.ref {l : Led} {v : Value} {q : Int × Int} (h : SqIn l v q) : ∃ T, v = .ref T := by
  cases h
  exact ⟨_, rfl⟩
inductive SqAll (l : Led) : List Value → List (Int × Int) → Prop
  | nil : SqAll l [] []
  | cons {v : Value} {q : Int × Int} {vs : List Value} {qs : List (Int × Int)} (h : SqIn l v q) (t : SqAll l vs qs) : SqAll l (v :: vs) (q :: qs)
theorem SqAll.mono {l l' : Led} (hs : ∀ p ∈ l, p ∈ l') : ∀ {vs : List Value} {qs : List (Int × Int)}, SqAll l vs qs → SqAll l' vs qs
  | _, _, .nil => .nil
  | _, _, .cons h t => .cons (h.mono hs) (t.mono hs)
theorem SqAll.length {l : Led} : ∀ {vs : List Value} {qs : List (Int × Int)}, SqAll l vs qs → vs.length = qs.length
  | _, _, .nil => rfl
  | _, _, .cons _ t => congrArg (· + 1) t.length
theorem SqAll.snoc {l : Led} {v : Value} {q : Int × Int} (h : SqIn l v q) : ∀ {vs : List Value} {qs : List (Int × Int)}, SqAll l vs qs → SqAll l (vs ++ [v]) (qs ++ [q])
  | _, _, .nil => .cons h .nil
  | _, _, .cons k t => .cons k (t.snoc h)
theorem SqAll.get {l : Led} : ∀ {vs : List Value} {qs : List (Int × Int)}, SqAll l vs qs → ∀ (i : Nat), i < qs.length → ∃ v, vs[i]? = some v ∧ SqIn l v (qs.getD i (0, 0))
  | _, _, .nil, _, h => absurd h (Nat.not_lt_zero _)
  | _, _, .cons h t, 0, _ => ⟨_, rfl, h⟩
  | _, _, .cons h t, i + 1, hi => t.get i (Nat.lt_of_succ_lt_succ hi)
inductive BoardIn (l : Led) : Value → List (Int × Int) → Prop
  | mk {a : Addr} {n : Nat} {vs : List Value} {qs : List (Int × Int)} (h : (a, listOf vs.toArray n) ∈ l) (hs : SqAll l vs qs) (hl : qs.length ≤ 10) : BoardIn l (.ref a) qs
noncomputable def rest (b : List (Int × Int)) (o : Int × Int) : List (Int × Int) := b.filter fun q => decide (q ≠ o)
/-- in how many ways a board is covered, fuel for its squares -/
noncomputable def covers : Nat → List (Int × Int) → Int
  | 0, _ => 1
  | _ + 1, [] => 1
  | n + 1, q :: b => (if (q.1, q.2 + 1) ∈ q :: b then covers n (rest b (q.1, q.2 + 1)) else 0) + (if (q.1 + 1, q.2) ∈ q :: b then covers n (rest b (q.1 + 1, q.2)) else 0)
inductive CovIn (news : Led) : List Value → List (Int × Int) → Prop
  | mk {v : Value} {b : List (Int × Int)} (h : BoardIn news v b) : CovIn news [v] b
section
open PySem.SeqAt
variable {prog : Program} {w : World} {A : Around} {E : Value → Shared → Prop} {s : Shared} {h₀ : Heap} {L : Addr} {led : Led}
theorem SqIn.same (N : News h₀ L s.heap led) {v : Value} {q q' : Int × Int} (h : SqIn led v q) (h' : SqIn led v q') : q = q' := by
  cases h with
  | mk h =>
  cases h' with
  | mk h' =>
  have e := (N _ h).1.symm.trans (N _ h').1
  simp only [Option.some.injEq] at e
  have e2 : (#[Value.int _ _, Value.int _ _] : Array Value) = #[Value.int _ _, Value.int _ _] := (Data.seq.inj (congrArg Obj.data e)).1
  have e3 := congrArg Array.toList e2
  simp only [List.cons.injEq, Value.int.injEq] at e3
  exact Prod.ext e3.1.1 e3.2.1.1
noncomputable def eqPair (q q' : Int × Int) (j : Nat) : Bool := if j = 0 then q.1 == q'.1 else q.2 == q'.2
theorem eqPair_all (q q' : Int × Int) : ((List.range (min 2 2)).all (eqPair q q') && (2 == 2)) = decide (q = q') := by
  obtain ⟨a, b⟩ := q
  obtain ⟨c, d⟩ := q'
  have e : (List.range (min 2 2)).all (eqPair (a, b) (c, d)) = ((a == c) && ((b == d) && true)) := rfl
  rw [e]
  simp only [Bool.and_true, beq_self_eq_true, Prod.mk.injEq]
  by_cases h1 : a = c <;> by_cases h2 : b = d <;> simp [h1, h2]
theorem pair_he {A : Around} {x y x' y' : Int} {t u t' u' : Tok} : ∀ j (h1 : j < (#[Value.int x t, Value.int y u] : Array Value).size) (h2 : j < (#[Value.int x' t', Value.int y' u'] : Array Value).size), EqAt A s (#[Value.int x t, Value.int y u] : Array Value)[j] (#[Value.int x' t', Value.int y' u'] : Array Value)[j] (eqPair (x, y) (x', y') j)
  | 0, _, _ => PySem.SeqAt.EqAt.int_int x t x' t'
  | 1, _, _ => PySem.SeqAt.EqAt.int_int y u y' u'
  | _ + 2, h, _ => absurd h (by simp)
theorem SqIn.eqAt (N : News h₀ L s.heap led) {v v' : Value} {q q' : Int × Int} (h : SqIn led v q) (h' : SqIn led v' q') (hu : A.units < cLine) : PySem.SeqAt.EqAt A s v v' (decide (q = q')) := by
  have hs := fun e : v = v' => SqIn.same N h (e ▸ h')
  cases h with
  | @mk T n x y t u h =>
  cases h' with
  | @mk T' n' x' y' t' u' h' =>
  by_cases e : T = T'
  · subst e
    rw [hs rfl, decide_eq_true rfl]
    exact EqAt.same _
  · rw [← eqPair_all]
    exact EqAt.of_refs e (RcAt.tuples ⟨_, (N _ h).1, rfl, n, rfl⟩ ⟨_, (N _ h').1, rfl, n', rfl⟩ hu pair_he)
theorem SqAll.any {e : Value → Bool} {q : Int × Int} : ∀ {vs : List Value} {qs : List (Int × Int)}, SqAll led vs qs → (∀ v q', v ∈ vs → SqIn led v q' → e v = decide (q' = q)) → vs.any e = decide (q ∈ qs)
  | _, _, .nil, _ => by simp
  | _, _, .cons (q := q') h t, he => by
    rw [List.any_cons, he _ _ (.head _) h, SqAll.any t fun v p hv => he v p (.tail _ hv)]
    by_cases e1 : q' = q
    · subst e1; simp
    · have e2 : ¬ q = q' := fun e => e1 e.symm
      simp [e1, e2]
theorem SqAll.mem : ∀ {vs : List Value} {qs : List (Int × Int)}, SqAll led vs qs → ∀ v ∈ vs, ∃ q, SqIn led v q
  | _, _, .cons h t, v, hv => by
    rcases List.mem_cons.mp hv with rfl | hv
    · exact ⟨_, h⟩
    · exact t.mem v hv
theorem in_board {l T : Addr} {vs : List Value} {n : Nat} {qs : List (Int × Int)} {q : Int × Int} {b : Bool} {Q : Value → Shared → Prop} (N : News h₀ L s.heap led) (hm : (l, listOf vs.toArray n) ∈ led) (hs : SqAll led vs qs) (hx : SqIn led (.ref T) q) (hu : A.in1.units < cLine) (hb : decide (q ∈ qs) = b)
    (h : Q (.bool b) s) : wpAny (model prog w) A (compareOp .In (.ref T) (.ref l)) Q E s := by
  classical
  have key : ∀ v q', v ∈ vs → SqIn led v q' → (fun v => decide (SqIn led v q)) v = decide (q' = q) := by
    intro v q' _ hv
    by_cases e : q' = q
    · subst e
      simp only [decide_true, decide_eq_true_eq]
      exact hv
    · simp only [e, decide_false, decide_eq_false_iff_not]
      exact fun h => e (SqIn.same N hv h)
  refine in_listAt (fun v => decide (SqIn led v q)) ⟨_, (N _ hm).1, rfl, n, rfl⟩ (fun y hy => ?_) ?_
  · have hy' : y ∈ vs := by simpa using hy
    obtain ⟨q', hq'⟩ := hs.mem y hy'
    have e9 := key y q' hy' hq'
    dsimp only at e9 ⊢
    rw [e9]
    exact SqIn.eqAt N hq' hx hu
  · have e : vs.toArray.any (fun v => decide (SqIn led v q)) = b := by
      rw [← hb, ← SqAll.any hs key]
      simp
    rw [e]
    exact h
theorem ne_sq {T T' : Addr} {q q' : Int × Int} {b : Bool} {Q : Value → Shared → Prop} (N : News h₀ L s.heap led) (h1 : SqIn led (.ref T) q) (h2 : SqIn led (.ref T') q') (hu : A.units < cLine) (hb : decide (q ≠ q') = b)
    (h : Q (.bool b) s) : wpAny (model prog w) A (compareOp .NotEq (.ref T) (.ref T')) Q E s := by
  have e : (!(decide (q = q'))) = b := by rw [← hb]; simp
  cases h1 with
  | @mk _ n x y t u h1 =>
  cases h2 with
  | @mk _ n' x' y' t' u' h2 =>
  refine RcNeAt.tuples (e := eqPair (x, y) (x', y')) ⟨_, (N _ h1).1, rfl, n, rfl⟩ ⟨_, (N _ h2).1, rfl, n', rfl⟩ hu pair_he prog w E Q ?_
  have e2 : (!((List.range (min 2 2)).all (eqPair (x, y) (x', y')) && (2 == 2))) = b := by rw [eqPair_all]; exact e
  exact e2 ▸ h
theorem eqnil_yes {l b : Addr} {n n2 : Nat} {Q : Value → Shared → Prop} (N : News h₀ L s.heap led) (h1 : (l, listOf #[] n) ∈ led) (h2 : (b, listOf #[] n2) ∈ led) (hu : A.units < cLine) (h : Q (.bool true) s) : wpAny (model prog w) A (compareOp .Eq (.ref l) (.ref b)) Q E s :=
  eq_listAt (e := fun _ => true) (items := #[]) (items2 := #[]) ⟨_, (N _ h1).1, rfl, n, rfl⟩ ⟨_, (N _ h2).1, rfl, n2, rfl⟩ rfl hu (fun j h => absurd h (Nat.not_lt_zero j)) h
theorem eqnil_no {l b : Addr} {v : Value} {vs : List Value} {n n2 : Nat} {Q : Value → Shared → Prop} (N : News h₀ L s.heap led) (h1 : (l, listOf (v :: vs).toArray n) ∈ led) (h2 : (b, listOf #[] n2) ∈ led) (hu : A.units < cLine) (h : Q (.bool false) s) : wpAny (model prog w) A (compareOp .Eq (.ref l) (.ref b)) Q E s :=
  eq_list_lengthsAt (items := (v :: vs).toArray) (items2 := #[]) ⟨_, (N _ h1).1, rfl, n, rfl⟩ ⟨_, (N _ h2).1, rfl, n2, rfl⟩ (by simp) hu h
end
local macro_rules | `(tactic| walk_at "compareOp Eq ref ref") => `(tactic| (k_here; (with_reducible rename ByInv => bi); refine Hold.out ?_))
local macro_rules | `(tactic| walk_at "compareOp In ref ref") => `(tactic| (k_here; (with_reducible rename ByInv => bi); refine Hold.out ?_))
local macro_rules | `(tactic| walk_at "compareOp NotEq ref ref") => `(tactic| (k_here; (with_reducible rename ByInv => bi); refine Hold.out ?_))
section
open LCg
variable {prog : Program} {w : World} {A : Around} {s : Shared} {h₀ : Heap} {L : Addr} {m : Str → Option Value} {env : Env}
theorem compT_led {ct elt : Expr} {x : Str} {scope : Scope} {cl : List (Str × Addr)} {Fin : Shared → List Value → Led → Prop} {ax : Addr} {vs : List Value} {k : Nat} {B : Led}
    (hh : A.handled = none) (F : Fr h₀ L s.heap m) (N : News h₀ L s.heap B) (hm : (ax, listOf vs.toArray k) ∈ B) (hsz : vs.length ≤ 100) (P : Nat → List Value → Prop) (h0 : P 0 [])
    (turn : ∀ g i ys, i < vs.length → P i ys → ∀ v I oI C oC D m₂ h tk (E' : Value → Shared → Prop), vs[i]? = some v → NsObj oC m₂ → m₂ x = some v → Fr h₀ L h m → News h₀ L h ((I, oI) :: (C, oC) :: (D, lst ys) :: B) → Off3 I C D B → ((@Ne Nat I C) ∧ (@Ne Nat I D) ∧ (@Ne Nat C D)) →
      wpAny (model prog w) A (isTrue ct (compEnvC scope cl C env) (eval ct (compEnvC scope cl C env))) (fun ok s' => if ok = true then
        wpAny (model prog w) A (eval elt (compEnvC scope cl C env)) (CompEnd h₀ L m { { s with heap := g } with heap := h, toks := tk } I oI C oC D (lst ys) (SrcAt h₀ ax vs.toArray) (fun y news' => news' = B ∧ P (i + 1) (ys ++ [y]))) E' s'
        else CompEnd h₀ L m { { s with heap := g } with heap := h, toks := tk } I oI C oC D (lst ys) (SrcAt h₀ ax vs.toArray) (fun _ news' => news' = B ∧ P (i + 1) ys) Value.none s') E' { { s with heap := g } with heap := h, toks := tk })
    (done : ∀ g ys, P vs.length ys → Fin { s with heap := g } ys B) : LCt.CompSrcT prog w A h₀ L m env ct elt x scope cl Fin (.ref ax) s := by
  refine LCt.CompSrcT.ledger hh F N hm (by rw [List.size_toArray]; simp only [PySem.sizeLine_eq]; omega) fun g => ?_
  refine compT_inv (fun i ys nl => nl = B ∧ P i ys) ?_ ?_ _ 0 [] B (by rw [Nat.zero_add]) ⟨rfl, h0⟩
  · rintro i ys nl hi ⟨rfl, hp⟩ v I oI C oC D m₂ h tk E' hv
    exact turn g i ys (by simpa using hi) hp v I oI C oC D m₂ h tk E' (by simpa using hv)
  · rintro ys nl ⟨rfl, hp⟩
    exact done g ys (by simpa using hp)
theorem comp_end0 {base all : Led} {I C D ax : Addr} {oI oC : Obj} {ys its : List Value} {nn : Nat} {R : Value → Prop} {h' : Heap} {s₁ : Shared} {y : Value} {tk : Nat}
    (F : Fr h₀ L h' m) (N : News h₀ L h' all) (o3 : LCg.Off3 I C D base) (hsub : ∀ p ∈ (I, oI) :: (C, oC) :: (D, LCg.lst ys) :: base, p ∈ all) (hm : (ax, listOf its.toArray nn) ∈ base) (hr : R y) :
    LCg.CompEnd h₀ L m s₁ I oI C oC D (LCg.lst ys) (LCg.SrcAt h₀ ax its.toArray) (fun y news' => news' = base ∧ R y) y { s₁ with heap := h', toks := tk } :=
  LCg.CompEnd.intro F N base hsub o3 (.inr ⟨_, hm, rfl, _, rfl⟩) ⟨rfl, hr⟩
end
theorem rest_take {qs : List (Int × Int)} {p : Int × Int} {i : Nat} (hi : i < qs.length) : rest (qs.take (i + 1)) p = rest (qs.take i) p ++ (if qs.getD i (0, 0) ≠ p then [qs.getD i (0, 0)] else []) := by
  have e : qs.getD i (0, 0) = qs[i] := by simp [List.getD, hi]
  unfold rest
  rw [e, List.take_add_one, List.getElem?_eq_getElem hi, List.filter_append]
  congr 1
  by_cases h : qs[i] = p
  · simp [h]
  · simp [h]
theorem rest_length (qs : List (Int × Int)) (p : Int × Int) : (rest qs p).length ≤ qs.length := List.length_filter_le ..
noncomputable def oth (q : Int × Int) (i : Nat) : Int × Int := if i = 0 then (q.1, q.2 + 1) else (q.1 + 1, q.2)
noncomputable def cpart (n : Nat) (q : Int × Int) (qs : List (Int × Int)) : Nat → Int
  | 0 => 0
  | i + 1 => cpart n q qs i + (if oth q i ∈ q :: qs then covers n (rest qs (oth q i)) else 0)
theorem cpart_two (n : Nat) (q : Int × Int) (qs : List (Int × Int)) : cpart n q qs 2 = covers (n + 1) (q :: qs) := by
  show (0 + _) + _ = _
  rw [Int.zero_add]
  rfl
theorem covBase {h₀ h : Heap} {L : Addr} {x1 x2 x3 x4 x5 : Addr × Obj} {r : Led} (N : News h₀ L h (x1 :: x2 :: x3 :: x4 :: x5 :: r)) : News h₀ L h (x5 :: x1 :: x2 :: x3 :: r) := newsSub N (by
  intro p hp
  simp only [List.mem_cons] at hp ⊢
  rcases hp with hp | hp | hp | hp | hp <;> simp only [hp, true_or, or_true])
theorem cov_item {h₀ hh : Heap} {L c D' D1 D2 : Addr} {o d' : Obj} {x y : Int} {t1 u1 t2 u2 : Tok} {n1 n2 i : Nat} {v : Value} {r : Led} (hv : [Value.ref D2, Value.ref D1][i]? = some v)
    (_ : News h₀ L hh ((c, o) :: (D', d') :: (D1, tupOf #[.int (x + 1) t1, .int y u1] n1) :: (D2, tupOf #[.int x t2, .int (y + 1) u2] n2) :: r)) :
    ∃ T9, v = .ref T9 ∧ SqIn ((D', d') :: (D1, tupOf #[.int (x + 1) t1, .int y u1] n1) :: (D2, tupOf #[.int x t2, .int (y + 1) u2] n2) :: r) (.ref T9) (oth (x, y) i) := by
  match i, hv with
  | 0, hv => exact ⟨D2, (Option.some.inj hv).symm, .mk (.tail _ (.tail _ (.head _)))⟩
  | 1, hv => exact ⟨D1, (Option.some.inj hv).symm, .mk (.tail _ (.head _))⟩
inductive CovJ (c : Addr) (base : Led) (m₀ : Str → Option Value) (f : Nat → Int) (i : Nat) (m : Str → Option Value) (nx : Led) : Prop
  | mk {o : Obj} {cv : Option Value} {t : Tok} (e : nx = (c, o) :: base) (hd : o.data = .cell cv) (hm : ∀ y, y ≠ Str.ofString "found" → m y = m₀ y) (hf : m (Str.ofString "found") = some (.int (f i) t)) : CovJ c base m₀ f i m nx
theorem frame_of1 {m m₀ : Str → Option Value} {x : Str} {v : Value} (h : ∀ y, y ≠ x → m y = m₀ y) (hx : m x = some v) : m = fun y => if y = x then some v else m₀ y := by
  funext y
  by_cases e : y = x
  · rw [if_pos e, e, hx]
  · rw [if_neg e]; exact h y e
set_option maxHeartbeats 1200000 in
theorem covers_step (w : World) (mean : ExcName → Option Value) (mg mb : Str → Option Value) (n : Nat) (ih : ∀ b, b.length ≤ n → Tell w mean mg mb 289 CovIn (fun _ => 2 * n + 2) (fun _ _ v d => ∃ t, v = .int (covers n d) t) b) (d : List (Int × Int)) (hb : d.length ≤ n + 1) :
    Tell w mean mg mb 289 CovIn (fun _ => 2 * (n + 1) + 2) (fun _ _ v d => ∃ t, v = .int (covers (n + 1) d) t) d := by
  unfold Tell
  k_fill
  intro dp un gd cn cs a ccd cl outer A₀ base h₀ L m news s vs Q E B F X N T hk hR hd hu hret
  try dsimp only at hd hu hret
  cases hR with
  | @mk v b h =>
  cases h with
  | @mk a na vs _ ha hs hl9 =>
  have e1 := hs.length
  cases hs with
  | nil =>
    have byinv : ByInv := ⟨⟩
    refine wpAny_call ?_
    k_dflt (refine' code_defC ?k1 ?k2 ?k3 ?k4 ?k5 ?kA ?kF ?kK ?k6 ?k7 ?k8 ?k9 ?kB ?kD ?_ ?c2 ?c3 ?c4; (case kA => exact rfl); (case kF => exact rfl); (case kK => assumption); (case k1 => k_asm); (case k2 => k_asm); (case k3 => k_asm); (case k4 => k_asm); (case k5 => k_asm); (case k6 => k_is); (case k7 => k_is); (case k8 => ktr_room); (case k9 => exact BindsTo.of_eq rfl); (case kB => exact rfl); (case kD => decide +kernel); (case c2 => exact rfl); (case c3 => exact rfl); (case c4 => exact rfl); k_whole; intro g' L' h' tk' cells' FG' F' N' Y' B' X' T' l1; k_cells Y'; (try simp only [List.cons_append, List.nil_append] at N'); (try dsimp only); (try k_fold))
    k_steps
    all_goals (try k_data)
    unfold Hold
    k_dflt (first | (refine' eqnil_yes ?k1 ?k2 ?k3 ?k4 ?_; (case k1 => k_asm); (case k2 => ktr_unf; done); (case k3 => ktr_unf; done); (case k4 => cb_units)) | (refine' eqnil_no ?k1 ?k2 ?k3 ?k4 ?_; (case k1 => k_asm); (case k2 => ktr_unf; done); (case k3 => ktr_unf; done); (case k4 => cb_units)))
    k_steps
    all_goals (try k_data)
    (refine' hret _ ([]) _ _ ?f1 ?f2 (Off.nil) ?f3; (case f1 => k_asm); (case f2 => first | k_asm | exact ktn_tl0 (by k_asm) | exact ktn_tl1 (by k_asm) | exact ktn_tl2 (by k_asm) | exact newsSub (by k_asm) (by ktr_rel) | exact newsTop (by k_asm) (by ktr_rel)); (case f3 => exact (⟨_, rfl⟩)))
  | @cons v q vs qs hq hs =>
  cases hq with
  | @mk T nT x y t u hT =>
  have byinv : ByInv := ⟨⟩
  have hsq : SqAll news (.ref T :: vs) ((x, y) :: qs) := .cons (.mk hT) hs
  refine wpAny_call ?_
  k_dflt (refine' code_defC ?k1 ?k2 ?k3 ?k4 ?k5 ?kA ?kF ?kK ?k6 ?k7 ?k8 ?k9 ?kB ?kD ?_ ?c2 ?c3 ?c4; (case kA => exact rfl); (case kF => exact rfl); (case kK => assumption); (case k1 => k_asm); (case k2 => k_asm); (case k3 => k_asm); (case k4 => k_asm); (case k5 => k_asm); (case k6 => k_is); (case k7 => k_is); (case k8 => ktr_room); (case k9 => exact BindsTo.of_eq rfl); (case kB => exact rfl); (case kD => decide +kernel); (case c2 => exact rfl); (case c3 => exact rfl); (case c4 => exact rfl); k_whole; intro g' L' h' tk' cells' FG' F' N' Y' B' X' T' l1; k_cells Y'; (try simp only [List.cons_append, List.nil_append] at N'); (try dsimp only); (try k_fold))
  k_steps
  all_goals (try k_data)
  unfold Hold
  k_dflt (first | (refine' eqnil_yes ?k1 ?k2 ?k3 ?k4 ?_; (case k1 => k_asm); (case k2 => ktr_unf; done); (case k3 => ktr_unf; done); (case k4 => cb_units)) | (refine' eqnil_no ?k1 ?k2 ?k3 ?k4 ?_; (case k1 => k_asm); (case k2 => ktr_unf; done); (case k3 => ktr_unf; done); (case k4 => cb_units)))
  k_steps
  all_goals (try k_data)
  rename Fr _ _ _ _ => lF
  rename News _ _ _ _ => lN
  refine tup_inv (vs := [.ref _, .ref _]) (nn := 0) (by rfl) lF (covBase lN) (.tail _ (.head _)) (CovJ _ _ _ (cpart n (x, y) qs)) (CovJ.mk rfl (by assumption) (fun _ _ => rfl) rfl) ?_ ?_
  · intro i v m₁ nx hh tk own hv hoff hl hJ F₁ N₁
    obtain ⟨e, hd, hm, hf⟩ := hJ
    subst e
    rw [frame_of1 hm hf] at F₁
    simp only [List.cons_append] at N₁
    obtain ⟨T9, rfl, hSq⟩ := cov_item hv N₁
    have hoc := own_ne hoff
    have hnc := fun q hq => Nat.ne_of_lt (Nat.lt_succ_of_lt ((by assumption : ∀ p ∈ news, p.1 < _) q hq))
    have hln := e1
    simp only [List.length_cons] at hb hln hl9
    have hL9 : (Value.ref T :: vs).length ≤ 100 := by rw [List.length_cons]; omega
    by_cases hc : oth (x, y) i ∈ (x, y) :: qs
    · have hc1 : cpart n (x, y) qs (i + 1) = cpart n (x, y) qs i + covers n (rest qs (oth (x, y) i)) := by
        show _ + (if _ then _ else _) = _
        rw [if_pos hc]
      k_steps
      unfold Hold
      with_reducible rename SqAll _ _ _ => hsq9
      k_dflt (refine' in_board ?k1 ?k2 (hsq9.mono ?k3) ?k4 ?k5 ?k6 ?_; (case k1 => k_asm); (case k2 => ktr_unf; done); (case k3 => ktr_rel); (case k4 => first | exact SqIn.mk (by ktr_unf; done) | (refine' SqIn.mono ?za ?zb; (case zb => assumption); (case za => ktr_rel))); (case k5 => cb_units); (case k6 => first | exact decide_eq_true (by assumption) | exact decide_eq_false (by assumption)); k_whole)
      k_steps
      all_goals (try k_data)
      unfold Hold
      k_dflt (refine LCt.ListComp_T (F₀ := by k_asm) (by with_unfolding_all rfl) (by decide) (by rfl) (by decide) (by rfl) ?_)
      k_steps
      unfold Hold
      k_dflt (refine' slice_led ?zF ?zN ?zl ?zp ?zq ?ze ?_ ?zs ?zt ?zz; (case zF => k_asm); (case zN => k_asm); (case zl => ktr_unf; done); (case zp => kmk_part); (case zq => kmk_part); (case ze => first | exact pick_all | exact pick_from1); (case zs => with_unfolding_all rfl); (case zt => kmk_pure); (case zz => omega))
      intro _ _ _ _ _
      k_steps
      all_goals (try k_data)
      unfold Hold
      refine compT_led (vs := vs) (by rfl) (by k_asm) (by k_asm) (by ktr_unf; done) (by omega) (fun j ys => SqAll news ys (rest (qs.take j) (oth (x, y) i))) .nil ?_ ?_
      · intro g j ys hj hP v I oI C oC D m₂ h tk E' hv' hns hx F₂ N₂ o3 hne
        obtain ⟨v', hv9, hq'⟩ := hs.get j (by omega)
        rw [hv'] at hv9
        cases hv9
        obtain ⟨Tv, rfl⟩ : ∃ Tv, v = .ref Tv := SqIn.ref hq'
        have hj9 : j < qs.length := by omega
        by_cases he : qs.getD j (0, 0) ≠ oth (x, y) i
        · k_steps
          unfold Hold
          k_dflt (refine' ne_sq ?k1 ?k2 ?k3 ?k4 ?k5 ?_; (case k1 => k_asm); (case k2 => refine' SqIn.mono ?za ?zb; (case zb => assumption); (case za => ktr_rel)); (case k3 => refine' SqIn.mono ?za ?zb; (case zb => assumption); (case za => ktr_rel)); (case k4 => cb_units); (case k5 => first | exact decide_eq_true (by assumption) | exact decide_eq_false (by assumption)); k_whole)
          k_steps
          all_goals (try k_data)
          exact comp_end0 (R := fun y9 => SqAll news (ys ++ [y9]) (rest (qs.take (j + 1)) (oth (x, y) i))) (by k_asm) (by k_asm) o3 (by ktr_rel) (by ktr_unf; done) (by rw [rest_take hj9, if_pos he]; exact hP.snoc hq')
        · k_steps
          unfold Hold
          k_dflt (refine' ne_sq ?k1 ?k2 ?k3 ?k4 ?k5 ?_; (case k1 => k_asm); (case k2 => refine' SqIn.mono ?za ?zb; (case zb => assumption); (case za => ktr_rel)); (case k3 => refine' SqIn.mono ?za ?zb; (case zb => assumption); (case za => ktr_rel)); (case k4 => cb_units); (case k5 => first | exact decide_eq_true (by assumption) | exact decide_eq_false (by assumption)); k_whole)
          k_steps
          all_goals (try k_data)
          exact comp_end0 (R := fun _ => SqAll news ys (rest (qs.take (j + 1)) (oth (x, y) i))) (by k_asm) (by k_asm) o3 (by ktr_rel) (by ktr_unf; done) (by rw [rest_take hj9, if_neg he, List.append_nil]; exact hP)
      · intro g ys hP D h2 tk2 F2 N2 o1
        have e2 : List.take vs.length qs = qs := List.take_of_length_le (by omega)
        rw [e2] at hP
        have hr1 := rest_length qs (oth (x, y) i)
        have hr2 : (rest qs (oth (x, y) i)).length ≤ n := by omega
        have hr3 : (rest qs (oth (x, y) i)).length ≤ 10 := by omega
        k_steps
        k_dflt (refine' Tell.use (rest qs (oth (x, y) i)) (ih (rest qs (oth (x, y) i)) hr2) ?k1 ?k2 ?k3 ?k4 ?k5 ?k6 ?k7 ?k8 ?k9 ?_; (case k1 => k_asm); (case k2 => k_asm); (case k3 => k_asm); (case k4 => k_asm); (case k5 => k_asm); (case k6 => exact rfl); (case k7 => exact CovIn.mk (BoardIn.mk (vs := ys) (by ktr_unf; done) (hP.mono (by ktr_rel)) hr3)); (case k8 => ktr_room); (case k9 => ktr_units))
        intro r9 tl9 h9 tk9 F9 N9 hl9 ho9
        obtain ⟨t9, rfl⟩ := ho9
        (try simp only [List.cons_append, List.nil_append, List.append_assoc] at N9)
        (try dsimp only); (try k_fold)
        k_steps
        all_goals (try k_data)
        clear hd
        refine' InvEndG.intro (nx := (_, _) :: _) (by k_asm) (by k_asm) ⟨?g1, CovJ.mk (t := ?tt) rfl (by assumption) ?g2 ?g3⟩ ?g6 ?g4 ?g5
        case g6 => exact hoff
        case g3 => rw [hc1]; exact if_pos rfl
        case g1 => exact List.forall_mem_cons.mpr ⟨.tail _ (.head _), List.forall_mem_nil _⟩
        case g2 => exact fun y hy => (if_neg hy).trans (if_neg hy)
        case g4 => ktr_rel
        case g5 => ktr_rel
    · have hc1 : cpart n (x, y) qs (i + 1) = cpart n (x, y) qs i := by
        show _ + (if _ then _ else _) = _
        rw [if_neg hc, Int.add_zero]
      k_steps
      unfold Hold
      with_reducible rename SqAll _ _ _ => hsq9
      k_dflt (refine' in_board ?k1 ?k2 (hsq9.mono ?k3) ?k4 ?k5 ?k6 ?_; (case k1 => k_asm); (case k2 => ktr_unf; done); (case k3 => ktr_rel); (case k4 => first | exact SqIn.mk (by ktr_unf; done) | (refine' SqIn.mono ?za ?zb; (case zb => assumption); (case za => ktr_rel))); (case k5 => cb_units); (case k6 => first | exact decide_eq_true (by assumption) | exact decide_eq_false (by assumption)); k_whole)
      k_steps
      all_goals (try k_data)
      clear hd
      refine' InvEndG.intro (nx := (_, _) :: _) (by k_asm) (by k_asm) ⟨?xg1, CovJ.mk (t := ?xtt) rfl (by assumption) ?xg2 ?xg3⟩ ?xg6 ?xg4 ?xg5
      case xg6 => exact hoff
      case xg3 => rw [hc1]; exact if_pos rfl
      case xg1 => exact List.forall_mem_cons.mpr ⟨.tail _ (.head _), List.forall_mem_nil _⟩
      case xg2 => exact fun y hy => if_neg hy
      case xg4 => ktr_rel
      case xg5 => ktr_rel
  · intro m₁ nx hh tk hJ F₁ N₁
    obtain ⟨e, hd, hm, hf⟩ := hJ
    subst e
    rw [frame_of1 hm hf] at F₁
    k_steps
    (refine' hret _ ([]) _ _ ?f1 ?f2 (Off.nil) ?f3; (case f1 => k_asm); (case f2 => first | k_asm | exact ktn_tl0 (by k_asm) | exact ktn_tl1 (by k_asm) | exact ktn_tl2 (by k_asm) | exact newsSub (by k_asm) (by ktr_rel) | exact newsTop (by k_asm) (by ktr_rel)); (case f3 => exact (⟨_, congrArg (fun z => Value.int z _) (cpart_two n (x, y) qs)⟩)))
set_option maxHeartbeats 1200000 in
theorem covers_zero (w : World) (mean : ExcName → Option Value) (mg mb : Str → Option Value) (d : List (Int × Int)) (hb : d.length ≤ 0) :
    Tell w mean mg mb 289 CovIn (fun _ => 2 * 0 + 2) (fun _ _ v d => ∃ t, v = .int (covers 0 d) t) d := by
  unfold Tell
  k_fill
  intro dp un gd cn cs a ccd cl outer A₀ base h₀ L m news s vs Q E B F X N T hk hR hd hu hret
  try dsimp only at hd hu hret
  cases hR with
  | @mk v b h =>
  cases h with
  | @mk a na vs _ ha hs hl9 =>
  cases hs with
  | nil =>
    have byinv : ByInv := ⟨⟩
    refine wpAny_call ?_
    k_dflt (refine' code_defC ?k1 ?k2 ?k3 ?k4 ?k5 ?kA ?kF ?kK ?k6 ?k7 ?k8 ?k9 ?kB ?kD ?_ ?c2 ?c3 ?c4; (case kA => exact rfl); (case kF => exact rfl); (case kK => assumption); (case k1 => k_asm); (case k2 => k_asm); (case k3 => k_asm); (case k4 => k_asm); (case k5 => k_asm); (case k6 => k_is); (case k7 => k_is); (case k8 => ktr_room); (case k9 => exact BindsTo.of_eq rfl); (case kB => exact rfl); (case kD => decide +kernel); (case c2 => exact rfl); (case c3 => exact rfl); (case c4 => exact rfl); k_whole; intro g' L' h' tk' cells' FG' F' N' Y' B' X' T' l1; k_cells Y'; (try simp only [List.cons_append, List.nil_append] at N'); (try dsimp only); (try k_fold))
    k_steps
    all_goals (try k_data)
    unfold Hold
    k_dflt (first | (refine' eqnil_yes ?k1 ?k2 ?k3 ?k4 ?_; (case k1 => k_asm); (case k2 => ktr_unf; done); (case k3 => ktr_unf; done); (case k4 => cb_units)) | (refine' eqnil_no ?k1 ?k2 ?k3 ?k4 ?_; (case k1 => k_asm); (case k2 => ktr_unf; done); (case k3 => ktr_unf; done); (case k4 => cb_units)))
    k_steps
    all_goals (try k_data)
    (refine' hret _ ([]) _ _ ?f1 ?f2 (Off.nil) ?f3; (case f1 => k_asm); (case f2 => first | k_asm | exact ktn_tl0 (by k_asm) | exact ktn_tl1 (by k_asm) | exact ktn_tl2 (by k_asm) | exact newsSub (by k_asm) (by ktr_rel) | exact newsTop (by k_asm) (by ktr_rel)); (case f3 => exact (⟨_, rfl⟩)))
  | cons _ _ => exact absurd hb (by rw [List.length_cons]; omega)
theorem covers_tells (w : World) (mean : ExcName → Option Value) (mg mb : Str → Option Value) : ∀ n b, b.length ≤ n → Tell w mean mg mb 289 CovIn (fun _ => 2 * n + 2) (fun _ _ v d => ∃ t, v = .int (covers n d) t) b
  | 0, b, h => covers_zero w mean mg mb b h
  | n + 1, b, h => covers_step w mean mg mb n (covers_tells w mean mg mb n) b h
end
section
inductive PairNat (l : Led) : Value → Int × Int → Prop
  | mk {T : Addr} {n : Nat} {va vb : Value} {x y : Int} (h : (T, tupOf #[va, vb] n) ∈ l) (ha : NatIn l va x) (hb : NatIn l vb y) : PairNat l (.ref T) (x, y)
theorem PairNat.mono {l l' : Led} {v : Value} {q : Int × Int} (hs : ∀ p ∈ l, p ∈ l') (h : PairNat l v q) : PairNat l' v q := by
  cases h with
  | mk h a b => exact .mk (hs _ h) (a.mono hs) (b.mono hs)
noncomputable def okDbl (q : Int × Int) : Bool := decide (q.2 < 8) && decide (q.1 ≤ 2 * q.2) && decide (q.1 * (2 * q.2 - q.1) < 16) && decide (q.1 * q.1 < 16) && decide (q.2 * q.2 < 16) && decide (q.1 * q.1 + q.2 * q.2 < 16)
inductive DblIn (news : Led) : List Value → Int × Int → Prop
  | mk {v : Value} {q : Int × Int} {w : Int} {t : Tok} (h : PairNat news v q) (hw : 4 ≤ w) (hw' : w ≤ 8) (ok : okDbl q = true) : DblIn news [v, .int w t, .ref 228] q
set_option maxHeartbeats 8000000 in
theorem dbl_tells (w : World) (mean : ExcName → Option Value) (mg mb : Str → Option Value) : ∀ d, Tell w mean mg mb 207 DblIn (fun _ => 3) (fun _ tl v d => PairNat tl v (d.1 * (2 * d.2 - d.1), d.1 * d.1 + d.2 * d.2)) d := by
  intro d
  unfold Tell
  k_fill
  intro dp un gd cn cs a ccd cl outer A₀ base h₀ L m news s vs Q E B F X N T hk hR hd hu hret
  try dsimp only at hd hu hret
  cases hR with
  | @mk v q w t h hw hw' ok =>
  cases h with
  | @mk T n va vb x y hT ha hb =>
  simp only [okDbl, Bool.and_eq_true, decide_eq_true_eq] at ok
  obtain ⟨⟨⟨⟨⟨o1, o2⟩, o3⟩, o4⟩, o5⟩, o6⟩ := ok
  refine wpAny_call ?_
  k_dflt ktr_enter
  k_steps
  all_goals (try k_data)
  k_dflt (refine' Tell.use y (shift_tells _ _ _ _ _) ?k1 ?k2 ?k3 ?k4 ?k5 ?k6 ?k7 ?k8 ?k9 ?_; (case k1 => k_asm); (case k2 => k_asm); (case k3 => k_asm); (case k4 => k_asm); (case k5 => k_asm); (case k6 => exact rfl); (case k7 => exact ShiftIn.mk hb o1 hw hw'); (case k8 => ktr_room); (case k9 => ktr_units))
  intro r9 tl9 h9 tk9 F9 N9 hl9 ho9
  (try simp only [List.cons_append, List.nil_append, List.append_assoc] at N9)
  (try dsimp only); (try k_fold)
  k_steps
  all_goals (try k_data)
  k_dflt (refine' Tell.use (2 * y, x) (sub_tells _ _ _ _ _) ?k1 ?k2 ?k3 ?k4 ?k5 ?k6 ?k7 ?k8 ?k9 ?_; (case k1 => k_asm); (case k2 => k_asm); (case k3 => k_asm); (case k4 => k_asm); (case k5 => k_asm); (case k6 => exact rfl); (case k7 => exact SubIn.mk (ho9.mono (by ktr_rel)) (ha.mono (by ktr_rel)) hw hw' o2); (case k8 => ktr_room); (case k9 => ktr_units))
  intro r8 tl8 h8 tk8 F8 N8 hl8 ho8
  (try simp only [List.cons_append, List.nil_append, List.append_assoc] at N8)
  (try dsimp only); (try k_fold)
  k_steps
  all_goals (try k_data)
  k_dflt (refine' Tell.use (x, 2 * y - x) (mul_tells _ _ _ _ _) ?k1 ?k2 ?k3 ?k4 ?k5 ?k6 ?k7 ?k8 ?k9 ?_; (case k1 => k_asm); (case k2 => k_asm); (case k3 => k_asm); (case k4 => k_asm); (case k5 => k_asm); (case k6 => exact rfl); (case k7 => exact MulIn.mk (ha.mono (by ktr_rel)) (ho8.mono (by ktr_rel)) hw hw' o3); (case k8 => ktr_room); (case k9 => ktr_units))
  intro r7 tl7 h7 tk7 F7 N7 hl7 ho7
  (try simp only [List.cons_append, List.nil_append, List.append_assoc] at N7)
  (try dsimp only); (try k_fold)
  k_steps
  all_goals (try k_data)
  k_dflt (refine' Tell.use (x, x) (mul_tells _ _ _ _ _) ?k1 ?k2 ?k3 ?k4 ?k5 ?k6 ?k7 ?k8 ?k9 ?_; (case k1 => k_asm); (case k2 => k_asm); (case k3 => k_asm); (case k4 => k_asm); (case k5 => k_asm); (case k6 => exact rfl); (case k7 => exact MulIn.mk (ha.mono (by ktr_rel)) (ha.mono (by ktr_rel)) hw hw' o4); (case k8 => ktr_room); (case k9 => ktr_units))
  intro r6 tl6 h6 tk6 F6 N6 hl6 ho6
  (try simp only [List.cons_append, List.nil_append, List.append_assoc] at N6)
  (try dsimp only); (try k_fold)
  k_steps
  all_goals (try k_data)
  k_dflt (refine' Tell.use (y, y) (mul_tells _ _ _ _ _) ?k1 ?k2 ?k3 ?k4 ?k5 ?k6 ?k7 ?k8 ?k9 ?_; (case k1 => k_asm); (case k2 => k_asm); (case k3 => k_asm); (case k4 => k_asm); (case k5 => k_asm); (case k6 => exact rfl); (case k7 => exact MulIn.mk (hb.mono (by ktr_rel)) (hb.mono (by ktr_rel)) hw hw' o5); (case k8 => ktr_room); (case k9 => ktr_units))
  intro r5 tl5 h5 tk5 F5 N5 hl5 ho5
  (try simp only [List.cons_append, List.nil_append, List.append_assoc] at N5)
  (try dsimp only); (try k_fold)
  k_steps
  all_goals (try k_data)
  k_dflt (refine' Tell.use (x * x, y * y) (add_tells _ _ _ _ _) ?k1 ?k2 ?k3 ?k4 ?k5 ?k6 ?k7 ?k8 ?k9 ?_; (case k1 => k_asm); (case k2 => k_asm); (case k3 => k_asm); (case k4 => k_asm); (case k5 => k_asm); (case k6 => exact rfl); (case k7 => exact AddIn.mk (ho6.mono (by ktr_rel)) (ho5.mono (by ktr_rel)) hw hw' o6); (case k8 => ktr_room); (case k9 => ktr_units))
  intro r4 tl4 h4 tk4 F4 N4 hl4 ho4
  (try simp only [List.cons_append, List.nil_append, List.append_assoc] at N4)
  (try dsimp only); (try k_fold)
  k_steps
  all_goals (try k_data)
  (refine' hret _ ((_, _) :: (tl9 ++ (tl8 ++ (tl7 ++ (tl6 ++ (tl5 ++ tl4)))))) _ _ ?f1 ?f2 (Off.cons' (fun q hq => Nat.ne_of_lt ((by assumption : ∀ p ∈ news ++ (tl9 ++ (tl8 ++ (tl7 ++ (tl6 ++ (tl5 ++ tl4))))), p.1 < _) q (sub_l q hq))) (Off.app hl9 (Off.app (Off.sub hl8 (by ktr_rel)) (Off.app (Off.sub hl7 (by ktr_rel)) (Off.app (Off.sub hl6 (by ktr_rel)) (Off.app (Off.sub hl5 (by ktr_rel)) (Off.sub hl4 (by ktr_rel)))))))) ?f3; (case f1 => k_asm); (case f2 => first | k_asm | exact ktn_tl0 (by k_asm) | exact ktn_tl1 (by k_asm) | exact ktn_tl2 (by k_asm) | exact newsSub (by k_asm) (by ktr_rel) | exact newsTop (by k_asm) (by ktr_rel)); (case f3 => exact (PairNat.mk (.head _) (ho7.mono (by ktr_rel)) (ho4.mono (by ktr_rel)))))
inductive NeedIn : List Value → Int → Prop
  | mk {n : Int} {u : Tok} (h : 0 ≤ n) : NeedIn [.int n u] n
set_option maxHeartbeats 8000000 in
theorem need_tells (w : World) (mean : ExcName → Option Value) (mg mb : Str → Option Value) : ∀ d, Tell w mean mg mb 200 (fun _ => NeedIn) (fun _ => 1) (fun _ tl v d => tl = [] ∧ v = .none) d := by
  intro d
  unfold Tell
  k_fill
  intro dp un gd cn cs a ccd cl outer A₀ base h₀ L m news s vs Q E B F X N T hk hR hd hu hret
  try dsimp only at hd hu hret
  cases hR with
  | @mk n u h =>
  have hn : ¬ d < 0 := by omega
  refine wpAny_call ?_
  k_dflt ktr_enter
  k_steps
  all_goals (try k_data)
  all_goals first | (exfalso; omega) | (refine' hret _ ([]) _ _ ?f1 ?f2 (Off.nil) ?f3; (case f1 => k_asm); (case f2 => first | k_asm | exact ktn_tl0 (by k_asm) | exact ktn_tl1 (by k_asm) | exact ktn_tl2 (by k_asm) | exact newsSub (by k_asm) (by ktr_rel) | exact newsTop (by k_asm) (by ktr_rel)); (case f3 => exact (⟨rfl, rfl⟩)))
theorem newsTop {h₀ h : Heap} {L : Addr} {x : Addr × Obj} {a b rest : Led} (N : News h₀ L h (x :: rest)) (hs : ∀ p ∈ a ++ b, p ∈ rest) : News h₀ L h (a ++ (x :: b)) := newsSub N (by
  intro p hp
  rcases List.mem_append.mp hp with hp | hp
  · exact .tail _ (hs p (List.mem_append.mpr (.inl hp)))
  · rcases List.mem_cons.mp hp with rfl | hp
    · exact .head _
    · exact .tail _ (hs p (List.mem_append.mpr (.inr hp))))
inductive FibIn : List Value → Nat → Prop
  | mk {n : Nat} {w : Int} {t u : Tok} (h : n = 2 ∨ n = 3 ∨ n = 4) (hw : 4 ≤ w) (hw' : w ≤ 8) : FibIn [.int (n : Int) u, .int w t, .ref 228] n
set_option maxHeartbeats 8000000 in
theorem fibp_tells (w : World) (mean : ExcName → Option Value) (mg mb : Str → Option Value) : ∀ d, Tell w mean mg mb 214 (fun _ => FibIn) (fun _ => 4) (fun _ tl v d => ∃ y, PairNat tl v ((d : Int) - 1, y)) d := by
  intro d
  unfold Tell
  k_fill
  intro dp un gd cn cs a ccd cl outer A₀ base h₀ L m news s vs Q E B F X N T hk hR hd hu hret
  try dsimp only at hd hu hret
  cases hR with
  | @mk n w t u h hw hw' =>
  rcases h with rfl | rfl | rfl
  · refine wpAny_call ?_
    k_dflt ktr_enter
    k_steps
    all_goals (try k_data)
    k_dflt (refine' Tell.use ((2 : Nat) : Int) (need_tells _ _ _ _ _) ?k1 ?k2 ?k3 ?k4 ?k5 ?k6 ?k7 ?k8 ?k9 ?_; (case k1 => k_asm); (case k2 => k_asm); (case k3 => k_asm); (case k4 => k_asm); (case k5 => k_asm); (case k6 => exact rfl); (case k7 => exact NeedIn.mk (by omega)); (case k8 => ktr_room); (case k9 => ktr_units))
    intro r9 tl9 h9 tk9 F9 N9 hl9 ho9
    obtain ⟨rfl, rfl⟩ := ho9
    (try simp only [List.cons_append, List.nil_append, List.append_assoc] at N9)
    (try dsimp only); (try k_fold)
    k_steps
    all_goals (try k_data)
    k_dflt (refine' Tell.use (0, 1) (dbl_tells _ _ _ _ _) ?k1 ?k2 ?k3 ?k4 ?k5 ?k6 ?k7 ?k8 ?k9 ?_; (case k1 => k_asm); (case k2 => k_asm); (case k3 => k_asm); (case k4 => k_asm); (case k5 => k_asm); (case k6 => exact rfl); (case k7 => exact DblIn.mk (PairNat.mk (by ktr_unf; done) (NatIn.zero (by ktr_unf; done)) (NatIn.pos (by ktr_unf; done) (by decide) (by decide))) hw hw' rfl); (case k8 => ktr_room); (case k9 => ktr_units))
    intro r8 tl8 h8 tk8 F8 N8 hl8 ho8
    replace ho8 : PairNat tl8 r8 (0, 1) := ho8
    obtain ⟨hT8, ha8, hb8⟩ := ho8
    (try simp only [List.cons_append, List.nil_append, List.append_assoc] at N8)
    (try dsimp only); (try k_fold)
    k_steps
    all_goals (try k_data)
    k_dflt (refine' Tell.use (0, 1) (add_tells _ _ _ _ _) ?k1 ?k2 ?k3 ?k4 ?k5 ?k6 ?k7 ?k8 ?k9 ?_; (case k1 => k_asm); (case k2 => k_asm); (case k3 => k_asm); (case k4 => k_asm); (case k5 => k_asm); (case k6 => exact rfl); (case k7 => exact AddIn.mk (ha8.mono (by ktr_rel)) (hb8.mono (by ktr_rel)) hw hw' (by decide)); (case k8 => ktr_room); (case k9 => ktr_units))
    intro r7 tl7 h7 tk7 F7 N7 hl7 ho7
    replace ho7 : NatIn tl7 r7 1 := ho7
    (try simp only [List.cons_append, List.nil_append, List.append_assoc] at N7)
    (try dsimp only); (try k_fold)
    k_steps
    all_goals (try k_data)
    k_dflt (refine' Tell.use (1, 1) (dbl_tells _ _ _ _ _) ?k1 ?k2 ?k3 ?k4 ?k5 ?k6 ?k7 ?k8 ?k9 ?_; (case k1 => k_asm); (case k2 => k_asm); (case k3 => k_asm); (case k4 => k_asm); (case k5 => k_asm); (case k6 => exact rfl); (case k7 => exact DblIn.mk (PairNat.mk (by ktr_unf; done) (hb8.mono (by ktr_rel)) (ho7.mono (by ktr_rel))) hw hw' rfl); (case k8 => ktr_room); (case k9 => ktr_units))
    intro r6 tl6 h6 tk6 F6 N6 hl6 ho6
    replace ho6 : PairNat tl6 r6 (1, 2) := ho6
    obtain ⟨hT6, ha6, hb6⟩ := ho6
    (try simp only [List.cons_append, List.nil_append, List.append_assoc] at N6)
    (try dsimp only); (try k_fold)
    k_steps
    all_goals (try k_data)
    (refine' hret _ (tl6) _ _ ?f1 ?f2 (Off.sub hl6 (by ktr_rel)) ?f3; (case f1 => k_asm); (case f2 => first | k_asm | exact ktn_tl0 (by k_asm) | exact ktn_tl1 (by k_asm) | exact ktn_tl2 (by k_asm) | exact newsSub (by k_asm) (by ktr_rel) | exact newsTop (by k_asm) (by ktr_rel)); (case f3 => exact (⟨_, PairNat.mk hT6 ha6 hb6⟩)))
  · refine wpAny_call ?_
    k_dflt ktr_enter
    k_steps
    all_goals (try k_data)
    k_dflt (refine' Tell.use ((3 : Nat) : Int) (need_tells _ _ _ _ _) ?k1 ?k2 ?k3 ?k4 ?k5 ?k6 ?k7 ?k8 ?k9 ?_; (case k1 => k_asm); (case k2 => k_asm); (case k3 => k_asm); (case k4 => k_asm); (case k5 => k_asm); (case k6 => exact rfl); (case k7 => exact NeedIn.mk (by omega)); (case k8 => ktr_room); (case k9 => ktr_units))
    intro r9 tl9 h9 tk9 F9 N9 hl9 ho9
    obtain ⟨rfl, rfl⟩ := ho9
    (try simp only [List.cons_append, List.nil_append, List.append_assoc] at N9)
    (try dsimp only); (try k_fold)
    k_steps
    all_goals (try k_data)
    k_dflt (refine' Tell.use (0, 1) (dbl_tells _ _ _ _ _) ?k1 ?k2 ?k3 ?k4 ?k5 ?k6 ?k7 ?k8 ?k9 ?_; (case k1 => k_asm); (case k2 => k_asm); (case k3 => k_asm); (case k4 => k_asm); (case k5 => k_asm); (case k6 => exact rfl); (case k7 => exact DblIn.mk (PairNat.mk (by ktr_unf; done) (NatIn.zero (by ktr_unf; done)) (NatIn.pos (by ktr_unf; done) (by decide) (by decide))) hw hw' rfl); (case k8 => ktr_room); (case k9 => ktr_units))
    intro r8 tl8 h8 tk8 F8 N8 hl8 ho8
    replace ho8 : PairNat tl8 r8 (0, 1) := ho8
    obtain ⟨hT8, ha8, hb8⟩ := ho8
    (try simp only [List.cons_append, List.nil_append, List.append_assoc] at N8)
    (try dsimp only); (try k_fold)
    k_steps
    all_goals (try k_data)
    k_dflt (refine' Tell.use (0, 1) (add_tells _ _ _ _ _) ?k1 ?k2 ?k3 ?k4 ?k5 ?k6 ?k7 ?k8 ?k9 ?_; (case k1 => k_asm); (case k2 => k_asm); (case k3 => k_asm); (case k4 => k_asm); (case k5 => k_asm); (case k6 => exact rfl); (case k7 => exact AddIn.mk (ha8.mono (by ktr_rel)) (hb8.mono (by ktr_rel)) hw hw' (by decide)); (case k8 => ktr_room); (case k9 => ktr_units))
    intro r7 tl7 h7 tk7 F7 N7 hl7 ho7
    replace ho7 : NatIn tl7 r7 1 := ho7
    (try simp only [List.cons_append, List.nil_append, List.append_assoc] at N7)
    (try dsimp only); (try k_fold)
    k_steps
    all_goals (try k_data)
    k_dflt (refine' Tell.use (1, 1) (dbl_tells _ _ _ _ _) ?k1 ?k2 ?k3 ?k4 ?k5 ?k6 ?k7 ?k8 ?k9 ?_; (case k1 => k_asm); (case k2 => k_asm); (case k3 => k_asm); (case k4 => k_asm); (case k5 => k_asm); (case k6 => exact rfl); (case k7 => exact DblIn.mk (PairNat.mk (by ktr_unf; done) (hb8.mono (by ktr_rel)) (ho7.mono (by ktr_rel))) hw hw' rfl); (case k8 => ktr_room); (case k9 => ktr_units))
    intro r6 tl6 h6 tk6 F6 N6 hl6 ho6
    replace ho6 : PairNat tl6 r6 (1, 2) := ho6
    obtain ⟨hT6, ha6, hb6⟩ := ho6
    (try simp only [List.cons_append, List.nil_append, List.append_assoc] at N6)
    (try dsimp only); (try k_fold)
    k_steps
    all_goals (try k_data)
    k_dflt (refine' Tell.use (1, 2) (add_tells _ _ _ _ _) ?k1 ?k2 ?k3 ?k4 ?k5 ?k6 ?k7 ?k8 ?k9 ?_; (case k1 => k_asm); (case k2 => k_asm); (case k3 => k_asm); (case k4 => k_asm); (case k5 => k_asm); (case k6 => exact rfl); (case k7 => exact AddIn.mk (ha6.mono (by ktr_rel)) (hb6.mono (by ktr_rel)) hw hw' (by decide)); (case k8 => ktr_room); (case k9 => ktr_units))
    intro r5 tl5 h5 tk5 F5 N5 hl5 ho5
    replace ho5 : NatIn tl5 r5 3 := ho5
    (try simp only [List.cons_append, List.nil_append, List.append_assoc] at N5)
    (try dsimp only); (try k_fold)
    k_steps
    all_goals (try k_data)
    have lq := (by assumption : (_ : Nat) < _ ∧ (_ : Nat) < _ ∧ (_ : Nat) < _ ∧ (_ : Nat) < _ ∧ (_ : Nat) < _ ∧ AllLt _ (news ++ (tl8 ++ (tl7 ++ (tl6 ++ tl5)))))
    (refine' hret _ ((_, _) :: (tl6 ++ tl5)) _ _ ?f1 ?f2 (Off.cons (allLt_left lq.2.2.2.2.2) (Off.app (Off.sub hl6 (by ktr_rel)) (Off.sub hl5 (by ktr_rel)))) ?f3; (case f1 => k_asm); (case f2 => first | k_asm | exact ktn_tl0 (by k_asm) | exact ktn_tl1 (by k_asm) | exact ktn_tl2 (by k_asm) | exact newsSub (by k_asm) (by ktr_rel) | exact newsTop (by k_asm) (by ktr_rel)); (case f3 => exact (⟨_, PairNat.mk (.head _) (hb6.mono (by ktr_rel)) (ho5.mono (by ktr_rel))⟩)))
  · refine wpAny_call ?_
    k_dflt ktr_enter
    k_steps
    all_goals (try k_data)
    k_dflt (refine' Tell.use ((4 : Nat) : Int) (need_tells _ _ _ _ _) ?k1 ?k2 ?k3 ?k4 ?k5 ?k6 ?k7 ?k8 ?k9 ?_; (case k1 => k_asm); (case k2 => k_asm); (case k3 => k_asm); (case k4 => k_asm); (case k5 => k_asm); (case k6 => exact rfl); (case k7 => exact NeedIn.mk (by omega)); (case k8 => ktr_room); (case k9 => ktr_units))
    intro r9 tl9 h9 tk9 F9 N9 hl9 ho9
    obtain ⟨rfl, rfl⟩ := ho9
    (try simp only [List.cons_append, List.nil_append, List.append_assoc] at N9)
    (try dsimp only); (try k_fold)
    k_steps
    all_goals (try k_data)
    k_dflt (refine' Tell.use (0, 1) (dbl_tells _ _ _ _ _) ?k1 ?k2 ?k3 ?k4 ?k5 ?k6 ?k7 ?k8 ?k9 ?_; (case k1 => k_asm); (case k2 => k_asm); (case k3 => k_asm); (case k4 => k_asm); (case k5 => k_asm); (case k6 => exact rfl); (case k7 => exact DblIn.mk (PairNat.mk (by ktr_unf; done) (NatIn.zero (by ktr_unf; done)) (NatIn.pos (by ktr_unf; done) (by decide) (by decide))) hw hw' rfl); (case k8 => ktr_room); (case k9 => ktr_units))
    intro r8 tl8 h8 tk8 F8 N8 hl8 ho8
    replace ho8 : PairNat tl8 r8 (0, 1) := ho8
    obtain ⟨hT8, ha8, hb8⟩ := ho8
    (try simp only [List.cons_append, List.nil_append, List.append_assoc] at N8)
    (try dsimp only); (try k_fold)
    k_steps
    all_goals (try k_data)
    k_dflt (refine' Tell.use (0, 1) (add_tells _ _ _ _ _) ?k1 ?k2 ?k3 ?k4 ?k5 ?k6 ?k7 ?k8 ?k9 ?_; (case k1 => k_asm); (case k2 => k_asm); (case k3 => k_asm); (case k4 => k_asm); (case k5 => k_asm); (case k6 => exact rfl); (case k7 => exact AddIn.mk (ha8.mono (by ktr_rel)) (hb8.mono (by ktr_rel)) hw hw' (by decide)); (case k8 => ktr_room); (case k9 => ktr_units))
    intro r7 tl7 h7 tk7 F7 N7 hl7 ho7
    replace ho7 : NatIn tl7 r7 1 := ho7
    (try simp only [List.cons_append, List.nil_append, List.append_assoc] at N7)
    (try dsimp only); (try k_fold)
    k_steps
    all_goals (try k_data)
    k_dflt (refine' Tell.use (1, 1) (dbl_tells _ _ _ _ _) ?k1 ?k2 ?k3 ?k4 ?k5 ?k6 ?k7 ?k8 ?k9 ?_; (case k1 => k_asm); (case k2 => k_asm); (case k3 => k_asm); (case k4 => k_asm); (case k5 => k_asm); (case k6 => exact rfl); (case k7 => exact DblIn.mk (PairNat.mk (by ktr_unf; done) (hb8.mono (by ktr_rel)) (ho7.mono (by ktr_rel))) hw hw' rfl); (case k8 => ktr_room); (case k9 => ktr_units))
    intro r6 tl6 h6 tk6 F6 N6 hl6 ho6
    replace ho6 : PairNat tl6 r6 (1, 2) := ho6
    obtain ⟨hT6, ha6, hb6⟩ := ho6
    (try simp only [List.cons_append, List.nil_append, List.append_assoc] at N6)
    (try dsimp only); (try k_fold)
    k_steps
    all_goals (try k_data)
    k_dflt (refine' Tell.use (1, 2) (dbl_tells _ _ _ _ _) ?k1 ?k2 ?k3 ?k4 ?k5 ?k6 ?k7 ?k8 ?k9 ?_; (case k1 => k_asm); (case k2 => k_asm); (case k3 => k_asm); (case k4 => k_asm); (case k5 => k_asm); (case k6 => exact rfl); (case k7 => exact DblIn.mk (PairNat.mk (by ktr_unf; done) (ha6.mono (by ktr_rel)) (hb6.mono (by ktr_rel))) hw hw' rfl); (case k8 => ktr_room); (case k9 => ktr_units))
    intro r5 tl5 h5 tk5 F5 N5 hl5 ho5
    replace ho5 : PairNat tl5 r5 (3, 5) := ho5
    obtain ⟨hT5, ha5, hb5⟩ := ho5
    (try simp only [List.cons_append, List.nil_append, List.append_assoc] at N5)
    (try dsimp only); (try k_fold)
    k_steps
    all_goals (try k_data)
    (refine' hret _ (tl5) _ _ ?f1 ?f2 (Off.sub hl5 (by ktr_rel)) ?f3; (case f1 => k_asm); (case f2 => first | k_asm | exact ktn_tl0 (by k_asm) | exact ktn_tl1 (by k_asm) | exact ktn_tl2 (by k_asm) | exact newsSub (by k_asm) (by ktr_rel) | exact newsTop (by k_asm) (by ktr_rel)); (case f3 => exact (⟨_, PairNat.mk hT5 ha5 hb5⟩)))
set_option maxHeartbeats 8000000 in
theorem fib_tells (w : World) (mean : ExcName → Option Value) (mg mb : Str → Option Value) : ∀ d, Tell w mean mg mb 221 (fun _ => FibIn) (fun _ => 5) (fun _ tl v d => NatIn tl v ((d : Int) - 1)) d := by
  intro d
  unfold Tell
  k_fill
  intro dp un gd cn cs a ccd cl outer A₀ base h₀ L m news s vs Q E B F X N T hk hR hd hu hret
  try dsimp only at hd hu hret
  have hR' := hR
  cases hR' with
  | @mk n w t u h hw hw' =>
  refine wpAny_call ?_
  k_dflt ktr_enter
  k_steps
  all_goals (try k_data)
  k_dflt (refine' Tell.use d (fibp_tells _ _ _ _ _) ?k1 ?k2 ?k3 ?k4 ?k5 ?k6 ?k7 ?k8 ?k9 ?_; (case k1 => k_asm); (case k2 => k_asm); (case k3 => k_asm); (case k4 => k_asm); (case k5 => k_asm); (case k6 => exact rfl); (case k7 => exact hR); (case k8 => ktr_room); (case k9 => ktr_units))
  intro r9 tl9 h9 tk9 F9 N9 hl9 ho9
  obtain ⟨y9, ho9⟩ := ho9
  generalize hz9 : ((d : Int) - 1, y9) = z9 at ho9
  obtain ⟨hT9, ha9, hb9⟩ := ho9
  (try simp only [List.cons_append, List.nil_append, List.append_assoc] at N9)
  (try dsimp only); (try k_fold)
  k_steps
  all_goals (try k_data)
  (refine' hret _ (tl9) _ _ ?f1 ?f2 (hl9) ?f3; (case f1 => k_asm); (case f2 => first | k_asm | exact ktn_tl0 (by k_asm) | exact ktn_tl1 (by k_asm) | exact ktn_tl2 (by k_asm) | exact newsSub (by k_asm) (by ktr_rel) | exact newsTop (by k_asm) (by ktr_rel)); (case f3 => exact (by cases hz9; exact ha9)))
end
section
local macro_rules | `(tactic| walk_at "assign Tuple") => `(tactic| (k_here; (with_reducible rename ByInv => bi); refine Hold.out ?_))
local macro_rules | `(tactic| walk_at "exec For Tuple ListComp cons nil") => `(tactic| (k_here; (rename Fr _ _ _ _ => lF'); (with_unfolding_all refine' For_turns lF' ?_; k_whole)))
/-- the grid of a board: its white squares' rows over its black squares -/
noncomputable def sgOf (p q : Int × Int) : Int := if q.1 = p.1 ∧ (q.2 - p.2).natAbs = 1 then 1 else if q.2 = p.2 ∧ (q.1 - p.1).natAbs = 1 then (if Int.fmod p.2 2 = 1 then -1 else 1) else 0
noncomputable def colour (c : Int) (b : List (Int × Int)) : List (Int × Int) := b.filter fun q => decide (Int.fmod (q.1 + q.2) 2 = c)
noncomputable def whites (b : List (Int × Int)) : List (Int × Int) := colour 0 b
noncomputable def blacks (b : List (Int × Int)) : List (Int × Int) := colour 1 b
theorem colour_take {c : Int} {qs : List (Int × Int)} {i : Nat} {z : Int × Int} (hi : i < qs.length) (hz : qs.getD i (0, 0) = z) : colour c (qs.take (i + 1)) = colour c (qs.take i) ++ (if Int.fmod (z.1 + z.2) 2 = c then [z] else []) := by
  have e : qs.getD i (0, 0) = qs[i] := by simp [List.getD, hi]
  unfold colour
  rw [List.take_add_one, List.getElem?_eq_getElem hi, List.filter_append, ← e, hz]
  congr 1
  by_cases h : Int.fmod (z.1 + z.2) 2 = c
  · simp [h]
  · simp [h]
noncomputable def gridOf (b : List (Int × Int)) : List (List Int) := (whites b).map fun p => (blacks b).map (sgOf p)
inductive SizeIn (news : Led) : List Value → List (Int × Int) → Prop
  | mk {v : Value} {b : List (Int × Int)} {w : Int} {u : Tok} (h : BoardIn news v b) (h1 : 1 ≤ (whites b).length) (hw : 4 ≤ w) (hw' : w ≤ 8) (ok : okBar (gridOf b) = true) : SizeIn news [v, .int w u] b
section
variable {prog : Program} {w : World} {A : Around} {E : Value → Shared → Prop} {s : Shared} {h₀ : Heap} {L : Addr} {m : Str → Option Value} {led : Led}
theorem sum_sq {T : Addr} {x y : Int} {t u : Tok} {n : Nat} {Q : Value → Shared → Prop} (hh : A.handled = none) (F : Fr h₀ L s.heap m) (N : News h₀ L s.heap led) (hm : (T, tupOf #[.int x t, .int y u] n) ∈ led)
    (h : ∀ h' tk t', Fr h₀ L h' m → News h₀ L h' led → Q (.int (x + y) t') { s with heap := h', toks := tk }) : wpAny (model prog w) A (call (.builtin "sum") [.ref T]) Q E s := by
  have hl : s.heap.IsTuple T [Value.int x t, Value.int y u].toArray := ⟨_, (N _ hm).1, rfl, n, rfl⟩
  have hi : IntsAre [Value.int x t, Value.int y u] [x, y] := by repeat constructor
  obtain ⟨xs, hx⟩ := hi.allInts.items
  have hn : numsOf [Value.int x t, Value.int y u].toArray.toList = [x, y] := by rw [show [Value.int x t, Value.int y u].toArray.toList = [Value.int x t, Value.int y u] from rfl, hi.numsOf]
  rw [hx] at hl hn
  rw [nums_intItems] at hn
  refine ktm_sumG hh hl fun h' tk t' hk => ?_
  have := h h' tk t' (F.keeps hk) (N.grown hk)
  rw [preSum_eq, List.take_of_length_le (by simp), hn]
  have e : ([x, y] : List Int).sum = x + y := by simp only [List.sum_cons, List.sum_nil, Int.add_zero]
  rw [e]
  exact this
end
local macro_rules | `(tactic| walk_at "call builtin:sum") => `(tactic| (k_here; (with_reducible rename ByInv => bi); refine Hold.out ?_))
theorem MatIn.mk' {l : Led} {a : Addr} {n : Nat} {us : Array Value} {M : List (List Int)} (h : (a, listOf us n) ∈ l) (hs : RowAll l us.toList M) : MatIn l (.ref a) M := .mk (vs := us.toList) (by simpa using h) hs
theorem natAbs_of {b : Bool} {x z : Int} (h : z = bif b then -x else x) (h0 : 0 ≤ x) : x = (z.natAbs : Int) := by
  cases b <;> simp only [cond_true, cond_false] at h <;> omega
theorem newsSwap {h₀ h : Heap} {L : Addr} {x y : Addr × Obj} {r : Led} (N : News h₀ L h (x :: y :: r)) : News h₀ L h (y :: x :: r) := newsSub N (by
  intro p hp
  simp only [List.mem_cons] at hp ⊢
  rcases hp with hp | hp | hp <;> simp only [hp, true_or, or_true])
theorem newsEnd2 {h₀ h : Heap} {L : Addr} {x y : Addr × Obj} {a b : Led} (N : News h₀ L h (x :: y :: (a ++ b))) : News h₀ L h (a ++ (x :: y :: b)) := newsSub N (by
  intro p hp
  simp only [List.mem_append, List.mem_cons] at hp ⊢
  rcases hp with hp | hp | hp | hp <;> simp only [hp, true_or, or_true])
section
variable {prog : Program} {w : World} {A : Around} {E : Value → Shared → Prop} {s : Shared} {h₀ : Heap} {L D : Addr} {m : Str → Option Value}
theorem append2 {its : Array Value} {n : Nat} {x : Value} {a b : Addr × Obj} {rest : Led} {Q : Value → Shared → Prop} (F : Fr h₀ L s.heap m) (N : News h₀ L s.heap (a :: b :: (D, listOf its n) :: rest)) (ha : a.1 ≠ D) (hb : b.1 ≠ D) (hr : ∀ p ∈ rest, p.1 ≠ D) (hsz : its.size ≤ 100)
    (h : ∀ h', Fr h₀ L h' m → News h₀ L h' (a :: b :: (D, listOf (its.push x) (n + 1)) :: rest) → Q .none { s with heap := h' }) : wpAny (model prog w) A (call (.builtin "list.append") [.ref D, x]) Q E s :=
  append_K F N (.tail ha (.tail hb (.head hr))) h (by rw [PySem.sizeLine_eq]; omega)
theorem rest_ne {h : Heap} {o : Obj} {rest : Led} (_ : News h₀ L h ((D, o) :: rest)) (h : ∀ p ∈ rest, p.1 ≠ D) : ∀ p ∈ rest, p.1 ≠ D := h
theorem rest_ne2 {h : Heap} {x y : Addr × Obj} {o : Obj} {rest : Led} (_ : News h₀ L h (x :: y :: (D, o) :: rest)) (h : ∀ p ∈ rest, p.1 ≠ D) : ∀ p ∈ rest, p.1 ≠ D := h
end
/-- a turn that has made two objects and put one of them into the list -/
theorem GrowJ.turn2 {h₀ h' : Heap} {L : Addr} {news tl own keep rest : Led} {st : List Str} {m₀ m' : Str → Option Value} {D : Addr} {o : Obj} {R : Nat → Led → List Value → Prop} {i : Nat} {s₁ : Shared} {tk : Nat} {us' us : Array Value} {cn' cn : Nat} {a b : Addr × Obj}
    (F : Fr h₀ L h' m') (N : News h₀ L h' (a :: b :: (D, listOf us' cn') :: rest)) (ho : Off news tl) (hd : ∀ q ∈ tl, q.1 ≠ D) (hoff : OwnOff own (((D, o) :: (news ++ tl)).map (·.1))) (ha : AllLt a.1 (b :: (D, listOf us cn) :: rest)) (hb : AllLt b.1 ((D, listOf us cn) :: rest)) (hs : ∀ p ∈ news ++ (tl ++ own), p ∈ rest)
    (hk : ∀ p ∈ keep, p ∈ news) (hm : ∀ y, st.contains y = false → m' y = m₀ y) (hr : R (i + 1) (tl ++ [a, b]) us'.toList) :
    InvEndG h₀ L (fun m' nx' => (∀ p ∈ keep, p ∈ nx') ∧ GrowJ news st m₀ D R (i + 1) m' nx') own s₁ { s₁ with heap := h', toks := tk } := by
  have la : ∀ q ∈ (D, o) :: (news ++ (tl ++ own)), q.1 < a.1 := fun q hq => by
    rcases List.mem_cons.mp hq with rfl | hq
    · exact ha.2.1
    · exact ktn_ltOf ha.2.2 q (hs q hq)
  have lb : ∀ q ∈ (D, o) :: (news ++ (tl ++ own)), q.1 < b.1 := fun q hq => by
    rcases List.mem_cons.mp hq with rfl | hq
    · exact hb.1
    · exact ktn_ltOf hb.2 q (hs q hq)
  refine GrowJ.turn (us' := us') (cn' := cn') (add := [a, b]) F N ho hd hoff (fun q hq p hp => ?_) hk (fun p hp => ?_) hm hr
  · rcases List.mem_cons.mp hp with rfl | hp
    · exact Nat.ne_of_gt (la q hq)
    · rw [List.mem_singleton.mp hp]; exact Nat.ne_of_gt (lb q hq)
  · rcases List.mem_cons.mp hp with rfl | hp
    · exact .tail _ (.tail _ (.head _))
    · rw [← List.append_assoc tl, ← List.append_assoc news] at hp
      rcases List.mem_append.mp hp with hp | hp
      · exact .tail _ (.tail _ (.tail _ (hs p hp)))
      · rcases List.mem_cons.mp hp with rfl | hp
        · exact .head _
        · rw [List.mem_singleton.mp hp]; exact .tail _ (.head _)
theorem GrowJ.turn3 {h₀ h' : Heap} {L : Addr} {news tl own keep rest x : Led} {st : List Str} {m₀ m' : Str → Option Value} {D : Addr} {o : Obj} {R : Nat → Led → List Value → Prop} {i : Nat} {s₁ : Shared} {tk : Nat} {us' : Array Value} {cn' : Nat} {a b : Addr × Obj}
    (F : Fr h₀ L h' m') (N : News h₀ L h' (a :: b :: (D, listOf us' cn') :: rest)) (ho : Off news tl) (hd : ∀ q ∈ tl, q.1 ≠ D) (hoff : OwnOff own (((D, o) :: (news ++ tl)).map (·.1))) (la : ∀ q ∈ (D, o) :: (news ++ (tl ++ own)), q.1 ≠ a.1) (lb : ∀ q ∈ (D, o) :: (news ++ (tl ++ own)), q.1 ≠ b.1)
    (hx : Off ((D, o) :: (news ++ (tl ++ own))) x) (hs : ∀ p ∈ news ++ (tl ++ (own ++ x)), p ∈ rest) (hk : ∀ p ∈ keep, p ∈ news) (hm : ∀ y, st.contains y = false → m' y = m₀ y) (hr : R (i + 1) (tl ++ a :: b :: x) us'.toList) :
    InvEndG h₀ L (fun m' nx' => (∀ p ∈ keep, p ∈ nx') ∧ GrowJ news st m₀ D R (i + 1) m' nx') own s₁ { s₁ with heap := h', toks := tk } := by
  refine GrowJ.turn (us' := us') (cn' := cn') (add := a :: b :: x) F N ho hd hoff (fun q hq p hp => ?_) hk (fun p hp => ?_) hm hr
  · rcases List.mem_cons.mp hp with rfl | hp
    · exact Ne.symm (la q hq)
    · rcases List.mem_cons.mp hp with rfl | hp
      · exact Ne.symm (lb q hq)
      · exact hx q hq p hp
  · rcases List.mem_cons.mp hp with rfl | hp
    · exact .tail _ (.tail _ (.head _))
    · have h9 : p = a ∨ p = b ∨ p ∈ news ++ (tl ++ (own ++ x)) := by
        simp only [List.mem_append, List.mem_cons] at hp ⊢
        rcases hp with hp | hp | hp | hp | hp | hp <;> simp only [hp, true_or, or_true]
      rcases h9 with rfl | rfl | h9
      · exact .head _
      · exact .tail _ (.head _)
      · exact .tail _ (.tail _ (.tail _ (hs p h9)))
theorem sgn_one {l : Led} {T c : Addr} {n k : Nat} {t : Tok} {z : Int} (hT : (T, tupOf #[.bool false, .ref c] n) ∈ l) (hc : (c, listOf #[.int 1 t] k) ∈ l) (hz : z = 1) : SgnIn l (.ref T) z := by
  subst hz
  exact .mk hT (.pos hc (by decide) (by decide)) (fun h => nomatch h) rfl
theorem sgn_par {l : Led} {T c : Addr} {n k : Nat} {t : Tok} {y z : Int} (hT : (T, tupOf #[.bool (y.fmod 2 == 1), .ref c] n) ∈ l) (hc : (c, listOf #[.int 1 t] k) ∈ l) (hz : z = if Int.fmod y 2 = 1 then -1 else 1) : SgnIn l (.ref T) z := by
  subst hz
  refine .mk hT (.pos hc (by decide) (by decide)) (fun _ => by decide) ?_
  by_cases h : Int.fmod y 2 = 1
  · rw [if_pos h, h]; rfl
  · rw [if_neg h, beq_false_of_ne h]; rfl
theorem sgn_nil {l : Led} {T c : Addr} {n k : Nat} {z : Int} (hT : (T, tupOf #[.bool false, .ref c] n) ∈ l) (hc : (c, listOf #[] k) ∈ l) (hz : z = 0) : SgnIn l (.ref T) z := by
  subst hz
  exact .mk hT (.zero hc) (fun h => nomatch h) rfl
theorem colour_mem {c : Int} {b : List (Int × Int)} {i : Nat} {x y : Int} (hi : i < (colour c b).length) (hz : (colour c b).getD i (0, 0) = (x, y)) : Int.fmod (x + y) 2 = c := by
  have e : (colour c b).getD i (0, 0) = (colour c b)[i] := by simp [List.getD, hi]
  have hm : (x, y) ∈ colour c b := by rw [← hz, e]; exact List.getElem_mem hi
  exact of_decide_eq_true (List.mem_filter.mp hm).2
theorem squares_apart {b : List (Int × Int)} {i k : Nat} {x9 y9 x8 y8 : Int} (hi : i < (whites b).length) (hz : (whites b).getD i (0, 0) = (x9, y9)) (hk : k < (blacks b).length) (hz8 : (blacks b).getD k (0, 0) = (x8, y8)) : x8 = x9 → y8 ≠ y9 := by
  rintro rfl rfl
  have h0 := colour_mem hi hz
  have h1 := colour_mem hk hz8
  rw [h0] at h1
  exact absurd h1 (by decide)
theorem abs_one {x : Int} (h : (if x < 0 then -x else x) = 1) : x.natAbs = 1 := by split at h <;> omega
theorem abs_not {x : Int} (h : (if x < 0 then -x else x) ≠ 1) : x.natAbs ≠ 1 := by split at h <;> omega
theorem black_take {α : Type} {f : Int × Int → α} {b : List (Int × Int)} {k : Nat} {z : Int × Int} (hk : k < b.length) (hz : b.getD k (0, 0) = z) : (b.take (k + 1)).map f = (b.take k).map f ++ [f z] := by
  have e : b.getD k (0, 0) = b[k] := by simp [List.getD, hk]
  rw [List.take_add_one, List.getElem?_eq_getElem hk, ← e, hz, List.map_append]
  rfl
local macro_rules | `(tactic| walk_at "call builtin:list.append") => `(tactic| (k_here; (with_reducible rename ByInv => bi); refine Hold.out ?_))
section
variable {prog : Program} {w : World} {A : Around} {E : Value → Shared → Prop} {s : Shared}
theorem eqint_yes {a b : Int} {t u : Tok} {Q : Value → Shared → Prop} (e : a = b) (h : Q (.bool true) s) : wpAny (model prog w) A (compareOp .Eq (.int a t) (.int b u)) Q E s := PyProof.Rows.eq_int (by rw [beq_iff_eq.mpr e]; exact h)
theorem eqint_no {a b : Int} {t u : Tok} {Q : Value → Shared → Prop} (e : a ≠ b) (h : Q (.bool false) s) : wpAny (model prog w) A (compareOp .Eq (.int a t) (.int b u)) Q E s := PyProof.Rows.eq_int (by rw [beq_false_of_ne e]; exact h)
end
local macro_rules | `(tactic| walk_at "compareOp Eq int int") => `(tactic| (k_here; (with_reducible rename ByInv => bi); (first | (with_reducible refine eqint_yes (by with_reducible assumption) ?_) | (with_reducible refine eqint_no (by with_reducible assumption) ?_))))
set_option maxHeartbeats 8000000 in
theorem size_tells (w : World) (mean : ExcName → Option Value) (mg mb : Str → Option Value) : ∀ d, Tell w mean mg mb 294 SizeIn (fun _ => 10) (fun news tl v d => NatIn (news ++ tl) v (detM (gridOf d)).natAbs) d := by
  intro d
  unfold Tell
  k_fill
  intro dp un gd cn cs a ccd cl outer A₀ base h₀ L m news s vs Q E B F X N T hk hR hd hu hret
  try dsimp only at hd hu hret
  cases hR with
  | @mk v b w u h h1 hw hw' ok =>
  cases h with
  | @mk a na vs _ ha hs hl9 =>
  have e1 := hs.length
  have byinv : ByInv := ⟨⟩
  refine wpAny_call ?_
  k_dflt ktr_enter
  k_steps
  all_goals (try k_data)
  unfold Hold
  k_dflt (refine LCt.ListComp_T (F₀ := by k_asm) (by with_unfolding_all rfl) (by decide) (by rfl) (by decide) (by rfl) ?_)
  k_steps
  unfold Hold
  refine compT_led (vs := vs) (by rfl) (by k_asm) (by k_asm) (by ktr_unf; done) (by omega) (fun j ys => SqAll news ys (whites (d.take j))) .nil ?_ ?_
  · intro g j ys hj hP v I oI C oC D m₂ h tk E' hv' hns hx F₂ N₂ o3 hne
    have hj9 : j < d.length := by omega
    obtain ⟨v', hv9, hq'⟩ := hs.get j hj9
    rw [hv'] at hv9
    cases hv9
    generalize hz : d.getD j (0, 0) = z at hq'
    cases hq' with
    | @mk T9 n9 x9 y9 t9 u9 hT9 =>
    have hw9 := colour_take (c := 0) hj9 hz
    dsimp only at hw9
    k_steps
    unfold Hold
    k_dflt (refine' sum_sq ?k0 ?k1 ?k2 ?k3 ?_; (case k0 => with_unfolding_all rfl); (case k1 => k_asm); (case k2 => k_asm); (case k3 => ktr_unf; done); k_whole)
    intro _ _ _ _ _
    k_steps
    all_goals first
      | exact comp_end0 (R := fun y8 => SqAll news (ys ++ [y8]) (whites (d.take (j + 1)))) (by k_asm) (by k_asm) o3 (by ktr_rel) (by ktr_unf; done) (by
          show SqAll news _ (colour 0 _)
          rw [hw9, if_pos (by assumption)]
          exact hP.snoc (.mk hT9))
      | exact comp_end0 (R := fun _ => SqAll news ys (whites (d.take (j + 1)))) (by k_asm) (by k_asm) o3 (by ktr_rel) (by ktr_unf; done) (by
          show SqAll news _ (colour 0 _)
          rw [hw9, if_neg (by assumption), List.append_nil]
          exact hP)
  · intro g ys hP D h2 tk2 F2 N2 o1
    have e2 : List.take vs.length d = d := List.take_of_length_le (by omega)
    rw [e2] at hP
    have hGD := off1_ne o1 _ (.head _)
    have hGn := fun q hq => Nat.ne_of_lt ((by assumption : ∀ p ∈ news, p.1 < _) q hq)
    dsimp only at hGD
    k_steps
    rename Fr _ _ _ _ => lF
    rename News _ _ _ _ => lN
    refine' list_inv (vs := ys) (nn := ys.length) (by rfl) lF (newsSwap lN) ?hm9 (GrowJ (_ :: news) [Str.ofString "row", Str.ofString "column", Str.ofString "line", Str.ofString "other", Str.ofString "spot"] _ _ (fun i tl us => RowAll (news ++ tl) us (((whites d).take i).map fun p => (blacks d).map (sgOf p)))) (GrowJ.start .nil) ?_ ?_
    case hm9 => exact .tail _ (.head _)
    · intro i v m₁ nx hh tk own hv hoff hl hJ F₁ N₁
      obtain ⟨us, cn, tl, rfl, ho, hd', hm, hr⟩ := hJ.out
      rw [hm] at F₁
      have hi : i < (whites d).length := by
        have e := hP.length
        rw [← e]
        exact (List.getElem?_eq_some_iff.mp hv).1
      obtain ⟨v', hv9, hq'⟩ := hP.get i hi
      rw [hv] at hv9
      cases hv9
      generalize hz : (whites d).getD i (0, 0) = z at hq'
      cases hq' with
      | @mk T9 n9 x9 y9 t9 u9 hT9 =>
      have hoR := own_ne hoff
      have hwl : (whites d).length ≤ d.length := List.length_filter_le ..
      have hus : us.size ≤ 10 := by
        have e := hr.length
        rw [Array.length_toList, List.length_map, List.length_take] at e
        omega
      simp only [List.cons_append, List.append_assoc] at N₁
      k_steps
      unfold Hold
      with_reducible show wpAny _ _ (assign (Expr.Tuple _ _ _) _ (Value.ref _)) _ _ _
      k_dflt (refine' unpackN_ ?k1 ?k2 ?k3 ?k4 ?k5 ?k6 ?_; (case k1 => k_asm); (case k2 => k_asm); (case k3 => exact News.isTup (by k_asm) (by ktr_unf; done)); (case k4 => exact rfl); (case k5 => exact rfl); (case k6 => exact rfl); k_whole)
      intro _ _ _
      k_steps
      unfold Hold
      k_dflt (refine LCt.ListComp_T (F₀ := by k_asm) (by with_unfolding_all rfl) (by decide) (by rfl) (by decide) (by rfl) ?_)
      k_steps
      unfold Hold
      refine compT_led (vs := vs) (by rfl) (by k_asm) (by k_asm) (by ktr_unf; done) (by omega) (fun j ys => SqAll news ys (blacks (d.take j))) .nil ?_ ?_
      · intro g j ys2 hj hP v I oI C oC D2 m₂ h tk E' hv' hns hx F₂ N₂ o3 hne
        have hj9 : j < d.length := by omega
        obtain ⟨v', hv9, hq'⟩ := hs.get j hj9
        rw [hv'] at hv9
        cases hv9
        generalize hz8 : d.getD j (0, 0) = z at hq'
        cases hq' with
        | @mk T8 n8 x8 y8 t8 u8 hT8 =>
        have hw9 := colour_take (c := 1) hj9 hz8
        dsimp only at hw9
        k_steps
        unfold Hold
        k_dflt (refine' sum_sq ?k0 ?k1 ?k2 ?k3 ?_; (case k0 => with_unfolding_all rfl); (case k1 => k_asm); (case k2 => k_asm); (case k3 => ktr_unf; done); k_whole)
        intro _ _ _ _ _
        k_steps
        all_goals first
          | exact comp_end0 (R := fun y7 => SqAll news (ys2 ++ [y7]) (blacks (d.take (j + 1)))) (by k_asm) (by k_asm) o3 (by ktr_rel) (by ktr_unf; done) (by
              show SqAll news _ (colour 1 _)
              rw [hw9, if_pos (by assumption)]
              exact hP.snoc (.mk hT8))
          | exact comp_end0 (R := fun _ => SqAll news ys2 (blacks (d.take (j + 1)))) (by k_asm) (by k_asm) o3 (by ktr_rel) (by ktr_unf; done) (by
              show SqAll news _ (colour 1 _)
              rw [hw9, if_neg (by assumption), List.append_nil]
              exact hP)
      · intro g ys2 hP2 D2 h2 tk2 F2 N2 o1
        rw [e2] at hP2
        have hDl := off1_ne o1 _ (.head _)
        have hDg := off1_ne o1 _ (.tail _ (.head _))
        dsimp only at hDl hDg
        have hLx := (by assumption : (_ : Nat) < _ ∧ (_ : Nat) < _ ∧ AllLt _ (news ++ (tl ++ own)))
        have hLl := ne_below hLx.2.2
        have hLn := fun q hq => hLl q (sub_l q hq)
        have hLt := fun q hq => hLl q (sub_r q (sub_l q hq))
        have hLo := fun q hq => hLl q (sub_r q (sub_r q hq))
        k_steps
        rename Fr _ _ _ _ => lF
        rename News _ _ _ _ => lN
        refine' list_inv (vs := ys2) (nn := ys2.length) (by rfl) lF (newsSwap lN) ?hm8 (GrowJ (_ :: _ :: _ :: (news ++ (tl ++ own))) [Str.ofString "other", Str.ofString "spot"] _ _ (fun k tl2 us2 => SgnAll tl2 us2 (((blacks d).take k).map (sgOf (x9, y9))))) (GrowJ.start .nil) ?_ ?_
        case hm8 => exact .tail _ (.head _)
        · intro k v m₂ nx2 hh2 tk2 own2 hv hoff2 hl2 hJ2 F₂ N₂
          obtain ⟨us2, cn2, tl2, rfl, ho2, hd2, hm2, hr2⟩ := hJ2.out
          rw [hm2] at F₂
          have hk : k < (blacks d).length := by
            have e := hP2.length
            rw [← e]
            exact (List.getElem?_eq_some_iff.mp hv).1
          obtain ⟨v', hv9, hq'⟩ := hP2.get k hk
          rw [hv] at hv9
          cases hv9
          generalize hz8 : (blacks d).getD k (0, 0) = z at hq'
          cases hq' with
          | @mk T8 n8 x8 y8 t8 u8 hT8 =>
          have hoR2 := own_ne hoff2
          have hbl : (blacks d).length ≤ d.length := List.length_filter_le ..
          have hus2 : us2.size ≤ 10 := by
            have e := hr2.length
            rw [Array.length_toList, List.length_map, List.length_take] at e
            omega
          simp only [List.cons_append, List.append_assoc] at N₂
          have hrest := rest_ne N₂ (by
            intro p hp
            simp only [List.mem_cons, List.mem_append] at hp
            rcases hp with rfl | rfl | rfl | hp | hp | hp | hp | hp
            · exact Ne.symm hDl
            · exact Nat.ne_of_lt hLx.1
            · exact Nat.ne_of_lt hLx.2.1
            · exact hLn p hp
            · exact hLt p hp
            · exact hLo p hp
            · exact hd2 p hp
            · exact hoR2 p hp)
          have hpar := squares_apart hi hz hk hz8
          have hbt := black_take (f := sgOf (x9, y9)) hk hz8
          have hq1 : x8 = x9 → (if y8 - y9 < 0 then -(y8 - y9) else y8 - y9) = 1 → sgOf (x9, y9) (x8, y8) = 1 := fun a b => if_pos ⟨a, abs_one b⟩
          have hq2 : ¬ (x8 = x9 ∧ (y8 - y9).natAbs = 1) → y8 = y9 → (if x8 - x9 < 0 then -(x8 - x9) else x8 - x9) = 1 → sgOf (x9, y9) (x8, y8) = if Int.fmod y9 2 = 1 then -1 else 1 := fun a b c => (if_neg a).trans (if_pos ⟨b, abs_one c⟩)
          have hq3 : ¬ (x8 = x9 ∧ (y8 - y9).natAbs = 1) → ¬ (y8 = y9 ∧ (x8 - x9).natAbs = 1) → sgOf (x9, y9) (x8, y8) = 0 := fun a b => (if_neg a).trans (if_neg b)
          have hor : (x8 = x9 ∧ y8 ≠ y9) ∨ x8 ≠ x9 := (Classical.em (x8 = x9)).imp (fun e => ⟨e, hpar e⟩) id
          clear hpar
          rcases hor with ⟨hxx, hyy⟩ | hxx
          all_goals k_steps
          all_goals
            unfold Hold
            with_reducible show wpAny _ _ (assign (Expr.Tuple _ _ _) _ (Value.ref _)) _ _ _
            k_dflt (refine' unpackN_ ?k1 ?k2 ?k3 ?k4 ?k5 ?k6 ?_; (case k1 => k_asm); (case k2 => k_asm); (case k3 => exact News.isTup (by k_asm) (by ktr_unf; done)); (case k4 => exact rfl); (case k5 => exact rfl); (case k6 => exact rfl); k_whole)
            intro _ _ _
            k_steps
          all_goals
            unfold Hold
            k_dflt (refine' append2 ?k1 ?k2 ?k3 ?k4 ?k5 ?k6 ?_; (case k1 => k_asm); (case k2 => k_asm); (case k3 => first | k_ne | (apply Ne.symm; assumption)); (case k4 => first | k_ne | (apply Ne.symm; assumption)); (case k5 => assumption); (case k6 => omega); k_whole)
            intro _ _ _
            k_steps
          all_goals (
            refine' GrowJ.turn2 (us := us2) (cn := cn2) ?f ?n ho2 hd2 hoff2 ?la ?lb ?hs ?hk ?hm ?hr
            (case f => k_asm)
            (case n => k_asm)
            (case la => ktn_lt)
            (case lb => ktn_lt)
            (case hs => ktr_rel)
            (case hk => exact List.forall_mem_cons.mpr ⟨.head _, List.forall_mem_nil _⟩)
            (case hm => tb_start)
            (case hr =>
              rw [Array.toList_push, hbt]
              refine (hr2.mono (by ktr_rel)).snoc ?_
              first
                | exact sgn_one (sub_r _ (.head _)) (sub_r _ (.tail _ (.head _))) (hq1 (by assumption) (by assumption))
                | exact sgn_par (sub_r _ (.head _)) (sub_r _ (.tail _ (.head _))) (hq2 (by first | exact fun h => absurd h.1 (by assumption) | exact fun h => abs_not (by assumption) h.2) (by assumption) (by assumption))
                | exact sgn_nil (sub_r _ (.head _)) (sub_r _ (.tail _ (.head _))) (hq3 (by first | exact fun h => absurd h.1 (by assumption) | exact fun h => abs_not (by assumption) h.2) (by first | exact fun h => absurd h.1 (by assumption) | exact fun h => abs_not (by assumption) h.2))))
        · intro m₂ nx2 hh2 tk2 hJ2 F₂ N₂
          obtain ⟨us2, cn2, tl2, rfl, ho2, hd2, hm2, hr2⟩ := hJ2.out
          rw [hm2] at F₂
          simp only [List.cons_append, List.append_assoc] at N₂
          have hrest := rest_ne2 (N₂) (by
            intro p hp
            simp only [List.mem_cons, List.mem_append] at hp
            rcases hp with rfl | hp | hp | hp | hp
            · exact Ne.symm hGD
            · exact hGn p hp
            · exact hd' p hp
            · exact hoR p hp
            · exact ne_above ho2 (.tail _ (.head _)) p hp)
          have e4 : List.take ys2.length (blacks d) = blacks d := List.take_of_length_le (by rw [hP2.length]; exact Nat.le_refl _)
          rw [e4] at hr2
          have hwt := black_take (f := fun p => (blacks d).map (sgOf p)) hi hz
          k_steps
          unfold Hold
          k_dflt (refine' append2 ?k1 ?k2 ?k3 ?k4 ?k5 ?k6 ?_; (case k1 => k_asm); (case k2 => k_asm); (case k3 => first | k_ne | (apply Ne.symm; assumption)); (case k4 => first | k_ne | (apply Ne.symm; assumption)); (case k5 => assumption); (case k6 => omega); k_whole)
          intro _ _ _
          k_steps
          refine' GrowJ.turn3 (x := tl2) ?f ?n ho hd' hoff ?la ?lb ?hx ?hs ?hk ?hm ?hr
          (case f => k_asm)
          (case n => k_asm)
          (case la =>
            intro q hq
            rcases List.mem_cons.mp hq with rfl | hq
            · exact Nat.ne_of_lt hLx.1
            · rcases List.mem_cons.mp hq with rfl | hq
              · exact Nat.ne_of_lt hLx.2.1
              · exact hLl q hq)
          (case lb => exact fun q hq => off1_ne o1 q (.tail _ hq))
          (case hx => exact Off.sub ho2 (by ktr_rel))
          (case hs => ktr_rel)
          (case hk => exact List.forall_mem_cons.mpr ⟨.head _, List.forall_mem_nil _⟩)
          (case hm => tb_start)
          (case hr =>
            rw [Array.toList_push, hwt]
            exact (hr.mono (by ktr_rel)).snoc (RowIn.mk' (sub_r _ (sub_r _ (.head _))) (hr2.mono (by ktr_rel))))
    · intro m₁ nx hh tk hJ F₁ N₁
      obtain ⟨us, cn, tl, rfl, ho, hd', hm, hr⟩ := hJ.out
      rw [hm] at F₁
      have e3 : List.take ys.length (whites d) = whites d := List.take_of_length_le (by rw [hP.length]; exact Nat.le_refl _)
      rw [e3] at hr
      k_steps
      k_dflt (refine' Tell.use (gridOf d) (det_tells _ _ _ _ _) ?k1 ?k2 ?k3 ?k4 ?k5 ?k6 ?k7 ?k8 ?k9 ?_; (case k1 => k_asm); (case k2 => k_asm); (case k3 => k_asm); (case k4 => k_asm); (case k5 => k_asm); (case k6 => exact rfl); (case k7 => exact DetIn.mk (MatIn.mk' (by ktr_unf; done) (hr.mono (by ktr_rel))) (by unfold gridOf; rw [List.length_map]; exact h1) hw hw' ok); (case k8 => ktr_room); (case k9 => ktr_units))
      intro r9 tl9 h9 tk9 F9 N9 hl9 ho9
      generalize hz9 : detM (gridOf d) = z9 at ho9
      obtain ⟨hT9, hv9, hb9, hx9⟩ := ho9
      simp only [List.cons_append, List.append_assoc] at hT9 hv9
      (try simp only [List.cons_append, List.nil_append, List.append_assoc] at N9)
      (try dsimp only); (try k_fold)
      k_steps
      all_goals (try k_data)
      refine' hret _ ((_, _) :: (D, _) :: (tl ++ tl9)) _ _ ?f1 (newsEnd2 ?f2) (Off.cons' ?g1 (Off.cons' ?g2 (Off.app (Off.tail ho) (Off.sub hl9 (by ktr_rel))))) ?f3
      (case f1 => k_asm)
      (case f2 => k_asm)
      (case g1 => exact hGn)
      (case g2 => exact fun q hq => off1_ne o1 q (.tail _ hq))
      (case f3 =>
        have e9 := natAbs_of hx9 hv9.nonneg
        (try dsimp only)
        rw [hz9, ← e9]
        exact hv9.mono (by ktr_rel))
end
section
section
variable {elt iter iter2 : PySem.Expr} {x z : Str} {px pz : Pos} {scope : Scope} {pos : Pos} {it acc : Value} {env : Env}
/-- a comprehension with two clauses, neither with a test -/
abbrev lc2 (elt iter iter2 : PySem.Expr) (x z : Str) (px pz : Pos) (scope : Scope) (pos : Pos) : PySem.Expr := .ListComp elt [⟨.Name x px, iter, [], 0⟩, ⟨.Name z pz, iter2, [], 0⟩] scope pos
theorem turn2_0 : compTurn (lc2 elt iter iter2 x z px pz scope pos) 0 it acc env = (standAt iter.pos >>= fun _ => pyNext it >>= fun r => match r with
  | none => pure (.done .next)
  | some v => letOwnedTupleGo (.Name x px) it v >>= fun _ => assign (.Name x px) env v >>= fun _ => eval iter2 env >>= fun y => standAt iter2.pos >>= fun _ => foldedSetIterable iter2 env y >>= fun y => holding [y] (pyIter y) >>= fun it2 =>
      runOwn (.compStart (lc2 elt iter iter2 x z px pz scope pos) 1 it2 acc env) env >>= fun _ => again (.compLoop (lc2 elt iter iter2 x z px pz scope pos) 0 it acc env)) := by rfl
theorem turn2_1 : compTurn (lc2 elt iter iter2 x z px pz scope pos) 1 it acc env = (standAt iter2.pos >>= fun _ => pyNext it >>= fun r => match r with
  | none => pure (.done .next)
  | some v => letOwnedTupleGo (.Name z pz) it v >>= fun _ => assign (.Name z pz) env v >>= fun _ => (eval elt env >>= fun y => call (.builtin "list.append") [acc, y] >>= fun _ => pure ()) >>= fun _ => again (.compLoop (lc2 elt iter iter2 x z px pz scope pos) 1 it acc env)) := by rfl
variable {prog : Program} {w : World} {A : Around} {R : Result → Shared → Prop} {s : Shared}
theorem code2_start (h0 : codeAny (model prog w) A (.compLoop (lc2 elt iter iter2 x z px pz scope pos) 1 it acc env) R s)
    (h : wpAny (model prog w) A (pyIter it) (fun it' s' => codeAny (model prog w) A (.compLoop (lc2 elt iter iter2 x z px pz scope pos) 1 it' acc env) R s') (notedBy (model prog w) A env fun x s' => R (.error x) s') s) :
    codeAny (model prog w) A (.compStart (lc2 elt iter iter2 x z px pz scope pos) 1 it acc env) R s := by
  refine codeAny_of_tree ?_
  show wpAny _ _ ((compStart (lc2 elt iter iter2 x z px pz scope pos) 1 it acc env).onRaise (fun x => do noteFrame x env; standAt theWindowsPlace)) _ _ s
  refine wpAny_notedAt ?_
  unfold compStart
  show wpAny _ _ (ask >>= _) _ _ s
  refine wpAny_bind (wpAny_askSetting (wpAny_ite ?_))
  split
  · first
      | exact wpAny_bind (wpAny_pure (wpAny_pure (And.intro rfl h0)))
      | exact wpAny_pure (And.intro rfl h0)
  · first
      | exact wpAny_bind (wpAny_rule (wpAny_bind (wpAny_standAt (wpAny_bind (wpAny_mono h (fun it' s' h' => wpAny_pure (And.intro rfl h')) fun _ _ x => x)))))
      | (refine wpAny_bind (wpAny_rule ?_); show wpAny _ _ (standAt iter2.pos >>= _) _ _ s; exact wpAny_bind (wpAny_standAt (wpAny_bind (wpAny_mono h (fun it' s' h' => wpAny_pure (And.intro rfl h')) fun _ _ x => x))))
theorem code2_inner (I : Nat → Shared → Prop)
    (turn : ∀ n s, I n s → wpAny (model prog w) A (pyNext it) (fun r s₁ => match r with
      | none => R (.ok .next) s₁
      | some v => wpAny (model prog w) A (assign (.Name z pz) env v) (fun _ s₂ => wpAny (model prog w) A (eval elt env) (fun x s₃ =>
          wpAny (model prog w) A (call (.builtin "list.append") [acc, x]) (fun _ s₄ => ∃ m, m < n ∧ I m s₄) (notedBy (model prog w) A env fun e s' => R (.error e) s') s₃)
          (notedBy (model prog w) A env fun e s' => R (.error e) s') s₂) (notedBy (model prog w) A env fun e s' => R (.error e) s') s₁) (notedBy (model prog w) A env fun e s' => R (.error e) s') s)
    (n : Nat) (h : I n s) : codeAny (model prog w) A (.compLoop (lc2 elt iter iter2 x z px pz scope pos) 1 it acc env) R s := by
  refine codeAny_loop rfl I (fun n s hI => ?_) n h
  show wpAny _ A ((compTurn (lc2 elt iter iter2 x z px pz scope pos) 1 it acc env).onRaise (fun x => do noteFrame x env; theTreesLotGoes x)) _ _ s
  refine wpAny_noted ?_
  rw [turn2_1]
  refine wpAny_bind (wpAny_standAt (wpAny_bind (wpAny_mono (turn n s hI) (fun r s₁ h₁ => ?_) fun _ _ h' => h')))
  cases r with
  | none => exact wpAny_pure h₁
  | some v =>
    refine wpAny_bind (wpAny_of_eq (show letOwnedTupleGo (.Name z pz) it v = pure () from rfl) ?_)
    exact wpAny_bind (wpAny_mono h₁ (fun _ s₂ h₂ => wpAny_bind (wpAny_bind (wpAny_mono h₂ (fun x s₃ h₃ => wpAny_bind (wpAny_mono h₃
      (fun _ s₄ h₄ => wpAny_pure (wpAny_pure ⟨rfl, h₄⟩)) fun _ _ h' => h')) fun _ _ h' => h'))) fun _ _ h' => h')
theorem code2_outer (I : Nat → Shared → Prop)
    (turn : ∀ n s, I n s → wpAny (model prog w) A (pyNext it) (fun r s₁ => match r with
      | none => R (.ok .next) s₁
      | some v => wpAny (model prog w) A (assign (.Name x px) env v) (fun _ s₂ => wpAny (model prog w) A (eval iter2 env) (fun y s₃ => wpAny (model prog w) A (pyIter y) (fun it2 s₄ =>
          codeAny (model prog w) A (.compStart (lc2 elt iter iter2 x z px pz scope pos) 1 it2 acc env) (fun r s' => match r with | .ok _ => ∃ m, m < n ∧ I m s' | .error e => cameBackBy (model prog w) A env (notedBy (model prog w) A env fun e s' => R (.error e) s') e s') s₄)
          (notedBy (model prog w) A env fun e s' => R (.error e) s') s₃)
          (notedBy (model prog w) A env fun e s' => R (.error e) s') s₂) (notedBy (model prog w) A env fun e s' => R (.error e) s') s₁) (notedBy (model prog w) A env fun e s' => R (.error e) s') s)
    (n : Nat) (h : I n s) (hs : ∀ y, foldedSetIterable iter2 env y = pure y) : codeAny (model prog w) A (.compLoop (lc2 elt iter iter2 x z px pz scope pos) 0 it acc env) R s := by
  refine codeAny_loop rfl I (fun n s hI => ?_) n h
  show wpAny _ A ((compTurn (lc2 elt iter iter2 x z px pz scope pos) 0 it acc env).onRaise (fun x => do noteFrame x env; theTreesLotGoes x)) _ _ s
  refine wpAny_noted ?_
  rw [turn2_0]
  refine wpAny_bind (wpAny_standAt (wpAny_bind (wpAny_mono (turn n s hI) (fun r s₁ h₁ => ?_) fun _ _ h' => h')))
  cases r with
  | none => exact wpAny_pure h₁
  | some v =>
    refine wpAny_bind (wpAny_of_eq (show letOwnedTupleGo (.Name x px) it v = pure () from rfl) ?_)
    refine wpAny_bind (wpAny_mono h₁ (fun _ s₂ h₂ => wpAny_bind (wpAny_mono h₂ (fun y s₃ h₃ => wpAny_bind (wpAny_standAt (wpAny_bind (wpAny_of_eq (hs y) (wpAny_bind (wpAny_holding (wpAny_mono h₃ (fun it2 s₄ h₄ => ?_) fun _ _ h' => h'))))))) fun _ _ h' => h')) fun _ _ h' => h')
    refine wpAny_bind (wpAny_runOwn (codeAny_mono h₄ fun r s' hr => ?_))
    cases r with
    | ok f => exact wpAny_pure ⟨rfl, hr⟩
    | error e => exact hr
end
section
open LCg
variable {elt iter iter2 : PySem.Expr} {x z : Str} {px pz : Pos} {scope : Scope} {pos : Pos} {env : Env}
variable {prog : Program} {w : World} {A : Around} {s : Shared} {h₀ : Heap} {L : Addr} {m : Str → Option Value} {cl : List (Str × Addr)}
/-- the inner loop, over range(n) -/
theorem loop2_inner {J C D : Addr} {n : Nat} {vx : Value} {R : Result → Shared → Prop} (INV : Nat → List Value → Led → Prop)
    (hh : A.handled = none) (hkind : scope.kind = .function) (hz : scope.names.lookup z = some .local) (hxz : x ≠ z)
    (hJL : L ≠ J) (hJ₀ : h₀.get? J = none) (hCL : C ≠ L) (hC₀ : h₀.get? C = none) (hDL : D ≠ L) (hD₀ : h₀.get? D = none) (hJC : J ≠ C) (hJD : J ≠ D) (hDC : D ≠ C)
    (hlen : ∀ j ys news, INV j ys news → ys.length ≤ 100)
    (turn : ∀ j ys news t' oJ oC m₂ h tk (E' : Value → Shared → Prop), j < n → INV j ys news → NsObj oC m₂ → m₂ x = some vx → m₂ z = some (.int (0 + (j : Int)) t') → Fr h₀ L h m → News h₀ L h ((J, oJ) :: (C, oC) :: (D, lst ys) :: news) → Off3 J C D news →
      wpAny (model prog w) A (eval elt (compEnvC scope cl C env)) (CompEnd h₀ L m { s with heap := h, toks := tk } J oJ C oC D (lst ys) (fun _ => True) (fun y news' => INV (j + 1) (ys ++ [y]) news')) E' { s with heap := h, toks := tk })
    (done : ∀ ys news m₂ h tk, INV n ys news → Fr h₀ L h m → h.Ns C m₂ → News h₀ L h ((D, lst ys) :: news) → Off3 J C D news → R (.ok .next) { s with heap := h, toks := tk })
    {ys₀ : List Value} {news₀ : Led} {m₁ : Str → Option Value} {g : Heap} {tk₀ : Nat} (hinv : INV 0 ys₀ news₀) (hst : IsRangeIter g J (0 + ((0 : Nat) : Int) * 1) ((n : Int) - ((0 : Nat) : Int)) 1) (F : Fr h₀ L g m) (hn : g.Ns C m₁) (hx : m₁ x = some vx) (N : News h₀ L g ((D, lst ys₀) :: news₀)) (off : Off3 J C D news₀) :
    codeAny (model prog w) A (.compLoop (lc2 elt iter iter2 x z px pz scope pos) 1 (.ref J) (.ref D) (compEnvC scope cl C env)) R { s with heap := g, toks := tk₀ } := by
  have W := range_walks (prog := prog) (w := w) (I := J) hh 0 n
  refine code2_inner
    (fun k s' => ∃ h' tk i ys m' news', s' = { s with heap := h', toks := tk } ∧ i ≤ n ∧ k = n + 1 - i ∧ IsRangeIter h' J (0 + (i : Nat) * 1) ((n : Int) - (i : Nat)) 1 ∧ Fr h₀ L h' m ∧ h'.Ns C m' ∧ m' x = some vx ∧ News h₀ L h' ((D, lst ys) :: news') ∧ Off3 J C D news' ∧ INV i ys news') ?_ (n + 1)
    ⟨g, tk₀, 0, ys₀, m₁, news₀, rfl, Nat.zero_le _, rfl, hst, F, hn, hx, N, off, hinv⟩
  rintro k s' ⟨h', tk, i, ys, m', news', rfl, hi, rfl, hst', F', hn', hx', N', off', hI'⟩
  by_cases hlt : i < n
  · refine W.item i _ _ _ hlt hst' fun v h₂ tk₂ hPv hst₂ hk₂ => ?_
    obtain ⟨t', rfl⟩ := hPv
    refine wpAny_assign_Name (wpAny_storeName_local (lookup_relabel_local hz) (hn'.at' fun o e => hk₂ _ o (by simpa using Ne.symm hJC) e) (fun h₃ hn₃ hs₃ => ?_) (by simp [compEnvC, relabel, hkind]))
    have hst₃ : IsRangeIter h₃ J (0 + ((i + 1 : Nat) : Int) * 1) ((n : Int) - ((i + 1 : Nat) : Int)) 1 := hs₃.extBut _ _ hJC hst₂
    obtain ⟨oC, heC, hoC⟩ := ns_obj hn₃
    have F₃ : Fr h₀ L h₃ m := (fr_but F' hk₂ hJL hJ₀).change hs₃ hCL hC₀
    have off3 := off'.mem
    have N₂ : News h₀ L h₂ ((D, lst ys) :: news') := news_but N' hk₂ fun p hp => by
      rcases List.mem_cons.mp hp with rfl | hp
      · exact Ne.symm hJD
      · exact (off3 p hp).1
    have N₃ : News h₀ L h₃ ((J, _) :: (C, oC) :: (D, lst ys) :: news') := fun p hp => by
      rcases List.mem_cons.mp hp with rfl | hp
      · exact ⟨hst₃, Ne.symm hJL, hJ₀⟩
      · rcases List.mem_cons.mp hp with rfl | hp
        · exact ⟨heC, hCL, hC₀⟩
        · have zz := N₂ p hp
          refine ⟨hs₃.extBut _ _ ?_ zz.1, zz.2⟩
          rcases List.mem_cons.mp hp with rfl | hp
          · exact hDC
          · exact (off3 p hp).2.1
    refine wpAny_mono (turn i ys news' t' _ oC _ h₃ _ _ hlt hI' hoC ((if_neg hxz).trans hx') (by simp) F₃ N₃ off') (fun y s₄ h₄ => ?_) fun _ _ e => e
    obtain ⟨h₄, tk₄, news₄, rfl, F₄, N₄, off₄, _, R₄⟩ := h₄
    have zJ := (N₄ _ List.mem_cons_self).1
    have zC := (N₄ (C, oC) (List.mem_cons_of_mem _ List.mem_cons_self)).1
    have zD := (N₄ (D, lst ys) (List.mem_cons_of_mem _ (List.mem_cons_of_mem _ List.mem_cons_self))).1
    have N₄' : News h₀ L h₄ news₄ := fun p hp => N₄ p (List.mem_cons_of_mem _ (List.mem_cons_of_mem _ (List.mem_cons_of_mem _ hp)))
    refine append_at (hsz := by show ys.toArray.size ≤ sizeLine; rw [List.size_toArray]; have := hlen _ _ _ hI'; simp only [PySem.sizeLine_eq]; omega) zD fun h₅ hs₅ hD₅ => ?_
    have off4 := off₄.mem
    refine ⟨n + 1 - (i + 1), by omega, h₅, tk₄, i + 1, ys ++ [y], _, news₄, rfl, hlt, rfl, hs₅.extBut _ _ hJD zJ, F₄.change hs₅ hDL hD₀, (hoC.ns zC).sameBut hs₅ (Ne.symm hDC), (if_neg hxz).trans hx', fun p hp => ?_, off₄, R₄⟩
    rcases List.mem_cons.mp hp with rfl | hp
    · exact ⟨hD₅.trans (congrArg some (lst_snoc ys y)), hDL, hD₀⟩
    · exact ⟨hs₅.extBut _ _ (off4 p hp).2.2 (N₄' p hp).1, (N₄' p hp).2⟩
  · obtain rfl : i = n := Nat.le_antisymm hi (Nat.not_lt.mp hlt)
    refine W.done _ _ _ hst' fun h₂ tk₂ hk₂ => ?_
    have off3 := off'.mem
    exact done ys news' _ h₂ tk₂ hI' (fr_but F' hk₂ hJL hJ₀) (hn'.at' fun o e => hk₂ _ o (by simpa using Ne.symm hJC) e) (news_but N' hk₂ fun p hp => by
      rcases List.mem_cons.mp hp with rfl | hp
      · exact Ne.symm hJD
      · exact (off3 p hp).1) off'
theorem loop2_outer {I C D : Addr} {n n2 : Nat} {R : Result → Shared → Prop} (INV : Nat → List Value → Led → Prop)
    (hh : A.handled = none) (hkind : scope.kind = .function) (hx : scope.names.lookup x = some .local) (hz : scope.names.lookup z = some .local) (hxz : x ≠ z) (hfs : ∀ y, foldedSetIterable iter2 (compEnvC scope cl C env) y = pure y)
    (hIL : L ≠ I) (hI₀ : h₀.get? I = none) (hCL : C ≠ L) (hC₀ : h₀.get? C = none) (hDL : D ≠ L) (hD₀ : h₀.get? D = none) (hIC : I ≠ C) (hID : I ≠ D) (hDC : D ≠ C)
    (hlen : ∀ j ys news, INV j ys news → ys.length ≤ 100)
    (iter2t : ∀ i ys news t oI oC m₂ h tk (E' : Value → Shared → Prop), i < n → INV (i * n2) ys news → NsObj oC m₂ → m₂ x = some (.int (0 + (i : Int)) t) → Fr h₀ L h m → News h₀ L h ((I, oI) :: (C, oC) :: (D, lst ys) :: news) → Off3 I C D news →
      wpAny (model prog w) A (eval iter2 (compEnvC scope cl C env)) (fun xv s' => ∃ r b t u v h' tk', xv = .ref r ∧ s' = { s with heap := h', toks := tk' } ∧ IsRange h' r 0 b 1 t u v ∧ Builtin.Range.small 0 b 1 = true ∧ Builtin.Range.rangeSize 0 b 1 = (n2 : Int) ∧ Fr h₀ L h' m ∧ News h₀ L h' ((I, oI) :: (C, oC) :: (D, lst ys) :: news)) E' { s with heap := h, toks := tk })
    (turn : ∀ i j ys news t t' J oJ oI oC m₂ h tk (E' : Value → Shared → Prop), i < n → j < n2 → INV (i * n2 + j) ys news → NsObj oC m₂ → m₂ x = some (.int (0 + (i : Int)) t) → m₂ z = some (.int (0 + (j : Int)) t') → Fr h₀ L h m → News h₀ L h ((J, oJ) :: (C, oC) :: (D, lst ys) :: (I, oI) :: news) → Off3 J C D ((I, oI) :: news) → (∀ p ∈ news, p.1 ≠ I) →
      wpAny (model prog w) A (eval elt (compEnvC scope cl C env)) (CompEnd h₀ L m { s with heap := h, toks := tk } J oJ C oC D (lst ys) (fun _ => True) (fun y news' => ∃ nw, news' = (I, oI) :: nw ∧ (∀ p ∈ nw, p.1 ≠ I) ∧ INV (i * n2 + j + 1) (ys ++ [y]) nw)) E' { s with heap := h, toks := tk })
    (done : ∀ ys news m₂ h tk, INV (n * n2) ys news → Fr h₀ L h m → h.Ns C m₂ → News h₀ L h ((D, lst ys) :: news) → Off3 I C D news → R (.ok .next) { s with heap := h, toks := tk })
    {ys₀ : List Value} {news₀ : Led} {m₁ : Str → Option Value} {g : Heap} {tk₀ : Nat} (hinv : INV 0 ys₀ news₀) (hst : IsRangeIter g I (0 + ((0 : Nat) : Int) * 1) ((n : Int) - ((0 : Nat) : Int)) 1) (F : Fr h₀ L g m) (hn : g.Ns C m₁) (N : News h₀ L g ((D, lst ys₀) :: news₀)) (off : Off3 I C D news₀) :
    codeAny (model prog w) A (.compLoop (lc2 elt iter iter2 x z px pz scope pos) 0 (.ref I) (.ref D) (compEnvC scope cl C env)) R { s with heap := g, toks := tk₀ } := by
  have W := range_walks (prog := prog) (w := w) (I := I) hh 0 n
  refine code2_outer
    (fun k s' => ∃ h' tk i ys m' news', s' = { s with heap := h', toks := tk } ∧ i ≤ n ∧ k = n + 1 - i ∧ IsRangeIter h' I (0 + (i : Nat) * 1) ((n : Int) - (i : Nat)) 1 ∧ Fr h₀ L h' m ∧ h'.Ns C m' ∧ News h₀ L h' ((D, lst ys) :: news') ∧ Off3 I C D news' ∧ INV (i * n2) ys news') ?_ (n + 1)
    ⟨g, tk₀, 0, ys₀, m₁, news₀, rfl, Nat.zero_le _, rfl, hst, F, hn, N, off, by rw [Nat.zero_mul]; exact hinv⟩ hfs
  rintro k s' ⟨h', tk, i, ys, m', news', rfl, hi, rfl, hst', F', hn', N', off', hI'⟩
  by_cases hlt : i < n
  · refine W.item i _ _ _ hlt hst' fun v h₂ tk₂ hPv hst₂ hk₂ => ?_
    obtain ⟨t', rfl⟩ := hPv
    refine wpAny_assign_Name (wpAny_storeName_local (lookup_relabel_local hx) (hn'.at' fun o e => hk₂ _ o (by simpa using Ne.symm hIC) e) (fun h₃ hn₃ hs₃ => ?_) (by simp [compEnvC, relabel, hkind]))
    have hst₃ : IsRangeIter h₃ I (0 + ((i + 1 : Nat) : Int) * 1) ((n : Int) - ((i + 1 : Nat) : Int)) 1 := hs₃.extBut _ _ hIC hst₂
    obtain ⟨oC, heC, hoC⟩ := ns_obj hn₃
    obtain ⟨oI, heI⟩ : ∃ oI, h₃.get? I = some oI := ⟨_, hst₃⟩
    have keepI : ∀ h', h'.get? I = some oI → IsRangeIter h' I (0 + ((i + 1 : Nat) : Int) * 1) ((n : Int) - ((i + 1 : Nat) : Int)) 1 := fun h' e => by
      show h'.get? I = some _
      rw [e, ← heI]
      exact hst₃
    have F₃ : Fr h₀ L h₃ m := (fr_but F' hk₂ hIL hI₀).change hs₃ hCL hC₀
    have off3 := off'.mem
    have N₂ : News h₀ L h₂ ((D, lst ys) :: news') := news_but N' hk₂ fun p hp => by
      rcases List.mem_cons.mp hp with rfl | hp
      · exact Ne.symm hID
      · exact (off3 p hp).1
    have N₃ : News h₀ L h₃ ((I, oI) :: (C, oC) :: (D, lst ys) :: news') := fun p hp => by
      rcases List.mem_cons.mp hp with rfl | hp
      · exact ⟨heI, Ne.symm hIL, hI₀⟩
      · rcases List.mem_cons.mp hp with rfl | hp
        · exact ⟨heC, hCL, hC₀⟩
        · have zz := N₂ p hp
          refine ⟨hs₃.extBut _ _ ?_ zz.1, zz.2⟩
          rcases List.mem_cons.mp hp with rfl | hp
          · exact hDC
          · exact (off3 p hp).2.1
    refine wpAny_mono (iter2t i ys news' t' oI oC _ h₃ _ _ hlt hI' hoC (if_pos rfl) F₃ N₃ off') (fun y s₄ h₄ => ?_) fun _ _ e => e
    obtain ⟨r, b, t, u, v, h₄, tk₄, rfl, rfl, hr, hsm, hsz, F₄, N₄⟩ := h₄
    refine wpAny_pyIter_range hr hsm ?_
    have W2 := range_walks (prog := prog) (w := w) (I := h₄.objs.size) hh 0 n2
    have up : ∀ q o, h₄.get? q = some o → (h₄.push { cls := .type "range_iterator", data := .fields #[rawInt 0, rawInt (Builtin.Range.rangeSize 0 b 1), rawInt 1] }).get? q = some o := fun q o e => Heap.get?_push_of_some _ e
    have hst₄ : IsRangeIter (h₄.push { cls := .type "range_iterator", data := .fields #[rawInt 0, rawInt (Builtin.Range.rangeSize 0 b 1), rawInt 1] }) h₄.objs.size (0 + ((0 : Nat) : Int) * 1) ((n2 : Int) - ((0 : Nat) : Int)) 1 := by
      show IsRangeIter _ _ _ _ _
      rw [hsz]
      simpa using Heap.get?_push_size _ rfl
    have N₅ := N₄.grown up
    have zI := (N₄ _ List.mem_cons_self).1
    have zC := (N₄ (C, oC) (List.mem_cons_of_mem _ List.mem_cons_self)).1
    have lt4 : ∀ p ∈ (I, oI) :: (C, oC) :: (D, lst ys) :: news', p.1 < h₄.objs.size := fun p hp => Heap.lt_size (N₄ p hp).1
    have lI : I < h₄.objs.size := lt4 _ List.mem_cons_self
    have lC : C < h₄.objs.size := lt4 (C, oC) (List.mem_cons_of_mem _ List.mem_cons_self)
    have lD : D < h₄.objs.size := lt4 (D, lst ys) (List.mem_cons_of_mem _ (List.mem_cons_of_mem _ List.mem_cons_self))
    have loop := loop2_inner (elt := elt) (iter := iter) (iter2 := iter2) (px := px) (pz := pz) (pos := pos) (env := env) (s := s) (R := fun r s' => match r with | .ok _ => ∃ m_1, m_1 < n + 1 - i ∧ (∃ h' tk i ys m' news', s' = { s with heap := h', toks := tk } ∧ i ≤ n ∧ m_1 = n + 1 - i ∧ IsRangeIter h' I (0 + (i : Nat) * 1) ((n : Int) - (i : Nat)) 1 ∧ Fr h₀ L h' m ∧ h'.Ns C m' ∧ News h₀ L h' ((D, lst ys) :: news') ∧ Off3 I C D news' ∧ INV (i * n2) ys news') | .error e => cameBackBy (model prog w) A (compEnvC scope cl C env) (notedBy (model prog w) A (compEnvC scope cl C env) fun e s' => R (.error e) s') e s')
      (fun j ys nl => ∃ nw, nl = (I, oI) :: nw ∧ (∀ p ∈ nw, p.1 ≠ I) ∧ INV (i * n2 + j) ys nw) hh hkind hz hxz (Nat.ne_of_lt F₄.ns.lt) (next_is_new F₄) hCL hC₀ hDL hD₀ (Ne.symm (Nat.ne_of_lt lC)) (Ne.symm (Nat.ne_of_lt lD)) hDC
      (fun j ys nl ⟨nw, _, _, hi⟩ => hlen _ _ _ hi)
      (fun j ys₁ nl t₁ oJ oC₁ m₁' h₁ tk₁ E₁ hj ⟨nw, e, hnw, hi⟩ hoC₁ hmx hmz F₁ N₁ off₁ => by subst e; exact turn i j ys₁ nw t' t₁ h₄.objs.size oJ oI oC₁ m₁' h₁ tk₁ E₁ hlt hj hi hoC₁ hmx hmz F₁ N₁ off₁ hnw)
      (fun ys₁ nl m₁' h₁ tk₁ ⟨nw, e, hnw, hi⟩ F₁ hn₁ N₁ off₁ => by
        subst e
        refine ⟨n + 1 - (i + 1), by omega, h₁, tk₁, i + 1, ys₁, m₁', nw, rfl, hlt, rfl, keepI _ (N₁ (I, oI) (List.mem_cons_of_mem _ List.mem_cons_self)).1, F₁, hn₁, fun p hp => N₁ p ?_, Off3.of fun p hp => ⟨hnw p hp, ?_⟩, ?_⟩
        · rcases List.mem_cons.mp hp with rfl | hp
          · exact List.mem_cons_self
          · exact List.mem_cons_of_mem _ (List.mem_cons_of_mem _ hp)
        · exact (off₁.mem p (List.mem_cons_of_mem _ hp)).2
        · rw [Nat.succ_mul]; exact hi)
      (ys₀ := ys) (news₀ := (I, oI) :: news') (tk₀ := tk₄) ⟨news', rfl, fun p hp => (off3 p hp).1, hI'⟩ hst₄ (F₄.keeps up) (hoC.ns (up _ _ zC)) (if_pos rfl) (fun p hp => N₅ p (by
        rcases List.mem_cons.mp hp with rfl | hp
        · exact List.mem_cons_of_mem _ (List.mem_cons_of_mem _ List.mem_cons_self)
        · rcases List.mem_cons.mp hp with rfl | hp
          · exact List.mem_cons_self
          · exact List.mem_cons_of_mem _ (List.mem_cons_of_mem _ (List.mem_cons_of_mem _ hp))))
      (Off3.of fun p hp => by
        rcases List.mem_cons.mp hp with rfl | hp
        · exact ⟨Nat.ne_of_lt lI, hIC, hID⟩
        · exact ⟨Nat.ne_of_lt (lt4 p (List.mem_cons_of_mem _ (List.mem_cons_of_mem _ (List.mem_cons_of_mem _ hp)))), (off3 p hp).2⟩)
    exact code2_start loop (W2.self 0 _ _ _ hst₄ loop)
  · obtain rfl : i = n := Nat.le_antisymm hi (Nat.not_lt.mp hlt)
    refine W.done _ _ _ hst' fun h₂ tk₂ hk₂ => ?_
    have off3 := off'.mem
    exact done ys news' _ h₂ tk₂ hI' (fr_but F' hk₂ hIL hI₀) (hn'.at' fun o e => hk₂ _ o (by simpa using Ne.symm hIC) e) (news_but N' hk₂ fun p hp => by
      rcases List.mem_cons.mp hp with rfl | hp
      · exact Ne.symm hID
      · exact (off3 p hp).1) off'
/-- what is wanted of the first clause's range -/
noncomputable def Src2 (prog : Program) (w : World) (A : Around) (h₀ : Heap) (L : Addr) (m : Str → Option Value) (env : Env) (elt iter2 : PySem.Expr) (x z : Str) (scope : Scope) (cl : List (Str × Addr)) (Fin : Shared → List Value → Led → Prop) (xv : Value) (s : Shared) : Prop :=
  ∃ r b t u v n n2 news, ∃ INV : Nat → List Value → Led → Prop, xv = .ref r ∧ A.handled = none ∧ Fr h₀ L s.heap m ∧ News h₀ L s.heap news ∧ IsRange s.heap r 0 b 1 t u v ∧ Builtin.Range.small 0 b 1 = true ∧ Builtin.Range.rangeSize 0 b 1 = ((n : Nat) : Int) ∧ INV 0 [] news ∧ (∀ j ys news, INV j ys news → ys.length ≤ 100) ∧
    (∀ (C I D : Addr) i ys news t oI oC m₂ h tk (E' : Value → Shared → Prop), i < n → INV (i * n2) ys news → NsObj oC m₂ → m₂ x = some (.int (0 + (i : Int)) t) → Fr h₀ L h m → News h₀ L h ((I, oI) :: (C, oC) :: (D, lst ys) :: news) → Off3 I C D news →
      wpAny (model prog w) A (eval iter2 (compEnvC scope cl C env)) (fun xv s' => ∃ r b t u v h' tk', xv = .ref r ∧ s' = { s with heap := h', toks := tk' } ∧ IsRange h' r 0 b 1 t u v ∧ Builtin.Range.small 0 b 1 = true ∧ Builtin.Range.rangeSize 0 b 1 = (n2 : Int) ∧ Fr h₀ L h' m ∧ News h₀ L h' ((I, oI) :: (C, oC) :: (D, lst ys) :: news)) E' { s with heap := h, toks := tk }) ∧
    (∀ (C I D : Addr) i j ys news t t' J oJ oI oC m₂ h tk (E' : Value → Shared → Prop), i < n → j < n2 → INV (i * n2 + j) ys news → NsObj oC m₂ → m₂ x = some (.int (0 + (i : Int)) t) → m₂ z = some (.int (0 + (j : Int)) t') → Fr h₀ L h m → News h₀ L h ((J, oJ) :: (C, oC) :: (D, lst ys) :: (I, oI) :: news) → Off3 J C D ((I, oI) :: news) → (∀ p ∈ news, p.1 ≠ I) →
      wpAny (model prog w) A (eval elt (compEnvC scope cl C env)) (CompEnd h₀ L m { s with heap := h, toks := tk } J oJ C oC D (lst ys) (fun _ => True) (fun y news' => ∃ nw, news' = (I, oI) :: nw ∧ (∀ p ∈ nw, p.1 ≠ I) ∧ INV (i * n2 + j + 1) (ys ++ [y]) nw)) E' { s with heap := h, toks := tk }) ∧
    (∀ ys news', INV (n * n2) ys news' → Fin s ys news')
theorem Assign_lc2 {E : Value → Shared → Prop} {y : Str} {py spos : Pos} {Q : Flow → Shared → Prop} (F₀ : Fr h₀ L s.heap m) (hLe : env.locals = L)
    (hsw : swapsWith (lc2 elt iter iter2 x z px pz scope pos) (some (.Name y py)) spos.line env = pure true)
    (hclos : closureFor scope env = pure cl) (hcell : ∀ z ∈ scope.names, z.2 ≠ .cell) (hkind : scope.kind = .function)
    (hnames : ∀ z ∈ scope.names, z.2 = .local → scope.names.lookup z.1 = some .local) (hx : scope.names.lookup x = some .local) (hz : scope.names.lookup z = some .local) (hxz : x ≠ z)
    (hy : env.kindOf y = some .local) (hp : (env.scope.kind == .class || (env.scope.kind == .module && env.locals != env.globals)) = false)
    (h : wpAny (model prog w) A (eval iter env) (Src2 prog w A h₀ L m env elt iter2 x z scope cl (fun s₂ => FinA h₀ L m s₂ y Q)) E s)
    (hs : ∀ x, foldedSetIterable iter env x = pure x := by intro _; rfl) (hs2 : ∀ C y, foldedSetIterable iter2 (compEnvC scope cl C env) y = pure y := by intro _ _; rfl) :
    wpAny (model prog w) A (exec (.Assign [.Name y py] (lc2 elt iter iter2 x z px pz scope pos) spos) env) Q E s := by
  subst hLe
  rw [exec_Assign_Name_used _ _ _ _ hsw]
  refine wpAny_bind (wpAny_standAt (wpAny_bind ?_))
  show wpAny _ A (do let _ ← comprehension (lc2 elt iter iter2 x z px pz scope pos) scope env _ (newList []) false (eval iter env) (some (assign (.Name y py) env))) _ _ s
  refine wpAny_bind (wpAny_mono (wpAny_comprehension_free (use := some (assign (.Name y py) env)) (Q := fun _ s' => Q .next s') rfl hs hclos hkind hnames
    (wpAny_mono h (fun xv s₁ h₁ => ?_) fun _ _ e => e)) (fun _ s' hq => wpAny_pure (wpAny_pure hq)) fun _ _ e => e)
  obtain ⟨r, b, t, u, v, n, n2, news, INV, rfl, hh, F, N, hr, hsm, hn, hI, hlen, it2, turn, fin⟩ := h₁
  refine wpAny_pyIter_range hr hsm ?_
  refine wpAny_newObj_type (wpAny_newFunctionEnv hcell (by intro y hy; simp at hy) (fun h₁ hns₁ hsb₁ => ?_) hkind)
  dsimp only at hns₁ hsb₁ ⊢
  generalize hH1 : s₁.heap.push { cls := .type "range_iterator", data := .fields #[rawInt 0, rawInt (Builtin.Range.rangeSize 0 b 1), rawInt 1] } = H1 at hns₁ hsb₁ ⊢
  have sz1 : H1.objs.size = s₁.heap.objs.size + 1 := by rw [← hH1, Heap.size_push]
  generalize hH2 : H1.push { cls := .type "list", dict := none, data := .seq ([] : List Value).toArray } = H2 at hns₁ hsb₁ ⊢
  have sz2 : H2.objs.size = s₁.heap.objs.size + 2 := by rw [← hH2, Heap.size_push, sz1]
  have up1 : ∀ q o, s₁.heap.get? q = some o → H1.get? q = some o := fun q o e => hH1 ▸ Heap.get?_push_of_some _ e
  have up2 : ∀ q o, H1.get? q = some o → H2.get? q = some o := fun q o e => hH2 ▸ Heap.get?_push_of_some _ e
  have ne2 : ∀ q, q < s₁.heap.objs.size + 2 → q ≠ H2.objs.size := fun q hq => by rw [sz2]; exact Nat.ne_of_lt hq
  have up3 : ∀ q o, q < s₁.heap.objs.size + 2 → H2.get? q = some o → h₁.get? q = some o := fun q o hq e => hsb₁.extBut q o (ne2 q hq) (Heap.get?_push_of_some _ e)
  have lt2 : ∀ q o, s₁.heap.get? q = some o → q < s₁.heap.objs.size + 2 := fun q o e => Nat.lt_of_lt_of_le (Heap.lt_size e) (Nat.le_add_right _ _)
  have old : ∀ q o, s₁.heap.get? q = some o → h₁.get? q = some o := fun q o e => up3 q o (lt2 q o e) (up2 q o (up1 q o e))
  have fresh₀ : ∀ a, s₁.heap.objs.size ≤ a → h₀.get? a = none := fun a ha => by
    cases e : h₀.get? a with
    | none => rfl
    | some o' => exact absurd (Heap.lt_size (F.keep a o' e)) (Nat.not_lt.mpr ha)
  have eI : H1.get? s₁.heap.objs.size = some { cls := .type "range_iterator", data := .fields #[rawInt 0, rawInt (Builtin.Range.rangeSize 0 b 1), rawInt 1] } := hH1 ▸ Heap.get?_push_size _ rfl
  have hst : IsRangeIter h₁ s₁.heap.objs.size (0 + ((0 : Nat) : Int) * 1) ((n : Int) - ((0 : Nat) : Int)) 1 := by
    have e9 := up3 _ _ (Nat.lt_of_lt_of_le (Nat.lt_succ_self _) (Nat.le_succ _)) (up2 _ _ eI)
    rw [hn] at e9
    show h₁.get? _ = some _
    rw [e9]
    simp
  have eD : h₁.get? H1.objs.size = some (lst []) := up3 _ _ (by rw [sz1]; exact Nat.lt_succ_self _) (hH2 ▸ Heap.get?_push_size _ rfl)
  have hLlt : env.locals < s₁.heap.objs.size := F.ns.lt
  have cC : s₁.heap.objs.size ≤ H2.objs.size := by rw [sz2]; exact Nat.le_add_right _ _
  have cD : s₁.heap.objs.size ≤ H1.objs.size := by rw [sz1]; exact Nat.le_succ _
  have nDC : H1.objs.size ≠ H2.objs.size := by rw [sz1, sz2]; exact Nat.ne_of_lt (Nat.lt_succ_self _)
  have nIC : s₁.heap.objs.size ≠ H2.objs.size := by rw [sz2]; exact Nat.ne_of_lt (Nat.lt_add_of_pos_right (by decide))
  have nID : s₁.heap.objs.size ≠ H1.objs.size := by rw [sz1]; exact Nat.ne_of_lt (Nat.lt_succ_self _)
  have hCL : H2.objs.size ≠ env.locals := Ne.symm (Nat.ne_of_lt (Nat.lt_of_lt_of_le hLlt cC))
  have hDL : H1.objs.size ≠ env.locals := Ne.symm (Nat.ne_of_lt (Nat.lt_of_lt_of_le hLlt cD))
  have nlt : ∀ p ∈ news, p.1 < s₁.heap.objs.size := fun p hp => Heap.lt_size (N p hp).1
  have loop : ∀ s₃ : Shared, s₃ = { s₁ with heap := h₁, toks := s₁.toks + ([] : List (Str × Value)).length } →
      codeAny (model prog w) A (.compLoop (lc2 elt iter iter2 x z px pz scope pos) 0 (.ref s₁.heap.objs.size) (.ref H1.objs.size) (compEnvC scope cl H2.objs.size env)) (compPost (model prog w) A E (some (assign (.Name y py) env)) (fun _ s' => Q .next s') (.ref H1.objs.size) H2.objs.size) s₃ := by
    rintro s₃ rfl
    refine loop2_outer (s := s₁) (n := n) (n2 := n2) INV hh hkind hx hz hxz (hs2 _) (Nat.ne_of_lt hLlt) (fresh₀ _ (Nat.le_refl _)) hCL (fresh₀ _ cC) hDL (fresh₀ _ cD) nIC nID nDC hlen
      (it2 _ _ _) (turn _ _ _) ?_ hI hst (F.keeps old) hns₁ (fun p hp => ?_) (Off3.of fun p hp => ?_)
    · intro ys news' m' h₂ tk hI' F' hn' N' off'
      show wpAny _ A (assign (.Name y py) env (.ref H1.objs.size)) _ _ _
      have o1 := off'.one
      refine wpAny_assign_Name (wpAny_storeName_local hy F'.ns (fun h₃ hn₃ hs₃ => ?_) hp)
      have hL₀ : h₀.get? env.locals = none := Heap.get?_none_of_le F'.above
      have F₂ : Fr h₀ env.locals h₃ (fun z => if z = y then some (.ref H1.objs.size) else m z) := ⟨hn₃, fun b o e => hs₃.extBut b o (fun q => by rw [q, hL₀] at e; cases e) (F'.keep b o e), F'.above⟩
      refine ⟨m', hn'.sameBut hs₃ hCL, fun h'' hs'' => fin ys news' hI' H1.objs.size h'' _ (F₂.change hs'' hCL (fresh₀ _ cC)) (fun p hp => ?_) o1⟩
      have z : h₃.get? p.1 = some p.2 := hs₃.extBut _ _ (N' p hp).2.1 (N' p hp).1
      refine ⟨hs''.extBut _ _ ?_ z, (N' p hp).2⟩
      rcases List.mem_cons.mp hp with rfl | hp
      · exact nDC
      · exact (off'.mem p hp).2.1
    · rcases List.mem_cons.mp hp with rfl | hp
      · exact ⟨eD, hDL, fresh₀ _ cD⟩
      · exact ⟨old _ _ (N p hp).1, (N p hp).2⟩
    · have := nlt p hp
      exact ⟨Nat.ne_of_lt this, by rw [sz2]; exact Nat.ne_of_lt (Nat.lt_of_lt_of_le this (Nat.le_add_right _ _)), by rw [sz1]; exact Nat.ne_of_lt (Nat.lt_succ_of_lt this)⟩
  exact codeAny_compStart_list (loop _ rfl) ((range_walks (prog := prog) (w := w) (I := s₁.heap.objs.size) hh 0 n).self 0 _ _ _ hst (loop _ rfl))
end
theorem open_led {h₀ h : Heap} {L : Addr} {q : Addr × Obj} {l : Led} (N : News h₀ L h (q :: l)) : ∃ B, B = q :: l ∧ q ∈ B ∧ News h₀ L h B := ⟨q :: l, rfl, .head _, N⟩
end
section
theorem sub_upd {h₀ h₁ h' g : Heap} {L L' D Y : Addr} {m' : Str → Option Value} {news news' : Led} {o o' oy : Obj} (N : News h₀ L h₁ news) (U : Upd D o o' news news') (hY : (Y, oy) ∈ news) (hG : ∀ q ∈ news, q.1 ∈ [(D, o), (Y, oy)].map (·.1) ∨ g.get? q.1 = some q.2)
    (F' : Fr g L' h' m') (kN : News h₀ L h' [(D, o'), (Y, oy)]) : News h₀ L h' news' := by
  obtain ⟨pre, post, rfl, rfl, a, b⟩ := U.split
  have key : ∀ q ∈ pre ++ (D, o) :: post, q.1 ≠ D → h'.get? q.1 = some q.2 ∧ q.1 ≠ L ∧ h₀.get? q.1 = none := by
    intro q hq hD
    rcases hG q hq with h | h
    · rcases List.mem_cons.mp h with h | h
      · exact absurd h hD
      · have hy : q.1 = Y := List.mem_singleton.mp h
        have h1 := (N q hq).1
        have h2 := (N _ hY).1
        rw [hy] at h1
        rw [h1] at h2
        have : q = (Y, oy) := Prod.ext hy (Option.some.inj h2)
        exact this ▸ kN _ (.tail _ (.head _))
    · exact ⟨F'.keep _ _ h, (N q hq).2⟩
  intro q hq
  rcases List.mem_append.mp hq with hq | hq
  · exact key q (List.mem_append.mpr (.inl hq)) (a q hq)
  · rcases List.mem_cons.mp hq with rfl | hq
    · exact kN _ (.head _)
    · exact key q (List.mem_append.mpr (.inr (.tail _ hq))) (b q hq)
theorem fmod_in {x m : Int} (hm : 0 < m) : 0 ≤ x.fmod m ∧ x.fmod m < m := ⟨Int.fmod_nonneg_of_pos x hm, Int.fmod_lt_of_pos x hm⟩
set_option maxHeartbeats 4000000 in
/-- one draw: the yard's count goes up by one -/
theorem next_tells {w : World} {mean : ExcName → Option Value} {mg mb : Str → Option Value} {D Y : Addr} {n ny : Nat} {k many : Int} {t u : Tok} {ys : List Value} {ns : List Int} {dp un : Nat} {gd : Option (List Code)} {cn : Str} {cs : Scope} {a : Addr} {ccd : Value} {cl : List (Str × Addr)} {outer : List Env} {A₀ : Around} {base h₀ : Heap} {L : Addr} {m : Str → Option Value} {news : Led} {news' : Obj → Led} {s : Shared}
    {Q E : Value → Shared → Prop} (hI : IntsAre ys ns) (hk0 : 0 ≤ k) (hk1 : k < 10) (hl : ns.length ≤ 63) (hm0 : 0 < many) (hm1 : many < 10) (hne : @Ne Nat Y D)
    (B : Below A₀ base outer h₀) (F : Fr h₀ L s.heap m) (X : (hd.heap_39 w.params).In h₀) (N : News h₀ L s.heap news) (T : Top hd.view_39 (looseW hd.view_39 [Str.ofString "NOUGHT", Str.ofString "UNIT"]) mean mg mb h₀) (hk : cs.kind = .function) (hY : (Y, listOf ys.toArray ny) ∈ news)
    (U : ∀ o', Upd D (listOf #[.int k t, .ref Y] n) o' news (news' o')) (hd : dp + 2 < recursionLimit) (hu : un + 8 * 2 < cLine)
    (hret : ∀ r t1 t2 h' tk', 0 ≤ r → r < many → Fr h₀ L h' m → News h₀ L h' (news' (listOf #[.int (k + 1) t2, .ref Y] n)) → Q (.int r t1) { s with heap := h', toks := tk' }) :
    wpAny (model PySem.Challenge.rw_xm0445_01.row.prog w) (ktrTop dp un gd cn cs L a ccd cl outer) (call (.ref 277) [.ref D, .int many u]) Q E s := by
  revert B F X N T hk hY U hd hu hret
  k_fill
  intro B F X N T hk hY U hd hu hret
  have hD : (D, listOf #[.int k t, .ref Y] n) ∈ news := by
    obtain ⟨pre, post, e, _⟩ := (U default).split
    rw [e]
    exact List.mem_append.mpr (.inr (.head _))
  have hyl := hI.length
  refine wpAny_call ?_
  k_dflt (refine' code_sub _ (List.forall_mem_cons.mpr ⟨hD, List.forall_mem_cons.mpr ⟨hY, List.forall_mem_nil _⟩⟩) ?k1 ?k2 ?k3 ?k4 ?k5 ?kA ?kF ?kK ?k6 ?k7 ?k8 ?k9 ?kB ?_ ?c2 ?c3 ?c4 ?c5; (case kA => exact rfl); (case kF => exact rfl); (case kK => assumption); (case k1 => k_asm); (case k2 => k_asm); (case k3 => k_asm); (case k4 => k_asm); (case k5 => k_asm); (case k6 => k_is); (case k7 => k_is); (case k8 => ktr_room); (case k9 => exact BindsTo.of_eq rfl); (case c5 => decide); (case kB => exact locs rfl); (case c2 => exact rfl); (case c3 => exact rfl); (case c4 => exact rfl); k_whole; intro g' L' h' FG' F' N' B' X' T' hG'; (try dsimp only); (try k_fold))
  k_steps
  all_goals (try k_data)
  all_goals (refine' hret _ _ _ _ _ (fmod_in hm0).1 (fmod_in hm0).2 ?f1 (sub_upd N (U _) hY hG' ?f2 ?f3); (case f1 => k_asm); (case f3 => k_asm); (case f2 => k_asm))
end
section
section
open PySem.SeqAt
variable {prog : Program} {w : World} {A : Around} {E : Value → Shared → Prop} {s : Shared} {h₀ : Heap} {L : Addr} {led : Led}
theorem ne_nat {v v' : Value} {x : Int} {Q : Value → Shared → Prop} (N : News h₀ L s.heap led) (h1 : NatIn led v x) (h2 : NatIn led v' x) (hu : A.units < cLine) (h : Q (.bool false) s) : wpAny (model prog w) A (compareOp .NotEq v v') Q E s := by
  cases h1 with
  | @zero a n h1 =>
    cases h2 with
    | @zero b n' h2 => exact RcNeAt.lists (e := fun _ => true) ⟨_, (N _ h1).1, rfl, n, rfl⟩ ⟨_, (N _ h2).1, rfl, n', rfl⟩ rfl hu (fun j h => absurd h (Nat.not_lt_zero j)) prog w E Q h
    | pos h2 h0 => exact absurd h0 (by decide)
  | @pos a n t x h1 h0 h01 =>
    cases h2 with
    | zero h2 => exact absurd h0 (by decide)
    | @pos b n' t' _ h2 _ _ =>
      refine RcNeAt.lists (e := fun _ => true) ⟨_, (N _ h1).1, rfl, n, rfl⟩ ⟨_, (N _ h2).1, rfl, n', rfl⟩ rfl hu (fun j h h' => ?_) prog w E Q h
      match j, h, h' with
      | 0, _, _ =>
        have e := PySem.SeqAt.EqAt.int_int (A := A.in1) (s := s) x t x t'
        rw [beq_self_eq_true] at e
        exact e
      | _ + 1, h, _ => exact absurd h (by simp)
theorem eq_nat {v v' : Value} {x : Int} {Q : Value → Shared → Prop} (N : News h₀ L s.heap led) (h1 : NatIn led v x) (h2 : NatIn led v' x) (hu : A.units < cLine) (h : Q (.bool true) s) : wpAny (model prog w) A (compareOp .Eq v v') Q E s := by
  cases h1 with
  | @zero a n h1 =>
    cases h2 with
    | @zero b n' h2 => exact eq_listAt (e := fun _ => true) ⟨_, (N _ h1).1, rfl, n, rfl⟩ ⟨_, (N _ h2).1, rfl, n', rfl⟩ rfl hu (fun j h => absurd h (Nat.not_lt_zero j)) h
    | pos h2 h0 => exact absurd h0 (by decide)
  | @pos a n t x h1 h0 h01 =>
    cases h2 with
    | zero h2 => exact absurd h0 (by decide)
    | @pos b n' t' _ h2 _ _ =>
      refine eq_listAt (e := fun _ => true) ⟨_, (N _ h1).1, rfl, n, rfl⟩ ⟨_, (N _ h2).1, rfl, n', rfl⟩ rfl hu (fun j h h' => ?_) h
      match j, h, h' with
      | 0, _, _ =>
        have e := PySem.SeqAt.EqAt.int_int (A := A.in1) (s := s) x t x t'
        rw [beq_self_eq_true] at e
        exact e
      | _ + 1, h, _ => exact absurd h (by simp)
end
section
variable {prog : Program} {w : World} {A : Around} {E : Value → Shared → Prop} {s : Shared} {env : Env} {h₀ : Heap} {x : Str} {px : Pos} {body : List Stmt} {Q : Flow → Shared → Prop}
/-- a loop over a range whose name may be a cell -/
theorem range_tinv {r : Addr} {a₀ b₀ : Int} {t₀ u₀ v₀ : Tok} {n : Nat} {m₀ : Str → Option Value} {news : Led} (hh : A.handled = none) (hr : IsRange s.heap r a₀ b₀ 1 t₀ u₀ v₀) (hsmall : Builtin.Range.small a₀ b₀ 1 = true) (hsz : Builtin.Range.rangeSize a₀ b₀ 1 = (n : Int))
    (F : Fr h₀ env.locals s.heap m₀) (N : News h₀ env.locals s.heap news) (J : Nat → (Str → Option Value) → Led → Prop) (hj : J 0 m₀ news)
    (turn : ∀ (i : Nat) t m₁ nx h tk own, i < n → OwnOff own (nx.map (·.1)) → J i m₁ nx → Fr h₀ env.locals h m₁ → News h₀ env.locals h (nx ++ own) →
      wpAny (model prog w) A (assign (.Name x px) env (.int (a₀ + (i : Int)) t)) (fun _ s₃ => wpAny (model prog w) A (execs body env) (InvPostG h₀ env.locals (fun m' nx' => (∀ p ∈ ([] : Led), p ∈ nx') ∧ J (i + 1) m' nx') own { s with heap := h, toks := tk } Q) E s₃) E { s with heap := h, toks := tk })
    (done : ∀ m₁ nx h tk, J n m₁ nx → Fr h₀ env.locals h m₁ → News h₀ env.locals h nx → Q .next { s with heap := h, toks := tk }) :
    wpAny (model prog w) A (pyIter (.ref r)) (fun it s₂ => TurnsAt prog w A h₀ env (.Name x px) body Q E it s₂) E s := by
  refine wpAny_pyIter_range hr hsmall ?_
  refine tt_inv (tk0 := s.toks) (keep := []) (n := n) (news := news) (KTurns.ofWalks (LCg.range_walks (I := s.heap.objs.size) hh a₀ n) fun i v s Q E st q => wpAny_of_eq (rfl : letOwnedTupleGo (.Name x px) (.ref _) v = pure ()) q) ?_ ?_ ?_ ?_ ?_ ?_ (F.push _) (fun p hp => ⟨Heap.get?_push_of_some _ (N p hp).1, (N p hp).2⟩) (List.forall_mem_nil _) J hj ?_ done
  · intro b hb
    exact .inl hb
  · intro i h st b hb
    rw [List.mem_singleton.mp hb]
    exact ⟨_, st⟩
  · intro hI
    exact absurd F.ns.lt ((List.mem_singleton.mp hI) ▸ Nat.lt_irrefl _)
  · intro b hb
    rw [List.mem_singleton.mp hb]
    exact next_is_new F
  · intro p hp hI
    exact absurd (Heap.lt_size (N p hp).1) ((List.mem_singleton.mp hI) ▸ Nat.lt_irrefl _)
  · show IsRangeIter _ _ _ _ _
    rw [hsz]
    simpa using Heap.get?_push_size _ rfl
  · rintro i v m₁ nx h tk own hin ⟨t, rfl⟩ hoff _ hJ F₁ N₁
    exact turn i t m₁ nx h tk own hin hoff hJ F₁ N₁
end
/-- the board of two rows -/
noncomputable def sqs (n : Nat) : List (Int × Int) := (List.range (2 * n)).map fun k => (((k / n : Nat) : Int), ((k % n : Nat) : Int))
noncomputable def okBoard (b : List (Int × Int)) : Bool := decide (1 ≤ (whites b).length) && okBar (gridOf b) && decide (0 ≤ covers 10 b) && decide (covers 10 b < 16) && decide (((detM (gridOf b)).natAbs : Int) = covers 10 b) && decide (b.length ≤ 10)
theorem wide_ok : ∀ i : Fin 3, okBoard (sqs (i.val + 1)) = true ∧ covers 10 (sqs (i.val + 1)) = (i.val : Int) + 1 := by decide +kernel
noncomputable def stair (r1 r2 r3 : Int) : List (Int × Int) := [(0, 3), (0, 4), (1 + ((0 : Nat) : Int), 3 + r1 - 1), (1 + ((0 : Nat) : Int), 3 + r1 - 1 + 1), (1 + ((0 + 1 : Nat) : Int), 3 + r1 - 1 + r2 - 1), (1 + ((0 + 1 : Nat) : Int), 3 + r1 - 1 + r2 - 1 + 1), (1 + ((0 + 1 + 1 : Nat) : Int), 3 + r1 - 1 + r2 - 1 + r3 - 1), (1 + ((0 + 1 + 1 : Nat) : Int), 3 + r1 - 1 + r2 - 1 + r3 - 1 + 1)]
theorem stair_fin : ∀ a b c : Fin 3, okBoard (stair a.val b.val c.val) = true := by decide +kernel
theorem stair_ok {r1 r2 r3 : Int} (a0 : 0 ≤ r1) (a1 : r1 < 3) (b0 : 0 ≤ r2) (b1 : r2 < 3) (c0 : 0 ≤ r3) (c1 : r3 < 3) : okBoard (stair r1 r2 r3) = true := by
  have h := stair_fin ⟨r1.toNat, by omega⟩ ⟨r2.toNat, by omega⟩ ⟨r3.toNat, by omega⟩
  simpa only [Int.toNat_of_nonneg a0, Int.toNat_of_nonneg b0, Int.toNat_of_nonneg c0] using h
theorem sqs_length (n : Nat) : (sqs n).length = 2 * n := by unfold sqs; rw [List.length_map, List.length_range]
theorem sqs_take {n i j : Nat} (hi : i < 2) (hj : j < n) : (sqs n).take (i * n + j + 1) = (sqs n).take (i * n + j) ++ [(0 + (i : Int), 0 + (j : Int))] := by
  have h2 : i * n + j < 2 * n := by
    rcases (by omega : i = 0 ∨ i = 1) with rfl | rfl <;> omega
  have hn : 0 < n := by omega
  have e1 : (i * n + j) / n = i := by rw [Nat.add_comm, Nat.mul_comm, Nat.add_mul_div_left _ _ hn, Nat.div_eq_of_lt hj, Nat.zero_add]
  have e2 : (i * n + j) % n = j := by rw [Nat.add_comm, Nat.mul_comm, Nat.add_mul_mod_self_left, Nat.mod_eq_of_lt hj]
  have e : (sqs n)[i * n + j]? = some (0 + (i : Int), 0 + (j : Int)) := by
    unfold sqs
    rw [List.getElem?_map, List.getElem?_range h2, Int.zero_add, Int.zero_add]
    dsimp only [Option.map_some]
    rw [e1, e2]
  rw [List.take_add_one, e]
  rfl
theorem board8 {l : Led} {a T1 T2 T3 T4 T5 T6 T7 T8 : Addr} {n n1 n2 n3 n4 n5 n6 n7 n8 : Nat} {x1 y1 x2 y2 x3 y3 x4 y4 x5 y5 x6 y6 x7 y7 x8 y8 : Int} {t1 u1 t2 u2 t3 u3 t4 u4 t5 u5 t6 u6 t7 u7 t8 u8 : Tok} (h : (a, listOf #[.ref T1, .ref T2, .ref T3, .ref T4, .ref T5, .ref T6, .ref T7, .ref T8] n) ∈ l)
    (h1 : (T1, tupOf #[.int x1 t1, .int y1 u1] n1) ∈ l) (h2 : (T2, tupOf #[.int x2 t2, .int y2 u2] n2) ∈ l) (h3 : (T3, tupOf #[.int x3 t3, .int y3 u3] n3) ∈ l) (h4 : (T4, tupOf #[.int x4 t4, .int y4 u4] n4) ∈ l)
    (h5 : (T5, tupOf #[.int x5 t5, .int y5 u5] n5) ∈ l) (h6 : (T6, tupOf #[.int x6 t6, .int y6 u6] n6) ∈ l) (h7 : (T7, tupOf #[.int x7 t7, .int y7 u7] n7) ∈ l) (h8 : (T8, tupOf #[.int x8 t8, .int y8 u8] n8) ∈ l) :
    BoardIn l (.ref a) [(x1, y1), (x2, y2), (x3, y3), (x4, y4), (x5, y5), (x6, y6), (x7, y7), (x8, y8)] :=
  .mk (vs := [.ref T1, .ref T2, .ref T3, .ref T4, .ref T5, .ref T6, .ref T7, .ref T8]) h (.cons (.mk h1) (.cons (.mk h2) (.cons (.mk h3) (.cons (.mk h4) (.cons (.mk h5) (.cons (.mk h6) (.cons (.mk h7) (.cons (.mk h8) .nil)))))))) (Nat.le_of_ble_eq_true rfl)
theorem BoardIn.mono {l l' : Led} {v : Value} {b : List (Int × Int)} (hs : ∀ p ∈ l, p ∈ l') (h : BoardIn l v b) : BoardIn l' v b := by
  cases h with
  | mk h k e => exact .mk (hs _ h) (k.mono hs) e
section
open LCg
variable {elt iter iter2 : PySem.Expr} {x z : Str} {scope : Scope} {env : Env} {prog : Program} {w : World} {A : Around} {s : Shared} {h₀ : Heap} {L : Addr} {m : Str → Option Value} {cl : List (Str × Addr)} {Fin : Shared → List Value → Led → Prop}
/-- the squares of two rows of n -/
theorem src2_of {r : Addr} {b₀ : Int} {t₀ u₀ v₀ : Tok} {B : Led} {n : Nat} (hn : n ≤ 3) (hh : A.handled = none) (F : Fr h₀ L s.heap m) (N : News h₀ L s.heap B) (hr : IsRange s.heap r 0 b₀ 1 t₀ u₀ v₀) (hsm : Builtin.Range.small 0 b₀ 1 = true) (hsz : Builtin.Range.rangeSize 0 b₀ 1 = ((2 : Nat) : Int))
    (it2 : ∀ (C I D : Addr) (i : Nat) ys tl t oI oC m₂ h tk (E' : Value → Shared → Prop), i < 2 → NsObj oC m₂ → m₂ x = some (.int (0 + (i : Int)) t) → Fr h₀ L h m → News h₀ L h ((I, oI) :: (C, oC) :: (D, lst ys) :: (B ++ tl)) →
      wpAny (model prog w) A (eval iter2 (compEnvC scope cl C env)) (fun xv s' => Hold (∃ r b t u v h' tk', xv = .ref r ∧ s' = { s with heap := h', toks := tk' } ∧ IsRange h' r 0 b 1 t u v ∧ Builtin.Range.small 0 b 1 = true ∧ Builtin.Range.rangeSize 0 b 1 = (n : Int) ∧ Fr h₀ L h' m ∧ News h₀ L h' ((I, oI) :: (C, oC) :: (D, lst ys) :: (B ++ tl)))) E' { s with heap := h, toks := tk })
    (turn : ∀ (C I D : Addr) (i j : Nat) ys tl t t' J oJ oI oC m₂ h tk (E' : Value → Shared → Prop), i < 2 → j < n → NsObj oC m₂ → m₂ x = some (.int (0 + (i : Int)) t) → m₂ z = some (.int (0 + (j : Int)) t') → Fr h₀ L h m → News h₀ L h ((J, oJ) :: (C, oC) :: (D, lst ys) :: (I, oI) :: (B ++ tl)) →
      wpAny (model prog w) A (eval elt (compEnvC scope cl C env)) (fun y s' => Hold (∃ T t1 t2 nT h' tk', y = .ref T ∧ s' = { s with heap := h', toks := tk' } ∧ Fr h₀ L h' m ∧ News h₀ L h' ((T, tupOf #[.int (0 + (i : Int)) t1, .int (0 + (j : Int)) t2] nT) :: (J, oJ) :: (C, oC) :: (D, lst ys) :: (I, oI) :: (B ++ tl)) ∧ (AllLt T ((J, oJ) :: (C, oC) :: (D, lst ys) :: (I, oI) :: (B ++ tl))))) E' { s with heap := h, toks := tk })
    (fin : ∀ ys tl, Off B tl → SqAll (B ++ tl) ys (sqs n) → Fin s ys (B ++ tl)) : Src2 prog w A h₀ L m env elt iter2 x z scope cl Fin (.ref r) s := by
  refine ⟨r, b₀, t₀, u₀, v₀, 2, n, B, (fun k ys nl => k ≤ 2 * n ∧ ∃ tl, nl = B ++ tl ∧ Off B tl ∧ SqAll (B ++ tl) ys ((sqs n).take k)), rfl, hh, F, N, hr, hsm, hsz, ⟨Nat.zero_le _, [], (List.append_nil _).symm, Off.nil, .nil⟩, ?_, ?_, ?_, ?_⟩
  · rintro j ys nl ⟨_, tl, _, _, hs⟩
    have e := hs.length
    rw [List.length_take, sqs_length] at e
    omega
  · rintro C I D i ys nl t oI oC m₂ h tk E' hi ⟨_, tl, rfl, _, _⟩ hoC hx F₁ N₁ _
    exact it2 C I D i ys tl t oI oC m₂ h tk E' hi hoC hx F₁ N₁
  · rintro C I D i j ys nl t t' J oJ oI oC m₂ h tk E' hi hj ⟨hk, tl, rfl, ho, hs⟩ hoC hx hz F₁ N₁ off hI
    refine wpAny_mono (turn C I D i j ys tl t t' J oJ oI oC m₂ h tk E' hi hj hoC hx hz F₁ N₁) ?_ fun _ _ e => e
    rintro y s' ⟨T, t1, t2, nT, h', tk', rfl, rfl, F', N', hl⟩
    have l9 := ktn_ltOf hl
    have hT : ∀ p ∈ (J, oJ) :: (C, oC) :: (D, lst ys) :: (I, oI) :: (B ++ tl), T ≠ p.1 := fun p hp => Nat.ne_of_gt (l9 p hp)
    have e1 : (I, oI) :: (B ++ (tl ++ [(T, tupOf #[.int (0 + (i : Int)) t1, .int (0 + (j : Int)) t2] nT)])) = ((I, oI) :: (B ++ tl)) ++ [(T, tupOf #[.int (0 + (i : Int)) t1, .int (0 + (j : Int)) t2] nT)] := by simp only [List.cons_append, List.append_assoc]
    refine LCg.CompEnd.intro F' N' ((I, oI) :: (B ++ (tl ++ [(T, tupOf #[.int (0 + (i : Int)) t1, .int (0 + (j : Int)) t2] nT)]))) ?_ ?_ trivial ⟨_, rfl, ?_, ?_, _, rfl, ?_, ?_⟩
    · intro p hp
      simp only [List.mem_cons, List.mem_append, List.not_mem_nil, or_false] at hp ⊢
      rcases hp with hp | hp | hp | hp | hp | hp | hp <;> simp only [hp, true_or, or_true]
    · rw [e1]
      exact off3_app (oI := oJ) (oC := oC) (oD := lst ys) off fun q hq p hp => by
        rw [List.mem_singleton.mp hp]
        exact hT q hq
    · intro p hp
      simp only [List.mem_append, List.mem_cons, List.not_mem_nil, or_false] at hp
      rcases hp with hp | hp | hp
      · exact hI p (List.mem_append.mpr (.inl hp))
      · exact hI p (List.mem_append.mpr (.inr hp))
      · rw [hp]; exact hT (I, oI) (.tail _ (.tail _ (.tail _ (.head _))))
    · rcases (by omega : i = 0 ∨ i = 1) with rfl | rfl <;> omega
    · exact ho.app fun q hq p hp => by
        rw [List.mem_singleton.mp hp]
        exact hT q (.tail _ (.tail _ (.tail _ (.tail _ (List.mem_append.mpr (.inl hq))))))
    · rw [sqs_take hi hj]
      exact (hs.mono fun p hp => by
        rcases List.mem_append.mp hp with hp | hp
        · exact List.mem_append.mpr (.inl hp)
        · exact List.mem_append.mpr (.inr (List.mem_append.mpr (.inl hp)))).snoc (.mk (List.mem_append.mpr (.inr (List.mem_append.mpr (.inr (.head _))))))
  · rintro ys nl ⟨_, tl, rfl, ho, hs⟩
    rw [List.take_of_length_le (by rw [sqs_length]; exact Nat.le_refl _)] at hs
    exact fin ys tl ho hs
end
end
section
structure LawMark : Prop where
local macro_rules | `(tactic| walk_at "call ref") => `(tactic| (k_here; (with_reducible rename LawMark => bi); refine Hold.out ?_))
theorem law_news {h₀ h : Heap} {L : Addr} {a b1 b2 b3 b4 b5 d c : Addr × Obj} (N : News h₀ L h [a, b1, b2, b3, b4, b5, d, c]) : News h₀ L h (c :: [b1, b2, b3, b4, b5]) := newsSub N (by
  intro p hp
  simp only [List.mem_cons, List.not_mem_nil, or_false] at hp ⊢
  rcases hp with hp | hp | hp | hp | hp | hp <;> simp only [hp, true_or, or_true])
theorem NatIn.grow {a b c : Led} {v : Value} {x : Int} (h : NatIn (a ++ b) v x) : NatIn (a ++ (b ++ c)) v x := h.mono fun p hp => by rw [← List.append_assoc]; exact List.mem_append_left _ hp
theorem mem_led {h₀ h : Heap} {L : Addr} {x q : Addr × Obj} {B r : Led} (_ : News h₀ L h (x :: (B ++ r))) (hq : q ∈ B) : q ∈ x :: (B ++ r) := .tail _ (List.mem_append_left _ hq)
/-- between the turns of the loop over the columns -/
inductive LawJ (c : Addr) (base : Led) (m₀ : Str → Option Value) (i : Nat) (m : Str → Option Value) (nx : Led) : Prop
  | mk {o : Obj} {cv : Option Value} (e : nx = (c, o) :: base) (hd : o.data = .cell cv) (hm : ∀ y, [Str.ofString "wide", Str.ofString "due"].contains y = false → m y = m₀ y) : LawJ c base m₀ i m nx
local macro_rules | `(tactic| walk_at "exec Assign cons ListComp") => `(tactic| (k_here; (with_reducible rename LawMark => bi); refine Hold.out ?_))
-- no twins: they would be written into this file
local macro_rules | `(tactic| k_qdec) => `(tactic| decide +kernel)
-- the entry of the call, its facts unnamed
local macro_rules | `(tactic| o_facts $_) => `(tactic| (k_fill; intro _ _ _ _ _ G Y _ _ _ cd _ _ _ ho hdf hcd hD hmg _ _ _ _ hpre hlay hrd hwl hlo; have KX := kIn_of Y; k_behind G ho hdf hcd hD hmg hpre hlay hrd hwl hlo cd; (try clear Y); (try clear G)))
set_option maxHeartbeats 8000000 in
theorem lawful : PySem.Challenge.rw_xm0445_01.Holds := by
  w_on
  refine holds_law said fun said => ?_
  refine holds_open (q := hd.view_39) (loose := [Str.ofString "NOUGHT", Str.ofString "UNIT"]) (Xt := fun s => xlAt hd.view_39 [] s && recOk (RowW.records (OpenRow.toRowW PySem.Challenge.rw_xm0445_01.row)) s) (XP := XL hd.view_39 []) (Yf := Hook.obs hook) (Ya := Hook.val hook) (YP := Hook.says hook) (N := 3872) left (Hook.of hook) (Hook.keeps hook) (fun s e => xl_of s (Bool.and_eq_true_iff.mp e).1) XL.keeps (by rfl) (by rfl) (by rfl) (fun s e => recFacts_of (Bool.and_eq_true_iff.mp e).2) (by rfl) (by assumption) (by decide +kernel) ⟨rfl, rfl, rfl, rfl, rfl, by decide +kernel⟩ ?hw ?hc
  case hw => w_witness2
  clear said
  unfold hook
  o_facts zz
  (try (with_reducible rename Flt.MathXP _ _ _ => zz9; clear zz9))
  (try (with_reducible rename LooseAre _ _ _ => zz9; clear zz9))
  (try (with_reducible rename Glob _ _ _ _ _ => zz9; clear zz9))
  (try (with_reducible rename Tables _ _ _ _ => zz9; clear zz9))
  (try (with_reducible rename TopE _ _ _ _ => zz9; clear zz9))
  (try (with_reducible rename TopW _ _ _ => zz9; clear zz9))
  (try (with_reducible rename BMod _ _ _ _ _ => zz9; clear zz9))
  all_goals try k_fold
  have lawmark : LawMark := ⟨⟩
  k_steps
  with_reducible rename IntsAre _ (List.map _ (List.take 6 _)) => hI8
  unfold Hold
  refine' next_tells hI8 ?i0 ?i1 ?il ?m0 ?m1 ?ne ?kB ?kF ?kX ?kN ?kT ?kk ?kY ?kU ?kd ?ku ?_
  case kN => k_asm
  case kU => intro o'; k_upd
  case kY => k_mem
  case ne => k_ne
  case kB => k_asm
  case kF => k_asm
  case kX => k_asm
  case kT => k_asm
  case kk => exact rfl
  case kd => ktr_room
  case ku => ktr_units
  case i0 => decide
  case i1 => decide
  case il => simp only [List.length_map, List.length_take]; omega
  case m0 => decide
  case m1 => decide
  intro r1 t1 u1 h1 tk1 r10 r11 F1 N1
  (try dsimp only); (try k_fold)
  have byinv : ByInv := ⟨⟩
  (try dsimp only); (try k_fold)
  k_steps
  unfold Hold
  with_reducible rename Fr _ _ _ _ => lF
  with_unfolding_all refine' For_turns lF ?_
  k_steps
  unfold Hold
  with_reducible rename Fr _ _ _ _ => lF
  with_reducible rename News _ _ _ _ => lN
  first | with_unfolding_all refine range1_rows lF lN ?_ | with_unfolding_all refine range2_rows lF lN ?_
  clear lF lN
  intro _ _ _ _ _ lR lF lN _
  refine range_tinv (n := 3) (by rfl) lR (by rfl) (by rfl) lF (law_news lN) (LawJ _ _ _) (LawJ.mk rfl (by assumption) (fun _ _ => rfl)) ?_ ?_
  · intro i ti m₁ nx hh tk own hin hoff hJ F₁ N₁
    obtain ⟨e, hd, hm⟩ := hJ
    subst e
    rw [frame_of hm] at F₁
    simp only [List.cons_append, List.nil_append] at N₁
    have hoc := own_ne hoff
    k_steps
    unfold Hold
    k_dflt (refine Assign_lc2 (F₀ := by k_asm) rfl (by with_unfolding_all rfl) (by with_unfolding_all rfl) (by decide) (by rfl) (by decide) (by rfl) (by rfl) (by decide) (by rfl) (by rfl) ?_)
    k_steps
    unfold Hold
    with_reducible rename Fr _ _ _ _ => lF
    with_reducible rename News _ _ _ _ => lN
    first | with_unfolding_all refine range1_rows lF lN ?_ | with_unfolding_all refine range2_rows lF lN ?_
    clear lF lN
    intro _ _ _ _ _ lR lF lN _
    obtain ⟨B, hB, hcB, lN3⟩ := open_led lN
    clear lN
    obtain ⟨ok1, ok2⟩ := wide_ok ⟨i, hin⟩
    dsimp only at ok1 ok2
    simp only [okBoard, Bool.and_eq_true, decide_eq_true_eq] at ok1
    obtain ⟨⟨⟨⟨⟨o1, o2⟩, o3⟩, o4⟩, o5⟩, o6⟩ := ok1
    refine src2_of (n := i + 1) (by omega) (by rfl) lF lN3 lR (by rfl) (by rfl) ?_ ?_ ?_
    · intro C I D i2 ys2 tl2 t5 oI oC m₂ h5 tk5 E' hi2 hoC hmx F₅ N₅
      have hcm := List.mem_cons_of_mem (I, oI) (List.mem_cons_of_mem (C, oC) (List.mem_cons_of_mem (D, LCg.lst ys2) (List.mem_append_left tl2 hcB)))
      k_steps
      unfold Hold
      with_reducible rename Fr _ _ _ _ => lF
      with_reducible rename News _ _ _ _ => lN
      first | with_unfolding_all refine range1_rows lF lN ?_ | with_unfolding_all refine range2_rows lF lN ?_
      clear lF lN
      intro _ _ _ _ _ lR lF lN _
      exact ⟨_, _, _, _, _, _, _, rfl, rfl, lR, small_one (by omega) (by omega) (by omega) (by omega), (rangeSize_nat _ _).trans (by omega), lF, lN⟩
    · intro C I D i2 j2 ys2 tl2 t5 t6 J oJ oI oC m₂ h5 tk5 E' hi2 hj2 hoC hmx hmz F₅ N₅
      k_steps
      unfold Hold
      with_reducible rename Fr _ _ _ _ => lF6
      with_reducible rename News _ _ _ _ => lN6
      exact ⟨_, _, _, _, _, _, rfl, rfl, lF6, lN6, by assumption⟩
    · intro ys2 tl2 ho2 hs2 D h5 tk5 F₅ N₅ off5
      have hlen2 := sqs_length (i + 1)
      k_steps
      unfold Hold
      k_dflt (refine' Tell.use (sqs (i + 1)) ((covers_tells _ _ _ _ 10 (sqs (i + 1)) o6)) ?k1 ?k2 ?k3 ?k4 ?k5 ?k6 ?k7 ?k8 ?k9 ?_; (case k1 => k_asm); (case k2 => k_asm); (case k3 => k_asm); (case k4 => k_asm); (case k5 => k_asm); (case k6 => exact rfl); (case k7 => exact CovIn.mk (BoardIn.mk (vs := ys2) (by ktr_unf; done) (hs2.mono (by ktr_rel)) o6)); (case k8 => ktr_room); (case k9 => ktr_units))
      intro r9 tl9 h9 tk9 F9 N9 hl9 ho9
      obtain ⟨t9, rfl⟩ := ho9
      (try simp only [List.cons_append, List.nil_append, List.append_assoc] at N9)
      (try dsimp only); (try k_fold)
      k_steps
      all_goals (try k_data)
      unfold Hold
      k_dflt (refine' Tell.use (covers 10 (sqs (i + 1))) (limbs_tells _ _ _ _ _) ?k1 ?k2 ?k3 ?k4 ?k5 ?k6 ?k7 ?k8 ?k9 ?_; (case k1 => k_asm); (case k2 => k_asm); (case k3 => k_asm); (case k4 => k_asm); (case k5 => k_asm); (case k6 => exact rfl); (case k7 => exact LimbsIn.mk o3 o4 (by omega) (by omega)); (case k8 => ktr_room); (case k9 => ktr_units))
      intro r8 tl8 h8 tk8 F8 N8 hl8 ho8
      (try simp only [List.cons_append, List.nil_append, List.append_assoc] at N8)
      (try dsimp only); (try k_fold)
      k_steps
      all_goals (try k_data)
      unfold Hold
      k_dflt (refine' Tell.use (sqs (i + 1)) (size_tells _ _ _ _ _) ?k1 ?k2 ?k3 ?k4 ?k5 ?k6 ?k7 ?k8 ?k9 ?_; (case k1 => k_asm); (case k2 => k_asm); (case k3 => k_asm); (case k4 => k_asm); (case k5 => k_asm); (case k6 => exact rfl); (case k7 => exact SizeIn.mk (BoardIn.mk (vs := ys2) (by ktr_unf; done) (hs2.mono (by ktr_rel)) o6) o1 (by omega) (by omega) o2); (case k8 => ktr_room); (case k9 => ktr_units))
      intro r7 tl7 h7 tk7 F7 N7 hl7 ho7
      rw [o5] at ho7
      (try simp only [List.cons_append, List.nil_append, List.append_assoc] at N7)
      (try dsimp only); (try k_fold)
      k_steps
      all_goals (try k_data)
      refine ne_nat (by k_asm) (ho7.mono (by ktr_rel)) (ho8.mono (by ktr_rel)) (by cb_units) ?_
      have hcm := mem_led N7 hcB
      k_steps
      unfold Hold
      k_dflt (refine' Tell.use (i + 2) (fib_tells _ _ _ _ _) ?k1 ?k2 ?k3 ?k4 ?k5 ?k6 ?k7 ?k8 ?k9 ?_; (case k1 => k_asm); (case k2 => k_asm); (case k3 => k_asm); (case k4 => k_asm); (case k5 => k_asm); (case k6 => exact rfl); (case k7 => (show FibIn _ _; rw [show (1 + (i : Int) + 1) = ((i + 2 : Nat) : Int) by omega]; exact FibIn.mk (by omega) (by omega) (by omega))); (case k8 => ktr_room); (case k9 => ktr_units))
      intro r6 tl6 h6 tk6 F6 N6 hl6 ho6
      have e6 : (((i + 2 : Nat) : Int) - 1) = covers 10 (sqs (i + 1)) := by omega
      rw [e6] at ho6
      (try simp only [List.cons_append, List.nil_append, List.append_assoc] at N6)
      (try dsimp only); (try k_fold)
      k_steps
      all_goals (try k_data)
      refine ne_nat (by k_asm) (ho6.mono (by ktr_rel)) (ho8.mono (by ktr_rel)) (by cb_units) ?_
      k_steps
      subst hB
      refine' InvEndG.intro (nx := (_, _) :: _) (by k_asm) (by k_asm) ⟨List.forall_mem_nil _, LawJ.mk rfl (by assumption) ?g2⟩ ?g6 ?g4 ?g5
      case g6 => exact hoff
      case g2 => tb_start
      case g4 => ktr_rel
      case g5 => ktr_rel
  · intro m₁ nx hh tk hJ F₁ N₁
    obtain ⟨e, hd, hm⟩ := hJ
    subst e
    rw [frame_of hm] at F₁
    (try dsimp only); (try k_fold)
    with_reducible rename ByInv => byinv
    clear byinv
    k_steps
    unfold Hold
    refine' next_tells hI8 ?i0 ?i1 ?il ?m0 ?m1 ?ne ?kB ?kF ?kX ?kN ?kT ?kk ?kY ?kU ?kd ?ku ?_
    case kN => k_asm
    case kU => intro o'; k_upd
    case kY => k_mem
    case ne => k_ne
    case kB => k_asm
    case kF => k_asm
    case kX => k_asm
    case kT => k_asm
    case kk => exact rfl
    case kd => ktr_room
    case ku => ktr_units
    case i0 => decide
    case i1 => decide
    case il => simp only [List.length_map, List.length_take]; omega
    case m0 => decide
    case m1 => decide
    intro r2 t2 u2 h2 tk2 r20 r21 F2 N2
    (try dsimp only); (try k_fold)
    k_steps
    unfold Hold
    refine' next_tells hI8 ?i0 ?i1 ?il ?m0 ?m1 ?ne ?kB ?kF ?kX ?kN ?kT ?kk ?kY ?kU ?kd ?ku ?_
    case kN => k_asm
    case kU => intro o'; k_upd
    case kY => k_mem
    case ne => k_ne
    case kB => k_asm
    case kF => k_asm
    case kX => k_asm
    case kT => k_asm
    case kk => exact rfl
    case kd => ktr_room
    case ku => ktr_units
    case i0 => decide
    case i1 => decide
    case il => simp only [List.length_map, List.length_take]; omega
    case m0 => decide
    case m1 => decide
    intro r3 t3 u3 h3 tk3 r30 r31 F3 N3
    (try dsimp only); (try k_fold)
    k_steps
    unfold Hold
    refine' next_tells hI8 ?i0 ?i1 ?il ?m0 ?m1 ?ne ?kB ?kF ?kX ?kN ?kT ?kk ?kY ?kU ?kd ?ku ?_
    case kN => k_asm
    case kU => intro o'; k_upd
    case kY => k_mem
    case ne => k_ne
    case kB => k_asm
    case kF => k_asm
    case kX => k_asm
    case kT => k_asm
    case kk => exact rfl
    case kd => ktr_room
    case ku => ktr_units
    case i0 => decide
    case i1 => decide
    case il => simp only [List.length_map, List.length_take]; omega
    case m0 => decide
    case m1 => decide
    intro r4 t4 u4 h4 tk4 r40 r41 F4 N4
    (try dsimp only); (try k_fold)
    k_steps
    unfold Hold
    have ok1 := stair_ok r20 r21 r30 r31 r40 r41
    simp only [okBoard, Bool.and_eq_true, decide_eq_true_eq] at ok1
    obtain ⟨⟨⟨⟨⟨o1, o2⟩, o3⟩, o4⟩, o5⟩, o6⟩ := ok1
    k_dflt (refine' Tell.use (stair r2 r3 r4) (size_tells _ _ _ _ _) ?k1 ?k2 ?k3 ?k4 ?k5 ?k6 ?k7 ?k8 ?k9 ?_; (case k1 => k_asm); (case k2 => k_asm); (case k3 => k_asm); (case k4 => k_asm); (case k5 => k_asm); (case k6 => exact rfl); (case k7 => exact SizeIn.mk (board8 (by ktr_unf; done) (by ktr_unf; done) (by ktr_unf; done) (by ktr_unf; done) (by ktr_unf; done) (by ktr_unf; done) (by ktr_unf; done) (by ktr_unf; done) (by ktr_unf; done)) o1 (by omega) (by omega) o2); (case k8 => ktr_room); (case k9 => ktr_units))
    intro r9 tl9 h9 tk9 F9 N9 hl9 ho9
    rw [o5] at ho9
    (try simp only [List.cons_append, List.nil_append, List.append_assoc] at N9)
    (try dsimp only); (try k_fold)
    k_steps
    all_goals (try k_data)
    unfold Hold
    k_dflt (refine' Tell.use (stair r2 r3 r4) ((covers_tells _ _ _ _ 10 (stair r2 r3 r4) o6)) ?k1 ?k2 ?k3 ?k4 ?k5 ?k6 ?k7 ?k8 ?k9 ?_; (case k1 => k_asm); (case k2 => k_asm); (case k3 => k_asm); (case k4 => k_asm); (case k5 => k_asm); (case k6 => exact rfl); (case k7 => exact CovIn.mk (board8 (by ktr_unf; done) (by ktr_unf; done) (by ktr_unf; done) (by ktr_unf; done) (by ktr_unf; done) (by ktr_unf; done) (by ktr_unf; done) (by ktr_unf; done) (by ktr_unf; done))); (case k8 => ktr_room); (case k9 => ktr_units))
    intro r8 tl8 h8 tk8 F8 N8 hl8 ho8
    obtain ⟨t9, rfl⟩ := ho8
    (try simp only [List.cons_append, List.nil_append, List.append_assoc] at N8)
    (try dsimp only); (try k_fold)
    k_steps
    all_goals (try k_data)
    unfold Hold
    k_dflt (refine' Tell.use (covers 10 (stair r2 r3 r4)) (limbs_tells _ _ _ _ _) ?k1 ?k2 ?k3 ?k4 ?k5 ?k6 ?k7 ?k8 ?k9 ?_; (case k1 => k_asm); (case k2 => k_asm); (case k3 => k_asm); (case k4 => k_asm); (case k5 => k_asm); (case k6 => exact rfl); (case k7 => exact LimbsIn.mk o3 o4 (by omega) (by omega)); (case k8 => ktr_room); (case k9 => ktr_units))
    intro r7 tl7 h7 tk7 F7 N7 hl7 ho7
    (try simp only [List.cons_append, List.nil_append, List.append_assoc] at N7)
    (try dsimp only); (try k_fold)
    k_steps
    all_goals (try k_data)
    refine eq_nat N7 (ho9.grow (c := tl8 ++ tl7)) (ho7.mono (by ktr_rel)) (by cb_units) ?_
    k_steps
end
end Mine
theorem PySem.Challenge.cw_xm0445_01_holds : PySem.Challenge.rw_xm0445_01.Holds := by
  exact Mine.lawful
