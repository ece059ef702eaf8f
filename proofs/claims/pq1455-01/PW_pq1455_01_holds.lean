import PyProof.Rows.All
import Wide.All
import OpenK.AllK
import Wide.FinOn
import Lean
import PySem.Challenge.RW_pq1455_01
open PySem PySem.W PySem.W.X PyProof.Rows
set_option Elab.async false
set_option maxRecDepth 100000
set_option maxHeartbeats 8000000
namespace Mine
noncomputable def view : Program :=
  letI s1 : Stmt := _
  letI s2 : Stmt := _
  letI s3 : Stmt := _
  letI s5 : Stmt := _
  letI s6 : Stmt := _
  letI s7 : Stmt := _
  letI s8 : Stmt := _
  letI s9 : Stmt := _
  letI s10 : Stmt := _
  letI s11 : Stmt := _
  letI s12 : Stmt := _
  letI s13 : Stmt := _
  letI s14 : Stmt := _
  letI s15 : Stmt := _
  letI s16 : Stmt := _
  letI s17 : Stmt := _
  letI s18 : Stmt := _
  letI s19 : Stmt := _
  letI s20 : Stmt := _
  letI s21 : Stmt := _
  letI s22 : Stmt := _
  letI s23 : Stmt := _
  letI s24 : Stmt := _
  letI s25 : Stmt := _
  letI s26 : Stmt := _
  letI s27 : Stmt := _
  letI s28 : Stmt := _
  letI s29 : Stmt := _
  letI s30 : Stmt := _
  letI s31 : Stmt := _
  letI s32 : Stmt := _
  letI s33 : Stmt := _
  letI s34 : Stmt := _
  letI s35 : Stmt := _
  letI s36 : Stmt := _
  letI s37 : Stmt := _
  letI s38 : Stmt := _
  letI s39 : Stmt := _
  letI s40 : Stmt := _
  letI s41 : Stmt := _
  letI s42 : Stmt := _
  letI s43 : Stmt := _
  letI s44 : Stmt := _
  letI s45 : Stmt := _
  letI s46 : Stmt := _
  letI s47 : Stmt := _
  letI s49 : Stmt := _
  letI s50 : Stmt := _
  letI s51 : Stmt := _
  letI s52 : Stmt := _
  letI s53 : Stmt := _
  letI s54 : Stmt := _
  letI s55 : Stmt := _
  letI s57 : Stmt := _
  letI s58 : Stmt := _
  letI s59 : Stmt := _
  letI s60 : Stmt := _
  letI s61 : Stmt := _
  letI s62 : Stmt := _
  letI s63 : Stmt := _
  letI s64 : Stmt := _
  haveI : PySem.Challenge.pw_pq1455_01.main.body = [_, s1, s2, s3, _, s5, s6, s7, s8, s9, s10, s11, s12, s13, s14, s15, s16, s17, s18, s19, s20, s21, s22, s23, s24, s25, s26, s27, s28, s29, s30, s31, s32, s33, s34, s35, s36, s37, s38, s39, s40, s41, s42, s43, s44, s45, s46, s47, _, s49, s50, s51, s52, s53, s54, s55, _, s57, s58, s59, s60, s61, s62, s63, s64] := rfl
  { PySem.Challenge.rw_pq1455_01.row.prog with main := { PySem.Challenge.rw_pq1455_01.row.prog.main with body := [s1, s2, s3, s5, s6, s7, s8, s9, s10, s11, s12, s13, s14, s15, s16, s17, s18, s19, s20, s21, s22, s23, s24, s25, s26, s27, s28, s29, s30, s31, s32, s33, s34, s35, s36, s37, s38, s39, s40, s41, s42, s43, s44, s45, s46, s47, s49, s50, s51, s52, s53, s54, s55, s57, s58, s59, s60, s61, s62, s63, s64] } }
noncomputable def K : Params → Frag :=
  letI a28 : Arguments := _
  letI b28 : List Stmt := _
  letI c28 : Scope := _
  letI a44 : Arguments := _
  letI b44 : List Stmt := _
  letI c44 : Scope := _
  letI a51 : Arguments := _
  letI b51 : List Stmt := _
  letI c51 : Scope := _
  letI a58 : Arguments := _
  letI b58 : List Stmt := _
  letI c58 : Scope := _
  letI a65 : Arguments := _
  letI b65 : List Stmt := _
  letI c65 : Scope := _
  letI a72 : Arguments := _
  letI b72 : List Stmt := _
  letI c72 : Scope := _
  letI a79 : Arguments := _
  letI b79 : List Stmt := _
  letI c79 : Scope := _
  letI a86 : Arguments := _
  letI b86 : List Stmt := _
  letI c86 : Scope := _
  letI a93 : Arguments := _
  letI b93 : List Stmt := _
  letI c93 : Scope := _
  letI a100 : Arguments := _
  letI b100 : List Stmt := _
  letI c100 : Scope := _
  letI a107 : Arguments := _
  letI b107 : List Stmt := _
  letI c107 : Scope := _
  letI a114 : Arguments := _
  letI b114 : List Stmt := _
  letI c114 : Scope := _
  letI a121 : Arguments := _
  letI b121 : List Stmt := _
  letI c121 : Scope := _
  letI a128 : Arguments := _
  letI b128 : List Stmt := _
  letI c128 : Scope := _
  letI a135 : Arguments := _
  letI b135 : List Stmt := _
  letI c135 : Scope := _
  letI a142 : Arguments := _
  letI b142 : List Stmt := _
  letI c142 : Scope := _
  letI a149 : Arguments := _
  letI b149 : List Stmt := _
  letI c149 : Scope := _
  letI a156 : Arguments := _
  letI b156 : List Stmt := _
  letI c156 : Scope := _
  letI a163 : Arguments := _
  letI b163 : List Stmt := _
  letI c163 : Scope := _
  letI a170 : Arguments := _
  letI b170 : List Stmt := _
  letI c170 : Scope := _
  letI a177 : Arguments := _
  letI b177 : List Stmt := _
  letI c177 : Scope := _
  letI a184 : Arguments := _
  letI b184 : List Stmt := _
  letI c184 : Scope := _
  letI a191 : Arguments := _
  letI b191 : List Stmt := _
  letI c191 : Scope := _
  letI a198 : Arguments := _
  letI b198 : List Stmt := _
  letI c198 : Scope := _
  letI a203 : Arguments := _
  letI b203 : List Stmt := _
  letI c203 : Scope := _
  letI a210 : Arguments := _
  letI b210 : List Stmt := _
  letI c210 : Scope := _
  letI a217 : Arguments := _
  letI b217 : List Stmt := _
  letI c217 : Scope := _
  letI a224 : Arguments := _
  letI b224 : List Stmt := _
  letI c224 : Scope := _
  letI a231 : Arguments := _
  letI b231 : List Stmt := _
  letI c231 : Scope := _
  letI a245 : Arguments := _
  letI b245 : List Stmt := _
  letI c245 : Scope := _
  letI a252 : Arguments := _
  letI b252 : List Stmt := _
  letI c252 : Scope := _
  letI a259 : Arguments := _
  letI b259 : List Stmt := _
  letI c259 : Scope := _
  letI a266 : Arguments := _
  letI b266 : List Stmt := _
  letI c266 : Scope := _
  letI a280 : Arguments := _
  letI b280 : List Stmt := _
  letI c280 : Scope := _
  letI a287 : Arguments := _
  letI b287 : List Stmt := _
  letI c287 : Scope := _
  letI a294 : Arguments := _
  letI b294 : List Stmt := _
  letI c294 : Scope := _
  letI a301 : Arguments := _
  letI b301 : List Stmt := _
  letI c301 : Scope := _
  letI a308 : Arguments := _
  letI b308 : List Stmt := _
  letI c308 : Scope := _
  letI a315 : Arguments := _
  letI b315 : List Stmt := _
  letI c315 : Scope := _
  letI a322 : Arguments := _
  letI b322 : List Stmt := _
  letI c322 : Scope := _
  letI a327 : Arguments := _
  letI b327 : List Stmt := _
  letI c327 : Scope := _
  letI a334 : Arguments := _
  letI b334 : List Stmt := _
  letI c334 : Scope := _
  letI a339 : Arguments := _
  letI b339 : List Stmt := _
  letI c339 : Scope := _
  letI a344 : Arguments := _
  letI b344 : List Stmt := _
  letI c344 : Scope := _
  haveI : (PySem.Challenge.pw_pq1455_01.main.body.drop 3).head? = some (.ClassDef _ _ _ [.FunctionDef _ a28 b28 _ _ _ c28 _ _ _] _ _ _ _ _ _ _) := rfl
  haveI : (PySem.Challenge.pw_pq1455_01.main.body.drop 20).head? = some (.FunctionDef _ a44 b44 _ _ _ c44 _ _ _) := rfl
  haveI : (PySem.Challenge.pw_pq1455_01.main.body.drop 21).head? = some (.FunctionDef _ a51 b51 _ _ _ c51 _ _ _) := rfl
  haveI : (PySem.Challenge.pw_pq1455_01.main.body.drop 22).head? = some (.FunctionDef _ a58 b58 _ _ _ c58 _ _ _) := rfl
  haveI : (PySem.Challenge.pw_pq1455_01.main.body.drop 23).head? = some (.FunctionDef _ a65 b65 _ _ _ c65 _ _ _) := rfl
  haveI : (PySem.Challenge.pw_pq1455_01.main.body.drop 24).head? = some (.FunctionDef _ a72 b72 _ _ _ c72 _ _ _) := rfl
  haveI : (PySem.Challenge.pw_pq1455_01.main.body.drop 25).head? = some (.FunctionDef _ a79 b79 _ _ _ c79 _ _ _) := rfl
  haveI : (PySem.Challenge.pw_pq1455_01.main.body.drop 26).head? = some (.FunctionDef _ a86 b86 _ _ _ c86 _ _ _) := rfl
  haveI : (PySem.Challenge.pw_pq1455_01.main.body.drop 27).head? = some (.FunctionDef _ a93 b93 _ _ _ c93 _ _ _) := rfl
  haveI : (PySem.Challenge.pw_pq1455_01.main.body.drop 28).head? = some (.FunctionDef _ a100 b100 _ _ _ c100 _ _ _) := rfl
  haveI : (PySem.Challenge.pw_pq1455_01.main.body.drop 29).head? = some (.FunctionDef _ a107 b107 _ _ _ c107 _ _ _) := rfl
  haveI : (PySem.Challenge.pw_pq1455_01.main.body.drop 30).head? = some (.FunctionDef _ a114 b114 _ _ _ c114 _ _ _) := rfl
  haveI : (PySem.Challenge.pw_pq1455_01.main.body.drop 31).head? = some (.FunctionDef _ a121 b121 _ _ _ c121 _ _ _) := rfl
  haveI : (PySem.Challenge.pw_pq1455_01.main.body.drop 32).head? = some (.FunctionDef _ a128 b128 _ _ _ c128 _ _ _) := rfl
  haveI : (PySem.Challenge.pw_pq1455_01.main.body.drop 33).head? = some (.FunctionDef _ a135 b135 _ _ _ c135 _ _ _) := rfl
  haveI : (PySem.Challenge.pw_pq1455_01.main.body.drop 34).head? = some (.FunctionDef _ a142 b142 _ _ _ c142 _ _ _) := rfl
  haveI : (PySem.Challenge.pw_pq1455_01.main.body.drop 35).head? = some (.FunctionDef _ a149 b149 _ _ _ c149 _ _ _) := rfl
  haveI : (PySem.Challenge.pw_pq1455_01.main.body.drop 36).head? = some (.FunctionDef _ a156 b156 _ _ _ c156 _ _ _) := rfl
  haveI : (PySem.Challenge.pw_pq1455_01.main.body.drop 37).head? = some (.FunctionDef _ a163 b163 _ _ _ c163 _ _ _) := rfl
  haveI : (PySem.Challenge.pw_pq1455_01.main.body.drop 38).head? = some (.FunctionDef _ a170 b170 _ _ _ c170 _ _ _) := rfl
  haveI : (PySem.Challenge.pw_pq1455_01.main.body.drop 39).head? = some (.FunctionDef _ a177 b177 _ _ _ c177 _ _ _) := rfl
  haveI : (PySem.Challenge.pw_pq1455_01.main.body.drop 40).head? = some (.FunctionDef _ a184 b184 _ _ _ c184 _ _ _) := rfl
  haveI : (PySem.Challenge.pw_pq1455_01.main.body.drop 41).head? = some (.FunctionDef _ a191 b191 _ _ _ c191 _ _ _) := rfl
  haveI : (PySem.Challenge.pw_pq1455_01.main.body.drop 42).head? = some (.FunctionDef _ a198 b198 _ _ _ c198 _ _ _) := rfl
  haveI : (PySem.Challenge.pw_pq1455_01.main.body.drop 43).head? = some (.FunctionDef _ a203 b203 _ _ _ c203 _ _ _) := rfl
  haveI : (PySem.Challenge.pw_pq1455_01.main.body.drop 44).head? = some (.FunctionDef _ a210 b210 _ _ _ c210 _ _ _) := rfl
  haveI : (PySem.Challenge.pw_pq1455_01.main.body.drop 45).head? = some (.FunctionDef _ a217 b217 _ _ _ c217 _ _ _) := rfl
  haveI : (PySem.Challenge.pw_pq1455_01.main.body.drop 46).head? = some (.FunctionDef _ a224 b224 _ _ _ c224 _ _ _) := rfl
  haveI : (PySem.Challenge.pw_pq1455_01.main.body.drop 47).head? = some (.FunctionDef _ a231 b231 _ _ _ c231 _ _ _) := rfl
  haveI : (PySem.Challenge.pw_pq1455_01.main.body.drop 52).head? = some (.ClassDef _ _ _ [.FunctionDef _ a245 b245 _ _ _ c245 _ _ _, .FunctionDef _ a252 b252 _ _ _ c252 _ _ _, .FunctionDef _ a259 b259 _ _ _ c259 _ _ _, .FunctionDef _ a266 b266 _ _ _ c266 _ _ _] _ _ _ _ _ _ _) := rfl
  haveI : (PySem.Challenge.pw_pq1455_01.main.body.drop 53).head? = some (.FunctionDef _ a280 b280 _ _ _ c280 _ _ _) := rfl
  haveI : (PySem.Challenge.pw_pq1455_01.main.body.drop 54).head? = some (.FunctionDef _ a287 b287 _ _ _ c287 _ _ _) := rfl
  haveI : (PySem.Challenge.pw_pq1455_01.main.body.drop 55).head? = some (.FunctionDef _ a294 b294 _ _ _ c294 _ _ _) := rfl
  haveI : (PySem.Challenge.pw_pq1455_01.main.body.drop 57).head? = some (.FunctionDef _ a301 b301 _ _ _ c301 _ _ _) := rfl
  haveI : (PySem.Challenge.pw_pq1455_01.main.body.drop 58).head? = some (.FunctionDef _ a308 b308 _ _ _ c308 _ _ _) := rfl
  haveI : (PySem.Challenge.pw_pq1455_01.main.body.drop 59).head? = some (.FunctionDef _ a315 b315 _ _ _ c315 _ _ _) := rfl
  haveI : (PySem.Challenge.pw_pq1455_01.main.body.drop 60).head? = some (.FunctionDef _ a322 b322 _ _ _ c322 _ _ _) := rfl
  haveI : (PySem.Challenge.pw_pq1455_01.main.body.drop 61).head? = some (.FunctionDef _ a327 b327 _ _ _ c327 _ _ _) := rfl
  haveI : (PySem.Challenge.pw_pq1455_01.main.body.drop 62).head? = some (.FunctionDef _ a334 b334 _ _ _ c334 _ _ _) := rfl
  haveI : (PySem.Challenge.pw_pq1455_01.main.body.drop 63).head? = some (.FunctionDef _ a339 b339 _ _ _ c339 _ _ _) := rfl
  haveI : (PySem.Challenge.pw_pq1455_01.main.body.drop 64).head? = some (.FunctionDef _ a344 b344 _ _ _ c344 _ _ _) := rfl
  fun p =>
  (nat_lit 2, { cls := Value.none, data := Data.dict #[{ hash := PyData.keyHash p (Str.ofString "type.__subclasses__.Exception.0"), key := Value.str (Str.ofString "type.__subclasses__.Exception.0") 218, val := Value.int 31 0 }, { hash := PyData.keyHash p (Str.ofString "type.__subclasses__.Exception.n"), key := Value.str (Str.ofString "type.__subclasses__.Exception.n") 219, val := Value.int 1 0 }] 2 }) ::
   (nat_lit 3, { cls := Value.type "dict", data := Data.dict #[{ hash := PyData.keyHash p (Str.ofString "__name__"), key := Value.str (Str.ofString "__name__") 165, val := Value.str (Str.ofString "law_pq1455_01") 626 }, { hash := PyData.keyHash p (Str.ofString "__doc__"), key := Value.str (Str.ofString "__doc__") 166, val := Value.none }, { hash := PyData.keyHash p (Str.ofString "__package__"), key := Value.str (Str.ofString "__package__") 167, val := Value.none }, { hash := PyData.keyHash p (Str.ofString "__loader__"), key := Value.str (Str.ofString "__loader__") 168, val := Value.builtin "__main__.__loader__#opaque" }, { hash := PyData.keyHash p (Str.ofString "__spec__"), key := Value.str (Str.ofString "__spec__") 169, val := Value.none }, { hash := PyData.keyHash p (Str.ofString "__annotations__"), key := Value.str (Str.ofString "__annotations__") 170, val := Value.ref 6 }, { hash := PyData.keyHash p (Str.ofString "__builtins__"), key := Value.str (Str.ofString "__builtins__") 171, val := Value.ref 4 }, { hash := PyData.keyHash p (Str.ofString "__file__"), key := Value.str (Str.ofString "__file__") 173, val := Value.str (Str.ofString "/claim/cut.py") 172 }, { hash := PyData.keyHash p (Str.ofString "__cached__"), key := Value.str (Str.ofString "__cached__") 174, val := Value.none }, { hash := PyData.keyHash p (Str.ofString "DIGITS"), key := Value.str (Str.ofString "DIGITS") 190, val := Value.str (Str.ofString "0123456789") 189 }, { hash := PyData.keyHash p (Str.ofString "BLANKS"), key := Value.str (Str.ofString "BLANKS") 192, val := Value.str (Str.ofString " \t") 191 }, { hash := PyData.keyHash p (Str.ofString "BasicError"), key := Value.str (Str.ofString "BasicError") 221, val := Value.ref 31 }, { hash := PyData.keyHash p (Str.ofString "LEAST"), key := Value.str (Str.ofString "LEAST") 226, val := Value.int (-32768) 225 }, { hash := PyData.keyHash p (Str.ofString "MOST"), key := Value.str (Str.ofString "MOST") 228, val := Value.int 32767 227 }, { hash := PyData.keyHash p (Str.ofString "MOST_SIGNS"), key := Value.str (Str.ofString "MOST_SIGNS") 230, val := Value.int 255 229 }, { hash := PyData.keyHash p (Str.ofString "MOST_DEPTH"), key := Value.str (Str.ofString "MOST_DEPTH") 232, val := Value.int 40 231 }, { hash := PyData.keyHash p (Str.ofString "END"), key := Value.str (Str.ofString "END") 235, val := Value.ref 35 }, { hash := PyData.keyHash p (Str.ofString "COMPARISONS"), key := Value.str (Str.ofString "COMPARISONS") 242, val := Value.ref 36 }, { hash := PyData.keyHash p (Str.ofString "FUNCTIONS"), key := Value.str (Str.ofString "FUNCTIONS") 255, val := Value.ref 37 }, { hash := PyData.keyHash p (Str.ofString "OR_LEVEL"), key := Value.str (Str.ofString "OR_LEVEL") 257, val := Value.int 1 256 }, { hash := PyData.keyHash p (Str.ofString "AND_LEVEL"), key := Value.str (Str.ofString "AND_LEVEL") 259, val := Value.int 2 258 }, { hash := PyData.keyHash p (Str.ofString "NOT_LEVEL"), key := Value.str (Str.ofString "NOT_LEVEL") 261, val := Value.int 3 260 }, { hash := PyData.keyHash p (Str.ofString "COMPARE_LEVEL"), key := Value.str (Str.ofString "COMPARE_LEVEL") 263, val := Value.int 4 262 }, { hash := PyData.keyHash p (Str.ofString "SUM_LEVEL"), key := Value.str (Str.ofString "SUM_LEVEL") 265, val := Value.int 5 264 }, { hash := PyData.keyHash p (Str.ofString "PRODUCT_LEVEL"), key := Value.str (Str.ofString "PRODUCT_LEVEL") 267, val := Value.int 6 266 }, { hash := PyData.keyHash p (Str.ofString "MINUS_LEVEL"), key := Value.str (Str.ofString "MINUS_LEVEL") 269, val := Value.int 7 268 }, { hash := PyData.keyHash p (Str.ofString "POWER_LEVEL"), key := Value.str (Str.ofString "POWER_LEVEL") 271, val := Value.int 8 270 }, { hash := PyData.keyHash p (Str.ofString "is_text_name"), key := Value.str (Str.ofString "is_text_name") 278, val := Value.ref 44 }, { hash := PyData.keyHash p (Str.ofString "token_at"), key := Value.str (Str.ofString "token_at") 286, val := Value.ref 51 }, { hash := PyData.keyHash p (Str.ofString "expect"), key := Value.str (Str.ofString "expect") 295, val := Value.ref 58 }, { hash := PyData.keyHash p (Str.ofString "fitted"), key := Value.str (Str.ofString "fitted") 302, val := Value.ref 65 }, { hash := PyData.keyHash p (Str.ofString "fitted_text"), key := Value.str (Str.ofString "fitted_text") 309, val := Value.ref 72 }, { hash := PyData.keyHash p (Str.ofString "need_number"), key := Value.str (Str.ofString "need_number") 316, val := Value.ref 79 }, { hash := PyData.keyHash p (Str.ofString "need_text"), key := Value.str (Str.ofString "need_text") 323, val := Value.ref 86 }, { hash := PyData.keyHash p (Str.ofString "need_count"), key := Value.str (Str.ofString "need_count") 331, val := Value.ref 93 }, { hash := PyData.keyHash p (Str.ofString "truth"), key := Value.str (Str.ofString "truth") 338, val := Value.ref 100 }, { hash := PyData.keyHash p (Str.ofString "compared"), key := Value.str (Str.ofString "compared") 347, val := Value.ref 107 }, { hash := PyData.keyHash p (Str.ofString "quotient"), key := Value.str (Str.ofString "quotient") 356, val := Value.ref 114 }, { hash := PyData.keyHash p (Str.ofString "power"), key := Value.str (Str.ofString "power") 366, val := Value.ref 121 }, { hash := PyData.keyHash p (Str.ofString "operated"), key := Value.str (Str.ofString "operated") 375, val := Value.ref 128 }, { hash := PyData.keyHash p (Str.ofString "level_of"), key := Value.str (Str.ofString "level_of") 384, val := Value.ref 135 }, { hash := PyData.keyHash p (Str.ofString "number_text"), key := Value.str (Str.ofString "number_text") 391, val := Value.ref 142 }, { hash := PyData.keyHash p (Str.ofString "value_in"), key := Value.str (Str.ofString "value_in") 401, val := Value.ref 149 }, { hash := PyData.keyHash p (Str.ofString "middle"), key := Value.str (Str.ofString "middle") 411, val := Value.ref 156 }, { hash := PyData.keyHash p (Str.ofString "place_in"), key := Value.str (Str.ofString "place_in") 421, val := Value.ref 163 }, { hash := PyData.keyHash p (Str.ofString "of_text"), key := Value.str (Str.ofString "of_text") 431, val := Value.ref 170 }, { hash := PyData.keyHash p (Str.ofString "of_number"), key := Value.str (Str.ofString "of_number") 440, val := Value.ref 177 }, { hash := PyData.keyHash p (Str.ofString "count_right"), key := Value.str (Str.ofString "count_right") 448, val := Value.ref 184 }, { hash := PyData.keyHash p (Str.ofString "call_of"), key := Value.str (Str.ofString "call_of") 460, val := Value.ref 191 }, { hash := PyData.keyHash p (Str.ofString "values_at"), key := Value.str (Str.ofString "values_at") 472, val := Value.ref 198 }, { hash := PyData.keyHash p (Str.ofString "variable_of"), key := Value.str (Str.ofString "variable_of") 478, val := Value.ref 203 }, { hash := PyData.keyHash p (Str.ofString "turned_value"), key := Value.str (Str.ofString "turned_value") 490, val := Value.ref 210 }, { hash := PyData.keyHash p (Str.ofString "first_value"), key := Value.str (Str.ofString "first_value") 503, val := Value.ref 217 }, { hash := PyData.keyHash p (Str.ofString "bound_value"), key := Value.str (Str.ofString "bound_value") 518, val := Value.ref 224 }, { hash := PyData.keyHash p (Str.ofString "value_of"), key := Value.str (Str.ofString "value_of") 527, val := Value.ref 231 }, { hash := PyData.keyHash p (Str.ofString "USUAL_BOUND"), key := Value.str (Str.ofString "USUAL_BOUND") 531, val := Value.int 10 530 }, { hash := PyData.keyHash p (Str.ofString "MOST_INDEXES"), key := Value.str (Str.ofString "MOST_INDEXES") 533, val := Value.int 3 532 }, { hash := PyData.keyHash p (Str.ofString "MOST_PLACES"), key := Value.str (Str.ofString "MOST_PLACES") 535, val := Value.int 4096 534 }, { hash := PyData.keyHash p (Str.ofString "Store"), key := Value.str (Str.ofString "Store") 594, val := Value.ref 269 }, { hash := PyData.keyHash p (Str.ofString "nothing_of"), key := Value.str (Str.ofString "nothing_of") 601, val := Value.ref 280 }, { hash := PyData.keyHash p (Str.ofString "made_array"), key := Value.str (Str.ofString "made_array") 612, val := Value.ref 287 }, { hash := PyData.keyHash p (Str.ofString "array_place"), key := Value.str (Str.ofString "array_place") 625, val := Value.ref 294 }, { hash := PyData.keyHash p (Str.ofString "_law_next"), key := Value.str (Str.ofString "_law_next") 634, val := Value.ref 301 }, { hash := PyData.keyHash p (Str.ofString "_law_heard"), key := Value.str (Str.ofString "_law_heard") 642, val := Value.ref 308 }, { hash := PyData.keyHash p (Str.ofString "_law_layer"), key := Value.str (Str.ofString "_law_layer") 650, val := Value.ref 315 }, { hash := PyData.keyHash p (Str.ofString "_law_worth"), key := Value.str (Str.ofString "_law_worth") 658, val := Value.ref 322 }, { hash := PyData.keyHash p (Str.ofString "_law_layers_right"), key := Value.str (Str.ofString "_law_layers_right") 664, val := Value.ref 327 }, { hash := PyData.keyHash p (Str.ofString "_law_bare_right"), key := Value.str (Str.ofString "_law_bare_right") 674, val := Value.ref 334 }, { hash := PyData.keyHash p (Str.ofString "_law_sum_right"), key := Value.str (Str.ofString "_law_sum_right") 680, val := Value.ref 339 }, { hash := PyData.keyHash p (Str.ofString "law"), key := Value.str (Str.ofString "law") 686, val := Value.ref 344 }] 70 }) ::
   (nat_lit 15, { cls := Value.type "tuple", data := Data.seq #[Value.type "Exception"] }) ::
   (nat_lit 22, { cls := Value.type "tuple", data := Data.seq #[] }) ::
   (nat_lit 24, { cls := Value.type "tuple", data := Data.seq #[Value.str (Str.ofString "self") 208, Value.str (Str.ofString "kind") 209] }) ::
   (nat_lit 25, { cls := Value.type "tuple", data := Data.seq #[] }) ::
   (nat_lit 27, { cls := Value.type "code", data := Data.fields #[Value.str (Str.ofString "__init__") 205, Value.str (Str.ofString "BasicError.__init__") 206, Value.str (Str.ofString "/claim/cut.py") 207, Value.int 6 0, Value.int 2 0, Value.int 0 0, Value.int 0 0, Value.int 3 0, Value.ref 22, Value.bool true, Value.int 181 0, Value.ref 23, Value.none, Value.ref 24, Value.ref 25, Value.ref 26, Value.int 210 0, Value.int 6 0, Value.str (Str.ofString "/claim/cut.py") 211] }) ::
   (nat_lit 28, { cls := Value.type "function", data := Data.func { name := Str.ofString "__init__", qualname := Str.ofString "BasicError.__init__", params := a28, body := FuncBody.stmts b28, scope := c28, globals := 3, closure := [], defaults := Value.none, kwdefaults := Value.none, pyModule := Value.str (Str.ofString "z80.btokens") 187, code := Value.ref 27 } }) ::
   (nat_lit 29, { cls := Value.type "tuple", data := Data.seq #[Value.str (Str.ofString "kind") 213] }) ::
   (nat_lit 30, { cls := Value.type "dict", data := Data.dict #[{ hash := PyData.keyHash p (Str.ofString "__module__"), key := Value.str (Str.ofString "__module__") 200, val := Value.str (Str.ofString "z80.btokens") 187 }, { hash := PyData.keyHash p (Str.ofString "__firstlineno__"), key := Value.str (Str.ofString "__firstlineno__") 204, val := Value.int 4 203 }, { hash := PyData.keyHash p (Str.ofString "__init__"), key := Value.str (Str.ofString "__init__") 212, val := Value.ref 28 }, { hash := PyData.keyHash p (Str.ofString "__static_attributes__"), key := Value.str (Str.ofString "__static_attributes__") 214, val := Value.ref 29 }, { hash := PyData.keyHash p (Str.ofString "__weakref__"), key := Value.str (Str.ofString "__weakref__") 216, val := Value.ref 32 }, { hash := PyData.keyHash p (Str.ofString "__doc__"), key := Value.str (Str.ofString "__doc__") 217, val := Value.none }] 3 }) ::
   (nat_lit 31, { cls := Value.type "type", data := Data.cls { name := Str.ofString "BasicError", bases := [Value.type "Exception"], mro := [Value.ref 31, Value.type "Exception", Value.type "BaseException", Value.type "object"], ns := 30, qualname := Str.ofString "BasicError" }, slots := #[some (Value.ref 15), none, some (Value.str (Str.ofString "BasicError") 193), some (Value.str (Str.ofString "BasicError") 201), some (Value.builtin "Exception.__new__"), some (Value.bool true)] }) ::
   (nat_lit 32, { cls := Value.type "getset_descriptor", data := Data.fields #[Value.str (Str.ofString "__weakref__") 215, Value.ref 31, Value.builtin "ExceptionGroup.__weakref__", Value.none] }) ::
   (nat_lit 35, { cls := Value.type "tuple", data := Data.seq #[Value.str (Str.ofString "end") 233, Value.str (Str.ofString "") 234] }) ::
   (nat_lit 36, { cls := Value.type "tuple", data := Data.seq #[Value.str (Str.ofString "=") 236, Value.str (Str.ofString "<>") 237, Value.str (Str.ofString "<") 238, Value.str (Str.ofString ">") 239, Value.str (Str.ofString "<=") 240, Value.str (Str.ofString ">=") 241] }) ::
   (nat_lit 37, { cls := Value.type "tuple", data := Data.seq #[Value.str (Str.ofString "SGN") 243, Value.str (Str.ofString "ABS") 244, Value.str (Str.ofString "LEN") 245, Value.str (Str.ofString "STR$") 246, Value.str (Str.ofString "VAL") 247, Value.str (Str.ofString "ASC") 248, Value.str (Str.ofString "CHR$") 249, Value.str (Str.ofString "LEFT$") 250, Value.str (Str.ofString "RIGHT$") 251, Value.str (Str.ofString "MID$") 252, Value.str (Str.ofString "RND") 253, Value.str (Str.ofString "INSTR") 254] }) ::
   (nat_lit 38, { cls := Value.type "tuple", data := Data.seq #[] }) ::
   (nat_lit 40, { cls := Value.type "tuple", data := Data.seq #[Value.str (Str.ofString "name") 275] }) ::
   (nat_lit 41, { cls := Value.type "tuple", data := Data.seq #[] }) ::
   (nat_lit 43, { cls := Value.type "code", data := Data.fields #[Value.str (Str.ofString "is_text_name") 272, Value.str (Str.ofString "is_text_name") 273, Value.str (Str.ofString "/claim/cut.py") 274, Value.int 24 0, Value.int 1 0, Value.int 0 0, Value.int 0 0, Value.int 3 0, Value.ref 38, Value.bool true, Value.int 181 0, Value.ref 39, Value.none, Value.ref 40, Value.ref 41, Value.ref 42, Value.int 276 0, Value.int 24 0, Value.str (Str.ofString "/claim/cut.py") 277] }) ::
   (nat_lit 44, { cls := Value.type "function", data := Data.func { name := Str.ofString "is_text_name", qualname := Str.ofString "is_text_name", params := a44, body := FuncBody.stmts b44, scope := c44, globals := 3, closure := [], defaults := Value.none, kwdefaults := Value.none, pyModule := Value.str (Str.ofString "z80.bexpr") 222, code := Value.ref 43 } }) ::
   (nat_lit 45, { cls := Value.type "tuple", data := Data.seq #[] }) ::
   (nat_lit 47, { cls := Value.type "tuple", data := Data.seq #[Value.str (Str.ofString "tokens") 282, Value.str (Str.ofString "at") 283] }) ::
   (nat_lit 48, { cls := Value.type "tuple", data := Data.seq #[] }) ::
   (nat_lit 50, { cls := Value.type "code", data := Data.fields #[Value.str (Str.ofString "token_at") 279, Value.str (Str.ofString "token_at") 280, Value.str (Str.ofString "/claim/cut.py") 281, Value.int 26 0, Value.int 2 0, Value.int 0 0, Value.int 0 0, Value.int 3 0, Value.ref 45, Value.bool true, Value.int 181 0, Value.ref 46, Value.none, Value.ref 47, Value.ref 48, Value.ref 49, Value.int 284 0, Value.int 26 0, Value.str (Str.ofString "/claim/cut.py") 285] }) ::
   (nat_lit 51, { cls := Value.type "function", data := Data.func { name := Str.ofString "token_at", qualname := Str.ofString "token_at", params := a51, body := FuncBody.stmts b51, scope := c51, globals := 3, closure := [], defaults := Value.none, kwdefaults := Value.none, pyModule := Value.str (Str.ofString "z80.bexpr") 222, code := Value.ref 50 } }) ::
   (nat_lit 52, { cls := Value.type "tuple", data := Data.seq #[] }) ::
   (nat_lit 54, { cls := Value.type "tuple", data := Data.seq #[Value.str (Str.ofString "tokens") 290, Value.str (Str.ofString "at") 291, Value.str (Str.ofString "sign") 292] }) ::
   (nat_lit 55, { cls := Value.type "tuple", data := Data.seq #[] }) ::
   (nat_lit 57, { cls := Value.type "code", data := Data.fields #[Value.str (Str.ofString "expect") 287, Value.str (Str.ofString "expect") 288, Value.str (Str.ofString "/claim/cut.py") 289, Value.int 28 0, Value.int 3 0, Value.int 0 0, Value.int 0 0, Value.int 3 0, Value.ref 52, Value.bool true, Value.int 181 0, Value.ref 53, Value.none, Value.ref 54, Value.ref 55, Value.ref 56, Value.int 293 0, Value.int 28 0, Value.str (Str.ofString "/claim/cut.py") 294] }) ::
   (nat_lit 58, { cls := Value.type "function", data := Data.func { name := Str.ofString "expect", qualname := Str.ofString "expect", params := a58, body := FuncBody.stmts b58, scope := c58, globals := 3, closure := [], defaults := Value.none, kwdefaults := Value.none, pyModule := Value.str (Str.ofString "z80.bexpr") 222, code := Value.ref 57 } }) ::
   (nat_lit 59, { cls := Value.type "tuple", data := Data.seq #[] }) ::
   (nat_lit 61, { cls := Value.type "tuple", data := Data.seq #[Value.str (Str.ofString "number") 299] }) ::
   (nat_lit 62, { cls := Value.type "tuple", data := Data.seq #[] }) ::
   (nat_lit 64, { cls := Value.type "code", data := Data.fields #[Value.str (Str.ofString "fitted") 296, Value.str (Str.ofString "fitted") 297, Value.str (Str.ofString "/claim/cut.py") 298, Value.int 32 0, Value.int 1 0, Value.int 0 0, Value.int 0 0, Value.int 3 0, Value.ref 59, Value.bool true, Value.int 181 0, Value.ref 60, Value.none, Value.ref 61, Value.ref 62, Value.ref 63, Value.int 300 0, Value.int 32 0, Value.str (Str.ofString "/claim/cut.py") 301] }) ::
   (nat_lit 65, { cls := Value.type "function", data := Data.func { name := Str.ofString "fitted", qualname := Str.ofString "fitted", params := a65, body := FuncBody.stmts b65, scope := c65, globals := 3, closure := [], defaults := Value.none, kwdefaults := Value.none, pyModule := Value.str (Str.ofString "z80.bexpr") 222, code := Value.ref 64 } }) ::
   (nat_lit 66, { cls := Value.type "tuple", data := Data.seq #[] }) ::
   (nat_lit 68, { cls := Value.type "tuple", data := Data.seq #[Value.str (Str.ofString "text") 306] }) ::
   (nat_lit 69, { cls := Value.type "tuple", data := Data.seq #[] }) ::
   (nat_lit 71, { cls := Value.type "code", data := Data.fields #[Value.str (Str.ofString "fitted_text") 303, Value.str (Str.ofString "fitted_text") 304, Value.str (Str.ofString "/claim/cut.py") 305, Value.int 36 0, Value.int 1 0, Value.int 0 0, Value.int 0 0, Value.int 3 0, Value.ref 66, Value.bool true, Value.int 181 0, Value.ref 67, Value.none, Value.ref 68, Value.ref 69, Value.ref 70, Value.int 307 0, Value.int 36 0, Value.str (Str.ofString "/claim/cut.py") 308] }) ::
   (nat_lit 72, { cls := Value.type "function", data := Data.func { name := Str.ofString "fitted_text", qualname := Str.ofString "fitted_text", params := a72, body := FuncBody.stmts b72, scope := c72, globals := 3, closure := [], defaults := Value.none, kwdefaults := Value.none, pyModule := Value.str (Str.ofString "z80.bexpr") 222, code := Value.ref 71 } }) ::
   (nat_lit 73, { cls := Value.type "tuple", data := Data.seq #[] }) ::
   (nat_lit 75, { cls := Value.type "tuple", data := Data.seq #[Value.str (Str.ofString "value") 313] }) ::
   (nat_lit 76, { cls := Value.type "tuple", data := Data.seq #[] }) ::
   (nat_lit 78, { cls := Value.type "code", data := Data.fields #[Value.str (Str.ofString "need_number") 310, Value.str (Str.ofString "need_number") 311, Value.str (Str.ofString "/claim/cut.py") 312, Value.int 40 0, Value.int 1 0, Value.int 0 0, Value.int 0 0, Value.int 3 0, Value.ref 73, Value.bool true, Value.int 181 0, Value.ref 74, Value.none, Value.ref 75, Value.ref 76, Value.ref 77, Value.int 314 0, Value.int 40 0, Value.str (Str.ofString "/claim/cut.py") 315] }) ::
   (nat_lit 79, { cls := Value.type "function", data := Data.func { name := Str.ofString "need_number", qualname := Str.ofString "need_number", params := a79, body := FuncBody.stmts b79, scope := c79, globals := 3, closure := [], defaults := Value.none, kwdefaults := Value.none, pyModule := Value.str (Str.ofString "z80.bexpr") 222, code := Value.ref 78 } }) ::
   (nat_lit 80, { cls := Value.type "tuple", data := Data.seq #[] }) ::
   (nat_lit 82, { cls := Value.type "tuple", data := Data.seq #[Value.str (Str.ofString "value") 320] }) ::
   (nat_lit 83, { cls := Value.type "tuple", data := Data.seq #[] }) ::
   (nat_lit 85, { cls := Value.type "code", data := Data.fields #[Value.str (Str.ofString "need_text") 317, Value.str (Str.ofString "need_text") 318, Value.str (Str.ofString "/claim/cut.py") 319, Value.int 44 0, Value.int 1 0, Value.int 0 0, Value.int 0 0, Value.int 3 0, Value.ref 80, Value.bool true, Value.int 181 0, Value.ref 81, Value.none, Value.ref 82, Value.ref 83, Value.ref 84, Value.int 321 0, Value.int 44 0, Value.str (Str.ofString "/claim/cut.py") 322] }) ::
   (nat_lit 86, { cls := Value.type "function", data := Data.func { name := Str.ofString "need_text", qualname := Str.ofString "need_text", params := a86, body := FuncBody.stmts b86, scope := c86, globals := 3, closure := [], defaults := Value.none, kwdefaults := Value.none, pyModule := Value.str (Str.ofString "z80.bexpr") 222, code := Value.ref 85 } }) ::
   (nat_lit 87, { cls := Value.type "tuple", data := Data.seq #[] }) ::
   (nat_lit 89, { cls := Value.type "tuple", data := Data.seq #[Value.str (Str.ofString "value") 327, Value.str (Str.ofString "least") 328] }) ::
   (nat_lit 90, { cls := Value.type "tuple", data := Data.seq #[] }) ::
   (nat_lit 92, { cls := Value.type "code", data := Data.fields #[Value.str (Str.ofString "need_count") 324, Value.str (Str.ofString "need_count") 325, Value.str (Str.ofString "/claim/cut.py") 326, Value.int 48 0, Value.int 2 0, Value.int 0 0, Value.int 0 0, Value.int 3 0, Value.ref 87, Value.bool true, Value.int 181 0, Value.ref 88, Value.none, Value.ref 89, Value.ref 90, Value.ref 91, Value.int 329 0, Value.int 48 0, Value.str (Str.ofString "/claim/cut.py") 330] }) ::
   (nat_lit 93, { cls := Value.type "function", data := Data.func { name := Str.ofString "need_count", qualname := Str.ofString "need_count", params := a93, body := FuncBody.stmts b93, scope := c93, globals := 3, closure := [], defaults := Value.none, kwdefaults := Value.none, pyModule := Value.str (Str.ofString "z80.bexpr") 222, code := Value.ref 92 } }) ::
   (nat_lit 94, { cls := Value.type "tuple", data := Data.seq #[] }) ::
   (nat_lit 96, { cls := Value.type "tuple", data := Data.seq #[Value.str (Str.ofString "is_so") 335] }) ::
   (nat_lit 97, { cls := Value.type "tuple", data := Data.seq #[] }) ::
   (nat_lit 99, { cls := Value.type "code", data := Data.fields #[Value.str (Str.ofString "truth") 332, Value.str (Str.ofString "truth") 333, Value.str (Str.ofString "/claim/cut.py") 334, Value.int 52 0, Value.int 1 0, Value.int 0 0, Value.int 0 0, Value.int 3 0, Value.ref 94, Value.bool true, Value.int 181 0, Value.ref 95, Value.none, Value.ref 96, Value.ref 97, Value.ref 98, Value.int 336 0, Value.int 52 0, Value.str (Str.ofString "/claim/cut.py") 337] }) ::
   (nat_lit 100, { cls := Value.type "function", data := Data.func { name := Str.ofString "truth", qualname := Str.ofString "truth", params := a100, body := FuncBody.stmts b100, scope := c100, globals := 3, closure := [], defaults := Value.none, kwdefaults := Value.none, pyModule := Value.str (Str.ofString "z80.bexpr") 222, code := Value.ref 99 } }) ::
   (nat_lit 101, { cls := Value.type "tuple", data := Data.seq #[] }) ::
   (nat_lit 103, { cls := Value.type "tuple", data := Data.seq #[Value.str (Str.ofString "sign") 342, Value.str (Str.ofString "one") 343, Value.str (Str.ofString "other") 344] }) ::
   (nat_lit 104, { cls := Value.type "tuple", data := Data.seq #[] }) ::
   (nat_lit 106, { cls := Value.type "code", data := Data.fields #[Value.str (Str.ofString "compared") 339, Value.str (Str.ofString "compared") 340, Value.str (Str.ofString "/claim/cut.py") 341, Value.int 54 0, Value.int 3 0, Value.int 0 0, Value.int 0 0, Value.int 3 0, Value.ref 101, Value.bool true, Value.int 181 0, Value.ref 102, Value.none, Value.ref 103, Value.ref 104, Value.ref 105, Value.int 345 0, Value.int 54 0, Value.str (Str.ofString "/claim/cut.py") 346] }) ::
   (nat_lit 107, { cls := Value.type "function", data := Data.func { name := Str.ofString "compared", qualname := Str.ofString "compared", params := a107, body := FuncBody.stmts b107, scope := c107, globals := 3, closure := [], defaults := Value.none, kwdefaults := Value.none, pyModule := Value.str (Str.ofString "z80.bexpr") 222, code := Value.ref 106 } }) ::
   (nat_lit 108, { cls := Value.type "tuple", data := Data.seq #[] }) ::
   (nat_lit 110, { cls := Value.type "tuple", data := Data.seq #[Value.str (Str.ofString "one") 351, Value.str (Str.ofString "other") 352, Value.str (Str.ofString "found") 353] }) ::
   (nat_lit 111, { cls := Value.type "tuple", data := Data.seq #[] }) ::
   (nat_lit 113, { cls := Value.type "code", data := Data.fields #[Value.str (Str.ofString "quotient") 348, Value.str (Str.ofString "quotient") 349, Value.str (Str.ofString "/claim/cut.py") 350, Value.int 62 0, Value.int 2 0, Value.int 0 0, Value.int 0 0, Value.int 3 0, Value.ref 108, Value.bool true, Value.int 181 0, Value.ref 109, Value.none, Value.ref 110, Value.ref 111, Value.ref 112, Value.int 354 0, Value.int 62 0, Value.str (Str.ofString "/claim/cut.py") 355] }) ::
   (nat_lit 114, { cls := Value.type "function", data := Data.func { name := Str.ofString "quotient", qualname := Str.ofString "quotient", params := a114, body := FuncBody.stmts b114, scope := c114, globals := 3, closure := [], defaults := Value.none, kwdefaults := Value.none, pyModule := Value.str (Str.ofString "z80.bexpr") 222, code := Value.ref 113 } }) ::
   (nat_lit 115, { cls := Value.type "tuple", data := Data.seq #[] }) ::
   (nat_lit 117, { cls := Value.type "tuple", data := Data.seq #[Value.str (Str.ofString "one") 360, Value.str (Str.ofString "many") 361, Value.str (Str.ofString "found") 362, Value.str (Str.ofString "turn") 363] }) ::
   (nat_lit 118, { cls := Value.type "tuple", data := Data.seq #[] }) ::
   (nat_lit 120, { cls := Value.type "code", data := Data.fields #[Value.str (Str.ofString "power") 357, Value.str (Str.ofString "power") 358, Value.str (Str.ofString "/claim/cut.py") 359, Value.int 67 0, Value.int 2 0, Value.int 0 0, Value.int 0 0, Value.int 3 0, Value.ref 115, Value.bool true, Value.int 181 0, Value.ref 116, Value.none, Value.ref 117, Value.ref 118, Value.ref 119, Value.int 364 0, Value.int 67 0, Value.str (Str.ofString "/claim/cut.py") 365] }) ::
   (nat_lit 121, { cls := Value.type "function", data := Data.func { name := Str.ofString "power", qualname := Str.ofString "power", params := a121, body := FuncBody.stmts b121, scope := c121, globals := 3, closure := [], defaults := Value.none, kwdefaults := Value.none, pyModule := Value.str (Str.ofString "z80.bexpr") 222, code := Value.ref 120 } }) ::
   (nat_lit 122, { cls := Value.type "tuple", data := Data.seq #[] }) ::
   (nat_lit 124, { cls := Value.type "tuple", data := Data.seq #[Value.str (Str.ofString "sign") 370, Value.str (Str.ofString "one") 371, Value.str (Str.ofString "other") 372] }) ::
   (nat_lit 125, { cls := Value.type "tuple", data := Data.seq #[] }) ::
   (nat_lit 127, { cls := Value.type "code", data := Data.fields #[Value.str (Str.ofString "operated") 367, Value.str (Str.ofString "operated") 368, Value.str (Str.ofString "/claim/cut.py") 369, Value.int 76 0, Value.int 3 0, Value.int 0 0, Value.int 0 0, Value.int 3 0, Value.ref 122, Value.bool true, Value.int 181 0, Value.ref 123, Value.none, Value.ref 124, Value.ref 125, Value.ref 126, Value.int 373 0, Value.int 76 0, Value.str (Str.ofString "/claim/cut.py") 374] }) ::
   (nat_lit 128, { cls := Value.type "function", data := Data.func { name := Str.ofString "operated", qualname := Str.ofString "operated", params := a128, body := FuncBody.stmts b128, scope := c128, globals := 3, closure := [], defaults := Value.none, kwdefaults := Value.none, pyModule := Value.str (Str.ofString "z80.bexpr") 222, code := Value.ref 127 } }) ::
   (nat_lit 129, { cls := Value.type "tuple", data := Data.seq #[] }) ::
   (nat_lit 131, { cls := Value.type "tuple", data := Data.seq #[Value.str (Str.ofString "token") 379, Value.str (Str.ofString "kind") 380, Value.str (Str.ofString "value") 381] }) ::
   (nat_lit 132, { cls := Value.type "tuple", data := Data.seq #[] }) ::
   (nat_lit 134, { cls := Value.type "code", data := Data.fields #[Value.str (Str.ofString "level_of") 376, Value.str (Str.ofString "level_of") 377, Value.str (Str.ofString "/claim/cut.py") 378, Value.int 95 0, Value.int 1 0, Value.int 0 0, Value.int 0 0, Value.int 3 0, Value.ref 129, Value.bool true, Value.int 181 0, Value.ref 130, Value.none, Value.ref 131, Value.ref 132, Value.ref 133, Value.int 382 0, Value.int 95 0, Value.str (Str.ofString "/claim/cut.py") 383] }) ::
   (nat_lit 135, { cls := Value.type "function", data := Data.func { name := Str.ofString "level_of", qualname := Str.ofString "level_of", params := a135, body := FuncBody.stmts b135, scope := c135, globals := 3, closure := [], defaults := Value.none, kwdefaults := Value.none, pyModule := Value.str (Str.ofString "z80.bexpr") 222, code := Value.ref 134 } }) ::
   (nat_lit 136, { cls := Value.type "tuple", data := Data.seq #[] }) ::
   (nat_lit 138, { cls := Value.type "tuple", data := Data.seq #[Value.str (Str.ofString "number") 388] }) ::
   (nat_lit 139, { cls := Value.type "tuple", data := Data.seq #[] }) ::
   (nat_lit 141, { cls := Value.type "code", data := Data.fields #[Value.str (Str.ofString "number_text") 385, Value.str (Str.ofString "number_text") 386, Value.str (Str.ofString "/claim/cut.py") 387, Value.int 104 0, Value.int 1 0, Value.int 0 0, Value.int 0 0, Value.int 3 0, Value.ref 136, Value.bool true, Value.int 181 0, Value.ref 137, Value.none, Value.ref 138, Value.ref 139, Value.ref 140, Value.int 389 0, Value.int 104 0, Value.str (Str.ofString "/claim/cut.py") 390] }) ::
   (nat_lit 142, { cls := Value.type "function", data := Data.func { name := Str.ofString "number_text", qualname := Str.ofString "number_text", params := a142, body := FuncBody.stmts b142, scope := c142, globals := 3, closure := [], defaults := Value.none, kwdefaults := Value.none, pyModule := Value.str (Str.ofString "z80.bexpr") 222, code := Value.ref 141 } }) ::
   (nat_lit 143, { cls := Value.type "tuple", data := Data.seq #[] }) ::
   (nat_lit 145, { cls := Value.type "tuple", data := Data.seq #[Value.str (Str.ofString "text") 395, Value.str (Str.ofString "at") 396, Value.str (Str.ofString "is_below") 397, Value.str (Str.ofString "found") 398] }) ::
   (nat_lit 146, { cls := Value.type "tuple", data := Data.seq #[] }) ::
   (nat_lit 148, { cls := Value.type "code", data := Data.fields #[Value.str (Str.ofString "value_in") 392, Value.str (Str.ofString "value_in") 393, Value.str (Str.ofString "/claim/cut.py") 394, Value.int 106 0, Value.int 1 0, Value.int 0 0, Value.int 0 0, Value.int 3 0, Value.ref 143, Value.bool true, Value.int 181 0, Value.ref 144, Value.none, Value.ref 145, Value.ref 146, Value.ref 147, Value.int 399 0, Value.int 106 0, Value.str (Str.ofString "/claim/cut.py") 400] }) ::
   (nat_lit 149, { cls := Value.type "function", data := Data.func { name := Str.ofString "value_in", qualname := Str.ofString "value_in", params := a149, body := FuncBody.stmts b149, scope := c149, globals := 3, closure := [], defaults := Value.none, kwdefaults := Value.none, pyModule := Value.str (Str.ofString "z80.bexpr") 222, code := Value.ref 148 } }) ::
   (nat_lit 150, { cls := Value.type "tuple", data := Data.seq #[] }) ::
   (nat_lit 152, { cls := Value.type "tuple", data := Data.seq #[Value.str (Str.ofString "args") 405, Value.str (Str.ofString "text") 406, Value.str (Str.ofString "place") 407, Value.str (Str.ofString "many") 408] }) ::
   (nat_lit 153, { cls := Value.type "tuple", data := Data.seq #[] }) ::
   (nat_lit 155, { cls := Value.type "code", data := Data.fields #[Value.str (Str.ofString "middle") 402, Value.str (Str.ofString "middle") 403, Value.str (Str.ofString "/claim/cut.py") 404, Value.int 120 0, Value.int 1 0, Value.int 0 0, Value.int 0 0, Value.int 3 0, Value.ref 150, Value.bool true, Value.int 181 0, Value.ref 151, Value.none, Value.ref 152, Value.ref 153, Value.ref 154, Value.int 409 0, Value.int 120 0, Value.str (Str.ofString "/claim/cut.py") 410] }) ::
   (nat_lit 156, { cls := Value.type "function", data := Data.func { name := Str.ofString "middle", qualname := Str.ofString "middle", params := a156, body := FuncBody.stmts b156, scope := c156, globals := 3, closure := [], defaults := Value.none, kwdefaults := Value.none, pyModule := Value.str (Str.ofString "z80.bexpr") 222, code := Value.ref 155 } }) ::
   (nat_lit 157, { cls := Value.type "tuple", data := Data.seq #[] }) ::
   (nat_lit 159, { cls := Value.type "tuple", data := Data.seq #[Value.str (Str.ofString "args") 415, Value.str (Str.ofString "begin") 416, Value.str (Str.ofString "text") 417, Value.str (Str.ofString "sought") 418] }) ::
   (nat_lit 160, { cls := Value.type "tuple", data := Data.seq #[] }) ::
   (nat_lit 162, { cls := Value.type "code", data := Data.fields #[Value.str (Str.ofString "place_in") 412, Value.str (Str.ofString "place_in") 413, Value.str (Str.ofString "/claim/cut.py") 414, Value.int 124 0, Value.int 1 0, Value.int 0 0, Value.int 0 0, Value.int 3 0, Value.ref 157, Value.bool true, Value.int 181 0, Value.ref 158, Value.none, Value.ref 159, Value.ref 160, Value.ref 161, Value.int 419 0, Value.int 124 0, Value.str (Str.ofString "/claim/cut.py") 420] }) ::
   (nat_lit 163, { cls := Value.type "function", data := Data.func { name := Str.ofString "place_in", qualname := Str.ofString "place_in", params := a163, body := FuncBody.stmts b163, scope := c163, globals := 3, closure := [], defaults := Value.none, kwdefaults := Value.none, pyModule := Value.str (Str.ofString "z80.bexpr") 222, code := Value.ref 162 } }) ::
   (nat_lit 164, { cls := Value.type "tuple", data := Data.seq #[] }) ::
   (nat_lit 166, { cls := Value.type "tuple", data := Data.seq #[Value.str (Str.ofString "word") 425, Value.str (Str.ofString "args") 426, Value.str (Str.ofString "text") 427, Value.str (Str.ofString "many") 428] }) ::
   (nat_lit 167, { cls := Value.type "tuple", data := Data.seq #[] }) ::
   (nat_lit 169, { cls := Value.type "code", data := Data.fields #[Value.str (Str.ofString "of_text") 422, Value.str (Str.ofString "of_text") 423, Value.str (Str.ofString "/claim/cut.py") 424, Value.int 130 0, Value.int 2 0, Value.int 0 0, Value.int 0 0, Value.int 3 0, Value.ref 164, Value.bool true, Value.int 181 0, Value.ref 165, Value.none, Value.ref 166, Value.ref 167, Value.ref 168, Value.int 429 0, Value.int 130 0, Value.str (Str.ofString "/claim/cut.py") 430] }) ::
   (nat_lit 170, { cls := Value.type "function", data := Data.func { name := Str.ofString "of_text", qualname := Str.ofString "of_text", params := a170, body := FuncBody.stmts b170, scope := c170, globals := 3, closure := [], defaults := Value.none, kwdefaults := Value.none, pyModule := Value.str (Str.ofString "z80.bexpr") 222, code := Value.ref 169 } }) ::
   (nat_lit 171, { cls := Value.type "tuple", data := Data.seq #[] }) ::
   (nat_lit 173, { cls := Value.type "tuple", data := Data.seq #[Value.str (Str.ofString "word") 435, Value.str (Str.ofString "number") 436, Value.str (Str.ofString "store") 437] }) ::
   (nat_lit 174, { cls := Value.type "tuple", data := Data.seq #[] }) ::
   (nat_lit 176, { cls := Value.type "code", data := Data.fields #[Value.str (Str.ofString "of_number") 432, Value.str (Str.ofString "of_number") 433, Value.str (Str.ofString "/claim/cut.py") 434, Value.int 146 0, Value.int 3 0, Value.int 0 0, Value.int 0 0, Value.int 3 0, Value.ref 171, Value.bool true, Value.int 181 0, Value.ref 172, Value.none, Value.ref 173, Value.ref 174, Value.ref 175, Value.int 438 0, Value.int 146 0, Value.str (Str.ofString "/claim/cut.py") 439] }) ::
   (nat_lit 177, { cls := Value.type "function", data := Data.func { name := Str.ofString "of_number", qualname := Str.ofString "of_number", params := a177, body := FuncBody.stmts b177, scope := c177, globals := 3, closure := [], defaults := Value.none, kwdefaults := Value.none, pyModule := Value.str (Str.ofString "z80.bexpr") 222, code := Value.ref 176 } }) ::
   (nat_lit 178, { cls := Value.type "tuple", data := Data.seq #[] }) ::
   (nat_lit 180, { cls := Value.type "tuple", data := Data.seq #[Value.str (Str.ofString "word") 444, Value.str (Str.ofString "many") 445] }) ::
   (nat_lit 181, { cls := Value.type "tuple", data := Data.seq #[] }) ::
   (nat_lit 183, { cls := Value.type "code", data := Data.fields #[Value.str (Str.ofString "count_right") 441, Value.str (Str.ofString "count_right") 442, Value.str (Str.ofString "/claim/cut.py") 443, Value.int 157 0, Value.int 2 0, Value.int 0 0, Value.int 0 0, Value.int 3 0, Value.ref 178, Value.bool true, Value.int 181 0, Value.ref 179, Value.none, Value.ref 180, Value.ref 181, Value.ref 182, Value.int 446 0, Value.int 157 0, Value.str (Str.ofString "/claim/cut.py") 447] }) ::
   (nat_lit 184, { cls := Value.type "function", data := Data.func { name := Str.ofString "count_right", qualname := Str.ofString "count_right", params := a184, body := FuncBody.stmts b184, scope := c184, globals := 3, closure := [], defaults := Value.none, kwdefaults := Value.none, pyModule := Value.str (Str.ofString "z80.bexpr") 222, code := Value.ref 183 } }) ::
   (nat_lit 185, { cls := Value.type "tuple", data := Data.seq #[] }) ::
   (nat_lit 187, { cls := Value.type "tuple", data := Data.seq #[Value.str (Str.ofString "tokens") 452, Value.str (Str.ofString "at") 453, Value.str (Str.ofString "store") 454, Value.str (Str.ofString "depth") 455, Value.str (Str.ofString "word") 456, Value.str (Str.ofString "args") 457] }) ::
   (nat_lit 188, { cls := Value.type "tuple", data := Data.seq #[] }) ::
   (nat_lit 190, { cls := Value.type "code", data := Data.fields #[Value.str (Str.ofString "call_of") 449, Value.str (Str.ofString "call_of") 450, Value.str (Str.ofString "/claim/cut.py") 451, Value.int 161 0, Value.int 4 0, Value.int 0 0, Value.int 0 0, Value.int 3 0, Value.ref 185, Value.bool true, Value.int 181 0, Value.ref 186, Value.none, Value.ref 187, Value.ref 188, Value.ref 189, Value.int 458 0, Value.int 161 0, Value.str (Str.ofString "/claim/cut.py") 459] }) ::
   (nat_lit 191, { cls := Value.type "function", data := Data.func { name := Str.ofString "call_of", qualname := Str.ofString "call_of", params := a191, body := FuncBody.stmts b191, scope := c191, globals := 3, closure := [], defaults := Value.none, kwdefaults := Value.none, pyModule := Value.str (Str.ofString "z80.bexpr") 222, code := Value.ref 190 } }) ::
   (nat_lit 192, { cls := Value.type "tuple", data := Data.seq #[] }) ::
   (nat_lit 194, { cls := Value.type "tuple", data := Data.seq #[Value.str (Str.ofString "tokens") 464, Value.str (Str.ofString "at") 465, Value.str (Str.ofString "store") 466, Value.str (Str.ofString "depth") 467, Value.str (Str.ofString "value") 468, Value.str (Str.ofString "found") 469] }) ::
   (nat_lit 195, { cls := Value.type "tuple", data := Data.seq #[] }) ::
   (nat_lit 197, { cls := Value.type "code", data := Data.fields #[Value.str (Str.ofString "values_at") 461, Value.str (Str.ofString "values_at") 462, Value.str (Str.ofString "/claim/cut.py") 463, Value.int 169 0, Value.int 4 0, Value.int 0 0, Value.int 0 0, Value.int 3 0, Value.ref 192, Value.bool true, Value.int 181 0, Value.ref 193, Value.none, Value.ref 194, Value.ref 195, Value.ref 196, Value.int 470 0, Value.int 169 0, Value.str (Str.ofString "/claim/cut.py") 471] }) ::
   (nat_lit 198, { cls := Value.type "function", data := Data.func { name := Str.ofString "values_at", qualname := Str.ofString "values_at", params := a198, body := FuncBody.stmts b198, scope := c198, globals := 3, closure := [], defaults := Value.none, kwdefaults := Value.none, pyModule := Value.str (Str.ofString "z80.bexpr") 222, code := Value.ref 197 } }) ::
   (nat_lit 199, { cls := Value.type "tuple", data := Data.seq #[] }) ::
   (nat_lit 202, { cls := Value.type "code", data := Data.fields #[Value.str (Str.ofString "variable_of") 473, Value.str (Str.ofString "variable_of") 474, Value.str (Str.ofString "/claim/cut.py") 475, Value.int 177 0, Value.int 4 0, Value.int 0 0, Value.int 0 0, Value.int 3 0, Value.ref 199, Value.bool true, Value.int 181 0, Value.ref 200, Value.none, Value.none, Value.none, Value.ref 201, Value.int 476 0, Value.int 177 0, Value.str (Str.ofString "/claim/cut.py") 477] }) ::
   (nat_lit 203, { cls := Value.type "function", data := Data.func { name := Str.ofString "variable_of", qualname := Str.ofString "variable_of", params := a203, body := FuncBody.stmts b203, scope := c203, globals := 3, closure := [], defaults := Value.none, kwdefaults := Value.none, pyModule := Value.str (Str.ofString "z80.bexpr") 222, code := Value.ref 202 } }) ::
   (nat_lit 204, { cls := Value.type "tuple", data := Data.seq #[] }) ::
   (nat_lit 206, { cls := Value.type "tuple", data := Data.seq #[Value.str (Str.ofString "tokens") 482, Value.str (Str.ofString "at") 483, Value.str (Str.ofString "store") 484, Value.str (Str.ofString "depth") 485, Value.str (Str.ofString "value") 486, Value.str (Str.ofString "found") 487] }) ::
   (nat_lit 207, { cls := Value.type "tuple", data := Data.seq #[] }) ::
   (nat_lit 209, { cls := Value.type "code", data := Data.fields #[Value.str (Str.ofString "turned_value") 479, Value.str (Str.ofString "turned_value") 480, Value.str (Str.ofString "/claim/cut.py") 481, Value.int 183 0, Value.int 4 0, Value.int 0 0, Value.int 0 0, Value.int 3 0, Value.ref 204, Value.bool true, Value.int 181 0, Value.ref 205, Value.none, Value.ref 206, Value.ref 207, Value.ref 208, Value.int 488 0, Value.int 183 0, Value.str (Str.ofString "/claim/cut.py") 489] }) ::
   (nat_lit 210, { cls := Value.type "function", data := Data.func { name := Str.ofString "turned_value", qualname := Str.ofString "turned_value", params := a210, body := FuncBody.stmts b210, scope := c210, globals := 3, closure := [], defaults := Value.none, kwdefaults := Value.none, pyModule := Value.str (Str.ofString "z80.bexpr") 222, code := Value.ref 209 } }) ::
   (nat_lit 211, { cls := Value.type "tuple", data := Data.seq #[] }) ::
   (nat_lit 213, { cls := Value.type "tuple", data := Data.seq #[Value.str (Str.ofString "tokens") 494, Value.str (Str.ofString "at") 495, Value.str (Str.ofString "store") 496, Value.str (Str.ofString "depth") 497, Value.str (Str.ofString "kind") 498, Value.str (Str.ofString "value") 499, Value.str (Str.ofString "found") 500] }) ::
   (nat_lit 214, { cls := Value.type "tuple", data := Data.seq #[] }) ::
   (nat_lit 216, { cls := Value.type "code", data := Data.fields #[Value.str (Str.ofString "first_value") 491, Value.str (Str.ofString "first_value") 492, Value.str (Str.ofString "/claim/cut.py") 493, Value.int 190 0, Value.int 4 0, Value.int 0 0, Value.int 0 0, Value.int 3 0, Value.ref 211, Value.bool true, Value.int 181 0, Value.ref 212, Value.none, Value.ref 213, Value.ref 214, Value.ref 215, Value.int 501 0, Value.int 190 0, Value.str (Str.ofString "/claim/cut.py") 502] }) ::
   (nat_lit 217, { cls := Value.type "function", data := Data.func { name := Str.ofString "first_value", qualname := Str.ofString "first_value", params := a217, body := FuncBody.stmts b217, scope := c217, globals := 3, closure := [], defaults := Value.none, kwdefaults := Value.none, pyModule := Value.str (Str.ofString "z80.bexpr") 222, code := Value.ref 216 } }) ::
   (nat_lit 218, { cls := Value.type "tuple", data := Data.seq #[] }) ::
   (nat_lit 220, { cls := Value.type "tuple", data := Data.seq #[Value.str (Str.ofString "tokens") 507, Value.str (Str.ofString "at") 508, Value.str (Str.ofString "level") 509, Value.str (Str.ofString "store") 510, Value.str (Str.ofString "depth") 511, Value.str (Str.ofString "found") 512, Value.str (Str.ofString "here") 513, Value.str (Str.ofString "sign") 514, Value.str (Str.ofString "other") 515] }) ::
   (nat_lit 221, { cls := Value.type "tuple", data := Data.seq #[] }) ::
   (nat_lit 223, { cls := Value.type "code", data := Data.fields #[Value.str (Str.ofString "bound_value") 504, Value.str (Str.ofString "bound_value") 505, Value.str (Str.ofString "/claim/cut.py") 506, Value.int 208 0, Value.int 5 0, Value.int 0 0, Value.int 0 0, Value.int 3 0, Value.ref 218, Value.bool true, Value.int 181 0, Value.ref 219, Value.none, Value.ref 220, Value.ref 221, Value.ref 222, Value.int 516 0, Value.int 208 0, Value.str (Str.ofString "/claim/cut.py") 517] }) ::
   (nat_lit 224, { cls := Value.type "function", data := Data.func { name := Str.ofString "bound_value", qualname := Str.ofString "bound_value", params := a224, body := FuncBody.stmts b224, scope := c224, globals := 3, closure := [], defaults := Value.none, kwdefaults := Value.none, pyModule := Value.str (Str.ofString "z80.bexpr") 222, code := Value.ref 223 } }) ::
   (nat_lit 225, { cls := Value.type "tuple", data := Data.seq #[] }) ::
   (nat_lit 227, { cls := Value.type "tuple", data := Data.seq #[Value.str (Str.ofString "tokens") 522, Value.str (Str.ofString "at") 523, Value.str (Str.ofString "store") 524] }) ::
   (nat_lit 228, { cls := Value.type "tuple", data := Data.seq #[] }) ::
   (nat_lit 230, { cls := Value.type "code", data := Data.fields #[Value.str (Str.ofString "value_of") 519, Value.str (Str.ofString "value_of") 520, Value.str (Str.ofString "/claim/cut.py") 521, Value.int 217 0, Value.int 3 0, Value.int 0 0, Value.int 0 0, Value.int 3 0, Value.ref 225, Value.bool true, Value.int 181 0, Value.ref 226, Value.none, Value.ref 227, Value.ref 228, Value.ref 229, Value.int 525 0, Value.int 217 0, Value.str (Str.ofString "/claim/cut.py") 526] }) ::
   (nat_lit 231, { cls := Value.type "function", data := Data.func { name := Str.ofString "value_of", qualname := Str.ofString "value_of", params := a231, body := FuncBody.stmts b231, scope := c231, globals := 3, closure := [], defaults := Value.none, kwdefaults := Value.none, pyModule := Value.str (Str.ofString "z80.bexpr") 222, code := Value.ref 230 } }) ::
   (nat_lit 239, { cls := Value.type "tuple", data := Data.seq #[] }) ::
   (nat_lit 241, { cls := Value.type "tuple", data := Data.seq #[Value.str (Str.ofString "self") 551, Value.str (Str.ofString "randoms") 552] }) ::
   (nat_lit 242, { cls := Value.type "tuple", data := Data.seq #[] }) ::
   (nat_lit 244, { cls := Value.type "code", data := Data.fields #[Value.str (Str.ofString "__init__") 548, Value.str (Str.ofString "Store.__init__") 549, Value.str (Str.ofString "/claim/cut.py") 550, Value.int 225 0, Value.int 2 0, Value.int 0 0, Value.int 0 0, Value.int 3 0, Value.ref 239, Value.bool true, Value.int 181 0, Value.ref 240, Value.none, Value.ref 241, Value.ref 242, Value.ref 243, Value.int 553 0, Value.int 225 0, Value.str (Str.ofString "/claim/cut.py") 554] }) ::
   (nat_lit 245, { cls := Value.type "function", data := Data.func { name := Str.ofString "__init__", qualname := Str.ofString "Store.__init__", params := a245, body := FuncBody.stmts b245, scope := c245, globals := 3, closure := [], defaults := Value.none, kwdefaults := Value.none, pyModule := Value.str (Str.ofString "z80.bstore") 528, code := Value.ref 244 } }) ::
   (nat_lit 246, { cls := Value.type "tuple", data := Data.seq #[] }) ::
   (nat_lit 248, { cls := Value.type "tuple", data := Data.seq #[Value.str (Str.ofString "self") 559, Value.str (Str.ofString "name") 560] }) ::
   (nat_lit 249, { cls := Value.type "tuple", data := Data.seq #[] }) ::
   (nat_lit 251, { cls := Value.type "code", data := Data.fields #[Value.str (Str.ofString "read") 556, Value.str (Str.ofString "Store.read") 557, Value.str (Str.ofString "/claim/cut.py") 558, Value.int 231 0, Value.int 2 0, Value.int 0 0, Value.int 0 0, Value.int 3 0, Value.ref 246, Value.bool true, Value.int 181 0, Value.ref 247, Value.none, Value.ref 248, Value.ref 249, Value.ref 250, Value.int 561 0, Value.int 231 0, Value.str (Str.ofString "/claim/cut.py") 562] }) ::
   (nat_lit 252, { cls := Value.type "function", data := Data.func { name := Str.ofString "read", qualname := Str.ofString "Store.read", params := a252, body := FuncBody.stmts b252, scope := c252, globals := 3, closure := [], defaults := Value.none, kwdefaults := Value.none, pyModule := Value.str (Str.ofString "z80.bstore") 528, code := Value.ref 251 } }) ::
   (nat_lit 253, { cls := Value.type "tuple", data := Data.seq #[] }) ::
   (nat_lit 255, { cls := Value.type "tuple", data := Data.seq #[Value.str (Str.ofString "self") 567, Value.str (Str.ofString "name") 568, Value.str (Str.ofString "indexes") 569, Value.str (Str.ofString "at") 570] }) ::
   (nat_lit 256, { cls := Value.type "tuple", data := Data.seq #[] }) ::
   (nat_lit 258, { cls := Value.type "code", data := Data.fields #[Value.str (Str.ofString "element") 564, Value.str (Str.ofString "Store.element") 565, Value.str (Str.ofString "/claim/cut.py") 566, Value.int 234 0, Value.int 3 0, Value.int 0 0, Value.int 0 0, Value.int 3 0, Value.ref 253, Value.bool true, Value.int 181 0, Value.ref 254, Value.none, Value.ref 255, Value.ref 256, Value.ref 257, Value.int 571 0, Value.int 234 0, Value.str (Str.ofString "/claim/cut.py") 572] }) ::
   (nat_lit 259, { cls := Value.type "function", data := Data.func { name := Str.ofString "element", qualname := Str.ofString "Store.element", params := a259, body := FuncBody.stmts b259, scope := c259, globals := 3, closure := [], defaults := Value.none, kwdefaults := Value.none, pyModule := Value.str (Str.ofString "z80.bstore") 528, code := Value.ref 258 } }) ::
   (nat_lit 260, { cls := Value.type "tuple", data := Data.seq #[] }) ::
   (nat_lit 262, { cls := Value.type "tuple", data := Data.seq #[Value.str (Str.ofString "self") 577, Value.str (Str.ofString "number") 578, Value.str (Str.ofString "found") 579] }) ::
   (nat_lit 263, { cls := Value.type "tuple", data := Data.seq #[] }) ::
   (nat_lit 265, { cls := Value.type "code", data := Data.fields #[Value.str (Str.ofString "random") 574, Value.str (Str.ofString "Store.random") 575, Value.str (Str.ofString "/claim/cut.py") 576, Value.int 238 0, Value.int 2 0, Value.int 0 0, Value.int 0 0, Value.int 3 0, Value.ref 260, Value.bool true, Value.int 181 0, Value.ref 261, Value.none, Value.ref 262, Value.ref 263, Value.ref 264, Value.int 580 0, Value.int 238 0, Value.str (Str.ofString "/claim/cut.py") 581] }) ::
   (nat_lit 266, { cls := Value.type "function", data := Data.func { name := Str.ofString "random", qualname := Str.ofString "Store.random", params := a266, body := FuncBody.stmts b266, scope := c266, globals := 3, closure := [], defaults := Value.none, kwdefaults := Value.none, pyModule := Value.str (Str.ofString "z80.bstore") 528, code := Value.ref 265 } }) ::
   (nat_lit 267, { cls := Value.type "tuple", data := Data.seq #[Value.str (Str.ofString "arrays") 583, Value.str (Str.ofString "randoms") 584, Value.str (Str.ofString "spot") 585, Value.str (Str.ofString "values") 586] }) ::
   (nat_lit 268, { cls := Value.type "dict", data := Data.dict #[{ hash := PyData.keyHash p (Str.ofString "__module__"), key := Value.str (Str.ofString "__module__") 543, val := Value.str (Str.ofString "z80.bstore") 528 }, { hash := PyData.keyHash p (Str.ofString "__firstlineno__"), key := Value.str (Str.ofString "__firstlineno__") 547, val := Value.int 223 546 }, { hash := PyData.keyHash p (Str.ofString "__init__"), key := Value.str (Str.ofString "__init__") 555, val := Value.ref 245 }, { hash := PyData.keyHash p (Str.ofString "read"), key := Value.str (Str.ofString "read") 563, val := Value.ref 252 }, { hash := PyData.keyHash p (Str.ofString "element"), key := Value.str (Str.ofString "element") 573, val := Value.ref 259 }, { hash := PyData.keyHash p (Str.ofString "random"), key := Value.str (Str.ofString "random") 582, val := Value.ref 266 }, { hash := PyData.keyHash p (Str.ofString "__static_attributes__"), key := Value.str (Str.ofString "__static_attributes__") 587, val := Value.ref 267 }, { hash := PyData.keyHash p (Str.ofString "__dict__"), key := Value.str (Str.ofString "__dict__") 589, val := Value.ref 270 }, { hash := PyData.keyHash p (Str.ofString "__weakref__"), key := Value.str (Str.ofString "__weakref__") 591, val := Value.ref 271 }, { hash := PyData.keyHash p (Str.ofString "__doc__"), key := Value.str (Str.ofString "__doc__") 592, val := Value.none }] 4 }) ::
   (nat_lit 269, { cls := Value.type "type", data := Data.cls { name := Str.ofString "Store", bases := [Value.type "object"], mro := [Value.ref 269, Value.type "object"], ns := 268, qualname := Str.ofString "Store" }, slots := #[none, none, some (Value.str (Str.ofString "Store") 536), some (Value.str (Str.ofString "Store") 544), some (Value.builtin "object.__new__"), some (Value.bool true)] }) ::
   (nat_lit 270, { cls := Value.type "getset_descriptor", data := Data.fields #[Value.str (Str.ofString "__dict__") 588, Value.ref 269, Value.builtin "function.__dict__", Value.builtin "function.__dict__#set"] }) ::
   (nat_lit 271, { cls := Value.type "getset_descriptor", data := Data.fields #[Value.str (Str.ofString "__weakref__") 590, Value.ref 269, Value.builtin "ExceptionGroup.__weakref__", Value.none] }) ::
   (nat_lit 274, { cls := Value.type "tuple", data := Data.seq #[] }) ::
   (nat_lit 276, { cls := Value.type "tuple", data := Data.seq #[Value.str (Str.ofString "name") 598] }) ::
   (nat_lit 277, { cls := Value.type "tuple", data := Data.seq #[] }) ::
   (nat_lit 279, { cls := Value.type "code", data := Data.fields #[Value.str (Str.ofString "nothing_of") 595, Value.str (Str.ofString "nothing_of") 596, Value.str (Str.ofString "/claim/cut.py") 597, Value.int 246 0, Value.int 1 0, Value.int 0 0, Value.int 0 0, Value.int 3 0, Value.ref 274, Value.bool true, Value.int 181 0, Value.ref 275, Value.none, Value.ref 276, Value.ref 277, Value.ref 278, Value.int 599 0, Value.int 246 0, Value.str (Str.ofString "/claim/cut.py") 600] }) ::
   (nat_lit 280, { cls := Value.type "function", data := Data.func { name := Str.ofString "nothing_of", qualname := Str.ofString "nothing_of", params := a280, body := FuncBody.stmts b280, scope := c280, globals := 3, closure := [], defaults := Value.none, kwdefaults := Value.none, pyModule := Value.str (Str.ofString "z80.bstore") 528, code := Value.ref 279 } }) ::
   (nat_lit 281, { cls := Value.type "tuple", data := Data.seq #[] }) ::
   (nat_lit 283, { cls := Value.type "tuple", data := Data.seq #[Value.str (Str.ofString "store") 605, Value.str (Str.ofString "name") 606, Value.str (Str.ofString "bounds") 607, Value.str (Str.ofString "many") 608, Value.str (Str.ofString "bound") 609] }) ::
   (nat_lit 284, { cls := Value.type "tuple", data := Data.seq #[] }) ::
   (nat_lit 286, { cls := Value.type "code", data := Data.fields #[Value.str (Str.ofString "made_array") 602, Value.str (Str.ofString "made_array") 603, Value.str (Str.ofString "/claim/cut.py") 604, Value.int 248 0, Value.int 3 0, Value.int 0 0, Value.int 0 0, Value.int 3 0, Value.ref 281, Value.bool true, Value.int 181 0, Value.ref 282, Value.none, Value.ref 283, Value.ref 284, Value.ref 285, Value.int 610 0, Value.int 248 0, Value.str (Str.ofString "/claim/cut.py") 611] }) ::
   (nat_lit 287, { cls := Value.type "function", data := Data.func { name := Str.ofString "made_array", qualname := Str.ofString "made_array", params := a287, body := FuncBody.stmts b287, scope := c287, globals := 3, closure := [], defaults := Value.none, kwdefaults := Value.none, pyModule := Value.str (Str.ofString "z80.bstore") 528, code := Value.ref 286 } }) ::
   (nat_lit 288, { cls := Value.type "tuple", data := Data.seq #[] }) ::
   (nat_lit 290, { cls := Value.type "tuple", data := Data.seq #[Value.str (Str.ofString "store") 616, Value.str (Str.ofString "name") 617, Value.str (Str.ofString "indexes") 618, Value.str (Str.ofString "bounds") 619, Value.str (Str.ofString "found") 620, Value.str (Str.ofString "bound") 621, Value.str (Str.ofString "index") 622] }) ::
   (nat_lit 291, { cls := Value.type "tuple", data := Data.seq #[] }) ::
   (nat_lit 293, { cls := Value.type "code", data := Data.fields #[Value.str (Str.ofString "array_place") 613, Value.str (Str.ofString "array_place") 614, Value.str (Str.ofString "/claim/cut.py") 615, Value.int 257 0, Value.int 3 0, Value.int 0 0, Value.int 0 0, Value.int 3 0, Value.ref 288, Value.bool true, Value.int 181 0, Value.ref 289, Value.none, Value.ref 290, Value.ref 291, Value.ref 292, Value.int 623 0, Value.int 257 0, Value.str (Str.ofString "/claim/cut.py") 624] }) ::
   (nat_lit 294, { cls := Value.type "function", data := Data.func { name := Str.ofString "array_place", qualname := Str.ofString "array_place", params := a294, body := FuncBody.stmts b294, scope := c294, globals := 3, closure := [], defaults := Value.none, kwdefaults := Value.none, pyModule := Value.str (Str.ofString "z80.bstore") 528, code := Value.ref 293 } }) ::
   (nat_lit 295, { cls := Value.type "tuple", data := Data.seq #[] }) ::
   (nat_lit 297, { cls := Value.type "tuple", data := Data.seq #[Value.str (Str.ofString "cells") 631] }) ::
   (nat_lit 298, { cls := Value.type "tuple", data := Data.seq #[] }) ::
   (nat_lit 300, { cls := Value.type "code", data := Data.fields #[Value.str (Str.ofString "_law_next") 628, Value.str (Str.ofString "_law_next") 629, Value.str (Str.ofString "/claim/cut.py") 630, Value.int 270 0, Value.int 1 0, Value.int 0 0, Value.int 0 0, Value.int 3 0, Value.ref 295, Value.bool true, Value.int 181 0, Value.ref 296, Value.none, Value.ref 297, Value.ref 298, Value.ref 299, Value.int 632 0, Value.int 270 0, Value.str (Str.ofString "/claim/cut.py") 633] }) ::
   (nat_lit 301, { cls := Value.type "function", data := Data.func { name := Str.ofString "_law_next", qualname := Str.ofString "_law_next", params := a301, body := FuncBody.stmts b301, scope := c301, globals := 3, closure := [], defaults := Value.none, kwdefaults := Value.none, pyModule := Value.str (Str.ofString "law_pq1455_01") 626, code := Value.ref 300 } }) ::
   (nat_lit 302, { cls := Value.type "tuple", data := Data.seq #[] }) ::
   (nat_lit 304, { cls := Value.type "tuple", data := Data.seq #[Value.str (Str.ofString "row") 638, Value.str (Str.ofString "wrong") 639] }) ::
   (nat_lit 305, { cls := Value.type "tuple", data := Data.seq #[] }) ::
   (nat_lit 307, { cls := Value.type "code", data := Data.fields #[Value.str (Str.ofString "_law_heard") 635, Value.str (Str.ofString "_law_heard") 636, Value.str (Str.ofString "/claim/cut.py") 637, Value.int 272 0, Value.int 1 0, Value.int 0 0, Value.int 0 0, Value.int 3 0, Value.ref 302, Value.bool true, Value.int 181 0, Value.ref 303, Value.none, Value.ref 304, Value.ref 305, Value.ref 306, Value.int 640 0, Value.int 272 0, Value.str (Str.ofString "/claim/cut.py") 641] }) ::
   (nat_lit 308, { cls := Value.type "function", data := Data.func { name := Str.ofString "_law_heard", qualname := Str.ofString "_law_heard", params := a308, body := FuncBody.stmts b308, scope := c308, globals := 3, closure := [], defaults := Value.none, kwdefaults := Value.none, pyModule := Value.str (Str.ofString "law_pq1455_01") 626, code := Value.ref 307 } }) ::
   (nat_lit 309, { cls := Value.type "tuple", data := Data.seq #[] }) ::
   (nat_lit 311, { cls := Value.type "tuple", data := Data.seq #[Value.str (Str.ofString "kind") 646, Value.str (Str.ofString "ahead") 647] }) ::
   (nat_lit 312, { cls := Value.type "tuple", data := Data.seq #[] }) ::
   (nat_lit 314, { cls := Value.type "code", data := Data.fields #[Value.str (Str.ofString "_law_layer") 643, Value.str (Str.ofString "_law_layer") 644, Value.str (Str.ofString "/claim/cut.py") 645, Value.int 277 0, Value.int 1 0, Value.int 0 0, Value.int 0 0, Value.int 3 0, Value.ref 309, Value.bool true, Value.int 181 0, Value.ref 310, Value.none, Value.ref 311, Value.ref 312, Value.ref 313, Value.int 648 0, Value.int 277 0, Value.str (Str.ofString "/claim/cut.py") 649] }) ::
   (nat_lit 315, { cls := Value.type "function", data := Data.func { name := Str.ofString "_law_layer", qualname := Str.ofString "_law_layer", params := a315, body := FuncBody.stmts b315, scope := c315, globals := 3, closure := [], defaults := Value.none, kwdefaults := Value.none, pyModule := Value.str (Str.ofString "law_pq1455_01") 626, code := Value.ref 314 } }) ::
   (nat_lit 316, { cls := Value.type "tuple", data := Data.seq #[] }) ::
   (nat_lit 318, { cls := Value.type "tuple", data := Data.seq #[Value.str (Str.ofString "kind") 654, Value.str (Str.ofString "value") 655] }) ::
   (nat_lit 319, { cls := Value.type "tuple", data := Data.seq #[] }) ::
   (nat_lit 321, { cls := Value.type "code", data := Data.fields #[Value.str (Str.ofString "_law_worth") 651, Value.str (Str.ofString "_law_worth") 652, Value.str (Str.ofString "/claim/cut.py") 653, Value.int 282 0, Value.int 2 0, Value.int 0 0, Value.int 0 0, Value.int 3 0, Value.ref 316, Value.bool true, Value.int 181 0, Value.ref 317, Value.none, Value.ref 318, Value.ref 319, Value.ref 320, Value.int 656 0, Value.int 282 0, Value.str (Str.ofString "/claim/cut.py") 657] }) ::
   (nat_lit 322, { cls := Value.type "function", data := Data.func { name := Str.ofString "_law_worth", qualname := Str.ofString "_law_worth", params := a322, body := FuncBody.stmts b322, scope := c322, globals := 3, closure := [], defaults := Value.none, kwdefaults := Value.none, pyModule := Value.str (Str.ofString "law_pq1455_01") 626, code := Value.ref 321 } }) ::
   (nat_lit 323, { cls := Value.type "tuple", data := Data.seq #[] }) ::
   (nat_lit 326, { cls := Value.type "code", data := Data.fields #[Value.str (Str.ofString "_law_layers_right") 659, Value.str (Str.ofString "_law_layers_right") 660, Value.str (Str.ofString "/claim/cut.py") 661, Value.int 288 0, Value.int 2 0, Value.int 0 0, Value.int 0 0, Value.int 3 0, Value.ref 323, Value.bool true, Value.int 181 0, Value.ref 324, Value.none, Value.none, Value.none, Value.ref 325, Value.int 662 0, Value.int 288 0, Value.str (Str.ofString "/claim/cut.py") 663] }) ::
   (nat_lit 327, { cls := Value.type "function", data := Data.func { name := Str.ofString "_law_layers_right", qualname := Str.ofString "_law_layers_right", params := a327, body := FuncBody.stmts b327, scope := c327, globals := 3, closure := [], defaults := Value.none, kwdefaults := Value.none, pyModule := Value.str (Str.ofString "law_pq1455_01") 626, code := Value.ref 326 } }) ::
   (nat_lit 328, { cls := Value.type "tuple", data := Data.seq #[] }) ::
   (nat_lit 330, { cls := Value.type "tuple", data := Data.seq #[Value.str (Str.ofString "many") 668, Value.str (Str.ofString "due") 669, Value.str (Str.ofString "sign") 670, Value.str (Str.ofString "row") 671] }) ::
   (nat_lit 331, { cls := Value.type "tuple", data := Data.seq #[] }) ::
   (nat_lit 333, { cls := Value.type "code", data := Data.fields #[Value.str (Str.ofString "_law_bare_right") 665, Value.str (Str.ofString "_law_bare_right") 666, Value.str (Str.ofString "/claim/cut.py") 667, Value.int 296 0, Value.int 1 0, Value.int 0 0, Value.int 0 0, Value.int 3 0, Value.ref 328, Value.bool true, Value.int 181 0, Value.ref 329, Value.none, Value.ref 330, Value.ref 331, Value.ref 332, Value.int 672 0, Value.int 296 0, Value.str (Str.ofString "/claim/cut.py") 673] }) ::
   (nat_lit 334, { cls := Value.type "function", data := Data.func { name := Str.ofString "_law_bare_right", qualname := Str.ofString "_law_bare_right", params := a334, body := FuncBody.stmts b334, scope := c334, globals := 3, closure := [], defaults := Value.none, kwdefaults := Value.none, pyModule := Value.str (Str.ofString "law_pq1455_01") 626, code := Value.ref 333 } }) ::
   (nat_lit 335, { cls := Value.type "tuple", data := Data.seq #[] }) ::
   (nat_lit 338, { cls := Value.type "code", data := Data.fields #[Value.str (Str.ofString "_law_sum_right") 675, Value.str (Str.ofString "_law_sum_right") 676, Value.str (Str.ofString "/claim/cut.py") 677, Value.int 303 0, Value.int 2 0, Value.int 0 0, Value.int 0 0, Value.int 3 0, Value.ref 335, Value.bool true, Value.int 181 0, Value.ref 336, Value.none, Value.none, Value.none, Value.ref 337, Value.int 678 0, Value.int 303 0, Value.str (Str.ofString "/claim/cut.py") 679] }) ::
   (nat_lit 339, { cls := Value.type "function", data := Data.func { name := Str.ofString "_law_sum_right", qualname := Str.ofString "_law_sum_right", params := a339, body := FuncBody.stmts b339, scope := c339, globals := 3, closure := [], defaults := Value.none, kwdefaults := Value.none, pyModule := Value.str (Str.ofString "law_pq1455_01") 626, code := Value.ref 338 } }) ::
   (nat_lit 340, { cls := Value.type "tuple", data := Data.seq #[] }) ::
   (nat_lit 343, { cls := Value.type "code", data := Data.fields #[Value.str (Str.ofString "law") 681, Value.str (Str.ofString "law") 682, Value.str (Str.ofString "/claim/cut.py") 683, Value.int 310 0, Value.int 1 0, Value.int 0 0, Value.int 0 0, Value.int 3 0, Value.ref 340, Value.bool true, Value.int 181 0, Value.ref 341, Value.none, Value.none, Value.none, Value.ref 342, Value.int 684 0, Value.int 310 0, Value.str (Str.ofString "/claim/cut.py") 685] }) ::
   (nat_lit 344, { cls := Value.type "function", data := Data.func { name := Str.ofString "law", qualname := Str.ofString "law", params := a344, body := FuncBody.stmts b344, scope := c344, globals := 3, closure := [], defaults := Value.none, kwdefaults := Value.none, pyModule := Value.str (Str.ofString "law_pq1455_01") 626, code := Value.ref 343 } }) :: []
def ks : List Addr := 2 :: 3 :: 15 :: 22 :: 24 :: 25 :: 27 :: 28 :: 29 :: 30 :: 31 :: 32 :: 35 :: 36 :: 37 :: 38 :: 40 :: 41 :: 43 :: 44 :: 45 :: 47 :: 48 :: 50 :: 51 :: 52 :: 54 :: 55 :: 57 :: 58 :: 59 :: 61 :: 62 :: 64 :: 65 :: 66 :: 68 :: 69 :: 71 :: 72 :: 73 :: 75 :: 76 :: 78 :: 79 :: 80 :: 82 :: 83 :: 85 :: 86 :: 87 :: 89 :: 90 :: 92 :: 93 :: 94 :: 96 :: 97 :: 99 :: 100 :: 101 :: 103 :: 104 :: 106 :: 107 :: 108 :: 110 :: 111 :: 113 :: 114 :: 115 :: 117 :: 118 :: 120 :: 121 :: 122 :: 124 :: 125 :: 127 :: 128 :: 129 :: 131 :: 132 :: 134 :: 135 :: 136 :: 138 :: 139 :: 141 :: 142 :: 143 :: 145 :: 146 :: 148 :: 149 :: 150 :: 152 :: 153 :: 155 :: 156 :: 157 :: 159 :: 160 :: 162 :: 163 :: 164 :: 166 :: 167 :: 169 :: 170 :: 171 :: 173 :: 174 :: 176 :: 177 :: 178 :: 180 :: 181 :: 183 :: 184 :: 185 :: 187 :: 188 :: 190 :: 191 :: 192 :: 194 :: 195 :: 197 :: 198 :: 199 :: 202 :: 203 :: 204 :: 206 :: 207 :: 209 :: 210 :: 211 :: 213 :: 214 :: 216 :: 217 :: 218 :: 220 :: 221 :: 223 :: 224 :: 225 :: 227 :: 228 :: 230 :: 231 :: 239 :: 241 :: 242 :: 244 :: 245 :: 246 :: 248 :: 249 :: 251 :: 252 :: 253 :: 255 :: 256 :: 258 :: 259 :: 260 :: 262 :: 263 :: 265 :: 266 :: 267 :: 268 :: 269 :: 270 :: 271 :: 274 :: 276 :: 277 :: 279 :: 280 :: 281 :: 283 :: 284 :: 286 :: 287 :: 288 :: 290 :: 291 :: 293 :: 294 :: 295 :: 297 :: 298 :: 300 :: 301 :: 302 :: 304 :: 305 :: 307 :: 308 :: 309 :: 311 :: 312 :: 314 :: 315 :: 316 :: 318 :: 319 :: 321 :: 322 :: 323 :: 326 :: 327 :: 328 :: 330 :: 331 :: 333 :: 334 :: 335 :: 338 :: 339 :: 340 :: 343 :: 344 :: []
noncomputable def objs1 : Params → List Obj :=
  letI a28 : Arguments := _
  letI b28 : List Stmt := _
  letI c28 : Scope := _
  letI a44 : Arguments := _
  letI b44 : List Stmt := _
  letI c44 : Scope := _
  letI a51 : Arguments := _
  letI b51 : List Stmt := _
  letI c51 : Scope := _
  letI a58 : Arguments := _
  letI b58 : List Stmt := _
  letI c58 : Scope := _
  letI a65 : Arguments := _
  letI b65 : List Stmt := _
  letI c65 : Scope := _
  letI a72 : Arguments := _
  letI b72 : List Stmt := _
  letI c72 : Scope := _
  letI a79 : Arguments := _
  letI b79 : List Stmt := _
  letI c79 : Scope := _
  letI a86 : Arguments := _
  letI b86 : List Stmt := _
  letI c86 : Scope := _
  letI a93 : Arguments := _
  letI b93 : List Stmt := _
  letI c93 : Scope := _
  letI a100 : Arguments := _
  letI b100 : List Stmt := _
  letI c100 : Scope := _
  letI a107 : Arguments := _
  letI b107 : List Stmt := _
  letI c107 : Scope := _
  letI a114 : Arguments := _
  letI b114 : List Stmt := _
  letI c114 : Scope := _
  letI a121 : Arguments := _
  letI b121 : List Stmt := _
  letI c121 : Scope := _
  letI a128 : Arguments := _
  letI b128 : List Stmt := _
  letI c128 : Scope := _
  letI a135 : Arguments := _
  letI b135 : List Stmt := _
  letI c135 : Scope := _
  letI a142 : Arguments := _
  letI b142 : List Stmt := _
  letI c142 : Scope := _
  letI a149 : Arguments := _
  letI b149 : List Stmt := _
  letI c149 : Scope := _
  letI a156 : Arguments := _
  letI b156 : List Stmt := _
  letI c156 : Scope := _
  letI a163 : Arguments := _
  letI b163 : List Stmt := _
  letI c163 : Scope := _
  letI a170 : Arguments := _
  letI b170 : List Stmt := _
  letI c170 : Scope := _
  letI a177 : Arguments := _
  letI b177 : List Stmt := _
  letI c177 : Scope := _
  letI a184 : Arguments := _
  letI b184 : List Stmt := _
  letI c184 : Scope := _
  letI a191 : Arguments := _
  letI b191 : List Stmt := _
  letI c191 : Scope := _
  letI a198 : Arguments := _
  letI b198 : List Stmt := _
  letI c198 : Scope := _
  letI a203 : Arguments := _
  letI b203 : List Stmt := _
  letI c203 : Scope := _
  letI a210 : Arguments := _
  letI b210 : List Stmt := _
  letI c210 : Scope := _
  letI a217 : Arguments := _
  letI b217 : List Stmt := _
  letI c217 : Scope := _
  letI a224 : Arguments := _
  letI b224 : List Stmt := _
  letI c224 : Scope := _
  letI a231 : Arguments := _
  letI b231 : List Stmt := _
  letI c231 : Scope := _
  letI a245 : Arguments := _
  letI b245 : List Stmt := _
  letI c245 : Scope := _
  letI a252 : Arguments := _
  letI b252 : List Stmt := _
  letI c252 : Scope := _
  letI a259 : Arguments := _
  letI b259 : List Stmt := _
  letI c259 : Scope := _
  letI a266 : Arguments := _
  letI b266 : List Stmt := _
  letI c266 : Scope := _
  letI a280 : Arguments := _
  letI b280 : List Stmt := _
  letI c280 : Scope := _
  letI a287 : Arguments := _
  letI b287 : List Stmt := _
  letI c287 : Scope := _
  letI a294 : Arguments := _
  letI b294 : List Stmt := _
  letI c294 : Scope := _
  letI a301 : Arguments := _
  letI b301 : List Stmt := _
  letI c301 : Scope := _
  letI a308 : Arguments := _
  letI b308 : List Stmt := _
  letI c308 : Scope := _
  letI a315 : Arguments := _
  letI b315 : List Stmt := _
  letI c315 : Scope := _
  letI a322 : Arguments := _
  letI b322 : List Stmt := _
  letI c322 : Scope := _
  letI a327 : Arguments := _
  letI b327 : List Stmt := _
  letI c327 : Scope := _
  letI a334 : Arguments := _
  letI b334 : List Stmt := _
  letI c334 : Scope := _
  letI a339 : Arguments := _
  letI b339 : List Stmt := _
  letI c339 : Scope := _
  letI a344 : Arguments := _
  letI b344 : List Stmt := _
  letI c344 : Scope := _
  haveI : (PySem.Challenge.pw_pq1455_01.main.body.drop 3).head? = some (.ClassDef _ _ _ [.FunctionDef _ a28 b28 _ _ _ c28 _ _ _] _ _ _ _ _ _ _) := rfl
  haveI : (PySem.Challenge.pw_pq1455_01.main.body.drop 20).head? = some (.FunctionDef _ a44 b44 _ _ _ c44 _ _ _) := rfl
  haveI : (PySem.Challenge.pw_pq1455_01.main.body.drop 21).head? = some (.FunctionDef _ a51 b51 _ _ _ c51 _ _ _) := rfl
  haveI : (PySem.Challenge.pw_pq1455_01.main.body.drop 22).head? = some (.FunctionDef _ a58 b58 _ _ _ c58 _ _ _) := rfl
  haveI : (PySem.Challenge.pw_pq1455_01.main.body.drop 23).head? = some (.FunctionDef _ a65 b65 _ _ _ c65 _ _ _) := rfl
  haveI : (PySem.Challenge.pw_pq1455_01.main.body.drop 24).head? = some (.FunctionDef _ a72 b72 _ _ _ c72 _ _ _) := rfl
  haveI : (PySem.Challenge.pw_pq1455_01.main.body.drop 25).head? = some (.FunctionDef _ a79 b79 _ _ _ c79 _ _ _) := rfl
  haveI : (PySem.Challenge.pw_pq1455_01.main.body.drop 26).head? = some (.FunctionDef _ a86 b86 _ _ _ c86 _ _ _) := rfl
  haveI : (PySem.Challenge.pw_pq1455_01.main.body.drop 27).head? = some (.FunctionDef _ a93 b93 _ _ _ c93 _ _ _) := rfl
  haveI : (PySem.Challenge.pw_pq1455_01.main.body.drop 28).head? = some (.FunctionDef _ a100 b100 _ _ _ c100 _ _ _) := rfl
  haveI : (PySem.Challenge.pw_pq1455_01.main.body.drop 29).head? = some (.FunctionDef _ a107 b107 _ _ _ c107 _ _ _) := rfl
  haveI : (PySem.Challenge.pw_pq1455_01.main.body.drop 30).head? = some (.FunctionDef _ a114 b114 _ _ _ c114 _ _ _) := rfl
  haveI : (PySem.Challenge.pw_pq1455_01.main.body.drop 31).head? = some (.FunctionDef _ a121 b121 _ _ _ c121 _ _ _) := rfl
  haveI : (PySem.Challenge.pw_pq1455_01.main.body.drop 32).head? = some (.FunctionDef _ a128 b128 _ _ _ c128 _ _ _) := rfl
  haveI : (PySem.Challenge.pw_pq1455_01.main.body.drop 33).head? = some (.FunctionDef _ a135 b135 _ _ _ c135 _ _ _) := rfl
  haveI : (PySem.Challenge.pw_pq1455_01.main.body.drop 34).head? = some (.FunctionDef _ a142 b142 _ _ _ c142 _ _ _) := rfl
  haveI : (PySem.Challenge.pw_pq1455_01.main.body.drop 35).head? = some (.FunctionDef _ a149 b149 _ _ _ c149 _ _ _) := rfl
  haveI : (PySem.Challenge.pw_pq1455_01.main.body.drop 36).head? = some (.FunctionDef _ a156 b156 _ _ _ c156 _ _ _) := rfl
  haveI : (PySem.Challenge.pw_pq1455_01.main.body.drop 37).head? = some (.FunctionDef _ a163 b163 _ _ _ c163 _ _ _) := rfl
  haveI : (PySem.Challenge.pw_pq1455_01.main.body.drop 38).head? = some (.FunctionDef _ a170 b170 _ _ _ c170 _ _ _) := rfl
  haveI : (PySem.Challenge.pw_pq1455_01.main.body.drop 39).head? = some (.FunctionDef _ a177 b177 _ _ _ c177 _ _ _) := rfl
  haveI : (PySem.Challenge.pw_pq1455_01.main.body.drop 40).head? = some (.FunctionDef _ a184 b184 _ _ _ c184 _ _ _) := rfl
  haveI : (PySem.Challenge.pw_pq1455_01.main.body.drop 41).head? = some (.FunctionDef _ a191 b191 _ _ _ c191 _ _ _) := rfl
  haveI : (PySem.Challenge.pw_pq1455_01.main.body.drop 42).head? = some (.FunctionDef _ a198 b198 _ _ _ c198 _ _ _) := rfl
  haveI : (PySem.Challenge.pw_pq1455_01.main.body.drop 43).head? = some (.FunctionDef _ a203 b203 _ _ _ c203 _ _ _) := rfl
  haveI : (PySem.Challenge.pw_pq1455_01.main.body.drop 44).head? = some (.FunctionDef _ a210 b210 _ _ _ c210 _ _ _) := rfl
  haveI : (PySem.Challenge.pw_pq1455_01.main.body.drop 45).head? = some (.FunctionDef _ a217 b217 _ _ _ c217 _ _ _) := rfl
  haveI : (PySem.Challenge.pw_pq1455_01.main.body.drop 46).head? = some (.FunctionDef _ a224 b224 _ _ _ c224 _ _ _) := rfl
  haveI : (PySem.Challenge.pw_pq1455_01.main.body.drop 47).head? = some (.FunctionDef _ a231 b231 _ _ _ c231 _ _ _) := rfl
  haveI : (PySem.Challenge.pw_pq1455_01.main.body.drop 52).head? = some (.ClassDef _ _ _ [.FunctionDef _ a245 b245 _ _ _ c245 _ _ _, .FunctionDef _ a252 b252 _ _ _ c252 _ _ _, .FunctionDef _ a259 b259 _ _ _ c259 _ _ _, .FunctionDef _ a266 b266 _ _ _ c266 _ _ _] _ _ _ _ _ _ _) := rfl
  haveI : (PySem.Challenge.pw_pq1455_01.main.body.drop 53).head? = some (.FunctionDef _ a280 b280 _ _ _ c280 _ _ _) := rfl
  haveI : (PySem.Challenge.pw_pq1455_01.main.body.drop 54).head? = some (.FunctionDef _ a287 b287 _ _ _ c287 _ _ _) := rfl
  haveI : (PySem.Challenge.pw_pq1455_01.main.body.drop 55).head? = some (.FunctionDef _ a294 b294 _ _ _ c294 _ _ _) := rfl
  haveI : (PySem.Challenge.pw_pq1455_01.main.body.drop 57).head? = some (.FunctionDef _ a301 b301 _ _ _ c301 _ _ _) := rfl
  haveI : (PySem.Challenge.pw_pq1455_01.main.body.drop 58).head? = some (.FunctionDef _ a308 b308 _ _ _ c308 _ _ _) := rfl
  haveI : (PySem.Challenge.pw_pq1455_01.main.body.drop 59).head? = some (.FunctionDef _ a315 b315 _ _ _ c315 _ _ _) := rfl
  haveI : (PySem.Challenge.pw_pq1455_01.main.body.drop 60).head? = some (.FunctionDef _ a322 b322 _ _ _ c322 _ _ _) := rfl
  haveI : (PySem.Challenge.pw_pq1455_01.main.body.drop 61).head? = some (.FunctionDef _ a327 b327 _ _ _ c327 _ _ _) := rfl
  haveI : (PySem.Challenge.pw_pq1455_01.main.body.drop 62).head? = some (.FunctionDef _ a334 b334 _ _ _ c334 _ _ _) := rfl
  haveI : (PySem.Challenge.pw_pq1455_01.main.body.drop 63).head? = some (.FunctionDef _ a339 b339 _ _ _ c339 _ _ _) := rfl
  haveI : (PySem.Challenge.pw_pq1455_01.main.body.drop 64).head? = some (.FunctionDef _ a344 b344 _ _ _ c344 _ _ _) := rfl
  fun p =>
  boot_o_0 p ::
  boot_o_1 p ::
  ({ cls := Value.none, data := Data.dict #[{ hash := PyData.keyHash p (Str.ofString "type.__subclasses__.Exception.0"), key := Value.str (Str.ofString "type.__subclasses__.Exception.0") 218, val := Value.int 31 0 }, { hash := PyData.keyHash p (Str.ofString "type.__subclasses__.Exception.n"), key := Value.str (Str.ofString "type.__subclasses__.Exception.n") 219, val := Value.int 1 0 }] 2 } : Obj) ::
  ({ cls := Value.type "dict", data := Data.dict #[{ hash := PyData.keyHash p (Str.ofString "__name__"), key := Value.str (Str.ofString "__name__") 165, val := Value.str (Str.ofString "law_pq1455_01") 626 }, { hash := PyData.keyHash p (Str.ofString "__doc__"), key := Value.str (Str.ofString "__doc__") 166, val := Value.none }, { hash := PyData.keyHash p (Str.ofString "__package__"), key := Value.str (Str.ofString "__package__") 167, val := Value.none }, { hash := PyData.keyHash p (Str.ofString "__loader__"), key := Value.str (Str.ofString "__loader__") 168, val := Value.builtin "__main__.__loader__#opaque" }, { hash := PyData.keyHash p (Str.ofString "__spec__"), key := Value.str (Str.ofString "__spec__") 169, val := Value.none }, { hash := PyData.keyHash p (Str.ofString "__annotations__"), key := Value.str (Str.ofString "__annotations__") 170, val := Value.ref 6 }, { hash := PyData.keyHash p (Str.ofString "__builtins__"), key := Value.str (Str.ofString "__builtins__") 171, val := Value.ref 4 }, { hash := PyData.keyHash p (Str.ofString "__file__"), key := Value.str (Str.ofString "__file__") 173, val := Value.str (Str.ofString "/claim/cut.py") 172 }, { hash := PyData.keyHash p (Str.ofString "__cached__"), key := Value.str (Str.ofString "__cached__") 174, val := Value.none }, { hash := PyData.keyHash p (Str.ofString "DIGITS"), key := Value.str (Str.ofString "DIGITS") 190, val := Value.str (Str.ofString "0123456789") 189 }, { hash := PyData.keyHash p (Str.ofString "BLANKS"), key := Value.str (Str.ofString "BLANKS") 192, val := Value.str (Str.ofString " \t") 191 }, { hash := PyData.keyHash p (Str.ofString "BasicError"), key := Value.str (Str.ofString "BasicError") 221, val := Value.ref 31 }, { hash := PyData.keyHash p (Str.ofString "LEAST"), key := Value.str (Str.ofString "LEAST") 226, val := Value.int (-32768) 225 }, { hash := PyData.keyHash p (Str.ofString "MOST"), key := Value.str (Str.ofString "MOST") 228, val := Value.int 32767 227 }, { hash := PyData.keyHash p (Str.ofString "MOST_SIGNS"), key := Value.str (Str.ofString "MOST_SIGNS") 230, val := Value.int 255 229 }, { hash := PyData.keyHash p (Str.ofString "MOST_DEPTH"), key := Value.str (Str.ofString "MOST_DEPTH") 232, val := Value.int 40 231 }, { hash := PyData.keyHash p (Str.ofString "END"), key := Value.str (Str.ofString "END") 235, val := Value.ref 35 }, { hash := PyData.keyHash p (Str.ofString "COMPARISONS"), key := Value.str (Str.ofString "COMPARISONS") 242, val := Value.ref 36 }, { hash := PyData.keyHash p (Str.ofString "FUNCTIONS"), key := Value.str (Str.ofString "FUNCTIONS") 255, val := Value.ref 37 }, { hash := PyData.keyHash p (Str.ofString "OR_LEVEL"), key := Value.str (Str.ofString "OR_LEVEL") 257, val := Value.int 1 256 }, { hash := PyData.keyHash p (Str.ofString "AND_LEVEL"), key := Value.str (Str.ofString "AND_LEVEL") 259, val := Value.int 2 258 }, { hash := PyData.keyHash p (Str.ofString "NOT_LEVEL"), key := Value.str (Str.ofString "NOT_LEVEL") 261, val := Value.int 3 260 }, { hash := PyData.keyHash p (Str.ofString "COMPARE_LEVEL"), key := Value.str (Str.ofString "COMPARE_LEVEL") 263, val := Value.int 4 262 }, { hash := PyData.keyHash p (Str.ofString "SUM_LEVEL"), key := Value.str (Str.ofString "SUM_LEVEL") 265, val := Value.int 5 264 }, { hash := PyData.keyHash p (Str.ofString "PRODUCT_LEVEL"), key := Value.str (Str.ofString "PRODUCT_LEVEL") 267, val := Value.int 6 266 }, { hash := PyData.keyHash p (Str.ofString "MINUS_LEVEL"), key := Value.str (Str.ofString "MINUS_LEVEL") 269, val := Value.int 7 268 }, { hash := PyData.keyHash p (Str.ofString "POWER_LEVEL"), key := Value.str (Str.ofString "POWER_LEVEL") 271, val := Value.int 8 270 }, { hash := PyData.keyHash p (Str.ofString "is_text_name"), key := Value.str (Str.ofString "is_text_name") 278, val := Value.ref 44 }, { hash := PyData.keyHash p (Str.ofString "token_at"), key := Value.str (Str.ofString "token_at") 286, val := Value.ref 51 }, { hash := PyData.keyHash p (Str.ofString "expect"), key := Value.str (Str.ofString "expect") 295, val := Value.ref 58 }, { hash := PyData.keyHash p (Str.ofString "fitted"), key := Value.str (Str.ofString "fitted") 302, val := Value.ref 65 }, { hash := PyData.keyHash p (Str.ofString "fitted_text"), key := Value.str (Str.ofString "fitted_text") 309, val := Value.ref 72 }, { hash := PyData.keyHash p (Str.ofString "need_number"), key := Value.str (Str.ofString "need_number") 316, val := Value.ref 79 }, { hash := PyData.keyHash p (Str.ofString "need_text"), key := Value.str (Str.ofString "need_text") 323, val := Value.ref 86 }, { hash := PyData.keyHash p (Str.ofString "need_count"), key := Value.str (Str.ofString "need_count") 331, val := Value.ref 93 }, { hash := PyData.keyHash p (Str.ofString "truth"), key := Value.str (Str.ofString "truth") 338, val := Value.ref 100 }, { hash := PyData.keyHash p (Str.ofString "compared"), key := Value.str (Str.ofString "compared") 347, val := Value.ref 107 }, { hash := PyData.keyHash p (Str.ofString "quotient"), key := Value.str (Str.ofString "quotient") 356, val := Value.ref 114 }, { hash := PyData.keyHash p (Str.ofString "power"), key := Value.str (Str.ofString "power") 366, val := Value.ref 121 }, { hash := PyData.keyHash p (Str.ofString "operated"), key := Value.str (Str.ofString "operated") 375, val := Value.ref 128 }, { hash := PyData.keyHash p (Str.ofString "level_of"), key := Value.str (Str.ofString "level_of") 384, val := Value.ref 135 }, { hash := PyData.keyHash p (Str.ofString "number_text"), key := Value.str (Str.ofString "number_text") 391, val := Value.ref 142 }, { hash := PyData.keyHash p (Str.ofString "value_in"), key := Value.str (Str.ofString "value_in") 401, val := Value.ref 149 }, { hash := PyData.keyHash p (Str.ofString "middle"), key := Value.str (Str.ofString "middle") 411, val := Value.ref 156 }, { hash := PyData.keyHash p (Str.ofString "place_in"), key := Value.str (Str.ofString "place_in") 421, val := Value.ref 163 }, { hash := PyData.keyHash p (Str.ofString "of_text"), key := Value.str (Str.ofString "of_text") 431, val := Value.ref 170 }, { hash := PyData.keyHash p (Str.ofString "of_number"), key := Value.str (Str.ofString "of_number") 440, val := Value.ref 177 }, { hash := PyData.keyHash p (Str.ofString "count_right"), key := Value.str (Str.ofString "count_right") 448, val := Value.ref 184 }, { hash := PyData.keyHash p (Str.ofString "call_of"), key := Value.str (Str.ofString "call_of") 460, val := Value.ref 191 }, { hash := PyData.keyHash p (Str.ofString "values_at"), key := Value.str (Str.ofString "values_at") 472, val := Value.ref 198 }, { hash := PyData.keyHash p (Str.ofString "variable_of"), key := Value.str (Str.ofString "variable_of") 478, val := Value.ref 203 }, { hash := PyData.keyHash p (Str.ofString "turned_value"), key := Value.str (Str.ofString "turned_value") 490, val := Value.ref 210 }, { hash := PyData.keyHash p (Str.ofString "first_value"), key := Value.str (Str.ofString "first_value") 503, val := Value.ref 217 }, { hash := PyData.keyHash p (Str.ofString "bound_value"), key := Value.str (Str.ofString "bound_value") 518, val := Value.ref 224 }, { hash := PyData.keyHash p (Str.ofString "value_of"), key := Value.str (Str.ofString "value_of") 527, val := Value.ref 231 }, { hash := PyData.keyHash p (Str.ofString "USUAL_BOUND"), key := Value.str (Str.ofString "USUAL_BOUND") 531, val := Value.int 10 530 }, { hash := PyData.keyHash p (Str.ofString "MOST_INDEXES"), key := Value.str (Str.ofString "MOST_INDEXES") 533, val := Value.int 3 532 }, { hash := PyData.keyHash p (Str.ofString "MOST_PLACES"), key := Value.str (Str.ofString "MOST_PLACES") 535, val := Value.int 4096 534 }, { hash := PyData.keyHash p (Str.ofString "Store"), key := Value.str (Str.ofString "Store") 594, val := Value.ref 269 }, { hash := PyData.keyHash p (Str.ofString "nothing_of"), key := Value.str (Str.ofString "nothing_of") 601, val := Value.ref 280 }, { hash := PyData.keyHash p (Str.ofString "made_array"), key := Value.str (Str.ofString "made_array") 612, val := Value.ref 287 }, { hash := PyData.keyHash p (Str.ofString "array_place"), key := Value.str (Str.ofString "array_place") 625, val := Value.ref 294 }, { hash := PyData.keyHash p (Str.ofString "_law_next"), key := Value.str (Str.ofString "_law_next") 634, val := Value.ref 301 }, { hash := PyData.keyHash p (Str.ofString "_law_heard"), key := Value.str (Str.ofString "_law_heard") 642, val := Value.ref 308 }, { hash := PyData.keyHash p (Str.ofString "_law_layer"), key := Value.str (Str.ofString "_law_layer") 650, val := Value.ref 315 }, { hash := PyData.keyHash p (Str.ofString "_law_worth"), key := Value.str (Str.ofString "_law_worth") 658, val := Value.ref 322 }, { hash := PyData.keyHash p (Str.ofString "_law_layers_right"), key := Value.str (Str.ofString "_law_layers_right") 664, val := Value.ref 327 }, { hash := PyData.keyHash p (Str.ofString "_law_bare_right"), key := Value.str (Str.ofString "_law_bare_right") 674, val := Value.ref 334 }, { hash := PyData.keyHash p (Str.ofString "_law_sum_right"), key := Value.str (Str.ofString "_law_sum_right") 680, val := Value.ref 339 }, { hash := PyData.keyHash p (Str.ofString "law"), key := Value.str (Str.ofString "law") 686, val := Value.ref 344 }] 70 } : Obj) ::
  boot_o_4 p ::
  boot_o_5 p ::
  boot_o_6 p ::
  boot_o_7 p ::
  boot_o_8 p ::
  boot_o_9 p ::
  boot_o_10 p ::
  ({ cls := Value.type "tuple", data := Data.seq #[] } : Obj) ::
  ({ cls := Value.none, data := Data.fields #[Value.int 4 0, Value.int 0 0, Value.ref 20, Value.int 24 0, Value.int 0 0, Value.ref 43, Value.int 26 0, Value.int 0 0, Value.ref 50, Value.int 28 0, Value.int 0 0, Value.ref 57, Value.int 32 0, Value.int 0 0, Value.ref 64, Value.int 36 0, Value.int 0 0, Value.ref 71, Value.int 40 0, Value.int 0 0, Value.ref 78, Value.int 44 0, Value.int 0 0, Value.ref 85, Value.int 48 0, Value.int 0 0, Value.ref 92, Value.int 52 0, Value.int 0 0, Value.ref 99, Value.int 54 0, Value.int 0 0, Value.ref 106, Value.int 62 0, Value.int 0 0, Value.ref 113, Value.int 67 0, Value.int 0 0, Value.ref 120, Value.int 76 0, Value.int 0 0, Value.ref 127, Value.int 95 0, Value.int 0 0, Value.ref 134, Value.int 104 0, Value.int 0 0, Value.ref 141, Value.int 106 0, Value.int 0 0, Value.ref 148, Value.int 120 0, Value.int 0 0, Value.ref 155, Value.int 124 0, Value.int 0 0, Value.ref 162, Value.int 130 0, Value.int 0 0, Value.ref 169, Value.int 146 0, Value.int 0 0, Value.ref 176, Value.int 157 0, Value.int 0 0, Value.ref 183, Value.int 161 0, Value.int 0 0, Value.ref 190, Value.int 169 0, Value.int 0 0, Value.ref 197, Value.int 177 0, Value.int 0 0, Value.ref 202, Value.int 183 0, Value.int 0 0, Value.ref 209, Value.int 190 0, Value.int 0 0, Value.ref 216, Value.int 208 0, Value.int 0 0, Value.ref 223, Value.int 217 0, Value.int 0 0, Value.ref 230, Value.int 223 0, Value.int 0 0, Value.ref 237, Value.int 246 0, Value.int 0 0, Value.ref 279, Value.int 248 0, Value.int 0 0, Value.ref 286, Value.int 257 0, Value.int 0 0, Value.ref 293, Value.int 270 0, Value.int 0 0, Value.ref 300, Value.int 272 0, Value.int 0 0, Value.ref 307, Value.int 277 0, Value.int 0 0, Value.ref 314, Value.int 282 0, Value.int 0 0, Value.ref 321, Value.int 288 0, Value.int 0 0, Value.ref 326, Value.int 296 0, Value.int 0 0, Value.ref 333, Value.int 303 0, Value.int 0 0, Value.ref 338, Value.int 310 0, Value.int 0 0, Value.ref 343] } : Obj) ::
  ({ cls := Value.type "code", data := Data.fields #[Value.str (Str.ofString "<module>") 182, Value.str (Str.ofString "<module>") 183, Value.str (Str.ofString "/claim/cut.py") 184, Value.int 1 0, Value.int 0 0, Value.int 0 0, Value.int 0 0, Value.int 0 0, Value.ref 11, Value.bool false, Value.int 181 0, Value.ref 12, Value.none, Value.none, Value.none, Value.none, Value.int 185 0, Value.int 1 0, Value.str (Str.ofString "/claim/cut.py") 186] } : Obj) ::
  ({ cls := Value.type "frame", slots := #[some (Value.ref 13), some (Value.ref 3), some (Value.ref 3), none, some (Value.str (Str.ofString "__main__") 164), none, some (Value.ref 0)] } : Obj) ::
  ({ cls := Value.type "tuple", data := Data.seq #[Value.type "Exception"] } : Obj) ::
  ({ cls := Value.type "builtin_function_or_method", data := Data.fields #[Value.builtin "type.__prepare__", Value.type "type"] } : Obj) ::
  ({ cls := Value.type "dict", data := Data.dict #[{ hash := PyData.keyHash p (Str.ofString "__module__"), key := Value.str (Str.ofString "__module__") 200, val := Value.str (Str.ofString "z80.btokens") 187 }, { hash := PyData.keyHash p (Str.ofString "__qualname__"), key := Value.str (Str.ofString "__qualname__") 202, val := Value.str (Str.ofString "BasicError") 201 }, { hash := PyData.keyHash p (Str.ofString "__firstlineno__"), key := Value.str (Str.ofString "__firstlineno__") 204, val := Value.int 4 203 }, { hash := PyData.keyHash p (Str.ofString "__init__"), key := Value.str (Str.ofString "__init__") 212, val := Value.ref 28 }, { hash := PyData.keyHash p (Str.ofString "__static_attributes__"), key := Value.str (Str.ofString "__static_attributes__") 214, val := Value.ref 29 }] 5 } : Obj) ::
  ({ cls := Value.type "tuple", data := Data.seq #[] } : Obj) ::
  ({ cls := Value.none, data := Data.fields #[Value.int 6 0, Value.int 4 0, Value.ref 27] } : Obj) ::
  ({ cls := Value.type "code", data := Data.fields #[Value.str (Str.ofString "BasicError") 195, Value.str (Str.ofString "BasicError") 196, Value.str (Str.ofString "/claim/cut.py") 197, Value.int 4 0, Value.int 0 0, Value.int 0 0, Value.int 0 0, Value.int 0 0, Value.ref 18, Value.bool false, Value.int 181 0, Value.ref 19, Value.none, Value.none, Value.none, Value.none, Value.int 198 0, Value.int 4 0, Value.str (Str.ofString "/claim/cut.py") 199] } : Obj) ::
  ({ cls := Value.type "frame", slots := #[some (Value.ref 20), some (Value.ref 3), some (Value.ref 17), none, some (Value.str (Str.ofString "z80.btokens") 187), none, some (Value.ref 0)] } : Obj) ::
  ({ cls := Value.type "tuple", data := Data.seq #[] } : Obj) ::
  ({ cls := Value.none, data := Data.fields #[] } : Obj) ::
  ({ cls := Value.type "tuple", data := Data.seq #[Value.str (Str.ofString "self") 208, Value.str (Str.ofString "kind") 209] } : Obj) ::
  ({ cls := Value.type "tuple", data := Data.seq #[] } : Obj) ::
  ({ cls := Value.none, data := Data.func { name := Str.ofString "__init__", qualname := Str.ofString "BasicError.__init__", params := a28, body := FuncBody.stmts b28, scope := c28, globals := 0, closure := [], defaults := Value.none, kwdefaults := Value.none } } : Obj) ::
  ({ cls := Value.type "code", data := Data.fields #[Value.str (Str.ofString "__init__") 205, Value.str (Str.ofString "BasicError.__init__") 206, Value.str (Str.ofString "/claim/cut.py") 207, Value.int 6 0, Value.int 2 0, Value.int 0 0, Value.int 0 0, Value.int 3 0, Value.ref 22, Value.bool true, Value.int 181 0, Value.ref 23, Value.none, Value.ref 24, Value.ref 25, Value.ref 26, Value.int 210 0, Value.int 6 0, Value.str (Str.ofString "/claim/cut.py") 211] } : Obj) ::
  ({ cls := Value.type "function", data := Data.func { name := Str.ofString "__init__", qualname := Str.ofString "BasicError.__init__", params := a28, body := FuncBody.stmts b28, scope := c28, globals := 3, closure := [], defaults := Value.none, kwdefaults := Value.none, pyModule := Value.str (Str.ofString "z80.btokens") 187, code := Value.ref 27 } } : Obj) ::
  ({ cls := Value.type "tuple", data := Data.seq #[Value.str (Str.ofString "kind") 213] } : Obj) ::
  ({ cls := Value.type "dict", data := Data.dict #[{ hash := PyData.keyHash p (Str.ofString "__module__"), key := Value.str (Str.ofString "__module__") 200, val := Value.str (Str.ofString "z80.btokens") 187 }, { hash := PyData.keyHash p (Str.ofString "__firstlineno__"), key := Value.str (Str.ofString "__firstlineno__") 204, val := Value.int 4 203 }, { hash := PyData.keyHash p (Str.ofString "__init__"), key := Value.str (Str.ofString "__init__") 212, val := Value.ref 28 }, { hash := PyData.keyHash p (Str.ofString "__static_attributes__"), key := Value.str (Str.ofString "__static_attributes__") 214, val := Value.ref 29 }, { hash := PyData.keyHash p (Str.ofString "__weakref__"), key := Value.str (Str.ofString "__weakref__") 216, val := Value.ref 32 }, { hash := PyData.keyHash p (Str.ofString "__doc__"), key := Value.str (Str.ofString "__doc__") 217, val := Value.none }] 3 } : Obj) ::
  ({ cls := Value.type "type", data := Data.cls { name := Str.ofString "BasicError", bases := [Value.type "Exception"], mro := [Value.ref 31, Value.type "Exception", Value.type "BaseException", Value.type "object"], ns := 30, qualname := Str.ofString "BasicError" }, slots := #[some (Value.ref 15), none, some (Value.str (Str.ofString "BasicError") 193), some (Value.str (Str.ofString "BasicError") 201), some (Value.builtin "Exception.__new__"), some (Value.bool true)] } : Obj) ::
  ({ cls := Value.type "getset_descriptor", data := Data.fields #[Value.str (Str.ofString "__weakref__") 215, Value.ref 31, Value.builtin "ExceptionGroup.__weakref__", Value.none] } : Obj) ::
  ({ cls := Value.type "super", data := Data.fields #[Value.ref 31, Value.ref 31, Value.ref 31] } : Obj) ::
  ({ cls := Value.type "builtin_function_or_method", data := Data.fields #[Value.builtin "object.__init_subclass__", Value.ref 31] } : Obj) ::
  ({ cls := Value.type "tuple", data := Data.seq #[Value.str (Str.ofString "end") 233, Value.str (Str.ofString "") 234] } : Obj) ::
  ({ cls := Value.type "tuple", data := Data.seq #[Value.str (Str.ofString "=") 236, Value.str (Str.ofString "<>") 237, Value.str (Str.ofString "<") 238, Value.str (Str.ofString ">") 239, Value.str (Str.ofString "<=") 240, Value.str (Str.ofString ">=") 241] } : Obj) ::
  ({ cls := Value.type "tuple", data := Data.seq #[Value.str (Str.ofString "SGN") 243, Value.str (Str.ofString "ABS") 244, Value.str (Str.ofString "LEN") 245, Value.str (Str.ofString "STR$") 246, Value.str (Str.ofString "VAL") 247, Value.str (Str.ofString "ASC") 248, Value.str (Str.ofString "CHR$") 249, Value.str (Str.ofString "LEFT$") 250, Value.str (Str.ofString "RIGHT$") 251, Value.str (Str.ofString "MID$") 252, Value.str (Str.ofString "RND") 253, Value.str (Str.ofString "INSTR") 254] } : Obj) ::
  ({ cls := Value.type "tuple", data := Data.seq #[] } : Obj) ::
  ({ cls := Value.none, data := Data.fields #[] } : Obj) ::
  ({ cls := Value.type "tuple", data := Data.seq #[Value.str (Str.ofString "name") 275] } : Obj) ::
  ({ cls := Value.type "tuple", data := Data.seq #[] } : Obj) ::
  ({ cls := Value.none, data := Data.func { name := Str.ofString "is_text_name", qualname := Str.ofString "is_text_name", params := a44, body := FuncBody.stmts b44, scope := c44, globals := 0, closure := [], defaults := Value.none, kwdefaults := Value.none } } : Obj) ::
  ({ cls := Value.type "code", data := Data.fields #[Value.str (Str.ofString "is_text_name") 272, Value.str (Str.ofString "is_text_name") 273, Value.str (Str.ofString "/claim/cut.py") 274, Value.int 24 0, Value.int 1 0, Value.int 0 0, Value.int 0 0, Value.int 3 0, Value.ref 38, Value.bool true, Value.int 181 0, Value.ref 39, Value.none, Value.ref 40, Value.ref 41, Value.ref 42, Value.int 276 0, Value.int 24 0, Value.str (Str.ofString "/claim/cut.py") 277] } : Obj) ::
  ({ cls := Value.type "function", data := Data.func { name := Str.ofString "is_text_name", qualname := Str.ofString "is_text_name", params := a44, body := FuncBody.stmts b44, scope := c44, globals := 3, closure := [], defaults := Value.none, kwdefaults := Value.none, pyModule := Value.str (Str.ofString "z80.bexpr") 222, code := Value.ref 43 } } : Obj) ::
  ({ cls := Value.type "tuple", data := Data.seq #[] } : Obj) ::
  ({ cls := Value.none, data := Data.fields #[] } : Obj) ::
  ({ cls := Value.type "tuple", data := Data.seq #[Value.str (Str.ofString "tokens") 282, Value.str (Str.ofString "at") 283] } : Obj) ::
  ({ cls := Value.type "tuple", data := Data.seq #[] } : Obj) ::
  ({ cls := Value.none, data := Data.func { name := Str.ofString "token_at", qualname := Str.ofString "token_at", params := a51, body := FuncBody.stmts b51, scope := c51, globals := 0, closure := [], defaults := Value.none, kwdefaults := Value.none } } : Obj) ::
  ({ cls := Value.type "code", data := Data.fields #[Value.str (Str.ofString "token_at") 279, Value.str (Str.ofString "token_at") 280, Value.str (Str.ofString "/claim/cut.py") 281, Value.int 26 0, Value.int 2 0, Value.int 0 0, Value.int 0 0, Value.int 3 0, Value.ref 45, Value.bool true, Value.int 181 0, Value.ref 46, Value.none, Value.ref 47, Value.ref 48, Value.ref 49, Value.int 284 0, Value.int 26 0, Value.str (Str.ofString "/claim/cut.py") 285] } : Obj) ::
  ({ cls := Value.type "function", data := Data.func { name := Str.ofString "token_at", qualname := Str.ofString "token_at", params := a51, body := FuncBody.stmts b51, scope := c51, globals := 3, closure := [], defaults := Value.none, kwdefaults := Value.none, pyModule := Value.str (Str.ofString "z80.bexpr") 222, code := Value.ref 50 } } : Obj) ::
  ({ cls := Value.type "tuple", data := Data.seq #[] } : Obj) ::
  ({ cls := Value.none, data := Data.fields #[] } : Obj) ::
  ({ cls := Value.type "tuple", data := Data.seq #[Value.str (Str.ofString "tokens") 290, Value.str (Str.ofString "at") 291, Value.str (Str.ofString "sign") 292] } : Obj) ::
  ({ cls := Value.type "tuple", data := Data.seq #[] } : Obj) ::
  ({ cls := Value.none, data := Data.func { name := Str.ofString "expect", qualname := Str.ofString "expect", params := a58, body := FuncBody.stmts b58, scope := c58, globals := 0, closure := [], defaults := Value.none, kwdefaults := Value.none } } : Obj) ::
  ({ cls := Value.type "code", data := Data.fields #[Value.str (Str.ofString "expect") 287, Value.str (Str.ofString "expect") 288, Value.str (Str.ofString "/claim/cut.py") 289, Value.int 28 0, Value.int 3 0, Value.int 0 0, Value.int 0 0, Value.int 3 0, Value.ref 52, Value.bool true, Value.int 181 0, Value.ref 53, Value.none, Value.ref 54, Value.ref 55, Value.ref 56, Value.int 293 0, Value.int 28 0, Value.str (Str.ofString "/claim/cut.py") 294] } : Obj) ::
  ({ cls := Value.type "function", data := Data.func { name := Str.ofString "expect", qualname := Str.ofString "expect", params := a58, body := FuncBody.stmts b58, scope := c58, globals := 3, closure := [], defaults := Value.none, kwdefaults := Value.none, pyModule := Value.str (Str.ofString "z80.bexpr") 222, code := Value.ref 57 } } : Obj) ::
  ({ cls := Value.type "tuple", data := Data.seq #[] } : Obj) ::
  ({ cls := Value.none, data := Data.fields #[] } : Obj) ::
  ({ cls := Value.type "tuple", data := Data.seq #[Value.str (Str.ofString "number") 299] } : Obj) ::
  ({ cls := Value.type "tuple", data := Data.seq #[] } : Obj) ::
  ({ cls := Value.none, data := Data.func { name := Str.ofString "fitted", qualname := Str.ofString "fitted", params := a65, body := FuncBody.stmts b65, scope := c65, globals := 0, closure := [], defaults := Value.none, kwdefaults := Value.none } } : Obj) ::
  ({ cls := Value.type "code", data := Data.fields #[Value.str (Str.ofString "fitted") 296, Value.str (Str.ofString "fitted") 297, Value.str (Str.ofString "/claim/cut.py") 298, Value.int 32 0, Value.int 1 0, Value.int 0 0, Value.int 0 0, Value.int 3 0, Value.ref 59, Value.bool true, Value.int 181 0, Value.ref 60, Value.none, Value.ref 61, Value.ref 62, Value.ref 63, Value.int 300 0, Value.int 32 0, Value.str (Str.ofString "/claim/cut.py") 301] } : Obj) ::
  ({ cls := Value.type "function", data := Data.func { name := Str.ofString "fitted", qualname := Str.ofString "fitted", params := a65, body := FuncBody.stmts b65, scope := c65, globals := 3, closure := [], defaults := Value.none, kwdefaults := Value.none, pyModule := Value.str (Str.ofString "z80.bexpr") 222, code := Value.ref 64 } } : Obj) ::
  ({ cls := Value.type "tuple", data := Data.seq #[] } : Obj) ::
  ({ cls := Value.none, data := Data.fields #[] } : Obj) ::
  ({ cls := Value.type "tuple", data := Data.seq #[Value.str (Str.ofString "text") 306] } : Obj) ::
  ({ cls := Value.type "tuple", data := Data.seq #[] } : Obj) ::
  ({ cls := Value.none, data := Data.func { name := Str.ofString "fitted_text", qualname := Str.ofString "fitted_text", params := a72, body := FuncBody.stmts b72, scope := c72, globals := 0, closure := [], defaults := Value.none, kwdefaults := Value.none } } : Obj) ::
  ({ cls := Value.type "code", data := Data.fields #[Value.str (Str.ofString "fitted_text") 303, Value.str (Str.ofString "fitted_text") 304, Value.str (Str.ofString "/claim/cut.py") 305, Value.int 36 0, Value.int 1 0, Value.int 0 0, Value.int 0 0, Value.int 3 0, Value.ref 66, Value.bool true, Value.int 181 0, Value.ref 67, Value.none, Value.ref 68, Value.ref 69, Value.ref 70, Value.int 307 0, Value.int 36 0, Value.str (Str.ofString "/claim/cut.py") 308] } : Obj) ::
  ({ cls := Value.type "function", data := Data.func { name := Str.ofString "fitted_text", qualname := Str.ofString "fitted_text", params := a72, body := FuncBody.stmts b72, scope := c72, globals := 3, closure := [], defaults := Value.none, kwdefaults := Value.none, pyModule := Value.str (Str.ofString "z80.bexpr") 222, code := Value.ref 71 } } : Obj) ::
  ({ cls := Value.type "tuple", data := Data.seq #[] } : Obj) ::
  ({ cls := Value.none, data := Data.fields #[] } : Obj) ::
  ({ cls := Value.type "tuple", data := Data.seq #[Value.str (Str.ofString "value") 313] } : Obj) ::
  ({ cls := Value.type "tuple", data := Data.seq #[] } : Obj) ::
  ({ cls := Value.none, data := Data.func { name := Str.ofString "need_number", qualname := Str.ofString "need_number", params := a79, body := FuncBody.stmts b79, scope := c79, globals := 0, closure := [], defaults := Value.none, kwdefaults := Value.none } } : Obj) ::
  ({ cls := Value.type "code", data := Data.fields #[Value.str (Str.ofString "need_number") 310, Value.str (Str.ofString "need_number") 311, Value.str (Str.ofString "/claim/cut.py") 312, Value.int 40 0, Value.int 1 0, Value.int 0 0, Value.int 0 0, Value.int 3 0, Value.ref 73, Value.bool true, Value.int 181 0, Value.ref 74, Value.none, Value.ref 75, Value.ref 76, Value.ref 77, Value.int 314 0, Value.int 40 0, Value.str (Str.ofString "/claim/cut.py") 315] } : Obj) ::
  ({ cls := Value.type "function", data := Data.func { name := Str.ofString "need_number", qualname := Str.ofString "need_number", params := a79, body := FuncBody.stmts b79, scope := c79, globals := 3, closure := [], defaults := Value.none, kwdefaults := Value.none, pyModule := Value.str (Str.ofString "z80.bexpr") 222, code := Value.ref 78 } } : Obj) ::
  ({ cls := Value.type "tuple", data := Data.seq #[] } : Obj) ::
  ({ cls := Value.none, data := Data.fields #[] } : Obj) ::
  ({ cls := Value.type "tuple", data := Data.seq #[Value.str (Str.ofString "value") 320] } : Obj) ::
  ({ cls := Value.type "tuple", data := Data.seq #[] } : Obj) ::
  ({ cls := Value.none, data := Data.func { name := Str.ofString "need_text", qualname := Str.ofString "need_text", params := a86, body := FuncBody.stmts b86, scope := c86, globals := 0, closure := [], defaults := Value.none, kwdefaults := Value.none } } : Obj) ::
  ({ cls := Value.type "code", data := Data.fields #[Value.str (Str.ofString "need_text") 317, Value.str (Str.ofString "need_text") 318, Value.str (Str.ofString "/claim/cut.py") 319, Value.int 44 0, Value.int 1 0, Value.int 0 0, Value.int 0 0, Value.int 3 0, Value.ref 80, Value.bool true, Value.int 181 0, Value.ref 81, Value.none, Value.ref 82, Value.ref 83, Value.ref 84, Value.int 321 0, Value.int 44 0, Value.str (Str.ofString "/claim/cut.py") 322] } : Obj) ::
  ({ cls := Value.type "function", data := Data.func { name := Str.ofString "need_text", qualname := Str.ofString "need_text", params := a86, body := FuncBody.stmts b86, scope := c86, globals := 3, closure := [], defaults := Value.none, kwdefaults := Value.none, pyModule := Value.str (Str.ofString "z80.bexpr") 222, code := Value.ref 85 } } : Obj) ::
  ({ cls := Value.type "tuple", data := Data.seq #[] } : Obj) ::
  ({ cls := Value.none, data := Data.fields #[] } : Obj) ::
  ({ cls := Value.type "tuple", data := Data.seq #[Value.str (Str.ofString "value") 327, Value.str (Str.ofString "least") 328] } : Obj) ::
  ({ cls := Value.type "tuple", data := Data.seq #[] } : Obj) ::
  ({ cls := Value.none, data := Data.func { name := Str.ofString "need_count", qualname := Str.ofString "need_count", params := a93, body := FuncBody.stmts b93, scope := c93, globals := 0, closure := [], defaults := Value.none, kwdefaults := Value.none } } : Obj) ::
  ({ cls := Value.type "code", data := Data.fields #[Value.str (Str.ofString "need_count") 324, Value.str (Str.ofString "need_count") 325, Value.str (Str.ofString "/claim/cut.py") 326, Value.int 48 0, Value.int 2 0, Value.int 0 0, Value.int 0 0, Value.int 3 0, Value.ref 87, Value.bool true, Value.int 181 0, Value.ref 88, Value.none, Value.ref 89, Value.ref 90, Value.ref 91, Value.int 329 0, Value.int 48 0, Value.str (Str.ofString "/claim/cut.py") 330] } : Obj) ::
  ({ cls := Value.type "function", data := Data.func { name := Str.ofString "need_count", qualname := Str.ofString "need_count", params := a93, body := FuncBody.stmts b93, scope := c93, globals := 3, closure := [], defaults := Value.none, kwdefaults := Value.none, pyModule := Value.str (Str.ofString "z80.bexpr") 222, code := Value.ref 92 } } : Obj) ::
  ({ cls := Value.type "tuple", data := Data.seq #[] } : Obj) ::
  ({ cls := Value.none, data := Data.fields #[] } : Obj) ::
  ({ cls := Value.type "tuple", data := Data.seq #[Value.str (Str.ofString "is_so") 335] } : Obj) ::
  ({ cls := Value.type "tuple", data := Data.seq #[] } : Obj) ::
  ({ cls := Value.none, data := Data.func { name := Str.ofString "truth", qualname := Str.ofString "truth", params := a100, body := FuncBody.stmts b100, scope := c100, globals := 0, closure := [], defaults := Value.none, kwdefaults := Value.none } } : Obj) ::
  ({ cls := Value.type "code", data := Data.fields #[Value.str (Str.ofString "truth") 332, Value.str (Str.ofString "truth") 333, Value.str (Str.ofString "/claim/cut.py") 334, Value.int 52 0, Value.int 1 0, Value.int 0 0, Value.int 0 0, Value.int 3 0, Value.ref 94, Value.bool true, Value.int 181 0, Value.ref 95, Value.none, Value.ref 96, Value.ref 97, Value.ref 98, Value.int 336 0, Value.int 52 0, Value.str (Str.ofString "/claim/cut.py") 337] } : Obj) ::
  ({ cls := Value.type "function", data := Data.func { name := Str.ofString "truth", qualname := Str.ofString "truth", params := a100, body := FuncBody.stmts b100, scope := c100, globals := 3, closure := [], defaults := Value.none, kwdefaults := Value.none, pyModule := Value.str (Str.ofString "z80.bexpr") 222, code := Value.ref 99 } } : Obj) ::
  ({ cls := Value.type "tuple", data := Data.seq #[] } : Obj) ::
  ({ cls := Value.none, data := Data.fields #[] } : Obj) ::
  ({ cls := Value.type "tuple", data := Data.seq #[Value.str (Str.ofString "sign") 342, Value.str (Str.ofString "one") 343, Value.str (Str.ofString "other") 344] } : Obj) ::
  ({ cls := Value.type "tuple", data := Data.seq #[] } : Obj) ::
  ({ cls := Value.none, data := Data.func { name := Str.ofString "compared", qualname := Str.ofString "compared", params := a107, body := FuncBody.stmts b107, scope := c107, globals := 0, closure := [], defaults := Value.none, kwdefaults := Value.none } } : Obj) ::
  ({ cls := Value.type "code", data := Data.fields #[Value.str (Str.ofString "compared") 339, Value.str (Str.ofString "compared") 340, Value.str (Str.ofString "/claim/cut.py") 341, Value.int 54 0, Value.int 3 0, Value.int 0 0, Value.int 0 0, Value.int 3 0, Value.ref 101, Value.bool true, Value.int 181 0, Value.ref 102, Value.none, Value.ref 103, Value.ref 104, Value.ref 105, Value.int 345 0, Value.int 54 0, Value.str (Str.ofString "/claim/cut.py") 346] } : Obj) ::
  ({ cls := Value.type "function", data := Data.func { name := Str.ofString "compared", qualname := Str.ofString "compared", params := a107, body := FuncBody.stmts b107, scope := c107, globals := 3, closure := [], defaults := Value.none, kwdefaults := Value.none, pyModule := Value.str (Str.ofString "z80.bexpr") 222, code := Value.ref 106 } } : Obj) ::
  ({ cls := Value.type "tuple", data := Data.seq #[] } : Obj) ::
  ({ cls := Value.none, data := Data.fields #[] } : Obj) ::
  ({ cls := Value.type "tuple", data := Data.seq #[Value.str (Str.ofString "one") 351, Value.str (Str.ofString "other") 352, Value.str (Str.ofString "found") 353] } : Obj) ::
  ({ cls := Value.type "tuple", data := Data.seq #[] } : Obj) ::
  ({ cls := Value.none, data := Data.func { name := Str.ofString "quotient", qualname := Str.ofString "quotient", params := a114, body := FuncBody.stmts b114, scope := c114, globals := 0, closure := [], defaults := Value.none, kwdefaults := Value.none } } : Obj) ::
  ({ cls := Value.type "code", data := Data.fields #[Value.str (Str.ofString "quotient") 348, Value.str (Str.ofString "quotient") 349, Value.str (Str.ofString "/claim/cut.py") 350, Value.int 62 0, Value.int 2 0, Value.int 0 0, Value.int 0 0, Value.int 3 0, Value.ref 108, Value.bool true, Value.int 181 0, Value.ref 109, Value.none, Value.ref 110, Value.ref 111, Value.ref 112, Value.int 354 0, Value.int 62 0, Value.str (Str.ofString "/claim/cut.py") 355] } : Obj) ::
  ({ cls := Value.type "function", data := Data.func { name := Str.ofString "quotient", qualname := Str.ofString "quotient", params := a114, body := FuncBody.stmts b114, scope := c114, globals := 3, closure := [], defaults := Value.none, kwdefaults := Value.none, pyModule := Value.str (Str.ofString "z80.bexpr") 222, code := Value.ref 113 } } : Obj) ::
  ({ cls := Value.type "tuple", data := Data.seq #[] } : Obj) ::
  ({ cls := Value.none, data := Data.fields #[] } : Obj) ::
  ({ cls := Value.type "tuple", data := Data.seq #[Value.str (Str.ofString "one") 360, Value.str (Str.ofString "many") 361, Value.str (Str.ofString "found") 362, Value.str (Str.ofString "turn") 363] } : Obj) ::
  ({ cls := Value.type "tuple", data := Data.seq #[] } : Obj) ::
  ({ cls := Value.none, data := Data.func { name := Str.ofString "power", qualname := Str.ofString "power", params := a121, body := FuncBody.stmts b121, scope := c121, globals := 0, closure := [], defaults := Value.none, kwdefaults := Value.none } } : Obj) ::
  ({ cls := Value.type "code", data := Data.fields #[Value.str (Str.ofString "power") 357, Value.str (Str.ofString "power") 358, Value.str (Str.ofString "/claim/cut.py") 359, Value.int 67 0, Value.int 2 0, Value.int 0 0, Value.int 0 0, Value.int 3 0, Value.ref 115, Value.bool true, Value.int 181 0, Value.ref 116, Value.none, Value.ref 117, Value.ref 118, Value.ref 119, Value.int 364 0, Value.int 67 0, Value.str (Str.ofString "/claim/cut.py") 365] } : Obj) ::
  ({ cls := Value.type "function", data := Data.func { name := Str.ofString "power", qualname := Str.ofString "power", params := a121, body := FuncBody.stmts b121, scope := c121, globals := 3, closure := [], defaults := Value.none, kwdefaults := Value.none, pyModule := Value.str (Str.ofString "z80.bexpr") 222, code := Value.ref 120 } } : Obj) ::
  ({ cls := Value.type "tuple", data := Data.seq #[] } : Obj) ::
  ({ cls := Value.none, data := Data.fields #[] } : Obj) ::
  ({ cls := Value.type "tuple", data := Data.seq #[Value.str (Str.ofString "sign") 370, Value.str (Str.ofString "one") 371, Value.str (Str.ofString "other") 372] } : Obj) ::
  ({ cls := Value.type "tuple", data := Data.seq #[] } : Obj) ::
  ({ cls := Value.none, data := Data.func { name := Str.ofString "operated", qualname := Str.ofString "operated", params := a128, body := FuncBody.stmts b128, scope := c128, globals := 0, closure := [], defaults := Value.none, kwdefaults := Value.none } } : Obj) ::
  ({ cls := Value.type "code", data := Data.fields #[Value.str (Str.ofString "operated") 367, Value.str (Str.ofString "operated") 368, Value.str (Str.ofString "/claim/cut.py") 369, Value.int 76 0, Value.int 3 0, Value.int 0 0, Value.int 0 0, Value.int 3 0, Value.ref 122, Value.bool true, Value.int 181 0, Value.ref 123, Value.none, Value.ref 124, Value.ref 125, Value.ref 126, Value.int 373 0, Value.int 76 0, Value.str (Str.ofString "/claim/cut.py") 374] } : Obj) ::
  ({ cls := Value.type "function", data := Data.func { name := Str.ofString "operated", qualname := Str.ofString "operated", params := a128, body := FuncBody.stmts b128, scope := c128, globals := 3, closure := [], defaults := Value.none, kwdefaults := Value.none, pyModule := Value.str (Str.ofString "z80.bexpr") 222, code := Value.ref 127 } } : Obj) ::
  ({ cls := Value.type "tuple", data := Data.seq #[] } : Obj) ::
  ({ cls := Value.none, data := Data.fields #[] } : Obj) ::
  ({ cls := Value.type "tuple", data := Data.seq #[Value.str (Str.ofString "token") 379, Value.str (Str.ofString "kind") 380, Value.str (Str.ofString "value") 381] } : Obj) ::
  ({ cls := Value.type "tuple", data := Data.seq #[] } : Obj) ::
  ({ cls := Value.none, data := Data.func { name := Str.ofString "level_of", qualname := Str.ofString "level_of", params := a135, body := FuncBody.stmts b135, scope := c135, globals := 0, closure := [], defaults := Value.none, kwdefaults := Value.none } } : Obj) ::
  ({ cls := Value.type "code", data := Data.fields #[Value.str (Str.ofString "level_of") 376, Value.str (Str.ofString "level_of") 377, Value.str (Str.ofString "/claim/cut.py") 378, Value.int 95 0, Value.int 1 0, Value.int 0 0, Value.int 0 0, Value.int 3 0, Value.ref 129, Value.bool true, Value.int 181 0, Value.ref 130, Value.none, Value.ref 131, Value.ref 132, Value.ref 133, Value.int 382 0, Value.int 95 0, Value.str (Str.ofString "/claim/cut.py") 383] } : Obj) ::
  ({ cls := Value.type "function", data := Data.func { name := Str.ofString "level_of", qualname := Str.ofString "level_of", params := a135, body := FuncBody.stmts b135, scope := c135, globals := 3, closure := [], defaults := Value.none, kwdefaults := Value.none, pyModule := Value.str (Str.ofString "z80.bexpr") 222, code := Value.ref 134 } } : Obj) ::
  ({ cls := Value.type "tuple", data := Data.seq #[] } : Obj) ::
  ({ cls := Value.none, data := Data.fields #[] } : Obj) ::
  ({ cls := Value.type "tuple", data := Data.seq #[Value.str (Str.ofString "number") 388] } : Obj) ::
  ({ cls := Value.type "tuple", data := Data.seq #[] } : Obj) ::
  ({ cls := Value.none, data := Data.func { name := Str.ofString "number_text", qualname := Str.ofString "number_text", params := a142, body := FuncBody.stmts b142, scope := c142, globals := 0, closure := [], defaults := Value.none, kwdefaults := Value.none } } : Obj) ::
  ({ cls := Value.type "code", data := Data.fields #[Value.str (Str.ofString "number_text") 385, Value.str (Str.ofString "number_text") 386, Value.str (Str.ofString "/claim/cut.py") 387, Value.int 104 0, Value.int 1 0, Value.int 0 0, Value.int 0 0, Value.int 3 0, Value.ref 136, Value.bool true, Value.int 181 0, Value.ref 137, Value.none, Value.ref 138, Value.ref 139, Value.ref 140, Value.int 389 0, Value.int 104 0, Value.str (Str.ofString "/claim/cut.py") 390] } : Obj) ::
  ({ cls := Value.type "function", data := Data.func { name := Str.ofString "number_text", qualname := Str.ofString "number_text", params := a142, body := FuncBody.stmts b142, scope := c142, globals := 3, closure := [], defaults := Value.none, kwdefaults := Value.none, pyModule := Value.str (Str.ofString "z80.bexpr") 222, code := Value.ref 141 } } : Obj) ::
  ({ cls := Value.type "tuple", data := Data.seq #[] } : Obj) ::
  ({ cls := Value.none, data := Data.fields #[] } : Obj) ::
  ({ cls := Value.type "tuple", data := Data.seq #[Value.str (Str.ofString "text") 395, Value.str (Str.ofString "at") 396, Value.str (Str.ofString "is_below") 397, Value.str (Str.ofString "found") 398] } : Obj) ::
  ({ cls := Value.type "tuple", data := Data.seq #[] } : Obj) ::
  ({ cls := Value.none, data := Data.func { name := Str.ofString "value_in", qualname := Str.ofString "value_in", params := a149, body := FuncBody.stmts b149, scope := c149, globals := 0, closure := [], defaults := Value.none, kwdefaults := Value.none } } : Obj) ::
  ({ cls := Value.type "code", data := Data.fields #[Value.str (Str.ofString "value_in") 392, Value.str (Str.ofString "value_in") 393, Value.str (Str.ofString "/claim/cut.py") 394, Value.int 106 0, Value.int 1 0, Value.int 0 0, Value.int 0 0, Value.int 3 0, Value.ref 143, Value.bool true, Value.int 181 0, Value.ref 144, Value.none, Value.ref 145, Value.ref 146, Value.ref 147, Value.int 399 0, Value.int 106 0, Value.str (Str.ofString "/claim/cut.py") 400] } : Obj) ::
  ({ cls := Value.type "function", data := Data.func { name := Str.ofString "value_in", qualname := Str.ofString "value_in", params := a149, body := FuncBody.stmts b149, scope := c149, globals := 3, closure := [], defaults := Value.none, kwdefaults := Value.none, pyModule := Value.str (Str.ofString "z80.bexpr") 222, code := Value.ref 148 } } : Obj) ::
  ({ cls := Value.type "tuple", data := Data.seq #[] } : Obj) ::
  ({ cls := Value.none, data := Data.fields #[] } : Obj) ::
  ({ cls := Value.type "tuple", data := Data.seq #[Value.str (Str.ofString "args") 405, Value.str (Str.ofString "text") 406, Value.str (Str.ofString "place") 407, Value.str (Str.ofString "many") 408] } : Obj) ::
  ({ cls := Value.type "tuple", data := Data.seq #[] } : Obj) ::
  ({ cls := Value.none, data := Data.func { name := Str.ofString "middle", qualname := Str.ofString "middle", params := a156, body := FuncBody.stmts b156, scope := c156, globals := 0, closure := [], defaults := Value.none, kwdefaults := Value.none } } : Obj) ::
  ({ cls := Value.type "code", data := Data.fields #[Value.str (Str.ofString "middle") 402, Value.str (Str.ofString "middle") 403, Value.str (Str.ofString "/claim/cut.py") 404, Value.int 120 0, Value.int 1 0, Value.int 0 0, Value.int 0 0, Value.int 3 0, Value.ref 150, Value.bool true, Value.int 181 0, Value.ref 151, Value.none, Value.ref 152, Value.ref 153, Value.ref 154, Value.int 409 0, Value.int 120 0, Value.str (Str.ofString "/claim/cut.py") 410] } : Obj) ::
  ({ cls := Value.type "function", data := Data.func { name := Str.ofString "middle", qualname := Str.ofString "middle", params := a156, body := FuncBody.stmts b156, scope := c156, globals := 3, closure := [], defaults := Value.none, kwdefaults := Value.none, pyModule := Value.str (Str.ofString "z80.bexpr") 222, code := Value.ref 155 } } : Obj) ::
  ({ cls := Value.type "tuple", data := Data.seq #[] } : Obj) ::
  ({ cls := Value.none, data := Data.fields #[] } : Obj) ::
  ({ cls := Value.type "tuple", data := Data.seq #[Value.str (Str.ofString "args") 415, Value.str (Str.ofString "begin") 416, Value.str (Str.ofString "text") 417, Value.str (Str.ofString "sought") 418] } : Obj) ::
  ({ cls := Value.type "tuple", data := Data.seq #[] } : Obj) ::
  ({ cls := Value.none, data := Data.func { name := Str.ofString "place_in", qualname := Str.ofString "place_in", params := a163, body := FuncBody.stmts b163, scope := c163, globals := 0, closure := [], defaults := Value.none, kwdefaults := Value.none } } : Obj) ::
  ({ cls := Value.type "code", data := Data.fields #[Value.str (Str.ofString "place_in") 412, Value.str (Str.ofString "place_in") 413, Value.str (Str.ofString "/claim/cut.py") 414, Value.int 124 0, Value.int 1 0, Value.int 0 0, Value.int 0 0, Value.int 3 0, Value.ref 157, Value.bool true, Value.int 181 0, Value.ref 158, Value.none, Value.ref 159, Value.ref 160, Value.ref 161, Value.int 419 0, Value.int 124 0, Value.str (Str.ofString "/claim/cut.py") 420] } : Obj) ::
  ({ cls := Value.type "function", data := Data.func { name := Str.ofString "place_in", qualname := Str.ofString "place_in", params := a163, body := FuncBody.stmts b163, scope := c163, globals := 3, closure := [], defaults := Value.none, kwdefaults := Value.none, pyModule := Value.str (Str.ofString "z80.bexpr") 222, code := Value.ref 162 } } : Obj) ::
  ({ cls := Value.type "tuple", data := Data.seq #[] } : Obj) ::
  ({ cls := Value.none, data := Data.fields #[] } : Obj) ::
  ({ cls := Value.type "tuple", data := Data.seq #[Value.str (Str.ofString "word") 425, Value.str (Str.ofString "args") 426, Value.str (Str.ofString "text") 427, Value.str (Str.ofString "many") 428] } : Obj) ::
  ({ cls := Value.type "tuple", data := Data.seq #[] } : Obj) ::
  ({ cls := Value.none, data := Data.func { name := Str.ofString "of_text", qualname := Str.ofString "of_text", params := a170, body := FuncBody.stmts b170, scope := c170, globals := 0, closure := [], defaults := Value.none, kwdefaults := Value.none } } : Obj) ::
  ({ cls := Value.type "code", data := Data.fields #[Value.str (Str.ofString "of_text") 422, Value.str (Str.ofString "of_text") 423, Value.str (Str.ofString "/claim/cut.py") 424, Value.int 130 0, Value.int 2 0, Value.int 0 0, Value.int 0 0, Value.int 3 0, Value.ref 164, Value.bool true, Value.int 181 0, Value.ref 165, Value.none, Value.ref 166, Value.ref 167, Value.ref 168, Value.int 429 0, Value.int 130 0, Value.str (Str.ofString "/claim/cut.py") 430] } : Obj) ::
  ({ cls := Value.type "function", data := Data.func { name := Str.ofString "of_text", qualname := Str.ofString "of_text", params := a170, body := FuncBody.stmts b170, scope := c170, globals := 3, closure := [], defaults := Value.none, kwdefaults := Value.none, pyModule := Value.str (Str.ofString "z80.bexpr") 222, code := Value.ref 169 } } : Obj) ::
  ({ cls := Value.type "tuple", data := Data.seq #[] } : Obj) ::
  ({ cls := Value.none, data := Data.fields #[] } : Obj) ::
  ({ cls := Value.type "tuple", data := Data.seq #[Value.str (Str.ofString "word") 435, Value.str (Str.ofString "number") 436, Value.str (Str.ofString "store") 437] } : Obj) ::
  ({ cls := Value.type "tuple", data := Data.seq #[] } : Obj) ::
  ({ cls := Value.none, data := Data.func { name := Str.ofString "of_number", qualname := Str.ofString "of_number", params := a177, body := FuncBody.stmts b177, scope := c177, globals := 0, closure := [], defaults := Value.none, kwdefaults := Value.none } } : Obj) ::
  ({ cls := Value.type "code", data := Data.fields #[Value.str (Str.ofString "of_number") 432, Value.str (Str.ofString "of_number") 433, Value.str (Str.ofString "/claim/cut.py") 434, Value.int 146 0, Value.int 3 0, Value.int 0 0, Value.int 0 0, Value.int 3 0, Value.ref 171, Value.bool true, Value.int 181 0, Value.ref 172, Value.none, Value.ref 173, Value.ref 174, Value.ref 175, Value.int 438 0, Value.int 146 0, Value.str (Str.ofString "/claim/cut.py") 439] } : Obj) ::
  ({ cls := Value.type "function", data := Data.func { name := Str.ofString "of_number", qualname := Str.ofString "of_number", params := a177, body := FuncBody.stmts b177, scope := c177, globals := 3, closure := [], defaults := Value.none, kwdefaults := Value.none, pyModule := Value.str (Str.ofString "z80.bexpr") 222, code := Value.ref 176 } } : Obj) ::
  ({ cls := Value.type "tuple", data := Data.seq #[] } : Obj) ::
  ({ cls := Value.none, data := Data.fields #[] } : Obj) ::
  ({ cls := Value.type "tuple", data := Data.seq #[Value.str (Str.ofString "word") 444, Value.str (Str.ofString "many") 445] } : Obj) ::
  ({ cls := Value.type "tuple", data := Data.seq #[] } : Obj) ::
  ({ cls := Value.none, data := Data.func { name := Str.ofString "count_right", qualname := Str.ofString "count_right", params := a184, body := FuncBody.stmts b184, scope := c184, globals := 0, closure := [], defaults := Value.none, kwdefaults := Value.none } } : Obj) ::
  ({ cls := Value.type "code", data := Data.fields #[Value.str (Str.ofString "count_right") 441, Value.str (Str.ofString "count_right") 442, Value.str (Str.ofString "/claim/cut.py") 443, Value.int 157 0, Value.int 2 0, Value.int 0 0, Value.int 0 0, Value.int 3 0, Value.ref 178, Value.bool true, Value.int 181 0, Value.ref 179, Value.none, Value.ref 180, Value.ref 181, Value.ref 182, Value.int 446 0, Value.int 157 0, Value.str (Str.ofString "/claim/cut.py") 447] } : Obj) ::
  ({ cls := Value.type "function", data := Data.func { name := Str.ofString "count_right", qualname := Str.ofString "count_right", params := a184, body := FuncBody.stmts b184, scope := c184, globals := 3, closure := [], defaults := Value.none, kwdefaults := Value.none, pyModule := Value.str (Str.ofString "z80.bexpr") 222, code := Value.ref 183 } } : Obj) ::
  ({ cls := Value.type "tuple", data := Data.seq #[] } : Obj) ::
  ({ cls := Value.none, data := Data.fields #[] } : Obj) ::
  ({ cls := Value.type "tuple", data := Data.seq #[Value.str (Str.ofString "tokens") 452, Value.str (Str.ofString "at") 453, Value.str (Str.ofString "store") 454, Value.str (Str.ofString "depth") 455, Value.str (Str.ofString "word") 456, Value.str (Str.ofString "args") 457] } : Obj) ::
  ({ cls := Value.type "tuple", data := Data.seq #[] } : Obj) ::
  ({ cls := Value.none, data := Data.func { name := Str.ofString "call_of", qualname := Str.ofString "call_of", params := a191, body := FuncBody.stmts b191, scope := c191, globals := 0, closure := [], defaults := Value.none, kwdefaults := Value.none } } : Obj) ::
  ({ cls := Value.type "code", data := Data.fields #[Value.str (Str.ofString "call_of") 449, Value.str (Str.ofString "call_of") 450, Value.str (Str.ofString "/claim/cut.py") 451, Value.int 161 0, Value.int 4 0, Value.int 0 0, Value.int 0 0, Value.int 3 0, Value.ref 185, Value.bool true, Value.int 181 0, Value.ref 186, Value.none, Value.ref 187, Value.ref 188, Value.ref 189, Value.int 458 0, Value.int 161 0, Value.str (Str.ofString "/claim/cut.py") 459] } : Obj) ::
  ({ cls := Value.type "function", data := Data.func { name := Str.ofString "call_of", qualname := Str.ofString "call_of", params := a191, body := FuncBody.stmts b191, scope := c191, globals := 3, closure := [], defaults := Value.none, kwdefaults := Value.none, pyModule := Value.str (Str.ofString "z80.bexpr") 222, code := Value.ref 190 } } : Obj) ::
  ({ cls := Value.type "tuple", data := Data.seq #[] } : Obj) ::
  ({ cls := Value.none, data := Data.fields #[] } : Obj) ::
  ({ cls := Value.type "tuple", data := Data.seq #[Value.str (Str.ofString "tokens") 464, Value.str (Str.ofString "at") 465, Value.str (Str.ofString "store") 466, Value.str (Str.ofString "depth") 467, Value.str (Str.ofString "value") 468, Value.str (Str.ofString "found") 469] } : Obj) ::
  ({ cls := Value.type "tuple", data := Data.seq #[] } : Obj) ::
  ({ cls := Value.none, data := Data.func { name := Str.ofString "values_at", qualname := Str.ofString "values_at", params := a198, body := FuncBody.stmts b198, scope := c198, globals := 0, closure := [], defaults := Value.none, kwdefaults := Value.none } } : Obj) ::
  ({ cls := Value.type "code", data := Data.fields #[Value.str (Str.ofString "values_at") 461, Value.str (Str.ofString "values_at") 462, Value.str (Str.ofString "/claim/cut.py") 463, Value.int 169 0, Value.int 4 0, Value.int 0 0, Value.int 0 0, Value.int 3 0, Value.ref 192, Value.bool true, Value.int 181 0, Value.ref 193, Value.none, Value.ref 194, Value.ref 195, Value.ref 196, Value.int 470 0, Value.int 169 0, Value.str (Str.ofString "/claim/cut.py") 471] } : Obj) ::
  ({ cls := Value.type "function", data := Data.func { name := Str.ofString "values_at", qualname := Str.ofString "values_at", params := a198, body := FuncBody.stmts b198, scope := c198, globals := 3, closure := [], defaults := Value.none, kwdefaults := Value.none, pyModule := Value.str (Str.ofString "z80.bexpr") 222, code := Value.ref 197 } } : Obj) ::
  ({ cls := Value.type "tuple", data := Data.seq #[] } : Obj) ::
  ({ cls := Value.none, data := Data.fields #[] } : Obj) ::
  ({ cls := Value.none, data := Data.func { name := Str.ofString "variable_of", qualname := Str.ofString "variable_of", params := a203, body := FuncBody.stmts b203, scope := c203, globals := 0, closure := [], defaults := Value.none, kwdefaults := Value.none } } : Obj) ::
  ({ cls := Value.type "code", data := Data.fields #[Value.str (Str.ofString "variable_of") 473, Value.str (Str.ofString "variable_of") 474, Value.str (Str.ofString "/claim/cut.py") 475, Value.int 177 0, Value.int 4 0, Value.int 0 0, Value.int 0 0, Value.int 3 0, Value.ref 199, Value.bool true, Value.int 181 0, Value.ref 200, Value.none, Value.none, Value.none, Value.ref 201, Value.int 476 0, Value.int 177 0, Value.str (Str.ofString "/claim/cut.py") 477] } : Obj) ::
  ({ cls := Value.type "function", data := Data.func { name := Str.ofString "variable_of", qualname := Str.ofString "variable_of", params := a203, body := FuncBody.stmts b203, scope := c203, globals := 3, closure := [], defaults := Value.none, kwdefaults := Value.none, pyModule := Value.str (Str.ofString "z80.bexpr") 222, code := Value.ref 202 } } : Obj) ::
  ({ cls := Value.type "tuple", data := Data.seq #[] } : Obj) ::
  ({ cls := Value.none, data := Data.fields #[] } : Obj) ::
  ({ cls := Value.type "tuple", data := Data.seq #[Value.str (Str.ofString "tokens") 482, Value.str (Str.ofString "at") 483, Value.str (Str.ofString "store") 484, Value.str (Str.ofString "depth") 485, Value.str (Str.ofString "value") 486, Value.str (Str.ofString "found") 487] } : Obj) ::
  ({ cls := Value.type "tuple", data := Data.seq #[] } : Obj) ::
  ({ cls := Value.none, data := Data.func { name := Str.ofString "turned_value", qualname := Str.ofString "turned_value", params := a210, body := FuncBody.stmts b210, scope := c210, globals := 0, closure := [], defaults := Value.none, kwdefaults := Value.none } } : Obj) ::
  ({ cls := Value.type "code", data := Data.fields #[Value.str (Str.ofString "turned_value") 479, Value.str (Str.ofString "turned_value") 480, Value.str (Str.ofString "/claim/cut.py") 481, Value.int 183 0, Value.int 4 0, Value.int 0 0, Value.int 0 0, Value.int 3 0, Value.ref 204, Value.bool true, Value.int 181 0, Value.ref 205, Value.none, Value.ref 206, Value.ref 207, Value.ref 208, Value.int 488 0, Value.int 183 0, Value.str (Str.ofString "/claim/cut.py") 489] } : Obj) ::
  ({ cls := Value.type "function", data := Data.func { name := Str.ofString "turned_value", qualname := Str.ofString "turned_value", params := a210, body := FuncBody.stmts b210, scope := c210, globals := 3, closure := [], defaults := Value.none, kwdefaults := Value.none, pyModule := Value.str (Str.ofString "z80.bexpr") 222, code := Value.ref 209 } } : Obj) ::
  ({ cls := Value.type "tuple", data := Data.seq #[] } : Obj) ::
  ({ cls := Value.none, data := Data.fields #[] } : Obj) ::
  ({ cls := Value.type "tuple", data := Data.seq #[Value.str (Str.ofString "tokens") 494, Value.str (Str.ofString "at") 495, Value.str (Str.ofString "store") 496, Value.str (Str.ofString "depth") 497, Value.str (Str.ofString "kind") 498, Value.str (Str.ofString "value") 499, Value.str (Str.ofString "found") 500] } : Obj) ::
  ({ cls := Value.type "tuple", data := Data.seq #[] } : Obj) ::
  ({ cls := Value.none, data := Data.func { name := Str.ofString "first_value", qualname := Str.ofString "first_value", params := a217, body := FuncBody.stmts b217, scope := c217, globals := 0, closure := [], defaults := Value.none, kwdefaults := Value.none } } : Obj) ::
  ({ cls := Value.type "code", data := Data.fields #[Value.str (Str.ofString "first_value") 491, Value.str (Str.ofString "first_value") 492, Value.str (Str.ofString "/claim/cut.py") 493, Value.int 190 0, Value.int 4 0, Value.int 0 0, Value.int 0 0, Value.int 3 0, Value.ref 211, Value.bool true, Value.int 181 0, Value.ref 212, Value.none, Value.ref 213, Value.ref 214, Value.ref 215, Value.int 501 0, Value.int 190 0, Value.str (Str.ofString "/claim/cut.py") 502] } : Obj) ::
  ({ cls := Value.type "function", data := Data.func { name := Str.ofString "first_value", qualname := Str.ofString "first_value", params := a217, body := FuncBody.stmts b217, scope := c217, globals := 3, closure := [], defaults := Value.none, kwdefaults := Value.none, pyModule := Value.str (Str.ofString "z80.bexpr") 222, code := Value.ref 216 } } : Obj) ::
  ({ cls := Value.type "tuple", data := Data.seq #[] } : Obj) ::
  ({ cls := Value.none, data := Data.fields #[] } : Obj) ::
  ({ cls := Value.type "tuple", data := Data.seq #[Value.str (Str.ofString "tokens") 507, Value.str (Str.ofString "at") 508, Value.str (Str.ofString "level") 509, Value.str (Str.ofString "store") 510, Value.str (Str.ofString "depth") 511, Value.str (Str.ofString "found") 512, Value.str (Str.ofString "here") 513, Value.str (Str.ofString "sign") 514, Value.str (Str.ofString "other") 515] } : Obj) ::
  ({ cls := Value.type "tuple", data := Data.seq #[] } : Obj) ::
  ({ cls := Value.none, data := Data.func { name := Str.ofString "bound_value", qualname := Str.ofString "bound_value", params := a224, body := FuncBody.stmts b224, scope := c224, globals := 0, closure := [], defaults := Value.none, kwdefaults := Value.none } } : Obj) ::
  ({ cls := Value.type "code", data := Data.fields #[Value.str (Str.ofString "bound_value") 504, Value.str (Str.ofString "bound_value") 505, Value.str (Str.ofString "/claim/cut.py") 506, Value.int 208 0, Value.int 5 0, Value.int 0 0, Value.int 0 0, Value.int 3 0, Value.ref 218, Value.bool true, Value.int 181 0, Value.ref 219, Value.none, Value.ref 220, Value.ref 221, Value.ref 222, Value.int 516 0, Value.int 208 0, Value.str (Str.ofString "/claim/cut.py") 517] } : Obj) ::
  ({ cls := Value.type "function", data := Data.func { name := Str.ofString "bound_value", qualname := Str.ofString "bound_value", params := a224, body := FuncBody.stmts b224, scope := c224, globals := 3, closure := [], defaults := Value.none, kwdefaults := Value.none, pyModule := Value.str (Str.ofString "z80.bexpr") 222, code := Value.ref 223 } } : Obj) ::
  ({ cls := Value.type "tuple", data := Data.seq #[] } : Obj) ::
  ({ cls := Value.none, data := Data.fields #[] } : Obj) ::
  ({ cls := Value.type "tuple", data := Data.seq #[Value.str (Str.ofString "tokens") 522, Value.str (Str.ofString "at") 523, Value.str (Str.ofString "store") 524] } : Obj) ::
  ({ cls := Value.type "tuple", data := Data.seq #[] } : Obj) ::
  ({ cls := Value.none, data := Data.func { name := Str.ofString "value_of", qualname := Str.ofString "value_of", params := a231, body := FuncBody.stmts b231, scope := c231, globals := 0, closure := [], defaults := Value.none, kwdefaults := Value.none } } : Obj) ::
  ({ cls := Value.type "code", data := Data.fields #[Value.str (Str.ofString "value_of") 519, Value.str (Str.ofString "value_of") 520, Value.str (Str.ofString "/claim/cut.py") 521, Value.int 217 0, Value.int 3 0, Value.int 0 0, Value.int 0 0, Value.int 3 0, Value.ref 225, Value.bool true, Value.int 181 0, Value.ref 226, Value.none, Value.ref 227, Value.ref 228, Value.ref 229, Value.int 525 0, Value.int 217 0, Value.str (Str.ofString "/claim/cut.py") 526] } : Obj) ::
  ({ cls := Value.type "function", data := Data.func { name := Str.ofString "value_of", qualname := Str.ofString "value_of", params := a231, body := FuncBody.stmts b231, scope := c231, globals := 3, closure := [], defaults := Value.none, kwdefaults := Value.none, pyModule := Value.str (Str.ofString "z80.bexpr") 222, code := Value.ref 230 } } : Obj) ::
  ({ cls := Value.type "tuple", data := Data.seq #[] } : Obj) ::
  ({ cls := Value.type "builtin_function_or_method", data := Data.fields #[Value.builtin "type.__prepare__", Value.type "type"] } : Obj) ::
  ({ cls := Value.type "dict", data := Data.dict #[{ hash := PyData.keyHash p (Str.ofString "__module__"), key := Value.str (Str.ofString "__module__") 543, val := Value.str (Str.ofString "z80.bstore") 528 }, { hash := PyData.keyHash p (Str.ofString "__qualname__"), key := Value.str (Str.ofString "__qualname__") 545, val := Value.str (Str.ofString "Store") 544 }, { hash := PyData.keyHash p (Str.ofString "__firstlineno__"), key := Value.str (Str.ofString "__firstlineno__") 547, val := Value.int 223 546 }, { hash := PyData.keyHash p (Str.ofString "__init__"), key := Value.str (Str.ofString "__init__") 555, val := Value.ref 245 }, { hash := PyData.keyHash p (Str.ofString "read"), key := Value.str (Str.ofString "read") 563, val := Value.ref 252 }, { hash := PyData.keyHash p (Str.ofString "element"), key := Value.str (Str.ofString "element") 573, val := Value.ref 259 }, { hash := PyData.keyHash p (Str.ofString "random"), key := Value.str (Str.ofString "random") 582, val := Value.ref 266 }, { hash := PyData.keyHash p (Str.ofString "__static_attributes__"), key := Value.str (Str.ofString "__static_attributes__") 587, val := Value.ref 267 }] 8 } : Obj) ::
  ({ cls := Value.type "tuple", data := Data.seq #[] } : Obj) ::
  ({ cls := Value.none, data := Data.fields #[Value.int 225 0, Value.int 4 0, Value.ref 244, Value.int 231 0, Value.int 4 0, Value.ref 251, Value.int 234 0, Value.int 4 0, Value.ref 258, Value.int 238 0, Value.int 4 0, Value.ref 265] } : Obj) ::
  ({ cls := Value.type "code", data := Data.fields #[Value.str (Str.ofString "Store") 538, Value.str (Str.ofString "Store") 539, Value.str (Str.ofString "/claim/cut.py") 540, Value.int 223 0, Value.int 0 0, Value.int 0 0, Value.int 0 0, Value.int 0 0, Value.ref 235, Value.bool false, Value.int 181 0, Value.ref 236, Value.none, Value.none, Value.none, Value.none, Value.int 541 0, Value.int 223 0, Value.str (Str.ofString "/claim/cut.py") 542] } : Obj) ::
  ({ cls := Value.type "frame", slots := #[some (Value.ref 237), some (Value.ref 3), some (Value.ref 234), none, some (Value.str (Str.ofString "z80.bstore") 528), none, some (Value.ref 0)] } : Obj) ::
  ({ cls := Value.type "tuple", data := Data.seq #[] } : Obj) ::
  ({ cls := Value.none, data := Data.fields #[] } : Obj) ::
  ({ cls := Value.type "tuple", data := Data.seq #[Value.str (Str.ofString "self") 551, Value.str (Str.ofString "randoms") 552] } : Obj) ::
  ({ cls := Value.type "tuple", data := Data.seq #[] } : Obj) ::
  ({ cls := Value.none, data := Data.func { name := Str.ofString "__init__", qualname := Str.ofString "Store.__init__", params := a245, body := FuncBody.stmts b245, scope := c245, globals := 0, closure := [], defaults := Value.none, kwdefaults := Value.none } } : Obj) ::
  ({ cls := Value.type "code", data := Data.fields #[Value.str (Str.ofString "__init__") 548, Value.str (Str.ofString "Store.__init__") 549, Value.str (Str.ofString "/claim/cut.py") 550, Value.int 225 0, Value.int 2 0, Value.int 0 0, Value.int 0 0, Value.int 3 0, Value.ref 239, Value.bool true, Value.int 181 0, Value.ref 240, Value.none, Value.ref 241, Value.ref 242, Value.ref 243, Value.int 553 0, Value.int 225 0, Value.str (Str.ofString "/claim/cut.py") 554] } : Obj) ::
  ({ cls := Value.type "function", data := Data.func { name := Str.ofString "__init__", qualname := Str.ofString "Store.__init__", params := a245, body := FuncBody.stmts b245, scope := c245, globals := 3, closure := [], defaults := Value.none, kwdefaults := Value.none, pyModule := Value.str (Str.ofString "z80.bstore") 528, code := Value.ref 244 } } : Obj) ::
  ({ cls := Value.type "tuple", data := Data.seq #[] } : Obj) ::
  ({ cls := Value.none, data := Data.fields #[] } : Obj) ::
  ({ cls := Value.type "tuple", data := Data.seq #[Value.str (Str.ofString "self") 559, Value.str (Str.ofString "name") 560] } : Obj) ::
  ({ cls := Value.type "tuple", data := Data.seq #[] } : Obj) ::
  ({ cls := Value.none, data := Data.func { name := Str.ofString "read", qualname := Str.ofString "Store.read", params := a252, body := FuncBody.stmts b252, scope := c252, globals := 0, closure := [], defaults := Value.none, kwdefaults := Value.none } } : Obj) ::
  ({ cls := Value.type "code", data := Data.fields #[Value.str (Str.ofString "read") 556, Value.str (Str.ofString "Store.read") 557, Value.str (Str.ofString "/claim/cut.py") 558, Value.int 231 0, Value.int 2 0, Value.int 0 0, Value.int 0 0, Value.int 3 0, Value.ref 246, Value.bool true, Value.int 181 0, Value.ref 247, Value.none, Value.ref 248, Value.ref 249, Value.ref 250, Value.int 561 0, Value.int 231 0, Value.str (Str.ofString "/claim/cut.py") 562] } : Obj) ::
  ({ cls := Value.type "function", data := Data.func { name := Str.ofString "read", qualname := Str.ofString "Store.read", params := a252, body := FuncBody.stmts b252, scope := c252, globals := 3, closure := [], defaults := Value.none, kwdefaults := Value.none, pyModule := Value.str (Str.ofString "z80.bstore") 528, code := Value.ref 251 } } : Obj) ::
  ({ cls := Value.type "tuple", data := Data.seq #[] } : Obj) ::
  ({ cls := Value.none, data := Data.fields #[] } : Obj) ::
  ({ cls := Value.type "tuple", data := Data.seq #[Value.str (Str.ofString "self") 567, Value.str (Str.ofString "name") 568, Value.str (Str.ofString "indexes") 569, Value.str (Str.ofString "at") 570] } : Obj) ::
  ({ cls := Value.type "tuple", data := Data.seq #[] } : Obj) ::
  ({ cls := Value.none, data := Data.func { name := Str.ofString "element", qualname := Str.ofString "Store.element", params := a259, body := FuncBody.stmts b259, scope := c259, globals := 0, closure := [], defaults := Value.none, kwdefaults := Value.none } } : Obj) ::
  ({ cls := Value.type "code", data := Data.fields #[Value.str (Str.ofString "element") 564, Value.str (Str.ofString "Store.element") 565, Value.str (Str.ofString "/claim/cut.py") 566, Value.int 234 0, Value.int 3 0, Value.int 0 0, Value.int 0 0, Value.int 3 0, Value.ref 253, Value.bool true, Value.int 181 0, Value.ref 254, Value.none, Value.ref 255, Value.ref 256, Value.ref 257, Value.int 571 0, Value.int 234 0, Value.str (Str.ofString "/claim/cut.py") 572] } : Obj) ::
  ({ cls := Value.type "function", data := Data.func { name := Str.ofString "element", qualname := Str.ofString "Store.element", params := a259, body := FuncBody.stmts b259, scope := c259, globals := 3, closure := [], defaults := Value.none, kwdefaults := Value.none, pyModule := Value.str (Str.ofString "z80.bstore") 528, code := Value.ref 258 } } : Obj) ::
  ({ cls := Value.type "tuple", data := Data.seq #[] } : Obj) ::
  ({ cls := Value.none, data := Data.fields #[] } : Obj) ::
  ({ cls := Value.type "tuple", data := Data.seq #[Value.str (Str.ofString "self") 577, Value.str (Str.ofString "number") 578, Value.str (Str.ofString "found") 579] } : Obj) ::
  ({ cls := Value.type "tuple", data := Data.seq #[] } : Obj) ::
  ({ cls := Value.none, data := Data.func { name := Str.ofString "random", qualname := Str.ofString "Store.random", params := a266, body := FuncBody.stmts b266, scope := c266, globals := 0, closure := [], defaults := Value.none, kwdefaults := Value.none } } : Obj) ::
  ({ cls := Value.type "code", data := Data.fields #[Value.str (Str.ofString "random") 574, Value.str (Str.ofString "Store.random") 575, Value.str (Str.ofString "/claim/cut.py") 576, Value.int 238 0, Value.int 2 0, Value.int 0 0, Value.int 0 0, Value.int 3 0, Value.ref 260, Value.bool true, Value.int 181 0, Value.ref 261, Value.none, Value.ref 262, Value.ref 263, Value.ref 264, Value.int 580 0, Value.int 238 0, Value.str (Str.ofString "/claim/cut.py") 581] } : Obj) ::
  ({ cls := Value.type "function", data := Data.func { name := Str.ofString "random", qualname := Str.ofString "Store.random", params := a266, body := FuncBody.stmts b266, scope := c266, globals := 3, closure := [], defaults := Value.none, kwdefaults := Value.none, pyModule := Value.str (Str.ofString "z80.bstore") 528, code := Value.ref 265 } } : Obj) ::
  ({ cls := Value.type "tuple", data := Data.seq #[Value.str (Str.ofString "arrays") 583, Value.str (Str.ofString "randoms") 584, Value.str (Str.ofString "spot") 585, Value.str (Str.ofString "values") 586] } : Obj) ::
  ({ cls := Value.type "dict", data := Data.dict #[{ hash := PyData.keyHash p (Str.ofString "__module__"), key := Value.str (Str.ofString "__module__") 543, val := Value.str (Str.ofString "z80.bstore") 528 }, { hash := PyData.keyHash p (Str.ofString "__firstlineno__"), key := Value.str (Str.ofString "__firstlineno__") 547, val := Value.int 223 546 }, { hash := PyData.keyHash p (Str.ofString "__init__"), key := Value.str (Str.ofString "__init__") 555, val := Value.ref 245 }, { hash := PyData.keyHash p (Str.ofString "read"), key := Value.str (Str.ofString "read") 563, val := Value.ref 252 }, { hash := PyData.keyHash p (Str.ofString "element"), key := Value.str (Str.ofString "element") 573, val := Value.ref 259 }, { hash := PyData.keyHash p (Str.ofString "random"), key := Value.str (Str.ofString "random") 582, val := Value.ref 266 }, { hash := PyData.keyHash p (Str.ofString "__static_attributes__"), key := Value.str (Str.ofString "__static_attributes__") 587, val := Value.ref 267 }, { hash := PyData.keyHash p (Str.ofString "__dict__"), key := Value.str (Str.ofString "__dict__") 589, val := Value.ref 270 }, { hash := PyData.keyHash p (Str.ofString "__weakref__"), key := Value.str (Str.ofString "__weakref__") 591, val := Value.ref 271 }, { hash := PyData.keyHash p (Str.ofString "__doc__"), key := Value.str (Str.ofString "__doc__") 592, val := Value.none }] 4 } : Obj) ::
  ({ cls := Value.type "type", data := Data.cls { name := Str.ofString "Store", bases := [Value.type "object"], mro := [Value.ref 269, Value.type "object"], ns := 268, qualname := Str.ofString "Store" }, slots := #[none, none, some (Value.str (Str.ofString "Store") 536), some (Value.str (Str.ofString "Store") 544), some (Value.builtin "object.__new__"), some (Value.bool true)] } : Obj) ::
  ({ cls := Value.type "getset_descriptor", data := Data.fields #[Value.str (Str.ofString "__dict__") 588, Value.ref 269, Value.builtin "function.__dict__", Value.builtin "function.__dict__#set"] } : Obj) ::
  ({ cls := Value.type "getset_descriptor", data := Data.fields #[Value.str (Str.ofString "__weakref__") 590, Value.ref 269, Value.builtin "ExceptionGroup.__weakref__", Value.none] } : Obj) ::
  ({ cls := Value.type "super", data := Data.fields #[Value.ref 269, Value.ref 269, Value.ref 269] } : Obj) ::
  ({ cls := Value.type "builtin_function_or_method", data := Data.fields #[Value.builtin "object.__init_subclass__", Value.ref 269] } : Obj) ::
  ({ cls := Value.type "tuple", data := Data.seq #[] } : Obj) ::
  ({ cls := Value.none, data := Data.fields #[] } : Obj) ::
  ({ cls := Value.type "tuple", data := Data.seq #[Value.str (Str.ofString "name") 598] } : Obj) ::
  ({ cls := Value.type "tuple", data := Data.seq #[] } : Obj) ::
  ({ cls := Value.none, data := Data.func { name := Str.ofString "nothing_of", qualname := Str.ofString "nothing_of", params := a280, body := FuncBody.stmts b280, scope := c280, globals := 0, closure := [], defaults := Value.none, kwdefaults := Value.none } } : Obj) ::
  ({ cls := Value.type "code", data := Data.fields #[Value.str (Str.ofString "nothing_of") 595, Value.str (Str.ofString "nothing_of") 596, Value.str (Str.ofString "/claim/cut.py") 597, Value.int 246 0, Value.int 1 0, Value.int 0 0, Value.int 0 0, Value.int 3 0, Value.ref 274, Value.bool true, Value.int 181 0, Value.ref 275, Value.none, Value.ref 276, Value.ref 277, Value.ref 278, Value.int 599 0, Value.int 246 0, Value.str (Str.ofString "/claim/cut.py") 600] } : Obj) ::
  ({ cls := Value.type "function", data := Data.func { name := Str.ofString "nothing_of", qualname := Str.ofString "nothing_of", params := a280, body := FuncBody.stmts b280, scope := c280, globals := 3, closure := [], defaults := Value.none, kwdefaults := Value.none, pyModule := Value.str (Str.ofString "z80.bstore") 528, code := Value.ref 279 } } : Obj) ::
  ({ cls := Value.type "tuple", data := Data.seq #[] } : Obj) ::
  ({ cls := Value.none, data := Data.fields #[] } : Obj) ::
  ({ cls := Value.type "tuple", data := Data.seq #[Value.str (Str.ofString "store") 605, Value.str (Str.ofString "name") 606, Value.str (Str.ofString "bounds") 607, Value.str (Str.ofString "many") 608, Value.str (Str.ofString "bound") 609] } : Obj) ::
  ({ cls := Value.type "tuple", data := Data.seq #[] } : Obj) ::
  ({ cls := Value.none, data := Data.func { name := Str.ofString "made_array", qualname := Str.ofString "made_array", params := a287, body := FuncBody.stmts b287, scope := c287, globals := 0, closure := [], defaults := Value.none, kwdefaults := Value.none } } : Obj) ::
  ({ cls := Value.type "code", data := Data.fields #[Value.str (Str.ofString "made_array") 602, Value.str (Str.ofString "made_array") 603, Value.str (Str.ofString "/claim/cut.py") 604, Value.int 248 0, Value.int 3 0, Value.int 0 0, Value.int 0 0, Value.int 3 0, Value.ref 281, Value.bool true, Value.int 181 0, Value.ref 282, Value.none, Value.ref 283, Value.ref 284, Value.ref 285, Value.int 610 0, Value.int 248 0, Value.str (Str.ofString "/claim/cut.py") 611] } : Obj) ::
  ({ cls := Value.type "function", data := Data.func { name := Str.ofString "made_array", qualname := Str.ofString "made_array", params := a287, body := FuncBody.stmts b287, scope := c287, globals := 3, closure := [], defaults := Value.none, kwdefaults := Value.none, pyModule := Value.str (Str.ofString "z80.bstore") 528, code := Value.ref 286 } } : Obj) ::
  ({ cls := Value.type "tuple", data := Data.seq #[] } : Obj) ::
  ({ cls := Value.none, data := Data.fields #[] } : Obj) ::
  ({ cls := Value.type "tuple", data := Data.seq #[Value.str (Str.ofString "store") 616, Value.str (Str.ofString "name") 617, Value.str (Str.ofString "indexes") 618, Value.str (Str.ofString "bounds") 619, Value.str (Str.ofString "found") 620, Value.str (Str.ofString "bound") 621, Value.str (Str.ofString "index") 622] } : Obj) ::
  ({ cls := Value.type "tuple", data := Data.seq #[] } : Obj) ::
  ({ cls := Value.none, data := Data.func { name := Str.ofString "array_place", qualname := Str.ofString "array_place", params := a294, body := FuncBody.stmts b294, scope := c294, globals := 0, closure := [], defaults := Value.none, kwdefaults := Value.none } } : Obj) ::
  ({ cls := Value.type "code", data := Data.fields #[Value.str (Str.ofString "array_place") 613, Value.str (Str.ofString "array_place") 614, Value.str (Str.ofString "/claim/cut.py") 615, Value.int 257 0, Value.int 3 0, Value.int 0 0, Value.int 0 0, Value.int 3 0, Value.ref 288, Value.bool true, Value.int 181 0, Value.ref 289, Value.none, Value.ref 290, Value.ref 291, Value.ref 292, Value.int 623 0, Value.int 257 0, Value.str (Str.ofString "/claim/cut.py") 624] } : Obj) ::
  ({ cls := Value.type "function", data := Data.func { name := Str.ofString "array_place", qualname := Str.ofString "array_place", params := a294, body := FuncBody.stmts b294, scope := c294, globals := 3, closure := [], defaults := Value.none, kwdefaults := Value.none, pyModule := Value.str (Str.ofString "z80.bstore") 528, code := Value.ref 293 } } : Obj) ::
  ({ cls := Value.type "tuple", data := Data.seq #[] } : Obj) ::
  ({ cls := Value.none, data := Data.fields #[] } : Obj) ::
  ({ cls := Value.type "tuple", data := Data.seq #[Value.str (Str.ofString "cells") 631] } : Obj) ::
  ({ cls := Value.type "tuple", data := Data.seq #[] } : Obj) ::
  ({ cls := Value.none, data := Data.func { name := Str.ofString "_law_next", qualname := Str.ofString "_law_next", params := a301, body := FuncBody.stmts b301, scope := c301, globals := 0, closure := [], defaults := Value.none, kwdefaults := Value.none } } : Obj) ::
  ({ cls := Value.type "code", data := Data.fields #[Value.str (Str.ofString "_law_next") 628, Value.str (Str.ofString "_law_next") 629, Value.str (Str.ofString "/claim/cut.py") 630, Value.int 270 0, Value.int 1 0, Value.int 0 0, Value.int 0 0, Value.int 3 0, Value.ref 295, Value.bool true, Value.int 181 0, Value.ref 296, Value.none, Value.ref 297, Value.ref 298, Value.ref 299, Value.int 632 0, Value.int 270 0, Value.str (Str.ofString "/claim/cut.py") 633] } : Obj) ::
  ({ cls := Value.type "function", data := Data.func { name := Str.ofString "_law_next", qualname := Str.ofString "_law_next", params := a301, body := FuncBody.stmts b301, scope := c301, globals := 3, closure := [], defaults := Value.none, kwdefaults := Value.none, pyModule := Value.str (Str.ofString "law_pq1455_01") 626, code := Value.ref 300 } } : Obj) ::
  ({ cls := Value.type "tuple", data := Data.seq #[] } : Obj) ::
  ({ cls := Value.none, data := Data.fields #[] } : Obj) ::
  ({ cls := Value.type "tuple", data := Data.seq #[Value.str (Str.ofString "row") 638, Value.str (Str.ofString "wrong") 639] } : Obj) ::
  ({ cls := Value.type "tuple", data := Data.seq #[] } : Obj) ::
  ({ cls := Value.none, data := Data.func { name := Str.ofString "_law_heard", qualname := Str.ofString "_law_heard", params := a308, body := FuncBody.stmts b308, scope := c308, globals := 0, closure := [], defaults := Value.none, kwdefaults := Value.none } } : Obj) ::
  ({ cls := Value.type "code", data := Data.fields #[Value.str (Str.ofString "_law_heard") 635, Value.str (Str.ofString "_law_heard") 636, Value.str (Str.ofString "/claim/cut.py") 637, Value.int 272 0, Value.int 1 0, Value.int 0 0, Value.int 0 0, Value.int 3 0, Value.ref 302, Value.bool true, Value.int 181 0, Value.ref 303, Value.none, Value.ref 304, Value.ref 305, Value.ref 306, Value.int 640 0, Value.int 272 0, Value.str (Str.ofString "/claim/cut.py") 641] } : Obj) ::
  ({ cls := Value.type "function", data := Data.func { name := Str.ofString "_law_heard", qualname := Str.ofString "_law_heard", params := a308, body := FuncBody.stmts b308, scope := c308, globals := 3, closure := [], defaults := Value.none, kwdefaults := Value.none, pyModule := Value.str (Str.ofString "law_pq1455_01") 626, code := Value.ref 307 } } : Obj) ::
  ({ cls := Value.type "tuple", data := Data.seq #[] } : Obj) ::
  ({ cls := Value.none, data := Data.fields #[] } : Obj) ::
  ({ cls := Value.type "tuple", data := Data.seq #[Value.str (Str.ofString "kind") 646, Value.str (Str.ofString "ahead") 647] } : Obj) ::
  ({ cls := Value.type "tuple", data := Data.seq #[] } : Obj) ::
  ({ cls := Value.none, data := Data.func { name := Str.ofString "_law_layer", qualname := Str.ofString "_law_layer", params := a315, body := FuncBody.stmts b315, scope := c315, globals := 0, closure := [], defaults := Value.none, kwdefaults := Value.none } } : Obj) ::
  ({ cls := Value.type "code", data := Data.fields #[Value.str (Str.ofString "_law_layer") 643, Value.str (Str.ofString "_law_layer") 644, Value.str (Str.ofString "/claim/cut.py") 645, Value.int 277 0, Value.int 1 0, Value.int 0 0, Value.int 0 0, Value.int 3 0, Value.ref 309, Value.bool true, Value.int 181 0, Value.ref 310, Value.none, Value.ref 311, Value.ref 312, Value.ref 313, Value.int 648 0, Value.int 277 0, Value.str (Str.ofString "/claim/cut.py") 649] } : Obj) ::
  ({ cls := Value.type "function", data := Data.func { name := Str.ofString "_law_layer", qualname := Str.ofString "_law_layer", params := a315, body := FuncBody.stmts b315, scope := c315, globals := 3, closure := [], defaults := Value.none, kwdefaults := Value.none, pyModule := Value.str (Str.ofString "law_pq1455_01") 626, code := Value.ref 314 } } : Obj) ::
  ({ cls := Value.type "tuple", data := Data.seq #[] } : Obj) ::
  ({ cls := Value.none, data := Data.fields #[] } : Obj) ::
  ({ cls := Value.type "tuple", data := Data.seq #[Value.str (Str.ofString "kind") 654, Value.str (Str.ofString "value") 655] } : Obj) ::
  ({ cls := Value.type "tuple", data := Data.seq #[] } : Obj) ::
  ({ cls := Value.none, data := Data.func { name := Str.ofString "_law_worth", qualname := Str.ofString "_law_worth", params := a322, body := FuncBody.stmts b322, scope := c322, globals := 0, closure := [], defaults := Value.none, kwdefaults := Value.none } } : Obj) ::
  ({ cls := Value.type "code", data := Data.fields #[Value.str (Str.ofString "_law_worth") 651, Value.str (Str.ofString "_law_worth") 652, Value.str (Str.ofString "/claim/cut.py") 653, Value.int 282 0, Value.int 2 0, Value.int 0 0, Value.int 0 0, Value.int 3 0, Value.ref 316, Value.bool true, Value.int 181 0, Value.ref 317, Value.none, Value.ref 318, Value.ref 319, Value.ref 320, Value.int 656 0, Value.int 282 0, Value.str (Str.ofString "/claim/cut.py") 657] } : Obj) ::
  ({ cls := Value.type "function", data := Data.func { name := Str.ofString "_law_worth", qualname := Str.ofString "_law_worth", params := a322, body := FuncBody.stmts b322, scope := c322, globals := 3, closure := [], defaults := Value.none, kwdefaults := Value.none, pyModule := Value.str (Str.ofString "law_pq1455_01") 626, code := Value.ref 321 } } : Obj) ::
  ({ cls := Value.type "tuple", data := Data.seq #[] } : Obj) ::
  ({ cls := Value.none, data := Data.fields #[] } : Obj) ::
  ({ cls := Value.none, data := Data.func { name := Str.ofString "_law_layers_right", qualname := Str.ofString "_law_layers_right", params := a327, body := FuncBody.stmts b327, scope := c327, globals := 0, closure := [], defaults := Value.none, kwdefaults := Value.none } } : Obj) ::
  ({ cls := Value.type "code", data := Data.fields #[Value.str (Str.ofString "_law_layers_right") 659, Value.str (Str.ofString "_law_layers_right") 660, Value.str (Str.ofString "/claim/cut.py") 661, Value.int 288 0, Value.int 2 0, Value.int 0 0, Value.int 0 0, Value.int 3 0, Value.ref 323, Value.bool true, Value.int 181 0, Value.ref 324, Value.none, Value.none, Value.none, Value.ref 325, Value.int 662 0, Value.int 288 0, Value.str (Str.ofString "/claim/cut.py") 663] } : Obj) ::
  ({ cls := Value.type "function", data := Data.func { name := Str.ofString "_law_layers_right", qualname := Str.ofString "_law_layers_right", params := a327, body := FuncBody.stmts b327, scope := c327, globals := 3, closure := [], defaults := Value.none, kwdefaults := Value.none, pyModule := Value.str (Str.ofString "law_pq1455_01") 626, code := Value.ref 326 } } : Obj) ::
  ({ cls := Value.type "tuple", data := Data.seq #[] } : Obj) ::
  ({ cls := Value.none, data := Data.fields #[] } : Obj) ::
  ({ cls := Value.type "tuple", data := Data.seq #[Value.str (Str.ofString "many") 668, Value.str (Str.ofString "due") 669, Value.str (Str.ofString "sign") 670, Value.str (Str.ofString "row") 671] } : Obj) ::
  ({ cls := Value.type "tuple", data := Data.seq #[] } : Obj) ::
  ({ cls := Value.none, data := Data.func { name := Str.ofString "_law_bare_right", qualname := Str.ofString "_law_bare_right", params := a334, body := FuncBody.stmts b334, scope := c334, globals := 0, closure := [], defaults := Value.none, kwdefaults := Value.none } } : Obj) ::
  ({ cls := Value.type "code", data := Data.fields #[Value.str (Str.ofString "_law_bare_right") 665, Value.str (Str.ofString "_law_bare_right") 666, Value.str (Str.ofString "/claim/cut.py") 667, Value.int 296 0, Value.int 1 0, Value.int 0 0, Value.int 0 0, Value.int 3 0, Value.ref 328, Value.bool true, Value.int 181 0, Value.ref 329, Value.none, Value.ref 330, Value.ref 331, Value.ref 332, Value.int 672 0, Value.int 296 0, Value.str (Str.ofString "/claim/cut.py") 673] } : Obj) ::
  ({ cls := Value.type "function", data := Data.func { name := Str.ofString "_law_bare_right", qualname := Str.ofString "_law_bare_right", params := a334, body := FuncBody.stmts b334, scope := c334, globals := 3, closure := [], defaults := Value.none, kwdefaults := Value.none, pyModule := Value.str (Str.ofString "law_pq1455_01") 626, code := Value.ref 333 } } : Obj) ::
  ({ cls := Value.type "tuple", data := Data.seq #[] } : Obj) ::
  ({ cls := Value.none, data := Data.fields #[] } : Obj) ::
  ({ cls := Value.none, data := Data.func { name := Str.ofString "_law_sum_right", qualname := Str.ofString "_law_sum_right", params := a339, body := FuncBody.stmts b339, scope := c339, globals := 0, closure := [], defaults := Value.none, kwdefaults := Value.none } } : Obj) ::
  ({ cls := Value.type "code", data := Data.fields #[Value.str (Str.ofString "_law_sum_right") 675, Value.str (Str.ofString "_law_sum_right") 676, Value.str (Str.ofString "/claim/cut.py") 677, Value.int 303 0, Value.int 2 0, Value.int 0 0, Value.int 0 0, Value.int 3 0, Value.ref 335, Value.bool true, Value.int 181 0, Value.ref 336, Value.none, Value.none, Value.none, Value.ref 337, Value.int 678 0, Value.int 303 0, Value.str (Str.ofString "/claim/cut.py") 679] } : Obj) ::
  ({ cls := Value.type "function", data := Data.func { name := Str.ofString "_law_sum_right", qualname := Str.ofString "_law_sum_right", params := a339, body := FuncBody.stmts b339, scope := c339, globals := 3, closure := [], defaults := Value.none, kwdefaults := Value.none, pyModule := Value.str (Str.ofString "law_pq1455_01") 626, code := Value.ref 338 } } : Obj) ::
  ({ cls := Value.type "tuple", data := Data.seq #[] } : Obj) ::
  ({ cls := Value.none, data := Data.fields #[] } : Obj) ::
  ({ cls := Value.none, data := Data.func { name := Str.ofString "law", qualname := Str.ofString "law", params := a344, body := FuncBody.stmts b344, scope := c344, globals := 0, closure := [], defaults := Value.none, kwdefaults := Value.none } } : Obj) ::
  ({ cls := Value.type "code", data := Data.fields #[Value.str (Str.ofString "law") 681, Value.str (Str.ofString "law") 682, Value.str (Str.ofString "/claim/cut.py") 683, Value.int 310 0, Value.int 1 0, Value.int 0 0, Value.int 0 0, Value.int 3 0, Value.ref 340, Value.bool true, Value.int 181 0, Value.ref 341, Value.none, Value.none, Value.none, Value.ref 342, Value.int 684 0, Value.int 310 0, Value.str (Str.ofString "/claim/cut.py") 685] } : Obj) ::
  ({ cls := Value.type "function", data := Data.func { name := Str.ofString "law", qualname := Str.ofString "law", params := a344, body := FuncBody.stmts b344, scope := c344, globals := 3, closure := [], defaults := Value.none, kwdefaults := Value.none, pyModule := Value.str (Str.ofString "law_pq1455_01") 626, code := Value.ref 343 } } : Obj) ::
  []
noncomputable def heap1 (p : Params) : Heap := ⟨⟨objs1 p⟩, {}⟩
noncomputable abbrev R0 := PySem.Challenge.rw_pq1455_01.row
theorem run1 (w : World) (os : OsState) : topRun treeTable R0.prog w 11 (some (.ref 6)) 2100 ⟨boot_heap w.params, Array.mk [], boot_drawn, boot_toks, os⟩ (topStub R0.prog) = some ⟨heap1 w.params, Array.mk [], {}, 687, os⟩ := by
  rw [PySem.W.Fast.te14082659384304107361, PySem.W.Fast.te14364793385576792824]
  kernel_rfl
theorem open0 : ∀ w : World, (fencedOpening treeTable R0.prog w 4110).map (fun s => (s.heap, s.gens, s.drawn, s.toks)) = some (boot_heap w.params, Array.mk [], boot_drawn, boot_toks) := by
  refine boot_open ?_ ?_ ?_
  · kernel_rfl
  · rfl
  · intro s; rfl
theorem size0 (w : World) : ((boot_heap w.params).isNs mainGlobals && (Array.mk [] : Array GenState).size == 0, (boot_heap w.params).objs.size, (boot_heap w.params).nsMap mainGlobals "__annotations__") = (true, 11, some (.ref 6)) := by kernel_rfl
noncomputable abbrev H0 : Hook := kHook Mine.K Mine.ks (fun _ => by kernel_rfl)
noncomputable abbrev Xt0 : Shared → Bool := fun s => xlAt Mine.view [] s && recOk (RowW.records R0.toRowW) s
noncomputable abbrev S1 (w : World) (os : OsState) : Shared := ⟨heap1 w.params, Array.mk [], {}, 687, os⟩
theorem lk0 (w : World) (os : OsState) : (staticsOk (importedModules R0.prog.main.body) (boot_heap w.params) (heap1 w.params) && namesBound R0.prog (heap1 w.params) && gensDone (S1 w os) && laidKept (boot_heap w.params) (heap1 w.params)) = true := by kernel_rfl
theorem lk1 (w : World) (os : OsState) : openSeen Mine.view [] (importedModules R0.prog.main.body) Xt0 true (S1 w os) = openGood Mine.view [] := by
  unfold Xt0
  rw [PySem.W.Fast.te4187177175401517315]
  kernel_rfl
theorem lkY (w : World) (os : OsState) : Hook.obs H0 (S1 w os) = Hook.val H0 w := by kernel_rfl
theorem left0 : LeftO PySem.Challenge.rw_pq1455_01.row.prog Mine.view [] Xt0 (Hook.obs H0) (Hook.val H0) 4110 true :=
  LeftO.of_pieces open0 size0 run1 rfl fun w => funext fun os => Prod.ext (lk0 w os) (Prod.ext (lk1 w os) (lkY w os))
theorem said_looks : looksOpen PySem.Challenge.rw_pq1455_01.row.prog = true := by
  rw [PySem.W.Fast.te12908688711261696721]
  kernel_rfl
theorem said_row : PySem.Challenge.rw_pq1455_01.row.wellSaid = true := by
  unfold OpenRow.wellSaid OpenRow.partSaid
  rw [said_looks]
  kernel_rfl
theorem said0 : PySem.Challenge.rw_pq1455_01.wellSaid = true := by
  unfold OpenLaw.wellSaid
  rw [said_row, PySem.W.Fast.te8326940854005059898, PySem.W.Fast.te17119622794617984870]
  kernel_rfl
theorem hw1 : PySem.Challenge.rw_pq1455_01.row.toRowW.promised := by w_witness2
def hd1 := fun (k1 : R0.wellSaid = true) (hw : R0.toRowW.promised) => PySem.W.holds_open (r := R0) (q := Mine.view) (loose := []) (Xt := Xt0) (XP := XL Mine.view []) (Yf := Hook.obs H0) (Ya := Hook.val H0) (YP := Hook.says H0) (N := 4110) left0 (Hook.of H0) (Hook.keeps H0) (fun s e => xl_of s (Bool.and_eq_true_iff.mp e).1) XL.keeps (by rfl) (by rfl) (by rfl) (fun s e => recFacts_of (Bool.and_eq_true_iff.mp e).2) (by rfl) k1 (by decide +kernel) ⟨rfl, rfl, rfl, rfl, rfl, by decide +kernel⟩ hw
/-! ### an exception with a dict of its own in flight -/
section
variable {M : Model} {A : Around} {E : Value → Shared → Prop} {s : Shared} {B : Heap} {env : Env} {outer : List Env} {L e dx : Addr} {cls fl : Value}
def AtD (B : Heap) (e dx : Addr) (cls fl : Value) (h : Heap) : Prop :=
  ∃ oe vs T oT ts, h.get? e = some oe ∧ oe.cls = cls ∧ oe.dict = some dx ∧ oe.data = .fields vs ∧ vs[1]? = some (.ref T) ∧ B.get? T = none ∧ T ≠ e ∧ h.get? T = some oT ∧ oT.data = .fields ts ∧ ts[3]? = some fl
def FlyD (B : Heap) (l : List Env) (e dx : Addr) (cls fl : Value) (h : Heap) : Prop :=
  B.StaysIn h ∧ B.get? e = none ∧ h.FunFrames B l ∧ AtD B e dx cls fl h
theorem FlyD.sub {l : List Env} {h : Heap} (x : FlyD B (env :: l) e dx cls fl h) : FlyD B l e dx cls fl h :=
  ⟨x.1, x.2.1, x.2.2.1.2.2, x.2.2.2⟩
/-- one field of a record changed: everything that is no record stands -/
theorem field_turn {h : Heap} {a : Addr} {oa : Obj} {ws : Array Value} (ha : h.get? a = some oa) (hd : oa.data = .fields ws) (f : Obj → Obj) {b : Addr} {o : Obj} (hb : h.get? b = some o) (hn : ∀ vs, o.data ≠ .fields vs) :
    (h.update a f).get? b = some o := by
  have hne : a ≠ b := fun q => by
    subst q
    rw [ha] at hb
    cases hb
    exact hn _ hd
  exact (Heap.get?_update_other h f hne).trans hb
theorem dict_mapFields (o : Obj) (f : Array Value → Array Value) : (o.mapFields f).dict = o.dict := by
  obtain ⟨c, d, dt, sl⟩ := o
  cases dt <;> rfl
theorem entryD {oe : Obj} {vs : Array Value} {head : Value} {hadNext : Bool} {Q : Unit → Shared → Prop}
    (hfr : A.frames = some (env :: outer)) (hl : s.heap.FunFrames B (env :: outer)) (hf : env.frame = some L) (hk : B.StaysIn s.heap) (hen : B.get? e = none)
    (he : s.heap.get? e = some oe) (hd : oe.data = .fields vs) (hsz : 1 < vs.size) (hdx : oe.dict = some dx)
    (h : ∀ h', FlyD B (env :: outer) e dx oe.cls (rawInt L) h' → s.heap.UpToSlots h' → Q () { s with heap := h' }) :
    wpAny M A (do let a ← frameOf env; let pl ← entryPlaceOf L hadNext; let b ← EntryCells.newEntry head a .none (rawInt L) .none pl; setField (.ref e) 1 b) Q E s := by
  have hout : e ∉ (env :: outer).filterMap (·.frame) := fun hm => by
    obtain ⟨_, o, ho, hnf⟩ := hl.mem hm
    rw [he] at ho
    cases ho
    exact hnf vs hd
  refine wpAny_bind (wpAny_frameOf_fun hfr hl hf fun h₁ z => wpAny_bind (wpAny_entryPlaceOf fun pl hpl => ?_))
  obtain ⟨_, z1, z2⟩ := z
  unfold EntryCells.newEntry newFields
  refine wpAny_bind (wpAny_newObj_type ?_ (hpl.sizeOk5 _ _ _ _ _))
  generalize hts : ([head, .ref L, .none, rawInt L, .none] ++ (if pl.isEmpty then List.replicate 6 Value.none else pl)).toArray = ts
  have hts3 : ts[3]? = some (rawInt L) := by rw [← hts]; simp
  have e1 : h₁.get? e = some oe := (z1 e hout).trans he
  have k1 : B.StaysIn h₁ := fun b o q => (z1 b fun hm => by rw [(hl.mem hm).1] at q; cases q).trans (hk b o q)
  have e2 := Heap.get?_push_of_some (h := h₁) { cls := .type "traceback", dict := none, data := .fields ts } e1
  have hTe : h₁.objs.size ≠ e := Nat.ne_of_gt (Heap.lt_size e1)
  refine wpAny_setField e2 hd hsz (h _ ⟨fun b o q => ?_, hen, ?_, ?_⟩ fun b o q hn => ?_)
  · exact (Heap.get?_update_other _ _ (fun w => by rw [← w, hen] at q; cases q)).trans (Heap.get?_push_of_some _ (k1 b o q))
  · refine hl.of_keeps fun b o q hn => ?_
    obtain ⟨sl, w⟩ := z2 b o q
    exact ⟨_, field_turn e2 hd _ (Heap.get?_push_of_some _ w) hn, rfl⟩
  · exact ⟨_, _, h₁.objs.size, _, ts, Heap.get?_update_self _ e2 (Obj.isFreed_of_fields (Obj.data_mapFields hd _)), Obj.cls_mapFields _ _, (dict_mapFields _ _).trans hdx, Obj.data_mapFields hd _, by simp [hsz], k1.fresh, hTe,
      (Heap.get?_update_other _ _ (Ne.symm hTe)).trans (Heap.get?_push_size h₁ rfl), rfl, hts3⟩
  · obtain ⟨sl, w⟩ := z2 b o q
    exact ⟨sl, field_turn e2 hd _ (Heap.get?_push_of_some _ w) hn⟩
theorem note_first {oe : Obj} {vs : Array Value} {Q : Unit → Shared → Prop}
    (hfr : A.frames = some (env :: outer)) (hl : s.heap.FunFrames B (env :: outer)) (hf : env.frame = some L) (hk : B.StaysIn s.heap) (hen : B.get? e = none)
    (he : s.heap.get? e = some oe) (hd : oe.data = .fields vs) (h1 : vs[1]? = some .none) (hdx : oe.dict = some dx)
    (h : ∀ h', FlyD B (env :: outer) e dx oe.cls (rawInt L) h' → s.heap.UpToSlots h' → Q () { s with heap := h' }) : wpAny M A (noteFrame (.ref e) env) Q E s := by
  unfold noteFrame
  simp only [hf]
  refine wpAny_bind (wpAny_field he hd h1 ?_)
  rw [if_neg (by decide)]
  exact entryD hfr hl hf hk hen he hd (Array.getElem?_eq_some_iff.mp h1).1 hdx h
theorem note_next {Q : Unit → Shared → Prop}
    (hfr : A.frames = some (env :: outer)) (hf : env.frame = some L) (x : FlyD B (env :: outer) e dx cls .none s.heap)
    (h : ∀ h', FlyD B (env :: outer) e dx cls (rawInt L) h' → s.heap.UpToSlots h' → Q () { s with heap := h' }) : wpAny M A (noteFrame (.ref e) env) Q E s := by
  obtain ⟨hk, hen, hl, oe, vs, T, oT, ts, he, rfl, hdx, hd, h1, hT0, hTe, hT, hdT, h3⟩ := x
  unfold noteFrame
  simp only [hf]
  refine wpAny_bind (wpAny_field he hd h1 ?_)
  rw [if_pos (show (Value.ref T != Value.none) = true from by simp)]
  refine wpAny_bind (wpAny_field hT hdT h3 ?_)
  rw [if_neg (show ¬ ((Value.none == rawInt L) = true) from by simp [rawInt])]
  refine wpAny_bind (wpAny_setField hT hdT (Array.getElem?_eq_some_iff.mp h3).1 ?_)
  refine entryD hfr (hl.of_keeps fun b o q hn => ⟨o, field_turn hT hdT _ q hn, rfl⟩) hf
    (fun b o q => (Heap.get?_update_other _ _ (fun w => by rw [← w, hT0] at q; cases q)).trans (hk b o q)) hen ((Heap.get?_update_other _ _ hTe).trans he) hd (Array.getElem?_eq_some_iff.mp h1).1 hdx
    fun h' y u => h h' y fun b o q hn => u b o (field_turn hT hdT _ q hn) hn
theorem note_again {l : List Env} {Q : Unit → Shared → Prop} (hf : env.frame = some L) (x : FlyD B l e dx cls (rawInt L) s.heap) (h : Q () s) : wpAny M A (noteFrame (.ref e) env) Q E s := by
  obtain ⟨hk, hen, hl, oe, vs, T, oT, ts, he, rfl, hdx, hd, h1, hT0, hTe, hT, hdT, h3⟩ := x
  unfold noteFrame
  simp only [hf]
  refine wpAny_bind (wpAny_field he hd h1 ?_)
  rw [if_pos (show (Value.ref T != Value.none) = true from by simp)]
  refine wpAny_bind (wpAny_field hT hdT h3 ?_)
  rw [if_pos (show (rawInt L == rawInt L) = true from by simp)]
  exact wpAny_pure h
theorem land {l : List Env} {Q : Unit → Shared → Prop} (x : FlyD B l e dx cls fl s.heap)
    (h : ∀ h', FlyD B l e dx cls .none h' → s.heap.UpToSlots h' → Q () { s with heap := h' }) : wpAny M A (setFlight (.ref e) none) Q E s := by
  obtain ⟨hk, hen, hl, oe, vs, T, oT, ts, he, rfl, hdx, hd, h1, hT0, hTe, hT, hdT, h3⟩ := x
  have h3' : 3 < ts.size := (Array.getElem?_eq_some_iff.mp h3).1
  unfold setFlight
  refine wpAny_bind (wpAny_field he hd h1 ?_)
  rw [if_pos (show (Value.ref T != Value.none) = true from by simp)]
  refine wpAny_setField hT hdT h3' (h _ ⟨fun b o q => ?_, hen, ?_, ?_⟩ fun b o q hn => ⟨o.slots, field_turn hT hdT _ q hn⟩)
  · exact (Heap.get?_update_other _ _ (fun w => by rw [← w, hT0] at q; cases q)).trans (hk b o q)
  · exact hl.of_keeps fun b o q hn => ⟨o, field_turn hT hdT _ q hn, rfl⟩
  · exact ⟨oe, vs, T, _, _, (Heap.get?_update_other _ _ hTe).trans he, rfl, hdx, hd, h1, hT0, hTe, Heap.get?_update_self _ hT (Obj.isFreed_of_fields (Obj.data_mapFields hdT _)), Obj.data_mapFields hdT _, by simp [h3']⟩
end
/-- raised with a dict, the ground G standing but for the frames' slots -/
def RaisedD (base G : Heap) (l : List Env) (e dx : Addr) (cls : Value) (news : List (Addr × Obj)) (h : Heap) : Prop :=
  ∃ B, base.StaysIn B ∧ (∀ b o, G.get? b = some o → b ∉ l.filterMap (·.frame) → B.get? b = some o) ∧ (∀ q ∈ news, B.get? q.1 = some q.2 ∧ G.get? q.1 = none ∧ base.get? q.1 = none) ∧ FlyD B l e dx cls .none h
section
variable {M : Model} {A : Around} {E : Value → Shared → Prop} {s' : Shared} {base g g₂ h : Heap} {outer : List Env} {L a e dx : Addr} {m : Str → Option Value} {name : Str} {scope : Scope} {cd cls : Value} {Q : Unit → Shared → Prop} {news : List (Addr × Obj)}
/-- the frame that made it -/
theorem leave_first {oe : Obj} {vs : Array Value} (K : Below A base outer g) (F : Fr g L h m) (N : News g L h news) (hkeep : ∀ b o, h.get? b = some o → s'.heap.get? b = some o) (hnew : h.get? e = none)
    (he : s'.heap.get? e = some oe) (hd : oe.data = .fields vs) (h1 : vs[1]? = some .none) (hdx : oe.dict = some dx) (hc : oe.cls = cls)
    (hQ : ∀ h', RaisedD base g outer e dx cls news h' → g.UpToSlots h' → Q () { s' with heap := h' }) (hk : scope.kind = .function := by rfl) :
    wpAny M (A.deeper (envOf name scope L a cd)) (leaving (envOf name scope L a cd) (.ref e)) Q E s' := by
  subst hc
  have K' := K.push (name := name) (a := a) (cd := cd) F hk
  have hin : ∀ env ∈ (envOf name scope L a cd :: outer), ∀ b, env.frame = some b → b ∈ (envOf name scope L a cd :: outer).filterMap (·.frame) := fun env he b hb => List.mem_filterMap.mpr ⟨env, he, hb⟩
  generalize hH : hideAll h ((envOf name scope L a cd :: outer).filterMap (·.frame)) = H
  have st : base.StaysIn H := fun b o q => by
    rw [← hH]
    exact hideAll_get _ (K'.stays b o q) fun hm => by rw [(K'.frames.mem hm).1] at q; cases q
  have sg : ∀ b o, g.get? b = some o → b ∉ outer.filterMap (·.frame) → H.get? b = some o := fun b o q nm => by
    rw [← hH]
    refine hideAll_get _ (F.keep b o q) fun hm => ?_
    rcases kts_mem hm with z | z
    · rw [z, kts_self F] at q; cases q
    · exact nm z
  have sn : ∀ q ∈ news, H.get? q.1 = some q.2 ∧ g.get? q.1 = none ∧ base.get? q.1 = none := fun q hq => by
    refine ⟨?_, (N q hq).2.2, fresh_of_stays K.stays (N q hq).2.2⟩
    rw [← hH]
    refine hideAll_get _ (N q hq).1 fun hm => ?_
    rcases kts_mem hm with z | z
    · exact (N q hq).2.1 z
    · obtain ⟨_, o, ho, _⟩ := K.frames.mem z
      rw [(N q hq).2.2] at ho; cases ho
  have sub : ∀ b o, H.get? b = some o → h.get? b = some o := fun b o q => of_hideAll _ (by rw [hH]; exact q)
  have hen : H.get? e = none := by
    cases q : H.get? e with
    | none => rfl
    | some o => have := sub _ _ q; rw [hnew] at this; cases this
  have fr : s'.heap.FunFrames H (envOf name scope L a cd :: outer) := by
    rw [← hH]
    exact (funFrames_hide K'.frames hin).of_keeps fun b o q _ => ⟨o, hkeep b o q, rfl⟩
  unfold leaving
  refine wpAny_bind (note_first K'.stack fr rfl (fun b o q => hkeep b o (sub b o q)) hen he hd h1 hdx fun h₁ x₁ u₁ => ?_)
  refine land x₁ fun h₂ x₂ u₂ => ?_
  exact hQ h₂ ⟨H, st, sg, sn, x₂.sub⟩ (((Heap.UpToSlots.of_keeps F.keep).trans (Heap.UpToSlots.of_keeps hkeep)).trans (u₁.trans u₂))
/-- a frame that it flies through -/
theorem leave_next (K : Below A base outer g) (F : Fr g L g₂ m) (R : RaisedD base g₂ (envOf name scope L a cd :: outer) e dx cls news s'.heap) (hsm : g₂.UpToSlots s'.heap)
    (hQ : ∀ h', RaisedD base g outer e dx cls news h' → g.UpToSlots h' → Q () { s' with heap := h' }) :
    wpAny M (A.deeper (envOf name scope L a cd)) (leaving (envOf name scope L a cd) (.ref e)) Q E s' := by
  obtain ⟨H, st, sg, sn, x⟩ := R
  unfold leaving
  refine wpAny_bind (note_next (Around.frames_deeper K.stack) rfl x fun h₁ x₁ u₁ => ?_)
  refine land x₁ fun h₂ x₂ u₂ => ?_
  refine hQ h₂ ⟨H, st, fun b o q nm => sg b o (F.keep b o q) fun hm => ?_, fun q hq => ⟨(sn q hq).1, kts_none F.keep (sn q hq).2.1, (sn q hq).2.2⟩, x₂.sub⟩ ((Heap.UpToSlots.of_keeps F.keep).trans (hsm.trans (u₁.trans u₂)))
  rcases kts_mem hm with z | z
  · rw [z, kts_self F] at q; cases q
  · exact nm z
end
/-! ### an own exception class with an __init__ of its own: made -/
abbrev tupleObj (vs : List Value) : Obj := { cls := .type "tuple", data := .seq vs.toArray }
abbrev excObj (C t : Addr) (od : Option Addr) : Obj := { cls := .ref C, dict := od, data := .fields #[.ref t, .none, .none, .none, .bool false, .none] }
section
variable {prog : Program} {w : World} {A : Around} {C N : Addr} {R : Result → Shared → Prop} {h : Heap} {g : Array GenState} {d : Drawn} {t : Nat} {os : OsState}
variable {nm q : Str} {bs bm : List Value} {hdct : Bool} {sn : List Str} {sub : List Value} {ab : Bool} {col : Option Bool} {dd : Option Addr} {k0 k1 k2 k3 k5 : Option Value} {Bs newId initId : String}
theorem make_exc {rest : List Value} {init : Value} (FB : ExcBaseFacts Bs newId initId bm) (hC : h.get? C = some (excClassObj nm q C N bs bm hdct sn sub ab col dd k0 k1 k2 k3 k5 newId))
    (call : Looks (model prog w) h (specialOf (.ref C) "__call__") (some (.builtin "type.__call__"))) (typ : Looks (model prog w) h (isInstance (.ref C) (.type "type")) true)
    (self : Looks (model prog w) h (isSubtype (.ref C) (.ref C)) true) (hi : Looks (model prog w) h (typeLookup (.ref C) "__init__") (some init)) (hb : ∀ self, Looks (model prog w) h (bindSpecial init self) (init, [self]))
    (hrest : rest.length ≤ sizeLine)
    (hq : codeAny (model prog w) (A.under (.builtin "type.__call__" ⟨.ref C :: rest, []⟩)) (.call init ⟨.ref (h.objs.size + 1) :: rest, []⟩) (InitBack (h.objs.size + 1) R) ⟨(h.push (tupleObj rest)).push (excObj C h.objs.size none), g, d, t, os⟩) :
    codeAny (model prog w) A (.call (.ref C) ⟨rest, []⟩) R ⟨h, g, d, t, os⟩ := by
  refine codeAny_of_tree ?_
  show wpAny _ _ (callAny (.ref C) _) _ _ _
  refine nd_load hC ?_
  show wpAny _ _ (callAny.viaDunder (.ref C) _) _ _ _
  unfold callAny.viaDunder
  refine wpAny_bind (call.at ?_)
  dsimp only
  rw [tc_bind]
  refine wpAny_bind (wpAny_pure (wpAny_bind (wpAny_pure ?_)))
  refine wpAny_pure (a := Fin.again (.call (.builtin "type.__call__") ⟨.ref C :: rest, []⟩)) (And.intro rfl ?_)
  refine codeAny_call_builtin_at (Code.quiet_builtin _ (by decide +kernel)) entry_typeCall (check_slot tc_kind tc_split typ (tc_args _ _ _) ?_)
  unfold Builtin.«type.__call__»
  repeat (first | with_reducible refine wpAny_loadPart_at hC ?_ | with_reducible refine wpAny_madeBy_exc hC ?_ | with_reducible refine wpAny_mroOf_exc hC ?_ | wp_step)
  refine codeAny_call_builtin_code (Code.quiet_builtin _ FB.quiet) (wpAny_check_new_sub FB hC ?_)
  refine codeAny_exc_new_sub FB hC ?_ hrest
  have k : ∀ b o, h.get? b = some o → ((h.push (tupleObj rest)).push (excObj C h.objs.size none)).get? b = some o := fun b o e => Heap.get?_push_of_some _ (Heap.get?_push_of_some _ e)
  have hx : ((h.push (tupleObj rest)).push (excObj C h.objs.size none)).get? (h.objs.size + 1) = some (excObj C h.objs.size none) := by heap_get
  have t1 : Looks (model prog w) ((h.push (tupleObj rest)).push (excObj C h.objs.size none)) (typeOf (.ref (h.objs.size + 1))) (.ref C) := (Looks.ld hx).andThen .now
  have s1 := self.keeps k
  have i1 := hi.keeps k
  have b1 := (hb (.ref (h.objs.size + 1))).keeps k
  show wpAny _ _ _ _ _ _
  unfold isInstance callSpecial? specialOf
  repeat (first | with_reducible refine wpAny_call ?_ | lk)
  refine codeAny_mono hq fun r s' z => ?_
  rcases r with e | (v | _ | _ | _) <;> first | exact z | exact z.elim | skip
  obtain ⟨rfl, z⟩ := z
  exact wpAny_pure (wpAny_pure z)
end
section
variable {prog : Program} {w : World} {A : Around} {E : Value → Shared → Prop} {h : Heap} {g : Array GenState} {d : Drawn} {t : Nat} {os : OsState} {x : Addr} {o : Obj}
  {nm q : Str} {C N : Addr} {bs bm : List Value} {sn : List Str} {sub : List Value} {ab : Bool} {col : Option Bool} {dd : Option Addr} {k0 k1 k2 k3 k5 : Option Value} {Bs newId : String} {mN mA : Str → Option Value} {name : Str} {v : Value}
/-- an attribute that stands in the exception's own dict -/
theorem own_entry {tk : Tok} {dx : Addr} {Q : Fin → Shared → Prop} (FB : ExcAttrBase Bs bm) (hC : h.get? C = some (excClassObj nm q C N bs bm true sn sub ab col dd k0 k1 k2 k3 k5 newId)) (hN : h.Ns N mN)
    (hna : mN name = none) (hB : typeLookup (.type Bs) name = pure none) (hx : h.get? x = some o) (hc : o.cls = .ref C) (hnc : ∀ c, o.data ≠ .cls c) (hd : o.dict = some dx) (hD : h.Ns dx mA) (hv : mA name = some v) (hq : Q (.done (.ret v)) ⟨h, g, d, t, os⟩) :
    wpAny (model prog w) A (Builtin.«object.__getattribute__» ⟨[.ref x, .str name tk], []⟩) Q E ⟨h, g, d, t, os⟩ := by
  repeat (any_goals (first | assumption | (with_reducible refine wpAny_loadPart_at hx ?_; rw [hc]) | (with_reducible refine wpAny_typeLookup_exc hC hN FB.mro hB ?_; rw [hna]) | wp_step))
  split
  · rename_i c hcd
    exact absurd hcd (hnc c)
  unfold instanceDict
  repeat (any_goals (first | assumption | (with_reducible refine wpAny_loadPart_at hx ?_; rw [hc]) | with_reducible refine wpAny_loadPart_at hC ?_ | wp_step))
  rw [hd]
  repeat (first | (with_reducible refine wpAny_nsGet hD ?_; rw [hv]) | wp_step)
  exact hq
theorem check_own {M : Model} {nameV : Value} {Q : Unit → Shared → Prop} (FB : ExcAttrBase Bs bm) (hC : h.get? C = some (excClassObj nm q C N bs bm true sn sub ab col dd k0 k1 k2 k3 k5 newId))
    (hx : h.get? x = some o) (hc : o.cls = .ref C) (hq : Q () ⟨h, g, d, t, os⟩) : wpAny M A (checkBuiltinCall "BaseException.__getattribute__" ⟨[.ref x, nameV], []⟩) Q E ⟨h, g, d, t, os⟩ := by
  have hk : builtinKind "BaseException.__getattribute__" = some .slot := by decide +kernel
  have hsplit : splitId "BaseException.__getattribute__" = some ("BaseException", "__getattribute__") := by decide +kernel
  have hcB : (Value.ref C :: bm).contains (.type "BaseException") = true := by rw [List.contains_cons, FB.hasBase]; rfl
  have ha := PySem.F.args_bexc_ga (.ref x) nameV
  simp only [checkBuiltinCall, hk, hsplit]
  refine wpAny_bind ?_
  unfold isInstance
  repeat (first | (with_reducible refine wpAny_loadPart_at hx ?_; rw [hc]) | (with_reducible refine wpAny_isSubtype_exc hC ?_; rw [hcB]) | wp_step)
  exact hq
theorem own_attr {dx : Addr} {expr : Bool} {Q : Value → Shared → Prop} (FB : ExcAttrBase Bs bm) (hC : h.get? C = some (excClassObj nm q C N bs bm true sn sub ab col dd k0 k1 k2 k3 k5 newId)) (hN : h.Ns N mN)
    (hna : mN name = none) (hng : mN "__getattribute__" = none) (hnh : mN "__getattr__" = none) (hB : typeLookup (.type Bs) name = pure none) (hx : h.get? x = some o) (hc : o.cls = .ref C) (hnc : ∀ c, o.data ≠ .cls c) (hd : o.dict = some dx) (hD : h.Ns dx mA) (hv : mA name = some v)
    (hh : handedOut v = pure v) (hq : ∀ tk, Q v ⟨h, g, d, tk, os⟩) :
    wpAny (model prog w) A (getAttr (.ref x) name expr) Q E ⟨h, g, d, t, os⟩ := by
  have f3 := FB.ga.bind (.ref x)
  have hx0 : (expr && onTheHeap (Value.builtin "BaseException.__getattribute__")) = false := by cases expr <;> rfl
  have hx2 : (Value.builtin "BaseException.__getattribute__" == Value.builtin "object.__getattribute__") = false := by decide +kernel
  have hx1 : (onTheHeap (Value.ref C) && Value.builtin "BaseException.__getattribute__" == Value.builtin "object.__getattribute__") = false := by rw [hx2]; rfl
  unfold getAttr getAttrBy
  repeat (any_goals (first | assumption | (with_reducible refine wpAny_loadPart_at hx ?_; rw [hc]) | (with_reducible refine wpAny_typeLookup_exc hC hN FB.mro FB.ga.lookup ?_; rw [hng]) | (with_reducible refine wpAny_typeLookup_exc hC hN FB.mro FB.noGetattr ?_; rw [hnh]) | wp_step))
  refine codeAny_call_builtin FB.ga.plain PySem.F.entry_bexc_ga (check_own FB hC hx hc (own_entry FB hC hN hna hB hx hc hnc hd hD hv ?_))
  repeat (any_goals (first | assumption | wp_step))
  exact hq _
end
section
variable {prog : Program} {w : World} {A : Around} {E : Value → Shared → Prop} {h : Heap} {g : Array GenState} {d : Drawn} {t : Nat} {os : OsState} {x : Addr} {o : Obj}
  {nm q : Str} {C N : Addr} {bs bm : List Value} {sn : List Str} {sub : List Value} {ab : Bool} {col : Option Bool} {dd : Option Addr} {k0 k1 k2 k3 k5 : Option Value} {Bs newId sa owner : String} {mN : Str → Option Value} {name : Str} {v : Value}
/-- an object without a dict gets one, with one name -/
theorem new_entry {tk : Tok} {Q : Fin → Shared → Prop} (SF : StoreFacts Bs bm sa owner) (hC : h.get? C = some (excClassObj nm q C N bs bm true sn sub ab col dd k0 k1 k2 k3 k5 newId)) (hN : h.Ns N mN)
    (hna : mN name = none) (hB : typeLookup (.type Bs) name = pure none) (hx : h.get? x = some o) (hc : o.cls = .ref C) (hnc : ∀ c, o.data ≠ .cls c) (hdn : o.dict = none) (hfr : ({ o with dict := some h.objs.size } : Obj).isFreed = false)
    (hq : ∀ h' tk', (∀ b ob, b ≠ x → h.get? b = some ob → h'.get? b = some ob) → h'.get? x = some { o with dict := some h.objs.size } → h'.Ns h.objs.size (fun y => if y = name then some v else none) → Q (.done (.ret .none)) ⟨h', g, d, tk', os⟩) :
    wpAny (model prog w) A (Builtin.«object.__setattr__» ⟨[.ref x, .str name tk, v], []⟩) Q E ⟨h, g, d, t, os⟩ := by
  have hpass := SF.passes (.ref x)
  unfold Builtin.«object.__setattr__»
  repeat (first | rw [refuse_eq] | (rw [refuseLoop_ref, hpass]) | (with_reducible refine wpAny_loadPart_at hx ?_; rw [hc]) | with_reducible refine wpAny_mroOf_exc hC ?_ | (with_reducible refine wpAny_typeLookup_exc hC hN SF.mro hB ?_; rw [hna]) | wp_step)
  rw [hdn, if_neg (by simp [typeHasDict])]
  split
  · rename_i hcd
    cases hcd
  split
  · rename_i c hcd
    exact absurd hcd (hnc c)
  have hx₁ := Heap.get?_push_of_some { cls := .type "dict", data := .dict #[] } hx
  have hne : x ≠ h.objs.size := Nat.ne_of_lt (Heap.lt_size hx)
  refine wpAny_bind (wpAny_alloc' (wpAny_bind (wpAny_update' hx₁ (wpAny_pure ?_))))
  generalize hH : ((h.push { cls := .type "dict", data := .dict #[] }).update x fun o => { cls := o.cls, dict := some h.objs.size, data := o.data, slots := o.slots }) = H
  have eD : H.get? h.objs.size = some { cls := .type "dict", data := .dict #[] } := by
    rw [← hH]
    exact (Heap.get?_update_other _ _ hne).trans (Heap.get?_push_at rfl rfl)
  have eX : H.get? x = some { o with dict := some h.objs.size } := by
    rw [← hH]
    exact Heap.get?_update_self _ hx₁ hfr
  have eO : ∀ b ob, b ≠ x → h.get? b = some ob → H.get? b = some ob := fun b ob n e => by
    rw [← hH]
    exact (Heap.get?_update_other _ _ (Ne.symm n)).trans (Heap.get?_push_of_some _ e)
  have nD : H.Ns h.objs.size (fun _ => none) := ⟨_, #[], _, eD, rfl, fun e he => absurd he (by simp), fun _ => rfl⟩
  show wpAny _ _ (Builtin.ObjectAttr.storeInDict h.objs.size (.str name tk) name v) _ _ _
  unfold Builtin.ObjectAttr.storeInDict Builtin.ObjectAttr.newKeyGuard
  refine wpAny_bind (wpAny_pure (wpAny_bind (wpAny_nsSet1 (Heap.Ns1.of_empty nD) fun h' hn' hs => ?_)))
  obtain ⟨oD, esD, epD, hoD, hdD, hcD⟩ := hn'.count (Within.cons name v Within.nil)
  refine wpAny_bind (wpAny_lookBehind hoD (by rw [hdD]; exact pastItsLine_dict (Nat.le_trans hcD (by rw [List.length_cons, List.length_nil, sizeLine_eq]; omega))) ?_)
  wp_walk
  exact hq h' _ (fun b ob n e => (hs.2 b (Nat.ne_of_lt (Heap.lt_size e))).trans (eO b ob n e)) ((hs.2 x hne).trans eX) hn'.ns
theorem new_attr {Q : Unit → Shared → Prop} (SF : StoreFacts Bs bm sa owner) (hC : h.get? C = some (excClassObj nm q C N bs bm true sn sub ab col dd k0 k1 k2 k3 k5 newId)) (hN : h.Ns N mN)
    (hna : mN name = none) (hns : mN "__setattr__" = none) (hB : typeLookup (.type Bs) name = pure none) (hx : h.get? x = some o) (hc : o.cls = .ref C) (hnc : ∀ c, o.data ≠ .cls c) (hdn : o.dict = none) (hfr : ({ o with dict := some h.objs.size } : Obj).isFreed = false)
    (hq : ∀ h' tk', (∀ b ob, b ≠ x → h.get? b = some ob → h'.get? b = some ob) → h'.get? x = some { o with dict := some h.objs.size } → h'.Ns h.objs.size (fun y => if y = name then some v else none) → Q () ⟨h', g, d, tk', os⟩) :
    wpAny (model prog w) A (setAttr (.ref x) name v) Q E ⟨h, g, d, t, os⟩ := by
  have f3 := SF.slot.bind (.ref x)
  unfold setAttr callSpecial? specialOf
  repeat (any_goals (first | assumption | (with_reducible refine wpAny_loadPart_at hx ?_; rw [hc]) | (with_reducible refine wpAny_typeLookup_exc hC hN SF.mro SF.slot.lookup ?_; rw [hns]) | wp_step))
  refine codeAny_call_builtin SF.slot.plain SF.entry (wpAny_check_sa SF hC hx hc (new_entry SF hC hN hna hB hx hc hnc hdn hfr fun h' tk' k1 k2 k3 => ?_))
  repeat (any_goals (first | assumption | wp_step))
  exact hq h' tk' k1 k2 k3
end
/-! ### BasicError, in the frame's own words -/
theorem cls31 (w : World) : (Mine.K w.params).lookup 31 = some (excClassObj "BasicError" "BasicError" 31 30 [.type "Exception"] [.type "Exception", .type "BaseException", .type "object"] true [] [] false none none (some (.ref 15)) none (some (.str "BasicError" 193)) (some (.str "BasicError" 201)) (some (.bool true)) "Exception.__new__") := by with_unfolding_all rfl
theorem ns30 (w : World) : nsOkIn (Mine.K w.params) 30 = true := by with_unfolding_all rfl
theorem ns30_none {w : World} {h : Heap} (X : (Mine.K w.params).In h) {n : Str} (e : nsIn (Mine.K w.params) 30 n = some none) : h.nsMap 30 n = none := nsMap_none_of_in X (ns30 w) e
theorem ns30_kind (w : World) : nsIn (Mine.K w.params) 30 "kind" = some none := by with_unfolding_all rfl
theorem ns30_sa (w : World) : nsIn (Mine.K w.params) 30 "__setattr__" = some none := by with_unfolding_all rfl
theorem ns30_ga (w : World) : nsIn (Mine.K w.params) 30 "__getattribute__" = some none := by with_unfolding_all rfl
theorem ns30_gh (w : World) : nsIn (Mine.K w.params) 30 "__getattr__" = some none := by with_unfolding_all rfl
theorem exc_kind : typeLookup (.type "Exception") "kind" = pure none := by rw [typeLookup_type, builtinLookup_eq_fast]; kernel_rfl
theorem find_call (w : World) : specialIn (Mine.K w.params) (.ref 31) "__call__" = some (some (.builtin "type.__call__")) := by with_unfolding_all rfl
theorem find_inst (w : World) : instIn (Mine.K w.params) (.ref 31) (.type "type") = some true := by with_unfolding_all rfl
theorem find_self (w : World) : mroIn (Mine.K w.params) 31 (.ref 31) = some true := by with_unfolding_all rfl
theorem find_init (w : World) : findIn (Mine.K w.params) (.ref 31) "__init__" = some (some (.ref 28)) := by with_unfolding_all rfl
theorem type28 (w : World) : typeIn (Mine.K w.params) (.ref 28) = some (.type "function") := by with_unfolding_all rfl
/-- an object that is the dict with the one name kind -/
def KindObj (D : Obj) (v : Value) : Prop := ∀ (h : Heap) (dx : Addr), h.get? dx = some D → h.Ns dx (fun y => if y = ("kind" : Str) then some v else none)
section
variable {prog : Program} {w : World} {A : Around} {E : Value → Shared → Prop} {s : Shared} {h₀ : Heap} {L : Addr} {m : Str → Option Value} {news : List (Addr × Obj)}
theorem call_clsE {pos : List Value} {Q : Value → Shared → Prop} (F : Fr h₀ L s.heap m) (X₀ : (Mine.K w.params).In h₀) (N : News h₀ L s.heap news) (hz : pos.length ≤ sizeLine)
    (h : ∀ x t h', Fr h₀ L h' m → News h₀ L h' ((x, excObj 31 t none) :: (t, tupleObj pos) :: news) → (∀ p ∈ (t, tupleObj pos) :: news, p.1 ≠ x) →
      codeAny (model prog w) (A.under (.builtin "type.__call__" ⟨.ref 31 :: pos, []⟩)) (.call (.ref 28) ⟨.ref x :: pos, []⟩) (InitBack x fun r s' => match r with | .ok (.ret v) => Q v s' | .ok _ => False | .error e => E e s') { s with heap := h' }) :
    wpAny (model prog w) A (call (.ref 31) pos []) Q E s := by
  have X := X₀.keeps F.keep
  obtain ⟨hh, g, d, t, os⟩ := s
  refine wpAny_call (make_exc PySem.F.excBase_Exception (X _ _ (cls31 w)) (looks_specialIn X (find_call w)) (looks_instIn X (find_inst w)) (looks_mroIn X (find_self w)) (looks_findIn X (find_init w)) (fun self => bind_fn X self (type28 w)) hz
    (h _ hh.objs.size _ ((F.push _).push _) ?_ (fun p hp => ?_)))
  case refine_2 =>
    rcases List.mem_cons.mp hp with rfl | hp
    · exact Nat.ne_of_lt (Nat.lt_succ_self _)
    · exact Nat.ne_of_lt (Nat.lt_succ_of_lt (Heap.lt_size (N p hp).1))
  have := (N.push F (tupleObj pos)).push (F.push _) (excObj 31 hh.objs.size none)
  rwa [Heap.size_push] at this
theorem set_kind {x t : Addr} {rest : List (Addr × Obj)} {v : Value} {Q : Unit → Shared → Prop} (F : Fr h₀ L s.heap m) (X₀ : (Mine.K w.params).In h₀) (N : News h₀ L s.heap ((x, excObj 31 t none) :: rest)) (hr : ∀ p ∈ rest, p.1 ≠ x)
    (h : ∀ dx D h' tk, KindObj D v → dx ≠ x → Fr h₀ L h' m → News h₀ L h' ((x, excObj 31 t (some dx)) :: (dx, D) :: rest) → Q () { s with heap := h', toks := tk }) :
    wpAny (model prog w) A (setAttr (.ref x) "kind" v) Q E s := by
  have X := X₀.keeps F.keep
  obtain ⟨hh, g, d, tk, os⟩ := s
  have hx := (N _ (.head _)).1
  refine new_attr PySem.F.store_Exception (X _ _ (cls31 w)) (.of_isNs (isNs_of_in X (ns30 w))) (ns30_none X (ns30_kind w)) (ns30_none X (ns30_sa w)) exc_kind hx rfl (fun c q => by cases q) rfl rfl fun h' tk' k1 k2 k3 => ?_
  obtain ⟨D, es, ep, hD, hd, hk, hf⟩ := k3
  have hxL : L ≠ x := fun e => (N _ (.head _)).2.1 e.symm
  have hd0 : h₀.get? hh.objs.size = none := none_at_size F
  refine h hh.objs.size D h' tk' (fun h'' dx e => ⟨_, es, ep, e, hd, hk, hf⟩) (Nat.ne_of_gt (Heap.lt_size hx)) ⟨?_, fun b o e => k1 b o (fun q => by rw [q, (N _ (.head _)).2.2] at e; cases e) (F.keep b o e), F.above⟩ fun p hp => ?_
  · obtain ⟨oL, a1, a2, hL, a3⟩ := F.ns
    exact ⟨oL, a1, a2, k1 _ _ hxL hL, a3⟩
  · rcases List.mem_cons.mp hp with rfl | hp
    · exact ⟨k2, (N _ (.head _)).2⟩
    · rcases List.mem_cons.mp hp with rfl | hp
      · exact ⟨hD, Nat.ne_of_gt F.ns.lt, hd0⟩
      · exact ⟨k1 _ _ (hr p hp) (N p (.tail _ hp)).1, (N p (.tail _ hp)).2⟩
theorem get_kind {x dx t : Addr} {D : Obj} {oe : Obj} {vs : Array Value} {v : Value} {expr : Bool} {Q : Value → Shared → Prop} (F : Fr h₀ L s.heap m) (X₀ : (Mine.K w.params).In h₀) (hx : s.heap.get? x = some oe) (hc : oe.cls = .ref 31) (hf : oe.data = .fields vs) (hd : oe.dict = some dx)
    (hD : s.heap.get? dx = some D) (hK : KindObj D v) (hh : handedOut v = pure v) (h : ∀ tk, Q v { s with toks := tk }) :
    wpAny (model prog w) A (getAttr (.ref x) "kind" expr) Q E s := by
  have X := X₀.keeps F.keep
  obtain ⟨hp, g, d, tk, os⟩ := s
  exact own_attr PySem.F.attrBase_Exception (X _ _ (cls31 w)) (.of_isNs (isNs_of_in X (ns30 w))) (ns30_none X (ns30_kind w)) (ns30_none X (ns30_ga w)) (ns30_none X (ns30_gh w)) exc_kind hx hc (fun c q => by rw [hf] at q; cases q) hd (hK _ _ hD) (if_pos rfl) hh fun tk => h tk
end
/-! ### the raise -/
def RaisableD (E : Value → Shared → Prop) (v : Value) (s₁ : Shared) : Prop :=
  ∃ x t dx, v = .ref x ∧ (∃ nm q C N bs bm hdct sn sub ab col dd k0 k1 k2 k3 k5 newId, s₁.heap.get? C = some (excClassObj nm q C N bs bm hdct sn sub ab col dd k0 k1 k2 k3 k5 newId) ∧ bm.contains (.type "BaseException") = true ∧ s₁.heap.get? x = some (excObj C t (some dx))) ∧ E (.ref x) s₁
theorem Raise_D {M : Model} {A : Around} {E : Value → Shared → Prop} {s : Shared} {env : Env} {e : PySem.Expr} {pos : Pos} {Q : Flow → Shared → Prop} (hh : A.handled = none)
    (h : wpAny M A (eval e env) (RaisableD E) E s) : wpAny M A (exec (.Raise (some e) none pos) env) Q E s := by
  show wpAny M A (do standAt pos; raiseStmt env (some (do let v ← eval e env; standAt pos; pure v)) none) Q E s
  refine wpAny_bind (wpAny_standAt ?_)
  unfold raiseStmt
  refine wpAny_bind (wpAny_bind (wpAny_mono h (fun v s₁ h₁ => wpAny_bind (wpAny_standAt (wpAny_pure ?_))) fun _ _ x => x))
  obtain ⟨x, t, dx, rfl, ⟨nm, q, C, N, bs, bm, hdct, sn, sub, ab, col, dd, k0, k1, k2, k3, k5, newId, hC, hb, hx⟩, hE⟩ := h₁
  have hcB : (Value.ref C :: bm).contains (.type "BaseException") = true := by rw [List.contains_cons, hb, Bool.or_true]
  obtain ⟨hp, g, d, tk, os⟩ := s₁
  repeat (first | with_reducible refine wpAny_loadPart_at hx ?_ | with_reducible refine wpAny_loadPart_at hC ?_ | (with_reducible refine wpAny_isSubtype_exc hC ?_; rw [hcB]) | wp_step)
  exact wpAny_raiseNew_none hh hE
theorem raisable31 {E : Value → Shared → Prop} {s : Shared} {w : World} {h₀ : Heap} {L : Addr} {m : Str → Option Value} {x t dx : Addr} {rest : List (Addr × Obj)} (F : Fr h₀ L s.heap m) (X₀ : (Mine.K w.params).In h₀) (N : News h₀ L s.heap ((x, excObj 31 t (some dx)) :: rest)) (h : E (.ref x) s) : RaisableD E (.ref x) s := by
  have X := X₀.keeps F.keep
  exact ⟨x, t, dx, rfl, ⟨_, _, _, _, _, _, _, _, _, _, _, _, _, _, _, _, _, _, X _ _ (cls31 w), by decide +kernel, (N _ (.head _)).1⟩, h⟩
/-! ### in flight, as a contract says it -/
def RErr (k : Str) (base h₀ : Heap) (L : Addr) (m : Str → Option Value) (l : List Env) (news : List (Addr × Obj)) (e : Addr) (h' : Heap) : Prop :=
  ∃ dx D u G, KindObj D (.str k u) ∧ Fr h₀ L G m ∧ RaisedD base G l e dx (.ref 31) ((dx, D) :: news) h' ∧ G.UpToSlots h'
theorem RaisedD.sub {base G : Heap} {l : List Env} {e dx : Addr} {cls : Value} {news news' : List (Addr × Obj)} {h : Heap} (R : RaisedD base G l e dx cls news h) (hs : ∀ p ∈ news', p ∈ news) : RaisedD base G l e dx cls news' h :=
  let ⟨B, a, b, c, d⟩ := R; ⟨B, a, b, fun q hq => c q (hs q hq), d⟩
section
variable {M : Model} {A : Around} {E : Value → Shared → Prop} {s' : Shared} {base h₀ g : Heap} {outer : List Env} {L Lc a e dx t : Addr} {m mc : Str → Option Value} {name : Str} {scope : Scope} {cd : Value} {Q : Unit → Shared → Prop} {news news' : List (Addr × Obj)} {k : Str} {D : Obj} {u : Tok}
theorem leave_made (K : Below A base outer g) (F : Fr g L s'.heap m) (N : News g L s'.heap ((e, excObj 31 t (some dx)) :: (dx, D) :: news)) (hne : ∀ p ∈ news, p.1 ≠ e) (hde : dx ≠ e) (hK : KindObj D (.str k u)) (FG : Fr h₀ Lc g mc) (hs : ∀ p ∈ news', p ∈ news)
    (hQ : ∀ h', RErr k base h₀ Lc mc outer news' e h' → Q () { s' with heap := h' }) (hk : scope.kind = .function := by rfl) :
    wpAny M (A.deeper (envOf name scope L a cd)) (leaving (envOf name scope L a cd) (.ref e)) Q E s' := by
  have n1 := N _ (.head _)
  have hLe : L ≠ e := fun q => n1.2.1 q.symm
  have hid : ∀ b o, b ≠ e → s'.heap.get? b = some o → (s'.heap.hide e).get? b = some o := fun b o n q => (Heap.hide_ne s'.heap n).trans q
  have F' : Fr g L (s'.heap.hide e) m := by
    refine ⟨?_, fun b o q => hid b o (fun z => by rw [z, n1.2.2] at q; cases q) (F.keep b o q), F.above⟩
    obtain ⟨oL, a1, a2, hL, a3⟩ := F.ns
    exact ⟨oL, a1, a2, hid _ _ hLe hL, a3⟩
  have N' : News g L (s'.heap.hide e) ((dx, D) :: news) := fun p hp => by
    have z := N p (.tail _ hp)
    refine ⟨hid _ _ ?_ z.1, z.2⟩
    rcases List.mem_cons.mp hp with rfl | hp
    · exact hde
    · exact hne p hp
  refine leave_first (cls := .ref 31) K F' N' (fun b o q => Heap.of_hide q) (Heap.hide_self s'.heap e) n1.1 rfl rfl rfl rfl (fun h' R z => ?_) hk
  exact hQ h' ⟨dx, D, u, g, hK, FG, R.sub fun p hp => (List.mem_cons.mp hp).elim (fun q => by rw [q]; exact .head _) fun q => .tail _ (hs p q), z⟩
theorem leave_fly (K : Below A base outer g) (R : RErr k base g L m (envOf name scope L a cd :: outer) news e s'.heap) (FG : Fr h₀ Lc g mc) (hs : ∀ p ∈ news', p ∈ news)
    (hQ : ∀ h', RErr k base h₀ Lc mc outer news' e h' → Q () { s' with heap := h' }) :
    wpAny M (A.deeper (envOf name scope L a cd)) (leaving (envOf name scope L a cd) (.ref e)) Q E s' := by
  obtain ⟨dx, D, u, G, hK, F, R, z⟩ := R
  refine leave_next K F R z fun h' R' z' => ?_
  exact hQ h' ⟨dx, D, u, g, hK, FG, R'.sub fun p hp => (List.mem_cons.mp hp).elim (fun q => by rw [q]; exact .head _) fun q => .tail _ (hs p q), z'⟩
end
section
variable {prog : Program} {w : World} {A₀ : Around} {E : Value → Shared → Prop} {s' : Shared} {base g g₀ : Heap} {outer : List Env} {L a e : Addr} {m : Str → Option Value} {name : Str} {scope : Scope} {cd : Value}
  {n k : Str} {b₀ : Stmt} {suite : List Stmt} {pos np : Pos} {rest : List ExceptHandler} {Q : Flow → Shared → Prop} {news : List (Addr × Obj)} {p : Program} {loose : List Str} {mean : ExcName → Option Value} {mg mb : Str → Option Value} {x : Str}
/-- the frame's own try takes it -/
theorem caught_31 (R : RErr k base g L m (envOf name scope L a cd :: outer) news e s'.heap) (K : Below A₀ base outer g) (XB : (Mine.K w.params).In base) (TB : Top p loose mean mg mb base)
    (T0 : KtsTurn (outer.filterMap (·.frame)) g₀ g) (ex : nsIn (Mine.K w.params) mainGlobals x = some (some (.ref 31)))
    (kk : ∀ h' g' tk oe vs dx D u, KtsTurn (outer.filterMap (·.frame)) g₀ g' → Fr g' L h' (fun y => if y = n then some (.ref e) else m y) → News g' L h' ((e, oe) :: (dx, D) :: news) → oe.cls = .ref 31 → oe.data = .fields vs → oe.dict = some dx → KindObj D (.str k u) →
      Below A₀ base outer g' → (Mine.K w.params).In g' → Top p loose mean mg mb g' →
      wpAny (model prog w) ((A₀.deeper (envOf name scope L a cd)).mark (some (.ref e))) (execs (b₀ :: suite) (envOf name scope L a cd))
        (fun f s₄ => wpAny (model prog w) (A₀.deeper (envOf name scope L a cd)) (do bindName (envOf name scope L a cd) n .none; unbindBehindTheSuite (envOf name scope L a cd) n pos) (fun _ s₅ => Q f s₅) E s₄)
        (AsSuiteRaised (model prog w) ((A₀.deeper (envOf name scope L a cd)).mark (some (.ref e))) (envOf name scope L a cd) n pos (notedBy (model prog w) ((A₀.deeper (envOf name scope L a cd)).mark (some (.ref e))) (envOf name scope L a cd) (cameBackBy (model prog w) (A₀.deeper (envOf name scope L a cd)) (envOf name scope L a cd) E)))
        { s' with heap := h', toks := tk })
    (hk : scope.kind = .function := by rfl) (hlo : (envOf name scope L a cd).kindOf n = some .local := by rfl) (hx : (envOf name scope L a cd).kindOf x = some .globalImplicit := by rfl) (hd : (x == ("__debug__" : Str)) = false := by decide) :
    wpAny (model prog w) (A₀.deeper (envOf name scope L a cd)) (noteFrame (.ref e) (envOf name scope L a cd))
      (fun _ s₂ => wpAny (model prog w) (A₀.deeper (envOf name scope L a cd)) (setFlight (.ref e) none) (fun _ s₃ =>
        wpAny (model prog w) (A₀.deeper (envOf name scope L a cd)) (handleBy (.ref e) (envOf name scope L a cd) (.ExceptHandler (some (.Name x np)) (some n) (b₀ :: suite) pos :: rest)) Q E s₃) E s₂) E s' := by
  obtain ⟨dx, D, u, G, hKD, F, ⟨B, hB, hBG, hl, hfl⟩, hsm⟩ := R
  have hL : B.get? L = none := by
    obtain ⟨_, ⟨L', _, hf, hn', _⟩, _⟩ := hfl.2.2.1
    obtain rfl : L = L' := Option.some.inj hf
    exact hn'
  refine note_next (Around.frames_deeper K.stack) rfl hfl fun h₁ x₁ u₁ => ?_
  refine land x₁ fun h₂ x₂ u₂ => ?_
  have u₁₂ := u₁.trans u₂
  obtain ⟨g₂, T₂, F₂, K₂⟩ := kts_ground K F hBG x₂.1 (hsm.trans u₁₂)
  have X₂ : (Mine.K w.params).In g₂ := XB.keeps K₂.stays
  have P₂ : TopRead p loose mg mb g₂ := topRead_of (TB.keeps K₂.stays)
  obtain ⟨oe, vs, T, oT, ts, he, hec, hedx, hed, hrest⟩ := x₂.2.2.2
  have hC₂ := F₂.keep _ _ (X₂ _ _ (cls31 w))
  refine wpAny_handleBy_cons (codeAny_handlers_test (name_K F₂ X₂ P₂ ex ?_ hk hx hd)) (by intro q; cases q)
  refine wpAny_excMatches_sub_self hC₂ he hec (by decide +kernel) (codeAny_handlers_suite_as ?_)
  refine land x₂ fun h₃ x₃ u₃ => ?_
  obtain ⟨g₃, T₃, F₃, K₃⟩ := kts_ground K F hBG x₃.1 (hsm.trans (u₁₂.trans u₃))
  obtain ⟨oe', vs', T', oT', ts', he', hec', hedx', hed', hrest'⟩ := x₃.2.2.2
  have ne₃ : g₃.get? e = none := T₃.none_ _ (kts_fresh F hBG x₃.2.1 fun o ho mm => by
    obtain ⟨_, o', ho', hdd⟩ := K.frames.mem mm
    rw [ho] at ho'
    cases ho'
    obtain ⟨sl, hs⟩ := (hsm.trans (u₁₂.trans u₃)) _ _ (F.keep _ _ ho) hdd
    rw [he'] at hs
    cases hs
    exact hdd _ hed')
  have N₃ := News.more F₃ News.nil he' (fun es n q => by rw [hed'] at q; cases q) ne₃
  have Nl : News g₃ L h₃ ((dx, D) :: news) := fun q hq => ⟨x₃.1 _ _ (hl q hq).1, (fun z => by have := (hl q hq).1; rw [z, hL] at this; cases this), T₃.none_ _ (kts_none F.keep (hl q hq).2.1)⟩
  have N' : News g₃ L h₃ ((e, oe') :: (dx, D) :: news) := fun q hq => (List.mem_cons.mp hq).elim (fun z => by rw [z]; exact N₃ _ (.head _)) (Nl q)
  refine stN F₃ N' (fun h₇ F₇ N₇ => ?_) hk hlo
  exact kk h₇ g₃ _ _ _ dx D u (T0.trans T₃) F₇ N₇ hec' hed' hedx' hKD K₃ (XB.keeps K₃.stays) (TB.keeps K₃.stays)
end
/-- what token_at gives -/
def tokAt (items : List Value) (k : Int) : Value := if k < (items.length : Int) then (items[k.toNat]?).getD .none else .ref 35
theorem item_at {prog : Program} {w : World} {A : Around} {E : Value → Shared → Prop} {s : Shared} {value slice : PySem.Expr} {l : Addr} {items : List Value} {k : Int} {u : Tok} {v : Value} {Q : Value → Shared → Prop}
    (hl : s.heap.IsList l items.toArray) (h0 : 0 ≤ k) (h1 : k < (items.length : Int)) (h2 : items.length < 1000000) (hv : tokAt items k = v) (h : Q v s)
    (hs : subscripted slice false (.ref l) (.int k u) = operate [.ref l, .int k u] (getItem (.ref l) (.int k u)) := by with_unfolding_all rfl) :
    wpAny (model prog w) A (subscriptTail value slice (.ref l) (.int k u)) Q E s := by
  have hlt : k.toNat < items.length := by omega
  subst hv
  rw [tokAt, if_pos h1] at h
  refine tail_any hl.typeIs slot_list_getitem.lookup (wpAny_getItem_list hl h0 (by omega) (x := (items[k.toNat]?).getD .none) ?_ h) hs
  simp [hlt]
theorem len_at {prog : Program} {w : World} {A : Around} {E : Value → Shared → Prop} {s : Shared} {l : Addr} {items : List Value} {Q : Value → Shared → Prop}
    (hl : s.heap.IsList l items.toArray) (h2 : items.length < 1000000) (h : Q (.int (items.length : Int) (s.toks + 1)) { s with toks := s.toks + 1 + 1 }) :
    wpAny (model prog w) A (call (.builtin "len") [.ref l]) Q E s := by
  have := len_list (prog := prog) (w := w) (A := A) (E := E) (Q := Q) hl (by simp; omega)
  simp only [List.size_toArray] at this
  exact this h
theorem reads_tup {h : Heap} {a : Addr} {vs : List Value} {ds : List PyData} {as : List Addr} (t : IsTup h a vs.toArray) (r : ReadsAll h vs ds as) : Reads h (.ref a) (.tuple ds) as := by
  obtain ⟨o, ho, hc, n, hd⟩ := t
  exact reads_tuple_at ho hc hd r
theorem iteP {c : Prop} {inst : Decidable c} {a b : Prop} (hc : @decide c inst = true) (h : a) : @ite Prop c inst a b := by rw [if_pos (of_decide_eq_true hc)]; exact h
theorem iteN {c : Prop} {inst : Decidable c} {a b : Prop} (hc : @decide c inst = false) (h : b) : @ite Prop c inst a b := by rw [if_neg (of_decide_eq_false hc)]; exact h
theorem eq_strC {prog : Program} {w : World} {A : Around} {E : Value → Shared → Prop} {s : Shared} {x y : Str} {t u : Tok} {r : Bool} {Q : Value → Shared → Prop} (hr : (x == y) = r) (h : Q (.bool r) s) : wpAny (model prog w) A (compareOp .Eq (.str x t) (.str y u)) Q E s := PyProof.Rows.eq_str (by rw [hr]; exact h)
theorem ne_strC {prog : Program} {w : World} {A : Around} {E : Value → Shared → Prop} {s : Shared} {x y : Str} {t u : Tok} {r : Bool} {Q : Value → Shared → Prop} (hr : (x != y) = r) (h : Q (.bool r) s) : wpAny (model prog w) A (compareOp .NotEq (.str x t) (.str y u)) Q E s := PyProof.Rows.ne_str (by rw [hr]; exact h)
theorem news_sub {h₀ h : Heap} {L : Addr} {news news' : List (Addr × Obj)} (N : News h₀ L h news) (hs : ∀ p ∈ news', p ∈ news) : News h₀ L h news' := fun p hp => N p (hs p hp)
theorem tup_base {A : Around} {base g h : Heap} {outer : List Env} {L a : Addr} {m : Str → Option Value} {vs : Array Value} (F : Fr g L h m) (B : Below A base outer g) (t : IsTup base a vs) : IsTup h a vs := Fr.tup F (stays_tup B.stays t)
section
variable {prog : Program} {w : World} {A : Around} {E : Value → Shared → Prop} {s : Shared} {a b : Addr} {x y x' y' : Str} {u1 u2 u3 u4 : Tok} {Q : Value → Shared → Prop}
theorem two_shaped {x y : Str} (hx : PyData.strOk x = true) (hy : PyData.strOk y = true) : SeqAt.shaped (.tuple [.str x, .str y]) = true := by
  simp [SeqAt.shaped, PyData.canLay0, PyData.canLayAll0, PyData.depth, PyData.depthAll, hx, hy]
theorem two_ne (ha : IsTup s.heap a #[.str x u1, .str y u2]) (hb : IsTup s.heap b #[.str x' u3, .str y' u4]) (h1 : PyData.strOk x = true) (h2 : PyData.strOk y = true) (h3 : PyData.strOk x' = true) (h4 : PyData.strOk y' = true) (hu : A.units + 64 < cLine) (h : Q (.bool (!(x == x' && y == y'))) s) :
    wpAny (model prog w) A (compareOp .NotEq (.ref a) (.ref b)) Q E s := by
  refine ne_dataH (reads_tup (vs := [.str x u1, .str y u2]) ha (.cons (.str _ _) (.cons (.str _ _) .nil))) (reads_tup (vs := [.str x' u3, .str y' u4]) hb (.cons (.str _ _) (.cons (.str _ _) .nil))) (two_shaped h1 h2) (two_shaped h3 h4) hu ?_
  simpa [PyData.eqv, PyData.eqvAll] using h
theorem two_eq (ha : IsTup s.heap a #[.str x u1, .str y u2]) (hb : IsTup s.heap b #[.str x' u3, .str y' u4]) (h1 : PyData.strOk x = true) (h2 : PyData.strOk y = true) (h3 : PyData.strOk x' = true) (h4 : PyData.strOk y' = true) (hu : A.units + 64 < cLine) (h : Q (.bool (x == x' && y == y')) s) :
    wpAny (model prog w) A (compareOp .Eq (.ref a) (.ref b)) Q E s := by
  refine eq_dataH (reads_tup (vs := [.str x u1, .str y u2]) ha (.cons (.str _ _) (.cons (.str _ _) .nil))) (reads_tup (vs := [.str x' u3, .str y' u4]) hb (.cons (.str _ _) (.cons (.str _ _) .nil))) (two_shaped h1 h2) (two_shaped h3 h4) hu ?_
  simpa [PyData.eqv, PyData.eqvAll] using h
theorem two_ne' {r : Bool} (ha : IsTup s.heap a #[.str x u1, .str y u2]) (hb : IsTup s.heap b #[.str x' u3, .str y' u4]) (h1 : PyData.strOk x = true) (h2 : PyData.strOk y = true) (h3 : PyData.strOk x' = true) (h4 : PyData.strOk y' = true) (hu : A.units + 64 < cLine) (hr : (x == x' && y == y') = r) (h : Q (.bool (!r)) s) :
    wpAny (model prog w) A (compareOp .NotEq (.ref a) (.ref b)) Q E s := two_ne ha hb h1 h2 h3 h4 hu (by rw [hr]; exact h)
theorem two_eq' {r : Bool} (ha : IsTup s.heap a #[.str x u1, .str y u2]) (hb : IsTup s.heap b #[.str x' u3, .str y' u4]) (h1 : PyData.strOk x = true) (h2 : PyData.strOk y = true) (h3 : PyData.strOk x' = true) (h4 : PyData.strOk y' = true) (hu : A.units + 64 < cLine) (hr : (x == x' && y == y') = r) (h : Q (.bool r) s) :
    wpAny (model prog w) A (compareOp .Eq (.ref a) (.ref b)) Q E s := two_eq ha hb h1 h2 h3 h4 hu (by rw [hr]; exact h)
theorem beq2_same {x y : Str} : (x == x && y == y) = true := by simp
end
noncomputable def strVals : List Str → List Tok → List Value
  | x :: xs, u :: us => .str x u :: strVals xs us
  | _, _ => []
theorem strVals_read (h : Heap) : ∀ (xs : List Str) (us : List Tok), xs.length = us.length → ReadsAll h (strVals xs us) (xs.map PyData.str) []
  | [], [], _ => .nil
  | x :: xs, u :: us, e => .cons (.str _ _) (strVals_read h xs us (by simpa using e))
  | [], _ :: _, e => by cases e
  | _ :: _, [], e => by cases e
section
variable {prog : Program} {w : World} {A : Around} {E : Value → Shared → Prop} {s : Shared} {a b : Addr} {x y : Str} {u1 u2 : Tok} {Q : Value → Shared → Prop}
theorem in_strs {xs : List Str} {us : List Tok} {r : Bool} (ha : IsTup s.heap a (strVals xs us).toArray) (hn : xs.length = us.length) (h1 : PyData.canLayAll0 (xs.map PyData.str) = true) (h2 : PyData.strOk x = true) (h3 : PyData.depthAll (xs.map PyData.str) = 0) (hu : A.units + 64 < cLine)
    (hr : ((xs.map PyData.str).any fun y => PyData.eqv y (.str x)) = r) (h : Q (.bool r) s) : wpAny (model prog w) A (compareOp .In (.str x u1) (.ref a)) Q E s := by
  refine SeqAt.in_tuple_reads (reads_tup ha (strVals_read _ _ _ hn)) (.str _ _) h1 (by simpa [PyData.canLay0] using h2) (by rw [h3]; simp; omega) (by rw [hr]; exact h)
theorem in_top {r : Bool} {K : Frag} {h₀ : Heap} {L : Addr} {m : Str → Option Value} (F : Fr h₀ L s.heap m) (X₀ : K.In h₀) {xs : List Str} {us : List Tok} (ha : K.lookup a = some { cls := .type "tuple", data := .seq (strVals xs us).toArray }) (hn : xs.length = us.length) (h1 : PyData.canLayAll0 (xs.map PyData.str) = true) (h2 : PyData.strOk x = true) (h3 : PyData.depthAll (xs.map PyData.str) = 0) (hu : A.units + 64 < cLine)
    (hr : ((xs.map PyData.str).any fun y => PyData.eqv y (.str x)) = r) (h : Q (.bool r) s) : wpAny (model prog w) A (compareOp .In (.str x u1) (.ref a)) Q E s :=
  in_strs ⟨_, (X₀.keeps F.keep) _ _ ha, rfl, _, rfl⟩ hn h1 h2 h3 hu hr h
theorem in_three {c c1 c2 c3 : Addr} {p q p1 q1 p2 q2 p3 q3 : Str} {t1 t2 t3 t4 t5 t6 : Tok} {r : Bool} (hc : IsTup s.heap c #[.ref c1, .ref c2, .ref c3]) (k1 : IsTup s.heap c1 #[.str p1 t1, .str q1 t2]) (k2 : IsTup s.heap c2 #[.str p2 t3, .str q2 t4]) (k3 : IsTup s.heap c3 #[.str p3 t5, .str q3 t6]) (ha : IsTup s.heap a #[.str p u1, .str q u2])
    (h1 : PyData.canLayAll0 [.tuple [.str p1, .str q1], .tuple [.str p2, .str q2], .tuple [.str p3, .str q3]] = true) (h2 : PyData.canLay0 (.tuple [.str p, .str q]) = true) (hu : A.units + 64 < cLine)
    (hr : (([PyData.tuple [.str p1, .str q1], .tuple [.str p2, .str q2], .tuple [.str p3, .str q3]] : List PyData).any fun y => PyData.eqv y (.tuple [.str p, .str q])) = r) (h : Q (.bool r) s) : wpAny (model prog w) A (compareOp .In (.ref a) (.ref c)) Q E s := by
  refine SeqAt.in_tuple_reads (reads_tup (vs := [.ref c1, .ref c2, .ref c3]) hc (.cons (reads_tup (vs := [.str p1 t1, .str q1 t2]) k1 (.cons (.str _ _) (.cons (.str _ _) .nil))) (.cons (reads_tup (vs := [.str p2 t3, .str q2 t4]) k2 (.cons (.str _ _) (.cons (.str _ _) .nil))) (.cons (reads_tup (vs := [.str p3 t5, .str q3 t6]) k3 (.cons (.str _ _) (.cons (.str _ _) .nil))) .nil))))
    (reads_tup (vs := [.str p u1, .str q u2]) ha (.cons (.str _ _) (.cons (.str _ _) .nil))) h1 h2 ?_ (by rw [hr]; exact h)
  have : (PyData.tuple [.str p, .str q]).depth ≤ 2 := by simp [PyData.depth, PyData.depthAll]
  omega
end
theorem top36 (w : World) : ∃ us, List.length us = 6 ∧ (Mine.K w.params).lookup 36 = some { cls := .type "tuple", data := .seq (strVals ["=", "<>", "<", ">", "<=", ">="] us).toArray } :=
  ⟨[_, _, _, _, _, _], rfl, by with_unfolding_all rfl⟩
theorem top37 (w : World) : ∃ us, List.length us = 12 ∧ (Mine.K w.params).lookup 37 = some { cls := .type "tuple", data := .seq (strVals ["SGN", "ABS", "LEN", "STR$", "VAL", "ASC", "CHR$", "LEFT$", "RIGHT$", "MID$", "RND", "INSTR"] us).toArray } :=
  ⟨[_, _, _, _, _, _, _, _, _, _, _, _], rfl, by with_unfolding_all rfl⟩
section
variable {prog : Program} {w : World} {A : Around} {E : Value → Shared → Prop} {s : Shared} {x : Str} {u1 : Tok} {Q : Value → Shared → Prop} {r : Bool} {h₀ : Heap} {L : Addr} {m : Str → Option Value}
theorem in36 (F : Fr h₀ L s.heap m) (X₀ : (Mine.K w.params).In h₀) (h2 : PyData.strOk x = true) (hu : A.units + 64 < cLine)
    (hr : ((["=", "<>", "<", ">", "<=", ">="] : List Str).map PyData.str).any (fun y => PyData.eqv y (.str x)) = r) (h : Q (.bool r) s) : wpAny (model prog w) A (compareOp .In (.str x u1) (.ref 36)) Q E s := by
  obtain ⟨us, hn, e⟩ := top36 w
  exact in_top F X₀ e hn.symm (by decide +kernel) h2 (by decide +kernel) hu hr h
theorem in37 (F : Fr h₀ L s.heap m) (X₀ : (Mine.K w.params).In h₀) (h2 : PyData.strOk x = true) (hu : A.units + 64 < cLine)
    (hr : ((["SGN", "ABS", "LEN", "STR$", "VAL", "ASC", "CHR$", "LEFT$", "RIGHT$", "MID$", "RND", "INSTR"] : List Str).map PyData.str).any (fun y => PyData.eqv y (.str x)) = r) (h : Q (.bool r) s) : wpAny (model prog w) A (compareOp .In (.str x u1) (.ref 37)) Q E s := by
  obtain ⟨us, hn, e⟩ := top37 w
  exact in_top F X₀ e hn.symm (by decide +kernel) h2 (by decide +kernel) hu hr h
end
/-! ### tokens, rows, the parser's words -/
inductive Lev (P : Addr → Array Value → Prop) : Value → Int → Prop
  | fin : Lev P (.ref 35) 0
  | close {a : Addr} {u1 u2 : Tok} : P a #[.str "sign" u1, .str ")" u2] → Lev P (.ref a) 0
  | plus {a : Addr} {u1 u2 : Tok} : P a #[.str "sign" u1, .str "+" u2] → Lev P (.ref a) 5
  | minus {a : Addr} {u1 u2 : Tok} : P a #[.str "sign" u1, .str "-" u2] → Lev P (.ref a) 5
/-- the token at k is the pair of two texts -/
def Two (P : Addr → Array Value → Prop) (items : List Value) (k : Int) (x y : Str) : Prop :=
  0 ≤ k ∧ k < (items.length : Int) ∧ ∃ a u1 u2, tokAt items k = .ref a ∧ P a #[.str x u1, .str y u2]
inductive Parse (P : Addr → Array Value → Prop) (items : List Value) : Int → Nat → Option (Int × Int) → Prop
  | num {k : Int} {a : Addr} {u1 u2 : Tok} {v : Int} : 0 ≤ k → k < (items.length : Int) → tokAt items k = .ref a → P a #[.str "number" u1, .int v u2] → -32768 ≤ v → v ≤ 32767 → Parse P items k 0 (some (v, k + 1))
  | fin {k : Int} : k = (items.length : Int) → Parse P items k 0 none
  | neg {k : Int} {n : Nat} {r : Option (Int × Int)} : Two P items k "sign" "-" → Parse P items (k + 1) n r → (∀ v e, r = some (v, e) → -32767 ≤ v ∧ v ≤ 32767) → Parse P items k (n + 1) (r.map fun x => (-x.1, x.2))
  | pos {k : Int} {n : Nat} {r : Option (Int × Int)} : Two P items k "sign" "+" → Parse P items (k + 1) n r → Parse P items k (n + 1) r
  | inv {k : Int} {n : Nat} {r : Option (Int × Int)} : Two P items k "word" "NOT" → Parse P items (k + 1) n r → Parse P items k (n + 1) (r.map fun x => (-1 - x.1, x.2))
  | par {k : Int} {n : Nat} {r : Option (Int × Int)} : Two P items k "sign" "(" → Parse P items (k + 1) n r → (∀ v e, r = some (v, e) → Two P items e "sign" ")") → Parse P items k (n + 1) (r.map fun x => (x.1, x.2 + 1))
  | abs {k : Int} {n : Nat} {r : Option (Int × Int)} : Two P items k "word" "ABS" → Two P items (k + 1) "sign" "(" → Parse P items (k + 1 + 1) n r → (∀ v e, r = some (v, e) → -32767 ≤ v ∧ v ≤ 32767) → (∀ v e, r = some (v, e) → Two P items e "sign" ")") → Parse P items k (n + 1) (r.map fun x => ((x.1.natAbs : Int), x.2 + 1))
  | sgn {k : Int} {n : Nat} {r : Option (Int × Int)} : Two P items k "word" "SGN" → Two P items (k + 1) "sign" "(" → Parse P items (k + 1 + 1) n r → (∀ v e, r = some (v, e) → Two P items e "sign" ")") → Parse P items k (n + 1) (r.map fun x => (x.1.sign, x.2 + 1))
  | elem {k : Int} {n : Nat} {r : Option (Int × Int)} : Two P items k "name" "A" → Two P items (k + 1) "sign" "(" → Parse P items (k + 1 + 1) n r → (∀ v e, r = some (v, e) → v = 0) → (∀ v e, r = some (v, e) → Two P items e "sign" ")") → Parse P items k (n + 1) (r.map fun x => (0, x.2 + 1))
theorem Two.mono {P P' : Addr → Array Value → Prop} (hp : ∀ a vs, P a vs → P' a vs) {items : List Value} {k : Int} {x y : Str} (h : Two P items k x y) : Two P' items k x y :=
  let ⟨a, b, c, d, e, f, g⟩ := h; ⟨a, b, c, d, e, f, hp _ _ g⟩
theorem Parse.mono {P P' : Addr → Array Value → Prop} (hp : ∀ a vs, P a vs → P' a vs) {items : List Value} {k : Int} {n : Nat} {r : Option (Int × Int)} (h : Parse P items k n r) : Parse P' items k n r := by
  induction h with
  | num a b c d e f => exact .num a b c (hp _ _ d) e f
  | fin a => exact .fin a
  | neg a _ b ih => exact .neg (a.mono hp) ih b
  | pos a _ ih => exact .pos (a.mono hp) ih
  | inv a _ ih => exact .inv (a.mono hp) ih
  | par a _ b ih => exact .par (a.mono hp) ih fun v e q => (b v e q).mono hp
  | abs a b _ c d ih => exact .abs (a.mono hp) (b.mono hp) ih c fun v e q => (d v e q).mono hp
  | sgn a b _ d ih => exact .sgn (a.mono hp) (b.mono hp) ih fun v e q => (d v e q).mono hp
  | elem a b _ c d ih => exact .elem (a.mono hp) (b.mono hp) ih c fun v e q => (d v e q).mono hp
theorem Parse.bounds {P : Addr → Array Value → Prop} {items : List Value} {k : Int} {n : Nat} {r : Option (Int × Int)} (h : Parse P items k n r) : 0 ≤ k ∧ k ≤ (items.length : Int) ∧ ∀ v e, r = some (v, e) → k < e ∧ e ≤ (items.length : Int) := by
  induction h with
  | num a b c d e f => exact ⟨a, by omega, fun v e q => by cases q; omega⟩
  | fin a => exact ⟨by omega, by omega, fun v e q => by cases q⟩
  | neg a _ b ih => refine ⟨a.1, by have := a.2.1; omega, fun v e q => ?_⟩; obtain ⟨⟨v', e'⟩, h1, h2⟩ := Option.map_eq_some_iff.mp q; cases h2; have := ih.2.2 _ _ h1; dsimp only; omega
  | pos a _ ih => exact ⟨a.1, by have := a.2.1; omega, fun v e q => by have := ih.2.2 _ _ q; omega⟩
  | inv a _ ih => refine ⟨a.1, by have := a.2.1; omega, fun v e q => ?_⟩; obtain ⟨⟨v', e'⟩, h1, h2⟩ := Option.map_eq_some_iff.mp q; cases h2; have := ih.2.2 _ _ h1; dsimp only; omega
  | par a _ b ih => refine ⟨a.1, by have := a.2.1; omega, fun v e q => ?_⟩; obtain ⟨⟨v', e'⟩, h1, h2⟩ := Option.map_eq_some_iff.mp q; cases h2; have := ih.2.2 _ _ h1; have := (b _ _ h1).2.1; dsimp only; omega
  | abs a _ _ _ b ih => refine ⟨a.1, by have := a.2.1; omega, fun v e q => ?_⟩; obtain ⟨⟨v', e'⟩, h1, h2⟩ := Option.map_eq_some_iff.mp q; cases h2; have := ih.2.2 _ _ h1; have := (b _ _ h1).2.1; dsimp only; omega
  | sgn a _ _ b ih => refine ⟨a.1, by have := a.2.1; omega, fun v e q => ?_⟩; obtain ⟨⟨v', e'⟩, h1, h2⟩ := Option.map_eq_some_iff.mp q; cases h2; have := ih.2.2 _ _ h1; have := (b _ _ h1).2.1; dsimp only; omega
  | elem a _ _ _ b ih => refine ⟨a.1, by have := a.2.1; omega, fun v e q => ?_⟩; obtain ⟨⟨v', e'⟩, h1, h2⟩ := Option.map_eq_some_iff.mp q; cases h2; have := ih.2.2 _ _ h1; have := (b _ _ h1).2.1; dsimp only; omega
/-- how a row fails at depth d -/
def Fails (d : Int) (n : Nat) (r : Option (Int × Int)) (kd : Str) : Prop := (40 < d + n ∧ kd = "OM") ∨ (d + n ≤ 40 ∧ r = none ∧ kd = "SN")
/-- the store's own dict -/
abbrev stoDict (w : World) (d0 d1 lr : Addr) (t1 t2 t3 t4 t5 : Tok) : Obj := dictOf [⟨PyData.keyHash w.params (Str.ofString "values"), .str (Str.ofString "values") t1, .ref d0⟩, ⟨PyData.keyHash w.params (Str.ofString "arrays"), .str (Str.ofString "arrays") t2, .ref d1⟩, ⟨PyData.keyHash w.params (Str.ofString "randoms"), .str (Str.ofString "randoms") t3, .ref lr⟩, ⟨PyData.keyHash w.params (Str.ofString "spot"), .str (Str.ofString "spot") t4, .int 0 t5⟩] 4
/-- the store's part of the ledger: no array yet, or the array A of eleven zeros -/
inductive SOK (w : World) (x : Addr) : List (Addr × Obj) → Prop
  | fresh {d1 d0 dx lr : Addr} {o1 o0 : Obj} {t1 t2 t3 t4 t5 : Tok} : o1.IsDictOf (strKind PySem.Challenge.rw_pq1455_01.row.prog w) [] → (d1 == sysModules) = false →
      (@LT.lt Nat _ lr d1 ∧ @LT.lt Nat _ dx d1 ∧ @LT.lt Nat _ x d1 ∧ @LT.lt Nat _ d0 d1) →
      SOK w x [(d1, o1), (d0, o0), (x, instObj 269 dx), (dx, stoDict w d0 d1 lr t1 t2 t3 t4 t5), (lr, W.listOf #[] 0)]
  | made {d1 d0 dx lr b z t : Addr} {o1 o0 : Obj} {t1 t2 t3 t4 t5 u1 u2 : Tok} : o1.IsDictOf (strKind PySem.Challenge.rw_pq1455_01.row.prog w) [("A", .ref t)] → (d1 == sysModules) = false →
      SOK w x [(t, tupleObj [.ref b, .ref z]), (z, W.listOf #[.int 0 u1, .int 0 u1, .int 0 u1, .int 0 u1, .int 0 u1, .int 0 u1, .int 0 u1, .int 0 u1, .int 0 u1, .int 0 u1, .int 0 u1] 0), (b, W.listOf #[.int 10 u2] 0), (d1, o1), (d0, o0), (x, instObj 269 dx), (dx, stoDict w d0 d1 lr t1 t2 t3 t4 t5), (lr, W.listOf #[] 0)]
theorem ne_dictl {h₀ h : Heap} {L a d : Addr} {news : List (Addr × Obj)} {prog : Program} {w : World} {o o' : Obj} {kvs : List (Str × Value)} {vs : Array Value} {n : Nat} (N : News h₀ L h news) (h1 : (a, o') ∈ news) (h2 : (d, o) ∈ news) (hd : o.IsDictOf (strKind prog w) kvs) (hs : o'.data = .seq vs n) : @Ne Nat a d := by
  intro e
  have e : a = d := e
  subst e
  have := (N _ h1).1.symm.trans (N _ h2).1
  cases this
  obtain ⟨es, ep, _, hx, _⟩ := hd
  rw [hs] at hx
  cases hx
theorem While_skip {prog : Program} {w : World} {A : Around} {E : Value → Shared → Prop} {Q : Flow → Shared → Prop} {s : Shared} {env : Env} {h₀ : Heap} {L : Addr} {test : PySem.Expr} {body : List Stmt} {pos : Pos} {m : Str → Option Value} {news : List (Addr × Obj)}
    (F : Fr h₀ L s.heap m) (N : News h₀ L s.heap news)
    (h : ∀ h₁ tk₁, Fr h₀ L h₁ m → News h₀ L h₁ news → wpAny (model prog w) A (isTrue test env (eval test env)) (fun b s₂ => if b = true then False else Q .next s₂) E { s with heap := h₁, toks := tk₁ })
    (hE : PassesOwn (model prog w) A env E := by passes_own) :
    wpAny (model prog w) A (exec (.While test body [] pos) env) Q E s := by
  refine While_inv (fun n m' news' => n = 0 ∧ m' = m ∧ news' = news) (n₀ := 0) F N ⟨rfl, rfl, rfl⟩ ?_ hE
  rintro n m₁ news₁ h₁ tk₁ F₁ N₁ ⟨rfl, rfl, rfl⟩
  refine wpAny_mono (h h₁ tk₁ F₁ N₁) (fun b s₂ h₂ => ?_) fun _ _ x => x
  cases b with
  | false => exact h₂
  | true => exact h₂.elim
theorem sub_skip {p q : Addr × Obj} {l : List (Addr × Obj)} : ∀ x ∈ p :: l, x ∈ p :: q :: l := fun _ hp => (List.mem_cons.mp hp).elim (fun e => by rw [e]; exact .head _) fun h => .tail _ (.tail _ h)
theorem sub_skip2 {p q q' : Addr × Obj} {l : List (Addr × Obj)} : ∀ x ∈ p :: l, x ∈ p :: q :: q' :: l := fun _ hp => (List.mem_cons.mp hp).elim (fun e => by rw [e]; exact .head _) fun h => .tail _ (.tail _ (.tail _ h))
theorem stop_f {P : Addr → Array Value → Prop} {x : Value} {n : Nat} {lv : Int} (h : ∃ lt, Lev P x lt ∧ (lt = 0 ∨ (n = 0 ∧ lt < lv))) : ∃ lt, Lev P x lt ∧ (lt = 0 ∨ n = 0) :=
  let ⟨lt, a, b⟩ := h; ⟨lt, a, b.imp id fun z => z.1⟩
theorem stop_b {P : Addr → Array Value → Prop} {x : Value} {n n' : Nat} {lv : Int} (h : ∃ lt, Lev P x lt ∧ (lt = 0 ∨ n + 1 = 0)) : ∃ lt, Lev P x lt ∧ (lt = 0 ∨ (n' = 0 ∧ lt < lv)) :=
  let ⟨lt, a, b⟩ := h; ⟨lt, a, b.imp id fun z => by omega⟩
theorem stop_close {P : Addr → Array Value → Prop} {items : List Value} {e : Int} {n : Nat} {lv : Int} (h : Two P items e "sign" ")") : ∃ lt, Lev P (tokAt items e) lt ∧ (lt = 0 ∨ (n = 0 ∧ lt < lv)) := by
  obtain ⟨_, _, a, u1, u2, e1, e2⟩ := h
  exact ⟨0, by rw [e1]; exact .close e2, .inl rfl⟩
theorem sub_va {p q l t : Addr × Obj} {led : List (Addr × Obj)} : ∀ x ∈ p :: l :: led, x ∈ p :: q :: l :: t :: led := fun x hp => by
  rcases List.mem_cons.mp hp with e | hp
  · rw [e]; exact .head _
  · rcases List.mem_cons.mp hp with e | hp
    · rw [e]; exact .tail _ (.tail _ (.head _))
    · exact .tail _ (.tail _ (.tail _ (.tail _ hp)))
theorem sub_gen {p : Addr × Obj} {l l' : List (Addr × Obj)} (hs : ∀ x ∈ l, x ∈ l') : ∀ x ∈ p :: l, x ∈ p :: l' := fun x hp => (List.mem_cons.mp hp).elim (fun e => by rw [e]; exact .head _) fun h => .tail _ (hs x h)
theorem sub_id {l : List (Addr × Obj)} : ∀ x ∈ l, x ∈ l := fun _ h => h
theorem sub_tl {p : Addr × Obj} {l l' : List (Addr × Obj)} (hs : ∀ x ∈ l, x ∈ l') : ∀ x ∈ l, x ∈ p :: l' := fun x h => .tail _ (hs x h)
theorem item0 {prog : Program} {w : World} {A : Around} {E : Value → Shared → Prop} {s : Shared} {value slice : PySem.Expr} {l : Addr} {x : Value} {u : Tok} {Q : Value → Shared → Prop}
    (hl : s.heap.IsList l #[x]) (h : Q x s)
    (hs : subscripted slice false (.ref l) (.int 0 u) = operate [.ref l, .int 0 u] (getItem (.ref l) (.int 0 u)) := by with_unfolding_all rfl) :
    wpAny (model prog w) A (subscriptTail value slice (.ref l) (.int 0 u)) Q E s :=
  tail_any hl.typeIs slot_list_getitem.lookup (wpAny_getItem_list hl (by omega) (by omega) (x := x) rfl h) hs
theorem compEnd_same {h₀ : Heap} {L I C D : Addr} {m : Str → Option Value} {s₁ : Shared} {oI oC oD : Obj} {S : List (Addr × Obj) → Prop} {rest : Value → List (Addr × Obj) → Prop} {y : Value} {h' : Heap} {tk : Nat} {news' : List (Addr × Obj)}
    (F : Fr h₀ L h' m) (N : News h₀ L h' ((I, oI) :: (C, oC) :: (D, oD) :: news')) (off : LCg.Off3 I C D news') (hS : S news') (r : rest y news') :
    LCg.CompEnd h₀ L m s₁ I oI C oC D oD S rest y { s₁ with heap := h', toks := tk } := LCg.CompEnd.intro F N news' (fun _ h => h) off hS r
theorem rerr_sub {k : Str} {base h₀ : Heap} {L : Addr} {m : Str → Option Value} {l : List Env} {news news' : List (Addr × Obj)} {e : Addr} {h' : Heap} (R : RErr k base h₀ L m l news e h') (hs : ∀ p ∈ news', p ∈ news) : RErr k base h₀ L m l news' e h' :=
  let ⟨dx, D, u, G, a, b, c, d⟩ := R
  ⟨dx, D, u, G, a, b, c.sub fun p hp => (List.mem_cons.mp hp).elim (fun q => by rw [q]; exact .head _) fun q => .tail _ (hs p q), d⟩
/-- bound_value at a row of n layers -/
def BVC (w : World) (n : Nat) : Prop := ∀ {dp un : Nat} {gd : Option (List Code)} {cn : Str} {cs : Scope} {a : Addr} {ccd : Value} {cl : List (Str × Addr)} {outer : List Env} {A₀ : Around} {base h₀ : Heap} {L : Addr} {m : Str → Option Value} {led : List (Addr × Obj)} {s : Shared} {Q E : Value → Shared → Prop} {mean : ExcName → Option Value} {mg mb : Str → Option Value} {l x : Addr} {items : List Value} {k d : Int} {u u' : Tok} {r : Option (Int × Int)} {lv : Int} {u'' : Tok}
    (B : Below A₀ base outer h₀) (F : Fr h₀ L s.heap m) (X : (Mine.K w.params).In h₀) (S : SOK w x led) (N : News h₀ L s.heap led) (T : Top Mine.view (looseW Mine.view []) mean mg mb h₀) (hk : cs.kind = .function)
    (hl : base.IsList l items.toArray) (hsz : items.length < 1000000) (P : Parse (IsTup base) items k n r) (hst : ∀ v e, r = some (v, e) → ∃ lt, Lev (IsTup base) (tokAt items e) lt ∧ (lt = 0 ∨ (n = 0 ∧ lt < lv))) (h0 : 0 ≤ d) (h1 : d ≤ 41) (hd : dp + 6 * (41 - d).toNat + 30 < recursionLimit) (hu : un + 40 * (41 - d).toNat + 400 < cLine)
    (hret : ∀ v e, r = some (v, e) → d + (n : Int) ≤ 40 → ∀ t led' h' tk' u1 u2, SOK w x led' → Fr h₀ L h' m → News h₀ L h' ((t, tupleObj [.int v u1, .int e u2]) :: led') → Q (.ref t) { s with heap := h', toks := tk' })
    (herr : ∀ kd, Fails d n r kd → ∀ e h' tk', RErr kd base h₀ L m (envX cn cs L a ccd cl :: outer) led e h' → E (.ref e) { s with heap := h', toks := tk' }),
    wpAny (model PySem.Challenge.rw_pq1455_01.row.prog w) (ktrTop dp un gd cn cs L a ccd cl outer) (call (.ref 224) [.ref l, .int k u, .int lv u'', .ref x, .int d u']) Q E s
/-- first_value at a row of n layers -/
def FVC (w : World) (n : Nat) : Prop := ∀ {dp un : Nat} {gd : Option (List Code)} {cn : Str} {cs : Scope} {a : Addr} {ccd : Value} {cl : List (Str × Addr)} {outer : List Env} {A₀ : Around} {base h₀ : Heap} {L : Addr} {m : Str → Option Value} {led : List (Addr × Obj)} {s : Shared} {Q E : Value → Shared → Prop} {mean : ExcName → Option Value} {mg mb : Str → Option Value} {l x : Addr} {items : List Value} {k d : Int} {u u' : Tok} {r : Option (Int × Int)} 
    (B : Below A₀ base outer h₀) (F : Fr h₀ L s.heap m) (X : (Mine.K w.params).In h₀) (S : SOK w x led) (N : News h₀ L s.heap led) (T : Top Mine.view (looseW Mine.view []) mean mg mb h₀) (hk : cs.kind = .function)
    (hl : base.IsList l items.toArray) (hsz : items.length < 1000000) (P : Parse (IsTup base) items k n r) (hst : ∀ v e, r = some (v, e) → ∃ lt, Lev (IsTup base) (tokAt items e) lt ∧ (lt = 0 ∨ n = 0)) (h0 : 0 ≤ d) (h1 : d ≤ 41) (hd : dp + 6 * (41 - d).toNat + 29 < recursionLimit) (hu : un + 40 * (41 - d).toNat + 392 < cLine)
    (hret : ∀ v e, r = some (v, e) → d + (n : Int) ≤ 40 → ∀ t led' h' tk' u1 u2, SOK w x led' → Fr h₀ L h' m → News h₀ L h' ((t, tupleObj [.int v u1, .int e u2]) :: led') → Q (.ref t) { s with heap := h', toks := tk' })
    (herr : ∀ kd, Fails d n r kd → ∀ e h' tk', RErr kd base h₀ L m (envX cn cs L a ccd cl :: outer) led e h' → E (.ref e) { s with heap := h', toks := tk' }),
    wpAny (model PySem.Challenge.rw_pq1455_01.row.prog w) (ktrTop dp un gd cn cs L a ccd cl outer) (call (.ref 217) [.ref l, .int k u, .ref x, .int d u']) Q E s
theorem bv_use {w : World} {n : Nat} {dp un : Nat} {gd : Option (List Code)} {cn : Str} {cs : Scope} {a : Addr} {ccd : Value} {cl : List (Str × Addr)} {outer : List Env} {A₀ : Around} {base h₀ : Heap} {L : Addr} {m : Str → Option Value} {led : List (Addr × Obj)} {s : Shared} {Q E : Value → Shared → Prop} {mean : ExcName → Option Value} {mg mb : Str → Option Value} {l x : Addr} {items : List Value} {k d : Int} {u u' : Tok} {r : Option (Int × Int)} {lv : Int} {u'' : Tok} (C : BVC w n)
    (B : Below A₀ base outer h₀) (F : Fr h₀ L s.heap m) (X : (Mine.K w.params).In h₀) (S : SOK w x led) (N : News h₀ L s.heap led) (T : Top Mine.view (looseW Mine.view []) mean mg mb h₀) (hk : cs.kind = .function)
    (hl : base.IsList l items.toArray) (hsz : items.length < 1000000) (P : Parse (IsTup base) items k n r) (hst : ∀ v e, r = some (v, e) → ∃ lt, Lev (IsTup base) (tokAt items e) lt ∧ (lt = 0 ∨ (n = 0 ∧ lt < lv))) (h0 : 0 ≤ d) (h1 : d ≤ 41) (hd : dp + 6 * (41 - d).toNat + 30 < recursionLimit) (hu : un + 40 * (41 - d).toNat + 400 < cLine)
    (hret : ∀ v e, r = some (v, e) → d + (n : Int) ≤ 40 → ∀ t led' h' tk' u1 u2, SOK w x led' → Fr h₀ L h' m → News h₀ L h' ((t, tupleObj [.int v u1, .int e u2]) :: led') → Q (.ref t) { s with heap := h', toks := tk' })
    (herr : ∀ kd, Fails d n r kd → ∀ e h' tk', RErr kd base h₀ L m (envX cn cs L a ccd cl :: outer) led e h' → E (.ref e) { s with heap := h', toks := tk' }) :
    wpAny (model PySem.Challenge.rw_pq1455_01.row.prog w) (ktrTop dp un gd cn cs L a ccd cl outer) (call (.ref 224) [.ref l, .int k u, .int lv u'', .ref x, .int d u']) Q E s := by
  unfold BVC at C
  exact C B F X S N T hk hl hsz P hst h0 h1 hd hu hret herr
theorem fv_use {w : World} {n : Nat} {dp un : Nat} {gd : Option (List Code)} {cn : Str} {cs : Scope} {a : Addr} {ccd : Value} {cl : List (Str × Addr)} {outer : List Env} {A₀ : Around} {base h₀ : Heap} {L : Addr} {m : Str → Option Value} {led : List (Addr × Obj)} {s : Shared} {Q E : Value → Shared → Prop} {mean : ExcName → Option Value} {mg mb : Str → Option Value} {l x : Addr} {items : List Value} {k d : Int} {u u' : Tok} {r : Option (Int × Int)}  (C : FVC w n)
    (B : Below A₀ base outer h₀) (F : Fr h₀ L s.heap m) (X : (Mine.K w.params).In h₀) (S : SOK w x led) (N : News h₀ L s.heap led) (T : Top Mine.view (looseW Mine.view []) mean mg mb h₀) (hk : cs.kind = .function)
    (hl : base.IsList l items.toArray) (hsz : items.length < 1000000) (P : Parse (IsTup base) items k n r) (hst : ∀ v e, r = some (v, e) → ∃ lt, Lev (IsTup base) (tokAt items e) lt ∧ (lt = 0 ∨ n = 0)) (h0 : 0 ≤ d) (h1 : d ≤ 41) (hd : dp + 6 * (41 - d).toNat + 29 < recursionLimit) (hu : un + 40 * (41 - d).toNat + 392 < cLine)
    (hret : ∀ v e, r = some (v, e) → d + (n : Int) ≤ 40 → ∀ t led' h' tk' u1 u2, SOK w x led' → Fr h₀ L h' m → News h₀ L h' ((t, tupleObj [.int v u1, .int e u2]) :: led') → Q (.ref t) { s with heap := h', toks := tk' })
    (herr : ∀ kd, Fails d n r kd → ∀ e h' tk', RErr kd base h₀ L m (envX cn cs L a ccd cl :: outer) led e h' → E (.ref e) { s with heap := h', toks := tk' }) :
    wpAny (model PySem.Challenge.rw_pq1455_01.row.prog w) (ktrTop dp un gd cn cs L a ccd cl outer) (call (.ref 217) [.ref l, .int k u, .ref x, .int d u']) Q E s := by
  unfold FVC at C
  exact C B F X S N T hk hl hsz P hst h0 h1 hd hu hret herr
local macro_rules | `(tactic| walk_at $s:str) => `(tactic| k_extra $(Lean.Quote.quote ("m:" ++ s.getString)))
section
local macro_rules | `(tactic| k_room) => `(tactic| ((try simp only [depth_mark, depth_under_make, depth_under_kw, depth_in1, depth_deeper, depth_caller]); omega))
theorem said1 : True := by
  (k_with "m:subscriptTail" => (k_here; (with_reducible show wpAny _ _ (subscriptTail _ _ (Value.ref _) (Value.int _ _)) _ _ _); (with_unfolding_all refine' item_at ?k1z1 ?k2z1 ?k3z1 ?k4z1 ?k5z1 ?_ ?k6z1; (case k1z1 => is_list); (case k2z1 => omega); (case k3z1 => omega); (case k4z1 => omega); (case k5z1 => first | assumption | exact rfl); (case k6z1 => with_unfolding_all rfl); k_whole)))
  (k_with "m:call builtin:len" => (k_here; (with_reducible show wpAny _ _ (call (Value.builtin "len") [Value.ref _]) _ _ _); k_dflt (refine' len_at ?k1z2 ?k2z2 ?_; (case k1z2 => is_list); (case k2z2 => omega); k_whole)))
  (k_with "m:compareOp Eq str str" => (refine' eq_strC ?krz3 ?_; (case krz3 => first | ((refine (?_ : _ = true)); kernel_rfl!) | ((refine (?_ : _ = false)); kernel_rfl!)); k_whole))
  (k_with "m:compareOp NotEq str str" => (refine' ne_strC ?krz4 ?_; (case krz4 => first | ((refine (?_ : _ = true)); kernel_rfl!) | ((refine (?_ : _ = false)); kernel_rfl!)); k_whole))
  (k_with "m:ite" => (k_closed; first | rewrite [if_neg Bool.false_ne_true] | rewrite [if_pos (rfl : true = true)]))
  trivial
set_option maxHeartbeats 8000000 in
theorem c_token_at (w : World) {dp un : Nat} {gd : Option (List Code)} {cn : Str} {cs : Scope} {a : Addr} {ccd : Value} {cl : List (Str × Addr)} {outer : List Env} {A₀ : Around} {base h₀ : Heap} {L : Addr} {m : Str → Option Value} {news : List (Addr × Obj)} {s : Shared} {Q E : Value → Shared → Prop} {mean : ExcName → Option Value} {mg mb : Str → Option Value} {l : Addr} {items : List Value} {k : Int} {u : Tok} {v : Value}
    (B : Below A₀ base outer h₀) (F : Fr h₀ L s.heap m) (X : (Mine.K w.params).In h₀) (N : News h₀ L s.heap news) (T : Top Mine.view (looseW Mine.view []) mean mg mb h₀) (hk : cs.kind = .function)
    (hl : base.IsList l items.toArray) (hsz : items.length < 1000000) (hk0 : 0 ≤ k) (hk1 : k ≤ (items.length : Int)) (hv : tokAt items k = v) (hd : dp + 8 < recursionLimit) (hu : un + 64 < cLine)
    (hret : ∀  h' tk', Fr h₀ L h' m → News h₀ L h' news → Q (v) { s with heap := h', toks := tk' }) :
    wpAny (model PySem.Challenge.rw_pq1455_01.row.prog w) (ktrTop dp un gd cn cs L a ccd cl outer) (call (.ref 51) [.ref l, .int k u]) Q E s := by
  subst hv
  revert X; k_fill; intro X
  refine wpAny_call ?_
  k_dflt ktr_enter
  rename_i g' L' h' FG' F' N' B' X' T'
  k_lift B'
  k_steps
  all_goals first
    | exact hret _ _ (by assumption) (by assumption)
    | (rw [tokAt, if_neg (by assumption)] at hret; exact hret _ _ (by assumption) (by assumption))
section
local macro_rules | `(tactic| walk_at "leaving ref") => `(tactic| (k_here; k_dflt (first
  | (refine' leave_made ?k1 ?k2 ?k3 ?k4 ?k5 ?k6 ?k7 ?k8 ?_; (case k1 => assumption); (case k2 => k_asm); (case k3 => k_asm); (case k4 => first | assumption | exact fun p hp => (by assumption : ∀ p ∈ _, p.1 ≠ _) p hp); (case k5 => assumption); (case k6 => assumption); (case k7 => assumption); (case k8 => first | exact fun _ h => h | exact fun _ h => List.mem_cons_of_mem _ h); k_whole; intro h' R'; (try dsimp only at R' ⊢))
  | (refine' leave_fly ?k1 ?k2 ?k7 ?k8 ?_; (case k2 => assumption); (case k1 => assumption); (case k7 => assumption); (case k8 => first | exact fun _ h => h | exact fun _ h => List.mem_cons_of_mem _ h); k_whole; intro h' R'; (try dsimp only at R' ⊢)))))
local macro_rules | `(tactic| ktr_room) => `(tactic| first | omega | ((try simp only [depth_mark, depth_under_make, depth_under_kw, depth_in1, depth_deeper, depth_caller]); (try dsimp only [ktrTop]); omega))
local macro_rules | `(tactic| ktr_units) => `(tactic| first | omega | ((try simp only [units_in1, units_deeper, Around.mark_units, units_caller]); (try dsimp only [ktrTop]); omega))
local macro_rules | `(tactic| units_room) => `(tactic| ktr_units)
theorem said2 : True := by
  (k_with "m:exec Raise some none" => (k_here; (with_reducible show wpAny _ _ (exec (Stmt.Raise (some (Expr.Call (Expr.Name ("BasicError" : Str) _) (_ :: _) [] _)) none _) _) _ _ _); k_dflt (refine' Raise_D ?hhz6 ?_; (case hhz6 => rfl))))
  (k_with "m:call ref" => (k_here; (with_reducible show wpAny _ _ (call (Value.ref 31) _ _) _ _ _); k_dflt (refine' call_clsE ?k1z7 ?k2z7 ?k3z7 ?k4z7 ?_; (case k1z7 => k_asm); (case k2z7 => k_asm); (case k3z7 => k_asm); (case k4z7 => size_fits); k_whole; intro x' t' h' F' N' l1; (try k_sweep); k_enter)))
  (k_with "m:setAttr ref" => (k_here; k_dflt (refine' set_kind ?k1z8 ?k2z8 ?k3z8 ?k4z8 ?_; (case k1z8 => k_asm); (case k2z8 => k_asm); (case k3z8 => k_asm); (case k4z8 => assumption); k_whole; intro dx' D' h' tk' K' ne' F' N'; (try k_sweep))))
  (k_with "m:RaisableD" => (k_dflt (refine' raisable31 ?k1z9 ?k2z9 ?k3z9 ?_; (case k1z9 => k_asm); (case k2z9 => k_asm); (case k3z9 => k_asm); k_whole)))
  (k_with "m:call ref" => (k_here; (with_reducible show wpAny _ _ (call (Value.ref 51) _ _) _ _ _); k_dflt (refine' c_token_at _ ?kBz10 ?kFz10 ?kXz10 ?kNz10 ?kTz10 ?kKz10 ?klz10 ?ksz10 ?k0z10 ?k1z10 ?kvz10 ?kdz10 ?kuz10 ?_; (case kBz10 => assumption); (case kFz10 => k_asm); (case kXz10 => k_asm); (case kNz10 => k_asm); (case kTz10 => k_asm); (case kKz10 => exact rfl); (case klz10 => assumption); (case ksz10 => assumption); (case kvz10 => first | assumption | exact rfl); (case k0z10 => omega); (case k1z10 => omega); (case kdz10 => ktr_room); (case kuz10 => ktr_units); k_whole; intro h' tk' F' N'; (try k_sweep))))
  (k_with "m:compareOp NotEq ref ref" => (k_here; (with_reducible show wpAny _ _ (compareOp CmpOp.NotEq (Value.ref _) (Value.ref _)) _ _ _); k_dflt (refine' two_ne' ?k1z11 ?k2z11 ?k3z11 ?k4z11 ?k5z11 ?k6z11 ?kuz11 ?krz11 ?_; (case k1z11 => first | assumption | exact Fr.tup (by assumption) (by assumption) | exact tup_base (by assumption) (by assumption) (by assumption) | exact News.isTup (by k_asm) (by k_mem)); (case k2z11 => first | assumption | exact Fr.tup (by assumption) (by assumption) | exact tup_base (by assumption) (by assumption) (by assumption) | exact News.isTup (by k_asm) (by k_mem)); (case k3z11 => first | assumption | kernel_rfl!); (case k4z11 => first | assumption | kernel_rfl!); (case k5z11 => first | assumption | kernel_rfl!); (case k6z11 => first | assumption | kernel_rfl!); (case kuz11 => ktr_units); (case krz11 => first | exact beq2_same | ((refine (?_ : _ = true)); kernel_rfl!) | ((refine (?_ : _ = false)); kernel_rfl!)); k_whole; (try simp only [Bool.not_true, Bool.not_false]))))
  (k_with "m:compareOp Eq ref ref" => (k_here; (with_reducible show wpAny _ _ (compareOp CmpOp.Eq (Value.ref _) (Value.ref _)) _ _ _); k_dflt (refine' two_eq' ?k1z12 ?k2z12 ?k3z12 ?k4z12 ?k5z12 ?k6z12 ?kuz12 ?krz12 ?_; (case k1z12 => first | assumption | exact Fr.tup (by assumption) (by assumption) | exact tup_base (by assumption) (by assumption) (by assumption) | exact News.isTup (by k_asm) (by k_mem)); (case k2z12 => first | assumption | exact Fr.tup (by assumption) (by assumption) | exact tup_base (by assumption) (by assumption) (by assumption) | exact News.isTup (by k_asm) (by k_mem)); (case k3z12 => first | assumption | kernel_rfl!); (case k4z12 => first | assumption | kernel_rfl!); (case k5z12 => first | assumption | kernel_rfl!); (case k6z12 => first | assumption | kernel_rfl!); (case kuz12 => ktr_units); (case krz12 => first | exact beq2_same | ((refine (?_ : _ = true)); kernel_rfl!) | ((refine (?_ : _ = false)); kernel_rfl!)); k_whole; (try simp only [Bool.not_true, Bool.not_false]))))
  (k_with "m:compareOp In str ref" => (k_here; (with_reducible show wpAny _ _ (compareOp CmpOp.In (Value.str _ _) (Value.ref 36)) _ _ _); k_dflt (refine' in36 ?k1z13 ?k2z13 ?k3z13 ?kuz13 ?krz13 ?_; (case k1z13 => k_asm); (case k2z13 => k_asm); (case k3z13 => first | assumption | kernel_rfl!); (case kuz13 => ktr_units); (case krz13 => first | ((refine (?_ : _ = true)); kernel_rfl!) | ((refine (?_ : _ = false)); kernel_rfl!)); k_whole)))
  (k_with "m:compareOp In str ref" => (k_here; (with_reducible show wpAny _ _ (compareOp CmpOp.In (Value.str _ _) (Value.ref 37)) _ _ _); k_dflt (refine' in37 ?k1z14 ?k2z14 ?k3z14 ?kuz14 ?krz14 ?_; (case k1z14 => k_asm); (case k2z14 => k_asm); (case k3z14 => first | assumption | kernel_rfl!); (case kuz14 => ktr_units); (case krz14 => first | ((refine (?_ : _ = true)); kernel_rfl!) | ((refine (?_ : _ = false)); kernel_rfl!)); k_whole)))
  (k_with "m:compareOp In ref ref" => (k_here; (with_reducible show wpAny _ _ (compareOp CmpOp.In (Value.ref _) (Value.ref _)) _ _ _); k_dflt (refine' in_three ?k1z15 ?k2z15 ?k3z15 ?k4z15 ?k5z15 ?k6z15 ?k7z15 ?kuz15 ?krz15 ?_; (case k1z15 => exact News.isTup (by k_asm) (by k_mem)); (case k2z15 => exact News.isTup (by k_asm) (by k_mem)); (case k3z15 => exact News.isTup (by k_asm) (by k_mem)); (case k4z15 => exact News.isTup (by k_asm) (by k_mem)); (case k5z15 => exact News.isTup (by k_asm) (by k_mem)); (case k6z15 => kernel_rfl!); (case k7z15 => kernel_rfl!); (case kuz15 => ktr_units); (case krz15 => first | ((refine (?_ : _ = true)); kernel_rfl!) | ((refine (?_ : _ = false)); kernel_rfl!)); k_whole)))
  trivial
set_option maxHeartbeats 8000000 in
theorem c_expect (w : World) {dp un : Nat} {gd : Option (List Code)} {cn : Str} {cs : Scope} {a : Addr} {ccd : Value} {cl : List (Str × Addr)} {outer : List Env} {A₀ : Around} {base h₀ : Heap} {L : Addr} {m : Str → Option Value} {news : List (Addr × Obj)} {s : Shared} {Q E : Value → Shared → Prop} {mean : ExcName → Option Value} {mg mb : Str → Option Value} {l : Addr} {items : List Value} {k : Int} {u u' : Tok} {sg : Str}
    (B : Below A₀ base outer h₀) (F : Fr h₀ L s.heap m) (X : (Mine.K w.params).In h₀) (N : News h₀ L s.heap news) (T : Top Mine.view (looseW Mine.view []) mean mg mb h₀) (hk : cs.kind = .function)
    (hl : base.IsList l items.toArray) (hsz : items.length < 1000000) (hok : PyData.strOk sg = true) (h2 : Two (IsTup base) items k "sign" sg) (hd : dp + 16 < recursionLimit) (hu : un + 128 < cLine)
    (hret : ∀ h' tk' u9, Fr h₀ L h' m → News h₀ L h' news → Q (.int (k + 1) u9) { s with heap := h', toks := tk' }) :
    wpAny (model PySem.Challenge.rw_pq1455_01.row.prog w) (ktrTop dp un gd cn cs L a ccd cl outer) (call (.ref 58) [.ref l, .int k u, .str sg u']) Q E s := by
  obtain ⟨hk0, hk1, ta, u1, u2, hv, ht⟩ := h2
  revert X; k_fill; intro X
  refine wpAny_call ?_
  k_dflt ktr_enter
  rename_i g' L' h' FG' F' N' B' X' T'
  k_lift B'
  k_steps
  exact hret _ _ _ (by assumption) (news_sub (by assumption) fun _ h => .tail _ h)
set_option maxHeartbeats 8000000 in
theorem c_level_of (w : World) {dp un : Nat} {gd : Option (List Code)} {cn : Str} {cs : Scope} {a : Addr} {ccd : Value} {cl : List (Str × Addr)} {outer : List Env} {A₀ : Around} {base h₀ : Heap} {L : Addr} {m : Str → Option Value} {news : List (Addr × Obj)} {s : Shared} {Q E : Value → Shared → Prop} {mean : ExcName → Option Value} {mg mb : Str → Option Value} {v : Value} {lv : Int}
    (B : Below A₀ base outer h₀) (F : Fr h₀ L s.heap m) (X : (Mine.K w.params).In h₀) (N : News h₀ L s.heap news) (T : Top Mine.view (looseW Mine.view []) mean mg mb h₀) (hk : cs.kind = .function)
    (hv : Lev (IsTup base) v lv) (hd : dp + 16 < recursionLimit) (hu : un + 128 < cLine)
    (hret : ∀ h' tk' u9, Fr h₀ L h' m → News h₀ L h' news → Q (.int lv u9) { s with heap := h', toks := tk' }) :
    wpAny (model PySem.Challenge.rw_pq1455_01.row.prog w) (ktrTop dp un gd cn cs L a ccd cl outer) (call (.ref 135) [v]) Q E s := by
  cases hv
  all_goals (
    revert X; k_fill; intro X
    refine wpAny_call ?_
    k_dflt ktr_enter
    rename_i g' L' h' FG' F' N' B' X' T'
    k_lift B'
    k_steps)
  all_goals first | exact hret _ _ _ (by assumption) (by assumption) | exact hret _ _ _ (by assumption) (news_sub (by assumption) fun _ h => .tail _ h)
section
section
theorem said3 : True := by
  (k_with "m:call ref" => (k_here; (with_reducible show wpAny _ _ (call (Value.ref 58) _ _) _ _ _); k_dflt (refine' c_expect _ ?kBz16 ?kFz16 ?kXz16 ?kNz16 ?kTz16 ?kKz16 ?klz16 ?ksz16 ?kokz16 ?k2z16 ?kdz16 ?kuz16 ?_; (case kBz16 => assumption); (case kFz16 => k_asm); (case kXz16 => k_asm); (case kNz16 => k_asm); (case kTz16 => k_asm); (case kKz16 => exact rfl); (case klz16 => assumption); (case ksz16 => assumption); (case kokz16 => kernel_rfl!); (case k2z16 => assumption); (case kdz16 => ktr_room); (case kuz16 => ktr_units); k_whole; intro h' tk' u9 F' N'; (try k_sweep))))
  (k_with "m:call ref" => (k_here; (with_reducible show wpAny _ _ (call (Value.ref 135) _ _) _ _ _); k_dflt (refine' c_level_of _ ?kBz17 ?kFz17 ?kXz17 ?kNz17 ?kTz17 ?kKz17 ?kvz17 ?kdz17 ?kuz17 ?_; (case kBz17 => assumption); (case kFz17 => k_asm); (case kXz17 => k_asm); (case kNz17 => k_asm); (case kTz17 => k_asm); (case kKz17 => exact rfl); (case kvz17 => assumption); (case kdz17 => ktr_room); (case kuz17 => ktr_units); k_whole; intro h' tk' u9 F' N'; (try k_sweep))))
  (k_with "m:call ref" => (k_here; (with_reducible show wpAny _ _ (call (Value.ref 217) _ _) _ _ _); k_dflt (refine' fv_use ?kCz18 ?kBz18 ?kFz18 ?kXz18 ?kSz18 ?kNz18 ?kTz18 ?kKz18 ?klz18 ?ksz18 ?kPz18 ?kstz18 ?k0z18 ?k1z18 ?kdz18 ?kuz18 ?retz18 ?errz18; (case kCz18 => assumption); (case kBz18 => assumption); (case kFz18 => k_asm); (case kXz18 => k_asm); (case kTz18 => k_asm); (case kKz18 => exact rfl); (case klz18 => assumption); (case ksz18 => assumption); (case kSz18 => assumption); (case kNz18 => first | k_asm | exact news_sub (by k_asm) (by repeat (first | exact sub_id | refine sub_tl ?_))); (case kPz18 => assumption); (case kstz18 => first | assumption | exact fun v e h => stop_f ((by assumption : ∀ v e, _ = some (v, e) → ∃ lt, Lev _ _ lt ∧ _) v e h)); (case k0z18 => omega); (case k1z18 => omega); (case kdz18 => ktr_room); (case kuz18 => ktr_units); (case' retz18 => intro v' e' hr' hd' t' led' h' tk' u1' u2' S' F' N'; (try k_sweep); (try (rename (∀ v e, _ = some (v, e) → ∃ lt, Lev _ _ lt ∧ _) => hst'; obtain ⟨lt', lv', lo'⟩ := hst' _ _ hr')); (try (rename (∀ v e, _ = some (v, e) → _ < e ∧ e ≤ _) => pe'; obtain ⟨pl', pm'⟩ := pe' _ _ hr'))); (case' errz18 => intro kd' hf' e' h' tk' R'))))
  (k_with "m:exec While" => (k_here; k_dflt (refine' While_skip ?kFz19 ?kNz19 ?_ ?kEz19; (case kFz19 => k_asm); (case kNz19 => k_asm); (case kEz19 => passes_own); k_whole; intro h' tk' F' N'; (try k_sweep))))
  trivial
theorem bv_of_fv (w : World) (n : Nat) (IH : FVC w n) : BVC w n := by
  unfold BVC
  intro dp un gd cn cs a ccd cl outer A₀ base h₀ L m led s Q E mean mg mb l x items k d u u' r lv u'' B F X S N T hk hl hsz P hst h0 h1 hd hu hret herr
  obtain ⟨pk0, pk1, pe⟩ := P.bounds
  revert X; k_fill; intro X
  refine wpAny_call ?_
  k_dflt ktr_enter
  rename_i g' L' h' FG' F' N' B' X' T'
  k_lift B'
  k_steps
  all_goals first
    | exact herr _ (by assumption) _ _ _ (by assumption)
    | exact hret _ _ (by assumption) (by assumption) _ _ _ _ _ _ (by assumption) (by assumption) (news_sub (by assumption) sub_skip)
section
theorem said4 : True := by
  (k_with "m:call ref" => (k_here; (with_reducible show wpAny _ _ (call (Value.ref 224) _ _) _ _ _); k_dflt (refine' bv_use ?kCz20 ?kBz20 ?kFz20 ?kXz20 ?kSz20 ?kNz20 ?kTz20 ?kKz20 ?klz20 ?ksz20 ?kPz20 ?kstz20 ?k0z20 ?k1z20 ?kdz20 ?kuz20 ?retz20 ?errz20; (case kCz20 => assumption); (case kBz20 => assumption); (case kFz20 => k_asm); (case kXz20 => k_asm); (case kTz20 => k_asm); (case kKz20 => exact rfl); (case klz20 => assumption); (case ksz20 => assumption); (case kSz20 => assumption); (case kNz20 => first | k_asm | exact news_sub (by k_asm) (by repeat (first | exact sub_id | refine sub_tl ?_))); (case kPz20 => assumption); (case kstz20 => first | assumption | (rename (∀ v e, _ = some (v, e) → Two _ _ e _ _) => hcl; exact fun v e h => stop_close (hcl v e h)) | (rename (∀ v e, _ = some (v, e) → ∃ lt, Lev _ _ lt ∧ _) => hst'; exact fun v e h => stop_b (hst' v e h))); (case k0z20 => omega); (case k1z20 => omega); (case kdz20 => ktr_room); (case kuz20 => ktr_units); (case' retz20 => intro v' e' hr' hd' t' led' h' tk' u1' u2' S' F' N'; (try k_sweep); (try (rename (∀ v e, _ = some (v, e) → _ < e ∧ e ≤ _) => pe'; obtain ⟨pl', pm'⟩ := pe' _ _ hr')); (try (rename (∀ v e, _ = some (v, e) → -32767 ≤ v ∧ v ≤ 32767) => pb'; obtain ⟨pb1', pb2'⟩ := pb' _ _ hr')); (try (rename (∀ v e, _ = some (v, e) → Two _ _ e _ _) => hcl'; have two' := hcl' _ _ hr'; obtain ⟨z1', z2', ta', ua', ub', hta', htt'⟩ := id two'))); (case' errz20 => intro kd' hf' e' h' tk' R'))))
  trivial
set_option maxHeartbeats 8000000 in
theorem va_use {w : World} {n : Nat} {dp un : Nat} {gd : Option (List Code)} {cn : Str} {cs : Scope} {a : Addr} {ccd : Value} {cl : List (Str × Addr)} {outer : List Env} {A₀ : Around} {base h₀ : Heap} {L : Addr} {m : Str → Option Value} {led : List (Addr × Obj)} {s : Shared} {Q E : Value → Shared → Prop} {mean : ExcName → Option Value} {mg mb : Str → Option Value} {l x : Addr} {items : List Value} {k d : Int} {u u' : Tok} {r : Option (Int × Int)}  (IH : BVC w n)
    (B : Below A₀ base outer h₀) (F : Fr h₀ L s.heap m) (X : (Mine.K w.params).In h₀) (S : SOK w x led) (N : News h₀ L s.heap led) (T : Top Mine.view (looseW Mine.view []) mean mg mb h₀) (hk : cs.kind = .function)
    (hl : base.IsList l items.toArray) (hsz : items.length < 1000000) (hop : Two (IsTup base) items k "sign" "(") (P : Parse (IsTup base) items (k + 1) n r) (hcl : ∀ v e, r = some (v, e) → Two (IsTup base) items e "sign" ")") (hdd : d ≤ 40) (h0 : 0 ≤ d) (h1 : d ≤ 41) (hd : dp + 6 * (41 - d).toNat + 26 < recursionLimit) (hu : un + 40 * (41 - d).toNat + 375 < cLine)
    (hret : ∀ v e, r = some (v, e) → d + 1 + (n : Int) ≤ 40 → ∀ t lf led' h' tk' u1 u2, SOK w x led' → Fr h₀ L h' m → News h₀ L h' ((t, tupleObj [.ref lf, .int (e + 1) u2]) :: (lf, W.listOf #[.int v u1] 0) :: led') → Q (.ref t) { s with heap := h', toks := tk' })
    (herr : ∀ kd, Fails (d + 1) n r kd → ∀ e h' tk', RErr kd base h₀ L m (envX cn cs L a ccd cl :: outer) led e h' → E (.ref e) { s with heap := h', toks := tk' }) :
    wpAny (model PySem.Challenge.rw_pq1455_01.row.prog w) (ktrTop dp un gd cn cs L a ccd cl outer) (call (.ref 198) [.ref l, .int k u, .ref x, .int d u']) Q E s := by
  obtain ⟨pk0, pk1, pe⟩ := P.bounds
  revert X; k_fill; intro X
  refine wpAny_call ?_
  k_dflt ktr_enter
  rename_i g' L' h' FG' F' N' B' X' T'
  k_lift B'
  k_steps
  all_goals first
    | exact herr _ (by assumption) _ _ _ (by assumption)
    | exact hret _ _ (by assumption) (by assumption) _ _ _ _ _ _ _ (by assumption) (by assumption) (news_sub (by assumption) sub_va)
set_option maxHeartbeats 8000000 in
theorem tv_neg {w : World} {n : Nat} {dp un : Nat} {gd : Option (List Code)} {cn : Str} {cs : Scope} {a : Addr} {ccd : Value} {cl : List (Str × Addr)} {outer : List Env} {A₀ : Around} {base h₀ : Heap} {L : Addr} {m : Str → Option Value} {led : List (Addr × Obj)} {s : Shared} {Q E : Value → Shared → Prop} {mean : ExcName → Option Value} {mg mb : Str → Option Value} {l x : Addr} {items : List Value} {k d : Int} {u u' : Tok} {r : Option (Int × Int)}  (IH : BVC w n)
    (B : Below A₀ base outer h₀) (F : Fr h₀ L s.heap m) (X : (Mine.K w.params).In h₀) (S : SOK w x led) (N : News h₀ L s.heap led) (T : Top Mine.view (looseW Mine.view []) mean mg mb h₀) (hk : cs.kind = .function)
    (hl : base.IsList l items.toArray) (hsz : items.length < 1000000) (h2 : Two (IsTup base) items k "sign" "-") (P : Parse (IsTup base) items (k + 1) n r) (pb : ∀ v e, r = some (v, e) → -32767 ≤ v ∧ v ≤ 32767) (hst : ∀ v e, r = some (v, e) → ∃ lt, Lev (IsTup base) (tokAt items e) lt ∧ (lt = 0 ∨ n + 1 = 0)) (hdd : d ≤ 40) (h0 : 0 ≤ d) (h1 : d ≤ 41) (hd : dp + 6 * (41 - d).toNat + 26 < recursionLimit) (hu : un + 40 * (41 - d).toNat + 375 < cLine)
    (hret : ∀ v e, r = some (v, e) → d + 1 + (n : Int) ≤ 40 → ∀ t led' h' tk' u1 u2, SOK w x led' → Fr h₀ L h' m → News h₀ L h' ((t, tupleObj [.int (-v) u1, .int (e) u2]) :: led') → Q (.ref t) { s with heap := h', toks := tk' })
    (herr : ∀ kd, Fails (d + 1) n r kd → ∀ e h' tk', RErr kd base h₀ L m (envX cn cs L a ccd cl :: outer) led e h' → E (.ref e) { s with heap := h', toks := tk' }) :
    wpAny (model PySem.Challenge.rw_pq1455_01.row.prog w) (ktrTop dp un gd cn cs L a ccd cl outer) (call (.ref 210) [.ref l, .int k u, .ref x, .int d u']) Q E s := by
  obtain ⟨pk0, pk1, pe⟩ := P.bounds
  obtain ⟨zk0, zk1, ta, ua, ub, hv, ht⟩ := id h2
  revert X; k_fill; intro X
  refine wpAny_call ?_
  k_dflt ktr_enter
  rename_i g' L' h' FG' F' N' B' X' T'
  k_lift B'
  k_steps
  all_goals first
    | exact herr _ (by assumption) _ _ _ (by assumption)
    | exact hret _ _ (by assumption) (by assumption) _ _ _ _ _ _ (by assumption) (by assumption) (news_sub (by assumption) (sub_gen (by repeat (first | exact sub_id | refine sub_tl ?_))))
    | (exfalso; omega)
set_option maxHeartbeats 8000000 in
theorem tv_pos {w : World} {n : Nat} {dp un : Nat} {gd : Option (List Code)} {cn : Str} {cs : Scope} {a : Addr} {ccd : Value} {cl : List (Str × Addr)} {outer : List Env} {A₀ : Around} {base h₀ : Heap} {L : Addr} {m : Str → Option Value} {led : List (Addr × Obj)} {s : Shared} {Q E : Value → Shared → Prop} {mean : ExcName → Option Value} {mg mb : Str → Option Value} {l x : Addr} {items : List Value} {k d : Int} {u u' : Tok} {r : Option (Int × Int)}  (IH : BVC w n)
    (B : Below A₀ base outer h₀) (F : Fr h₀ L s.heap m) (X : (Mine.K w.params).In h₀) (S : SOK w x led) (N : News h₀ L s.heap led) (T : Top Mine.view (looseW Mine.view []) mean mg mb h₀) (hk : cs.kind = .function)
    (hl : base.IsList l items.toArray) (hsz : items.length < 1000000) (h2 : Two (IsTup base) items k "sign" "+") (P : Parse (IsTup base) items (k + 1) n r)  (hst : ∀ v e, r = some (v, e) → ∃ lt, Lev (IsTup base) (tokAt items e) lt ∧ (lt = 0 ∨ n + 1 = 0)) (hdd : d ≤ 40) (h0 : 0 ≤ d) (h1 : d ≤ 41) (hd : dp + 6 * (41 - d).toNat + 26 < recursionLimit) (hu : un + 40 * (41 - d).toNat + 375 < cLine)
    (hret : ∀ v e, r = some (v, e) → d + 1 + (n : Int) ≤ 40 → ∀ t led' h' tk' u1 u2, SOK w x led' → Fr h₀ L h' m → News h₀ L h' ((t, tupleObj [.int (v) u1, .int (e) u2]) :: led') → Q (.ref t) { s with heap := h', toks := tk' })
    (herr : ∀ kd, Fails (d + 1) n r kd → ∀ e h' tk', RErr kd base h₀ L m (envX cn cs L a ccd cl :: outer) led e h' → E (.ref e) { s with heap := h', toks := tk' }) :
    wpAny (model PySem.Challenge.rw_pq1455_01.row.prog w) (ktrTop dp un gd cn cs L a ccd cl outer) (call (.ref 210) [.ref l, .int k u, .ref x, .int d u']) Q E s := by
  obtain ⟨pk0, pk1, pe⟩ := P.bounds
  obtain ⟨zk0, zk1, ta, ua, ub, hv, ht⟩ := id h2
  revert X; k_fill; intro X
  refine wpAny_call ?_
  k_dflt ktr_enter
  rename_i g' L' h' FG' F' N' B' X' T'
  k_lift B'
  k_steps
  all_goals first
    | exact herr _ (by assumption) _ _ _ (by assumption)
    | exact hret _ _ (by assumption) (by assumption) _ _ _ _ _ _ (by assumption) (by assumption) (news_sub (by assumption) (sub_gen (by repeat (first | exact sub_id | refine sub_tl ?_))))
    | (exfalso; omega)
set_option maxHeartbeats 8000000 in
theorem tv_inv {w : World} {n : Nat} {dp un : Nat} {gd : Option (List Code)} {cn : Str} {cs : Scope} {a : Addr} {ccd : Value} {cl : List (Str × Addr)} {outer : List Env} {A₀ : Around} {base h₀ : Heap} {L : Addr} {m : Str → Option Value} {led : List (Addr × Obj)} {s : Shared} {Q E : Value → Shared → Prop} {mean : ExcName → Option Value} {mg mb : Str → Option Value} {l x : Addr} {items : List Value} {k d : Int} {u u' : Tok} {r : Option (Int × Int)}  (IH : BVC w n)
    (B : Below A₀ base outer h₀) (F : Fr h₀ L s.heap m) (X : (Mine.K w.params).In h₀) (S : SOK w x led) (N : News h₀ L s.heap led) (T : Top Mine.view (looseW Mine.view []) mean mg mb h₀) (hk : cs.kind = .function)
    (hl : base.IsList l items.toArray) (hsz : items.length < 1000000) (h2 : Two (IsTup base) items k "word" "NOT") (P : Parse (IsTup base) items (k + 1) n r)  (hst : ∀ v e, r = some (v, e) → ∃ lt, Lev (IsTup base) (tokAt items e) lt ∧ (lt = 0 ∨ n + 1 = 0)) (hdd : d ≤ 40) (h0 : 0 ≤ d) (h1 : d ≤ 41) (hd : dp + 6 * (41 - d).toNat + 26 < recursionLimit) (hu : un + 40 * (41 - d).toNat + 375 < cLine)
    (hret : ∀ v e, r = some (v, e) → d + 1 + (n : Int) ≤ 40 → ∀ t led' h' tk' u1 u2, SOK w x led' → Fr h₀ L h' m → News h₀ L h' ((t, tupleObj [.int (-1 - v) u1, .int (e) u2]) :: led') → Q (.ref t) { s with heap := h', toks := tk' })
    (herr : ∀ kd, Fails (d + 1) n r kd → ∀ e h' tk', RErr kd base h₀ L m (envX cn cs L a ccd cl :: outer) led e h' → E (.ref e) { s with heap := h', toks := tk' }) :
    wpAny (model PySem.Challenge.rw_pq1455_01.row.prog w) (ktrTop dp un gd cn cs L a ccd cl outer) (call (.ref 210) [.ref l, .int k u, .ref x, .int d u']) Q E s := by
  obtain ⟨pk0, pk1, pe⟩ := P.bounds
  obtain ⟨zk0, zk1, ta, ua, ub, hv, ht⟩ := id h2
  revert X; k_fill; intro X
  refine wpAny_call ?_
  k_dflt ktr_enter
  rename_i g' L' h' FG' F' N' B' X' T'
  k_lift B'
  k_steps
  all_goals first
    | exact herr _ (by assumption) _ _ _ (by assumption)
    | exact hret _ _ (by assumption) (by assumption) _ _ _ _ _ _ (by assumption) (by assumption) (news_sub (by assumption) (sub_gen (by repeat (first | exact sub_id | refine sub_tl ?_))))
    | (exfalso; omega)
section
theorem said5 : True := by
  (k_with "m:call ref" => (k_here; (with_reducible show wpAny _ _ (call (Value.ref 198) _ _) _ _ _); k_dflt (refine' va_use ?kCz21 ?kBz21 ?kFz21 ?kXz21 ?kSz21 ?kNz21 ?kTz21 ?kKz21 ?klz21 ?ksz21 ?kopz21 ?kPz21 ?kclz21 ?kddz21 ?k0z21 ?k1z21 ?kdz21 ?kuz21 ?retz21 ?errz21; (case kCz21 => assumption); (case kBz21 => assumption); (case kFz21 => k_asm); (case kXz21 => k_asm); (case kTz21 => k_asm); (case kKz21 => exact rfl); (case klz21 => assumption); (case ksz21 => assumption); (case kSz21 => assumption); (case kNz21 => first | k_asm | exact news_sub (by k_asm) (by repeat (first | exact sub_id | refine sub_tl ?_))); (case kPz21 => assumption); (case kopz21 => assumption); (case kclz21 => assumption); (case kddz21 => omega); (case k0z21 => omega); (case k1z21 => omega); (case kdz21 => ktr_room); (case kuz21 => ktr_units); (case' retz21 => intro v' e' hr' hd' t' lf' led' h' tk' u1' u2' S' F' N'; (try k_sweep); (try (rename (∀ v e, _ = some (v, e) → _ < e ∧ e ≤ _) => pe'; obtain ⟨pl', pm'⟩ := pe' _ _ hr')); (try (rename (∀ v e, _ = some (v, e) → -32767 ≤ v ∧ v ≤ 32767) => pb'; obtain ⟨pb1', pb2'⟩ := pb' _ _ hr')); (try (rename (∀ v e, _ = some (v, e) → Two _ _ e _ _) => hcl'; have two' := hcl' _ _ hr'; obtain ⟨z1', z2', ta', ua', ub', hta', htt'⟩ := id two'))); (case' errz21 => intro kd' hf' e' h' tk' R'))))
  (k_with "m:subscriptTail" => (k_here; (with_reducible show wpAny _ _ (subscriptTail _ _ (Value.ref _) (Value.int 0 _)) _ _ _); (with_unfolding_all refine' item0 ?k1z22 ?_ ?k6z22; (case k1z22 => exact News.isList (by k_asm) (by k_mem)); (case k6z22 => with_unfolding_all rfl); k_whole)))
  trivial
theorem abs_fit {v : Int} (h1 : -32767 ≤ v) (h2 : v ≤ 32767) : (if (if v < 0 then -v else v) ≤ 32767 then (if v < 0 then -v else v) else 0) = if v < 0 then -v else v := by
  by_cases h : v < 0
  · simp only [if_pos h]; rw [if_pos (by omega)]
  · simp only [if_neg h]; rw [if_pos h2]
theorem abs_big {v : Int} (h1 : -32767 ≤ v) (h2 : v ≤ 32767) (h : ¬ (if v < 0 then -v else v) ≤ 32767) : False := by
  by_cases g : v < 0
  · simp only [if_pos g] at h; omega
  · simp only [if_neg g] at h; omega
theorem abs_news {g h : Heap} {L t : Addr} {v : Int} {u1 : Tok} {x : Value} {led : List (Addr × Obj)} (h1 : -32767 ≤ v) (h2 : v ≤ 32767) (N : News g L h ((t, tupleObj [.int (if (if v < 0 then -v else v) ≤ 32767 then (if v < 0 then -v else v) else 0) u1, x]) :: led)) : News g L h ((t, tupleObj [.int (if v < 0 then -v else v) u1, x]) :: led) := by
  rwa [abs_fit h1 h2] at N
set_option maxHeartbeats 8000000 in
theorem co_abs {w : World} {n : Nat} {dp un : Nat} {gd : Option (List Code)} {cn : Str} {cs : Scope} {a : Addr} {ccd : Value} {cl : List (Str × Addr)} {outer : List Env} {A₀ : Around} {base h₀ : Heap} {L : Addr} {m : Str → Option Value} {led : List (Addr × Obj)} {s : Shared} {Q E : Value → Shared → Prop} {mean : ExcName → Option Value} {mg mb : Str → Option Value} {l x : Addr} {items : List Value} {k d : Int} {u u' : Tok} {r : Option (Int × Int)}  (IH : BVC w n)
    (B : Below A₀ base outer h₀) (F : Fr h₀ L s.heap m) (X : (Mine.K w.params).In h₀) (S : SOK w x led) (N : News h₀ L s.heap led) (T : Top Mine.view (looseW Mine.view []) mean mg mb h₀) (hk : cs.kind = .function)
    (hl : base.IsList l items.toArray) (hsz : items.length < 1000000) (h2 : Two (IsTup base) items k "word" "ABS") (h3 : Two (IsTup base) items (k + 1) "sign" "(") (P : Parse (IsTup base) items (k + 1 + 1) n r) (pb : ∀ v e, r = some (v, e) → -32767 ≤ v ∧ v ≤ 32767) (hcl : ∀ v e, r = some (v, e) → Two (IsTup base) items e "sign" ")") (hdd : d ≤ 40) (h0 : 0 ≤ d) (h1 : d ≤ 41) (hd : dp + 6 * (41 - d).toNat + 28 < recursionLimit) (hu : un + 40 * (41 - d).toNat + 385 < cLine)
    (hret : ∀ v e, r = some (v, e) → d + 1 + (n : Int) ≤ 40 → ∀ t led' h' tk' u1 u2, SOK w x led' → Fr h₀ L h' m → News h₀ L h' ((t, tupleObj [.int (if v < 0 then -v else v) u1, .int (e + 1) u2]) :: led') → Q (.ref t) { s with heap := h', toks := tk' })
    (herr : ∀ kd, Fails (d + 1) n r kd → ∀ e h' tk', RErr kd base h₀ L m (envX cn cs L a ccd cl :: outer) led e h' → E (.ref e) { s with heap := h', toks := tk' }) :
    wpAny (model PySem.Challenge.rw_pq1455_01.row.prog w) (ktrTop dp un gd cn cs L a ccd cl outer) (call (.ref 191) [.ref l, .int k u, .ref x, .int d u']) Q E s := by
  obtain ⟨pk0, pk1, pe⟩ := P.bounds
  obtain ⟨zk0, zk1, ta, ua, ub, hv, ht⟩ := id h2
  revert X; k_fill; intro X
  refine wpAny_call ?_
  k_dflt ktr_enter
  rename_i g' L' h' FG' F' N' B' X' T'
  k_lift B'
  k_steps
  all_goals first
    | exact herr _ (by assumption) _ _ _ (by assumption)
    | exact hret _ _ (by assumption) (by assumption) _ _ _ _ _ _ (by assumption) (by assumption) (news_sub (abs_news (by assumption) (by assumption) (by assumption)) (sub_gen (by repeat (first | exact sub_id | refine sub_tl ?_))))
    | (rename (¬ _ ≤ (32767 : Int)) => hz; exact (abs_big (by assumption) (by assumption) hz).elim)
set_option maxHeartbeats 8000000 in
theorem co_sgn {w : World} {n : Nat} {dp un : Nat} {gd : Option (List Code)} {cn : Str} {cs : Scope} {a : Addr} {ccd : Value} {cl : List (Str × Addr)} {outer : List Env} {A₀ : Around} {base h₀ : Heap} {L : Addr} {m : Str → Option Value} {led : List (Addr × Obj)} {s : Shared} {Q E : Value → Shared → Prop} {mean : ExcName → Option Value} {mg mb : Str → Option Value} {l x : Addr} {items : List Value} {k d : Int} {u u' : Tok} {r : Option (Int × Int)}  (IH : BVC w n)
    (B : Below A₀ base outer h₀) (F : Fr h₀ L s.heap m) (X : (Mine.K w.params).In h₀) (S : SOK w x led) (N : News h₀ L s.heap led) (T : Top Mine.view (looseW Mine.view []) mean mg mb h₀) (hk : cs.kind = .function)
    (hl : base.IsList l items.toArray) (hsz : items.length < 1000000) (h2 : Two (IsTup base) items k "word" "SGN") (h3 : Two (IsTup base) items (k + 1) "sign" "(") (P : Parse (IsTup base) items (k + 1 + 1) n r)  (hcl : ∀ v e, r = some (v, e) → Two (IsTup base) items e "sign" ")") (hdd : d ≤ 40) (h0 : 0 ≤ d) (h1 : d ≤ 41) (hd : dp + 6 * (41 - d).toNat + 28 < recursionLimit) (hu : un + 40 * (41 - d).toNat + 385 < cLine)
    (hret : ∀ v e, r = some (v, e) → d + 1 + (n : Int) ≤ 40 → ∀ t led' h' tk' u1 u2, SOK w x led' → Fr h₀ L h' m → News h₀ L h' ((t, tupleObj [.int (PyProof.Rows.b2i (decide (0 < v)) - PyProof.Rows.b2i (decide (v < 0))) u1, .int (e + 1) u2]) :: led') → Q (.ref t) { s with heap := h', toks := tk' })
    (herr : ∀ kd, Fails (d + 1) n r kd → ∀ e h' tk', RErr kd base h₀ L m (envX cn cs L a ccd cl :: outer) led e h' → E (.ref e) { s with heap := h', toks := tk' }) :
    wpAny (model PySem.Challenge.rw_pq1455_01.row.prog w) (ktrTop dp un gd cn cs L a ccd cl outer) (call (.ref 191) [.ref l, .int k u, .ref x, .int d u']) Q E s := by
  obtain ⟨pk0, pk1, pe⟩ := P.bounds
  obtain ⟨zk0, zk1, ta, ua, ub, hv, ht⟩ := id h2
  revert X; k_fill; intro X
  refine wpAny_call ?_
  k_dflt ktr_enter
  rename_i g' L' h' FG' F' N' B' X' T'
  k_lift B'
  k_steps
  all_goals first
    | exact herr _ (by assumption) _ _ _ (by assumption)
    | exact hret _ _ (by assumption) (by assumption) _ _ _ _ _ _ (by assumption) (by assumption) (news_sub (by assumption) (sub_gen (by repeat (first | exact sub_id | refine sub_tl ?_))))
    | (exfalso; omega)
end
end
section
theorem said6 : True := by
  k_with_none
  (k_with "m:subscriptTail" => (k_here; (with_reducible show wpAny _ _ (subscriptTail _ _ (Value.ref _) (Value.int _ _)) _ _ _); (with_unfolding_all refine' item_at ?k1z1 ?k2z1 ?k3z1 ?k4z1 ?k5z1 ?_ ?k6z1; (case k1z1 => is_list); (case k2z1 => omega); (case k3z1 => omega); (case k4z1 => omega); (case k5z1 => first | assumption | exact rfl); (case k6z1 => with_unfolding_all rfl); k_whole)))
  (k_with "m:call builtin:len" => (k_here; (with_reducible show wpAny _ _ (call (Value.builtin "len") [Value.ref _]) _ _ _); k_dflt (refine' len_at ?k1z2 ?k2z2 ?_; (case k1z2 => is_list); (case k2z2 => omega); k_whole)))
  (k_with "m:compareOp Eq str str" => (refine' eq_strC ?krz3 ?_; (case krz3 => first | ((refine (?_ : _ = true)); kernel_rfl!) | ((refine (?_ : _ = false)); kernel_rfl!)); k_whole))
  (k_with "m:compareOp NotEq str str" => (refine' ne_strC ?krz4 ?_; (case krz4 => first | ((refine (?_ : _ = true)); kernel_rfl!) | ((refine (?_ : _ = false)); kernel_rfl!)); k_whole))
  (k_with "m:ite" => (k_closed; first | rewrite [if_neg Bool.false_ne_true] | rewrite [if_pos (rfl : true = true)]))
  (k_with "m:exec Raise some none" => (k_here; (with_reducible show wpAny _ _ (exec (Stmt.Raise (some (Expr.Call (Expr.Name ("BasicError" : Str) _) (_ :: _) [] _)) none _) _) _ _ _); k_dflt (refine' Raise_D ?hhz6 ?_; (case hhz6 => rfl))))
  (k_with "m:call ref" => (k_here; (with_reducible show wpAny _ _ (call (Value.ref 31) _ _) _ _ _); k_dflt (refine' call_clsE ?k1z7 ?k2z7 ?k3z7 ?k4z7 ?_; (case k1z7 => k_asm); (case k2z7 => k_asm); (case k3z7 => k_asm); (case k4z7 => size_fits); k_whole; intro x' t' h' F' N' l1; (try k_sweep); k_enter)))
  (k_with "m:setAttr ref" => (k_here; k_dflt (refine' set_kind ?k1z8 ?k2z8 ?k3z8 ?k4z8 ?_; (case k1z8 => k_asm); (case k2z8 => k_asm); (case k3z8 => k_asm); (case k4z8 => assumption); k_whole; intro dx' D' h' tk' K' ne' F' N'; (try k_sweep))))
  (k_with "m:RaisableD" => (k_dflt (refine' raisable31 ?k1z9 ?k2z9 ?k3z9 ?_; (case k1z9 => k_asm); (case k2z9 => k_asm); (case k3z9 => k_asm); k_whole)))
  (k_with "m:call ref" => (k_here; (with_reducible show wpAny _ _ (call (Value.ref 51) _ _) _ _ _); k_dflt (refine' c_token_at _ ?kBz10 ?kFz10 ?kXz10 ?kNz10 ?kTz10 ?kKz10 ?klz10 ?ksz10 ?k0z10 ?k1z10 ?kvz10 ?kdz10 ?kuz10 ?_; (case kBz10 => assumption); (case kFz10 => k_asm); (case kXz10 => k_asm); (case kNz10 => k_asm); (case kTz10 => k_asm); (case kKz10 => exact rfl); (case klz10 => assumption); (case ksz10 => assumption); (case kvz10 => first | assumption | exact rfl); (case k0z10 => omega); (case k1z10 => omega); (case kdz10 => ktr_room); (case kuz10 => ktr_units); k_whole; intro h' tk' F' N'; (try k_sweep))))
  (k_with "m:compareOp NotEq ref ref" => (k_here; (with_reducible show wpAny _ _ (compareOp CmpOp.NotEq (Value.ref _) (Value.ref _)) _ _ _); k_dflt (refine' two_ne' ?k1z11 ?k2z11 ?k3z11 ?k4z11 ?k5z11 ?k6z11 ?kuz11 ?krz11 ?_; (case k1z11 => first | assumption | exact Fr.tup (by assumption) (by assumption) | exact tup_base (by assumption) (by assumption) (by assumption) | exact News.isTup (by k_asm) (by k_mem)); (case k2z11 => first | assumption | exact Fr.tup (by assumption) (by assumption) | exact tup_base (by assumption) (by assumption) (by assumption) | exact News.isTup (by k_asm) (by k_mem)); (case k3z11 => first | assumption | kernel_rfl!); (case k4z11 => first | assumption | kernel_rfl!); (case k5z11 => first | assumption | kernel_rfl!); (case k6z11 => first | assumption | kernel_rfl!); (case kuz11 => ktr_units); (case krz11 => first | exact beq2_same | ((refine (?_ : _ = true)); kernel_rfl!) | ((refine (?_ : _ = false)); kernel_rfl!)); k_whole; (try simp only [Bool.not_true, Bool.not_false]))))
  (k_with "m:compareOp Eq ref ref" => (k_here; (with_reducible show wpAny _ _ (compareOp CmpOp.Eq (Value.ref _) (Value.ref _)) _ _ _); k_dflt (refine' two_eq' ?k1z12 ?k2z12 ?k3z12 ?k4z12 ?k5z12 ?k6z12 ?kuz12 ?krz12 ?_; (case k1z12 => first | assumption | exact Fr.tup (by assumption) (by assumption) | exact tup_base (by assumption) (by assumption) (by assumption) | exact News.isTup (by k_asm) (by k_mem)); (case k2z12 => first | assumption | exact Fr.tup (by assumption) (by assumption) | exact tup_base (by assumption) (by assumption) (by assumption) | exact News.isTup (by k_asm) (by k_mem)); (case k3z12 => first | assumption | kernel_rfl!); (case k4z12 => first | assumption | kernel_rfl!); (case k5z12 => first | assumption | kernel_rfl!); (case k6z12 => first | assumption | kernel_rfl!); (case kuz12 => ktr_units); (case krz12 => first | exact beq2_same | ((refine (?_ : _ = true)); kernel_rfl!) | ((refine (?_ : _ = false)); kernel_rfl!)); k_whole; (try simp only [Bool.not_true, Bool.not_false]))))
  (k_with "m:compareOp In str ref" => (k_here; (with_reducible show wpAny _ _ (compareOp CmpOp.In (Value.str _ _) (Value.ref 36)) _ _ _); k_dflt (refine' in36 ?k1z13 ?k2z13 ?k3z13 ?kuz13 ?krz13 ?_; (case k1z13 => k_asm); (case k2z13 => k_asm); (case k3z13 => first | assumption | kernel_rfl!); (case kuz13 => ktr_units); (case krz13 => first | ((refine (?_ : _ = true)); kernel_rfl!) | ((refine (?_ : _ = false)); kernel_rfl!)); k_whole)))
  (k_with "m:compareOp In str ref" => (k_here; (with_reducible show wpAny _ _ (compareOp CmpOp.In (Value.str _ _) (Value.ref 37)) _ _ _); k_dflt (refine' in37 ?k1z14 ?k2z14 ?k3z14 ?kuz14 ?krz14 ?_; (case k1z14 => k_asm); (case k2z14 => k_asm); (case k3z14 => first | assumption | kernel_rfl!); (case kuz14 => ktr_units); (case krz14 => first | ((refine (?_ : _ = true)); kernel_rfl!) | ((refine (?_ : _ = false)); kernel_rfl!)); k_whole)))
  (k_with "m:compareOp In ref ref" => (k_here; (with_reducible show wpAny _ _ (compareOp CmpOp.In (Value.ref _) (Value.ref _)) _ _ _); k_dflt (refine' in_three ?k1z15 ?k2z15 ?k3z15 ?k4z15 ?k5z15 ?k6z15 ?k7z15 ?kuz15 ?krz15 ?_; (case k1z15 => exact News.isTup (by k_asm) (by k_mem)); (case k2z15 => exact News.isTup (by k_asm) (by k_mem)); (case k3z15 => exact News.isTup (by k_asm) (by k_mem)); (case k4z15 => exact News.isTup (by k_asm) (by k_mem)); (case k5z15 => exact News.isTup (by k_asm) (by k_mem)); (case k6z15 => kernel_rfl!); (case k7z15 => kernel_rfl!); (case kuz15 => ktr_units); (case krz15 => first | ((refine (?_ : _ = true)); kernel_rfl!) | ((refine (?_ : _ = false)); kernel_rfl!)); k_whole)))
  (k_with "m:call ref" => (k_here; (with_reducible show wpAny _ _ (call (Value.ref 58) _ _) _ _ _); k_dflt (refine' c_expect _ ?kBz16 ?kFz16 ?kXz16 ?kNz16 ?kTz16 ?kKz16 ?klz16 ?ksz16 ?kokz16 ?k2z16 ?kdz16 ?kuz16 ?_; (case kBz16 => assumption); (case kFz16 => k_asm); (case kXz16 => k_asm); (case kNz16 => k_asm); (case kTz16 => k_asm); (case kKz16 => exact rfl); (case klz16 => assumption); (case ksz16 => assumption); (case kokz16 => kernel_rfl!); (case k2z16 => assumption); (case kdz16 => ktr_room); (case kuz16 => ktr_units); k_whole; intro h' tk' u9 F' N'; (try k_sweep))))
  (k_with "m:call ref" => (k_here; (with_reducible show wpAny _ _ (call (Value.ref 135) _ _) _ _ _); k_dflt (refine' c_level_of _ ?kBz17 ?kFz17 ?kXz17 ?kNz17 ?kTz17 ?kKz17 ?kvz17 ?kdz17 ?kuz17 ?_; (case kBz17 => assumption); (case kFz17 => k_asm); (case kXz17 => k_asm); (case kNz17 => k_asm); (case kTz17 => k_asm); (case kKz17 => exact rfl); (case kvz17 => assumption); (case kdz17 => ktr_room); (case kuz17 => ktr_units); k_whole; intro h' tk' u9 F' N'; (try k_sweep))))
  (k_with "m:call ref" => (k_here; (with_reducible show wpAny _ _ (call (Value.ref 217) _ _) _ _ _); k_dflt (refine' fv_use ?kCz18 ?kBz18 ?kFz18 ?kXz18 ?kSz18 ?kNz18 ?kTz18 ?kKz18 ?klz18 ?ksz18 ?kPz18 ?kstz18 ?k0z18 ?k1z18 ?kdz18 ?kuz18 ?retz18 ?errz18; (case kCz18 => assumption); (case kBz18 => assumption); (case kFz18 => k_asm); (case kXz18 => k_asm); (case kTz18 => k_asm); (case kKz18 => exact rfl); (case klz18 => assumption); (case ksz18 => assumption); (case kSz18 => assumption); (case kNz18 => first | k_asm | exact news_sub (by k_asm) (by repeat (first | exact sub_id | refine sub_tl ?_))); (case kPz18 => assumption); (case kstz18 => first | assumption | exact fun v e h => stop_f ((by assumption : ∀ v e, _ = some (v, e) → ∃ lt, Lev _ _ lt ∧ _) v e h)); (case k0z18 => omega); (case k1z18 => omega); (case kdz18 => ktr_room); (case kuz18 => ktr_units); (case' retz18 => intro v' e' hr' hd' t' led' h' tk' u1' u2' S' F' N'; (try k_sweep); (try (rename (∀ v e, _ = some (v, e) → ∃ lt, Lev _ _ lt ∧ _) => hst'; obtain ⟨lt', lv', lo'⟩ := hst' _ _ hr')); (try (rename (∀ v e, _ = some (v, e) → _ < e ∧ e ≤ _) => pe'; obtain ⟨pl', pm'⟩ := pe' _ _ hr'))); (case' errz18 => intro kd' hf' e' h' tk' R'))))
  (k_with "m:exec While" => (k_here; k_dflt (refine' While_skip ?kFz19 ?kNz19 ?_ ?kEz19; (case kFz19 => k_asm); (case kNz19 => k_asm); (case kEz19 => passes_own); k_whole; intro h' tk' F' N'; (try k_sweep))))
  (k_with "m:call ref" => (k_here; (with_reducible show wpAny _ _ (call (Value.ref 198) _ _) _ _ _); k_dflt (refine' va_use ?kCz23 ?kBz23 ?kFz23 ?kXz23 ?kSz23 ?kNz23 ?kTz23 ?kKz23 ?klz23 ?ksz23 ?kopz23 ?kPz23 ?kclz23 ?kddz23 ?k0z23 ?k1z23 ?kdz23 ?kuz23 ?retz23 ?errz23; (case kCz23 => assumption); (case kBz23 => assumption); (case kFz23 => k_asm); (case kXz23 => k_asm); (case kTz23 => k_asm); (case kKz23 => exact rfl); (case klz23 => assumption); (case ksz23 => assumption); (case kSz23 => assumption); (case kNz23 => first | k_asm | exact news_sub (by k_asm) (by first | exact fun _ h => h | exact fun _ h => .tail _ h | exact fun _ h => .tail _ (.tail _ h) | exact fun _ h => .tail _ (.tail _ (.tail _ h)) | exact fun _ h => .tail _ (.tail _ (.tail _ (.tail _ h))))); (case kPz23 => assumption); (case kopz23 => assumption); (case kclz23 => assumption); (case kddz23 => omega); (case k0z23 => omega); (case k1z23 => omega); (case kdz23 => ktr_room); (case kuz23 => ktr_units); (case' retz23 => intro v' e' hr' hd' t' lf' led' h' tk' u1' u2' S' F' N'; (try k_sweep); (rename (∀ v e, _ = some (v, e) → v = 0) => pz'; have pz9 := pz' _ _ hr'; subst pz9);  (try (rename (∀ v e, _ = some (v, e) → _ < e ∧ e ≤ _) => pe'; obtain ⟨pl', pm'⟩ := pe' _ _ hr')); (try (rename (∀ v e, _ = some (v, e) → -32767 ≤ v ∧ v ≤ 32767) => pb'; obtain ⟨pb1', pb2'⟩ := pb' _ _ hr')); (try (rename (∀ v e, _ = some (v, e) → Two _ _ e _ _) => hcl'; have two' := hcl' _ _ hr'; obtain ⟨z1', z2', ta', ua', ub', hta', htt'⟩ := id two')); (cases S'; (case' fresh => (rename (Obj.IsDictOf _ _ _) => hd9; have ne1 := ne_dictl N' (.head _) (.tail _ (.tail _ (.head _))) hd9 rfl; have ne2 := ne_dictl N' (.tail _ (.head _)) (.tail _ (.tail _ (.head _))) hd9 rfl)))); (case' errz23 => intro kd' hf' e' h' tk' R'))))
  (k_with "m:binaryOp Mult ref int" => (k_here; (with_reducible show wpAny _ _ (binaryOp Operator.Mult (Value.ref _) (Value.int _ _)) _ _ _); k_dflt (refine' KMa.mul ?Fz24 ?Nz24 ?lz24 ?loz24 ?hiz24 ?zz24 ?ez24 ?_; (case Fz24 => k_asm); (case Nz24 => k_asm); (case lz24 => is_list); (case loz24 => first | omega | decide); (case hiz24 => first | omega | decide); (case zz24 => (simp only [List.length_cons, List.length_nil]; decide)); (case ez24 => (simp only [Int.reduceToNat, List.replicate_succ, List.replicate_zero, List.flatten_cons, List.flatten_nil, List.cons_append, List.nil_append, List.append_nil]; first | done | exact rfl)); k_whole); intro D' h' F' N' l1; (try k_lt l1); (try k_sweep)))
  (k_with "m:pyIter ref" => ((with_reducible show wpAny _ _ (pyIter (Value.ref _)) (fun it s₂ => LoopAtV _ _ _ _ _ _ _ _ _ it s₂) _ _); k_listUnr))
  (k_with "m:eval ListComp" => (k_here; k_dflt (refine LCg.ListComp_U (F₀ := by k_asm) (by rfl) (by decide) (by rfl) (by decide) (by rfl) ?_); k_dflt lcg_toSrc))
  (k_with "m:CompRest" => (with_unfolding_all first | (refine LCg.CompRest.succ ?_; intro v' I' oI' C' oC' D' m' h' tk' E' hv' hC' hx' F' N' off' ne'; (first | lcg_open hv' | (obtain ⟨t9', hv9'⟩ := hv'; subst hv9'))) | refine LCg.CompRest.zero ?_))
  (k_with "m:CompEnd" => (k_here; k_dflt (refine' compEnd_same ?kFz28 ?kNz28 ?koffz28 ?kSz28 ?_; (case kNz28 => assumption); (case kFz28 => assumption); (case koffz28 => assumption); (case kSz28 => lcg_src))))
  trivial
theorem sub_fresh {p0 p1 p2 p3 p4 p5 p6 p7 p8 p9 p10 p11 p12 p13 : Addr × Obj} : ∀ x ∈ [p0, p1, p2, p4, p9, p10, p11, p12, p13], x ∈ [p0, p1, p2, p3, p4, p5, p6, p7, p8, p9, p10, p11, p12, p13] := by
  intro x hx
  simp only [List.mem_cons, List.not_mem_nil, or_false] at hx ⊢
  rcases hx with h | h | h | h | h | h | h | h | h <;> simp [h]
theorem sub_made {p0 p1 p2 p3 p4 p5 p6 p7 p8 p9 p10 p11 : Addr × Obj} : ∀ x ∈ [p0, p4, p5, p6, p7, p8, p9, p10, p11], x ∈ [p0, p1, p2, p3, p4, p5, p6, p7, p8, p9, p10, p11] := by
  intro x hx
  simp only [List.mem_cons, List.not_mem_nil, or_false] at hx ⊢
  rcases hx with h | h | h | h | h | h | h | h | h <;> simp [h]
set_option maxHeartbeats 8000000 in
theorem vo_elem {w : World} {n : Nat} {dp un : Nat} {gd : Option (List Code)} {cn : Str} {cs : Scope} {a : Addr} {ccd : Value} {cl : List (Str × Addr)} {outer : List Env} {A₀ : Around} {base h₀ : Heap} {L : Addr} {m : Str → Option Value} {led : List (Addr × Obj)} {s : Shared} {Q E : Value → Shared → Prop} {mean : ExcName → Option Value} {mg mb : Str → Option Value} {l x : Addr} {items : List Value} {k d : Int} {u u' : Tok} {r : Option (Int × Int)}  (IH : BVC w n)
    (B : Below A₀ base outer h₀) (F : Fr h₀ L s.heap m) (X : (Mine.K w.params).In h₀) (S : SOK w x led) (N : News h₀ L s.heap led) (T : Top Mine.view (looseW Mine.view []) mean mg mb h₀) (hk : cs.kind = .function)
    (hl : base.IsList l items.toArray) (hsz : items.length < 1000000) (h2 : Two (IsTup base) items k "name" "A") (h3 : Two (IsTup base) items (k + 1) "sign" "(") (P : Parse (IsTup base) items (k + 1 + 1) n r) (pz : ∀ v e, r = some (v, e) → v = 0) (hcl : ∀ v e, r = some (v, e) → Two (IsTup base) items e "sign" ")") (hdd : d ≤ 40) (h0 : 0 ≤ d) (h1 : d ≤ 41) (hd : dp + 6 * (41 - d).toNat + 28 < recursionLimit) (hu : un + 40 * (41 - d).toNat + 385 < cLine)
    (hret : ∀ v e, r = some (v, e) → d + 1 + (n : Int) ≤ 40 → ∀ t led' h' tk' u1 u2, SOK w x led' → Fr h₀ L h' m → News h₀ L h' ((t, tupleObj [.int (0) u1, .int (e + 1) u2]) :: led') → Q (.ref t) { s with heap := h', toks := tk' })
    (herr : ∀ kd, Fails (d + 1) n r kd → ∀ e h' tk', RErr kd base h₀ L m (envX cn cs L a ccd cl :: outer) led e h' → E (.ref e) { s with heap := h', toks := tk' }) :
    wpAny (model PySem.Challenge.rw_pq1455_01.row.prog w) (ktrTop dp un gd cn cs L a ccd cl outer) (call (.ref 203) [.ref l, .int k u, .ref x, .int d u']) Q E s := by
  obtain ⟨pk0, pk1, pe⟩ := P.bounds
  obtain ⟨zk0, zk1, ta, ua, ub, hv, ht⟩ := id h2
  obtain ⟨zj0, zj1, tb, uc, ud, hvb, htb⟩ := id h3
  revert X; k_fill; intro X
  refine wpAny_call ?_
  k_dflt ktr_enter
  rename_i g' L' h' FG' F' N' B' X' T'
  k_lift B'
  k_steps
  all_goals first
    | exact herr _ (by assumption) _ _ _ (by assumption)
    | (refine hret _ _ (by assumption) (by assumption) _ _ _ _ _ _ ?_ (by assumption) (news_sub (by assumption) sub_fresh); exact SOK.made (by assumption) (by assumption))
    | (refine hret _ _ (by assumption) (by assumption) _ _ _ _ _ _ ?_ (by assumption) (news_sub (by assumption) sub_made); exact SOK.made (by assumption) (by assumption))
end
section
theorem said7 : True := by
  k_with_none
  (k_with "m:subscriptTail" => (k_here; (with_reducible show wpAny _ _ (subscriptTail _ _ (Value.ref _) (Value.int _ _)) _ _ _); (with_unfolding_all refine' item_at ?k1z1 ?k2z1 ?k3z1 ?k4z1 ?k5z1 ?_ ?k6z1; (case k1z1 => is_list); (case k2z1 => omega); (case k3z1 => omega); (case k4z1 => omega); (case k5z1 => first | assumption | exact rfl); (case k6z1 => with_unfolding_all rfl); k_whole)))
  (k_with "m:call builtin:len" => (k_here; (with_reducible show wpAny _ _ (call (Value.builtin "len") [Value.ref _]) _ _ _); k_dflt (refine' len_at ?k1z2 ?k2z2 ?_; (case k1z2 => is_list); (case k2z2 => omega); k_whole)))
  (k_with "m:compareOp Eq str str" => (refine' eq_strC ?krz3 ?_; (case krz3 => first | ((refine (?_ : _ = true)); kernel_rfl!) | ((refine (?_ : _ = false)); kernel_rfl!)); k_whole))
  (k_with "m:compareOp NotEq str str" => (refine' ne_strC ?krz4 ?_; (case krz4 => first | ((refine (?_ : _ = true)); kernel_rfl!) | ((refine (?_ : _ = false)); kernel_rfl!)); k_whole))
  (k_with "m:ite" => (k_closed; first | rewrite [if_neg Bool.false_ne_true] | rewrite [if_pos (rfl : true = true)]))
  (k_with "m:exec Raise some none" => (k_here; (with_reducible show wpAny _ _ (exec (Stmt.Raise (some (Expr.Call (Expr.Name ("BasicError" : Str) _) (_ :: _) [] _)) none _) _) _ _ _); k_dflt (refine' Raise_D ?hhz6 ?_; (case hhz6 => rfl))))
  (k_with "m:call ref" => (k_here; (with_reducible show wpAny _ _ (call (Value.ref 31) _ _) _ _ _); k_dflt (refine' call_clsE ?k1z7 ?k2z7 ?k3z7 ?k4z7 ?_; (case k1z7 => k_asm); (case k2z7 => k_asm); (case k3z7 => k_asm); (case k4z7 => size_fits); k_whole; intro x' t' h' F' N' l1; (try k_sweep); k_enter)))
  (k_with "m:setAttr ref" => (k_here; k_dflt (refine' set_kind ?k1z8 ?k2z8 ?k3z8 ?k4z8 ?_; (case k1z8 => k_asm); (case k2z8 => k_asm); (case k3z8 => k_asm); (case k4z8 => assumption); k_whole; intro dx' D' h' tk' K' ne' F' N'; (try k_sweep))))
  (k_with "m:RaisableD" => (k_dflt (refine' raisable31 ?k1z9 ?k2z9 ?k3z9 ?_; (case k1z9 => k_asm); (case k2z9 => k_asm); (case k3z9 => k_asm); k_whole)))
  (k_with "m:call ref" => (k_here; (with_reducible show wpAny _ _ (call (Value.ref 51) _ _) _ _ _); k_dflt (refine' c_token_at _ ?kBz10 ?kFz10 ?kXz10 ?kNz10 ?kTz10 ?kKz10 ?klz10 ?ksz10 ?k0z10 ?k1z10 ?kvz10 ?kdz10 ?kuz10 ?_; (case kBz10 => assumption); (case kFz10 => k_asm); (case kXz10 => k_asm); (case kNz10 => k_asm); (case kTz10 => k_asm); (case kKz10 => exact rfl); (case klz10 => assumption); (case ksz10 => assumption); (case kvz10 => first | assumption | exact rfl); (case k0z10 => omega); (case k1z10 => omega); (case kdz10 => ktr_room); (case kuz10 => ktr_units); k_whole; intro h' tk' F' N'; (try k_sweep))))
  (k_with "m:compareOp NotEq ref ref" => (k_here; (with_reducible show wpAny _ _ (compareOp CmpOp.NotEq (Value.ref _) (Value.ref _)) _ _ _); k_dflt (refine' two_ne' ?k1z11 ?k2z11 ?k3z11 ?k4z11 ?k5z11 ?k6z11 ?kuz11 ?krz11 ?_; (case k1z11 => first | assumption | exact Fr.tup (by assumption) (by assumption) | exact tup_base (by assumption) (by assumption) (by assumption) | exact News.isTup (by k_asm) (by k_mem)); (case k2z11 => first | assumption | exact Fr.tup (by assumption) (by assumption) | exact tup_base (by assumption) (by assumption) (by assumption) | exact News.isTup (by k_asm) (by k_mem)); (case k3z11 => first | assumption | kernel_rfl!); (case k4z11 => first | assumption | kernel_rfl!); (case k5z11 => first | assumption | kernel_rfl!); (case k6z11 => first | assumption | kernel_rfl!); (case kuz11 => ktr_units); (case krz11 => first | exact beq2_same | ((refine (?_ : _ = true)); kernel_rfl!) | ((refine (?_ : _ = false)); kernel_rfl!)); k_whole; (try simp only [Bool.not_true, Bool.not_false]))))
  (k_with "m:compareOp Eq ref ref" => (k_here; (with_reducible show wpAny _ _ (compareOp CmpOp.Eq (Value.ref _) (Value.ref _)) _ _ _); k_dflt (refine' two_eq' ?k1z12 ?k2z12 ?k3z12 ?k4z12 ?k5z12 ?k6z12 ?kuz12 ?krz12 ?_; (case k1z12 => first | assumption | exact Fr.tup (by assumption) (by assumption) | exact tup_base (by assumption) (by assumption) (by assumption) | exact News.isTup (by k_asm) (by k_mem)); (case k2z12 => first | assumption | exact Fr.tup (by assumption) (by assumption) | exact tup_base (by assumption) (by assumption) (by assumption) | exact News.isTup (by k_asm) (by k_mem)); (case k3z12 => first | assumption | kernel_rfl!); (case k4z12 => first | assumption | kernel_rfl!); (case k5z12 => first | assumption | kernel_rfl!); (case k6z12 => first | assumption | kernel_rfl!); (case kuz12 => ktr_units); (case krz12 => first | exact beq2_same | ((refine (?_ : _ = true)); kernel_rfl!) | ((refine (?_ : _ = false)); kernel_rfl!)); k_whole; (try simp only [Bool.not_true, Bool.not_false]))))
  (k_with "m:compareOp In str ref" => (k_here; (with_reducible show wpAny _ _ (compareOp CmpOp.In (Value.str _ _) (Value.ref 36)) _ _ _); k_dflt (refine' in36 ?k1z13 ?k2z13 ?k3z13 ?kuz13 ?krz13 ?_; (case k1z13 => k_asm); (case k2z13 => k_asm); (case k3z13 => first | assumption | kernel_rfl!); (case kuz13 => ktr_units); (case krz13 => first | ((refine (?_ : _ = true)); kernel_rfl!) | ((refine (?_ : _ = false)); kernel_rfl!)); k_whole)))
  (k_with "m:compareOp In str ref" => (k_here; (with_reducible show wpAny _ _ (compareOp CmpOp.In (Value.str _ _) (Value.ref 37)) _ _ _); k_dflt (refine' in37 ?k1z14 ?k2z14 ?k3z14 ?kuz14 ?krz14 ?_; (case k1z14 => k_asm); (case k2z14 => k_asm); (case k3z14 => first | assumption | kernel_rfl!); (case kuz14 => ktr_units); (case krz14 => first | ((refine (?_ : _ = true)); kernel_rfl!) | ((refine (?_ : _ = false)); kernel_rfl!)); k_whole)))
  (k_with "m:compareOp In ref ref" => (k_here; (with_reducible show wpAny _ _ (compareOp CmpOp.In (Value.ref _) (Value.ref _)) _ _ _); k_dflt (refine' in_three ?k1z15 ?k2z15 ?k3z15 ?k4z15 ?k5z15 ?k6z15 ?k7z15 ?kuz15 ?krz15 ?_; (case k1z15 => exact News.isTup (by k_asm) (by k_mem)); (case k2z15 => exact News.isTup (by k_asm) (by k_mem)); (case k3z15 => exact News.isTup (by k_asm) (by k_mem)); (case k4z15 => exact News.isTup (by k_asm) (by k_mem)); (case k5z15 => exact News.isTup (by k_asm) (by k_mem)); (case k6z15 => kernel_rfl!); (case k7z15 => kernel_rfl!); (case kuz15 => ktr_units); (case krz15 => first | ((refine (?_ : _ = true)); kernel_rfl!) | ((refine (?_ : _ = false)); kernel_rfl!)); k_whole)))
  (k_with "m:call ref" => (k_here; (with_reducible show wpAny _ _ (call (Value.ref 58) _ _) _ _ _); k_dflt (refine' c_expect _ ?kBz16 ?kFz16 ?kXz16 ?kNz16 ?kTz16 ?kKz16 ?klz16 ?ksz16 ?kokz16 ?k2z16 ?kdz16 ?kuz16 ?_; (case kBz16 => assumption); (case kFz16 => k_asm); (case kXz16 => k_asm); (case kNz16 => k_asm); (case kTz16 => k_asm); (case kKz16 => exact rfl); (case klz16 => assumption); (case ksz16 => assumption); (case kokz16 => kernel_rfl!); (case k2z16 => assumption); (case kdz16 => ktr_room); (case kuz16 => ktr_units); k_whole; intro h' tk' u9 F' N'; (try k_sweep))))
  (k_with "m:call ref" => (k_here; (with_reducible show wpAny _ _ (call (Value.ref 135) _ _) _ _ _); k_dflt (refine' c_level_of _ ?kBz17 ?kFz17 ?kXz17 ?kNz17 ?kTz17 ?kKz17 ?kvz17 ?kdz17 ?kuz17 ?_; (case kBz17 => assumption); (case kFz17 => k_asm); (case kXz17 => k_asm); (case kNz17 => k_asm); (case kTz17 => k_asm); (case kKz17 => exact rfl); (case kvz17 => assumption); (case kdz17 => ktr_room); (case kuz17 => ktr_units); k_whole; intro h' tk' u9 F' N'; (try k_sweep))))
  (k_with "m:call ref" => (k_here; (with_reducible show wpAny _ _ (call (Value.ref 217) _ _) _ _ _); k_dflt (refine' fv_use ?kCz18 ?kBz18 ?kFz18 ?kXz18 ?kSz18 ?kNz18 ?kTz18 ?kKz18 ?klz18 ?ksz18 ?kPz18 ?kstz18 ?k0z18 ?k1z18 ?kdz18 ?kuz18 ?retz18 ?errz18; (case kCz18 => assumption); (case kBz18 => assumption); (case kFz18 => k_asm); (case kXz18 => k_asm); (case kTz18 => k_asm); (case kKz18 => exact rfl); (case klz18 => assumption); (case ksz18 => assumption); (case kSz18 => assumption); (case kNz18 => first | k_asm | exact news_sub (by k_asm) (by repeat (first | exact sub_id | refine sub_tl ?_))); (case kPz18 => assumption); (case kstz18 => first | assumption | exact fun v e h => stop_f ((by assumption : ∀ v e, _ = some (v, e) → ∃ lt, Lev _ _ lt ∧ _) v e h)); (case k0z18 => omega); (case k1z18 => omega); (case kdz18 => ktr_room); (case kuz18 => ktr_units); (case' retz18 => intro v' e' hr' hd' t' led' h' tk' u1' u2' S' F' N'; (try k_sweep); (try (rename (∀ v e, _ = some (v, e) → ∃ lt, Lev _ _ lt ∧ _) => hst'; obtain ⟨lt', lv', lo'⟩ := hst' _ _ hr')); (try (rename (∀ v e, _ = some (v, e) → _ < e ∧ e ≤ _) => pe'; obtain ⟨pl', pm'⟩ := pe' _ _ hr'))); (case' errz18 => intro kd' hf' e' h' tk' R'))))
  (k_with "m:exec While" => (k_here; k_dflt (refine' While_skip ?kFz19 ?kNz19 ?_ ?kEz19; (case kFz19 => k_asm); (case kNz19 => k_asm); (case kEz19 => passes_own); k_whole; intro h' tk' F' N'; (try k_sweep))))
  (k_with "m:call ref" => (k_here; (with_reducible show wpAny _ _ (call (Value.ref 224) _ _) _ _ _); k_dflt (refine' bv_use ?kCz29 ?kBz29 ?kFz29 ?kXz29 ?kSz29 ?kNz29 ?kTz29 ?kKz29 ?klz29 ?ksz29 ?kPz29 ?kstz29 ?k0z29 ?k1z29 ?kdz29 ?kuz29 ?retz29 ?errz29; (case kCz29 => assumption); (case kBz29 => assumption); (case kFz29 => k_asm); (case kXz29 => k_asm); (case kTz29 => k_asm); (case kKz29 => exact rfl); (case klz29 => assumption); (case ksz29 => assumption); (case kSz29 => assumption); (case kNz29 => first | k_asm | exact news_sub (by k_asm) (by repeat (first | exact sub_id | refine sub_tl ?_))); (case kPz29 => assumption); (case kstz29 => first | assumption | (rename (∀ v e, _ = some (v, e) → Two _ _ e _ _) => hcl; exact fun v e h => stop_close (hcl v e h)) | (rename (∀ v e, _ = some (v, e) → ∃ lt, Lev _ _ lt ∧ _) => hst'; exact fun v e h => stop_b (hst' v e h))); (case k0z29 => omega); (case k1z29 => omega); (case kdz29 => ktr_room); (case kuz29 => ktr_units); (case' retz29 => intro v' e' hr' hd' t' led' h' tk' u1' u2' S' F' N'; (try k_sweep); (try (rename (∀ v e, _ = some (v, e) → _ < e ∧ e ≤ _) => pe'; obtain ⟨pl', pm'⟩ := pe' _ _ hr')); (try (rename (∀ v e, _ = some (v, e) → -32767 ≤ v ∧ v ≤ 32767) => pb'; obtain ⟨pb1', pb2'⟩ := pb' _ _ hr')); (try (rename (∀ v e, _ = some (v, e) → Two _ _ e _ _) => hcl'; have two' := hcl' _ _ hr'; obtain ⟨z1', z2', ta', ua', ub', hta', htt'⟩ := id two'))); (case' errz29 => intro kd' hf' e' h' tk' R'))))
  (k_with "m:call ref" => (k_here; (with_reducible show wpAny _ _ (call (Value.ref 210) _ _) _ _ _); k_dflt (first | (refine' tv_neg ?kCz30 ?kBz30 ?kFz30 ?kXz30 ?kSz30 ?kNz30 ?kTz30 ?kKz30 ?klz30 ?ksz30 ?kh2z30 ?kPz30 ?kpbz30 ?khstz30 ?kddz30 ?k0z30 ?k1z30 ?kdz30 ?kuz30 ?retz30 ?errz30; (case kCz30 => assumption); (case kh2z30 => assumption); (case kPz30 => assumption); (case kpbz30 => assumption); (case khstz30 => assumption); (case kBz30 => assumption); (case kFz30 => k_asm); (case kXz30 => k_asm); (case kTz30 => k_asm); (case kKz30 => exact rfl); (case klz30 => assumption); (case ksz30 => assumption); (case kSz30 => assumption); (case kNz30 => first | k_asm | exact news_sub (by k_asm) (by repeat (first | exact sub_id | refine sub_tl ?_))); (case kddz30 => omega); (case k0z30 => omega); (case k1z30 => omega); (case kdz30 => ktr_room); (case kuz30 => ktr_units); (case' retz30 => intro v' e' hr' hd' t' led' h' tk' u1' u2' S' F' N'; (try k_sweep)); (case' errz30 => intro kd' hf' e' h' tk' R')) | (refine' tv_pos ?kCz30 ?kBz30 ?kFz30 ?kXz30 ?kSz30 ?kNz30 ?kTz30 ?kKz30 ?klz30 ?ksz30 ?kh2z30 ?kPz30 ?khstz30 ?kddz30 ?k0z30 ?k1z30 ?kdz30 ?kuz30 ?retz30 ?errz30; (case kCz30 => assumption); (case kh2z30 => assumption); (case kPz30 => assumption); (case khstz30 => assumption); (case kBz30 => assumption); (case kFz30 => k_asm); (case kXz30 => k_asm); (case kTz30 => k_asm); (case kKz30 => exact rfl); (case klz30 => assumption); (case ksz30 => assumption); (case kSz30 => assumption); (case kNz30 => first | k_asm | exact news_sub (by k_asm) (by repeat (first | exact sub_id | refine sub_tl ?_))); (case kddz30 => omega); (case k0z30 => omega); (case k1z30 => omega); (case kdz30 => ktr_room); (case kuz30 => ktr_units); (case' retz30 => intro v' e' hr' hd' t' led' h' tk' u1' u2' S' F' N'; (try k_sweep)); (case' errz30 => intro kd' hf' e' h' tk' R')) | (refine' tv_inv ?kCz30 ?kBz30 ?kFz30 ?kXz30 ?kSz30 ?kNz30 ?kTz30 ?kKz30 ?klz30 ?ksz30 ?kh2z30 ?kPz30 ?khstz30 ?kddz30 ?k0z30 ?k1z30 ?kdz30 ?kuz30 ?retz30 ?errz30; (case kCz30 => assumption); (case kh2z30 => assumption); (case kPz30 => assumption); (case khstz30 => assumption); (case kBz30 => assumption); (case kFz30 => k_asm); (case kXz30 => k_asm); (case kTz30 => k_asm); (case kKz30 => exact rfl); (case klz30 => assumption); (case ksz30 => assumption); (case kSz30 => assumption); (case kNz30 => first | k_asm | exact news_sub (by k_asm) (by repeat (first | exact sub_id | refine sub_tl ?_))); (case kddz30 => omega); (case k0z30 => omega); (case k1z30 => omega); (case kdz30 => ktr_room); (case kuz30 => ktr_units); (case' retz30 => intro v' e' hr' hd' t' led' h' tk' u1' u2' S' F' N'; (try k_sweep)); (case' errz30 => intro kd' hf' e' h' tk' R')))))
  (k_with "m:call ref" => (k_here; (with_reducible show wpAny _ _ (call (Value.ref 191) _ _) _ _ _); k_dflt (first | (refine' co_abs ?kCz31 ?kBz31 ?kFz31 ?kXz31 ?kSz31 ?kNz31 ?kTz31 ?kKz31 ?klz31 ?ksz31 ?kh2z31 ?kh3z31 ?kPz31 ?kpbz31 ?khclz31 ?kddz31 ?k0z31 ?k1z31 ?kdz31 ?kuz31 ?retz31 ?errz31; (case kCz31 => assumption); (case kh2z31 => assumption); (case kh3z31 => assumption); (case kPz31 => assumption); (case kpbz31 => assumption); (case khclz31 => assumption); (case kBz31 => assumption); (case kFz31 => k_asm); (case kXz31 => k_asm); (case kTz31 => k_asm); (case kKz31 => exact rfl); (case klz31 => assumption); (case ksz31 => assumption); (case kSz31 => assumption); (case kNz31 => first | k_asm | exact news_sub (by k_asm) (by repeat (first | exact sub_id | refine sub_tl ?_))); (case kddz31 => omega); (case k0z31 => omega); (case k1z31 => omega); (case kdz31 => ktr_room); (case kuz31 => ktr_units); (case' retz31 => intro v' e' hr' hd' t' led' h' tk' u1' u2' S' F' N'; (try k_sweep)); (case' errz31 => intro kd' hf' e' h' tk' R')) | (refine' co_sgn ?kCz31 ?kBz31 ?kFz31 ?kXz31 ?kSz31 ?kNz31 ?kTz31 ?kKz31 ?klz31 ?ksz31 ?kh2z31 ?kh3z31 ?kPz31 ?khclz31 ?kddz31 ?k0z31 ?k1z31 ?kdz31 ?kuz31 ?retz31 ?errz31; (case kCz31 => assumption); (case kh2z31 => assumption); (case kh3z31 => assumption); (case kPz31 => assumption); (case khclz31 => assumption); (case kBz31 => assumption); (case kFz31 => k_asm); (case kXz31 => k_asm); (case kTz31 => k_asm); (case kKz31 => exact rfl); (case klz31 => assumption); (case ksz31 => assumption); (case kSz31 => assumption); (case kNz31 => first | k_asm | exact news_sub (by k_asm) (by repeat (first | exact sub_id | refine sub_tl ?_))); (case kddz31 => omega); (case k0z31 => omega); (case k1z31 => omega); (case kdz31 => ktr_room); (case kuz31 => ktr_units); (case' retz31 => intro v' e' hr' hd' t' led' h' tk' u1' u2' S' F' N'; (try k_sweep)); (case' errz31 => intro kd' hf' e' h' tk' R')))))
  (k_with "m:call ref" => (k_here; (with_reducible show wpAny _ _ (call (Value.ref 203) _ _) _ _ _); k_dflt (first | (refine' vo_elem ?kCz32 ?kBz32 ?kFz32 ?kXz32 ?kSz32 ?kNz32 ?kTz32 ?kKz32 ?klz32 ?ksz32 ?kh2z32 ?kh3z32 ?kPz32 ?kpzz32 ?khclz32 ?kddz32 ?k0z32 ?k1z32 ?kdz32 ?kuz32 ?retz32 ?errz32; (case kCz32 => assumption); (case kh2z32 => assumption); (case kh3z32 => assumption); (case kPz32 => assumption); (case kpzz32 => assumption); (case khclz32 => assumption); (case kBz32 => assumption); (case kFz32 => k_asm); (case kXz32 => k_asm); (case kTz32 => k_asm); (case kKz32 => exact rfl); (case klz32 => assumption); (case ksz32 => assumption); (case kSz32 => assumption); (case kNz32 => first | k_asm | exact news_sub (by k_asm) (by repeat (first | exact sub_id | refine sub_tl ?_))); (case kddz32 => omega); (case k0z32 => omega); (case k1z32 => omega); (case kdz32 => ktr_room); (case kuz32 => ktr_units); (case' retz32 => intro v' e' hr' hd' t' led' h' tk' u1' u2' S' F' N'; (try k_sweep)); (case' errz32 => intro kd' hf' e' h' tk' R')))))
  trivial
set_option maxHeartbeats 8000000 in
theorem fv_neg {w : World} {n : Nat} {dp un : Nat} {gd : Option (List Code)} {cn : Str} {cs : Scope} {a : Addr} {ccd : Value} {cl : List (Str × Addr)} {outer : List Env} {A₀ : Around} {base h₀ : Heap} {L : Addr} {m : Str → Option Value} {led : List (Addr × Obj)} {s : Shared} {Q E : Value → Shared → Prop} {mean : ExcName → Option Value} {mg mb : Str → Option Value} {l x : Addr} {items : List Value} {k d : Int} {u u' : Tok} {r : Option (Int × Int)}  (IH : BVC w n)
    (B : Below A₀ base outer h₀) (F : Fr h₀ L s.heap m) (X : (Mine.K w.params).In h₀) (S : SOK w x led) (N : News h₀ L s.heap led) (T : Top Mine.view (looseW Mine.view []) mean mg mb h₀) (hk : cs.kind = .function)
    (hl : base.IsList l items.toArray) (hsz : items.length < 1000000) (h2 : Two (IsTup base) items k "sign" "-") (P : Parse (IsTup base) items (k + 1) n r) (pb : ∀ v e, r = some (v, e) → -32767 ≤ v ∧ v ≤ 32767) (hst : ∀ v e, r = some (v, e) → ∃ lt, Lev (IsTup base) (tokAt items e) lt ∧ (lt = 0 ∨ n + 1 = 0)) (hdd : d ≤ 40) (h0 : 0 ≤ d) (h1 : d ≤ 41) (hd : dp + 6 * (41 - d).toNat + 29 < recursionLimit) (hu : un + 40 * (41 - d).toNat + 392 < cLine)
    (hret : ∀ v e, r = some (v, e) → d + 1 + (n : Int) ≤ 40 → ∀ t led' h' tk' u1 u2, SOK w x led' → Fr h₀ L h' m → News h₀ L h' ((t, tupleObj [.int (-v) u1, .int (e) u2]) :: led') → Q (.ref t) { s with heap := h', toks := tk' })
    (herr : ∀ kd, Fails (d + 1) n r kd → ∀ e h' tk', RErr kd base h₀ L m (envX cn cs L a ccd cl :: outer) led e h' → E (.ref e) { s with heap := h', toks := tk' }) :
    wpAny (model PySem.Challenge.rw_pq1455_01.row.prog w) (ktrTop dp un gd cn cs L a ccd cl outer) (call (.ref 217) [.ref l, .int k u, .ref x, .int d u']) Q E s := by
  obtain ⟨pk0, pk1, pe⟩ := P.bounds
  obtain ⟨zk0, zk1, ta, ua, ub, hv, ht⟩ := id h2
  revert X; k_fill; intro X
  refine wpAny_call ?_
  k_dflt ktr_enter
  rename_i g' L' h' FG' F' N' B' X' T'
  k_lift B'
  k_steps
  all_goals first
    | exact herr _ (by assumption) _ _ _ (by assumption)
    | exact hret _ _ (by assumption) (by assumption) _ _ _ _ _ _ (by assumption) (by assumption) (news_sub (by assumption) (sub_gen (by repeat (first | exact sub_id | refine sub_tl ?_))))
set_option maxHeartbeats 8000000 in
theorem fv_pos {w : World} {n : Nat} {dp un : Nat} {gd : Option (List Code)} {cn : Str} {cs : Scope} {a : Addr} {ccd : Value} {cl : List (Str × Addr)} {outer : List Env} {A₀ : Around} {base h₀ : Heap} {L : Addr} {m : Str → Option Value} {led : List (Addr × Obj)} {s : Shared} {Q E : Value → Shared → Prop} {mean : ExcName → Option Value} {mg mb : Str → Option Value} {l x : Addr} {items : List Value} {k d : Int} {u u' : Tok} {r : Option (Int × Int)}  (IH : BVC w n)
    (B : Below A₀ base outer h₀) (F : Fr h₀ L s.heap m) (X : (Mine.K w.params).In h₀) (S : SOK w x led) (N : News h₀ L s.heap led) (T : Top Mine.view (looseW Mine.view []) mean mg mb h₀) (hk : cs.kind = .function)
    (hl : base.IsList l items.toArray) (hsz : items.length < 1000000) (h2 : Two (IsTup base) items k "sign" "+") (P : Parse (IsTup base) items (k + 1) n r) (hst : ∀ v e, r = some (v, e) → ∃ lt, Lev (IsTup base) (tokAt items e) lt ∧ (lt = 0 ∨ n + 1 = 0)) (hdd : d ≤ 40) (h0 : 0 ≤ d) (h1 : d ≤ 41) (hd : dp + 6 * (41 - d).toNat + 29 < recursionLimit) (hu : un + 40 * (41 - d).toNat + 392 < cLine)
    (hret : ∀ v e, r = some (v, e) → d + 1 + (n : Int) ≤ 40 → ∀ t led' h' tk' u1 u2, SOK w x led' → Fr h₀ L h' m → News h₀ L h' ((t, tupleObj [.int (v) u1, .int (e) u2]) :: led') → Q (.ref t) { s with heap := h', toks := tk' })
    (herr : ∀ kd, Fails (d + 1) n r kd → ∀ e h' tk', RErr kd base h₀ L m (envX cn cs L a ccd cl :: outer) led e h' → E (.ref e) { s with heap := h', toks := tk' }) :
    wpAny (model PySem.Challenge.rw_pq1455_01.row.prog w) (ktrTop dp un gd cn cs L a ccd cl outer) (call (.ref 217) [.ref l, .int k u, .ref x, .int d u']) Q E s := by
  obtain ⟨pk0, pk1, pe⟩ := P.bounds
  obtain ⟨zk0, zk1, ta, ua, ub, hv, ht⟩ := id h2
  revert X; k_fill; intro X
  refine wpAny_call ?_
  k_dflt ktr_enter
  rename_i g' L' h' FG' F' N' B' X' T'
  k_lift B'
  k_steps
  all_goals first
    | exact herr _ (by assumption) _ _ _ (by assumption)
    | exact hret _ _ (by assumption) (by assumption) _ _ _ _ _ _ (by assumption) (by assumption) (news_sub (by assumption) (sub_gen (by repeat (first | exact sub_id | refine sub_tl ?_))))
set_option maxHeartbeats 8000000 in
theorem fv_inv {w : World} {n : Nat} {dp un : Nat} {gd : Option (List Code)} {cn : Str} {cs : Scope} {a : Addr} {ccd : Value} {cl : List (Str × Addr)} {outer : List Env} {A₀ : Around} {base h₀ : Heap} {L : Addr} {m : Str → Option Value} {led : List (Addr × Obj)} {s : Shared} {Q E : Value → Shared → Prop} {mean : ExcName → Option Value} {mg mb : Str → Option Value} {l x : Addr} {items : List Value} {k d : Int} {u u' : Tok} {r : Option (Int × Int)}  (IH : BVC w n)
    (B : Below A₀ base outer h₀) (F : Fr h₀ L s.heap m) (X : (Mine.K w.params).In h₀) (S : SOK w x led) (N : News h₀ L s.heap led) (T : Top Mine.view (looseW Mine.view []) mean mg mb h₀) (hk : cs.kind = .function)
    (hl : base.IsList l items.toArray) (hsz : items.length < 1000000) (h2 : Two (IsTup base) items k "word" "NOT") (P : Parse (IsTup base) items (k + 1) n r) (hst : ∀ v e, r = some (v, e) → ∃ lt, Lev (IsTup base) (tokAt items e) lt ∧ (lt = 0 ∨ n + 1 = 0)) (hdd : d ≤ 40) (h0 : 0 ≤ d) (h1 : d ≤ 41) (hd : dp + 6 * (41 - d).toNat + 29 < recursionLimit) (hu : un + 40 * (41 - d).toNat + 392 < cLine)
    (hret : ∀ v e, r = some (v, e) → d + 1 + (n : Int) ≤ 40 → ∀ t led' h' tk' u1 u2, SOK w x led' → Fr h₀ L h' m → News h₀ L h' ((t, tupleObj [.int (-1 - v) u1, .int (e) u2]) :: led') → Q (.ref t) { s with heap := h', toks := tk' })
    (herr : ∀ kd, Fails (d + 1) n r kd → ∀ e h' tk', RErr kd base h₀ L m (envX cn cs L a ccd cl :: outer) led e h' → E (.ref e) { s with heap := h', toks := tk' }) :
    wpAny (model PySem.Challenge.rw_pq1455_01.row.prog w) (ktrTop dp un gd cn cs L a ccd cl outer) (call (.ref 217) [.ref l, .int k u, .ref x, .int d u']) Q E s := by
  obtain ⟨pk0, pk1, pe⟩ := P.bounds
  obtain ⟨zk0, zk1, ta, ua, ub, hv, ht⟩ := id h2
  revert X; k_fill; intro X
  refine wpAny_call ?_
  k_dflt ktr_enter
  rename_i g' L' h' FG' F' N' B' X' T'
  k_lift B'
  k_steps
  all_goals first
    | exact herr _ (by assumption) _ _ _ (by assumption)
    | exact hret _ _ (by assumption) (by assumption) _ _ _ _ _ _ (by assumption) (by assumption) (news_sub (by assumption) (sub_gen (by repeat (first | exact sub_id | refine sub_tl ?_))))
set_option maxHeartbeats 8000000 in
theorem fv_par {w : World} {n : Nat} {dp un : Nat} {gd : Option (List Code)} {cn : Str} {cs : Scope} {a : Addr} {ccd : Value} {cl : List (Str × Addr)} {outer : List Env} {A₀ : Around} {base h₀ : Heap} {L : Addr} {m : Str → Option Value} {led : List (Addr × Obj)} {s : Shared} {Q E : Value → Shared → Prop} {mean : ExcName → Option Value} {mg mb : Str → Option Value} {l x : Addr} {items : List Value} {k d : Int} {u u' : Tok} {r : Option (Int × Int)}  (IH : BVC w n)
    (B : Below A₀ base outer h₀) (F : Fr h₀ L s.heap m) (X : (Mine.K w.params).In h₀) (S : SOK w x led) (N : News h₀ L s.heap led) (T : Top Mine.view (looseW Mine.view []) mean mg mb h₀) (hk : cs.kind = .function)
    (hl : base.IsList l items.toArray) (hsz : items.length < 1000000) (h2 : Two (IsTup base) items k "sign" "(") (P : Parse (IsTup base) items (k + 1) n r) (hcl : ∀ v e, r = some (v, e) → Two (IsTup base) items e "sign" ")") (hdd : d ≤ 40) (h0 : 0 ≤ d) (h1 : d ≤ 41) (hd : dp + 6 * (41 - d).toNat + 29 < recursionLimit) (hu : un + 40 * (41 - d).toNat + 392 < cLine)
    (hret : ∀ v e, r = some (v, e) → d + 1 + (n : Int) ≤ 40 → ∀ t led' h' tk' u1 u2, SOK w x led' → Fr h₀ L h' m → News h₀ L h' ((t, tupleObj [.int (v) u1, .int (e + 1) u2]) :: led') → Q (.ref t) { s with heap := h', toks := tk' })
    (herr : ∀ kd, Fails (d + 1) n r kd → ∀ e h' tk', RErr kd base h₀ L m (envX cn cs L a ccd cl :: outer) led e h' → E (.ref e) { s with heap := h', toks := tk' }) :
    wpAny (model PySem.Challenge.rw_pq1455_01.row.prog w) (ktrTop dp un gd cn cs L a ccd cl outer) (call (.ref 217) [.ref l, .int k u, .ref x, .int d u']) Q E s := by
  obtain ⟨pk0, pk1, pe⟩ := P.bounds
  obtain ⟨zk0, zk1, ta, ua, ub, hv, ht⟩ := id h2
  revert X; k_fill; intro X
  refine wpAny_call ?_
  k_dflt ktr_enter
  rename_i g' L' h' FG' F' N' B' X' T'
  k_lift B'
  k_steps
  all_goals first
    | exact herr _ (by assumption) _ _ _ (by assumption)
    | exact hret _ _ (by assumption) (by assumption) _ _ _ _ _ _ (by assumption) (by assumption) (news_sub (by assumption) (sub_gen (by repeat (first | exact sub_id | refine sub_tl ?_))))
set_option maxHeartbeats 8000000 in
theorem fv_abs {w : World} {n : Nat} {dp un : Nat} {gd : Option (List Code)} {cn : Str} {cs : Scope} {a : Addr} {ccd : Value} {cl : List (Str × Addr)} {outer : List Env} {A₀ : Around} {base h₀ : Heap} {L : Addr} {m : Str → Option Value} {led : List (Addr × Obj)} {s : Shared} {Q E : Value → Shared → Prop} {mean : ExcName → Option Value} {mg mb : Str → Option Value} {l x : Addr} {items : List Value} {k d : Int} {u u' : Tok} {r : Option (Int × Int)}  (IH : BVC w n)
    (B : Below A₀ base outer h₀) (F : Fr h₀ L s.heap m) (X : (Mine.K w.params).In h₀) (S : SOK w x led) (N : News h₀ L s.heap led) (T : Top Mine.view (looseW Mine.view []) mean mg mb h₀) (hk : cs.kind = .function)
    (hl : base.IsList l items.toArray) (hsz : items.length < 1000000) (h2 : Two (IsTup base) items k "word" "ABS") (h3 : Two (IsTup base) items (k + 1) "sign" "(") (P : Parse (IsTup base) items (k + 1 + 1) n r) (pb : ∀ v e, r = some (v, e) → -32767 ≤ v ∧ v ≤ 32767) (hcl : ∀ v e, r = some (v, e) → Two (IsTup base) items e "sign" ")") (hdd : d ≤ 40) (h0 : 0 ≤ d) (h1 : d ≤ 41) (hd : dp + 6 * (41 - d).toNat + 29 < recursionLimit) (hu : un + 40 * (41 - d).toNat + 392 < cLine)
    (hret : ∀ v e, r = some (v, e) → d + 1 + (n : Int) ≤ 40 → ∀ t led' h' tk' u1 u2, SOK w x led' → Fr h₀ L h' m → News h₀ L h' ((t, tupleObj [.int (if v < 0 then -v else v) u1, .int (e + 1) u2]) :: led') → Q (.ref t) { s with heap := h', toks := tk' })
    (herr : ∀ kd, Fails (d + 1) n r kd → ∀ e h' tk', RErr kd base h₀ L m (envX cn cs L a ccd cl :: outer) led e h' → E (.ref e) { s with heap := h', toks := tk' }) :
    wpAny (model PySem.Challenge.rw_pq1455_01.row.prog w) (ktrTop dp un gd cn cs L a ccd cl outer) (call (.ref 217) [.ref l, .int k u, .ref x, .int d u']) Q E s := by
  obtain ⟨pk0, pk1, pe⟩ := P.bounds
  obtain ⟨zk0, zk1, ta, ua, ub, hv, ht⟩ := id h2
  revert X; k_fill; intro X
  refine wpAny_call ?_
  k_dflt ktr_enter
  rename_i g' L' h' FG' F' N' B' X' T'
  k_lift B'
  k_steps
  all_goals first
    | exact herr _ (by assumption) _ _ _ (by assumption)
    | exact hret _ _ (by assumption) (by assumption) _ _ _ _ _ _ (by assumption) (by assumption) (news_sub (by assumption) (sub_gen (by repeat (first | exact sub_id | refine sub_tl ?_))))
set_option maxHeartbeats 8000000 in
theorem fv_sgn {w : World} {n : Nat} {dp un : Nat} {gd : Option (List Code)} {cn : Str} {cs : Scope} {a : Addr} {ccd : Value} {cl : List (Str × Addr)} {outer : List Env} {A₀ : Around} {base h₀ : Heap} {L : Addr} {m : Str → Option Value} {led : List (Addr × Obj)} {s : Shared} {Q E : Value → Shared → Prop} {mean : ExcName → Option Value} {mg mb : Str → Option Value} {l x : Addr} {items : List Value} {k d : Int} {u u' : Tok} {r : Option (Int × Int)}  (IH : BVC w n)
    (B : Below A₀ base outer h₀) (F : Fr h₀ L s.heap m) (X : (Mine.K w.params).In h₀) (S : SOK w x led) (N : News h₀ L s.heap led) (T : Top Mine.view (looseW Mine.view []) mean mg mb h₀) (hk : cs.kind = .function)
    (hl : base.IsList l items.toArray) (hsz : items.length < 1000000) (h2 : Two (IsTup base) items k "word" "SGN") (h3 : Two (IsTup base) items (k + 1) "sign" "(") (P : Parse (IsTup base) items (k + 1 + 1) n r) (hcl : ∀ v e, r = some (v, e) → Two (IsTup base) items e "sign" ")") (hdd : d ≤ 40) (h0 : 0 ≤ d) (h1 : d ≤ 41) (hd : dp + 6 * (41 - d).toNat + 29 < recursionLimit) (hu : un + 40 * (41 - d).toNat + 392 < cLine)
    (hret : ∀ v e, r = some (v, e) → d + 1 + (n : Int) ≤ 40 → ∀ t led' h' tk' u1 u2, SOK w x led' → Fr h₀ L h' m → News h₀ L h' ((t, tupleObj [.int (PyProof.Rows.b2i (decide (0 < v)) - PyProof.Rows.b2i (decide (v < 0))) u1, .int (e + 1) u2]) :: led') → Q (.ref t) { s with heap := h', toks := tk' })
    (herr : ∀ kd, Fails (d + 1) n r kd → ∀ e h' tk', RErr kd base h₀ L m (envX cn cs L a ccd cl :: outer) led e h' → E (.ref e) { s with heap := h', toks := tk' }) :
    wpAny (model PySem.Challenge.rw_pq1455_01.row.prog w) (ktrTop dp un gd cn cs L a ccd cl outer) (call (.ref 217) [.ref l, .int k u, .ref x, .int d u']) Q E s := by
  obtain ⟨pk0, pk1, pe⟩ := P.bounds
  obtain ⟨zk0, zk1, ta, ua, ub, hv, ht⟩ := id h2
  revert X; k_fill; intro X
  refine wpAny_call ?_
  k_dflt ktr_enter
  rename_i g' L' h' FG' F' N' B' X' T'
  k_lift B'
  k_steps
  all_goals first
    | exact herr _ (by assumption) _ _ _ (by assumption)
    | exact hret _ _ (by assumption) (by assumption) _ _ _ _ _ _ (by assumption) (by assumption) (news_sub (by assumption) (sub_gen (by repeat (first | exact sub_id | refine sub_tl ?_))))
set_option maxHeartbeats 8000000 in
theorem fv_elem {w : World} {n : Nat} {dp un : Nat} {gd : Option (List Code)} {cn : Str} {cs : Scope} {a : Addr} {ccd : Value} {cl : List (Str × Addr)} {outer : List Env} {A₀ : Around} {base h₀ : Heap} {L : Addr} {m : Str → Option Value} {led : List (Addr × Obj)} {s : Shared} {Q E : Value → Shared → Prop} {mean : ExcName → Option Value} {mg mb : Str → Option Value} {l x : Addr} {items : List Value} {k d : Int} {u u' : Tok} {r : Option (Int × Int)}  (IH : BVC w n)
    (B : Below A₀ base outer h₀) (F : Fr h₀ L s.heap m) (X : (Mine.K w.params).In h₀) (S : SOK w x led) (N : News h₀ L s.heap led) (T : Top Mine.view (looseW Mine.view []) mean mg mb h₀) (hk : cs.kind = .function)
    (hl : base.IsList l items.toArray) (hsz : items.length < 1000000) (h2 : Two (IsTup base) items k "name" "A") (h3 : Two (IsTup base) items (k + 1) "sign" "(") (P : Parse (IsTup base) items (k + 1 + 1) n r) (pz : ∀ v e, r = some (v, e) → v = 0) (hcl : ∀ v e, r = some (v, e) → Two (IsTup base) items e "sign" ")") (hdd : d ≤ 40) (h0 : 0 ≤ d) (h1 : d ≤ 41) (hd : dp + 6 * (41 - d).toNat + 29 < recursionLimit) (hu : un + 40 * (41 - d).toNat + 392 < cLine)
    (hret : ∀ v e, r = some (v, e) → d + 1 + (n : Int) ≤ 40 → ∀ t led' h' tk' u1 u2, SOK w x led' → Fr h₀ L h' m → News h₀ L h' ((t, tupleObj [.int (0) u1, .int (e + 1) u2]) :: led') → Q (.ref t) { s with heap := h', toks := tk' })
    (herr : ∀ kd, Fails (d + 1) n r kd → ∀ e h' tk', RErr kd base h₀ L m (envX cn cs L a ccd cl :: outer) led e h' → E (.ref e) { s with heap := h', toks := tk' }) :
    wpAny (model PySem.Challenge.rw_pq1455_01.row.prog w) (ktrTop dp un gd cn cs L a ccd cl outer) (call (.ref 217) [.ref l, .int k u, .ref x, .int d u']) Q E s := by
  obtain ⟨pk0, pk1, pe⟩ := P.bounds
  obtain ⟨zk0, zk1, ta, ua, ub, hv, ht⟩ := id h2
  revert X; k_fill; intro X
  refine wpAny_call ?_
  k_dflt ktr_enter
  rename_i g' L' h' FG' F' N' B' X' T'
  k_lift B'
  k_steps
  all_goals first
    | exact herr _ (by assumption) _ _ _ (by assumption)
    | exact hret _ _ (by assumption) (by assumption) _ _ _ _ _ _ (by assumption) (by assumption) (news_sub (by assumption) (sub_gen (by repeat (first | exact sub_id | refine sub_tl ?_))))
end
theorem said8 : True := by
  k_with_none
  (k_with "m:subscriptTail" => (k_here; (with_reducible show wpAny _ _ (subscriptTail _ _ (Value.ref _) (Value.int _ _)) _ _ _); (with_unfolding_all refine' item_at ?k1z1 ?k2z1 ?k3z1 ?k4z1 ?k5z1 ?_ ?k6z1; (case k1z1 => is_list); (case k2z1 => omega); (case k3z1 => omega); (case k4z1 => omega); (case k5z1 => first | assumption | exact rfl); (case k6z1 => with_unfolding_all rfl); k_whole)))
  (k_with "m:call builtin:len" => (k_here; (with_reducible show wpAny _ _ (call (Value.builtin "len") [Value.ref _]) _ _ _); k_dflt (refine' len_at ?k1z2 ?k2z2 ?_; (case k1z2 => is_list); (case k2z2 => omega); k_whole)))
  (k_with "m:compareOp Eq str str" => (refine' eq_strC ?krz3 ?_; (case krz3 => first | ((refine (?_ : _ = true)); kernel_rfl!) | ((refine (?_ : _ = false)); kernel_rfl!)); k_whole))
  (k_with "m:compareOp NotEq str str" => (refine' ne_strC ?krz4 ?_; (case krz4 => first | ((refine (?_ : _ = true)); kernel_rfl!) | ((refine (?_ : _ = false)); kernel_rfl!)); k_whole))
  (k_with "m:ite" => (k_closed; first | rewrite [if_neg Bool.false_ne_true] | rewrite [if_pos (rfl : true = true)]))
  (k_with "m:exec Raise some none" => (k_here; (with_reducible show wpAny _ _ (exec (Stmt.Raise (some (Expr.Call (Expr.Name ("BasicError" : Str) _) (_ :: _) [] _)) none _) _) _ _ _); k_dflt (refine' Raise_D ?hhz6 ?_; (case hhz6 => rfl))))
  (k_with "m:call ref" => (k_here; (with_reducible show wpAny _ _ (call (Value.ref 31) _ _) _ _ _); k_dflt (refine' call_clsE ?k1z7 ?k2z7 ?k3z7 ?k4z7 ?_; (case k1z7 => k_asm); (case k2z7 => k_asm); (case k3z7 => k_asm); (case k4z7 => size_fits); k_whole; intro x' t' h' F' N' l1; (try k_sweep); k_enter)))
  (k_with "m:setAttr ref" => (k_here; k_dflt (refine' set_kind ?k1z8 ?k2z8 ?k3z8 ?k4z8 ?_; (case k1z8 => k_asm); (case k2z8 => k_asm); (case k3z8 => k_asm); (case k4z8 => assumption); k_whole; intro dx' D' h' tk' K' ne' F' N'; (try k_sweep))))
  (k_with "m:RaisableD" => (k_dflt (refine' raisable31 ?k1z9 ?k2z9 ?k3z9 ?_; (case k1z9 => k_asm); (case k2z9 => k_asm); (case k3z9 => k_asm); k_whole)))
  (k_with "m:call ref" => (k_here; (with_reducible show wpAny _ _ (call (Value.ref 51) _ _) _ _ _); k_dflt (refine' c_token_at _ ?kBz10 ?kFz10 ?kXz10 ?kNz10 ?kTz10 ?kKz10 ?klz10 ?ksz10 ?k0z10 ?k1z10 ?kvz10 ?kdz10 ?kuz10 ?_; (case kBz10 => assumption); (case kFz10 => k_asm); (case kXz10 => k_asm); (case kNz10 => k_asm); (case kTz10 => k_asm); (case kKz10 => exact rfl); (case klz10 => assumption); (case ksz10 => assumption); (case kvz10 => first | assumption | exact rfl); (case k0z10 => omega); (case k1z10 => omega); (case kdz10 => ktr_room); (case kuz10 => ktr_units); k_whole; intro h' tk' F' N'; (try k_sweep))))
  (k_with "m:compareOp NotEq ref ref" => (k_here; (with_reducible show wpAny _ _ (compareOp CmpOp.NotEq (Value.ref _) (Value.ref _)) _ _ _); k_dflt (refine' two_ne' ?k1z11 ?k2z11 ?k3z11 ?k4z11 ?k5z11 ?k6z11 ?kuz11 ?krz11 ?_; (case k1z11 => first | assumption | exact Fr.tup (by assumption) (by assumption) | exact tup_base (by assumption) (by assumption) (by assumption) | exact News.isTup (by k_asm) (by k_mem)); (case k2z11 => first | assumption | exact Fr.tup (by assumption) (by assumption) | exact tup_base (by assumption) (by assumption) (by assumption) | exact News.isTup (by k_asm) (by k_mem)); (case k3z11 => first | assumption | kernel_rfl!); (case k4z11 => first | assumption | kernel_rfl!); (case k5z11 => first | assumption | kernel_rfl!); (case k6z11 => first | assumption | kernel_rfl!); (case kuz11 => ktr_units); (case krz11 => first | exact beq2_same | ((refine (?_ : _ = true)); kernel_rfl!) | ((refine (?_ : _ = false)); kernel_rfl!)); k_whole; (try simp only [Bool.not_true, Bool.not_false]))))
  (k_with "m:compareOp Eq ref ref" => (k_here; (with_reducible show wpAny _ _ (compareOp CmpOp.Eq (Value.ref _) (Value.ref _)) _ _ _); k_dflt (refine' two_eq' ?k1z12 ?k2z12 ?k3z12 ?k4z12 ?k5z12 ?k6z12 ?kuz12 ?krz12 ?_; (case k1z12 => first | assumption | exact Fr.tup (by assumption) (by assumption) | exact tup_base (by assumption) (by assumption) (by assumption) | exact News.isTup (by k_asm) (by k_mem)); (case k2z12 => first | assumption | exact Fr.tup (by assumption) (by assumption) | exact tup_base (by assumption) (by assumption) (by assumption) | exact News.isTup (by k_asm) (by k_mem)); (case k3z12 => first | assumption | kernel_rfl!); (case k4z12 => first | assumption | kernel_rfl!); (case k5z12 => first | assumption | kernel_rfl!); (case k6z12 => first | assumption | kernel_rfl!); (case kuz12 => ktr_units); (case krz12 => first | exact beq2_same | ((refine (?_ : _ = true)); kernel_rfl!) | ((refine (?_ : _ = false)); kernel_rfl!)); k_whole; (try simp only [Bool.not_true, Bool.not_false]))))
  (k_with "m:compareOp In str ref" => (k_here; (with_reducible show wpAny _ _ (compareOp CmpOp.In (Value.str _ _) (Value.ref 36)) _ _ _); k_dflt (refine' in36 ?k1z13 ?k2z13 ?k3z13 ?kuz13 ?krz13 ?_; (case k1z13 => k_asm); (case k2z13 => k_asm); (case k3z13 => first | assumption | kernel_rfl!); (case kuz13 => ktr_units); (case krz13 => first | ((refine (?_ : _ = true)); kernel_rfl!) | ((refine (?_ : _ = false)); kernel_rfl!)); k_whole)))
  (k_with "m:compareOp In str ref" => (k_here; (with_reducible show wpAny _ _ (compareOp CmpOp.In (Value.str _ _) (Value.ref 37)) _ _ _); k_dflt (refine' in37 ?k1z14 ?k2z14 ?k3z14 ?kuz14 ?krz14 ?_; (case k1z14 => k_asm); (case k2z14 => k_asm); (case k3z14 => first | assumption | kernel_rfl!); (case kuz14 => ktr_units); (case krz14 => first | ((refine (?_ : _ = true)); kernel_rfl!) | ((refine (?_ : _ = false)); kernel_rfl!)); k_whole)))
  (k_with "m:compareOp In ref ref" => (k_here; (with_reducible show wpAny _ _ (compareOp CmpOp.In (Value.ref _) (Value.ref _)) _ _ _); k_dflt (refine' in_three ?k1z15 ?k2z15 ?k3z15 ?k4z15 ?k5z15 ?k6z15 ?k7z15 ?kuz15 ?krz15 ?_; (case k1z15 => exact News.isTup (by k_asm) (by k_mem)); (case k2z15 => exact News.isTup (by k_asm) (by k_mem)); (case k3z15 => exact News.isTup (by k_asm) (by k_mem)); (case k4z15 => exact News.isTup (by k_asm) (by k_mem)); (case k5z15 => exact News.isTup (by k_asm) (by k_mem)); (case k6z15 => kernel_rfl!); (case k7z15 => kernel_rfl!); (case kuz15 => ktr_units); (case krz15 => first | ((refine (?_ : _ = true)); kernel_rfl!) | ((refine (?_ : _ = false)); kernel_rfl!)); k_whole)))
  (k_with "m:call ref" => (k_here; (with_reducible show wpAny _ _ (call (Value.ref 58) _ _) _ _ _); k_dflt (refine' c_expect _ ?kBz16 ?kFz16 ?kXz16 ?kNz16 ?kTz16 ?kKz16 ?klz16 ?ksz16 ?kokz16 ?k2z16 ?kdz16 ?kuz16 ?_; (case kBz16 => assumption); (case kFz16 => k_asm); (case kXz16 => k_asm); (case kNz16 => k_asm); (case kTz16 => k_asm); (case kKz16 => exact rfl); (case klz16 => assumption); (case ksz16 => assumption); (case kokz16 => kernel_rfl!); (case k2z16 => assumption); (case kdz16 => ktr_room); (case kuz16 => ktr_units); k_whole; intro h' tk' u9 F' N'; (try k_sweep))))
  (k_with "m:call ref" => (k_here; (with_reducible show wpAny _ _ (call (Value.ref 135) _ _) _ _ _); k_dflt (refine' c_level_of _ ?kBz17 ?kFz17 ?kXz17 ?kNz17 ?kTz17 ?kKz17 ?kvz17 ?kdz17 ?kuz17 ?_; (case kBz17 => assumption); (case kFz17 => k_asm); (case kXz17 => k_asm); (case kNz17 => k_asm); (case kTz17 => k_asm); (case kKz17 => exact rfl); (case kvz17 => assumption); (case kdz17 => ktr_room); (case kuz17 => ktr_units); k_whole; intro h' tk' u9 F' N'; (try k_sweep))))
  (k_with "m:call ref" => (k_here; (with_reducible show wpAny _ _ (call (Value.ref 217) _ _) _ _ _); k_dflt (refine' fv_use ?kCz18 ?kBz18 ?kFz18 ?kXz18 ?kSz18 ?kNz18 ?kTz18 ?kKz18 ?klz18 ?ksz18 ?kPz18 ?kstz18 ?k0z18 ?k1z18 ?kdz18 ?kuz18 ?retz18 ?errz18; (case kCz18 => assumption); (case kBz18 => assumption); (case kFz18 => k_asm); (case kXz18 => k_asm); (case kTz18 => k_asm); (case kKz18 => exact rfl); (case klz18 => assumption); (case ksz18 => assumption); (case kSz18 => assumption); (case kNz18 => first | k_asm | exact news_sub (by k_asm) (by repeat (first | exact sub_id | refine sub_tl ?_))); (case kPz18 => assumption); (case kstz18 => first | assumption | exact fun v e h => stop_f ((by assumption : ∀ v e, _ = some (v, e) → ∃ lt, Lev _ _ lt ∧ _) v e h)); (case k0z18 => omega); (case k1z18 => omega); (case kdz18 => ktr_room); (case kuz18 => ktr_units); (case' retz18 => intro v' e' hr' hd' t' led' h' tk' u1' u2' S' F' N'; (try k_sweep); (try (rename (∀ v e, _ = some (v, e) → ∃ lt, Lev _ _ lt ∧ _) => hst'; obtain ⟨lt', lv', lo'⟩ := hst' _ _ hr')); (try (rename (∀ v e, _ = some (v, e) → _ < e ∧ e ≤ _) => pe'; obtain ⟨pl', pm'⟩ := pe' _ _ hr'))); (case' errz18 => intro kd' hf' e' h' tk' R'))))
  (k_with "m:exec While" => (k_here; k_dflt (refine' While_skip ?kFz19 ?kNz19 ?_ ?kEz19; (case kFz19 => k_asm); (case kNz19 => k_asm); (case kEz19 => passes_own); k_whole; intro h' tk' F' N'; (try k_sweep))))
  trivial
set_option maxHeartbeats 8000000 in
theorem fv_om {w : World} {dp un : Nat} {gd : Option (List Code)} {cn : Str} {cs : Scope} {a : Addr} {ccd : Value} {cl : List (Str × Addr)} {outer : List Env} {A₀ : Around} {base h₀ : Heap} {L : Addr} {m : Str → Option Value} {led : List (Addr × Obj)} {s : Shared} {Q E : Value → Shared → Prop} {mean : ExcName → Option Value} {mg mb : Str → Option Value} {l x : Addr} {items : List Value} {k d : Int} {u u' : Tok}
    (B : Below A₀ base outer h₀) (F : Fr h₀ L s.heap m) (X : (Mine.K w.params).In h₀) (S : SOK w x led) (N : News h₀ L s.heap led) (T : Top Mine.view (looseW Mine.view []) mean mg mb h₀) (hk : cs.kind = .function)
    (hl : base.IsList l items.toArray) (hsz : items.length < 1000000) (hdd : 40 < d) (h0 : 0 ≤ d) (h1 : d ≤ 41) (hd : dp + 6 * (41 - d).toNat + 29 < recursionLimit) (hu : un + 40 * (41 - d).toNat + 392 < cLine)
    (hret : True)
    (herr : ∀ e h' tk', RErr "OM" base h₀ L m (envX cn cs L a ccd cl :: outer) led e h' → E (.ref e) { s with heap := h', toks := tk' }) :
    wpAny (model PySem.Challenge.rw_pq1455_01.row.prog w) (ktrTop dp un gd cn cs L a ccd cl outer) (call (.ref 217) [.ref l, .int k u, .ref x, .int d u']) Q E s := by
  revert X; k_fill; intro X
  refine wpAny_call ?_
  k_dflt ktr_enter
  rename_i g' L' h' FG' F' N' B' X' T'
  k_lift B'
  k_steps
  all_goals first
    | exact herr _ _ _ (rerr_sub (by assumption) (by repeat (first | exact sub_id | refine sub_tl ?_)))
    | exact hret _ _ _ _ _ _ (by assumption) (by assumption) (news_sub (by assumption) (sub_gen (by repeat (first | exact sub_id | refine sub_tl ?_))))
set_option maxHeartbeats 8000000 in
theorem fv_num {w : World} {dp un : Nat} {gd : Option (List Code)} {cn : Str} {cs : Scope} {a : Addr} {ccd : Value} {cl : List (Str × Addr)} {outer : List Env} {A₀ : Around} {base h₀ : Heap} {L : Addr} {m : Str → Option Value} {led : List (Addr × Obj)} {s : Shared} {Q E : Value → Shared → Prop} {mean : ExcName → Option Value} {mg mb : Str → Option Value} {l x : Addr} {items : List Value} {k d : Int} {u u' : Tok}
    (B : Below A₀ base outer h₀) (F : Fr h₀ L s.heap m) (X : (Mine.K w.params).In h₀) (S : SOK w x led) (N : News h₀ L s.heap led) (T : Top Mine.view (looseW Mine.view []) mean mg mb h₀) (hk : cs.kind = .function)
    (hl : base.IsList l items.toArray) (hsz : items.length < 1000000) {ta : Addr} {ua ub : Tok} {v : Int} (pk0 : 0 ≤ k) (pk1 : k < (items.length : Int)) (hv : tokAt items k = .ref ta) (ht : IsTup base ta #[.str "number" ua, .int v ub]) (pv0 : -32768 ≤ v) (pv1 : v ≤ 32767) (hdd : d ≤ 40) (h0 : 0 ≤ d) (h1 : d ≤ 41) (hd : dp + 6 * (41 - d).toNat + 29 < recursionLimit) (hu : un + 40 * (41 - d).toNat + 392 < cLine)
    (hret : ∀ t led' h' tk' u1 u2, SOK w x led' → Fr h₀ L h' m → News h₀ L h' ((t, tupleObj [.int v u1, .int (k + 1) u2]) :: led') → Q (.ref t) { s with heap := h', toks := tk' })
    (herr : True) :
    wpAny (model PySem.Challenge.rw_pq1455_01.row.prog w) (ktrTop dp un gd cn cs L a ccd cl outer) (call (.ref 217) [.ref l, .int k u, .ref x, .int d u']) Q E s := by
  revert X; k_fill; intro X
  refine wpAny_call ?_
  k_dflt ktr_enter
  rename_i g' L' h' FG' F' N' B' X' T'
  k_lift B'
  k_steps
  all_goals first
    | exact herr _ _ _ (rerr_sub (by assumption) (by repeat (first | exact sub_id | refine sub_tl ?_)))
    | exact hret _ _ _ _ _ _ (by assumption) (by assumption) (news_sub (by assumption) (sub_gen (by repeat (first | exact sub_id | refine sub_tl ?_))))
set_option maxHeartbeats 8000000 in
theorem fv_fin {w : World} {dp un : Nat} {gd : Option (List Code)} {cn : Str} {cs : Scope} {a : Addr} {ccd : Value} {cl : List (Str × Addr)} {outer : List Env} {A₀ : Around} {base h₀ : Heap} {L : Addr} {m : Str → Option Value} {led : List (Addr × Obj)} {s : Shared} {Q E : Value → Shared → Prop} {mean : ExcName → Option Value} {mg mb : Str → Option Value} {l x : Addr} {items : List Value} {k d : Int} {u u' : Tok}
    (B : Below A₀ base outer h₀) (F : Fr h₀ L s.heap m) (X : (Mine.K w.params).In h₀) (S : SOK w x led) (N : News h₀ L s.heap led) (T : Top Mine.view (looseW Mine.view []) mean mg mb h₀) (hk : cs.kind = .function)
    (hl : base.IsList l items.toArray) (hsz : items.length < 1000000) (pk0 : 0 ≤ k) (pk1 : k ≤ (items.length : Int)) (hv : tokAt items k = .ref 35) (hdd : d ≤ 40) (h0 : 0 ≤ d) (h1 : d ≤ 41) (hd : dp + 6 * (41 - d).toNat + 29 < recursionLimit) (hu : un + 40 * (41 - d).toNat + 392 < cLine)
    (hret : True)
    (herr : ∀ e h' tk', RErr "SN" base h₀ L m (envX cn cs L a ccd cl :: outer) led e h' → E (.ref e) { s with heap := h', toks := tk' }) :
    wpAny (model PySem.Challenge.rw_pq1455_01.row.prog w) (ktrTop dp un gd cn cs L a ccd cl outer) (call (.ref 217) [.ref l, .int k u, .ref x, .int d u']) Q E s := by
  revert X; k_fill; intro X
  refine wpAny_call ?_
  k_dflt ktr_enter
  rename_i g' L' h' FG' F' N' B' X' T'
  k_lift B'
  k_steps
  all_goals first
    | exact herr _ _ _ (rerr_sub (by assumption) (by repeat (first | exact sub_id | refine sub_tl ?_)))
    | exact hret _ _ _ _ _ _ (by assumption) (by assumption) (news_sub (by assumption) (sub_gen (by repeat (first | exact sub_id | refine sub_tl ?_))))
end
theorem said9 : True := by
  k_with_none
  (k_with "m:subscriptTail" => (k_here; (with_reducible show wpAny _ _ (subscriptTail _ _ (Value.ref _) (Value.int _ _)) _ _ _); (with_unfolding_all refine' item_at ?k1z1 ?k2z1 ?k3z1 ?k4z1 ?k5z1 ?_ ?k6z1; (case k1z1 => is_list); (case k2z1 => omega); (case k3z1 => omega); (case k4z1 => omega); (case k5z1 => first | assumption | exact rfl); (case k6z1 => with_unfolding_all rfl); k_whole)))
  (k_with "m:call builtin:len" => (k_here; (with_reducible show wpAny _ _ (call (Value.builtin "len") [Value.ref _]) _ _ _); k_dflt (refine' len_at ?k1z2 ?k2z2 ?_; (case k1z2 => is_list); (case k2z2 => omega); k_whole)))
  (k_with "m:compareOp Eq str str" => (refine' eq_strC ?krz3 ?_; (case krz3 => first | ((refine (?_ : _ = true)); kernel_rfl!) | ((refine (?_ : _ = false)); kernel_rfl!)); k_whole))
  (k_with "m:compareOp NotEq str str" => (refine' ne_strC ?krz4 ?_; (case krz4 => first | ((refine (?_ : _ = true)); kernel_rfl!) | ((refine (?_ : _ = false)); kernel_rfl!)); k_whole))
  (k_with "m:ite" => (k_closed; first | rewrite [if_neg Bool.false_ne_true] | rewrite [if_pos (rfl : true = true)]))
  (k_with "m:exec Raise some none" => (k_here; (with_reducible show wpAny _ _ (exec (Stmt.Raise (some (Expr.Call (Expr.Name ("BasicError" : Str) _) (_ :: _) [] _)) none _) _) _ _ _); k_dflt (refine' Raise_D ?hhz6 ?_; (case hhz6 => rfl))))
  (k_with "m:call ref" => (k_here; (with_reducible show wpAny _ _ (call (Value.ref 31) _ _) _ _ _); k_dflt (refine' call_clsE ?k1z7 ?k2z7 ?k3z7 ?k4z7 ?_; (case k1z7 => k_asm); (case k2z7 => k_asm); (case k3z7 => k_asm); (case k4z7 => size_fits); k_whole; intro x' t' h' F' N' l1; (try k_sweep); k_enter)))
  (k_with "m:setAttr ref" => (k_here; k_dflt (refine' set_kind ?k1z8 ?k2z8 ?k3z8 ?k4z8 ?_; (case k1z8 => k_asm); (case k2z8 => k_asm); (case k3z8 => k_asm); (case k4z8 => assumption); k_whole; intro dx' D' h' tk' K' ne' F' N'; (try k_sweep))))
  (k_with "m:RaisableD" => (k_dflt (refine' raisable31 ?k1z9 ?k2z9 ?k3z9 ?_; (case k1z9 => k_asm); (case k2z9 => k_asm); (case k3z9 => k_asm); k_whole)))
  (k_with "m:call ref" => (k_here; (with_reducible show wpAny _ _ (call (Value.ref 51) _ _) _ _ _); k_dflt (refine' c_token_at _ ?kBz10 ?kFz10 ?kXz10 ?kNz10 ?kTz10 ?kKz10 ?klz10 ?ksz10 ?k0z10 ?k1z10 ?kvz10 ?kdz10 ?kuz10 ?_; (case kBz10 => assumption); (case kFz10 => k_asm); (case kXz10 => k_asm); (case kNz10 => k_asm); (case kTz10 => k_asm); (case kKz10 => exact rfl); (case klz10 => assumption); (case ksz10 => assumption); (case kvz10 => first | assumption | exact rfl); (case k0z10 => omega); (case k1z10 => omega); (case kdz10 => ktr_room); (case kuz10 => ktr_units); k_whole; intro h' tk' F' N'; (try k_sweep))))
  (k_with "m:compareOp NotEq ref ref" => (k_here; (with_reducible show wpAny _ _ (compareOp CmpOp.NotEq (Value.ref _) (Value.ref _)) _ _ _); k_dflt (refine' two_ne' ?k1z11 ?k2z11 ?k3z11 ?k4z11 ?k5z11 ?k6z11 ?kuz11 ?krz11 ?_; (case k1z11 => first | assumption | exact Fr.tup (by assumption) (by assumption) | exact tup_base (by assumption) (by assumption) (by assumption) | exact News.isTup (by k_asm) (by k_mem)); (case k2z11 => first | assumption | exact Fr.tup (by assumption) (by assumption) | exact tup_base (by assumption) (by assumption) (by assumption) | exact News.isTup (by k_asm) (by k_mem)); (case k3z11 => first | assumption | kernel_rfl!); (case k4z11 => first | assumption | kernel_rfl!); (case k5z11 => first | assumption | kernel_rfl!); (case k6z11 => first | assumption | kernel_rfl!); (case kuz11 => ktr_units); (case krz11 => first | exact beq2_same | ((refine (?_ : _ = true)); kernel_rfl!) | ((refine (?_ : _ = false)); kernel_rfl!)); k_whole; (try simp only [Bool.not_true, Bool.not_false]))))
  (k_with "m:compareOp Eq ref ref" => (k_here; (with_reducible show wpAny _ _ (compareOp CmpOp.Eq (Value.ref _) (Value.ref _)) _ _ _); k_dflt (refine' two_eq' ?k1z12 ?k2z12 ?k3z12 ?k4z12 ?k5z12 ?k6z12 ?kuz12 ?krz12 ?_; (case k1z12 => first | assumption | exact Fr.tup (by assumption) (by assumption) | exact tup_base (by assumption) (by assumption) (by assumption) | exact News.isTup (by k_asm) (by k_mem)); (case k2z12 => first | assumption | exact Fr.tup (by assumption) (by assumption) | exact tup_base (by assumption) (by assumption) (by assumption) | exact News.isTup (by k_asm) (by k_mem)); (case k3z12 => first | assumption | kernel_rfl!); (case k4z12 => first | assumption | kernel_rfl!); (case k5z12 => first | assumption | kernel_rfl!); (case k6z12 => first | assumption | kernel_rfl!); (case kuz12 => ktr_units); (case krz12 => first | exact beq2_same | ((refine (?_ : _ = true)); kernel_rfl!) | ((refine (?_ : _ = false)); kernel_rfl!)); k_whole; (try simp only [Bool.not_true, Bool.not_false]))))
  (k_with "m:compareOp In str ref" => (k_here; (with_reducible show wpAny _ _ (compareOp CmpOp.In (Value.str _ _) (Value.ref 36)) _ _ _); k_dflt (refine' in36 ?k1z13 ?k2z13 ?k3z13 ?kuz13 ?krz13 ?_; (case k1z13 => k_asm); (case k2z13 => k_asm); (case k3z13 => first | assumption | kernel_rfl!); (case kuz13 => ktr_units); (case krz13 => first | ((refine (?_ : _ = true)); kernel_rfl!) | ((refine (?_ : _ = false)); kernel_rfl!)); k_whole)))
  (k_with "m:compareOp In str ref" => (k_here; (with_reducible show wpAny _ _ (compareOp CmpOp.In (Value.str _ _) (Value.ref 37)) _ _ _); k_dflt (refine' in37 ?k1z14 ?k2z14 ?k3z14 ?kuz14 ?krz14 ?_; (case k1z14 => k_asm); (case k2z14 => k_asm); (case k3z14 => first | assumption | kernel_rfl!); (case kuz14 => ktr_units); (case krz14 => first | ((refine (?_ : _ = true)); kernel_rfl!) | ((refine (?_ : _ = false)); kernel_rfl!)); k_whole)))
  (k_with "m:compareOp In ref ref" => (k_here; (with_reducible show wpAny _ _ (compareOp CmpOp.In (Value.ref _) (Value.ref _)) _ _ _); k_dflt (refine' in_three ?k1z15 ?k2z15 ?k3z15 ?k4z15 ?k5z15 ?k6z15 ?k7z15 ?kuz15 ?krz15 ?_; (case k1z15 => exact News.isTup (by k_asm) (by k_mem)); (case k2z15 => exact News.isTup (by k_asm) (by k_mem)); (case k3z15 => exact News.isTup (by k_asm) (by k_mem)); (case k4z15 => exact News.isTup (by k_asm) (by k_mem)); (case k5z15 => exact News.isTup (by k_asm) (by k_mem)); (case k6z15 => kernel_rfl!); (case k7z15 => kernel_rfl!); (case kuz15 => ktr_units); (case krz15 => first | ((refine (?_ : _ = true)); kernel_rfl!) | ((refine (?_ : _ = false)); kernel_rfl!)); k_whole)))
  (k_with "m:call ref" => (k_here; (with_reducible show wpAny _ _ (call (Value.ref 58) _ _) _ _ _); k_dflt (refine' c_expect _ ?kBz16 ?kFz16 ?kXz16 ?kNz16 ?kTz16 ?kKz16 ?klz16 ?ksz16 ?kokz16 ?k2z16 ?kdz16 ?kuz16 ?_; (case kBz16 => assumption); (case kFz16 => k_asm); (case kXz16 => k_asm); (case kNz16 => k_asm); (case kTz16 => k_asm); (case kKz16 => exact rfl); (case klz16 => assumption); (case ksz16 => assumption); (case kokz16 => kernel_rfl!); (case k2z16 => assumption); (case kdz16 => ktr_room); (case kuz16 => ktr_units); k_whole; intro h' tk' u9 F' N'; (try k_sweep))))
  (k_with "m:call ref" => (k_here; (with_reducible show wpAny _ _ (call (Value.ref 135) _ _) _ _ _); k_dflt (refine' c_level_of _ ?kBz17 ?kFz17 ?kXz17 ?kNz17 ?kTz17 ?kKz17 ?kvz17 ?kdz17 ?kuz17 ?_; (case kBz17 => assumption); (case kFz17 => k_asm); (case kXz17 => k_asm); (case kNz17 => k_asm); (case kTz17 => k_asm); (case kKz17 => exact rfl); (case kvz17 => assumption); (case kdz17 => ktr_room); (case kuz17 => ktr_units); k_whole; intro h' tk' u9 F' N'; (try k_sweep))))
  (k_with "m:call ref" => (k_here; (with_reducible show wpAny _ _ (call (Value.ref 217) _ _) _ _ _); k_dflt (refine' fv_use ?kCz18 ?kBz18 ?kFz18 ?kXz18 ?kSz18 ?kNz18 ?kTz18 ?kKz18 ?klz18 ?ksz18 ?kPz18 ?kstz18 ?k0z18 ?k1z18 ?kdz18 ?kuz18 ?retz18 ?errz18; (case kCz18 => assumption); (case kBz18 => assumption); (case kFz18 => k_asm); (case kXz18 => k_asm); (case kTz18 => k_asm); (case kKz18 => exact rfl); (case klz18 => assumption); (case ksz18 => assumption); (case kSz18 => assumption); (case kNz18 => first | k_asm | exact news_sub (by k_asm) (by repeat (first | exact sub_id | refine sub_tl ?_))); (case kPz18 => assumption); (case kstz18 => first | assumption | exact fun v e h => stop_f ((by assumption : ∀ v e, _ = some (v, e) → ∃ lt, Lev _ _ lt ∧ _) v e h)); (case k0z18 => omega); (case k1z18 => omega); (case kdz18 => ktr_room); (case kuz18 => ktr_units); (case' retz18 => intro v' e' hr' hd' t' led' h' tk' u1' u2' S' F' N'; (try k_sweep); (try (rename (∀ v e, _ = some (v, e) → ∃ lt, Lev _ _ lt ∧ _) => hst'; obtain ⟨lt', lv', lo'⟩ := hst' _ _ hr')); (try (rename (∀ v e, _ = some (v, e) → _ < e ∧ e ≤ _) => pe'; obtain ⟨pl', pm'⟩ := pe' _ _ hr'))); (case' errz18 => intro kd' hf' e' h' tk' R'))))
  trivial
theorem fails_up {d : Int} {n : Nat} {r : Option (Int × Int)} {kd : Str} {f : Int × Int → Int × Int} (h : Fails (d + 1) n r kd) : Fails d (n + 1) (r.map f) kd := by
  rcases h with ⟨a, b⟩ | ⟨a, b, c⟩
  · exact .inl ⟨by omega, b⟩
  · exact .inr ⟨by omega, by rw [b]; rfl, c⟩
theorem fails_up' {d : Int} {n : Nat} {r : Option (Int × Int)} {kd : Str} (h : Fails (d + 1) n r kd) : Fails d (n + 1) r kd := by
  rcases h with ⟨a, b⟩ | ⟨a, b, c⟩
  · exact .inl ⟨by omega, b⟩
  · exact .inr ⟨by omega, b, c⟩
theorem abs_val (v : Int) : (v.natAbs : Int) = if v < 0 then -v else v := by split <;> omega
theorem sgn_val (v : Int) : v.sign = PyProof.Rows.b2i (decide (0 < v)) - PyProof.Rows.b2i (decide (v < 0)) := by
  rcases Int.lt_trichotomy v 0 with h | h | h
  · rw [Int.sign_eq_neg_one_of_neg h]
    have h' : ¬ 0 < v := by omega
    simp [h, h', PyProof.Rows.b2i]
  · subst h; rfl
  · rw [Int.sign_eq_one_of_pos h]
    have h' : ¬ v < 0 := by omega
    simp [h, h', PyProof.Rows.b2i]
theorem fvc_step (w : World) (n : Nat) (IH : ∀ n', n = n' + 1 → BVC w n') : FVC w n := by
  unfold FVC
  intro dp un gd cn cs a ccd cl outer A₀ base h₀ L m led s Q E mean mg mb l x items k d u u' r B F X S N T hk hl hsz P hst h0 h1 hd hu hret herr
  by_cases hdd : d ≤ 40
  case neg => exact fv_om B F X S N T hk hl hsz (by omega) h0 h1 hd hu trivial (fun e h' tk' R => herr "OM" (.inl ⟨by omega, rfl⟩) e h' tk' R)
  cases P with
  | num a b c d' e f => exact fv_num B F X S N T hk hl hsz a b c d' e f hdd h0 h1 hd hu (fun t led' h' tk' u1 u2 S' F' N' => hret _ _ rfl (by omega) t led' h' tk' u1 u2 S' F' N') trivial
  | fin a => exact fv_fin B F X S N T hk hl hsz (by omega) (by omega) (by rw [tokAt, if_neg (by omega)]) hdd h0 h1 hd hu trivial (fun e h' tk' R => herr "SN" (.inr ⟨by omega, rfl, rfl⟩) e h' tk' R)
  | neg a p b => exact fv_neg (IH _ rfl) B F X S N T hk hl hsz a p b (fun v e h => hst _ _ (by rw [h]; rfl)) hdd h0 h1 hd hu (fun v e hr hd' t led' h' tk' u1 u2 S' F' N' => hret _ _ (by rw [hr]; rfl) (by omega) t led' h' tk' u1 u2 S' F' N') (fun kd hf => herr kd (fails_up hf))
  | pos a p => exact fv_pos (IH _ rfl) B F X S N T hk hl hsz a p hst hdd h0 h1 hd hu (fun v e hr hd' t led' h' tk' u1 u2 S' F' N' => hret _ _ hr (by omega) t led' h' tk' u1 u2 S' F' N') (fun kd hf => herr kd (fails_up' hf))
  | inv a p => exact fv_inv (IH _ rfl) B F X S N T hk hl hsz a p (fun v e h => hst _ _ (by rw [h]; rfl)) hdd h0 h1 hd hu (fun v e hr hd' t led' h' tk' u1 u2 S' F' N' => hret _ _ (by rw [hr]; rfl) (by omega) t led' h' tk' u1 u2 S' F' N') (fun kd hf => herr kd (fails_up hf))
  | par a p b => exact fv_par (IH _ rfl) B F X S N T hk hl hsz a p b hdd h0 h1 hd hu (fun v e hr hd' t led' h' tk' u1 u2 S' F' N' => hret _ _ (by rw [hr]; rfl) (by omega) t led' h' tk' u1 u2 S' F' N') (fun kd hf => herr kd (fails_up hf))
  | abs a b p c d' => exact fv_abs (IH _ rfl) B F X S N T hk hl hsz a b p c d' hdd h0 h1 hd hu (fun v e hr hd' t led' h' tk' u1 u2 S' F' N' => hret _ _ (by rw [hr, Option.map_some, abs_val]) (by omega) t led' h' tk' u1 u2 S' F' N') (fun kd hf => herr kd (fails_up hf))
  | sgn a b p d' => exact fv_sgn (IH _ rfl) B F X S N T hk hl hsz a b p d' hdd h0 h1 hd hu (fun v e hr hd' t led' h' tk' u1 u2 S' F' N' => hret _ _ (by rw [hr, Option.map_some, sgn_val]) (by omega) t led' h' tk' u1 u2 S' F' N') (fun kd hf => herr kd (fails_up hf))
  | elem a b p c d' => exact fv_elem (IH _ rfl) B F X S N T hk hl hsz a b p c d' hdd h0 h1 hd hu (fun v e hr hd' t led' h' tk' u1 u2 S' F' N' => hret _ _ (by rw [hr]; rfl) (by omega) t led' h' tk' u1 u2 S' F' N') (fun kd hf => herr kd (fails_up hf))
theorem bvc_all (w : World) : ∀ n, BVC w n
  | 0 => bv_of_fv w 0 (fvc_step w 0 fun _ h => by cases h)
  | n + 1 => bv_of_fv w (n + 1) (fvc_step w (n + 1) fun n' h => by cases h; exact bvc_all w n)
theorem fvc_all (w : World) (n : Nat) : FVC w n := fvc_step w n fun _ _ => bvc_all w _
/-! ### sums: the loop of bound_value -/
/-- behind a number: the row goes on with sign and number, to its end -/
inductive SumP (P : Addr → Array Value → Prop) (items : List Value) : Int → Int → Int → Int → Prop
  | stop {k v : Int} : k = (items.length : Int) → SumP P items k v k v
  | plus {k v n e V : Int} {a b : Addr} {u1 u2 u3 u4 : Tok} : 0 ≤ k → k + 1 < (items.length : Int) → tokAt items k = .ref a → P a #[.str "sign" u1, .str "+" u2] → tokAt items (k + 1) = .ref b → P b #[.str "number" u3, .int n u4] →
      0 ≤ n → n ≤ 32767 → -32768 ≤ v + n → v + n ≤ 32767 → SumP P items (k + 1 + 1) (v + n) e V → SumP P items k v e V
  | minus {k v n e V : Int} {a b : Addr} {u1 u2 u3 u4 : Tok} : 0 ≤ k → k + 1 < (items.length : Int) → tokAt items k = .ref a → P a #[.str "sign" u1, .str "-" u2] → tokAt items (k + 1) = .ref b → P b #[.str "number" u3, .int n u4] →
      0 ≤ n → n ≤ 32767 → -32768 ≤ v - n → v - n ≤ 32767 → SumP P items (k + 1 + 1) (v - n) e V → SumP P items k v e V
abbrev ltOf (items : List Value) (k : Int) : Int := if k < (items.length : Int) then 5 else 0
theorem SumP.lev {P : Addr → Array Value → Prop} {items : List Value} {k v e V : Int} (h : SumP P items k v e V) : Lev P (tokAt items k) (ltOf items k) := by
  cases h with
  | stop a => rw [tokAt, ltOf, if_neg (by omega), if_neg (by omega)]; exact .fin
  | plus _ _ a b => rw [ltOf, if_pos (by omega), a]; exact .plus b
  | minus _ _ a b => rw [ltOf, if_pos (by omega), a]; exact .minus b
theorem SumP.mono {P P' : Addr → Array Value → Prop} (hp : ∀ a vs, P a vs → P' a vs) {items : List Value} {k v e V : Int} (h : SumP P items k v e V) : SumP P' items k v e V := by
  induction h with
  | stop a => exact .stop a
  | plus a b c d e f g h i j _ ih => exact .plus a b c (hp _ _ d) e (hp _ _ f) g h i j ih
  | minus a b c d e f g h i j _ ih => exact .minus a b c (hp _ _ d) e (hp _ _ f) g h i j ih
/-- the loop's names -/
def SumMap (m₀ : Str → Option Value) (lt v k : Int) (m₁ : Str → Option Value) : Prop :=
  (∃ t1 t2 t3, m₁ ("here" : Str) = some (.int lt t1) ∧ m₁ ("at" : Str) = some (.int k t2) ∧ m₁ ("found" : Str) = some (.int v t3)) ∧ ∀ z, z ≠ ("here" : Str) → z ≠ ("at" : Str) → z ≠ ("found" : Str) → z ≠ ("other" : Str) → z ≠ ("sign" : Str) → m₁ z = m₀ z
theorem SumMap.form {m₀ m₁ : Str → Option Value} {lt v k : Int} (h : SumMap m₀ lt v k m₁) : ∃ t1 t2 t3 u1 u2, m₁ = fun z => if z = ("here" : Str) then some (.int lt t1) else if z = ("at" : Str) then some (.int k t2) else if z = ("found" : Str) then some (.int v t3) else if z = ("other" : Str) then u1 else if z = ("sign" : Str) then u2 else m₀ z := by
  obtain ⟨⟨t1, t2, t3, e1, e2, e3⟩, r⟩ := h
  refine ⟨t1, t2, t3, m₁ ("other" : Str), m₁ ("sign" : Str), ?_⟩
  funext z
  by_cases h1 : z = ("here" : Str)
  · rw [if_pos h1, h1, e1]
  rw [if_neg h1]
  by_cases h2 : z = ("at" : Str)
  · rw [if_pos h2, h2, e2]
  rw [if_neg h2]
  by_cases h3 : z = ("found" : Str)
  · rw [if_pos h3, h3, e3]
  rw [if_neg h3]
  by_cases h4 : z = ("other" : Str)
  · rw [if_pos h4, h4]
  rw [if_neg h4]
  by_cases h5 : z = ("sign" : Str)
  · rw [if_pos h5, h5]
  rw [if_neg h5]
  exact r z h1 h2 h3 h4 h5
def SumEnd (w : World) (x : Addr) (items : List Value) (h₀ : Heap) (L : Addr) (m₀ : Str → Option Value) (s : Shared) (k v : Int) (f : Flow) (s₃ : Shared) : Prop :=
  f = .next ∧ ∃ h' tk m₂ led lt, s₃ = { s with heap := h', toks := tk } ∧ Fr h₀ L h' m₂ ∧ News h₀ L h' led ∧ SOK w x led ∧ SumMap m₀ lt v k m₂ ∧ lt = ltOf items k
theorem SumEnd.intro {w : World} {x : Addr} {items : List Value} {h₀ : Heap} {L : Addr} {m₀ m₂ : Str → Option Value} {s : Shared} {k v lt : Int} {h' : Heap} {tk : Nat} {led : List (Addr × Obj)}
    (F : Fr h₀ L h' m₂) (N : News h₀ L h' led) (S : SOK w x led) (M : SumMap m₀ lt v k m₂) (l : lt = ltOf items k) : SumEnd w x items h₀ L m₀ s k v .next { s with heap := h', toks := tk } := ⟨rfl, h', tk, m₂, led, lt, rfl, F, N, S, M, l⟩
section
variable {prog : Program} {w : World} {A : Around} {E : Value → Shared → Prop} {Q : Flow → Shared → Prop} {s : Shared} {env : Env} {h₀ : Heap} {L x : Addr}
theorem While_sum {P : Addr → Array Value → Prop} {items : List Value} {test : PySem.Expr} {body : List Stmt} {pos : Pos} {m₀ : Str → Option Value} {led : List (Addr × Obj)} {k v e V lt : Int}
    (F : Fr h₀ L s.heap m₀) (N : News h₀ L s.heap led) (S : SOK w x led) (R : SumP P items k v e V) (hl : lt = ltOf items k) (M : SumMap m₀ lt v k m₀)
    (stop : ∀ t1 t2 t3 u1 u2 led₁ h₁ tk₁, Fr h₀ L h₁ (fun z => if z = ("here" : Str) then some (.int 0 t1) else if z = ("at" : Str) then some (.int e t2) else if z = ("found" : Str) then some (.int V t3) else if z = ("other" : Str) then u1 else if z = ("sign" : Str) then u2 else m₀ z) → News h₀ L h₁ led₁ → SOK w x led₁ →
      wpAny (model prog w) A (isTrue test env (eval test env)) (fun b s₂ => if b = true then False else Q .next s₂) E { s with heap := h₁, toks := tk₁ })
    (plus : ∀ k v n a b w1 w2 w3 w4 lt' t1 t2 t3 u1 u2 led₁ h₁ tk₁, 0 ≤ k → k + 1 < (items.length : Int) → tokAt items k = .ref a → P a #[.str "sign" w1, .str "+" w2] → tokAt items (k + 1) = .ref b → P b #[.str "number" w3, .int n w4] →
      0 ≤ n → n ≤ 32767 → -32768 ≤ v + n → v + n ≤ 32767 → Lev P (tokAt items (k + 1 + 1)) lt' → (lt' = 0 ∨ lt' = 5) → lt' = ltOf items (k + 1 + 1) →
      Fr h₀ L h₁ (fun z => if z = ("here" : Str) then some (.int 5 t1) else if z = ("at" : Str) then some (.int k t2) else if z = ("found" : Str) then some (.int v t3) else if z = ("other" : Str) then u1 else if z = ("sign" : Str) then u2 else m₀ z) → News h₀ L h₁ led₁ → SOK w x led₁ →
      wpAny (model prog w) A (isTrue test env (eval test env)) (fun c s₂ => if c = true then wpAny (model prog w) A (execs body env) (SumEnd w x items h₀ L m₀ s (k + 1 + 1) (v + n)) E s₂ else False) E { s with heap := h₁, toks := tk₁ })
    (minus : ∀ k v n a b w1 w2 w3 w4 lt' t1 t2 t3 u1 u2 led₁ h₁ tk₁, 0 ≤ k → k + 1 < (items.length : Int) → tokAt items k = .ref a → P a #[.str "sign" w1, .str "-" w2] → tokAt items (k + 1) = .ref b → P b #[.str "number" w3, .int n w4] →
      0 ≤ n → n ≤ 32767 → -32768 ≤ v - n → v - n ≤ 32767 → Lev P (tokAt items (k + 1 + 1)) lt' → (lt' = 0 ∨ lt' = 5) → lt' = ltOf items (k + 1 + 1) →
      Fr h₀ L h₁ (fun z => if z = ("here" : Str) then some (.int 5 t1) else if z = ("at" : Str) then some (.int k t2) else if z = ("found" : Str) then some (.int v t3) else if z = ("other" : Str) then u1 else if z = ("sign" : Str) then u2 else m₀ z) → News h₀ L h₁ led₁ → SOK w x led₁ →
      wpAny (model prog w) A (isTrue test env (eval test env)) (fun c s₂ => if c = true then wpAny (model prog w) A (execs body env) (SumEnd w x items h₀ L m₀ s (k + 1 + 1) (v - n)) E s₂ else False) E { s with heap := h₁, toks := tk₁ })
    (hE : PassesOwn (model prog w) A env E := by passes_own) :
    wpAny (model prog w) A (exec (.While test body [] pos) env) Q E s := by
  refine While_inv (fun n m₁ news₁ => ∃ k v lt, SumMap m₀ lt v k m₁ ∧ SOK w x news₁ ∧ SumP P items k v e V ∧ lt = ltOf items k ∧ n = ((items.length : Int) - k).toNat) F N ⟨k, v, lt, M, S, R, hl, rfl⟩ ?_ hE
  rintro n m₁ news₁ h₁ tk₁ F₁ N₁ ⟨k, v, lt, M₁, S₁, R₁, l₁, rfl⟩
  cases R₁ with
  | stop a =>
    rw [ltOf, if_neg (by omega)] at l₁
    subst l₁
    obtain ⟨t1, t2, t3, u1, u2, rfl⟩ := M₁.form
    refine wpAny_mono (stop t1 t2 t3 u1 u2 news₁ h₁ tk₁ F₁ N₁ S₁) (fun b s₂ h₂ => ?_) fun _ _ y => y
    cases b with
    | false => exact h₂
    | true => exact h₂.elim
  | plus a b c d f g i j p q R₂ =>
    rw [ltOf, if_pos (by omega)] at l₁
    subst l₁
    obtain ⟨t1, t2, t3, u1, u2, rfl⟩ := M₁.form
    refine wpAny_mono (plus _ _ _ _ _ _ _ _ _ _ t1 t2 t3 u1 u2 news₁ h₁ tk₁ a b c d f g i j p q R₂.lev (by unfold ltOf; split <;> simp) rfl F₁ N₁ S₁) (fun b' s₂ h₂ => ?_) fun _ _ y => y
    cases b' with
    | false => exact h₂.elim
    | true =>
      rw [if_pos rfl] at h₂ ⊢
      refine wpAny_mono h₂ (fun fl s₃ h₃ => ?_) fun _ _ y => y
      obtain ⟨rfl, h', tk, m₂, led', lt', rfl, F₂, N₂, S₂, M₂, l₂⟩ := h₃
      exact ⟨rfl, h', tk, m₂, led', _, rfl, F₂, N₂, by omega, _, _, lt', M₂, S₂, R₂, l₂, rfl⟩
  | minus a b c d f g i j p q R₂ =>
    rw [ltOf, if_pos (by omega)] at l₁
    subst l₁
    obtain ⟨t1, t2, t3, u1, u2, rfl⟩ := M₁.form
    refine wpAny_mono (minus _ _ _ _ _ _ _ _ _ _ t1 t2 t3 u1 u2 news₁ h₁ tk₁ a b c d f g i j p q R₂.lev (by unfold ltOf; split <;> simp) rfl F₁ N₁ S₁) (fun b' s₂ h₂ => ?_) fun _ _ y => y
    cases b' with
    | false => exact h₂.elim
    | true =>
      rw [if_pos rfl] at h₂ ⊢
      refine wpAny_mono h₂ (fun fl s₃ h₃ => ?_) fun _ _ y => y
      obtain ⟨rfl, h', tk, m₂, led', lt', rfl, F₂, N₂, S₂, M₂, l₂⟩ := h₃
      exact ⟨rfl, h', tk, m₂, led', _, rfl, F₂, N₂, by omega, _, _, lt', M₂, S₂, R₂, l₂, rfl⟩
end
theorem bn_use {w : World} {dp un : Nat} {gd : Option (List Code)} {cn : Str} {cs : Scope} {a : Addr} {ccd : Value} {cl : List (Str × Addr)} {outer : List Env} {A₀ : Around} {base h₀ : Heap} {L : Addr} {m : Str → Option Value} {led : List (Addr × Obj)} {s : Shared} {Q E : Value → Shared → Prop} {mean : ExcName → Option Value} {mg mb : Str → Option Value} {l x : Addr} {items : List Value} {k d : Int} {u u' : Tok} {lv lt : Int} {u'' : Tok}
    (B : Below A₀ base outer h₀) (F : Fr h₀ L s.heap m) (X : (Mine.K w.params).In h₀) (S : SOK w x led) (N : News h₀ L s.heap led) (T : Top Mine.view (looseW Mine.view []) mean mg mb h₀) (hk : cs.kind = .function)
    (hl : base.IsList l items.toArray) (hsz : items.length < 1000000) {ta : Addr} {ua ub : Tok} {v : Int} (pk0 : 0 ≤ k) (pk1 : k < (items.length : Int)) (hv : tokAt items k = .ref ta) (ht : IsTup base ta #[.str "number" ua, .int v ub]) (pv0 : -32768 ≤ v) (pv1 : v ≤ 32767) (hlev : Lev (IsTup base) (tokAt items (k + 1)) lt) (hlt : lt < lv) (hdd : d ≤ 40) (h0 : 0 ≤ d) (h1 : d ≤ 41) (hd : dp + 6 * (41 - d).toNat + 30 < recursionLimit) (hu : un + 40 * (41 - d).toNat + 400 < cLine)
    (hret : ∀ t led' h' tk' u1 u2, SOK w x led' → Fr h₀ L h' m → News h₀ L h' ((t, tupleObj [.int v u1, .int (k + 1) u2]) :: led') → Q (.ref t) { s with heap := h', toks := tk' }) :
    wpAny (model PySem.Challenge.rw_pq1455_01.row.prog w) (ktrTop dp un gd cn cs L a ccd cl outer) (call (.ref 224) [.ref l, .int k u, .int lv u'', .ref x, .int d u']) Q E s :=
  bv_use (bvc_all w 0) B F X S N T hk hl hsz (.num pk0 pk1 hv ht pv0 pv1) (fun v e h => by cases h; exact ⟨lt, hlev, .inr ⟨rfl, hlt⟩⟩) h0 h1 hd hu (fun v e hr _ t led' h' tk' u1 u2 S' F' N' => by cases hr; exact hret t led' h' tk' u1 u2 S' F' N') (fun kd hf => by
    rcases hf with ⟨a, _⟩ | ⟨_, a, _⟩
    · omega
    · cases a)
set_option maxHeartbeats 8000000 in
theorem c_fitted (w : World) {dp un : Nat} {gd : Option (List Code)} {cn : Str} {cs : Scope} {a : Addr} {ccd : Value} {cl : List (Str × Addr)} {outer : List Env} {A₀ : Around} {base h₀ : Heap} {L : Addr} {m : Str → Option Value} {news : List (Addr × Obj)} {s : Shared} {Q E : Value → Shared → Prop} {mean : ExcName → Option Value} {mg mb : Str → Option Value} {n : Int} {u : Tok}
    (B : Below A₀ base outer h₀) (F : Fr h₀ L s.heap m) (X : (Mine.K w.params).In h₀) (N : News h₀ L s.heap news) (T : Top Mine.view (looseW Mine.view []) mean mg mb h₀) (hk : cs.kind = .function)
    (q0 : -32768 ≤ n) (q1 : n ≤ 32767) (hd : dp + 8 < recursionLimit) (hu : un + 64 < cLine)
    (hret : ∀ h' tk' u9, Fr h₀ L h' m → News h₀ L h' news → Q (.int (n) u9) { s with heap := h', toks := tk' }) :
    wpAny (model PySem.Challenge.rw_pq1455_01.row.prog w) (ktrTop dp un gd cn cs L a ccd cl outer) (call (.ref 65) [.int n u]) Q E s := by
  revert X; k_fill; intro X
  refine wpAny_call ?_
  k_dflt ktr_enter
  rename_i g' L' h' FG' F' N' B' X' T'
  k_lift B'
  k_steps
  all_goals first
    | exact hret _ _ _ (by assumption) (by assumption)
    | exact hret _ _ _ (by assumption) (news_sub (by assumption) (by repeat (first | exact sub_id | refine sub_tl ?_)))
section
theorem said10 : True := by
  (k_with "m:call ref" => (k_here; (with_reducible show wpAny _ _ (call (Value.ref 65) _ _) _ _ _); k_dflt (refine' c_fitted _ ?kBz33 ?kFz33 ?kXz33 ?kNz33 ?kTz33 ?kKz33 ?q0z33 ?q1z33 ?kdz33 ?kuz33 ?_; (case kBz33 => assumption); (case kFz33 => k_asm); (case kXz33 => k_asm); (case kNz33 => k_asm); (case kTz33 => k_asm); (case kKz33 => exact rfl); (case q0z33 => omega); (case q1z33 => omega); (case kdz33 => ktr_room); (case kuz33 => ktr_units); k_whole; intro h' tk' u9 F' N'; (try k_sweep))))
  trivial
set_option maxHeartbeats 8000000 in
theorem c_plus (w : World) {dp un : Nat} {gd : Option (List Code)} {cn : Str} {cs : Scope} {a : Addr} {ccd : Value} {cl : List (Str × Addr)} {outer : List Env} {A₀ : Around} {base h₀ : Heap} {L : Addr} {m : Str → Option Value} {news : List (Addr × Obj)} {s : Shared} {Q E : Value → Shared → Prop} {mean : ExcName → Option Value} {mg mb : Str → Option Value} {n n' : Int} {u u1 u2 : Tok}
    (B : Below A₀ base outer h₀) (F : Fr h₀ L s.heap m) (X : (Mine.K w.params).In h₀) (N : News h₀ L s.heap news) (T : Top Mine.view (looseW Mine.view []) mean mg mb h₀) (hk : cs.kind = .function)
    (q0 : -32768 ≤ n + n') (q1 : n + n' ≤ 32767) (hd : dp + 16 < recursionLimit) (hu : un + 128 < cLine)
    (hret : ∀ h' tk' u9, Fr h₀ L h' m → News h₀ L h' news → Q (.int (n + n') u9) { s with heap := h', toks := tk' }) :
    wpAny (model PySem.Challenge.rw_pq1455_01.row.prog w) (ktrTop dp un gd cn cs L a ccd cl outer) (call (.ref 128) [.str "+" u, .int n u1, .int n' u2]) Q E s := by
  revert X; k_fill; intro X
  refine wpAny_call ?_
  k_dflt ktr_enter
  rename_i g' L' h' FG' F' N' B' X' T'
  k_lift B'
  k_steps
  all_goals first
    | exact hret _ _ _ (by assumption) (by assumption)
    | exact hret _ _ _ (by assumption) (news_sub (by assumption) (by repeat (first | exact sub_id | refine sub_tl ?_)))
set_option maxHeartbeats 8000000 in
theorem c_minus (w : World) {dp un : Nat} {gd : Option (List Code)} {cn : Str} {cs : Scope} {a : Addr} {ccd : Value} {cl : List (Str × Addr)} {outer : List Env} {A₀ : Around} {base h₀ : Heap} {L : Addr} {m : Str → Option Value} {news : List (Addr × Obj)} {s : Shared} {Q E : Value → Shared → Prop} {mean : ExcName → Option Value} {mg mb : Str → Option Value} {n n' : Int} {u u1 u2 : Tok}
    (B : Below A₀ base outer h₀) (F : Fr h₀ L s.heap m) (X : (Mine.K w.params).In h₀) (N : News h₀ L s.heap news) (T : Top Mine.view (looseW Mine.view []) mean mg mb h₀) (hk : cs.kind = .function)
    (q0 : -32768 ≤ n - n') (q1 : n - n' ≤ 32767) (hd : dp + 16 < recursionLimit) (hu : un + 128 < cLine)
    (hret : ∀ h' tk' u9, Fr h₀ L h' m → News h₀ L h' news → Q (.int (n - n') u9) { s with heap := h', toks := tk' }) :
    wpAny (model PySem.Challenge.rw_pq1455_01.row.prog w) (ktrTop dp un gd cn cs L a ccd cl outer) (call (.ref 128) [.str "-" u, .int n u1, .int n' u2]) Q E s := by
  revert X; k_fill; intro X
  refine wpAny_call ?_
  k_dflt ktr_enter
  rename_i g' L' h' FG' F' N' B' X' T'
  k_lift B'
  k_steps
  all_goals first
    | exact hret _ _ _ (by assumption) (by assumption)
    | exact hret _ _ _ (by assumption) (news_sub (by assumption) (by repeat (first | exact sub_id | refine sub_tl ?_)))
end
section
theorem said11 : True := by
  k_with_none
  (k_with "m:subscriptTail" => (k_here; (with_reducible show wpAny _ _ (subscriptTail _ _ (Value.ref _) (Value.int _ _)) _ _ _); (with_unfolding_all refine' item_at ?k1z1 ?k2z1 ?k3z1 ?k4z1 ?k5z1 ?_ ?k6z1; (case k1z1 => is_list); (case k2z1 => omega); (case k3z1 => omega); (case k4z1 => omega); (case k5z1 => first | assumption | exact rfl); (case k6z1 => with_unfolding_all rfl); k_whole)))
  (k_with "m:call builtin:len" => (k_here; (with_reducible show wpAny _ _ (call (Value.builtin "len") [Value.ref _]) _ _ _); k_dflt (refine' len_at ?k1z2 ?k2z2 ?_; (case k1z2 => is_list); (case k2z2 => omega); k_whole)))
  (k_with "m:compareOp Eq str str" => (refine' eq_strC ?krz3 ?_; (case krz3 => first | ((refine (?_ : _ = true)); kernel_rfl!) | ((refine (?_ : _ = false)); kernel_rfl!)); k_whole))
  (k_with "m:compareOp NotEq str str" => (refine' ne_strC ?krz4 ?_; (case krz4 => first | ((refine (?_ : _ = true)); kernel_rfl!) | ((refine (?_ : _ = false)); kernel_rfl!)); k_whole))
  (k_with "m:ite" => (k_closed; first | rewrite [if_neg Bool.false_ne_true] | rewrite [if_pos (rfl : true = true)]))
  (k_with "m:exec Raise some none" => (k_here; (with_reducible show wpAny _ _ (exec (Stmt.Raise (some (Expr.Call (Expr.Name ("BasicError" : Str) _) (_ :: _) [] _)) none _) _) _ _ _); k_dflt (refine' Raise_D ?hhz6 ?_; (case hhz6 => rfl))))
  (k_with "m:call ref" => (k_here; (with_reducible show wpAny _ _ (call (Value.ref 31) _ _) _ _ _); k_dflt (refine' call_clsE ?k1z7 ?k2z7 ?k3z7 ?k4z7 ?_; (case k1z7 => k_asm); (case k2z7 => k_asm); (case k3z7 => k_asm); (case k4z7 => size_fits); k_whole; intro x' t' h' F' N' l1; (try k_sweep); k_enter)))
  (k_with "m:setAttr ref" => (k_here; k_dflt (refine' set_kind ?k1z8 ?k2z8 ?k3z8 ?k4z8 ?_; (case k1z8 => k_asm); (case k2z8 => k_asm); (case k3z8 => k_asm); (case k4z8 => assumption); k_whole; intro dx' D' h' tk' K' ne' F' N'; (try k_sweep))))
  (k_with "m:RaisableD" => (k_dflt (refine' raisable31 ?k1z9 ?k2z9 ?k3z9 ?_; (case k1z9 => k_asm); (case k2z9 => k_asm); (case k3z9 => k_asm); k_whole)))
  (k_with "m:call ref" => (k_here; (with_reducible show wpAny _ _ (call (Value.ref 51) _ _) _ _ _); k_dflt (refine' c_token_at _ ?kBz10 ?kFz10 ?kXz10 ?kNz10 ?kTz10 ?kKz10 ?klz10 ?ksz10 ?k0z10 ?k1z10 ?kvz10 ?kdz10 ?kuz10 ?_; (case kBz10 => assumption); (case kFz10 => k_asm); (case kXz10 => k_asm); (case kNz10 => k_asm); (case kTz10 => k_asm); (case kKz10 => exact rfl); (case klz10 => assumption); (case ksz10 => assumption); (case kvz10 => first | assumption | exact rfl); (case k0z10 => omega); (case k1z10 => omega); (case kdz10 => ktr_room); (case kuz10 => ktr_units); k_whole; intro h' tk' F' N'; (try k_sweep))))
  (k_with "m:compareOp NotEq ref ref" => (k_here; (with_reducible show wpAny _ _ (compareOp CmpOp.NotEq (Value.ref _) (Value.ref _)) _ _ _); k_dflt (refine' two_ne' ?k1z11 ?k2z11 ?k3z11 ?k4z11 ?k5z11 ?k6z11 ?kuz11 ?krz11 ?_; (case k1z11 => first | assumption | exact Fr.tup (by assumption) (by assumption) | exact tup_base (by assumption) (by assumption) (by assumption) | exact News.isTup (by k_asm) (by k_mem)); (case k2z11 => first | assumption | exact Fr.tup (by assumption) (by assumption) | exact tup_base (by assumption) (by assumption) (by assumption) | exact News.isTup (by k_asm) (by k_mem)); (case k3z11 => first | assumption | kernel_rfl!); (case k4z11 => first | assumption | kernel_rfl!); (case k5z11 => first | assumption | kernel_rfl!); (case k6z11 => first | assumption | kernel_rfl!); (case kuz11 => ktr_units); (case krz11 => first | exact beq2_same | ((refine (?_ : _ = true)); kernel_rfl!) | ((refine (?_ : _ = false)); kernel_rfl!)); k_whole; (try simp only [Bool.not_true, Bool.not_false]))))
  (k_with "m:compareOp Eq ref ref" => (k_here; (with_reducible show wpAny _ _ (compareOp CmpOp.Eq (Value.ref _) (Value.ref _)) _ _ _); k_dflt (refine' two_eq' ?k1z12 ?k2z12 ?k3z12 ?k4z12 ?k5z12 ?k6z12 ?kuz12 ?krz12 ?_; (case k1z12 => first | assumption | exact Fr.tup (by assumption) (by assumption) | exact tup_base (by assumption) (by assumption) (by assumption) | exact News.isTup (by k_asm) (by k_mem)); (case k2z12 => first | assumption | exact Fr.tup (by assumption) (by assumption) | exact tup_base (by assumption) (by assumption) (by assumption) | exact News.isTup (by k_asm) (by k_mem)); (case k3z12 => first | assumption | kernel_rfl!); (case k4z12 => first | assumption | kernel_rfl!); (case k5z12 => first | assumption | kernel_rfl!); (case k6z12 => first | assumption | kernel_rfl!); (case kuz12 => ktr_units); (case krz12 => first | exact beq2_same | ((refine (?_ : _ = true)); kernel_rfl!) | ((refine (?_ : _ = false)); kernel_rfl!)); k_whole; (try simp only [Bool.not_true, Bool.not_false]))))
  (k_with "m:compareOp In str ref" => (k_here; (with_reducible show wpAny _ _ (compareOp CmpOp.In (Value.str _ _) (Value.ref 36)) _ _ _); k_dflt (refine' in36 ?k1z13 ?k2z13 ?k3z13 ?kuz13 ?krz13 ?_; (case k1z13 => k_asm); (case k2z13 => k_asm); (case k3z13 => first | assumption | kernel_rfl!); (case kuz13 => ktr_units); (case krz13 => first | ((refine (?_ : _ = true)); kernel_rfl!) | ((refine (?_ : _ = false)); kernel_rfl!)); k_whole)))
  (k_with "m:compareOp In str ref" => (k_here; (with_reducible show wpAny _ _ (compareOp CmpOp.In (Value.str _ _) (Value.ref 37)) _ _ _); k_dflt (refine' in37 ?k1z14 ?k2z14 ?k3z14 ?kuz14 ?krz14 ?_; (case k1z14 => k_asm); (case k2z14 => k_asm); (case k3z14 => first | assumption | kernel_rfl!); (case kuz14 => ktr_units); (case krz14 => first | ((refine (?_ : _ = true)); kernel_rfl!) | ((refine (?_ : _ = false)); kernel_rfl!)); k_whole)))
  (k_with "m:compareOp In ref ref" => (k_here; (with_reducible show wpAny _ _ (compareOp CmpOp.In (Value.ref _) (Value.ref _)) _ _ _); k_dflt (refine' in_three ?k1z15 ?k2z15 ?k3z15 ?k4z15 ?k5z15 ?k6z15 ?k7z15 ?kuz15 ?krz15 ?_; (case k1z15 => exact News.isTup (by k_asm) (by k_mem)); (case k2z15 => exact News.isTup (by k_asm) (by k_mem)); (case k3z15 => exact News.isTup (by k_asm) (by k_mem)); (case k4z15 => exact News.isTup (by k_asm) (by k_mem)); (case k5z15 => exact News.isTup (by k_asm) (by k_mem)); (case k6z15 => kernel_rfl!); (case k7z15 => kernel_rfl!); (case kuz15 => ktr_units); (case krz15 => first | ((refine (?_ : _ = true)); kernel_rfl!) | ((refine (?_ : _ = false)); kernel_rfl!)); k_whole)))
  (k_with "m:call ref" => (k_here; (with_reducible show wpAny _ _ (call (Value.ref 58) _ _) _ _ _); k_dflt (refine' c_expect _ ?kBz16 ?kFz16 ?kXz16 ?kNz16 ?kTz16 ?kKz16 ?klz16 ?ksz16 ?kokz16 ?k2z16 ?kdz16 ?kuz16 ?_; (case kBz16 => assumption); (case kFz16 => k_asm); (case kXz16 => k_asm); (case kNz16 => k_asm); (case kTz16 => k_asm); (case kKz16 => exact rfl); (case klz16 => assumption); (case ksz16 => assumption); (case kokz16 => kernel_rfl!); (case k2z16 => assumption); (case kdz16 => ktr_room); (case kuz16 => ktr_units); k_whole; intro h' tk' u9 F' N'; (try k_sweep))))
  (k_with "m:call ref" => (k_here; (with_reducible show wpAny _ _ (call (Value.ref 135) _ _) _ _ _); k_dflt (refine' c_level_of _ ?kBz17 ?kFz17 ?kXz17 ?kNz17 ?kTz17 ?kKz17 ?kvz17 ?kdz17 ?kuz17 ?_; (case kBz17 => assumption); (case kFz17 => k_asm); (case kXz17 => k_asm); (case kNz17 => k_asm); (case kTz17 => k_asm); (case kKz17 => exact rfl); (case kvz17 => assumption); (case kdz17 => ktr_room); (case kuz17 => ktr_units); k_whole; intro h' tk' u9 F' N'; (try k_sweep))))
  (k_with "m:call ref" => (k_here; (with_reducible show wpAny _ _ (call (Value.ref 217) _ _) _ _ _); k_dflt (refine' fv_use ?kCz18 ?kBz18 ?kFz18 ?kXz18 ?kSz18 ?kNz18 ?kTz18 ?kKz18 ?klz18 ?ksz18 ?kPz18 ?kstz18 ?k0z18 ?k1z18 ?kdz18 ?kuz18 ?retz18 ?errz18; (case kCz18 => assumption); (case kBz18 => assumption); (case kFz18 => k_asm); (case kXz18 => k_asm); (case kTz18 => k_asm); (case kKz18 => exact rfl); (case klz18 => assumption); (case ksz18 => assumption); (case kSz18 => assumption); (case kNz18 => first | k_asm | exact news_sub (by k_asm) (by repeat (first | exact sub_id | refine sub_tl ?_))); (case kPz18 => assumption); (case kstz18 => first | assumption | exact fun v e h => stop_f ((by assumption : ∀ v e, _ = some (v, e) → ∃ lt, Lev _ _ lt ∧ _) v e h)); (case k0z18 => omega); (case k1z18 => omega); (case kdz18 => ktr_room); (case kuz18 => ktr_units); (case' retz18 => intro v' e' hr' hd' t' led' h' tk' u1' u2' S' F' N'; (try k_sweep); (try (rename (∀ v e, _ = some (v, e) → ∃ lt, Lev _ _ lt ∧ _) => hst'; obtain ⟨lt', lv', lo'⟩ := hst' _ _ hr')); (try (rename (∀ v e, _ = some (v, e) → _ < e ∧ e ≤ _) => pe'; obtain ⟨pl', pm'⟩ := pe' _ _ hr'))); (case' errz18 => intro kd' hf' e' h' tk' R'))))
  (k_with "m:call ref" => (k_here; (with_reducible show wpAny _ _ (call (Value.ref 217) _ _) _ _ _); k_dflt (refine' fv_num ?kBz34 ?kFz34 ?kXz34 ?kSz34 ?kNz34 ?kTz34 ?kKz34 ?klz34 ?ksz34 ?p0z34 ?p1z34 ?hvz34 ?htz34 ?q0z34 ?q1z34 ?kddz34 ?k0z34 ?k1z34 ?kdz34 ?kuz34 ?_ trivial; (case kBz34 => assumption); (case kFz34 => k_asm); (case kXz34 => k_asm); (case kTz34 => k_asm); (case kKz34 => exact rfl); (case klz34 => assumption); (case ksz34 => assumption); (case kSz34 => assumption); (case kNz34 => first | k_asm | exact news_sub (by k_asm) (by repeat (first | exact sub_id | refine sub_tl ?_))); (case hvz34 => assumption); (case htz34 => assumption); (case p0z34 => omega); (case p1z34 => omega); (case q0z34 => omega); (case q1z34 => omega); (case kddz34 => omega); (case k0z34 => omega); (case k1z34 => omega); (case kdz34 => ktr_room); (case kuz34 => ktr_units); k_whole; intro t' led' h' tk' u1' u2' S' F' N'; (try k_sweep))))
  (k_with "m:call ref" => (k_here; (with_reducible show wpAny _ _ (call (Value.ref 224) _ _) _ _ _); k_dflt (refine' bn_use ?kBz35 ?kFz35 ?kXz35 ?kSz35 ?kNz35 ?kTz35 ?kKz35 ?klz35 ?ksz35 ?p0z35 ?p1z35 ?hvz35 ?htz35 ?q0z35 ?q1z35 ?hlevz35 ?hltz35 ?kddz35 ?k0z35 ?k1z35 ?kdz35 ?kuz35 ?_; (case kBz35 => assumption); (case kFz35 => k_asm); (case kXz35 => k_asm); (case kTz35 => k_asm); (case kKz35 => exact rfl); (case klz35 => assumption); (case ksz35 => assumption); (case kSz35 => assumption); (case kNz35 => first | k_asm | exact news_sub (by k_asm) (by repeat (first | exact sub_id | refine sub_tl ?_))); (case hvz35 => assumption); (case htz35 => assumption); (case hlevz35 => assumption); (case hltz35 => omega); (case p0z35 => omega); (case p1z35 => omega); (case q0z35 => omega); (case q1z35 => omega); (case kddz35 => omega); (case k0z35 => omega); (case k1z35 => omega); (case kdz35 => ktr_room); (case kuz35 => ktr_units); k_whole; intro t' led' h' tk' u1' u2' S' F' N'; (try k_sweep))))
  (k_with "m:exec While" => (k_here; k_dflt (refine' While_sum ?kFz36 ?kNz36 ?kSz36 ?kRz36 ?kltz36 ?kMz36 ?stopz36 ?plusz36 ?minusz36 ?kEz36; (case kSz36 => assumption); (case kRz36 => assumption); (case kltz36 => assumption); (case kFz36 => k_asm); (case kNz36 => first | k_asm | exact news_sub (by k_asm) (by repeat (first | exact sub_id | refine sub_tl ?_))); (case kMz36 => exact ⟨⟨_, _, _, rfl, rfl, rfl⟩, fun _ _ _ _ _ _ => rfl⟩); (case kEz36 => passes_own); (case' stopz36 => intro t1 t2 t3 u1 u2 led' h' tk' F' N' S'; (try k_sweep)); (case' plusz36 => intro k' v' n' a' b' w1 w2 w3 w4 lt' t1 t2 t3 u1 u2 led' h' tk' e1 e2 e3 e4 e5 e6 e7 e8 e9 f1 f2 f3 f4 F' N' S'; (try k_sweep); (rename Below _ _ _ _ => kB9); have l4' := stays_tup (Below.stays kB9) e4; have l6' := stays_tup (Below.stays kB9) e6); (case' minusz36 => intro k' v' n' a' b' w1 w2 w3 w4 lt' t1 t2 t3 u1 u2 led' h' tk' e1 e2 e3 e4 e5 e6 e7 e8 e9 f1 f2 f3 f4 F' N' S'; (try k_sweep); (rename Below _ _ _ _ => kB9); have l4' := stays_tup (Below.stays kB9) e4; have l6' := stays_tup (Below.stays kB9) e6))))
  (k_with "m:SumEnd" => (k_here; k_dflt (refine' SumEnd.intro ?kFz37 ?kNz37 ?kSz37 ?kMz37 ?klz37; (case klz37 => assumption); (case kSz37 => assumption); (case kFz37 => k_asm); (case kMz37 => exact ⟨⟨_, _, _, rfl, rfl, rfl⟩, fun z z1 z2 z3 z4 z5 => by simp only [z1, z2, z3, z4, z5, if_false]⟩); (case kNz37 => first | k_asm | exact news_sub (by k_asm) (by repeat (first | exact sub_id | refine sub_tl ?_))))))
  (k_with "m:call ref" => (k_here; (with_reducible show wpAny _ _ (call (Value.ref 128) _ _) _ _ _); k_dflt (first | (refine' c_plus _ ?kBz38 ?kFz38 ?kXz38 ?kNz38 ?kTz38 ?kKz38 ?q0z38 ?q1z38 ?kdz38 ?kuz38 ?_; (case kBz38 => assumption); (case kFz38 => k_asm); (case kXz38 => k_asm); (case kNz38 => k_asm); (case kTz38 => k_asm); (case kKz38 => exact rfl); (case q0z38 => omega); (case q1z38 => omega); (case kdz38 => ktr_room); (case kuz38 => ktr_units)) | (refine' c_minus _ ?kBz38 ?kFz38 ?kXz38 ?kNz38 ?kTz38 ?kKz38 ?q0z38 ?q1z38 ?kdz38 ?kuz38 ?_; (case kBz38 => assumption); (case kFz38 => k_asm); (case kXz38 => k_asm); (case kNz38 => k_asm); (case kTz38 => k_asm); (case kKz38 => exact rfl); (case q0z38 => omega); (case q1z38 => omega); (case kdz38 => ktr_room); (case kuz38 => ktr_units))); k_whole; intro h' tk' u9 F' N'; (try k_sweep)))
  (k_with "m:subscriptTail Name Name ref int" => (k_here; (with_reducible show wpAny _ _ (subscriptTail _ _ (Value.ref _) (Value.int _ _)) _ _ _); (with_unfolding_all refine' item_at ?k1z39 ?k2z39 ?k3z39 ?k4z39 ?k5z39 ?_ ?k6z39; (case k1z39 => is_list); (case k2z39 => omega); (case k3z39 => omega); (case k4z39 => omega); (case k5z39 => first | assumption | exact rfl); (case k6z39 => with_unfolding_all rfl); k_whole)))
  trivial
set_option maxHeartbeats 8000000 in
theorem bs_use {w : World} {dp un : Nat} {gd : Option (List Code)} {cn : Str} {cs : Scope} {a : Addr} {ccd : Value} {cl : List (Str × Addr)} {outer : List Env} {A₀ : Around} {base h₀ : Heap} {L : Addr} {m : Str → Option Value} {led : List (Addr × Obj)} {s : Shared} {Q E : Value → Shared → Prop} {mean : ExcName → Option Value} {mg mb : Str → Option Value} {l x : Addr} {items : List Value} {k d : Int} {u u' : Tok} {u'' : Tok} {e V : Int}
    (B : Below A₀ base outer h₀) (F : Fr h₀ L s.heap m) (X : (Mine.K w.params).In h₀) (S : SOK w x led) (N : News h₀ L s.heap led) (T : Top Mine.view (looseW Mine.view []) mean mg mb h₀) (hk : cs.kind = .function)
    (hl : base.IsList l items.toArray) (hsz : items.length < 1000000) {ta : Addr} {ua ub : Tok} {v : Int} (pk0 : 0 ≤ k) (pk1 : k < (items.length : Int)) (hv : tokAt items k = .ref ta) (ht : IsTup base ta #[.str "number" ua, .int v ub]) (pv0 : -32768 ≤ v) (pv1 : v ≤ 32767) (R : SumP (IsTup base) items (k + 1) v e V) (hdd : d ≤ 40) (h0 : 0 ≤ d) (h1 : d ≤ 41) (hd : dp + 6 * (41 - d).toNat + 40 < recursionLimit) (hu : un + 40 * (41 - d).toNat + 440 < cLine)
    (hret : ∀ t led' h' tk' u1 u2, SOK w x led' → Fr h₀ L h' m → News h₀ L h' ((t, tupleObj [.int V u1, .int e u2]) :: led') → Q (.ref t) { s with heap := h', toks := tk' }) :
    wpAny (model PySem.Challenge.rw_pq1455_01.row.prog w) (ktrTop dp un gd cn cs L a ccd cl outer) (call (.ref 224) [.ref l, .int k u, .int 1 u'', .ref x, .int d u']) Q E s := by
  obtain ⟨lt, hlt, hlev⟩ : ∃ lt, lt = ltOf items (k + 1) ∧ Lev (IsTup base) (tokAt items (k + 1)) lt := ⟨_, rfl, R.lev⟩
  revert X; k_fill; intro X
  refine wpAny_call ?_
  k_dflt ktr_enter
  rename_i g' L' h' FG' F' N' B' X' T'
  k_lift B'
  k_steps
  all_goals exact hret _ _ _ _ _ _ (by assumption) (by assumption) (news_sub (by assumption) (sub_gen (by repeat (first | exact sub_id | refine sub_tl ?_))))
end
section
theorem said12 : True := by
  k_with_none
  (k_with "m:subscriptTail" => (k_here; (with_reducible show wpAny _ _ (subscriptTail _ _ (Value.ref _) (Value.int _ _)) _ _ _); (with_unfolding_all refine' item_at ?k1z1 ?k2z1 ?k3z1 ?k4z1 ?k5z1 ?_ ?k6z1; (case k1z1 => is_list); (case k2z1 => omega); (case k3z1 => omega); (case k4z1 => omega); (case k5z1 => first | assumption | exact rfl); (case k6z1 => with_unfolding_all rfl); k_whole)))
  (k_with "m:call builtin:len" => (k_here; (with_reducible show wpAny _ _ (call (Value.builtin "len") [Value.ref _]) _ _ _); k_dflt (refine' len_at ?k1z2 ?k2z2 ?_; (case k1z2 => is_list); (case k2z2 => omega); k_whole)))
  (k_with "m:compareOp Eq str str" => (refine' eq_strC ?krz3 ?_; (case krz3 => first | ((refine (?_ : _ = true)); kernel_rfl!) | ((refine (?_ : _ = false)); kernel_rfl!)); k_whole))
  (k_with "m:compareOp NotEq str str" => (refine' ne_strC ?krz4 ?_; (case krz4 => first | ((refine (?_ : _ = true)); kernel_rfl!) | ((refine (?_ : _ = false)); kernel_rfl!)); k_whole))
  (k_with "m:ite" => (k_closed; first | rewrite [if_neg Bool.false_ne_true] | rewrite [if_pos (rfl : true = true)]))
  (k_with "m:exec Raise some none" => (k_here; (with_reducible show wpAny _ _ (exec (Stmt.Raise (some (Expr.Call (Expr.Name ("BasicError" : Str) _) (_ :: _) [] _)) none _) _) _ _ _); k_dflt (refine' Raise_D ?hhz6 ?_; (case hhz6 => rfl))))
  (k_with "m:call ref" => (k_here; (with_reducible show wpAny _ _ (call (Value.ref 31) _ _) _ _ _); k_dflt (refine' call_clsE ?k1z7 ?k2z7 ?k3z7 ?k4z7 ?_; (case k1z7 => k_asm); (case k2z7 => k_asm); (case k3z7 => k_asm); (case k4z7 => size_fits); k_whole; intro x' t' h' F' N' l1; (try k_sweep); k_enter)))
  (k_with "m:setAttr ref" => (k_here; k_dflt (refine' set_kind ?k1z8 ?k2z8 ?k3z8 ?k4z8 ?_; (case k1z8 => k_asm); (case k2z8 => k_asm); (case k3z8 => k_asm); (case k4z8 => assumption); k_whole; intro dx' D' h' tk' K' ne' F' N'; (try k_sweep))))
  (k_with "m:RaisableD" => (k_dflt (refine' raisable31 ?k1z9 ?k2z9 ?k3z9 ?_; (case k1z9 => k_asm); (case k2z9 => k_asm); (case k3z9 => k_asm); k_whole)))
  (k_with "m:call ref" => (k_here; (with_reducible show wpAny _ _ (call (Value.ref 51) _ _) _ _ _); k_dflt (refine' c_token_at _ ?kBz10 ?kFz10 ?kXz10 ?kNz10 ?kTz10 ?kKz10 ?klz10 ?ksz10 ?k0z10 ?k1z10 ?kvz10 ?kdz10 ?kuz10 ?_; (case kBz10 => assumption); (case kFz10 => k_asm); (case kXz10 => k_asm); (case kNz10 => k_asm); (case kTz10 => k_asm); (case kKz10 => exact rfl); (case klz10 => assumption); (case ksz10 => assumption); (case kvz10 => first | assumption | exact rfl); (case k0z10 => omega); (case k1z10 => omega); (case kdz10 => ktr_room); (case kuz10 => ktr_units); k_whole; intro h' tk' F' N'; (try k_sweep))))
  (k_with "m:compareOp NotEq ref ref" => (k_here; (with_reducible show wpAny _ _ (compareOp CmpOp.NotEq (Value.ref _) (Value.ref _)) _ _ _); k_dflt (refine' two_ne' ?k1z11 ?k2z11 ?k3z11 ?k4z11 ?k5z11 ?k6z11 ?kuz11 ?krz11 ?_; (case k1z11 => first | assumption | exact Fr.tup (by assumption) (by assumption) | exact tup_base (by assumption) (by assumption) (by assumption) | exact News.isTup (by k_asm) (by k_mem)); (case k2z11 => first | assumption | exact Fr.tup (by assumption) (by assumption) | exact tup_base (by assumption) (by assumption) (by assumption) | exact News.isTup (by k_asm) (by k_mem)); (case k3z11 => first | assumption | kernel_rfl!); (case k4z11 => first | assumption | kernel_rfl!); (case k5z11 => first | assumption | kernel_rfl!); (case k6z11 => first | assumption | kernel_rfl!); (case kuz11 => ktr_units); (case krz11 => first | exact beq2_same | ((refine (?_ : _ = true)); kernel_rfl!) | ((refine (?_ : _ = false)); kernel_rfl!)); k_whole; (try simp only [Bool.not_true, Bool.not_false]))))
  (k_with "m:compareOp Eq ref ref" => (k_here; (with_reducible show wpAny _ _ (compareOp CmpOp.Eq (Value.ref _) (Value.ref _)) _ _ _); k_dflt (refine' two_eq' ?k1z12 ?k2z12 ?k3z12 ?k4z12 ?k5z12 ?k6z12 ?kuz12 ?krz12 ?_; (case k1z12 => first | assumption | exact Fr.tup (by assumption) (by assumption) | exact tup_base (by assumption) (by assumption) (by assumption) | exact News.isTup (by k_asm) (by k_mem)); (case k2z12 => first | assumption | exact Fr.tup (by assumption) (by assumption) | exact tup_base (by assumption) (by assumption) (by assumption) | exact News.isTup (by k_asm) (by k_mem)); (case k3z12 => first | assumption | kernel_rfl!); (case k4z12 => first | assumption | kernel_rfl!); (case k5z12 => first | assumption | kernel_rfl!); (case k6z12 => first | assumption | kernel_rfl!); (case kuz12 => ktr_units); (case krz12 => first | exact beq2_same | ((refine (?_ : _ = true)); kernel_rfl!) | ((refine (?_ : _ = false)); kernel_rfl!)); k_whole; (try simp only [Bool.not_true, Bool.not_false]))))
  (k_with "m:compareOp In str ref" => (k_here; (with_reducible show wpAny _ _ (compareOp CmpOp.In (Value.str _ _) (Value.ref 36)) _ _ _); k_dflt (refine' in36 ?k1z13 ?k2z13 ?k3z13 ?kuz13 ?krz13 ?_; (case k1z13 => k_asm); (case k2z13 => k_asm); (case k3z13 => first | assumption | kernel_rfl!); (case kuz13 => ktr_units); (case krz13 => first | ((refine (?_ : _ = true)); kernel_rfl!) | ((refine (?_ : _ = false)); kernel_rfl!)); k_whole)))
  (k_with "m:compareOp In str ref" => (k_here; (with_reducible show wpAny _ _ (compareOp CmpOp.In (Value.str _ _) (Value.ref 37)) _ _ _); k_dflt (refine' in37 ?k1z14 ?k2z14 ?k3z14 ?kuz14 ?krz14 ?_; (case k1z14 => k_asm); (case k2z14 => k_asm); (case k3z14 => first | assumption | kernel_rfl!); (case kuz14 => ktr_units); (case krz14 => first | ((refine (?_ : _ = true)); kernel_rfl!) | ((refine (?_ : _ = false)); kernel_rfl!)); k_whole)))
  (k_with "m:compareOp In ref ref" => (k_here; (with_reducible show wpAny _ _ (compareOp CmpOp.In (Value.ref _) (Value.ref _)) _ _ _); k_dflt (refine' in_three ?k1z15 ?k2z15 ?k3z15 ?k4z15 ?k5z15 ?k6z15 ?k7z15 ?kuz15 ?krz15 ?_; (case k1z15 => exact News.isTup (by k_asm) (by k_mem)); (case k2z15 => exact News.isTup (by k_asm) (by k_mem)); (case k3z15 => exact News.isTup (by k_asm) (by k_mem)); (case k4z15 => exact News.isTup (by k_asm) (by k_mem)); (case k5z15 => exact News.isTup (by k_asm) (by k_mem)); (case k6z15 => kernel_rfl!); (case k7z15 => kernel_rfl!); (case kuz15 => ktr_units); (case krz15 => first | ((refine (?_ : _ = true)); kernel_rfl!) | ((refine (?_ : _ = false)); kernel_rfl!)); k_whole)))
  (k_with "m:call ref" => (k_here; (with_reducible show wpAny _ _ (call (Value.ref 58) _ _) _ _ _); k_dflt (refine' c_expect _ ?kBz16 ?kFz16 ?kXz16 ?kNz16 ?kTz16 ?kKz16 ?klz16 ?ksz16 ?kokz16 ?k2z16 ?kdz16 ?kuz16 ?_; (case kBz16 => assumption); (case kFz16 => k_asm); (case kXz16 => k_asm); (case kNz16 => k_asm); (case kTz16 => k_asm); (case kKz16 => exact rfl); (case klz16 => assumption); (case ksz16 => assumption); (case kokz16 => kernel_rfl!); (case k2z16 => assumption); (case kdz16 => ktr_room); (case kuz16 => ktr_units); k_whole; intro h' tk' u9 F' N'; (try k_sweep))))
  (k_with "m:call ref" => (k_here; (with_reducible show wpAny _ _ (call (Value.ref 135) _ _) _ _ _); k_dflt (refine' c_level_of _ ?kBz17 ?kFz17 ?kXz17 ?kNz17 ?kTz17 ?kKz17 ?kvz17 ?kdz17 ?kuz17 ?_; (case kBz17 => assumption); (case kFz17 => k_asm); (case kXz17 => k_asm); (case kNz17 => k_asm); (case kTz17 => k_asm); (case kKz17 => exact rfl); (case kvz17 => assumption); (case kdz17 => ktr_room); (case kuz17 => ktr_units); k_whole; intro h' tk' u9 F' N'; (try k_sweep))))
  (k_with "m:call ref" => (k_here; (with_reducible show wpAny _ _ (call (Value.ref 217) _ _) _ _ _); k_dflt (refine' fv_use ?kCz18 ?kBz18 ?kFz18 ?kXz18 ?kSz18 ?kNz18 ?kTz18 ?kKz18 ?klz18 ?ksz18 ?kPz18 ?kstz18 ?k0z18 ?k1z18 ?kdz18 ?kuz18 ?retz18 ?errz18; (case kCz18 => assumption); (case kBz18 => assumption); (case kFz18 => k_asm); (case kXz18 => k_asm); (case kTz18 => k_asm); (case kKz18 => exact rfl); (case klz18 => assumption); (case ksz18 => assumption); (case kSz18 => assumption); (case kNz18 => first | k_asm | exact news_sub (by k_asm) (by repeat (first | exact sub_id | refine sub_tl ?_))); (case kPz18 => assumption); (case kstz18 => first | assumption | exact fun v e h => stop_f ((by assumption : ∀ v e, _ = some (v, e) → ∃ lt, Lev _ _ lt ∧ _) v e h)); (case k0z18 => omega); (case k1z18 => omega); (case kdz18 => ktr_room); (case kuz18 => ktr_units); (case' retz18 => intro v' e' hr' hd' t' led' h' tk' u1' u2' S' F' N'; (try k_sweep); (try (rename (∀ v e, _ = some (v, e) → ∃ lt, Lev _ _ lt ∧ _) => hst'; obtain ⟨lt', lv', lo'⟩ := hst' _ _ hr')); (try (rename (∀ v e, _ = some (v, e) → _ < e ∧ e ≤ _) => pe'; obtain ⟨pl', pm'⟩ := pe' _ _ hr'))); (case' errz18 => intro kd' hf' e' h' tk' R'))))
  (k_with "m:call ref" => (k_here; (with_reducible show wpAny _ _ (call (Value.ref 224) _ _) _ _ _); k_dflt (refine' bv_use ?kCz40 ?kBz40 ?kFz40 ?kXz40 ?kSz40 ?kNz40 ?kTz40 ?kKz40 ?klz40 ?ksz40 ?kPz40 ?kstz40 ?k0z40 ?k1z40 ?kdz40 ?kuz40 ?retz40 ?errz40; (case kCz40 => assumption); (case kBz40 => assumption); (case kFz40 => k_asm); (case kXz40 => k_asm); (case kTz40 => k_asm); (case kKz40 => exact rfl); (case klz40 => assumption); (case ksz40 => assumption); (case kSz40 => assumption); (case kNz40 => first | k_asm | exact news_sub (by k_asm) (by repeat (first | exact sub_id | refine sub_tl ?_))); (case kPz40 => assumption); (case kstz40 => first | assumption | (rename (∀ v e, _ = some (v, e) → Two _ _ e _ _) => hcl; exact fun v e h => stop_close (hcl v e h)) | (rename (∀ v e, _ = some (v, e) → ∃ lt, Lev _ _ lt ∧ _) => hst'; exact fun v e h => stop_b (hst' v e h))); (case k0z40 => omega); (case k1z40 => omega); (case kdz40 => ktr_room); (case kuz40 => ktr_units); (case' retz40 => intro v' e' hr' hd' t' led' h' tk' u1' u2' S' F' N'; (try k_sweep); (try (rename (∀ v e, _ = some (v, e) → _ < e ∧ e ≤ _) => pe'; obtain ⟨pl', pm'⟩ := pe' _ _ hr')); (try (rename (∀ v e, _ = some (v, e) → -32767 ≤ v ∧ v ≤ 32767) => pb'; obtain ⟨pb1', pb2'⟩ := pb' _ _ hr')); (try (rename (∀ v e, _ = some (v, e) → Two _ _ e _ _) => hcl'; have two' := hcl' _ _ hr'; obtain ⟨z1', z2', ta', ua', ub', hta', htt'⟩ := id two'))); (case' errz40 => intro kd' hf' e' h' tk' R'))))
  trivial
set_option maxHeartbeats 8000000 in
theorem val_use {w : World} {dp un : Nat} {gd : Option (List Code)} {cn : Str} {cs : Scope} {a : Addr} {ccd : Value} {cl : List (Str × Addr)} {outer : List Env} {A₀ : Around} {base h₀ : Heap} {L : Addr} {m : Str → Option Value} {led : List (Addr × Obj)} {s : Shared} {Q E : Value → Shared → Prop} {mean : ExcName → Option Value} {mg mb : Str → Option Value} {l x : Addr} {items : List Value} {k : Int} {u : Tok} {n : Nat} {r : Option (Int × Int)}
    (B : Below A₀ base outer h₀) (F : Fr h₀ L s.heap m) (X : (Mine.K w.params).In h₀) (S : SOK w x led) (N : News h₀ L s.heap led) (T : Top Mine.view (looseW Mine.view []) mean mg mb h₀) (hk : cs.kind = .function)
    (hl : base.IsList l items.toArray) (hsz : items.length < 1000000) (P : Parse (IsTup base) items k n r) (hst : ∀ v e, r = some (v, e) → ∃ lt, Lev (IsTup base) (tokAt items e) lt ∧ (lt = 0 ∨ (n = 0 ∧ lt < 1))) (hd : dp + 300 < recursionLimit) (hu : un + 2200 < cLine)
    (hret : ∀ v e, r = some (v, e) → (n : Int) ≤ 40 → ∀ t led' h' tk' u1 u2, SOK w x led' → Fr h₀ L h' m → News h₀ L h' ((t, tupleObj [.int v u1, .int e u2]) :: led') → Q (.ref t) { s with heap := h', toks := tk' })
    (herr : ∀ kd, Fails 0 n r kd → ∀ e h' tk', RErr kd base h₀ L m (envX cn cs L a ccd cl :: outer) led e h' → E (.ref e) { s with heap := h', toks := tk' }) :
    wpAny (model PySem.Challenge.rw_pq1455_01.row.prog w) (ktrTop dp un gd cn cs L a ccd cl outer) (call (.ref 231) [.ref l, .int k u, .ref x]) Q E s := by
  have IH : BVC w n := bvc_all w n
  revert X; k_fill; intro X
  refine wpAny_call ?_
  k_dflt ktr_enter
  rename_i g' L' h' FG' F' N' B' X' T'
  k_lift B'
  k_steps
  all_goals first
    | exact herr _ (by assumption) _ _ _ (rerr_sub (by assumption) (by repeat (first | exact sub_id | refine sub_tl ?_)))
    | exact hret _ _ (by assumption) (by omega) _ _ _ _ _ _ (by assumption) (by assumption) (by assumption)
end
section
theorem said13 : True := by
  k_with_none
  (k_with "m:subscriptTail" => (k_here; (with_reducible show wpAny _ _ (subscriptTail _ _ (Value.ref _) (Value.int _ _)) _ _ _); (with_unfolding_all refine' item_at ?k1z1 ?k2z1 ?k3z1 ?k4z1 ?k5z1 ?_ ?k6z1; (case k1z1 => is_list); (case k2z1 => omega); (case k3z1 => omega); (case k4z1 => omega); (case k5z1 => first | assumption | exact rfl); (case k6z1 => with_unfolding_all rfl); k_whole)))
  (k_with "m:call builtin:len" => (k_here; (with_reducible show wpAny _ _ (call (Value.builtin "len") [Value.ref _]) _ _ _); k_dflt (refine' len_at ?k1z2 ?k2z2 ?_; (case k1z2 => is_list); (case k2z2 => omega); k_whole)))
  (k_with "m:compareOp Eq str str" => (refine' eq_strC ?krz3 ?_; (case krz3 => first | ((refine (?_ : _ = true)); kernel_rfl!) | ((refine (?_ : _ = false)); kernel_rfl!)); k_whole))
  (k_with "m:compareOp NotEq str str" => (refine' ne_strC ?krz4 ?_; (case krz4 => first | ((refine (?_ : _ = true)); kernel_rfl!) | ((refine (?_ : _ = false)); kernel_rfl!)); k_whole))
  (k_with "m:ite" => (k_closed; first | rewrite [if_neg Bool.false_ne_true] | rewrite [if_pos (rfl : true = true)]))
  (k_with "m:exec Raise some none" => (k_here; (with_reducible show wpAny _ _ (exec (Stmt.Raise (some (Expr.Call (Expr.Name ("BasicError" : Str) _) (_ :: _) [] _)) none _) _) _ _ _); k_dflt (refine' Raise_D ?hhz6 ?_; (case hhz6 => rfl))))
  (k_with "m:call ref" => (k_here; (with_reducible show wpAny _ _ (call (Value.ref 31) _ _) _ _ _); k_dflt (refine' call_clsE ?k1z7 ?k2z7 ?k3z7 ?k4z7 ?_; (case k1z7 => k_asm); (case k2z7 => k_asm); (case k3z7 => k_asm); (case k4z7 => size_fits); k_whole; intro x' t' h' F' N' l1; (try k_sweep); k_enter)))
  (k_with "m:setAttr ref" => (k_here; k_dflt (refine' set_kind ?k1z8 ?k2z8 ?k3z8 ?k4z8 ?_; (case k1z8 => k_asm); (case k2z8 => k_asm); (case k3z8 => k_asm); (case k4z8 => assumption); k_whole; intro dx' D' h' tk' K' ne' F' N'; (try k_sweep))))
  (k_with "m:RaisableD" => (k_dflt (refine' raisable31 ?k1z9 ?k2z9 ?k3z9 ?_; (case k1z9 => k_asm); (case k2z9 => k_asm); (case k3z9 => k_asm); k_whole)))
  (k_with "m:call ref" => (k_here; (with_reducible show wpAny _ _ (call (Value.ref 51) _ _) _ _ _); k_dflt (refine' c_token_at _ ?kBz10 ?kFz10 ?kXz10 ?kNz10 ?kTz10 ?kKz10 ?klz10 ?ksz10 ?k0z10 ?k1z10 ?kvz10 ?kdz10 ?kuz10 ?_; (case kBz10 => assumption); (case kFz10 => k_asm); (case kXz10 => k_asm); (case kNz10 => k_asm); (case kTz10 => k_asm); (case kKz10 => exact rfl); (case klz10 => assumption); (case ksz10 => assumption); (case kvz10 => first | assumption | exact rfl); (case k0z10 => omega); (case k1z10 => omega); (case kdz10 => ktr_room); (case kuz10 => ktr_units); k_whole; intro h' tk' F' N'; (try k_sweep))))
  (k_with "m:compareOp NotEq ref ref" => (k_here; (with_reducible show wpAny _ _ (compareOp CmpOp.NotEq (Value.ref _) (Value.ref _)) _ _ _); k_dflt (refine' two_ne' ?k1z11 ?k2z11 ?k3z11 ?k4z11 ?k5z11 ?k6z11 ?kuz11 ?krz11 ?_; (case k1z11 => first | assumption | exact Fr.tup (by assumption) (by assumption) | exact tup_base (by assumption) (by assumption) (by assumption) | exact News.isTup (by k_asm) (by k_mem)); (case k2z11 => first | assumption | exact Fr.tup (by assumption) (by assumption) | exact tup_base (by assumption) (by assumption) (by assumption) | exact News.isTup (by k_asm) (by k_mem)); (case k3z11 => first | assumption | kernel_rfl!); (case k4z11 => first | assumption | kernel_rfl!); (case k5z11 => first | assumption | kernel_rfl!); (case k6z11 => first | assumption | kernel_rfl!); (case kuz11 => ktr_units); (case krz11 => first | exact beq2_same | ((refine (?_ : _ = true)); kernel_rfl!) | ((refine (?_ : _ = false)); kernel_rfl!)); k_whole; (try simp only [Bool.not_true, Bool.not_false]))))
  (k_with "m:compareOp Eq ref ref" => (k_here; (with_reducible show wpAny _ _ (compareOp CmpOp.Eq (Value.ref _) (Value.ref _)) _ _ _); k_dflt (refine' two_eq' ?k1z12 ?k2z12 ?k3z12 ?k4z12 ?k5z12 ?k6z12 ?kuz12 ?krz12 ?_; (case k1z12 => first | assumption | exact Fr.tup (by assumption) (by assumption) | exact tup_base (by assumption) (by assumption) (by assumption) | exact News.isTup (by k_asm) (by k_mem)); (case k2z12 => first | assumption | exact Fr.tup (by assumption) (by assumption) | exact tup_base (by assumption) (by assumption) (by assumption) | exact News.isTup (by k_asm) (by k_mem)); (case k3z12 => first | assumption | kernel_rfl!); (case k4z12 => first | assumption | kernel_rfl!); (case k5z12 => first | assumption | kernel_rfl!); (case k6z12 => first | assumption | kernel_rfl!); (case kuz12 => ktr_units); (case krz12 => first | exact beq2_same | ((refine (?_ : _ = true)); kernel_rfl!) | ((refine (?_ : _ = false)); kernel_rfl!)); k_whole; (try simp only [Bool.not_true, Bool.not_false]))))
  (k_with "m:compareOp In str ref" => (k_here; (with_reducible show wpAny _ _ (compareOp CmpOp.In (Value.str _ _) (Value.ref 36)) _ _ _); k_dflt (refine' in36 ?k1z13 ?k2z13 ?k3z13 ?kuz13 ?krz13 ?_; (case k1z13 => k_asm); (case k2z13 => k_asm); (case k3z13 => first | assumption | kernel_rfl!); (case kuz13 => ktr_units); (case krz13 => first | ((refine (?_ : _ = true)); kernel_rfl!) | ((refine (?_ : _ = false)); kernel_rfl!)); k_whole)))
  (k_with "m:compareOp In str ref" => (k_here; (with_reducible show wpAny _ _ (compareOp CmpOp.In (Value.str _ _) (Value.ref 37)) _ _ _); k_dflt (refine' in37 ?k1z14 ?k2z14 ?k3z14 ?kuz14 ?krz14 ?_; (case k1z14 => k_asm); (case k2z14 => k_asm); (case k3z14 => first | assumption | kernel_rfl!); (case kuz14 => ktr_units); (case krz14 => first | ((refine (?_ : _ = true)); kernel_rfl!) | ((refine (?_ : _ = false)); kernel_rfl!)); k_whole)))
  (k_with "m:compareOp In ref ref" => (k_here; (with_reducible show wpAny _ _ (compareOp CmpOp.In (Value.ref _) (Value.ref _)) _ _ _); k_dflt (refine' in_three ?k1z15 ?k2z15 ?k3z15 ?k4z15 ?k5z15 ?k6z15 ?k7z15 ?kuz15 ?krz15 ?_; (case k1z15 => exact News.isTup (by k_asm) (by k_mem)); (case k2z15 => exact News.isTup (by k_asm) (by k_mem)); (case k3z15 => exact News.isTup (by k_asm) (by k_mem)); (case k4z15 => exact News.isTup (by k_asm) (by k_mem)); (case k5z15 => exact News.isTup (by k_asm) (by k_mem)); (case k6z15 => kernel_rfl!); (case k7z15 => kernel_rfl!); (case kuz15 => ktr_units); (case krz15 => first | ((refine (?_ : _ = true)); kernel_rfl!) | ((refine (?_ : _ = false)); kernel_rfl!)); k_whole)))
  (k_with "m:call ref" => (k_here; (with_reducible show wpAny _ _ (call (Value.ref 58) _ _) _ _ _); k_dflt (refine' c_expect _ ?kBz16 ?kFz16 ?kXz16 ?kNz16 ?kTz16 ?kKz16 ?klz16 ?ksz16 ?kokz16 ?k2z16 ?kdz16 ?kuz16 ?_; (case kBz16 => assumption); (case kFz16 => k_asm); (case kXz16 => k_asm); (case kNz16 => k_asm); (case kTz16 => k_asm); (case kKz16 => exact rfl); (case klz16 => assumption); (case ksz16 => assumption); (case kokz16 => kernel_rfl!); (case k2z16 => assumption); (case kdz16 => ktr_room); (case kuz16 => ktr_units); k_whole; intro h' tk' u9 F' N'; (try k_sweep))))
  (k_with "m:call ref" => (k_here; (with_reducible show wpAny _ _ (call (Value.ref 135) _ _) _ _ _); k_dflt (refine' c_level_of _ ?kBz17 ?kFz17 ?kXz17 ?kNz17 ?kTz17 ?kKz17 ?kvz17 ?kdz17 ?kuz17 ?_; (case kBz17 => assumption); (case kFz17 => k_asm); (case kXz17 => k_asm); (case kNz17 => k_asm); (case kTz17 => k_asm); (case kKz17 => exact rfl); (case kvz17 => assumption); (case kdz17 => ktr_room); (case kuz17 => ktr_units); k_whole; intro h' tk' u9 F' N'; (try k_sweep))))
  (k_with "m:call ref" => (k_here; (with_reducible show wpAny _ _ (call (Value.ref 217) _ _) _ _ _); k_dflt (refine' fv_use ?kCz18 ?kBz18 ?kFz18 ?kXz18 ?kSz18 ?kNz18 ?kTz18 ?kKz18 ?klz18 ?ksz18 ?kPz18 ?kstz18 ?k0z18 ?k1z18 ?kdz18 ?kuz18 ?retz18 ?errz18; (case kCz18 => assumption); (case kBz18 => assumption); (case kFz18 => k_asm); (case kXz18 => k_asm); (case kTz18 => k_asm); (case kKz18 => exact rfl); (case klz18 => assumption); (case ksz18 => assumption); (case kSz18 => assumption); (case kNz18 => first | k_asm | exact news_sub (by k_asm) (by repeat (first | exact sub_id | refine sub_tl ?_))); (case kPz18 => assumption); (case kstz18 => first | assumption | exact fun v e h => stop_f ((by assumption : ∀ v e, _ = some (v, e) → ∃ lt, Lev _ _ lt ∧ _) v e h)); (case k0z18 => omega); (case k1z18 => omega); (case kdz18 => ktr_room); (case kuz18 => ktr_units); (case' retz18 => intro v' e' hr' hd' t' led' h' tk' u1' u2' S' F' N'; (try k_sweep); (try (rename (∀ v e, _ = some (v, e) → ∃ lt, Lev _ _ lt ∧ _) => hst'; obtain ⟨lt', lv', lo'⟩ := hst' _ _ hr')); (try (rename (∀ v e, _ = some (v, e) → _ < e ∧ e ≤ _) => pe'; obtain ⟨pl', pm'⟩ := pe' _ _ hr'))); (case' errz18 => intro kd' hf' e' h' tk' R'))))
  (k_with "m:call ref" => (k_here; (with_reducible show wpAny _ _ (call (Value.ref 224) _ _) _ _ _); k_dflt (refine' bs_use ?kBz41 ?kFz41 ?kXz41 ?kSz41 ?kNz41 ?kTz41 ?kKz41 ?klz41 ?ksz41 ?p0z41 ?p1z41 ?hvz41 ?htz41 ?q0z41 ?q1z41 ?hRz41 ?kddz41 ?k0z41 ?k1z41 ?kdz41 ?kuz41 ?_; (case kBz41 => assumption); (case kFz41 => k_asm); (case kXz41 => k_asm); (case kTz41 => k_asm); (case kKz41 => exact rfl); (case klz41 => assumption); (case ksz41 => assumption); (case kSz41 => assumption); (case kNz41 => first | k_asm | exact news_sub (by k_asm) (by repeat (first | exact sub_id | refine sub_tl ?_))); (case hvz41 => assumption); (case htz41 => assumption); (case hRz41 => assumption); (case p0z41 => omega); (case p1z41 => omega); (case q0z41 => omega); (case q1z41 => omega); (case kddz41 => omega); (case k0z41 => omega); (case k1z41 => omega); (case kdz41 => ktr_room); (case kuz41 => ktr_units); k_whole; intro t' led' h' tk' u1' u2' S' F' N'; (try k_sweep))))
  trivial
set_option maxHeartbeats 8000000 in
theorem val_sum {w : World} {dp un : Nat} {gd : Option (List Code)} {cn : Str} {cs : Scope} {a : Addr} {ccd : Value} {cl : List (Str × Addr)} {outer : List Env} {A₀ : Around} {base h₀ : Heap} {L : Addr} {m : Str → Option Value} {led : List (Addr × Obj)} {s : Shared} {Q E : Value → Shared → Prop} {mean : ExcName → Option Value} {mg mb : Str → Option Value} {l x : Addr} {items : List Value} {k : Int} {u : Tok} {e V v : Int} {ta : Addr} {ua ub : Tok}
    (B : Below A₀ base outer h₀) (F : Fr h₀ L s.heap m) (X : (Mine.K w.params).In h₀) (S : SOK w x led) (N : News h₀ L s.heap led) (T : Top Mine.view (looseW Mine.view []) mean mg mb h₀) (hk : cs.kind = .function)
    (hl : base.IsList l items.toArray) (hsz : items.length < 1000000) (pk0 : 0 ≤ k) (pk1 : k < (items.length : Int)) (hv : tokAt items k = .ref ta) (ht : IsTup base ta #[.str "number" ua, .int v ub]) (pv0 : -32768 ≤ v) (pv1 : v ≤ 32767) (R : SumP (IsTup base) items (k + 1) v e V) (hd : dp + 300 < recursionLimit) (hu : un + 2200 < cLine)
    (hret : ∀ t led' h' tk' u1 u2, SOK w x led' → Fr h₀ L h' m → News h₀ L h' ((t, tupleObj [.int V u1, .int e u2]) :: led') → Q (.ref t) { s with heap := h', toks := tk' }) :
    wpAny (model PySem.Challenge.rw_pq1455_01.row.prog w) (ktrTop dp un gd cn cs L a ccd cl outer) (call (.ref 231) [.ref l, .int k u, .ref x]) Q E s := by
  revert X; k_fill; intro X
  refine wpAny_call ?_
  k_dflt ktr_enter
  rename_i g' L' h' FG' F' N' B' X' T'
  k_lift B'
  k_steps
  all_goals exact hret _ _ _ _ _ _ (by assumption) (by assumption) (by assumption)
end
theorem said14 : True := by
  k_with_none
  (k_with "m:subscriptTail" => (k_here; (with_reducible show wpAny _ _ (subscriptTail _ _ (Value.ref _) (Value.int _ _)) _ _ _); (with_unfolding_all refine' item_at ?k1z1 ?k2z1 ?k3z1 ?k4z1 ?k5z1 ?_ ?k6z1; (case k1z1 => is_list); (case k2z1 => omega); (case k3z1 => omega); (case k4z1 => omega); (case k5z1 => first | assumption | exact rfl); (case k6z1 => with_unfolding_all rfl); k_whole)))
  (k_with "m:call builtin:len" => (k_here; (with_reducible show wpAny _ _ (call (Value.builtin "len") [Value.ref _]) _ _ _); k_dflt (refine' len_at ?k1z2 ?k2z2 ?_; (case k1z2 => is_list); (case k2z2 => omega); k_whole)))
  (k_with "m:compareOp Eq str str" => (refine' eq_strC ?krz3 ?_; (case krz3 => first | ((refine (?_ : _ = true)); kernel_rfl!) | ((refine (?_ : _ = false)); kernel_rfl!)); k_whole))
  (k_with "m:compareOp NotEq str str" => (refine' ne_strC ?krz4 ?_; (case krz4 => first | ((refine (?_ : _ = true)); kernel_rfl!) | ((refine (?_ : _ = false)); kernel_rfl!)); k_whole))
  (k_with "m:ite" => (k_closed; first | rewrite [if_neg Bool.false_ne_true] | rewrite [if_pos (rfl : true = true)]))
  (k_with "m:exec Raise some none" => (k_here; (with_reducible show wpAny _ _ (exec (Stmt.Raise (some (Expr.Call (Expr.Name ("BasicError" : Str) _) (_ :: _) [] _)) none _) _) _ _ _); k_dflt (refine' Raise_D ?hhz6 ?_; (case hhz6 => rfl))))
  (k_with "m:call ref" => (k_here; (with_reducible show wpAny _ _ (call (Value.ref 31) _ _) _ _ _); k_dflt (refine' call_clsE ?k1z7 ?k2z7 ?k3z7 ?k4z7 ?_; (case k1z7 => k_asm); (case k2z7 => k_asm); (case k3z7 => k_asm); (case k4z7 => size_fits); k_whole; intro x' t' h' F' N' l1; (try k_sweep); k_enter)))
  (k_with "m:setAttr ref" => (k_here; k_dflt (refine' set_kind ?k1z8 ?k2z8 ?k3z8 ?k4z8 ?_; (case k1z8 => k_asm); (case k2z8 => k_asm); (case k3z8 => k_asm); (case k4z8 => assumption); k_whole; intro dx' D' h' tk' K' ne' F' N'; (try k_sweep))))
  (k_with "m:RaisableD" => (k_dflt (refine' raisable31 ?k1z9 ?k2z9 ?k3z9 ?_; (case k1z9 => k_asm); (case k2z9 => k_asm); (case k3z9 => k_asm); k_whole)))
  (k_with "m:call ref" => (k_here; (with_reducible show wpAny _ _ (call (Value.ref 51) _ _) _ _ _); k_dflt (refine' c_token_at _ ?kBz10 ?kFz10 ?kXz10 ?kNz10 ?kTz10 ?kKz10 ?klz10 ?ksz10 ?k0z10 ?k1z10 ?kvz10 ?kdz10 ?kuz10 ?_; (case kBz10 => assumption); (case kFz10 => k_asm); (case kXz10 => k_asm); (case kNz10 => k_asm); (case kTz10 => k_asm); (case kKz10 => exact rfl); (case klz10 => assumption); (case ksz10 => assumption); (case kvz10 => first | assumption | exact rfl); (case k0z10 => omega); (case k1z10 => omega); (case kdz10 => ktr_room); (case kuz10 => ktr_units); k_whole; intro h' tk' F' N'; (try k_sweep))))
  (k_with "m:compareOp NotEq ref ref" => (k_here; (with_reducible show wpAny _ _ (compareOp CmpOp.NotEq (Value.ref _) (Value.ref _)) _ _ _); k_dflt (refine' two_ne' ?k1z11 ?k2z11 ?k3z11 ?k4z11 ?k5z11 ?k6z11 ?kuz11 ?krz11 ?_; (case k1z11 => first | assumption | exact Fr.tup (by assumption) (by assumption) | exact tup_base (by assumption) (by assumption) (by assumption) | exact News.isTup (by k_asm) (by k_mem)); (case k2z11 => first | assumption | exact Fr.tup (by assumption) (by assumption) | exact tup_base (by assumption) (by assumption) (by assumption) | exact News.isTup (by k_asm) (by k_mem)); (case k3z11 => first | assumption | kernel_rfl!); (case k4z11 => first | assumption | kernel_rfl!); (case k5z11 => first | assumption | kernel_rfl!); (case k6z11 => first | assumption | kernel_rfl!); (case kuz11 => ktr_units); (case krz11 => first | exact beq2_same | ((refine (?_ : _ = true)); kernel_rfl!) | ((refine (?_ : _ = false)); kernel_rfl!)); k_whole; (try simp only [Bool.not_true, Bool.not_false]))))
  (k_with "m:compareOp Eq ref ref" => (k_here; (with_reducible show wpAny _ _ (compareOp CmpOp.Eq (Value.ref _) (Value.ref _)) _ _ _); k_dflt (refine' two_eq' ?k1z12 ?k2z12 ?k3z12 ?k4z12 ?k5z12 ?k6z12 ?kuz12 ?krz12 ?_; (case k1z12 => first | assumption | exact Fr.tup (by assumption) (by assumption) | exact tup_base (by assumption) (by assumption) (by assumption) | exact News.isTup (by k_asm) (by k_mem)); (case k2z12 => first | assumption | exact Fr.tup (by assumption) (by assumption) | exact tup_base (by assumption) (by assumption) (by assumption) | exact News.isTup (by k_asm) (by k_mem)); (case k3z12 => first | assumption | kernel_rfl!); (case k4z12 => first | assumption | kernel_rfl!); (case k5z12 => first | assumption | kernel_rfl!); (case k6z12 => first | assumption | kernel_rfl!); (case kuz12 => ktr_units); (case krz12 => first | exact beq2_same | ((refine (?_ : _ = true)); kernel_rfl!) | ((refine (?_ : _ = false)); kernel_rfl!)); k_whole; (try simp only [Bool.not_true, Bool.not_false]))))
  (k_with "m:compareOp In str ref" => (k_here; (with_reducible show wpAny _ _ (compareOp CmpOp.In (Value.str _ _) (Value.ref 36)) _ _ _); k_dflt (refine' in36 ?k1z13 ?k2z13 ?k3z13 ?kuz13 ?krz13 ?_; (case k1z13 => k_asm); (case k2z13 => k_asm); (case k3z13 => first | assumption | kernel_rfl!); (case kuz13 => ktr_units); (case krz13 => first | ((refine (?_ : _ = true)); kernel_rfl!) | ((refine (?_ : _ = false)); kernel_rfl!)); k_whole)))
  (k_with "m:compareOp In str ref" => (k_here; (with_reducible show wpAny _ _ (compareOp CmpOp.In (Value.str _ _) (Value.ref 37)) _ _ _); k_dflt (refine' in37 ?k1z14 ?k2z14 ?k3z14 ?kuz14 ?krz14 ?_; (case k1z14 => k_asm); (case k2z14 => k_asm); (case k3z14 => first | assumption | kernel_rfl!); (case kuz14 => ktr_units); (case krz14 => first | ((refine (?_ : _ = true)); kernel_rfl!) | ((refine (?_ : _ = false)); kernel_rfl!)); k_whole)))
  (k_with "m:compareOp In ref ref" => (k_here; (with_reducible show wpAny _ _ (compareOp CmpOp.In (Value.ref _) (Value.ref _)) _ _ _); k_dflt (refine' in_three ?k1z15 ?k2z15 ?k3z15 ?k4z15 ?k5z15 ?k6z15 ?k7z15 ?kuz15 ?krz15 ?_; (case k1z15 => exact News.isTup (by k_asm) (by k_mem)); (case k2z15 => exact News.isTup (by k_asm) (by k_mem)); (case k3z15 => exact News.isTup (by k_asm) (by k_mem)); (case k4z15 => exact News.isTup (by k_asm) (by k_mem)); (case k5z15 => exact News.isTup (by k_asm) (by k_mem)); (case k6z15 => kernel_rfl!); (case k7z15 => kernel_rfl!); (case kuz15 => ktr_units); (case krz15 => first | ((refine (?_ : _ = true)); kernel_rfl!) | ((refine (?_ : _ = false)); kernel_rfl!)); k_whole)))
  (k_with "m:call ref" => (k_here; (with_reducible show wpAny _ _ (call (Value.ref 58) _ _) _ _ _); k_dflt (refine' c_expect _ ?kBz16 ?kFz16 ?kXz16 ?kNz16 ?kTz16 ?kKz16 ?klz16 ?ksz16 ?kokz16 ?k2z16 ?kdz16 ?kuz16 ?_; (case kBz16 => assumption); (case kFz16 => k_asm); (case kXz16 => k_asm); (case kNz16 => k_asm); (case kTz16 => k_asm); (case kKz16 => exact rfl); (case klz16 => assumption); (case ksz16 => assumption); (case kokz16 => kernel_rfl!); (case k2z16 => assumption); (case kdz16 => ktr_room); (case kuz16 => ktr_units); k_whole; intro h' tk' u9 F' N'; (try k_sweep))))
  (k_with "m:call ref" => (k_here; (with_reducible show wpAny _ _ (call (Value.ref 135) _ _) _ _ _); k_dflt (refine' c_level_of _ ?kBz17 ?kFz17 ?kXz17 ?kNz17 ?kTz17 ?kKz17 ?kvz17 ?kdz17 ?kuz17 ?_; (case kBz17 => assumption); (case kFz17 => k_asm); (case kXz17 => k_asm); (case kNz17 => k_asm); (case kTz17 => k_asm); (case kKz17 => exact rfl); (case kvz17 => assumption); (case kdz17 => ktr_room); (case kuz17 => ktr_units); k_whole; intro h' tk' u9 F' N'; (try k_sweep))))
  (k_with "m:call ref" => (k_here; (with_reducible show wpAny _ _ (call (Value.ref 217) _ _) _ _ _); k_dflt (refine' fv_use ?kCz18 ?kBz18 ?kFz18 ?kXz18 ?kSz18 ?kNz18 ?kTz18 ?kKz18 ?klz18 ?ksz18 ?kPz18 ?kstz18 ?k0z18 ?k1z18 ?kdz18 ?kuz18 ?retz18 ?errz18; (case kCz18 => assumption); (case kBz18 => assumption); (case kFz18 => k_asm); (case kXz18 => k_asm); (case kTz18 => k_asm); (case kKz18 => exact rfl); (case klz18 => assumption); (case ksz18 => assumption); (case kSz18 => assumption); (case kNz18 => first | k_asm | exact news_sub (by k_asm) (by repeat (first | exact sub_id | refine sub_tl ?_))); (case kPz18 => assumption); (case kstz18 => first | assumption | exact fun v e h => stop_f ((by assumption : ∀ v e, _ = some (v, e) → ∃ lt, Lev _ _ lt ∧ _) v e h)); (case k0z18 => omega); (case k1z18 => omega); (case kdz18 => ktr_room); (case kuz18 => ktr_units); (case' retz18 => intro v' e' hr' hd' t' led' h' tk' u1' u2' S' F' N'; (try k_sweep); (try (rename (∀ v e, _ = some (v, e) → ∃ lt, Lev _ _ lt ∧ _) => hst'; obtain ⟨lt', lv', lo'⟩ := hst' _ _ hr')); (try (rename (∀ v e, _ = some (v, e) → _ < e ∧ e ≤ _) => pe'; obtain ⟨pl', pm'⟩ := pe' _ _ hr'))); (case' errz18 => intro kd' hf' e' h' tk' R'))))
  trivial
/-! ### a call whose frame catches, its ground being all that stands -/
def LeaveH (fs : List Addr) (A₀ : Around) (base : Heap) (outer : List Env) (h₀ : Heap) (L : Addr) (m : Str → Option Value) (news : List (Addr × Obj)) (g : Heap) (R : Result → Shared → Prop) (v : Value) (s' : Shared) : Prop :=
  ∃ g' L' m' news', KtsTurn fs g g' ∧ Fr g' L' s'.heap m' ∧ News g' L' s'.heap news' ∧ ∀ h₀', KtsTurn (outer.filterMap (·.frame)) h₀ h₀' → Fr h₀' L s'.heap m → News h₀' L s'.heap (news' ++ news) → Below A₀ base outer h₀' → R (.ok (.ret v)) s'
theorem leaveH {fs : List Addr} {A₀ : Around} {base : Heap} {outer : List Env} {h₀ : Heap} {L : Addr} {m : Str → Option Value} {news : List (Addr × Obj)} {g : Heap} {R : Result → Shared → Prop} {v : Value} {s' : Shared} {g' : Heap} {L' : Addr} {m' : Str → Option Value} {news' : List (Addr × Obj)}
    (F' : Fr g' L' s'.heap m') (N' : News g' L' s'.heap news') (T : KtsTurn fs g g') (k : ∀ h₀', KtsTurn (outer.filterMap (·.frame)) h₀ h₀' → Fr h₀' L s'.heap m → News h₀' L s'.heap (news' ++ news) → Below A₀ base outer h₀' → R (.ok (.ret v)) s') :
    LeaveH fs A₀ base outer h₀ L m news g R v s' := ⟨g', L', m', news', T, F', N', k⟩
theorem mem_env {env : Env} {outer : List Env} {L b : Addr} (hf : env.frame = some L) (hm : b ∈ (env :: outer).filterMap (·.frame)) : b = L ∨ b ∈ outer.filterMap (·.frame) := by
  obtain ⟨env', he, hf'⟩ := List.mem_filterMap.mp hm
  rcases List.mem_cons.mp he with rfl | he
  · rw [hf] at hf'; exact .inl (Option.some.inj hf').symm
  · exact .inr (List.mem_filterMap.mpr ⟨env', he, hf'⟩)
theorem push_env {A₀ A : Around} {base h₀ h : Heap} {outer : List Env} {L : Addr} {m : Str → Option Value} {env : Env} (B : Below A₀ base outer h₀) (F : Fr h₀ L h m) (hA : A.frames = some (env :: outer)) (hf : env.frame = some L) (hke : env.scope.kind = .function) : Below A base (env :: outer) h :=
  ⟨hA, fun b o e => F.keep b o (B.stays b o e), .cons (by rw [hke]; decide) hf F.ns (fresh_of_stays B.stays (kts_self F)) (B.frames.of_keeps fun b o e _ => ⟨o, F.keep b o e, rfl⟩)⟩
section
variable {prog : Program} {w : World} {A₀ A : Around} {s : Shared} {base h₀ : Heap} {outer : List Env} {L : Addr} {m : Str → Option Value} {env : Env} {news : List (Addr × Obj)} {K : Frag} {p : Program} {loose : List Str} {mean : ExcName → Option Value} {mg mb : Str → Option Value}
    {R : Result → Shared → Prop} {name qual : Str} {params : Arguments} {body : List Stmt} {scope : Scope} {dV kV doc pm cdv ct oc : Value} {an od : Option Addr} {osl : Array (Option Value)} {f : Addr} {args : Args} {binds : List (Str × Value)}
theorem code_heard (B : Below A₀ base outer h₀) (F : Fr h₀ L s.heap m) (X₀ : K.In h₀) (N : News h₀ L s.heap news) (T : Top p loose mean mg mb h₀) (XB : K.In base) (TB : Top p loose mean mg mb base)
    (hA : A.frames = some (env :: outer)) (hf : env.frame = some L)
    (ho : K.lookup f = some ⟨oc, od, .func (fnOf name qual params body scope dV kV doc pm an cdv ct), osl⟩) (hcd : codeIn K cdv qual = true) (hroom : A.depth < recursionLimit)
    (hbind : BindsTo s (fnOf name qual params body scope dV kV doc pm an cdv ct) args binds) (hloc : ∀ y ∈ binds, scope.names.lookup y.1 = some .local)
    (h : ∀ g base' L' h₁, (∀ q ∈ news, base'.get? q.1 = some q.2) → Fr g L' h₁ (fun y => binds.reverse.lookup y) → News g L' h₁ [] → Below A base' (env :: outer) g → K.In g → Top p loose mean mg mb g → K.In base' → Top p loose mean mg mb base' →
      wpAny (model prog w) (A.deeper (envOf qual scope L' f cdv)) (execs body (envOf qual scope L' f cdv))
        (fun fl s' => LeaveH ((env :: outer).filterMap (·.frame)) A₀ base outer h₀ L m news g R (match fl with | .ret v => v | _ => .none) s')
        (fun e s' => wpAny (model prog w) (A.deeper (envOf qual scope L' f cdv)) (leaving (envOf qual scope L' f cdv) e) (fun _ s'' => R (.error e) s'') (fun e' s'' => R (.error e') s'') s')
        { s with heap := h₁, toks := s.toks + binds.length })
    (hck : env.scope.kind = .function) (hco : scope.isCoroutine = false) (hgen : scope.isGenerator = false) (hk : scope.kind = .function)
    (hcell : ∀ x ∈ scope.names, x.2 ≠ .cell) : codeAny (model prog w) A (.call (.ref f) args) R s := by
  have X := X₀.keeps F.keep
  refine codeAny_call_def (fd := fnOf name qual params body scope dV kV doc pm an cdv ct) (body := body) (binds := binds) hroom (X _ _ ho) rfl (T.nolimit.keeps F.keep) (codeRec_of X hcd) rfl hbind hcell hloc (fun h₁ hns hk₁ => ?_) hco hgen hk
  have B₁ := push_env B F hA hf hck
  generalize hfs : (env :: outer).filterMap (·.frame) = fs
  have hin : ∀ env' ∈ (env :: outer), ∀ b, env'.frame = some b → b ∈ fs := fun env' he b hb => by rw [← hfs]; exact List.mem_filterMap.mpr ⟨env', he, hb⟩
  have st : base.StaysIn (hideAll s.heap fs) := fun b o q => hideAll_get _ (B₁.stays b o q) fun hm => by
    rw [← hfs] at hm
    rw [(B₁.frames.mem hm).1] at q; cases q
  have sn : ∀ q ∈ news, (hideAll s.heap fs).get? q.1 = some q.2 := fun q hq => hideAll_get _ (N q hq).1 fun hm => by
    rw [← hfs] at hm
    rcases mem_env hf hm with z | z
    · exact (N q hq).2.1 z
    · obtain ⟨_, o, ho', _⟩ := B.frames.mem z
      rw [(N q hq).2.2] at ho'; cases ho'
  have B₂ : Below A (hideAll s.heap fs) (env :: outer) s.heap := ⟨hA, fun b o e => of_hideAll _ e, funFrames_hide B₁.frames hin⟩
  refine wpAny_mono (h s.heap (hideAll s.heap fs) s.heap.objs.size h₁ sn ⟨hns, hk₁, Nat.le_refl _⟩ News.nil B₂ X (T.keeps F.keep) (XB.keeps st) (TB.keeps st)) (fun fl s' hl => ?_) fun _ _ y => y
  rw [hfs] at hl
  obtain ⟨g', L', m', news', T', F', N', k⟩ := hl
  have nL₀ : h₀.get? L = none := kts_self F
  obtain ⟨oL, es, ep, hL, hLd, hLk, hLf⟩ := F.ns
  obtain ⟨sl, hs⟩ := T'.up hL
  have nfs : ∀ b o, h₀.get? b = some o → b ∉ outer.filterMap (·.frame) → b ∉ fs := fun b o e nmem q => by
    rw [← hfs] at q
    rcases mem_env hf q with z | z
    · rw [z, nL₀] at e; cases e
    · exact nmem z
  obtain ⟨T₁, S₁⟩ := kts_turn_at (h := s'.heap) (fs := outer.filterMap (·.frame)) (g := h₀)
    (fun b hb => by
      obtain ⟨_, o, ho', _⟩ := B.frames.mem hb
      exact ⟨o, ho'⟩)
    (fun b o e nmem => F'.keep b o (T'.other b o (F.keep b o e) (nfs b o e nmem)))
    (fun b o e hm => by
      obtain ⟨sl', hs'⟩ := T'.up (F.keep b o e)
      exact ⟨sl', F'.keep _ _ hs'⟩)
  have B₃ : Below A₀ base outer (ktsHeap s'.heap (outer.filterMap (·.frame)) h₀) := ⟨B.stack, fun b o e => T₁.other b o (B.stays b o e) (fun hm => by
    rw [(B.frames.mem hm).1] at e
    cases e), B.frames.of_keeps fun b o e _ => by
    obtain ⟨sl', hs'⟩ := T₁.up e
    exact ⟨_, hs', rfl⟩⟩
  have hsL := F'.keep _ _ hs
  refine k _ T₁ ⟨⟨_, es, ep, hsL, hLd, hLk, hLf⟩, S₁, by rw [T₁.size]; exact F.above⟩ (fun q hq => ?_) B₃
  rcases List.mem_append.mp hq with hq | hq
  · refine ⟨(N' q hq).1, fun z => ?_, T₁.none_ _ ?_⟩
    · have := (N' q hq).2.2; rw [z, hs] at this; cases this
    · cases e : h₀.get? q.1 with
      | none => rfl
      | some o =>
        obtain ⟨sl', hs'⟩ := T'.up (F.keep _ _ e)
        have := (N' q hq).2.2
        rw [hs'] at this; cases this
  · refine ⟨F'.keep _ _ (T'.other _ _ (N q hq).1 fun z => ?_), (N q hq).2.1, T₁.none_ _ (N q hq).2.2⟩
    rw [← hfs] at z
    rcases mem_env hf z with z | z
    · exact (N q hq).2.1 z
    · obtain ⟨_, o, ho', _⟩ := B.frames.mem z
      rw [(N q hq).2.2] at ho'; cases ho'
end
/-- a tuple that the ledger bears -/
def InTup (news : List (Addr × Obj)) (a : Addr) (vs : Array Value) : Prop := ∃ o, (a, o) ∈ news ∧ o.cls = .type "tuple" ∧ ∃ n, o.data = .seq vs n
theorem news_head {h₀ h : Heap} {L : Addr} {p : Addr × Obj} {l : List (Addr × Obj)} (N : News h₀ L h (p :: l)) : News h₀ L h [p] := fun q hq => N q (by rw [List.mem_singleton.mp hq]; exact .head _)
section
theorem said15 : True := by
  (k_with "m:call ref" => (k_here; (with_reducible show wpAny _ _ (call (Value.ref 231) _ _) _ _ _); k_dflt (refine' val_use ?kBz42 ?kFz42 ?kXz42 ?kSz42 ?kNz42 ?kTz42 ?kKz42 ?klz42 ?ksz42 ?kPz42 ?kstz42 ?kdz42 ?kuz42 ?retz42 ?errz42; (case kBz42 => assumption); (case kFz42 => k_asm); (case kXz42 => k_asm); (case kTz42 => k_asm); (case kKz42 => exact rfl); (case klz42 => assumption); (case ksz42 => assumption); (case kNz42 => k_asm); (case kSz42 => exact SOK.fresh (by assumption) (by assumption) ⟨by omega, by omega, by omega, by omega⟩); (case kPz42 => assumption); (case kstz42 => assumption); (case kdz42 => ktr_room); (case kuz42 => ktr_units); (case' retz42 => intro v' e' hr' hd' t' led' h' tk' u1' u2' S' F' N'; (try k_sweep)); (case' errz42 => intro kd' hf' e' h' tk' R'))))
  (k_with "m:call ref" => (k_here; (with_reducible show wpAny _ _ (call (Value.ref 231) _ _) _ _ _); k_dflt (refine' val_sum ?kBz43 ?kFz43 ?kXz43 ?kSz43 ?kNz43 ?kTz43 ?kKz43 ?klz43 ?ksz43 ?p0z43 ?p1z43 ?hvz43 ?htz43 ?q0z43 ?q1z43 ?hRz43 ?kdz43 ?kuz43 ?_; (case kBz43 => assumption); (case kFz43 => k_asm); (case kXz43 => k_asm); (case kTz43 => k_asm); (case kKz43 => exact rfl); (case klz43 => assumption); (case ksz43 => assumption); (case kNz43 => k_asm); (case kSz43 => exact SOK.fresh (by assumption) (by assumption) ⟨by omega, by omega, by omega, by omega⟩); (case hvz43 => assumption); (case htz43 => assumption); (case hRz43 => assumption); (case p0z43 => omega); (case p1z43 => omega); (case q0z43 => omega); (case q1z43 => omega); (case kdz43 => ktr_room); (case kuz43 => ktr_units); k_whole; intro t' led' h' tk' u1' u2' S' F' N'; (try k_sweep))))
  (k_with "m:noteFrame ref" => (k_here; k_dflt (refine' caught_31 ?Rz44 ?Kz44 ?XBz44 ?TBz44 ?T0z44 ?exz44 ?_ ?hkz44 ?hloz44 ?hxz44 ?hdz44; (case Rz44 => assumption); (case Kz44 => assumption); (case XBz44 => assumption); (case TBz44 => assumption); (case T0z44 => exact KtsTurn.refl); (case exz44 => k_is); (case hkz44 => rfl); (case hloz44 => rfl); (case hxz44 => rfl); (case hdz44 => decide); k_whole; intro h' g' tk' oe' vs' dx' D' u' T' F' N' hc' hf' hd' hK' K' X' T'; (try dsimp only); (try k_sweep))))
  (k_with "m:getAttr ref" => (k_here; k_dflt (refine' get_kind (t := 0) ?kFz45 ?kXz45 ?xz45 ?cz45 ?fz45 ?dz45 ?Dz45 ?Kz45 ?hz45 ?_; (case kFz45 => k_asm); (case kXz45 => k_asm); (case xz45 => exact News.get (by k_asm) (.head _)); (case Dz45 => exact News.get (by k_asm) (.tail _ (.head _))); (case cz45 => assumption); (case fz45 => assumption); (case dz45 => assumption); (case Kz45 => assumption); (case hz45 => rfl); k_whole; (try intro tk'))))
  (k_with "m:LeaveH" => (k_here; k_dflt (refine' leaveH ?kFz46 ?kNz46 ?kTz46 ?_; (case kFz46 => k_asm); (case kNz46 => exact news_head (by k_asm)); (case kTz46 => first | assumption | exact KtsTurn.refl); k_whole; intro g' T' F' N' B'; (try dsimp only))))
  trivial
set_option maxHeartbeats 8000000 in
theorem c_heard (w : World) {dp un : Nat} {gd : Option (List Code)} {cn : Str} {cs : Scope} {a : Addr} {ccd : Value} {cl : List (Str × Addr)} {outer : List Env} {A₀ : Around} {base h₀ : Heap} {L : Addr} {m : Str → Option Value} {news : List (Addr × Obj)} {s : Shared} {Q E : Value → Shared → Prop} {mean : ExcName → Option Value} {mg mb : Str → Option Value} {l : Addr} {items : List Value} {c n : Nat} {r : Option (Int × Int)}
    (B : Below A₀ base outer h₀) (F : Fr h₀ L s.heap m) (X : (Mine.K w.params).In h₀) (N : News h₀ L s.heap news) (T : Top Mine.view (looseW Mine.view []) mean mg mb h₀) (hk : cs.kind = .function) (XB : (Mine.K w.params).In base) (TB : Top Mine.view (looseW Mine.view []) mean mg mb base) (hm : (l, W.listOf items.toArray c) ∈ news) (hsz : items.length < 1000000) (P : Parse (InTup news) items 0 n r) (hst : ∀ v e, r = some (v, e) → e = (items.length : Int)) (hd : dp + 320 < recursionLimit) (hu : un + 2400 < cLine)
    (hret : ∀ v e, r = some (v, e) → (n : Int) ≤ 40 → ∀ t h₀' h' tk' u1 u2, KtsTurn (outer.filterMap (·.frame)) h₀ h₀' → Fr h₀' L h' m → News h₀' L h' ((t, tupleObj [.int v u1, .int e u2]) :: news) → Below A₀ base outer h₀' → Q (.ref t) { s with heap := h', toks := tk' })
    (herr : ∀ kd, Fails 0 n r kd → ∀ h₀' h' tk' u, KtsTurn (outer.filterMap (·.frame)) h₀ h₀' → Fr h₀' L h' m → News h₀' L h' news → Below A₀ base outer h₀' → Q (.str kd u) { s with heap := h', toks := tk' }) :
    wpAny (model PySem.Challenge.rw_pq1455_01.row.prog w) (ktrTop dp un gd cn cs L a ccd cl outer) (call (.ref 308) [.ref l]) Q E s := by
  revert X; k_fill; intro X
  refine wpAny_call ?_
  k_dflt (refine' code_heard ?k1 ?k2 ?k3 ?k4 ?k5 ?kXB ?kTB ?kA ?khf ?k6 ?k7 ?k8 ?k9 ?kB ?_ ?c1 ?c2 ?c3 ?c4 ?c5; (case kA => exact rfl); (case khf => exact rfl); (case k1 => k_asm); (case k2 => k_asm); (case k3 => k_asm); (case k4 => k_asm); (case k5 => k_asm); (case kXB => assumption); (case kTB => assumption); (case k6 => k_is); (case k7 => k_is); (case k8 => ktr_room); (case k9 => exact BindsTo.of_eq rfl); (case kB => exact locs rfl); (case c1 => exact hk); (case c2 => exact rfl); (case c3 => exact rfl); (case c4 => exact rfl); (case c5 => decide))
  k_whole
  intro g' b' L' h' sn F' N' B' X' T' XB' TB'
  (try dsimp only)
  (try k_fold)
  have hlb : b'.IsList l items.toArray := ⟨_, sn _ hm, rfl, _, rfl⟩
  have hP : Parse (IsTup b') items 0 n r := P.mono fun a vs ⟨o, ho, hc, hd⟩ => ⟨o, sn _ ho, hc, hd⟩
  have hlev : ∀ v e, r = some (v, e) → ∃ lt, Lev (IsTup b') (tokAt items e) lt ∧ (lt = 0 ∨ (n = 0 ∧ lt < 1)) := fun v e h => ⟨0, by rw [hst v e h, tokAt, if_neg (by omega)]; exact .fin, .inl rfl⟩
  k_lift B'
  k_steps
  all_goals first
    | exact hret _ _ (by assumption) (by omega) _ _ _ _ _ _ (by assumption) (by assumption) (by assumption) (by assumption)
    | exact herr _ (by assumption) _ _ _ _ (by assumption) (by assumption) (news_sub (by assumption) (sub_tl sub_id)) (by assumption)
set_option maxHeartbeats 8000000 in
theorem c_heard_sum (w : World) {dp un : Nat} {gd : Option (List Code)} {cn : Str} {cs : Scope} {a : Addr} {ccd : Value} {cl : List (Str × Addr)} {outer : List Env} {A₀ : Around} {base h₀ : Heap} {L : Addr} {m : Str → Option Value} {news : List (Addr × Obj)} {s : Shared} {Q E : Value → Shared → Prop} {mean : ExcName → Option Value} {mg mb : Str → Option Value} {l : Addr} {items : List Value} {c : Nat} {e V v : Int} {ta : Addr} {ua ub : Tok}
    (B : Below A₀ base outer h₀) (F : Fr h₀ L s.heap m) (X : (Mine.K w.params).In h₀) (N : News h₀ L s.heap news) (T : Top Mine.view (looseW Mine.view []) mean mg mb h₀) (hk : cs.kind = .function) (XB : (Mine.K w.params).In base) (TB : Top Mine.view (looseW Mine.view []) mean mg mb base) (hm : (l, W.listOf items.toArray c) ∈ news) (hsz : items.length < 1000000) (pk1 : 0 < (items.length : Int)) (hv : tokAt items 0 = .ref ta) (ht : InTup news ta #[.str "number" ua, .int v ub]) (pv0 : -32768 ≤ v) (pv1 : v ≤ 32767) (R : SumP (InTup news) items (0 + 1) v e V) (hd : dp + 320 < recursionLimit) (hu : un + 2400 < cLine)
    (hret : ∀ t h₀' h' tk' u1 u2, KtsTurn (outer.filterMap (·.frame)) h₀ h₀' → Fr h₀' L h' m → News h₀' L h' ((t, tupleObj [.int V u1, .int e u2]) :: news) → Below A₀ base outer h₀' → Q (.ref t) { s with heap := h', toks := tk' }) :
    wpAny (model PySem.Challenge.rw_pq1455_01.row.prog w) (ktrTop dp un gd cn cs L a ccd cl outer) (call (.ref 308) [.ref l]) Q E s := by
  revert X; k_fill; intro X
  refine wpAny_call ?_
  k_dflt (refine' code_heard ?k1 ?k2 ?k3 ?k4 ?k5 ?kXB ?kTB ?kA ?khf ?k6 ?k7 ?k8 ?k9 ?kB ?_ ?c1 ?c2 ?c3 ?c4 ?c5; (case kA => exact rfl); (case khf => exact rfl); (case k1 => k_asm); (case k2 => k_asm); (case k3 => k_asm); (case k4 => k_asm); (case k5 => k_asm); (case kXB => assumption); (case kTB => assumption); (case k6 => k_is); (case k7 => k_is); (case k8 => ktr_room); (case k9 => exact BindsTo.of_eq rfl); (case kB => exact locs rfl); (case c1 => exact hk); (case c2 => exact rfl); (case c3 => exact rfl); (case c4 => exact rfl); (case c5 => decide))
  k_whole
  intro g' b' L' h' sn F' N' B' X' T' XB' TB'
  (try dsimp only)
  (try k_fold)
  have hlb : b'.IsList l items.toArray := ⟨_, sn _ hm, rfl, _, rfl⟩
  have htb : IsTup b' ta #[.str "number" ua, .int v ub] := let ⟨o, ho, hc, hd⟩ := ht; ⟨o, sn _ ho, hc, hd⟩
  have hRb : SumP (IsTup b') items (0 + 1) v e V := R.mono fun a vs ⟨o, ho, hc, hd⟩ => ⟨o, sn _ ho, hc, hd⟩
  k_lift B'
  k_steps
  all_goals exact hret _ _ _ _ _ _ (by assumption) (by assumption) (by assumption) (by assumption)
end
end
end
theorem said16 : True := by
  k_with_none
  (k_with "m:subscriptTail" => (k_here; (with_reducible show wpAny _ _ (subscriptTail _ _ (Value.ref _) (Value.int _ _)) _ _ _); (with_unfolding_all refine' item_at ?k1z1 ?k2z1 ?k3z1 ?k4z1 ?k5z1 ?_ ?k6z1; (case k1z1 => is_list); (case k2z1 => omega); (case k3z1 => omega); (case k4z1 => omega); (case k5z1 => first | assumption | exact rfl); (case k6z1 => with_unfolding_all rfl); k_whole)))
  (k_with "m:call builtin:len" => (k_here; (with_reducible show wpAny _ _ (call (Value.builtin "len") [Value.ref _]) _ _ _); k_dflt (refine' len_at ?k1z2 ?k2z2 ?_; (case k1z2 => is_list); (case k2z2 => omega); k_whole)))
  (k_with "m:compareOp Eq str str" => (refine' eq_strC ?krz3 ?_; (case krz3 => first | ((refine (?_ : _ = true)); kernel_rfl!) | ((refine (?_ : _ = false)); kernel_rfl!)); k_whole))
  (k_with "m:compareOp NotEq str str" => (refine' ne_strC ?krz4 ?_; (case krz4 => first | ((refine (?_ : _ = true)); kernel_rfl!) | ((refine (?_ : _ = false)); kernel_rfl!)); k_whole))
  (k_with "m:ite" => (k_closed; first | rewrite [if_neg Bool.false_ne_true] | rewrite [if_pos (rfl : true = true)]))
  trivial
/-! ### a loop over a list of the ledger whose turns make objects that stay -/
def FlatL (l : List (Addr × Obj)) : Prop := ∀ p ∈ l, p.2.cls ≠ .type "list_iterator"
def GrowEnd (h₀ : Heap) (L : Addr) (J : (Str → Option Value) → List (Addr × Obj) → Prop) (p : Addr × Obj) (s : Shared) (f : Flow) (s₂ : Shared) : Prop :=
  f = .next ∧ ∃ h' tk m' nx, s₂ = { s with heap := h', toks := tk } ∧ Fr h₀ L h' m' ∧ News h₀ L h' (p :: nx) ∧ FlatL nx ∧ J m' nx
theorem GrowEnd.intro {h₀ : Heap} {L : Addr} {J : (Str → Option Value) → List (Addr × Obj) → Prop} {p : Addr × Obj} {s : Shared} {h' : Heap} {tk : Nat} {m' : Str → Option Value} {nx : List (Addr × Obj)}
    (F : Fr h₀ L h' m') (N : News h₀ L h' (p :: nx)) (f : FlatL nx) (j : J m' nx) : GrowEnd h₀ L J p s .next { s with heap := h', toks := tk } := ⟨rfl, h', tk, m', nx, rfl, F, N, f, j⟩
section
variable {prog : Program} {w : World} {A : Around} {E : Value → Shared → Prop} {s : Shared} {env : Env} {h₀ : Heap} {x : Str} {body : List Stmt} {Q : Flow → Shared → Prop}
theorem iter_grow {l : Addr} {vs : List Value} {nn : Nat} {m₀ : Str → Option Value} {news : List (Addr × Obj)} (J : Nat → (Str → Option Value) → List (Addr × Obj) → Prop)
    (hh : A.handled = none) (hl : (l, W.listOf vs.toArray nn) ∈ news) (F : Fr h₀ env.locals s.heap m₀) (N : News h₀ env.locals s.heap news) (hf : FlatL news) (hj : J 0 m₀ news)
    (turn : ∀ i v m₁ news₁ h tk p, vs[i]? = some v → (l, W.listOf vs.toArray nn) ∈ news₁ → FlatL news₁ → J i m₁ news₁ → Fr h₀ env.locals h (fun y => if y = x then some v else m₁ y) → News h₀ env.locals h (p :: news₁) →
      wpAny (model prog w) A (execs body env) (GrowEnd h₀ env.locals (fun m' nx => (l, W.listOf vs.toArray nn) ∈ nx ∧ J (i + 1) m' nx) p { s with heap := h, toks := tk }) E { s with heap := h, toks := tk })
    (done : ∀ m₁ news₁ h tk, FlatL news₁ → J vs.length m₁ news₁ → Fr h₀ env.locals h m₁ → News h₀ env.locals h news₁ → Q .next { s with heap := h, toks := tk }) :
    wpAny (model prog w) A (pyIter (.ref l)) (fun it s₂ => LoopAtV prog w A h₀ env x body Q E it s₂) E s := by
  have hol : s.heap.get? l = some (W.listOf vs.toArray nn) := (N _ hl).1
  have hls : s.heap.IsList l vs.toArray := ⟨_, hol, rfl, nn, rfl⟩
  have hne : l ≠ s.heap.objs.size := Nat.ne_of_lt (Heap.lt_size hol)
  refine wpAny_pyIter_list hls ?_
  have Wk := Walks.list (prog := prog) (w := w) hh s.heap.objs.size l hne vs.toArray
  refine ⟨_, _, _, _, _, _, m₀, news, (fun i m nx => FlatL nx ∧ (l, W.listOf vs.toArray nn) ∈ nx ∧ J i m nx), rfl, Wk, ?_, ?_, ?_, ⟨⟨_, Heap.get?_push_size _ rfl, rfl, rfl⟩, hls.at fun o e => Heap.get?_push_of_some _ e⟩, F.push _, (fun p hp => ⟨Heap.get?_push_of_some _ (N p hp).1, (N p hp).2⟩), ⟨hf, hl, hj⟩, ?_, ?_⟩
  · intro hm
    rcases List.mem_cons.mp hm with e | hm
    · exact absurd F.ns.lt (e ▸ Nat.lt_irrefl _)
    · exact (N _ hl).2.1 ((List.mem_singleton.mp hm).symm)
  · intro b hb
    rw [List.mem_singleton.mp hb]
    exact next_is_new F
  · intro p hp hI
    exact absurd (Heap.lt_size (N p hp).1) ((List.mem_singleton.mp hI) ▸ Nat.lt_irrefl _)
  · rintro i v m₁ news₁ s₁ own ⟨hh', tk', rfl⟩ hin hP ⟨hfl, hl₁, hJ⟩ hoff hown hget hfp hSt F₁ N₁
    obtain ⟨⟨oI, hoI, hcI, _⟩, _⟩ := hSt
    have hI0 : h₀.get? s.heap.objs.size = none := next_is_new F
    have hmem : (s.heap.objs.size, oI) ∈ own := hfp _ (.head _) hI0 _ hoI
    have hlo : hh'.get? l = some (W.listOf vs.toArray nn) := (N₁ _ (List.mem_append.mpr (.inr hl₁))).1
    have N₂ : News h₀ env.locals hh' ((s.heap.objs.size, oI) :: news₁) := fun p hp => N₁ p ((List.mem_cons.mp hp).elim (fun e => by rw [e]; exact List.mem_append_left _ hmem) fun h => List.mem_append_right _ h)
    have hv : vs[i]? = some v := by simpa using hP
    refine wpAny_mono (turn i v m₁ news₁ hh' tk' _ hv hl₁ hfl hJ F₁ N₂) (fun f s₂ q => ?_) fun _ _ e => e
    obtain ⟨rfl, h', tk, m', nx, e, F', N', hf', hm'⟩ := q
    refine LoopStepV.next ⟨rfl, h', tk, m', nx, e, F', fun p hp => ?_, fun p hp hI => ?_, hf', hm'.1, hm'.2⟩
    · rcases List.mem_append.mp hp with h | h
      · have h2 : hh'.get? p.1 = some p.2 := hget p h
        rcases List.mem_cons.mp (hown p h) with h3 | h3
        · rw [h3, hoI] at h2
          have : p = (s.heap.objs.size, oI) := Prod.ext h3 (Option.some.inj h2).symm
          rw [this]; exact N' _ (.head _)
        · rw [List.mem_singleton.mp h3, hlo] at h2
          have : p = (l, W.listOf vs.toArray nn) := Prod.ext (List.mem_singleton.mp h3) (Option.some.inj h2).symm
          rw [this]; exact N' _ (.tail _ hm'.1)
      · exact N' p (.tail _ h)
    · have h1 := (N' p (.tail _ hp)).1
      rw [List.mem_singleton.mp hI, (N' _ (.head _)).1] at h1
      have h3 := hf' p hp
      rw [← Option.some.inj h1] at h3
      exact h3 hcI
  · rintro h' tk m' news' F' N' _ ⟨hfl, _, hJ⟩
    exact done m' news' h' tk hfl (by simpa using hJ) F' N'
end
/-- a list of ints, whatever they are -/
def Ints (vs : List Value) : Prop := ∀ v ∈ vs, ∃ n t, v = .int n t
theorem pop0 {prog : Program} {w : World} {A : Around} {E : Value → Shared → Prop} {s : Shared} {h₀ : Heap} {L D : Addr} {m : Str → Option Value} {rest : List (Addr × Obj)} {n : Nat} {vs : List Value} {y : Value} {u : Tok} {Q : Value → Shared → Prop}
    (F : Fr h₀ L s.heap m) (N : News h₀ L s.heap ((D, W.listOf (y :: vs).toArray n) :: rest)) (hne : ∀ p ∈ rest, p.1 ≠ D) (hz : vs.length < 1000)
    (h : ∀ h', Fr h₀ L h' m → News h₀ L h' ((D, W.listOf vs.toArray (n + 1)) :: rest) → Q y { s with heap := h' }) : wpAny (model prog w) A (call (.builtin "list.pop") [.ref D, .int 0 u]) Q E s := by
  refine kl_popAt (k := 0) (p := []) (q := vs) (y := y) F N (by decide) ?_ rfl (Upd.head hne) ?_ h
  · simp [seqIndex?]
  · rw [sizeLine_eq]; simp; omega
section
theorem said17 : True := by
  (k_with "m:call builtin:list.pop" => (k_here; (with_reducible show wpAny _ _ (call (Value.builtin _) [Value.ref _, Value.int _ _]) _ _ _); k_dflt (refine' pop0 ?Fz47 ?Nz47 ?nez47 ?zz47 ?_; (case Fz47 => k_asm); (case Nz47 => k_asm); (case nez47 => assumption); (case zz47 => assumption); k_whole; intro h' F' N'; (try k_sweep))))
  trivial
set_option maxHeartbeats 8000000 in
theorem c_next (w : World) {dp un : Nat} {gd : Option (List Code)} {cn : Str} {cs : Scope} {a : Addr} {ccd : Value} {cl : List (Str × Addr)} {outer : List Env} {A₀ : Around} {base h₀ : Heap} {L : Addr} {m : Str → Option Value} {news : List (Addr × Obj)} {s : Shared} {Q E : Value → Shared → Prop} {mean : ExcName → Option Value} {mg mb : Str → Option Value} {l : Addr} {vs : List Value} {c : Nat}
    (B : Below A₀ base outer h₀) (F : Fr h₀ L s.heap m) (X : (Mine.K w.params).In h₀) (N : News h₀ L s.heap ((l, W.listOf vs.toArray c) :: news)) (T : Top Mine.view (looseW Mine.view []) mean mg mb h₀) (hk : cs.kind = .function)
    (hi : Ints vs) (hz : vs.length < 1000) (hne : ∀ p ∈ news, p.1 ≠ l) (hd : dp + 8 < recursionLimit) (hu : un + 64 < cLine)
    (hret : ∀ h' tk' n u vs' c', Ints vs' → vs'.length < 1000 → Fr h₀ L h' m → News h₀ L h' ((l, W.listOf vs'.toArray c') :: news) → Q (.int n u) { s with heap := h', toks := tk' }) :
    wpAny (model PySem.Challenge.rw_pq1455_01.row.prog w) (ktrTop dp un gd cn cs L a ccd cl outer) (call (.ref 301) [.ref l]) Q E s := by
  cases vs with
  | nil =>
    revert X; k_fill; intro X
    refine wpAny_call ?_
    k_dflt ktr_enter
    rename_i g' L' h' FG' F' N' B' X' T'
    k_lift B'
    k_steps
    all_goals exact hret _ _ _ _ [] _ (fun _ h => by cases h) (by decide) (by assumption) (by assumption)
  | cons y vs =>
    obtain ⟨n, t, rfl⟩ := hi y (.head _)
    have hi2 : Ints vs := fun v h => hi v (.tail _ h)
    have hz2 : vs.length < 1000 := by simp at hz; omega
    revert X; k_fill; intro X
    refine wpAny_call ?_
    k_dflt ktr_enter
    rename_i g' L' h' FG' F' N' B' X' T'
    k_lift B'
    k_steps
    all_goals first | exact hret _ _ _ _ _ _ hi2 hz2 (by assumption) (by assumption) | exact hret _ _ _ _ _ _ hi hz (by assumption) (by assumption)
end
theorem said18 : True := by
  k_with_none
  (k_with "m:subscriptTail" => (k_here; (with_reducible show wpAny _ _ (subscriptTail _ _ (Value.ref _) (Value.int _ _)) _ _ _); (with_unfolding_all refine' item_at ?k1z1 ?k2z1 ?k3z1 ?k4z1 ?k5z1 ?_ ?k6z1; (case k1z1 => is_list); (case k2z1 => omega); (case k3z1 => omega); (case k4z1 => omega); (case k5z1 => first | assumption | exact rfl); (case k6z1 => with_unfolding_all rfl); k_whole)))
  (k_with "m:call builtin:len" => (k_here; (with_reducible show wpAny _ _ (call (Value.builtin "len") [Value.ref _]) _ _ _); k_dflt (refine' len_at ?k1z2 ?k2z2 ?_; (case k1z2 => is_list); (case k2z2 => omega); k_whole)))
  (k_with "m:compareOp Eq str str" => (refine' eq_strC ?krz3 ?_; (case krz3 => first | ((refine (?_ : _ = true)); kernel_rfl!) | ((refine (?_ : _ = false)); kernel_rfl!)); k_whole))
  (k_with "m:compareOp NotEq str str" => (refine' ne_strC ?krz4 ?_; (case krz4 => first | ((refine (?_ : _ = true)); kernel_rfl!) | ((refine (?_ : _ = false)); kernel_rfl!)); k_whole))
  (k_with "m:ite" => (k_closed; first | rewrite [if_neg Bool.false_ne_true] | rewrite [if_pos (rfl : true = true)]))
  trivial
/-- what a layer puts ahead and behind -/
inductive LayerOf (led : List (Addr × Obj)) : Int → List Value → List Value → Prop
  | neg {a : Addr} {u1 u2 : Tok} : InTup led a #[.str "sign" u1, .str "-" u2] → LayerOf led 0 [.ref a] []
  | inv {a : Addr} {u1 u2 : Tok} : InTup led a #[.str "word" u1, .str "NOT" u2] → LayerOf led 1 [.ref a] []
  | pos {a : Addr} {u1 u2 : Tok} : InTup led a #[.str "sign" u1, .str "+" u2] → LayerOf led 2 [.ref a] []
  | par {a b : Addr} {u1 u2 u3 u4 : Tok} : InTup led a #[.str "sign" u1, .str "(" u2] → InTup led b #[.str "sign" u3, .str ")" u4] → LayerOf led 3 [.ref a] [.ref b]
  | abs {a a' b : Addr} {u1 u2 u3 u4 u5 u6 : Tok} : InTup led a #[.str "word" u1, .str "ABS" u2] → InTup led a' #[.str "sign" u5, .str "(" u6] → InTup led b #[.str "sign" u3, .str ")" u4] → LayerOf led 4 [.ref a, .ref a'] [.ref b]
  | sgn {a a' b : Addr} {u1 u2 u3 u4 u5 u6 : Tok} : InTup led a #[.str "word" u1, .str "SGN" u2] → InTup led a' #[.str "sign" u5, .str "(" u6] → InTup led b #[.str "sign" u3, .str ")" u4] → LayerOf led 5 [.ref a, .ref a'] [.ref b]
def worth (kd v : Int) : Int := if kd = 0 then 0 - v else if kd = 1 then 0 - 1 - v else if kd = 4 then (if v < 0 then -v else v) else if kd = 5 then PyProof.Rows.b2i (decide (0 < v)) - PyProof.Rows.b2i (decide (v < 0)) else v
theorem in_tup {led : List (Addr × Obj)} {a : Addr} {vs : List Value} (h : (a, tupleObj vs) ∈ led) : InTup led a vs.toArray := ⟨_, h, rfl, _, rfl⟩
theorem flat_nil : FlatL [] := fun _ h => by cases h
theorem flat_tup {a : Addr} {vs : List Value} {l : List (Addr × Obj)} (h : FlatL l) : FlatL ((a, tupleObj vs) :: l) := fun p hp => (List.mem_cons.mp hp).elim (fun e => by rw [e]; intro q; exact absurd (Value.type.inj q) (by decide)) (h p)
theorem flat_lst {a : Addr} {vs : Array Value} {n : Nat} {l : List (Addr × Obj)} (h : FlatL l) : FlatL ((a, W.listOf vs n) :: l) := fun p hp => (List.mem_cons.mp hp).elim (fun e => by rw [e]; intro q; exact absurd (Value.type.inj q) (by decide)) (h p)
theorem flat_app {l l' : List (Addr × Obj)} (h : FlatL l) (h' : FlatL l') : FlatL (l ++ l') := fun p hp => (List.mem_append.mp hp).elim (h p) (h' p)
theorem pick6 {prog : Program} {w : World} {A : Around} {E : Value → Shared → Prop} {s : Shared} {value slice : PySem.Expr} {l : Addr} {r0 r1 r2 r3 r4 r5 : Value} {k : Int} {u : Tok} {Q : Value → Shared → Prop}
    (hl : s.heap.IsList l #[r0, r1, r2, r3, r4, r5]) (k0 : 0 ≤ k) (k5 : k ≤ 5) (h0 : k = 0 → Q r0 s) (h1 : k = 1 → Q r1 s) (h2 : k = 2 → Q r2 s) (h3 : k = 3 → Q r3 s) (h4 : k = 4 → Q r4 s) (h5 : k = 5 → Q r5 s)
    (hs : subscripted slice false (.ref l) (.int k u) = operate [.ref l, .int k u] (getItem (.ref l) (.int k u)) := by with_unfolding_all rfl) :
    wpAny (model prog w) A (subscriptTail value slice (.ref l) (.int k u)) Q E s := by
  have hk6 : k = 0 ∨ k = 1 ∨ k = 2 ∨ k = 3 ∨ k = 4 ∨ k = 5 := by omega
  rcases hk6 with e | e | e | e | e | e
  · refine tail_any hl.typeIs slot_list_getitem.lookup (wpAny_getItem_list hl k0 (by omega) (x := r0) ?_ (h0 e)) hs; subst e; rfl
  · refine tail_any hl.typeIs slot_list_getitem.lookup (wpAny_getItem_list hl k0 (by omega) (x := r1) ?_ (h1 e)) hs; subst e; rfl
  · refine tail_any hl.typeIs slot_list_getitem.lookup (wpAny_getItem_list hl k0 (by omega) (x := r2) ?_ (h2 e)) hs; subst e; rfl
  · refine tail_any hl.typeIs slot_list_getitem.lookup (wpAny_getItem_list hl k0 (by omega) (x := r3) ?_ (h3 e)) hs; subst e; rfl
  · refine tail_any hl.typeIs slot_list_getitem.lookup (wpAny_getItem_list hl k0 (by omega) (x := r4) ?_ (h4 e)) hs; subst e; rfl
  · refine tail_any hl.typeIs slot_list_getitem.lookup (wpAny_getItem_list hl k0 (by omega) (x := r5) ?_ (h5 e)) hs; subst e; rfl
theorem lay_fin0 {h₀ h' : Heap} {L : Addr} {m : Str → Option Value} {news : List (Addr × Obj)} {s : Shared} {Q : Value → Shared → Prop} {t pa pb a : Addr} {c1 c2 tk' : Nat} {v3 v4 : Tok} {q2 q3 q4 q5 q6 q7 q8 q9 q10 q11 q12 q13 q14 : Addr × Obj}
    (hret : ∀ t pa pb pre post c1 c2 tks h' tk', LayerOf tks 0 pre post → FlatL tks → Fr h₀ L h' m → News h₀ L h' ((t, tupleObj [.ref pa, .ref pb]) :: (pa, W.listOf pre.toArray c1) :: (pb, W.listOf post.toArray c2) :: (tks ++ news)) → Q (.ref t) { s with heap := h', toks := tk' }) (F : Fr h₀ L h' m) (N : News h₀ L h' ((t, tupleObj [.ref pa, .ref pb]) :: (pb, W.listOf ([] : List Value).toArray c2) :: q2 :: q3 :: q4 :: q5 :: q6 :: q7 :: q8 :: q9 :: q10 :: q11 :: q12 :: q13 :: q14 :: (pa, W.listOf ([.ref a] : List Value).toArray c1) :: (a, tupleObj [.str "sign" v3, .str "-" v4]) :: news)) : Q (.ref t) { s with heap := h', toks := tk' } :=
  hret t pa pb [.ref a] [] c1 c2 [(a, tupleObj [.str "sign" v3, .str "-" v4])] h' tk' (.neg (in_tup (.head _))) (flat_tup (flat_nil)) F (news_sub N (List.forall_mem_cons.mpr ⟨.head _, List.forall_mem_cons.mpr ⟨.tail _ (.tail _ (.tail _ (.tail _ (.tail _ (.tail _ (.tail _ (.tail _ (.tail _ (.tail _ (.tail _ (.tail _ (.tail _ (.tail _ (.tail _ (.head _))))))))))))))), List.forall_mem_cons.mpr ⟨.tail _ (.head _), List.forall_mem_cons.mpr ⟨.tail _ (.tail _ (.tail _ (.tail _ (.tail _ (.tail _ (.tail _ (.tail _ (.tail _ (.tail _ (.tail _ (.tail _ (.tail _ (.tail _ (.tail _ (.tail _ (.head _)))))))))))))))), fun p hp => .tail _ (.tail _ (.tail _ (.tail _ (.tail _ (.tail _ (.tail _ (.tail _ (.tail _ (.tail _ (.tail _ (.tail _ (.tail _ (.tail _ (.tail _ (.tail _ (.tail _ (hp)))))))))))))))))⟩⟩⟩⟩))
theorem lay_fin1 {h₀ h' : Heap} {L : Addr} {m : Str → Option Value} {news : List (Addr × Obj)} {s : Shared} {Q : Value → Shared → Prop} {t pa pb a : Addr} {c1 c2 tk' : Nat} {v3 v4 : Tok} {q2 q3 q4 q5 q6 q7 q8 q9 q10 q11 q12 q15 q16 : Addr × Obj}
    (hret : ∀ t pa pb pre post c1 c2 tks h' tk', LayerOf tks 1 pre post → FlatL tks → Fr h₀ L h' m → News h₀ L h' ((t, tupleObj [.ref pa, .ref pb]) :: (pa, W.listOf pre.toArray c1) :: (pb, W.listOf post.toArray c2) :: (tks ++ news)) → Q (.ref t) { s with heap := h', toks := tk' }) (F : Fr h₀ L h' m) (N : News h₀ L h' ((t, tupleObj [.ref pa, .ref pb]) :: (pb, W.listOf ([] : List Value).toArray c2) :: q2 :: q3 :: q4 :: q5 :: q6 :: q7 :: q8 :: q9 :: q10 :: q11 :: q12 :: (pa, W.listOf ([.ref a] : List Value).toArray c1) :: (a, tupleObj [.str "word" v3, .str "NOT" v4]) :: q15 :: q16 :: news)) : Q (.ref t) { s with heap := h', toks := tk' } :=
  hret t pa pb [.ref a] [] c1 c2 [(a, tupleObj [.str "word" v3, .str "NOT" v4])] h' tk' (.inv (in_tup (.head _))) (flat_tup (flat_nil)) F (news_sub N (List.forall_mem_cons.mpr ⟨.head _, List.forall_mem_cons.mpr ⟨.tail _ (.tail _ (.tail _ (.tail _ (.tail _ (.tail _ (.tail _ (.tail _ (.tail _ (.tail _ (.tail _ (.tail _ (.tail _ (.head _))))))))))))), List.forall_mem_cons.mpr ⟨.tail _ (.head _), List.forall_mem_cons.mpr ⟨.tail _ (.tail _ (.tail _ (.tail _ (.tail _ (.tail _ (.tail _ (.tail _ (.tail _ (.tail _ (.tail _ (.tail _ (.tail _ (.tail _ (.head _)))))))))))))), fun p hp => .tail _ (.tail _ (.tail _ (.tail _ (.tail _ (.tail _ (.tail _ (.tail _ (.tail _ (.tail _ (.tail _ (.tail _ (.tail _ (.tail _ (.tail _ (.tail _ (.tail _ (hp)))))))))))))))))⟩⟩⟩⟩))
theorem lay_fin2 {h₀ h' : Heap} {L : Addr} {m : Str → Option Value} {news : List (Addr × Obj)} {s : Shared} {Q : Value → Shared → Prop} {t pa pb a : Addr} {c1 c2 tk' : Nat} {v3 v4 : Tok} {q2 q3 q4 q5 q6 q7 q8 q9 q10 q13 q14 q15 q16 : Addr × Obj}
    (hret : ∀ t pa pb pre post c1 c2 tks h' tk', LayerOf tks 2 pre post → FlatL tks → Fr h₀ L h' m → News h₀ L h' ((t, tupleObj [.ref pa, .ref pb]) :: (pa, W.listOf pre.toArray c1) :: (pb, W.listOf post.toArray c2) :: (tks ++ news)) → Q (.ref t) { s with heap := h', toks := tk' }) (F : Fr h₀ L h' m) (N : News h₀ L h' ((t, tupleObj [.ref pa, .ref pb]) :: (pb, W.listOf ([] : List Value).toArray c2) :: q2 :: q3 :: q4 :: q5 :: q6 :: q7 :: q8 :: q9 :: q10 :: (pa, W.listOf ([.ref a] : List Value).toArray c1) :: (a, tupleObj [.str "sign" v3, .str "+" v4]) :: q13 :: q14 :: q15 :: q16 :: news)) : Q (.ref t) { s with heap := h', toks := tk' } :=
  hret t pa pb [.ref a] [] c1 c2 [(a, tupleObj [.str "sign" v3, .str "+" v4])] h' tk' (.pos (in_tup (.head _))) (flat_tup (flat_nil)) F (news_sub N (List.forall_mem_cons.mpr ⟨.head _, List.forall_mem_cons.mpr ⟨.tail _ (.tail _ (.tail _ (.tail _ (.tail _ (.tail _ (.tail _ (.tail _ (.tail _ (.tail _ (.tail _ (.head _))))))))))), List.forall_mem_cons.mpr ⟨.tail _ (.head _), List.forall_mem_cons.mpr ⟨.tail _ (.tail _ (.tail _ (.tail _ (.tail _ (.tail _ (.tail _ (.tail _ (.tail _ (.tail _ (.tail _ (.tail _ (.head _)))))))))))), fun p hp => .tail _ (.tail _ (.tail _ (.tail _ (.tail _ (.tail _ (.tail _ (.tail _ (.tail _ (.tail _ (.tail _ (.tail _ (.tail _ (.tail _ (.tail _ (.tail _ (.tail _ (hp)))))))))))))))))⟩⟩⟩⟩))
theorem lay_fin3 {h₀ h' : Heap} {L : Addr} {m : Str → Option Value} {news : List (Addr × Obj)} {s : Shared} {Q : Value → Shared → Prop} {t pa pb a b : Addr} {c1 c2 tk' : Nat} {v1 v2 v3 v4 : Tok} {q3 q4 q5 q6 q7 q8 q9 q12 q13 q14 q15 q16 q17 : Addr × Obj}
    (hret : ∀ t pa pb pre post c1 c2 tks h' tk', LayerOf tks 3 pre post → FlatL tks → Fr h₀ L h' m → News h₀ L h' ((t, tupleObj [.ref pa, .ref pb]) :: (pa, W.listOf pre.toArray c1) :: (pb, W.listOf post.toArray c2) :: (tks ++ news)) → Q (.ref t) { s with heap := h', toks := tk' }) (F : Fr h₀ L h' m) (N : News h₀ L h' ((t, tupleObj [.ref pa, .ref pb]) :: (pb, W.listOf ([.ref b] : List Value).toArray c2) :: (b, tupleObj [.str "sign" v1, .str ")" v2]) :: q3 :: q4 :: q5 :: q6 :: q7 :: q8 :: q9 :: (pa, W.listOf ([.ref a] : List Value).toArray c1) :: (a, tupleObj [.str "sign" v3, .str "(" v4]) :: q12 :: q13 :: q14 :: q15 :: q16 :: q17 :: news)) : Q (.ref t) { s with heap := h', toks := tk' } :=
  hret t pa pb [.ref a] [.ref b] c1 c2 [(a, tupleObj [.str "sign" v3, .str "(" v4]), (b, tupleObj [.str "sign" v1, .str ")" v2])] h' tk' (.par (in_tup (.head _)) (in_tup (.tail _ (.head _)))) (flat_tup (flat_tup (flat_nil))) F (news_sub N (List.forall_mem_cons.mpr ⟨.head _, List.forall_mem_cons.mpr ⟨.tail _ (.tail _ (.tail _ (.tail _ (.tail _ (.tail _ (.tail _ (.tail _ (.tail _ (.tail _ (.head _)))))))))), List.forall_mem_cons.mpr ⟨.tail _ (.head _), List.forall_mem_cons.mpr ⟨.tail _ (.tail _ (.tail _ (.tail _ (.tail _ (.tail _ (.tail _ (.tail _ (.tail _ (.tail _ (.tail _ (.head _))))))))))), List.forall_mem_cons.mpr ⟨.tail _ (.tail _ (.head _)), fun p hp => .tail _ (.tail _ (.tail _ (.tail _ (.tail _ (.tail _ (.tail _ (.tail _ (.tail _ (.tail _ (.tail _ (.tail _ (.tail _ (.tail _ (.tail _ (.tail _ (.tail _ (.tail _ (hp))))))))))))))))))⟩⟩⟩⟩⟩))
theorem lay_fin4 {h₀ h' : Heap} {L : Addr} {m : Str → Option Value} {news : List (Addr × Obj)} {s : Shared} {Q : Value → Shared → Prop} {t pa pb a a' b : Addr} {c1 c2 tk' : Nat} {v1 v2 v3 v4 v5 v6 : Tok} {q3 q4 q5 q9 q10 q11 q12 q13 q14 q15 q16 q17 : Addr × Obj}
    (hret : ∀ t pa pb pre post c1 c2 tks h' tk', LayerOf tks 4 pre post → FlatL tks → Fr h₀ L h' m → News h₀ L h' ((t, tupleObj [.ref pa, .ref pb]) :: (pa, W.listOf pre.toArray c1) :: (pb, W.listOf post.toArray c2) :: (tks ++ news)) → Q (.ref t) { s with heap := h', toks := tk' }) (F : Fr h₀ L h' m) (N : News h₀ L h' ((t, tupleObj [.ref pa, .ref pb]) :: (pb, W.listOf ([.ref b] : List Value).toArray c2) :: (b, tupleObj [.str "sign" v1, .str ")" v2]) :: q3 :: q4 :: q5 :: (pa, W.listOf ([.ref a, .ref a'] : List Value).toArray c1) :: (a', tupleObj [.str "sign" v5, .str "(" v6]) :: (a, tupleObj [.str "word" v3, .str "ABS" v4]) :: q9 :: q10 :: q11 :: q12 :: q13 :: q14 :: q15 :: q16 :: q17 :: news)) : Q (.ref t) { s with heap := h', toks := tk' } :=
  hret t pa pb [.ref a, .ref a'] [.ref b] c1 c2 [(a, tupleObj [.str "word" v3, .str "ABS" v4]), (a', tupleObj [.str "sign" v5, .str "(" v6]), (b, tupleObj [.str "sign" v1, .str ")" v2])] h' tk' (.abs (in_tup (.head _)) (in_tup (.tail _ (.head _))) (in_tup (.tail _ (.tail _ (.head _))))) (flat_tup (flat_tup (flat_tup (flat_nil)))) F (news_sub N (List.forall_mem_cons.mpr ⟨.head _, List.forall_mem_cons.mpr ⟨.tail _ (.tail _ (.tail _ (.tail _ (.tail _ (.tail _ (.head _)))))), List.forall_mem_cons.mpr ⟨.tail _ (.head _), List.forall_mem_cons.mpr ⟨.tail _ (.tail _ (.tail _ (.tail _ (.tail _ (.tail _ (.tail _ (.tail _ (.head _)))))))), List.forall_mem_cons.mpr ⟨.tail _ (.tail _ (.tail _ (.tail _ (.tail _ (.tail _ (.tail _ (.head _))))))), List.forall_mem_cons.mpr ⟨.tail _ (.tail _ (.head _)), fun p hp => .tail _ (.tail _ (.tail _ (.tail _ (.tail _ (.tail _ (.tail _ (.tail _ (.tail _ (.tail _ (.tail _ (.tail _ (.tail _ (.tail _ (.tail _ (.tail _ (.tail _ (.tail _ (hp))))))))))))))))))⟩⟩⟩⟩⟩⟩))
theorem lay_fin5 {h₀ h' : Heap} {L : Addr} {m : Str → Option Value} {news : List (Addr × Obj)} {s : Shared} {Q : Value → Shared → Prop} {t pa pb a a' b : Addr} {c1 c2 tk' : Nat} {v1 v2 v3 v4 v5 v6 : Tok} {q6 q7 q8 q9 q10 q11 q12 q13 q14 q15 q16 q17 : Addr × Obj}
    (hret : ∀ t pa pb pre post c1 c2 tks h' tk', LayerOf tks 5 pre post → FlatL tks → Fr h₀ L h' m → News h₀ L h' ((t, tupleObj [.ref pa, .ref pb]) :: (pa, W.listOf pre.toArray c1) :: (pb, W.listOf post.toArray c2) :: (tks ++ news)) → Q (.ref t) { s with heap := h', toks := tk' }) (F : Fr h₀ L h' m) (N : News h₀ L h' ((t, tupleObj [.ref pa, .ref pb]) :: (pb, W.listOf ([.ref b] : List Value).toArray c2) :: (b, tupleObj [.str "sign" v1, .str ")" v2]) :: (pa, W.listOf ([.ref a, .ref a'] : List Value).toArray c1) :: (a', tupleObj [.str "sign" v5, .str "(" v6]) :: (a, tupleObj [.str "word" v3, .str "SGN" v4]) :: q6 :: q7 :: q8 :: q9 :: q10 :: q11 :: q12 :: q13 :: q14 :: q15 :: q16 :: q17 :: news)) : Q (.ref t) { s with heap := h', toks := tk' } :=
  hret t pa pb [.ref a, .ref a'] [.ref b] c1 c2 [(a, tupleObj [.str "word" v3, .str "SGN" v4]), (a', tupleObj [.str "sign" v5, .str "(" v6]), (b, tupleObj [.str "sign" v1, .str ")" v2])] h' tk' (.sgn (in_tup (.head _)) (in_tup (.tail _ (.head _))) (in_tup (.tail _ (.tail _ (.head _))))) (flat_tup (flat_tup (flat_tup (flat_nil)))) F (news_sub N (List.forall_mem_cons.mpr ⟨.head _, List.forall_mem_cons.mpr ⟨.tail _ (.tail _ (.tail _ (.head _))), List.forall_mem_cons.mpr ⟨.tail _ (.head _), List.forall_mem_cons.mpr ⟨.tail _ (.tail _ (.tail _ (.tail _ (.tail _ (.head _))))), List.forall_mem_cons.mpr ⟨.tail _ (.tail _ (.tail _ (.tail _ (.head _)))), List.forall_mem_cons.mpr ⟨.tail _ (.tail _ (.head _)), fun p hp => .tail _ (.tail _ (.tail _ (.tail _ (.tail _ (.tail _ (.tail _ (.tail _ (.tail _ (.tail _ (.tail _ (.tail _ (.tail _ (.tail _ (.tail _ (.tail _ (.tail _ (.tail _ (hp))))))))))))))))))⟩⟩⟩⟩⟩⟩))
section
theorem said19 : True := by
  (k_with "m:callWith" => ((with_reducible show wpAny _ _ (callWith _ (Value.builtin _, [_]).fst _ _ []) _ _ _); k_dflt (refine callWith_method1 ?_)))
  (k_with "m:subscriptTail Name Name ref int" => (k_here; (with_reducible show wpAny _ _ (subscriptTail _ _ (Value.ref _) (Value.int _ _)) _ _ _); (with_unfolding_all refine' pick6 ?k1z49 ?k2z49 ?k3z49 ?h0z49 ?h1z49 ?h2z49 ?h3z49 ?h4z49 ?h5z49 ?k6z49; (case k1z49 => exact News.isList (by k_asm) (by k_mem)); (case k2z49 => assumption); (case k3z49 => assumption); (case k6z49 => with_unfolding_all rfl); (case' h0z49 => intro e; subst e); (case' h1z49 => intro e; subst e); (case' h2z49 => intro e; subst e); (case' h3z49 => intro e; subst e); (case' h4z49 => intro e; subst e); (case' h5z49 => intro e; subst e))))
  trivial
set_option maxHeartbeats 8000000 in
theorem c_layer (w : World) {dp un : Nat} {gd : Option (List Code)} {cn : Str} {cs : Scope} {a : Addr} {ccd : Value} {cl : List (Str × Addr)} {outer : List Env} {A₀ : Around} {base h₀ : Heap} {L : Addr} {m : Str → Option Value} {news : List (Addr × Obj)} {s : Shared} {Q E : Value → Shared → Prop} {mean : ExcName → Option Value} {mg mb : Str → Option Value} {kd : Int} {u : Tok}
    (B : Below A₀ base outer h₀) (F : Fr h₀ L s.heap m) (X : (Mine.K w.params).In h₀) (N : News h₀ L s.heap news) (T : Top Mine.view (looseW Mine.view []) mean mg mb h₀) (hk : cs.kind = .function)
    (k0 : 0 ≤ kd) (k5 : kd ≤ 5) (hd : dp + 8 < recursionLimit) (hu : un + 64 < cLine)
    (hret : ∀ t pa pb pre post c1 c2 tks h' tk', LayerOf tks kd pre post → FlatL tks → Fr h₀ L h' m → News h₀ L h' ((t, tupleObj [.ref pa, .ref pb]) :: (pa, W.listOf pre.toArray c1) :: (pb, W.listOf post.toArray c2) :: (tks ++ news)) → Q (.ref t) { s with heap := h', toks := tk' }) :
    wpAny (model PySem.Challenge.rw_pq1455_01.row.prog w) (ktrTop dp un gd cn cs L a ccd cl outer) (call (.ref 315) [.int kd u]) Q E s := by
  revert X; k_fill; intro X
  refine wpAny_call ?_
  k_dflt ktr_enter
  rename_i g' L' h' FG' F' N' B' X' T'
  k_lift B'
  k_steps
  · exact lay_fin5 hret (by assumption) (by assumption)
  · exact lay_fin4 hret (by assumption) (by assumption)
  · exact lay_fin3 hret (by assumption) (by assumption)
  · exact lay_fin2 hret (by assumption) (by assumption)
  · exact lay_fin1 hret (by assumption) (by assumption)
  · exact lay_fin0 hret (by assumption) (by assumption)
end
theorem said20 : True := by
  k_with_none
  (k_with "m:subscriptTail" => (k_here; (with_reducible show wpAny _ _ (subscriptTail _ _ (Value.ref _) (Value.int _ _)) _ _ _); (with_unfolding_all refine' item_at ?k1z1 ?k2z1 ?k3z1 ?k4z1 ?k5z1 ?_ ?k6z1; (case k1z1 => is_list); (case k2z1 => omega); (case k3z1 => omega); (case k4z1 => omega); (case k5z1 => first | assumption | exact rfl); (case k6z1 => with_unfolding_all rfl); k_whole)))
  (k_with "m:call builtin:len" => (k_here; (with_reducible show wpAny _ _ (call (Value.builtin "len") [Value.ref _]) _ _ _); k_dflt (refine' len_at ?k1z2 ?k2z2 ?_; (case k1z2 => is_list); (case k2z2 => omega); k_whole)))
  (k_with "m:compareOp Eq str str" => (refine' eq_strC ?krz3 ?_; (case krz3 => first | ((refine (?_ : _ = true)); kernel_rfl!) | ((refine (?_ : _ = false)); kernel_rfl!)); k_whole))
  (k_with "m:compareOp NotEq str str" => (refine' ne_strC ?krz4 ?_; (case krz4 => first | ((refine (?_ : _ = true)); kernel_rfl!) | ((refine (?_ : _ = false)); kernel_rfl!)); k_whole))
  (k_with "m:ite" => (k_closed; first | rewrite [if_neg Bool.false_ne_true] | rewrite [if_pos (rfl : true = true)]))
  trivial
set_option maxHeartbeats 8000000 in
theorem c_worth (w : World) {dp un : Nat} {gd : Option (List Code)} {cn : Str} {cs : Scope} {a : Addr} {ccd : Value} {cl : List (Str × Addr)} {outer : List Env} {A₀ : Around} {base h₀ : Heap} {L : Addr} {m : Str → Option Value} {news : List (Addr × Obj)} {s : Shared} {Q E : Value → Shared → Prop} {mean : ExcName → Option Value} {mg mb : Str → Option Value} {kd v : Int} {u u' : Tok}
    (B : Below A₀ base outer h₀) (F : Fr h₀ L s.heap m) (X : (Mine.K w.params).In h₀) (N : News h₀ L s.heap news) (T : Top Mine.view (looseW Mine.view []) mean mg mb h₀) (hk : cs.kind = .function)
    (k0 : 0 ≤ kd) (k5 : kd ≤ 5) (hd : dp + 8 < recursionLimit) (hu : un + 64 < cLine)
    (hret : ∀ h' tk' u9, Fr h₀ L h' m → News h₀ L h' news → Q (.int (worth kd v) u9) { s with heap := h', toks := tk' }) :
    wpAny (model PySem.Challenge.rw_pq1455_01.row.prog w) (ktrTop dp un gd cn cs L a ccd cl outer) (call (.ref 322) [.int kd u, .int v u']) Q E s := by
  have hk6 : kd = 0 ∨ kd = 1 ∨ kd = 2 ∨ kd = 3 ∨ kd = 4 ∨ kd = 5 := by omega
  rcases hk6 with rfl | rfl | rfl | rfl | rfl | rfl
  all_goals (
    revert X; k_fill; intro X
    refine wpAny_call ?_
    k_dflt ktr_enter
    rename_i g' L' h' FG' F' N' B' X' T'
    k_lift B'
    k_steps)
  all_goals exact hret _ _ _ (by assumption) (by assumption)
/-! ### rows laid within one another -/
theorem tok_in {pre items post : List Value} {k : Int} (h0 : 0 ≤ k) (h1 : k < (items.length : Int)) : tokAt (pre ++ items ++ post) (k + (pre.length : Int)) = tokAt items k := by
  obtain ⟨j, rfl⟩ := Int.eq_ofNat_of_zero_le h0
  have hj : j < items.length := by omega
  have hl : ((pre ++ items ++ post).length : Int) = (pre.length : Int) + items.length + post.length := by simp; omega
  rw [tokAt, tokAt, if_pos h1, if_pos (by omega)]
  have e : ((j : Int) + (pre.length : Int)).toNat = pre.length + j := by omega
  rw [e, Int.toNat_natCast, List.append_assoc, List.getElem?_append_right (by omega), Nat.add_sub_cancel_left, List.getElem?_append_left hj]
theorem Two.shift {P : Addr → Array Value → Prop} {pre items post : List Value} {k : Int} {x y : Str} (h : Two P items k x y) : Two P (pre ++ items ++ post) (k + (pre.length : Int)) x y := by
  obtain ⟨a, b, c, d, e, f, g⟩ := h
  have hl : ((pre ++ items ++ post).length : Int) = (pre.length : Int) + items.length + post.length := by simp; omega
  exact ⟨by omega, by omega, c, d, e, by rw [tok_in a b]; exact f, g⟩
theorem Parse.cast {P : Addr → Array Value → Prop} {items : List Value} {k k' : Int} {n : Nat} {r r' : Option (Int × Int)} (h : Parse P items k n r) (ek : k = k') (e : r = r') : Parse P items k' n r' := by subst ek; subst e; exact h
theorem Parse.shift {P : Addr → Array Value → Prop} {pre items post : List Value} {k : Int} {n : Nat} {r : Option (Int × Int)} (h : Parse P items k n r) : ∀ v e, r = some (v, e) → Parse P (pre ++ items ++ post) (k + (pre.length : Int)) n (some (v, e + (pre.length : Int))) := by
  have hl : ((pre ++ items ++ post).length : Int) = (pre.length : Int) + items.length + post.length := by simp; omega
  induction h with
  | num a b c d e f => intro v' e' q; cases q; exact (Parse.num (by omega) (by omega) (by rw [tok_in a b]; exact c) d e f).cast rfl (by congr 2; omega)
  | fin a => intro v e q; cases q
  | neg a _ b ih =>
    intro v e q; obtain ⟨⟨v0, e0⟩, h1, h2⟩ := Option.map_eq_some_iff.mp q; cases h2
    exact Parse.neg a.shift ((ih _ _ h1).cast (by omega) rfl) (fun v e q => by cases q; exact b _ _ h1)
  | pos a _ ih => intro v e q; exact Parse.pos a.shift ((ih _ _ q).cast (by omega) rfl)
  | inv a _ ih =>
    intro v e q; obtain ⟨⟨v0, e0⟩, h1, h2⟩ := Option.map_eq_some_iff.mp q; cases h2
    exact Parse.inv a.shift ((ih _ _ h1).cast (by omega) rfl)
  | par a _ b ih =>
    intro v e q; obtain ⟨⟨v0, e0⟩, h1, h2⟩ := Option.map_eq_some_iff.mp q; cases h2
    exact (Parse.par a.shift ((ih _ _ h1).cast (by omega) rfl) (fun v e q => by cases q; exact (b _ _ h1).shift)).cast rfl (by simp only [Option.map_some]; congr 2; omega)
  | abs a a' _ b c ih =>
    intro v e q; obtain ⟨⟨v0, e0⟩, h1, h2⟩ := Option.map_eq_some_iff.mp q; cases h2
    refine (Parse.abs a.shift ?_ ((ih _ _ h1).cast (by omega) rfl) (fun v e q => by cases q; exact b _ _ h1) (fun v e q => by cases q; exact (c _ _ h1).shift)).cast rfl (by simp only [Option.map_some]; congr 2; omega)
    have := a'.shift (pre := pre) (post := post)
    rwa [Int.add_right_comm] at this
  | sgn a a' _ c ih =>
    intro v e q; obtain ⟨⟨v0, e0⟩, h1, h2⟩ := Option.map_eq_some_iff.mp q; cases h2
    refine (Parse.sgn a.shift ?_ ((ih _ _ h1).cast (by omega) rfl) (fun v e q => by cases q; exact (c _ _ h1).shift)).cast rfl (by simp only [Option.map_some]; congr 2; omega)
    have := a'.shift (pre := pre) (post := post)
    rwa [Int.add_right_comm] at this
  | elem a a' _ b c ih =>
    intro v e q; obtain ⟨⟨v0, e0⟩, h1, h2⟩ := Option.map_eq_some_iff.mp q; cases h2
    refine (Parse.elem a.shift ?_ ((ih _ _ h1).cast (by omega) rfl) (fun v e q => by cases q; exact b _ _ h1) (fun v e q => by cases q; exact (c _ _ h1).shift)).cast rfl (by simp only [Option.map_some]; congr 2; omega)
    have := a'.shift (pre := pre) (post := post)
    rwa [Int.add_right_comm] at this
theorem tok_pre {P : Addr → Array Value → Prop} {pre rest : List Value} {j : Nat} {a : Addr} {x y : Str} {u1 u2 : Tok} (h : pre[j]? = some (.ref a)) (p : P a #[.str x u1, .str y u2]) : Two P (pre ++ rest) (j : Int) x y := by
  have hj : j < pre.length := (List.getElem?_eq_some_iff.mp h).1
  refine ⟨by omega, by simp; omega, a, u1, u2, ?_, p⟩
  rw [tokAt, if_pos (by simp; omega), Int.toNat_natCast, List.getElem?_append_left hj, h]; rfl
theorem tok_post {P : Addr → Array Value → Prop} {pre : List Value} {a : Addr} {x y : Str} {u1 u2 : Tok} {k : Int} (hk : k = (pre.length : Int)) (p : P a #[.str x u1, .str y u2]) : Two P (pre ++ [.ref a]) k x y := by
  subst hk
  refine ⟨by omega, by simp; omega, a, u1, u2, ?_, p⟩
  rw [tokAt, if_pos (by simp; omega), Int.toNat_natCast, List.getElem?_append_right (Nat.le_refl _)]
  simp
theorem layer_parse {P : Addr → Array Value → Prop} {led led' : List (Addr × Obj)} {kd v : Int} {pre items post : List Value} {n : Nat} (hL : LayerOf led kd pre post) (hP : Parse (InTup led') items 0 n (some (v, (items.length : Int))))
    (m1 : ∀ a vs, InTup led a vs → P a vs) (m2 : ∀ a vs, InTup led' a vs → P a vs) (b0 : -32767 ≤ v) (b1 : v ≤ 32767) : Parse P (pre ++ items ++ post) 0 (n + 1) (some (worth kd v, ((pre ++ items ++ post).length : Int))) := by
  have hS := (hP.mono m2).shift (pre := pre) (post := post) v _ rfl
  cases hL with
  | neg h => exact (Parse.neg (tok_pre (pre := [.ref _]) (j := 0) rfl (m1 _ _ h)) hS (fun v e q => by cases q; exact ⟨b0, b1⟩)).cast rfl (by simp [worth])
  | inv h => exact (Parse.inv (tok_pre (pre := [.ref _]) (j := 0) rfl (m1 _ _ h)) hS).cast rfl (by simp [worth])
  | pos h => exact (Parse.pos (tok_pre (pre := [.ref _]) (j := 0) rfl (m1 _ _ h)) hS).cast rfl (by simp [worth])
  | @par a b u1 u2 u3 u4 h h' =>
    have t1 : Two P ([.ref a] ++ items ++ [.ref b]) 0 "sign" "(" := by rw [List.append_assoc]; exact tok_pre (j := 0) rfl (m1 _ _ h)
    have t2 : Two P ([.ref a] ++ items ++ [.ref b]) ((items.length : Int) + (([.ref a] : List Value).length : Int)) "sign" ")" := tok_post (by simp <;> omega) (m1 _ _ h')
    exact (Parse.par t1 hS (fun v e q => by cases q; exact t2)).cast rfl (by simp [worth] <;> omega)
  | @abs a a' b u1 u2 u3 u4 u5 u6 h h2 h' =>
    have t1 : Two P ([.ref a, .ref a'] ++ items ++ [.ref b]) 0 "word" "ABS" := by rw [List.append_assoc]; exact tok_pre (j := 0) rfl (m1 _ _ h)
    have t3 : Two P ([.ref a, .ref a'] ++ items ++ [.ref b]) (0 + 1) "sign" "(" := by rw [List.append_assoc]; exact tok_pre (j := 1) rfl (m1 _ _ h2)
    have t2 : Two P ([.ref a, .ref a'] ++ items ++ [.ref b]) ((items.length : Int) + (([.ref a, .ref a'] : List Value).length : Int)) "sign" ")" := tok_post (by simp <;> omega) (m1 _ _ h')
    exact (Parse.abs t1 t3 hS (fun v e q => by cases q; exact ⟨b0, b1⟩) (fun v e q => by cases q; exact t2)).cast rfl (by simp [worth, abs_val] <;> omega)
  | @sgn a a' b u1 u2 u3 u4 u5 u6 h h2 h' =>
    have t1 : Two P ([.ref a, .ref a'] ++ items ++ [.ref b]) 0 "word" "SGN" := by rw [List.append_assoc]; exact tok_pre (j := 0) rfl (m1 _ _ h)
    have t3 : Two P ([.ref a, .ref a'] ++ items ++ [.ref b]) (0 + 1) "sign" "(" := by rw [List.append_assoc]; exact tok_pre (j := 1) rfl (m1 _ _ h2)
    have t2 : Two P ([.ref a, .ref a'] ++ items ++ [.ref b]) ((items.length : Int) + (([.ref a, .ref a'] : List Value).length : Int)) "sign" ")" := tok_post (by simp <;> omega) (m1 _ _ h')
    exact (Parse.sgn t1 t3 hS (fun v e q => by cases q; exact t2)).cast rfl (by simp [worth, sgn_val] <;> omega)
theorem LayerOf.sizes {led : List (Addr × Obj)} {kd : Int} {pre post : List Value} (h : LayerOf led kd pre post) : pre.length ≤ 2 ∧ post.length ≤ 1 := by
  cases h <;> simp
theorem worth_bound {kd v b : Int} (h0 : -b ≤ v) (h1 : v ≤ b) (hb : 0 < b) : -(b + 1) ≤ worth kd v ∧ worth kd v ≤ b + 1 := by
  unfold worth
  have hs : -1 ≤ PyProof.Rows.b2i (decide (0 < v)) - PyProof.Rows.b2i (decide (v < 0)) ∧ PyProof.Rows.b2i (decide (0 < v)) - PyProof.Rows.b2i (decide (v < 0)) ≤ 1 := by
    rw [← sgn_val]
    rcases Int.lt_trichotomy v 0 with h | h | h
    · rw [Int.sign_eq_neg_one_of_neg h]; omega
    · subst h; decide
    · rw [Int.sign_eq_one_of_pos h]; omega
  repeat' split
  all_goals omega
section
variable {prog : Program} {w : World} {A₀ A : Around} {s : Shared} {base h₀ : Heap} {L : Addr} {m : Str → Option Value} {env : Env} {news : List (Addr × Obj)} {K : Frag} {p : Program} {loose : List Str} {mean : ExcName → Option Value} {mg mb : Str → Option Value}
    {R : Result → Shared → Prop} {name qual : Str} {params : Arguments} {body : List Stmt} {scope : Scope} {dV kV doc pm cdv ct oc : Value} {an od : Option Addr} {osl : Array (Option Value)} {f : Addr} {args : Args} {binds : List (Str × Value)}
/-- a call from the first frame of a def with cells, below which something is caught -/
theorem code_cells0 (B : Below A₀ base [] h₀) (F : Fr h₀ L s.heap m) (X₀ : K.In h₀) (N : News h₀ L s.heap news) (T : Top p loose mean mg mb h₀) (hA : A.frames = some [env]) (hf : env.frame = some L) (hke : env.scope.kind = .function)
    (ho : K.lookup f = some ⟨oc, od, .func (fnOf name qual params body scope dV kV doc pm an cdv ct), osl⟩) (hcd : codeIn K cdv qual = true) (hroom : A.depth < recursionLimit)
    (hbind : BindsTo s (fnOf name qual params body scope dV kV doc pm an cdv ct) args binds) (hkind : (binds.all fun y => scope.names.lookup y.1 == some .local || scope.names.lookup y.1 == some .cell) = true)
    (hnd : ((cellsFrom 0 scope.names []).map (·.1)).Nodup)
    (h : ∀ g L' h₁ tk cells, Fr h₀ L g m → Fr g L' h₁ (bindL (envOfC qual scope L' f cdv).kindOf binds fun _ => none) → News g L' h₁ (cells ++ news) →
      CellsAre (bindC (envOfC qual scope L' f cdv).kindOf binds fun _ => none) (cellsFrom (L' + 1) scope.names []) cells → Below A base [env] g → K.In g → Top p loose mean mg mb g → (∀ p ∈ news, p.1 < L') →
      wpAny (model prog w) (A.deeper (envOfC qual scope L' f cdv)) (execs body (envOfC qual scope L' f cdv))
        (fun fl s' => LeaveS0 ([env].filterMap (·.frame)) h₀ L m g R (match fl with | .ret v => v | _ => .none) s')
        (fun e s' => wpAny (model prog w) (A.deeper (envOfC qual scope L' f cdv)) (leaving (envOfC qual scope L' f cdv) e) (fun _ s'' => R (.error e) s'') (fun e' s'' => R (.error e') s'') s')
        { s with heap := h₁, toks := tk })
    (hco : scope.isCoroutine = false) (hgen : scope.isGenerator = false) (hk : scope.kind = .function) : codeAny (model prog w) A (.call (.ref f) args) R s := by
  have X := X₀.keeps F.keep
  obtain ⟨FG, BG, st, _⟩ := groundX (R := R) B F N hA hf hke
  refine codeAny_call_function hroom (X _ _ ho) rfl hco hgen rfl (codeRec_of X hcd) (hbind _ _ _ _ ?_)
  refine wpAny_newFunctionEnv_cells hk (kindsX hkind _) fun env' he s' x => ?_
  subst he
  refine ⟨(T.nolimit.keeps F.keep).keeps x.toInCall.keep, codeAny_func ?_⟩
  obtain ⟨h₁, tk, rfl, _⟩ := x.done
  have hk₁ := x.toInCall.keep
  obtain ⟨cells, NC, Y⟩ := Cl.news (h₀ := s.heap) (Nat.le_refl _) fun n c hm => ⟨x.cell n c (lookup_of_mem_nodup (cellsFrom_names scope.names 0 (s.heap.objs.size + 1) [] [] rfl ▸ hnd) hm), x.above n c hm⟩
  refine wpAny_mono (h _ s.heap.objs.size h₁ tk cells FG ⟨x.toInCall.ns, fun b o e => hk₁ b o (of_hideAll _ e), Nat.le_of_eq (hideAll_size _ _)⟩ (fun p hp => ?_) Y BG (X₀.keeps st) (T.keeps st) (fun p hp => Heap.lt_size (N p hp).1)) (fun fl s' hl => ?_) fun _ _ y => y
  · rcases List.mem_append.mp hp with hp | hp
    · refine ⟨(NC p hp).1, (NC p hp).2.1, ?_⟩
      cases q : (hideAll s.heap (news.map (·.1))).get? p.1 with
      | none => rfl
      | some o => have := of_hideAll _ q; rw [(NC p hp).2.2] at this; cases this
    · exact ⟨hk₁ _ _ (N p hp).1, Nat.ne_of_lt (Heap.lt_size (N p hp).1), hideAll_none _ (List.mem_map_of_mem hp)⟩
  obtain ⟨g', L', m', news', T', F', N', k⟩ := hl
  have nL₀ : h₀.get? L = none := kts_self F
  obtain ⟨oL, es, ep, hLg, hLd, hLk, hLf⟩ := FG.ns
  obtain ⟨sl, hs⟩ := T'.up hLg
  refine k ⟨⟨_, es, ep, F'.keep _ _ hs, hLd, hLk, hLf⟩, fun b o e => F'.keep b o (T'.other b o (st b o e) (fun q => ?_)), F.above⟩ fun p hp => ⟨(N' p hp).1, fun q => ?_, ?_⟩
  · rcases mem_env hf q with z | z
    · rw [z, nL₀] at e; cases e
    · simp at z
  · have := (N' p hp).2.2; rw [q, hs] at this; cases this
  · cases q : h₀.get? p.1 with
    | none => rfl
    | some o =>
      obtain ⟨sl', hs'⟩ := T'.up (st _ _ q)
      have := (N' p hp).2.2
      rw [hs'] at this
      cases this
end
theorem news_rot2 {h₀ h : Heap} {L : Addr} {a b c : Addr × Obj} (N : News h₀ L h [a, b, c]) : News h₀ L h [c, a, b] := fun p hp => N p (by simp only [List.mem_cons, List.not_mem_nil, or_false] at hp ⊢; rcases hp with h | h | h <;> simp [h])
/-! ### the loop that lays the layers -/
def RowMap (m₀ : Str → Option Value) (row : Addr) (v : Int) (m₁ : Str → Option Value) : Prop :=
  (∃ t, m₁ ("row" : Str) = some (.ref row) ∧ m₁ ("value" : Str) = some (.int v t)) ∧ ∀ z, z ≠ ("row" : Str) → z ≠ ("value" : Str) → z ≠ ("ahead" : Str) → z ≠ ("behind" : Str) → z ≠ ("kind" : Str) → m₁ z = m₀ z
theorem RowMap.form {m₀ m₁ : Str → Option Value} {row : Addr} {v : Int} (h : RowMap m₀ row v m₁) : ∃ t u1 u2 u3, m₁ = fun z => if z = ("row" : Str) then some (.ref row) else if z = ("value" : Str) then some (.int v t) else if z = ("ahead" : Str) then u1 else if z = ("behind" : Str) then u2 else if z = ("kind" : Str) then u3 else m₀ z := by
  obtain ⟨⟨t, e1, e2⟩, r⟩ := h
  refine ⟨t, m₁ ("ahead" : Str), m₁ ("behind" : Str), m₁ ("kind" : Str), ?_⟩
  funext z
  by_cases h1 : z = ("row" : Str)
  · rw [if_pos h1, h1, e1]
  rw [if_neg h1]
  by_cases h2 : z = ("value" : Str)
  · rw [if_pos h2, h2, e2]
  rw [if_neg h2]
  by_cases h3 : z = ("ahead" : Str)
  · rw [if_pos h3, h3]
  rw [if_neg h3]
  by_cases h4 : z = ("behind" : Str)
  · rw [if_pos h4, h4]
  rw [if_neg h4]
  by_cases h5 : z = ("kind" : Str)
  · rw [if_pos h5, h5]
  rw [if_neg h5]
  exact r z h1 h2 h3 h4 h5
def LayEnd (h₀ : Heap) (L : Addr) (m₀ : Str → Option Value) (kd v : Int) (items : List Value) (p R : Addr × Obj) (tks : List (Addr × Obj)) (s : Shared) (f : Flow) (s₂ : Shared) : Prop :=
  f = .next ∧ ∃ h' tk m' row' c' pre post tks', s₂ = { s with heap := h', toks := tk } ∧ Fr h₀ L h' m' ∧ RowMap m₀ row' (worth kd v) m' ∧ LayerOf tks' kd pre post ∧ FlatL tks' ∧ News h₀ L h' ((row', W.listOf (pre ++ items ++ post).toArray c') :: (tks' ++ (p :: R :: tks)))
theorem LayEnd.intro {h₀ : Heap} {L : Addr} {m₀ m' : Str → Option Value} {kd v : Int} {items : List Value} {p R : Addr × Obj} {tks : List (Addr × Obj)} {s : Shared} {h' : Heap} {tk : Nat} {row' : Addr} {c' : Nat} {pre post : List Value} {tks' : List (Addr × Obj)}
    (F : Fr h₀ L h' m') (M : RowMap m₀ row' (worth kd v) m') (l : LayerOf tks' kd pre post) (f : FlatL tks') (N : News h₀ L h' ((row', W.listOf (pre ++ items ++ post).toArray c') :: (tks' ++ (p :: R :: tks)))) : LayEnd h₀ L m₀ kd v items p R tks s .next { s with heap := h', toks := tk } := ⟨rfl, h', tk, m', row', c', pre, post, tks', rfl, F, M, l, f, N⟩
theorem intup_sub {l l' : List (Addr × Obj)} (h : ∀ p ∈ l, p ∈ l') {a : Addr} {vs : Array Value} (x : InTup l a vs) : InTup l' a vs := let ⟨o, ho, r⟩ := x; ⟨o, h _ ho, r⟩
section
variable {prog : Program} {w : World} {A : Around} {E : Value → Shared → Prop} {s : Shared} {env : Env} {h₀ : Heap} {body : List Stmt} {Q : Flow → Shared → Prop}
theorem iter_layers {D row ta : Addr} {ys : List Value} {ks : List Int} {nn c : Nat} {m₀ : Str → Option Value} {v : Int} {u1 u2 : Tok}
    (hh : A.handled = none) (hi : IntsAre ys ks) (hk : ∀ k ∈ ks, 0 ≤ k ∧ k ≤ 5) (hn : ks.length ≤ 200) (F : Fr h₀ env.locals s.heap m₀)
    (N : News h₀ env.locals s.heap [(row, W.listOf #[.ref ta] c), (ta, tupleObj [.str "number" u1, .int v u2]), (D, W.listOf ys.toArray nn)]) (M : RowMap m₀ row v m₀) (v0 : 0 ≤ v) (v1 : v ≤ 99)
    (turn : ∀ kd t row c items v tks p t1 u1 u2 u3 h tk, 0 ≤ kd → kd ≤ 5 → items.length ≤ 700 → -400 ≤ v → v ≤ 400 →
      Fr h₀ env.locals h (fun z => if z = ("kind" : Str) then some (.int kd t) else if z = ("row" : Str) then some (.ref row) else if z = ("value" : Str) then some (.int v t1) else if z = ("ahead" : Str) then u1 else if z = ("behind" : Str) then u2 else if z = ("kind" : Str) then u3 else m₀ z) →
      News h₀ env.locals h (p :: (row, W.listOf (List.toArray items) c) :: tks) →
      wpAny (model prog w) A (execs body env) (LayEnd h₀ env.locals m₀ kd v items p (row, W.listOf (List.toArray items) c) tks s) E { s with heap := h, toks := tk })
    (done : ∀ row c items v tks t1 u1 u2 u3 h tk, Parse (InTup ((row, W.listOf (List.toArray items) c) :: tks)) items 0 ks.length (some (v, (items.length : Int))) → items.length ≤ 700 → -400 ≤ v → v ≤ 400 →
      Fr h₀ env.locals h (fun z => if z = ("row" : Str) then some (.ref row) else if z = ("value" : Str) then some (.int v t1) else if z = ("ahead" : Str) then u1 else if z = ("behind" : Str) then u2 else if z = ("kind" : Str) then u3 else m₀ z) →
      News h₀ env.locals h ((row, W.listOf (List.toArray items) c) :: tks) → Q .next { s with heap := h, toks := tk }) :
    wpAny (model prog w) A (pyIter (.ref D)) (fun it s₂ => LoopAtV prog w A h₀ env ("kind" : Str) body Q E it s₂) E s := by
  refine iter_grow (fun i m₁ nx => ∃ row c items v tks, RowMap m₀ row v m₁ ∧ nx = (row, W.listOf (List.toArray items) c) :: tks ∧ (D, W.listOf ys.toArray nn) ∈ tks ∧ Parse (InTup tks) items 0 i (some (v, (items.length : Int))) ∧ -(100 + (i : Int)) ≤ v ∧ v ≤ 100 + (i : Int) ∧ items.length ≤ 1 + 3 * i)
    hh (.tail _ (.tail _ (.head _))) F N (flat_lst (flat_tup (flat_lst flat_nil))) ⟨row, c, [.ref ta], v, _, M, rfl, .tail _ (.head _), ?_, by omega, by omega, by simp⟩ ?_ ?_
  · exact Parse.num (by omega) (by simp) rfl ⟨_, .head _, rfl, _, rfl⟩ (by omega) (by omega)
  · rintro i v' m₁ nx h tk p hv hD hf ⟨row, c, items, v, tks, M₁, rfl, hDt, P, b0, b1, bl⟩ F₁ N₁
    have hlt : i < ks.length := by have := (List.getElem?_eq_some_iff.mp hv).1; rw [hi.length] at this; exact this
    obtain ⟨t, hx⟩ := hi.get i ks[i] (by simp [hlt])
    rw [hv] at hx
    obtain rfl := Option.some.inj hx
    have hk' := hk _ (List.getElem_mem hlt)
    obtain ⟨t1, u1, u2, u3, rfl⟩ := M₁.form
    refine wpAny_mono (turn ks[i] t row c items v tks p t1 u1 u2 u3 h tk hk'.1 hk'.2 (by omega) (by omega) (by omega) F₁ N₁) (fun f s₂ q => ?_) fun _ _ e => e
    obtain ⟨rfl, h', tk', m', row', c', pre, post, tks', rfl, F', M', lo, fl, N'⟩ := q
    have hft : FlatL ((row, W.listOf (List.toArray items) c) :: tks) := hf
    have sz := lo.sizes
    have wb := worth_bound (kd := ks[i]) (b := 100 + (i : Int)) b0 b1 (by omega)
    refine GrowEnd.intro (nx := (row', W.listOf (pre ++ items ++ post).toArray c') :: (tks' ++ ((row, W.listOf (List.toArray items) c) :: tks))) F' (fun q hq => N' q ?_) (flat_lst (flat_app fl hft)) ⟨.tail _ (List.mem_append_right _ (.tail _ hDt)), row', c', pre ++ items ++ post, _, _, M', rfl, List.mem_append_right _ (.tail _ hDt), layer_parse lo P (fun a vs x => intup_sub (fun p hp => List.mem_append_left _ hp) x) (fun a vs x => intup_sub (fun p hp => List.mem_append_right _ (.tail _ hp)) x) (by omega) (by omega), by omega, by omega, by simp only [List.length_append]; omega⟩
    rcases List.mem_cons.mp hq with e | hq
    · rw [e]; exact .tail _ (List.mem_append_right _ (.head _))
    · rcases List.mem_cons.mp hq with e | hq
      · rw [e]; exact .head _
      · rcases List.mem_append.mp hq with e | hq
        · exact .tail _ (List.mem_append_left _ e)
        · exact .tail _ (List.mem_append_right _ (.tail _ hq))
  · rintro m₁ nx h tk hf ⟨row, c, items, v, tks, M₁, rfl, hDt, P, b0, b1, bl⟩ F₁ N₁
    obtain ⟨t1, u1, u2, u3, rfl⟩ := M₁.form
    have e := hi.length
    rw [e] at P b0 b1 bl
    exact done row c items v tks t1 u1 u2 u3 h tk (P.mono fun a vs x => intup_sub (fun p hp => .tail _ hp) x) (by omega) (by omega) (by omega) F₁ N₁
theorem cat2 {h₀ : Heap} {L a b : Addr} {m : Str → Option Value} {news : List (Addr × Obj)} {xs ys : List Value} {c c' : Nat} {Q : Value → Shared → Prop} (F : Fr h₀ L s.heap m) (N : News h₀ L s.heap news) (ha : (a, W.listOf (List.toArray xs) c) ∈ news) (hb : (b, W.listOf (List.toArray ys) c') ∈ news) (hz : xs.length + ys.length ≤ 100000)
    (h : ∀ D h', Fr h₀ L h' m → News h₀ L h' ((D, W.listOf (List.toArray (xs ++ ys)) 0) :: news) → Q (.ref D) { s with heap := h' }) : wpAny (model prog w) A (binaryOp .Add (.ref a) (.ref b)) Q E s :=
  add_lists F N ⟨_, (N _ ha).1, rfl, _, rfl⟩ ⟨_, (N _ hb).1, rfl, _, rfl⟩ (fun h' F' N' => h _ h' F' N') (by rw [sizeLine_eq]; omega)
end
theorem fm_lo (n : Int) {m : Int} (h : 0 < m) : 0 ≤ n.fmod m := Int.fmod_nonneg_of_pos n h
theorem fm_hi (n : Int) {m : Int} (h : 0 < m) : n.fmod m ≤ m - 1 := by have := Int.fmod_lt_of_pos n h; omega
theorem kinds_ok {f : Int → Int} {l : List Int} : ∀ k ∈ l.map (fun j => (f j).fmod 6), 0 ≤ k ∧ k ≤ 5 := fun k hk => by
  obtain ⟨j, _, rfl⟩ := List.mem_map.mp hk
  exact ⟨fm_lo _ (by omega), fm_hi _ (by omega)⟩
theorem news_mid {h₀ h : Heap} {L : Addr} {a b c p R : Addr × Obj} {x y : List (Addr × Obj)} (N : News h₀ L h (a :: b :: c :: (x ++ (p :: R :: y)))) : News h₀ L h (a :: b :: c :: R :: (x ++ (p :: R :: y))) := fun q hq => by
  rcases List.mem_cons.mp hq with e | hq
  · exact N q (by rw [e]; exact .head _)
  rcases List.mem_cons.mp hq with e | hq
  · exact N q (by rw [e]; exact .tail _ (.head _))
  rcases List.mem_cons.mp hq with e | hq
  · exact N q (by rw [e]; exact .tail _ (.tail _ (.head _)))
  rcases List.mem_cons.mp hq with e | hq
  · exact N q (by rw [e]; exact .tail _ (.tail _ (.tail _ (List.mem_append_right _ (.tail _ (.head _))))))
  · exact N q (.tail _ (.tail _ (.tail _ hq)))
section
theorem said21 : True := by
  (k_with "m:call ref" => (k_here; (with_reducible show wpAny _ _ (call (Value.ref 301) _ _) _ _ _); k_dflt (refine' c_next _ ?kBz50 ?kFz50 ?kXz50 ?kNz50 ?kTz50 ?kKz50 ?kiz50 ?kzz50 ?knez50 ?kdz50 ?kuz50 ?_; (case kBz50 => assumption); (case kFz50 => k_asm); (case kXz50 => k_asm); (case kNz50 => k_asm); (case kTz50 => k_asm); (case kKz50 => exact rfl); (case kiz50 => assumption); (case kzz50 => assumption); (case knez50 => first | assumption | k_all); (case kdz50 => ktr_room); (case kuz50 => ktr_units); k_whole; intro h' tk' n' u' vs' c' hi' hz' F' N'; (try k_sweep))))
  (k_with "m:pyIter ref" => (k_here; k_dflt (refine' iter_layers ?hhz51 ?hiz51 ?hkz51 ?hnz51 ?Fz51 ?Nz51 ?Mz51 ?v0z51 ?v1z51 ?turnz51 ?donez51; (case hhz51 => exact rfl); (case Fz51 => k_asm); (case Mz51 => exact ⟨⟨_, rfl, rfl⟩, fun _ _ _ _ _ _ => rfl⟩); (case hiz51 => assumption); (case Nz51 => exact news_sub (by k_asm) (List.forall_mem_cons.mpr ⟨by k_mem, List.forall_mem_cons.mpr ⟨by k_mem, List.forall_mem_cons.mpr ⟨by k_mem, List.forall_mem_nil _⟩⟩⟩)); (case hkz51 => exact kinds_ok); (case hnz51 => (simp only [List.length_map, rangeKs_length]; omega)); (case v0z51 => exact fm_lo _ (by decide)); (case v1z51 => exact fm_hi _ (by decide)); (case' turnz51 => intro kd' t' row' c' items' v' tks' p' t1' u1' u2' u3' h' tk' k0' k5' hz' b0' b1' F' N'; (try k_sweep)); (case' donez51 => intro row' c' items' v' tks' t1' u1' u2' u3' h' tk' P' hz' b0' b1' F' N'; (try k_sweep); (simp only [List.length_map, rangeKs_length] at P')))))
  (k_with "m:call ref" => (k_here; (with_reducible show wpAny _ _ (call (Value.ref 315) _ _) _ _ _); k_dflt (refine' c_layer _ ?kBz52 ?kFz52 ?kXz52 ?kNz52 ?kTz52 ?kKz52 ?k0z52 ?k5z52 ?kdz52 ?kuz52 ?_; (case kBz52 => assumption); (case kFz52 => k_asm); (case kXz52 => k_asm); (case kNz52 => k_asm); (case kTz52 => k_asm); (case kKz52 => exact rfl); (case k0z52 => assumption); (case k5z52 => assumption); (case kdz52 => ktr_room); (case kuz52 => ktr_units); k_whole; intro t' pa' pb' pre' post' c1' c2' tks' h' tk' lo' fl' F' N'; (try k_sweep); (obtain ⟨s1', s2'⟩ := LayerOf.sizes lo'); (have N2' := news_mid N'))))
  (k_with "m:call ref" => (k_here; (with_reducible show wpAny _ _ (call (Value.ref 322) _ _) _ _ _); k_dflt (refine' c_worth _ ?kBz53 ?kFz53 ?kXz53 ?kNz53 ?kTz53 ?kKz53 ?k0z53 ?k5z53 ?kdz53 ?kuz53 ?_; (case kBz53 => assumption); (case kFz53 => k_asm); (case kXz53 => k_asm); (case kNz53 => k_asm); (case kTz53 => k_asm); (case kKz53 => exact rfl); (case k0z53 => assumption); (case k5z53 => assumption); (case kdz53 => ktr_room); (case kuz53 => ktr_units); k_whole; intro h' tk' u9 F' N'; (try k_sweep))))
  (k_with "m:binaryOp Add ref ref" => (k_here; (with_reducible show wpAny _ _ (binaryOp _ (Value.ref _) (Value.ref _)) _ _ _); k_dflt (refine' cat2 ?Fz54 ?Nz54 ?az54 ?bz54 ?zz54 ?_; (case Fz54 => k_asm); (case Nz54 => k_asm); (case az54 => k_mem); (case bz54 => k_mem); (case zz54 => ((try simp only [List.length_append, List.length_cons, List.length_nil]); omega)); k_whole; intro D' h' F' N'; (try k_sweep))))
  (k_with "m:LayEnd" => (k_here; k_dflt (refine' LayEnd.intro ?kFz55 ?kMz55 ?klz55 ?kfz55 ?kNz55; (case kFz55 => k_asm); (case kMz55 => exact ⟨⟨_, rfl, rfl⟩, fun z z1 z2 z3 z4 z5 => by simp only [z1, z2, z3, z4, z5, if_false]⟩); (case klz55 => assumption); (case kfz55 => assumption); (case kNz55 => exact news_sub (by k_asm) (List.forall_mem_cons.mpr ⟨by k_mem, by repeat (first | exact sub_id | refine sub_tl ?_)⟩)))))
  (k_with "m:call ref" => (k_here; (with_reducible show wpAny _ _ (call (Value.ref 308) _ _) _ _ _); k_dflt (refine' c_heard _ ?kBz56 ?kFz56 ?kXz56 ?kNz56 ?kTz56 ?kKz56 ?kXBz56 ?kTBz56 ?hmz56 ?hszz56 ?kPz56 ?hstz56 ?kdz56 ?kuz56 ?retz56 ?errz56; (case kBz56 => assumption); (case kFz56 => k_asm); (case kXz56 => k_asm); (case kNz56 => k_asm); (case kTz56 => k_asm); (case kKz56 => exact rfl); (case kXBz56 => assumption); (case kTBz56 => assumption); (case hmz56 => k_mem); (case kPz56 => assumption); (case hszz56 => omega); (case hstz56 => exact fun v e h => by cases h; rfl); (case kdz56 => ktr_room); (case kuz56 => ktr_units); (case' retz56 => intro v' e' hr' hn' t' g' h' tk' u1' u2' KT' F' N' B'; cases hr'; (have X9' := Frag.In.keeps (by assumption) (Below.stays B')); (have T9' := Top.keeps (by assumption) (Below.stays B')); (try k_sweep)); (case' errz56 => intro kd' hf' g' h' tk' u' KT' F' N' B'; (rcases hf' with ⟨e1', e2'⟩ | ⟨e1', e2', e3'⟩); (case' inr => cases e2'); subst e2'; (have X9' := Frag.In.keeps (by assumption) (Below.stays B')); (have T9' := Top.keeps (by assumption) (Below.stays B')); (try k_sweep)))))
  trivial
set_option maxHeartbeats 8000000 in
theorem c_layers (w : World) {dp un : Nat} {gd : Option (List Code)} {cn : Str} {cs : Scope} {a : Addr} {ccd : Value} {A₀ : Around} {base₀ h₀ : Heap} {L : Addr} {m : Str → Option Value} {s : Shared} {Q E : Value → Shared → Prop} {mean : ExcName → Option Value} {mg mb : Str → Option Value} {l : Addr} {vs : List Value} {c : Nat} {many : Int} {u : Tok}
    (B₀ : Below A₀ base₀ [] h₀) (F : Fr h₀ L s.heap m) (X : (Mine.K w.params).In h₀) (N : News h₀ L s.heap [(l, W.listOf vs.toArray c)]) (T : Top Mine.view (looseW Mine.view []) mean mg mb h₀) (hk : cs.kind = .function) (hi : Ints vs) (hz : vs.length < 1000) (m0 : 0 ≤ many) (m1 : many ≤ 200) (hd : dp + 330 < recursionLimit) (hu : un + 2450 < cLine)
    (hret : ∀ h' tk', Fr h₀ L h' m → Q (.bool true) { s with heap := h', toks := tk' }) :
    wpAny (model PySem.Challenge.rw_pq1455_01.row.prog w) (ktrTop dp un gd cn cs L a ccd [] []) (call (.ref 327) [.ref l, .int many u]) Q E s := by
  have B : Below A₀ h₀ [] h₀ := ⟨B₀.stack, fun _ _ e => e, trivial⟩
  have XB := X
  have TB := T
  revert X; k_fill; intro X
  refine wpAny_call ?_
  k_dflt (refine' code_cells0 ?k1 ?k2 ?k3 ?k4 ?k5 ?kA ?khf ?khk ?k6 ?k7 ?k8 ?k9 ?kB ?kD ?_ ?c2 ?c3 ?c4; (case kA => exact rfl); (case khf => exact rfl); (case khk => exact hk); (case k2 => k_asm); (case k1 => exact B); (case k3 => k_asm); (case k4 => k_asm); (case k5 => k_asm); (case k6 => k_is); (case k7 => k_is); (case k8 => ktr_room); (case k9 => exact BindsTo.of_eq rfl); (case kB => exact rfl); (case kD => decide +kernel); (case c2 => exact rfl); (case c3 => exact rfl); (case c4 => exact rfl))
  k_whole
  intro g' L' h' tk' cells' FG' F' N' Y' B' X' T' l1
  (try k_lt l1)
  k_cells Y'
  (try simp only [List.cons_append, List.nil_append] at N')
  (try dsimp only)
  (try k_fold)
  k_lift B'
  have N2 := news_rot2 N'
  k_steps
  all_goals exact hret _ _ (by assumption)
end
theorem said22 : True := by
  k_with_none
  (k_with "m:subscriptTail" => (k_here; (with_reducible show wpAny _ _ (subscriptTail _ _ (Value.ref _) (Value.int _ _)) _ _ _); (with_unfolding_all refine' item_at ?k1z1 ?k2z1 ?k3z1 ?k4z1 ?k5z1 ?_ ?k6z1; (case k1z1 => is_list); (case k2z1 => omega); (case k3z1 => omega); (case k4z1 => omega); (case k5z1 => first | assumption | exact rfl); (case k6z1 => with_unfolding_all rfl); k_whole)))
  (k_with "m:call builtin:len" => (k_here; (with_reducible show wpAny _ _ (call (Value.builtin "len") [Value.ref _]) _ _ _); k_dflt (refine' len_at ?k1z2 ?k2z2 ?_; (case k1z2 => is_list); (case k2z2 => omega); k_whole)))
  (k_with "m:compareOp Eq str str" => (refine' eq_strC ?krz3 ?_; (case krz3 => first | ((refine (?_ : _ = true)); kernel_rfl!) | ((refine (?_ : _ = false)); kernel_rfl!)); k_whole))
  (k_with "m:compareOp NotEq str str" => (refine' ne_strC ?krz4 ?_; (case krz4 => first | ((refine (?_ : _ = true)); kernel_rfl!) | ((refine (?_ : _ = false)); kernel_rfl!)); k_whole))
  (k_with "m:ite" => (k_closed; first | rewrite [if_neg Bool.false_ne_true] | rewrite [if_pos (rfl : true = true)]))
  trivial
/-! ### a comprehension whose element pops a cell -/
def Nums (ys : List Value) : Prop := ∀ v ∈ ys, ∃ x t, v = .int x t ∧ 0 ≤ x ∧ x ≤ 89
theorem nums_nil : Nums [] := fun _ h => by cases h
theorem Nums.snoc {ys : List Value} {x : Int} {t : Tok} (h : Nums ys) (h0 : 0 ≤ x) (h1 : x ≤ 89) : Nums (ys ++ [.int x t]) := fun v hv => by
  rcases List.mem_append.mp hv with hv | hv
  · exact h v hv
  · exact ⟨x, t, List.mem_singleton.mp hv, h0, h1⟩
def CellsEnd (h₀ : Heap) (L : Addr) (m : Str → Option Value) (s₁ : Shared) (l : Addr) (pI pC pD pc : Addr × Obj) (y : Value) (s₂ : Shared) : Prop :=
  ∃ h' tk z t cs c, s₂ = { s₁ with heap := h', toks := tk } ∧ Fr h₀ L h' m ∧ News h₀ L h' [(l, W.listOf (List.toArray cs) c), pI, pC, pD, pc] ∧ Ints cs ∧ cs.length < 1000 ∧ y = .int z t ∧ 0 ≤ z ∧ z ≤ 89
theorem CellsEnd.intro {h₀ : Heap} {L : Addr} {m : Str → Option Value} {s₁ : Shared} {l : Addr} {pI pC pD pc : Addr × Obj} {h' : Heap} {tk : Nat} {z : Int} {t : Tok} {cs : List Value} {c : Nat}
    (F : Fr h₀ L h' m) (N : News h₀ L h' [(l, W.listOf (List.toArray cs) c), pI, pC, pD, pc]) (hi : Ints cs) (hz : cs.length < 1000) (z0 : 0 ≤ z) (z1 : z ≤ 89) : CellsEnd h₀ L m s₁ l pI pC pD pc (.int z t) { s₁ with heap := h', toks := tk } :=
  ⟨h', tk, z, t, cs, c, rfl, F, N, hi, hz, rfl, z0, z1⟩
section
variable {prog : Program} {w : World} {A : Around} {E : Value → Shared → Prop} {s : Shared} {h₀ : Heap} {L : Addr} {m : Str → Option Value} {env : Env}
theorem comp_cells {elt : PySem.Expr} {x : Str} {scope : Scope} {cl : List (Str × Addr)} {n : Nat} {Fin : List Value → List (Addr × Obj) → Prop} {l : Addr} {pc : Addr × Obj} {cs : List Value} {c : Nat} {a : Int}
    (ha : a = 0) (hi : Ints cs) (hz : cs.length < 1000) (hl : pc.1 ≠ l)
    (turn : ∀ k t I oI C oC D m₂ ys cs c h tk (E' : Value → Shared → Prop), 0 ≤ k → k < (n : Int) → Ints cs → cs.length < 1000 → LCg.NsObj oC m₂ → m₂ x = some (.int k t) → Fr h₀ L h m →
      News h₀ L h [(l, W.listOf (List.toArray cs) c), (I, oI), (C, oC), (D, LCg.lst ys), pc] → (∀ p ∈ [(I, oI), (C, oC), (D, LCg.lst ys), pc], p.1 ≠ l) →
      wpAny (model prog w) A (eval elt (compEnvC scope cl C env)) (CellsEnd h₀ L m { s with heap := h, toks := tk } l (I, oI) (C, oC) (D, LCg.lst ys) pc) E' { s with heap := h, toks := tk })
    (fin : ∀ ys cs c, Nums ys → ys.length = n → Ints cs → cs.length < 1000 → Fin ys [pc, (l, W.listOf (List.toArray cs) c)]) :
    LCg.CompRest prog w A h₀ L m env elt x scope cl s (fun _ => True) (fun i v => ∃ t, v = .int (a + (i : Int)) t) Fin n 0 [] [pc, (l, W.listOf (List.toArray cs) c)] := by
  subst ha
  have key : ∀ (j i : Nat) (ys cs : List Value) (c : Nat), i + j = n → Nums ys → ys.length = i → Ints cs → cs.length < 1000 →
      LCg.CompRest prog w A h₀ L m env elt x scope cl s (fun _ => True) (fun i v => ∃ t, v = .int (0 + (i : Int)) t) Fin j i ys [pc, (l, W.listOf (List.toArray cs) c)] := by
    intro j
    induction j with
    | zero => intro i ys cs c hij hy hyl hi hz; exact LCg.CompRest.zero (fin ys cs c hy (by omega) hi hz)
    | succ j ih =>
      intro i ys cs c hij hy hyl hi hz
      refine LCg.CompRest.succ ?_
      rintro v I oI C oC D m₂ h tk E' ⟨t, rfl⟩ hC hx F N off ne
      have hn : ∀ p ∈ [(I, oI), (C, oC), (D, LCg.lst ys), pc], p.1 ≠ l := by
        have o := off.2.1
        intro p hp
        simp only [List.mem_cons, List.not_mem_nil, or_false] at hp
        rcases hp with rfl | rfl | rfl | rfl
        · exact fun e => o.1 e.symm
        · exact fun e => o.2.1 e.symm
        · exact fun e => o.2.2 e.symm
        · exact hl
      have N₁ : News h₀ L h [(l, W.listOf (List.toArray cs) c), (I, oI), (C, oC), (D, LCg.lst ys), pc] := fun p hp => N p (by
        simp only [List.mem_cons, List.not_mem_nil, or_false] at hp ⊢
        rcases hp with h | h | h | h | h <;> simp [h])
      refine wpAny_mono (turn (0 + (i : Int)) t I oI C oC D m₂ ys cs c h tk E' (by omega) (by omega) hi hz hC hx F N₁ hn) (fun y s₂ q => ?_) fun _ _ e => e
      obtain ⟨h', tk', z, t', cs', c', rfl, F', N', hi', hz', rfl, z0, z1⟩ := q
      refine ⟨h', tk', [pc, (l, W.listOf (List.toArray cs') c')], rfl, F', fun p hp => N' p ?_, ⟨off.1, off.2.1, trivial⟩, trivial, ih (i + 1) _ cs' c' (by omega) (hy.snoc z0 z1) (by simp [hyl]) hi' hz'⟩
      simp only [List.mem_cons, List.not_mem_nil, or_false] at hp ⊢
      rcases hp with h | h | h | h | h <;> simp [h]
  exact key n 0 [] cs c (by omega) nums_nil rfl hi hz
end
/-! ### for .. in enumerate(..), whose turns make objects that stay -/
def Flat2 (l : List (Addr × Obj)) : Prop := ∀ p ∈ l, p.2.cls ≠ .type "list_iterator" ∧ p.2.cls ≠ .type "enumerate"
theorem flat2_nil : Flat2 [] := fun _ h => by cases h
theorem flat2_tup {a : Addr} {vs : List Value} {l : List (Addr × Obj)} (h : Flat2 l) : Flat2 ((a, tupleObj vs) :: l) := fun p hp => (List.mem_cons.mp hp).elim (fun e => by rw [e]; exact ⟨fun q => absurd (Value.type.inj q) (by decide), fun q => absurd (Value.type.inj q) (by decide)⟩) (h p)
theorem flat2_lst {a : Addr} {vs : Array Value} {n : Nat} {l : List (Addr × Obj)} (h : Flat2 l) : Flat2 ((a, W.listOf vs n) :: l) := fun p hp => (List.mem_cons.mp hp).elim (fun e => by rw [e]; exact ⟨fun q => absurd (Value.type.inj q) (by decide), fun q => absurd (Value.type.inj q) (by decide)⟩) (h p)
def GrowEnd2 (h₀ : Heap) (L : Addr) (J : (Str → Option Value) → List (Addr × Obj) → Prop) (p q : Addr × Obj) (s : Shared) (f : Flow) (s₂ : Shared) : Prop :=
  f = .next ∧ ∃ h' tk m' nx, s₂ = { s with heap := h', toks := tk } ∧ Fr h₀ L h' m' ∧ News h₀ L h' (p :: q :: nx) ∧ Flat2 nx ∧ J m' nx
section
variable {prog : Program} {w : World} {A : Around} {E : Value → Shared → Prop} {s : Shared} {env : Env} {h₀ : Heap} {body : List Stmt} {Q : Flow → Shared → Prop}
theorem enum_grow {elts : List PySem.Expr} {k : Nat} {pos : Pos} {l : Addr} {vs : List Value} {nn : Nat} {m₀ : Str → Option Value} {news : List (Addr × Obj)} (J : Nat → (Str → Option Value) → List (Addr × Obj) → Prop)
    (hh : A.handled = none) (hl : (l, W.listOf vs.toArray nn) ∈ news) (F : Fr h₀ env.locals s.heap m₀) (N : News h₀ env.locals s.heap news) (hf : Flat2 news) (hj : J 0 m₀ news)
    (turn : ∀ i v t T m₁ news₁ h tk p q, vs[i]? = some v → (l, W.listOf vs.toArray nn) ∈ news₁ → Flat2 news₁ → J i m₁ news₁ → IsTup h T #[.int (i : Int) t, v] → Fr h₀ env.locals h m₁ → News h₀ env.locals h (p :: q :: news₁) →
      wpAny (model prog w) A (assign (.Tuple elts k pos) env (.ref T)) (fun _ s₂ => wpAny (model prog w) A (execs body env) (GrowEnd2 h₀ env.locals (fun m' nx => (l, W.listOf vs.toArray nn) ∈ nx ∧ J (i + 1) m' nx) p q { s with heap := h, toks := tk }) E s₂) E { s with heap := h, toks := tk })
    (done : ∀ m₁ news₁ h tk, Flat2 news₁ → J vs.length m₁ news₁ → Fr h₀ env.locals h m₁ → News h₀ env.locals h news₁ → Q .next { s with heap := h, toks := tk }) :
    wpAny (model prog w) A (call (.type "enumerate") [.ref l]) (fun xv s₁ => wpAny (model prog w) A (pyIter xv) (fun it s₂ => TurnsAt prog w A h₀ env (.Tuple elts k pos) body Q E it s₂) E s₁) E s := by
  have hax := N _ hl
  have hls : s.heap.IsList l vs.toArray := ⟨_, hax.1, rfl, nn, rfl⟩
  have hlt : l < s.heap.objs.size := Heap.lt_size hax.1
  have hLs : env.locals < s.heap.objs.size := F.ns.lt
  refine call_enumerate_list hls fun h' hE hI hsz hk => ?_
  refine wpAny_pyIter_enum hE ?_
  have Wk := KTurns.ofWalksU (prog := prog) (w := w) (A := A) (elts := elts) (k := k) (pos := pos) (WalksT.enumerate (prog := prog) (w := w) hh (s.heap.objs.size + 1) s.heap.objs.size l (Nat.succ_ne_self _) (ktu_ne 1 hlt) (Nat.ne_of_lt hlt) vs.toArray).toU
  refine ⟨_, _, _, _, _, _, _, m₀, news, (fun i m nx => Flat2 nx ∧ (l, W.listOf vs.toArray nn) ∈ nx ∧ J i m nx), rfl, Wk, ?_, ?_, ?_, ?_, F.keeps hk, N.grown hk, ⟨hf, hl, hj⟩, ?_, ?_⟩
  · intro hI'
    have hb' : env.locals = s.heap.objs.size + 1 ∨ env.locals = s.heap.objs.size ∨ env.locals = l := by simpa using hI'
    rcases hb' with e | e | e
    · exact ktu_ne 1 hLs e
    · exact Nat.ne_of_lt hLs e
    · exact hax.2.1 e.symm
  · intro b hb
    have hb' : b = s.heap.objs.size + 1 ∨ b = s.heap.objs.size := by simpa using hb
    rcases hb' with rfl | rfl
    · exact ktu_new F (Nat.le_add_right _ _)
    · exact ktu_new F (Nat.le_refl _)
  · intro p hp hI'
    have hb' : p.1 = s.heap.objs.size + 1 ∨ p.1 = s.heap.objs.size := by simpa using hI'
    have hlp := Heap.lt_size (N p hp).1
    rcases hb' with e | e
    · exact ktu_ne 1 hlp e
    · exact Nat.ne_of_lt hlp e
  · exact ⟨⟨.none, hE⟩, hI, hls.at fun o e => hk l o e⟩
  · rintro i v m₁ news₁ h₁ tk₁ own hin ⟨T, vals, rfl, ⟨t, x, hx, rfl⟩, hT⟩ ⟨hfl, hl₁, hJ⟩ hoff hown hget hfp hSt F₁ N₁
    obtain ⟨⟨old, he⟩, ⟨oi, hoi, hic, _⟩, _⟩ := hSt
    have he' : ∃ oe : Obj, h₁.get? (s.heap.objs.size + 1) = some oe ∧ oe.cls = .type "enumerate" := ⟨_, he, rfl⟩
    obtain ⟨oe, hoe, hec⟩ := he'
    have hlo : h₁.get? l = some (W.listOf vs.toArray nn) := (N₁ _ (List.mem_append.mpr (.inr hl₁))).1
    have m1 : (s.heap.objs.size + 1, oe) ∈ own := hfp _ (by simp) (ktu_new F (Nat.le_add_right _ _)) _ hoe
    have m2 : (s.heap.objs.size, oi) ∈ own := hfp _ (by simp) (ktu_new F (Nat.le_refl _)) _ hoi
    have N₂ : News h₀ env.locals h₁ ((s.heap.objs.size + 1, oe) :: (s.heap.objs.size, oi) :: news₁) := fun p hp => by
      rcases List.mem_cons.mp hp with rfl | hp
      · exact N₁ _ (List.mem_append_left _ m1)
      · rcases List.mem_cons.mp hp with rfl | hp
        · exact N₁ _ (List.mem_append_left _ m2)
        · exact N₁ _ (List.mem_append_right _ hp)
    refine wpAny_mono (turn i x t T m₁ news₁ h₁ tk₁ _ _ (by simpa using hx) hl₁ hfl hJ hT F₁ N₂) (fun _ s₂ q => wpAny_mono q (fun f s₃ q => ?_) fun _ _ e => e) fun _ _ e => e
    obtain ⟨rfl, h', tk, m', nx, e, F', N', hf', hm'⟩ := q
    have z1 := (N' _ (.head _)).1
    have z2 := (N' _ (.tail _ (.head _))).1
    refine LoopStepV.next ⟨rfl, h', tk, m', nx, e, F', fun p hp => ?_, fun p hp hI => ?_, hf', hm'.1, hm'.2⟩
    · rcases List.mem_append.mp hp with h | h
      · have h2 : h₁.get? p.1 = some p.2 := hget p h
        have h3 : p.1 = s.heap.objs.size + 1 ∨ p.1 = s.heap.objs.size ∨ p.1 = l := by simpa using hown p h
        rcases h3 with h3 | h3 | h3
        · rw [h3, hoe] at h2
          have : p = (s.heap.objs.size + 1, oe) := Prod.ext h3 (Option.some.inj h2).symm
          rw [this]; exact N' _ (.head _)
        · rw [h3, hoi] at h2
          have : p = (s.heap.objs.size, oi) := Prod.ext h3 (Option.some.inj h2).symm
          rw [this]; exact N' _ (.tail _ (.head _))
        · rw [h3, hlo] at h2
          have : p = (l, W.listOf vs.toArray nn) := Prod.ext h3 (Option.some.inj h2).symm
          rw [this]; exact N' _ (.tail _ (.tail _ hm'.1))
      · exact N' p (.tail _ (.tail _ h))
    · have h1 := (N' p (.tail _ (.tail _ hp))).1
      have h3 := hf' p hp
      have hb' : p.1 = s.heap.objs.size + 1 ∨ p.1 = s.heap.objs.size := by simpa using hI
      rcases hb' with h4 | h4
      · rw [h4, z1] at h1
        rw [← Option.some.inj h1] at h3
        exact h3.2 hec
      · rw [h4, z2] at h1
        rw [← Option.some.inj h1] at h3
        exact h3.1 hic
  · rintro h' tk m' news' F' N' _ ⟨hfl, _, hJ⟩
    exact done m' news' h' tk hfl (by simpa using hJ) F' N'
end
/-! ### the loop that lays a sum -/
def SumQ (P : Addr → Array Value → Prop) (items : List Value) (v : Int) : Prop :=
  ∀ (P' : Addr → Array Value → Prop) (post : List Value) (e V : Int), (∀ a vs, P a vs → P' a vs) → SumP P' (items ++ post) (items.length : Int) v e V → SumP P' (items ++ post) (0 + 1) 5 e V
theorem SumQ.mono {P P' : Addr → Array Value → Prop} {items : List Value} {v : Int} (h : SumQ P items v) (hp : ∀ a vs, P a vs → P' a vs) : SumQ P' items v := fun P'' post e V hq => h P'' post e V fun a vs x => hq _ _ (hp _ _ x)
theorem SumQ.sum {P : Addr → Array Value → Prop} {items : List Value} {v : Int} (h : SumQ P items v) : SumP P items (0 + 1) 5 (items.length : Int) v := by
  have := h P [] (items.length : Int) v (fun _ _ x => x)
  rw [List.append_nil] at this
  exact this (.stop rfl)
theorem tok_mid {items post : List Value} {v : Value} {j : Nat} {k : Int} (hk : k = ((items.length + j : Nat) : Int)) (h : post[j]? = some v) : tokAt (items ++ post) k = v := by
  subst hk
  have hj : j < post.length := (List.getElem?_eq_some_iff.mp h).1
  rw [tokAt, if_pos (by simp; omega), Int.toNat_natCast, List.getElem?_append_right (by omega), Nat.add_sub_cancel_left, h]; rfl
theorem SumQ.plus {P : Addr → Array Value → Prop} {items : List Value} {v n : Int} {a b : Addr} {u1 u2 u3 u4 : Tok} (h : SumQ P items v) (pa : P a #[.str "sign" u1, .str "+" u2]) (pb : P b #[.str "number" u3, .int n u4])
    (n0 : 0 ≤ n) (n1 : n ≤ 32767) (v0 : -32768 ≤ v + n) (v1 : v + n ≤ 32767) : SumQ P (items ++ [.ref a, .ref b]) (v + n) := fun P' post e V hp hs => by
  have z : items ++ [.ref a, .ref b] ++ post = items ++ (.ref a :: .ref b :: post) := by simp
  rw [z] at hs ⊢
  refine h P' _ e V hp (.plus (by omega) (by simp; omega) (tok_mid (j := 0) (by simp) rfl) (hp _ _ pa) (tok_mid (j := 1) (by simp) rfl) (hp _ _ pb) n0 n1 v0 v1 ?_)
  have e1 : (items.length : Int) + 1 + 1 = ((items ++ [Value.ref a, Value.ref b]).length : Int) := by simp; omega
  rw [e1]; exact hs
theorem SumQ.minus {P : Addr → Array Value → Prop} {items : List Value} {v n : Int} {a b : Addr} {u1 u2 u3 u4 : Tok} (h : SumQ P items v) (pa : P a #[.str "sign" u1, .str "-" u2]) (pb : P b #[.str "number" u3, .int n u4])
    (n0 : 0 ≤ n) (n1 : n ≤ 32767) (v0 : -32768 ≤ v - n) (v1 : v - n ≤ 32767) : SumQ P (items ++ [.ref a, .ref b]) (v - n) := fun P' post e V hp hs => by
  have z : items ++ [.ref a, .ref b] ++ post = items ++ (.ref a :: .ref b :: post) := by simp
  rw [z] at hs ⊢
  refine h P' _ e V hp (.minus (by omega) (by simp; omega) (tok_mid (j := 0) (by simp) rfl) (hp _ _ pa) (tok_mid (j := 1) (by simp) rfl) (hp _ _ pb) n0 n1 v0 v1 ?_)
  have e1 : (items.length : Int) + 1 + 1 = ((items ++ [Value.ref a, Value.ref b]).length : Int) := by simp; omega
  rw [e1]; exact hs
def RowMap2 (m₀ : Str → Option Value) (row : Addr) (v : Int) (m₁ : Str → Option Value) : Prop :=
  (∃ t, m₁ ("row" : Str) = some (.ref row) ∧ m₁ ("value" : Str) = some (.int v t)) ∧ ∀ z, z ≠ ("row" : Str) → z ≠ ("value" : Str) → z ≠ ("at" : Str) → z ≠ ("number" : Str) → m₁ z = m₀ z
theorem RowMap2.form {m₀ m₁ : Str → Option Value} {row : Addr} {v : Int} (h : RowMap2 m₀ row v m₁) : ∃ t u1 u2, m₁ = fun z => if z = ("row" : Str) then some (.ref row) else if z = ("value" : Str) then some (.int v t) else if z = ("at" : Str) then u1 else if z = ("number" : Str) then u2 else m₀ z := by
  obtain ⟨⟨t, e1, e2⟩, r⟩ := h
  refine ⟨t, m₁ ("at" : Str), m₁ ("number" : Str), ?_⟩
  funext z
  by_cases h1 : z = ("row" : Str)
  · rw [if_pos h1, h1, e1]
  rw [if_neg h1]
  by_cases h2 : z = ("value" : Str)
  · rw [if_pos h2, h2, e2]
  rw [if_neg h2]
  by_cases h3 : z = ("at" : Str)
  · rw [if_pos h3, h3]
  rw [if_neg h3]
  by_cases h4 : z = ("number" : Str)
  · rw [if_pos h4, h4]
  rw [if_neg h4]
  exact r z h1 h2 h3 h4
/-- what a turn adds: its sign and the new value -/
def Adds (sg : Str) (v n v' : Int) : Prop := (sg = ("+" : Str) ∧ v' = v + n) ∨ (sg = ("-" : Str) ∧ v' = v - n)
def AddEnd (h₀ : Heap) (L : Addr) (m₀ : Str → Option Value) (n v : Int) (items : List Value) (p q R : Addr × Obj) (tks : List (Addr × Obj)) (s : Shared) (f : Flow) (s₂ : Shared) : Prop :=
  f = .next ∧ ∃ h' tk m' row' c' a b sg v' u1 u2 u3 u4, s₂ = { s with heap := h', toks := tk } ∧ Fr h₀ L h' m' ∧ RowMap2 m₀ row' v' m' ∧ Adds sg v n v' ∧
    News h₀ L h' ((row', W.listOf (List.toArray (items ++ [.ref a, .ref b])) c') :: (a, tupleObj [.str "sign" u1, .str sg u2]) :: (b, tupleObj [.str "number" u3, .int n u4]) :: p :: q :: R :: tks)
theorem AddEnd.intro {h₀ : Heap} {L : Addr} {m₀ m' : Str → Option Value} {n v v' : Int} {items : List Value} {p q R : Addr × Obj} {tks : List (Addr × Obj)} {s : Shared} {h' : Heap} {tk : Nat} {row' a b : Addr} {c' : Nat} {sg : Str} {u1 u2 u3 u4 : Tok}
    (F : Fr h₀ L h' m') (M : RowMap2 m₀ row' v' m') (D : Adds sg v n v') (N : News h₀ L h' ((row', W.listOf (List.toArray (items ++ [.ref a, .ref b])) c') :: (a, tupleObj [.str "sign" u1, .str sg u2]) :: (b, tupleObj [.str "number" u3, .int n u4]) :: p :: q :: R :: tks)) :
    AddEnd h₀ L m₀ n v items p q R tks s .next { s with heap := h', toks := tk } := ⟨rfl, h', tk, m', row', c', a, b, sg, v', u1, u2, u3, u4, rfl, F, M, D, N⟩
theorem Adds.here {P : Addr → Array Value → Prop} {items : List Value} {v v' n : Int} {a b : Addr} {sg : Str} {u1 u2 u3 u4 : Tok} (d : Adds sg v n v') (h : SumQ P items v) (pa : P a #[.str "sign" u1, .str sg u2]) (pb : P b #[.str "number" u3, .int n u4])
    (n0 : 0 ≤ n) (n1 : n ≤ 89) (v0 : -20000 ≤ v) (v1 : v ≤ 20000) : SumQ P (items ++ [.ref a, .ref b]) v' := by
  rcases d with ⟨rfl, rfl⟩ | ⟨rfl, rfl⟩
  · exact h.plus pa pb n0 (by omega) (by omega) (by omega)
  · exact h.minus pa pb n0 (by omega) (by omega) (by omega)
theorem Adds.bound {v v' n b : Int} {sg : Str} (d : Adds sg v n v') (n0 : 0 ≤ n) (n1 : n ≤ 89) (h0 : -b ≤ v) (h1 : v ≤ b) : -(b + 89) ≤ v' ∧ v' ≤ b + 89 := by
  rcases d with ⟨rfl, rfl⟩ | ⟨rfl, rfl⟩ <;> omega
section
variable {prog : Program} {w : World} {A : Around} {E : Value → Shared → Prop} {s : Shared} {env : Env} {h₀ : Heap} {body : List Stmt} {Q : Flow → Shared → Prop}
theorem iter_sum {elts : List PySem.Expr} {k : Nat} {pos : Pos} {D row ta : Addr} {ys : List Value} {nn c : Nat} {m₀ : Str → Option Value} {u1 u2 : Tok}
    (hh : A.handled = none) (hy : Nums ys) (hn : ys.length ≤ 200) (F : Fr h₀ env.locals s.heap m₀)
    (N : News h₀ env.locals s.heap [(row, W.listOf #[.ref ta] c), (ta, tupleObj [.str "number" u1, .int 5 u2]), (D, W.listOf ys.toArray nn)]) (M : RowMap2 m₀ row 5 m₀)
    (turn : ∀ i x ti tx T row c items v tks p q t1 u1 u2 h tk, 0 ≤ i → i < 200 → 0 ≤ x → x ≤ 89 → items.length ≤ 700 → -20000 ≤ v → v ≤ 20000 → IsTup h T #[.int i ti, .int x tx] →
      Fr h₀ env.locals h (fun z => if z = ("row" : Str) then some (.ref row) else if z = ("value" : Str) then some (.int v t1) else if z = ("at" : Str) then u1 else if z = ("number" : Str) then u2 else m₀ z) →
      News h₀ env.locals h (p :: q :: (row, W.listOf (List.toArray items) c) :: tks) →
      wpAny (model prog w) A (assign (.Tuple elts k pos) env (.ref T)) (fun _ s₂ => wpAny (model prog w) A (execs body env) (AddEnd h₀ env.locals m₀ x v items p q (row, W.listOf (List.toArray items) c) tks s) E s₂) E { s with heap := h, toks := tk })
    (done : ∀ row c items v tks ta t1 u1 u2 u3 u4 h tk, 0 < (items.length : Int) → tokAt items 0 = .ref ta → InTup ((row, W.listOf (List.toArray items) c) :: tks) ta #[.str "number" u3, .int 5 u4] → SumP (InTup ((row, W.listOf (List.toArray items) c) :: tks)) items (0 + 1) 5 (items.length : Int) v → items.length ≤ 700 →
      Fr h₀ env.locals h (fun z => if z = ("row" : Str) then some (.ref row) else if z = ("value" : Str) then some (.int v t1) else if z = ("at" : Str) then u1 else if z = ("number" : Str) then u2 else m₀ z) →
      News h₀ env.locals h ((row, W.listOf (List.toArray items) c) :: tks) → Q .next { s with heap := h, toks := tk }) :
    wpAny (model prog w) A (call (.type "enumerate") [.ref D]) (fun xv s₁ => wpAny (model prog w) A (pyIter xv) (fun it s₂ => TurnsAt prog w A h₀ env (.Tuple elts k pos) body Q E it s₂) E s₁) E s := by
  refine enum_grow (fun i m₁ nx => ∃ row c items v tks, RowMap2 m₀ row v m₁ ∧ nx = (row, W.listOf (List.toArray items) c) :: tks ∧ (D, W.listOf ys.toArray nn) ∈ tks ∧ (ta, tupleObj [.str "number" u1, .int 5 u2]) ∈ tks ∧ items[0]? = some (.ref ta) ∧ SumQ (InTup tks) items v ∧ -(5 + 89 * (i : Int)) ≤ v ∧ v ≤ 5 + 89 * (i : Int) ∧ items.length = 1 + 2 * i)
    hh (.tail _ (.tail _ (.head _))) F N (flat2_lst (flat2_tup (flat2_lst flat2_nil))) ⟨row, c, [.ref ta], 5, _, M, rfl, .tail _ (.head _), .head _, rfl, ?_, by omega, by omega, by simp⟩ ?_ ?_
  · exact fun P' post e V _ hs => hs
  · rintro i v' t T m₁ nx h tk p q hv hD hf ⟨row, c, items, v, tks, M₁, rfl, hDt, hta, h0, P, b0, b1, bl⟩ hT F₁ N₁
    have hlt : i < ys.length := (List.getElem?_eq_some_iff.mp hv).1
    obtain ⟨x, tx, rfl, x0, x1⟩ := hy v' (List.mem_of_getElem? hv)
    obtain ⟨t1, u1', u2', rfl⟩ := M₁.form
    refine wpAny_mono (turn (i : Int) x t tx T row c items v tks p q t1 u1' u2' h tk (by omega) (by omega) x0 x1 (by omega) (by omega) (by omega) hT F₁ N₁) (fun _ s₂ q' => wpAny_mono q' (fun f s₃ q' => ?_) fun _ _ e => e) fun _ _ e => e
    obtain ⟨rfl, h', tk', m', row', c', a, b, sg, v'', w1, w2, w3, w4, rfl, F', M', d, N'⟩ := q'
    have hft : Flat2 ((row, W.listOf (List.toArray items) c) :: tks) := hf
    have wb := d.bound (b := 5 + 89 * (i : Int)) x0 x1 b0 b1
    refine ⟨rfl, h', tk', m', (row', W.listOf (List.toArray (items ++ [.ref a, .ref b])) c') :: (a, tupleObj [.str "sign" w1, .str sg w2]) :: (b, tupleObj [.str "number" w3, .int x w4]) :: (row, W.listOf (List.toArray items) c) :: tks, rfl, F', fun y hy => N' y ?_, flat2_lst (flat2_tup (flat2_tup hft)), .tail _ (.tail _ (.tail _ (.tail _ hDt))), row', c', _, v'', _, M', rfl, .tail _ (.tail _ (.tail _ hDt)), .tail _ (.tail _ (.tail _ hta)), ?_, ?_, by omega, by omega, by simp; omega⟩
    · rcases List.mem_cons.mp hy with e | hy
      · rw [e]; exact .tail _ (.tail _ (.tail _ (.head _)))
      rcases List.mem_cons.mp hy with e | hy
      · rw [e]; exact .tail _ (.tail _ (.tail _ (.tail _ (.head _))))
      rcases List.mem_cons.mp hy with e | hy
      · rw [e]; exact .head _
      rcases List.mem_cons.mp hy with e | hy
      · rw [e]; exact .tail _ (.head _)
      rcases List.mem_cons.mp hy with e | hy
      · rw [e]; exact .tail _ (.tail _ (.head _))
      · exact .tail _ (.tail _ (.tail _ (.tail _ (.tail _ hy))))
    · rw [List.getElem?_append_left (by omega)]; exact h0
    · exact d.here (P.mono fun a vs y => intup_sub (fun p hp => .tail _ (.tail _ (.tail _ hp))) y) ⟨_, .head _, rfl, _, rfl⟩ ⟨_, .tail _ (.head _), rfl, _, rfl⟩ x0 x1 (by omega) (by omega)
  · rintro m₁ nx h tk hf ⟨row, c, items, v, tks, M₁, rfl, hDt, hta, h0, P, b0, b1, bl⟩ F₁ N₁
    obtain ⟨t1, u1', u2', rfl⟩ := M₁.form
    refine done row c items v tks ta t1 u1' u2' _ _ h tk (by omega) ?_ ⟨_, .tail _ hta, rfl, _, rfl⟩ (P.mono fun a vs y => intup_sub (fun p hp => .tail _ hp) y).sum (by omega) F₁ N₁
    rw [tokAt, if_pos (by omega)]
    simp [h0]
end
/-! ### rows without an end, and places within places -/
theorem tok_rep {x : Value} {n j : Nat} {k : Int} (hk : k = (j : Int)) (h : j < n) : tokAt (List.replicate n x) k = x := by
  subst hk
  rw [tokAt, if_pos (by simp; omega), Int.toNat_natCast, List.getElem?_replicate, if_pos h]; rfl
theorem rep_parse {P : Addr → Array Value → Prop} {a : Addr} {sg : Str} {u1 u2 : Tok} {n : Nat} (pa : P a #[.str "sign" u1, .str sg u2]) (hs : sg = ("(" : Str) ∨ sg = ("-" : Str)) : Parse P (List.replicate n (.ref a)) 0 n none := by
  have key : ∀ j k : Nat, k + j = n → Parse P (List.replicate n (.ref a)) (k : Int) j none := by
    intro j
    induction j with
    | zero => intro k hk; exact Parse.fin (by simp; omega)
    | succ j ih =>
      intro k hk
      have t : Two P (List.replicate n (.ref a)) (k : Int) "sign" sg := ⟨by omega, by simp; omega, a, u1, u2, tok_rep rfl (by omega), pa⟩
      have hn := ih (k + 1) (by omega)
      rcases hs with rfl | rfl
      · exact Parse.par t hn fun v e q => by cases q
      · exact Parse.neg t hn fun v e q => by cases q
  exact key n 0 (by omega)
/-- the row A(A(.. 0 ..)) -/
def elems (n : Nat) (a b c d : Value) : List Value := (List.replicate n [a, b]).flatten ++ [c] ++ List.replicate n d
theorem flat_len {n : Nat} {a b : Value} : (List.replicate n [a, b]).flatten.length = 2 * n := by
  induction n with
  | zero => rfl
  | succ n ih => rw [List.replicate_succ, List.flatten_cons, List.length_append, ih]; simp; omega
theorem flat_get {n : Nat} {a b : Value} : ∀ j, j < n → (List.replicate n [a, b]).flatten[2 * j]? = some a ∧ (List.replicate n [a, b]).flatten[2 * j + 1]? = some b := by
  induction n with
  | zero => intro j h; omega
  | succ n ih =>
    intro j h
    rw [List.replicate_succ, List.flatten_cons]
    cases j with
    | zero => exact ⟨rfl, rfl⟩
    | succ j =>
      have := ih j (by omega)
      constructor
      · rw [List.getElem?_append_right (by simp; omega)]; have e : 2 * (j + 1) - [a, b].length = 2 * j := by simp; omega
        rw [e]; exact this.1
      · rw [List.getElem?_append_right (by simp; omega)]; have e : 2 * (j + 1) + 1 - [a, b].length = 2 * j + 1 := by simp; omega
        rw [e]; exact this.2
theorem elems_len {n : Nat} {a b c d : Value} : (elems n a b c d).length = 3 * n + 1 := by
  rw [elems, List.length_append, List.length_append, flat_len, List.length_replicate]; simp; omega
theorem elems_tok {n : Nat} {a b c d v : Value} {k : Int} {j : Nat} (hk : k = (j : Int)) (h : (elems n a b c d)[j]? = some v) : tokAt (elems n a b c d) k = v := by
  subst hk
  have hj := (List.getElem?_eq_some_iff.mp h).1
  rw [tokAt, if_pos (by omega), Int.toNat_natCast, h]; rfl
theorem elems_parse {P : Addr → Array Value → Prop} {n : Nat} {a b c d : Addr} {u1 u2 u3 u4 u5 u6 u7 u8 : Tok} (pa : P a #[.str "name" u1, .str "A" u2]) (pb : P b #[.str "sign" u3, .str "(" u4]) (pc : P c #[.str "number" u5, .int 0 u6]) (pd : P d #[.str "sign" u7, .str ")" u8]) :
    Parse P (elems n (.ref a) (.ref b) (.ref c) (.ref d)) 0 n (some (0, ((elems n (.ref a) (.ref b) (.ref c) (.ref d)).length : Int))) := by
  have hl : (elems n (.ref a) (.ref b) (.ref c) (.ref d)).length = 3 * n + 1 := elems_len
  have g0 : ∀ j, j < n → (elems n (.ref a) (.ref b) (.ref c) (.ref d))[2 * j]? = some (.ref a) ∧ (elems n (.ref a) (.ref b) (.ref c) (.ref d))[2 * j + 1]? = some (.ref b) := fun j hj => by
    have := flat_get (n := n) (a := Value.ref a) (b := Value.ref b) j hj
    rw [elems, List.append_assoc, List.getElem?_append_left (by rw [flat_len]; omega), List.getElem?_append_left (by rw [flat_len]; omega)]
    exact this
  have g1 : (elems n (.ref a) (.ref b) (.ref c) (.ref d))[2 * n]? = some (.ref c) := by
    rw [elems, List.append_assoc, List.getElem?_append_right (by rw [flat_len]; omega), flat_len, Nat.sub_self]; rfl
  have g2 : ∀ j, j < n → (elems n (.ref a) (.ref b) (.ref c) (.ref d))[2 * n + 1 + j]? = some (.ref d) := fun j hj => by
    rw [elems, List.getElem?_append_right (by rw [List.length_append, flat_len]; simp <;> omega), List.length_append, flat_len]
    have e : 2 * n + 1 + j - (2 * n + [Value.ref c].length) = j := by simp <;> omega
    rw [e, List.getElem?_replicate, if_pos hj]
  have key : ∀ j k : Nat, k + j = n → Parse P (elems n (.ref a) (.ref b) (.ref c) (.ref d)) ((2 * k : Nat) : Int) j (some (0, ((2 * n + 1 + j : Nat) : Int))) := by
    intro j
    induction j with
    | zero =>
      intro k hk
      obtain rfl : k = n := by omega
      exact (Parse.num (by omega) (by omega) (elems_tok rfl g1) pc (by omega) (by omega)).cast rfl (by congr 2)
    | succ j ih =>
      intro k hk
      have t1 : Two P (elems n (.ref a) (.ref b) (.ref c) (.ref d)) ((2 * k : Nat) : Int) "name" "A" := ⟨by omega, by omega, a, u1, u2, elems_tok rfl (g0 k (by omega)).1, pa⟩
      have t2 : Two P (elems n (.ref a) (.ref b) (.ref c) (.ref d)) (((2 * k : Nat) : Int) + 1) "sign" "(" := ⟨by omega, by omega, b, u3, u4, elems_tok (by omega) (g0 k (by omega)).2, pb⟩
      have t3 : Two P (elems n (.ref a) (.ref b) (.ref c) (.ref d)) ((2 * n + 1 + j : Nat) : Int) "sign" ")" := ⟨by omega, by omega, d, u7, u8, elems_tok rfl (g2 j (by omega)), pd⟩
      have hn := (ih (k + 1) (by omega)).cast (k' := ((2 * k : Nat) : Int) + 1 + 1) (by omega) rfl
      exact (Parse.elem t1 t2 hn (fun v e q => by cases q; rfl) (fun v e q => by cases q; exact t3)).cast rfl (by simp only [Option.map_some]; congr 2)
  exact (key n 0 (by omega)).cast rfl (by rw [hl]; congr 2; omega)
section
variable {prog : Program} {w : World} {A : Around} {E : Value → Shared → Prop} {s : Shared} {h₀ : Heap} {L : Addr} {m : Str → Option Value} {news : List (Addr × Obj)} {l : Addr} {vs : List Value} {x : Int} {u : Tok} {Q : Value → Shared → Prop}
/-- a made list taken many times -/
theorem mul_list_any (Fm : Fr h₀ L s.heap m) (N : News h₀ L s.heap news) {c : Nat} (hl : (l, W.listOf (List.toArray vs) c) ∈ news) (hlo : 0 ≤ x) (hhi : x ≤ 200) (hsz : vs.length ≤ 2)
    (h : ∀ D h', Fr h₀ L h' m → News h₀ L h' ((D, W.listOf (List.toArray (List.replicate x.toNat vs).flatten) 0) :: news) → (∀ p ∈ news, p.1 < D) → Q (.ref D) { s with heap := h' }) : wpAny (model prog w) A (binaryOp .Mult (.ref l) (.int x u)) Q E s := by
  have ho := (N _ hl).1
  have hx : x.toNat ≤ 200 := by omega
  have hm : vs.length * x.toNat ≤ 2 * 200 := Nat.mul_le_mul hsz hx
  have hsz' : vs.toArray.size * x.toNat ≤ 400 := by simpa using hm
  refine wpAny_binaryOp_repeat_ref (T := "list") (U := "int") (by decide) ⟨_, ho, rfl⟩ (fun s' => typeIs_int s' x u) noFill_list_mul F.fills_int_mul F.slot_int_rmul repeat_list F.slot_int_index.lookup
    (call_meets F.slot_int_rmul (typeIs_int s x u) F.entry_int_rmul (F.args_int_rmul_2 _ _) (lm_int_rmul_list_any x u l vs.toArray c none _)
      ⟨ho, rfl, ⟨_, ho, rfl⟩, call_meets F.slot_list_mul ⟨_, ho, rfl⟩ F.entry_list_mul (F.args_list_mul_2 _ _)
        (lm_list_mul_any l vs.toArray c none _ x u (by simp [Builtin.List.listFitsIndex]; omega) (by omega) (by simp [Builtin.List.listTooLong, sizeLine]; omega))
        ⟨ho, ?_⟩⟩)
  have N' := News.push Fm N { cls := Value.type "list", data := Data.seq (List.foldl (fun x1 x2 => x1 ++ x2) #[] (List.replicate (if vs.toArray.isEmpty = true then 0 else x.toNat) vs.toArray)) }
  rw [listMul_foldl_if] at N'
  rw [listMul_foldl_if]
  exact h _ _ (Fm.push _) N' (fun p hp => Heap.lt_size (N p hp).1)
end
theorem flat_one {n : Nat} {a : Value} : (List.replicate n [a]).flatten = List.replicate n a := by
  induction n with
  | zero => rfl
  | succ n ih => rw [List.replicate_succ, List.flatten_cons, ih]; rfl
theorem one_parse {P : Addr → Array Value → Prop} {a : Addr} {sg : Str} {u1 u2 : Tok} {n : Nat} (hs : sg = ("(" : Str) ∨ sg = ("-" : Str)) (pa : P a #[.str "sign" u1, .str sg u2]) : Parse P (List.replicate n [Value.ref a]).flatten 0 n none := by
  rw [flat_one]; exact rep_parse pa hs
theorem elems_is {n : Nat} {a b c d : Value} : (List.replicate n [a, b]).flatten ++ [c] ++ (List.replicate n [d]).flatten = elems n a b c d := by rw [flat_one]; rfl
theorem row_parse {P : Addr → Array Value → Prop} {n : Nat} {a b c d : Addr} {u1 u2 u3 u4 u5 u6 u7 u8 : Tok} (pa : P a #[.str "name" u1, .str "A" u2]) (pb : P b #[.str "sign" u3, .str "(" u4]) (pc : P c #[.str "number" u5, .int 0 u6]) (pd : P d #[.str "sign" u7, .str ")" u8]) :
    Parse P ((List.replicate n [Value.ref a, .ref b]).flatten ++ [Value.ref c] ++ (List.replicate n [Value.ref d]).flatten) 0 n (some (0, (((List.replicate n [Value.ref a, .ref b]).flatten ++ [Value.ref c] ++ (List.replicate n [Value.ref d]).flatten).length : Int))) := by
  rw [elems_is]; exact elems_parse pa pb pc pd
theorem flat_len1 {n : Nat} {a : Value} : (List.replicate n [a]).flatten.length = n := by rw [flat_one, List.length_replicate]
section
theorem said23 : True := by
  (k_with "m:call ref" => (k_here; (with_reducible show wpAny _ _ (call (Value.ref 301) _ _) _ _ _); k_dflt (refine' c_next _ ?kBz57 ?kFz57 ?kXz57 ?kNz57 ?kTz57 ?kKz57 ?kiz57 ?kzz57 ?knez57 ?kdz57 ?kuz57 ?_; (case kBz57 => assumption); (case kFz57 => k_asm); (case kXz57 => k_asm); (case kNz57 => k_asm); (case kTz57 => k_asm); (case kKz57 => exact rfl); (case kiz57 => assumption); (case kzz57 => assumption); (case knez57 => first | assumption | k_all); (case kdz57 => ktr_room); (case kuz57 => ktr_units); k_whole; intro h' tk' n' u' vs' c' hi' hz' F' N'; (try k_sweep))))
  (k_with "m:exec Assign cons ListComp" => (k_here; k_dflt (refine LCg.Assign_ListComp_U (F₀ := by k_asm) (by rfl) (by with_unfolding_all rfl) (by rfl) (by decide) (by rfl) (by decide) (by rfl) (by rfl) (by rfl) ?_); k_dflt lcg_toSrc))
  (k_with "m:CompSrc" => (k_here; k_dflt (refine LCg.CompSrc.range (by rfl) (by k_asm) (by k_asm) (by assumption) (small_one (by omega) (by omega) (by omega) (by omega)) (rangeSize_nat _ _) (by rw [PySem.sizeLine_eq]; omega) ?_); intro g'; k_dflt (refine' comp_cells rfl ?hiz59 ?hzz59 ?hlz59 ?turnz59 ?finz59; (case hiz59 => assumption); (case hzz59 => assumption); (case hlz59 => k_ne); (case' turnz59 => intro k' t' I' oI' C' oC' D' m' ys' cs' c' h' tk' E' k0' k1' hi' hz' hC' hx' F' N' ne'); (case' finz59 => intro ys' cs' c' hy' hyl' hi' hz'))))
  (k_with "m:CellsEnd" => (k_here; k_dflt (refine' CellsEnd.intro ?Fz60 ?Nz60 ?hiz60 ?hzz60 ?z0z60 ?z1z60; (case Fz60 => k_asm); (case Nz60 => k_asm); (case hiz60 => assumption); (case hzz60 => assumption); (case z0z60 => exact fm_lo _ (by decide)); (case z1z60 => exact fm_hi _ (by decide)))))
  (k_with "m:exec For Tuple Call cons nil" => (k_here; (rename Fr _ _ _ _ => lF'); (with_unfolding_all refine' For_turns lF' ?_; k_whole)))
  (k_with "m:call type:enumerate" => (k_here; k_dflt (refine' iter_sum ?hhz62 ?hyz62 ?hnz62 ?Fz62 ?Nz62 ?Mz62 ?turnz62 ?donez62; (case hhz62 => exact rfl); (case Fz62 => k_asm); (case Mz62 => exact ⟨⟨_, rfl, rfl⟩, fun _ _ _ _ _ => rfl⟩); (case hyz62 => assumption); (case Nz62 => exact news_sub (by k_asm) (List.forall_mem_cons.mpr ⟨by k_mem, List.forall_mem_cons.mpr ⟨by k_mem, List.forall_mem_cons.mpr ⟨by k_mem, List.forall_mem_nil _⟩⟩⟩)); (case hnz62 => omega); (case' turnz62 => intro i' x' ti' tx' T' row' c' items' v' tks' p' q' t1' u1' u2' h' tk' i0' i1' x0' x1' hz' b0' b1' hT' F' N'; (try k_sweep)); (case' donez62 => intro row' c' items' v' tks' ta' t1' u1' u2' u3' u4' h' tk' pk' hv' ht' R' hz' F' N'; (try k_sweep)))))
  (k_with "m:binaryOp Add ref ref" => (k_here; (with_reducible show wpAny _ _ (binaryOp _ (Value.ref _) (Value.ref _)) _ _ _); k_dflt (refine' cat2 ?Fz63 ?Nz63 ?az63 ?bz63 ?zz63 ?_; (case Fz63 => k_asm); (case Nz63 => k_asm); (case az63 => k_mem); (case bz63 => k_mem); (case zz63 => ((try simp only [List.length_append, List.length_cons, List.length_nil]); omega)); k_whole; intro D' h' F' N'; (try k_sweep))))
  (k_with "m:call ref" => (k_here; (with_reducible show wpAny _ _ (call (Value.ref 308) _ _) _ _ _); k_dflt (refine' c_heard_sum _ ?kBz64 ?kFz64 ?kXz64 ?kNz64 ?kTz64 ?kKz64 ?kXBz64 ?kTBz64 ?hmz64 ?hszz64 ?p1z64 ?hvz64 ?htz64 ?q0z64 ?q1z64 ?hRz64 ?kdz64 ?kuz64 ?_; (case kBz64 => assumption); (case kFz64 => k_asm); (case kXz64 => k_asm); (case kNz64 => k_asm); (case kTz64 => k_asm); (case kKz64 => exact rfl); (case kXBz64 => assumption); (case kTBz64 => assumption); (case hmz64 => k_mem); (case hszz64 => omega); (case p1z64 => assumption); (case hvz64 => assumption); (case htz64 => assumption); (case q0z64 => decide); (case q1z64 => decide); (case hRz64 => assumption); (case kdz64 => ktr_room); (case kuz64 => ktr_units); k_whole; intro t' g' h' tk' u1' u2' KT' F' N' B'; (have X9' := Frag.In.keeps (by assumption) (Below.stays B')); (have T9' := Top.keeps (by assumption) (Below.stays B')); (try k_sweep))))
  (k_with "m:AddEnd" => (k_here; first | (exfalso; contradiction) | (exfalso; omega) | k_dflt (refine' AddEnd.intro ?kFz65 ?kMz65 ?kDz65 ?kNz65; (case kFz65 => k_asm); (case kMz65 => exact ⟨⟨_, rfl, rfl⟩, fun z z1 z2 z3 z4 => by simp only [z1, z2, z3, z4, if_false]⟩); (case kDz65 => first | exact Or.inl ⟨rfl, rfl⟩ | exact Or.inr ⟨rfl, rfl⟩); (case kNz65 => exact news_sub (by k_asm) (List.forall_mem_cons.mpr ⟨by k_mem, List.forall_mem_cons.mpr ⟨by k_mem, List.forall_mem_cons.mpr ⟨by k_mem, by repeat (first | exact sub_id | refine sub_tl ?_)⟩⟩⟩)))))
  trivial
set_option maxHeartbeats 8000000 in
theorem c_sum (w : World) {dp un : Nat} {gd : Option (List Code)} {cn : Str} {cs : Scope} {a : Addr} {ccd : Value} {A₀ : Around} {base₀ h₀ : Heap} {L : Addr} {m : Str → Option Value} {s : Shared} {Q E : Value → Shared → Prop} {mean : ExcName → Option Value} {mg mb : Str → Option Value} {l : Addr} {vs : List Value} {c : Nat} {many : Int} {u : Tok}
    (B₀ : Below A₀ base₀ [] h₀) (F : Fr h₀ L s.heap m) (X : (Mine.K w.params).In h₀) (N : News h₀ L s.heap [(l, W.listOf vs.toArray c)]) (T : Top Mine.view (looseW Mine.view []) mean mg mb h₀) (hk : cs.kind = .function) (hi : Ints vs) (hz : vs.length < 1000) (m0 : 0 ≤ many) (m1 : many ≤ 200) (hd : dp + 330 < recursionLimit) (hu : un + 2450 < cLine)
    (hret : ∀ h' tk', Fr h₀ L h' m → Q (.bool true) { s with heap := h', toks := tk' }) :
    wpAny (model PySem.Challenge.rw_pq1455_01.row.prog w) (ktrTop dp un gd cn cs L a ccd [] []) (call (.ref 339) [.ref l, .int many u]) Q E s := by
  have B : Below A₀ h₀ [] h₀ := ⟨B₀.stack, fun _ _ e => e, trivial⟩
  have XB := X
  have TB := T
  revert X; k_fill; intro X
  refine wpAny_call ?_
  k_dflt (refine' code_cells0 ?k1 ?k2 ?k3 ?k4 ?k5 ?kA ?khf ?khk ?k6 ?k7 ?k8 ?k9 ?kB ?kD ?_ ?c2 ?c3 ?c4; (case kA => exact rfl); (case khf => exact rfl); (case khk => exact hk); (case k2 => k_asm); (case k1 => exact B); (case k3 => k_asm); (case k4 => k_asm); (case k5 => k_asm); (case k6 => k_is); (case k7 => k_is); (case k8 => ktr_room); (case k9 => exact BindsTo.of_eq rfl); (case kB => exact rfl); (case kD => decide +kernel); (case c2 => exact rfl); (case c3 => exact rfl); (case c4 => exact rfl))
  k_whole
  intro g' L' h' tk' cells' FG' F' N' Y' B' X' T' l1
  (try k_lt l1)
  k_cells Y'
  (try simp only [List.cons_append, List.nil_append] at N')
  (try dsimp only)
  (try k_fold)
  k_lift B'
  k_steps
  all_goals exact hret _ _ (by assumption)
end
theorem said24 : True := by
  k_with_none
  (k_with "m:subscriptTail" => (k_here; (with_reducible show wpAny _ _ (subscriptTail _ _ (Value.ref _) (Value.int _ _)) _ _ _); (with_unfolding_all refine' item_at ?k1z1 ?k2z1 ?k3z1 ?k4z1 ?k5z1 ?_ ?k6z1; (case k1z1 => is_list); (case k2z1 => omega); (case k3z1 => omega); (case k4z1 => omega); (case k5z1 => first | assumption | exact rfl); (case k6z1 => with_unfolding_all rfl); k_whole)))
  (k_with "m:call builtin:len" => (k_here; (with_reducible show wpAny _ _ (call (Value.builtin "len") [Value.ref _]) _ _ _); k_dflt (refine' len_at ?k1z2 ?k2z2 ?_; (case k1z2 => is_list); (case k2z2 => omega); k_whole)))
  (k_with "m:compareOp Eq str str" => (refine' eq_strC ?krz3 ?_; (case krz3 => first | ((refine (?_ : _ = true)); kernel_rfl!) | ((refine (?_ : _ = false)); kernel_rfl!)); k_whole))
  (k_with "m:compareOp NotEq str str" => (refine' ne_strC ?krz4 ?_; (case krz4 => first | ((refine (?_ : _ = true)); kernel_rfl!) | ((refine (?_ : _ = false)); kernel_rfl!)); k_whole))
  (k_with "m:ite" => (k_closed; first | rewrite [if_neg Bool.false_ne_true] | rewrite [if_pos (rfl : true = true)]))
  trivial
/-! ### a loop over a written tuple whose turns may turn the ground -/
section
variable {prog : Program} {w : World} {A : Around} {E : Value → Shared → Prop} {s : Shared} {env : Env} {x : Str} {body : List Stmt} {Q : Flow → Shared → Prop}
def TupIt (h : Heap) (I ax : Addr) (items : Array Value) (i : Nat) : Prop := h.IsTupleIter I ax i ∧ h.IsTuple ax items
def ForTurn (I ax : Addr) (items : Array Value) (i : Nat) (K : Shared → Prop) (Q : Flow → Shared → Prop) (f : Flow) (s₂ : Shared) : Prop :=
  match f with
  | .next => TupIt s₂.heap I ax items i ∧ K s₂
  | .cont => TupIt s₂.heap I ax items i ∧ K s₂
  | .brk => Q .next s₂
  | .ret v => Q (.ret v) s₂
noncomputable def ForRest (prog : Program) (w : World) (A : Around) (E : Value → Shared → Prop) (env : Env) (x : Str) (px : Pos) (body : List Stmt) (Q : Flow → Shared → Prop) (I ax : Addr) (items : Array Value) : List Value → Nat → Shared → Prop
  | [], _, s => ∀ h', (∀ b o, b ≠ I → s.heap.get? b = some o → h'.get? b = some o) → Q .next { s with heap := h' }
  | v :: r, i, s => ∀ h', (∀ b o, b ≠ I → s.heap.get? b = some o → h'.get? b = some o) → TupIt h' I ax items (i + 1) →
      wpAny (model prog w) A (assign (.Name x px) env v) (fun _ s₂ => wpAny (model prog w) A (execs body env) (ForTurn I ax items (i + 1) (ForRest prog w A E env x px body Q I ax items r (i + 1)) Q) E s₂) E { s with heap := h' }
def ForSrc (prog : Program) (w : World) (A : Around) (E : Value → Shared → Prop) (env : Env) (x : Str) (px : Pos) (body : List Stmt) (Q : Flow → Shared → Prop) (xv : Value) (s₁ : Shared) : Prop :=
  ∃ ax vs, xv = .ref ax ∧ s₁.heap.IsTuple ax (List.toArray vs) ∧ A.handled = none ∧
    ∀ I h', (∀ b o, s₁.heap.get? b = some o → b < I) → (∀ b o, s₁.heap.get? b = some o → h'.get? b = some o) → TupIt h' I ax (List.toArray vs) 0 → ForRest prog w A E env x px body Q I ax (List.toArray vs) vs 0 { s₁ with heap := h' }
theorem for_tup {px : Pos} {iter : PySem.Expr} {pos : Pos}
    (h : wpAny (model prog w) A (eval iter env) (fun xv s₁ => ForSrc prog w A E env x px body Q xv s₁) E s)
    (hs : ∀ x, foldedSetIterable iter env x = pure x := by intro _; rfl)
    (hE : PassesOwn (model prog w) A env E := by passes_own) :
    wpAny (model prog w) A (exec (.For (.Name x px) iter body [] pos) env) Q E s := by
  refine wpAny_For (wpAny_mono h (fun xv s₁ h₁ => ?_) fun _ _ e => e) hs
  obtain ⟨ax, vs, rfl, ht, hh, rest⟩ := h₁
  refine wpAny_pyIter_tuple ht ?_
  have hlt : ax < s₁.heap.objs.size := by obtain ⟨_, e, _⟩ := ht; exact Heap.lt_size e
  refine codeAny_forLoop (fun n s' => ∃ i, i ≤ vs.length ∧ n = vs.length + 1 - i ∧ TupIt s'.heap s₁.heap.objs.size ax vs.toArray i ∧ ForRest prog w A E env x px body Q s₁.heap.objs.size ax vs.toArray (vs.drop i) i s') ?_ (vs.length + 1)
    ⟨0, Nat.zero_le _, rfl, ⟨⟨_, Heap.get?_push_size _ rfl, rfl, rfl⟩, ht.push _⟩, ?_⟩
  · rintro n s' ⟨i, hi, rfl, hT, hR⟩
    have hne : ax ≠ s₁.heap.objs.size := Nat.ne_of_lt hlt
    by_cases hlt' : i < vs.length
    · have hx : vs.toArray[i]? = some vs[i] := by simp [hlt']
      refine wpAny_pyNext_tuple_item hT.1 hT.2 hx fun h' hit' hs' => ?_
      rw [List.drop_eq_getElem_cons hlt'] at hR
      have hT' : TupIt h' s₁.heap.objs.size ax vs.toArray (i + 1) := ⟨hit', hT.2.extBut hs'.extBut hne⟩
      refine wpAny_passesOwn hE (wpAny_mono (hR h' (fun b o hb e => hs'.extBut b o hb e) hT') (fun _ s₂ q => wpAny_passesOwn hE (wpAny_mono q (fun f s₃ q => ?_) fun _ _ e => e)) fun _ _ e => e)
      cases f with
      | next => exact ⟨vs.length + 1 - (i + 1), by omega, i + 1, hlt', rfl, q.1, q.2⟩
      | cont => exact ⟨vs.length + 1 - (i + 1), by omega, i + 1, hlt', rfl, q.1, q.2⟩
      | brk => exact q
      | ret v => exact q
    · have e : i = vs.length := by omega
      subst e
      rw [List.drop_length] at hR
      exact wpAny_pyNext_tuple_end hh hT.1 hT.2 (by simp) fun h' hx => wpAny_execs_nil (hR h' (fun b o hb e => hx b o hb e))
  · rw [List.drop_zero]
    exact rest _ _ (fun b o e => Heap.lt_size e) (fun b o e => Heap.get?_push_of_some _ e) ⟨⟨_, Heap.get?_push_size _ rfl, rfl, rfl⟩, ht.push _⟩
/-- the iterator as an object of the ledger -/
def IterO (oI : Obj) (ax : Addr) (i : Nat) : Prop := oI.cls = .type "tuple_iterator" ∧ oI.data = .fields #[.ref ax, .int i 0]
theorem TupIt.obj {h : Heap} {I ax : Addr} {items : Array Value} {i : Nat} (t : TupIt h I ax items i) : ∃ o, h.get? I = some o ∧ IterO o ax i := by
  obtain ⟨⟨o, e, r⟩, _⟩ := t
  exact ⟨o, e, r⟩
/-- the frame and the ledger over a step of the iterator -/
theorem tup_step {g h h' : Heap} {L I : Addr} {oI oI' : Obj} {m : Str → Option Value} {news : List (Addr × Obj)} (hk : ∀ b o, b ≠ I → h.get? b = some o → h'.get? b = some o) (F : Fr g L h m) (N : News g L h ((I, oI) :: news)) (hn : ∀ p ∈ news, p.1 ≠ I) (e' : h'.get? I = some oI') : Fr g L h' m ∧ News g L h' ((I, oI') :: news) := by
  obtain ⟨_, hL, hg⟩ := N _ (.head _)
  refine ⟨⟨F.ns.at' fun o e => hk L o (fun q => hL q.symm) e, fun b o e => hk b o (fun q => by rw [q, hg] at e; cases e) (F.keep b o e), F.above⟩, fun p hp => ?_⟩
  rcases List.mem_cons.mp hp with rfl | hp
  · exact ⟨e', hL, hg⟩
  · exact ⟨hk _ _ (hn p hp) (N p (.tail _ hp)).1, (N p (.tail _ hp)).2⟩
section
variable {g : Heap} {L I ax : Addr} {oI : Obj} {m : Str → Option Value} {news : List (Addr × Obj)} {px : Pos} {items : Array Value}
theorem ForSrc.made {vs : List Value} (F : Fr g L s.heap m) (N : News g L s.heap news) (hh : A.handled = none) (hm : (ax, tupleObj vs) ∈ news)
    (h : ∀ I oI h', (∀ p ∈ news, p.1 ≠ I) → IterO oI ax 0 → Fr g L h' m → News g L h' ((I, oI) :: news) → ForRest prog w A E env x px body Q I ax (List.toArray vs) vs 0 { s with heap := h' }) : ForSrc prog w A E env x px body Q (.ref ax) s := by
  refine ⟨ax, vs, rfl, ⟨_, (N _ hm).1, rfl, _, rfl⟩, hh, fun I h' lt hk t => ?_⟩
  obtain ⟨oI, e, ho⟩ := t.obj
  refine h I oI h' (fun p hp => Nat.ne_of_lt (lt _ _ (N p hp).1)) ho (F.keeps hk) (fun p hp => ?_)
  rcases List.mem_cons.mp hp with rfl | hp
  · refine ⟨e, fun q => ?_, ?_⟩
    · obtain ⟨oL, _, _, hL, _⟩ := F.ns
      exact Nat.lt_irrefl _ (q ▸ lt _ _ hL)
    · cases z : g.get? I with
      | none => rfl
      | some o => exact absurd (lt _ _ (F.keep _ _ z)) (Nat.lt_irrefl _)
  · exact ⟨hk _ _ (N p hp).1, (N p hp).2⟩
theorem ForRest.cons {v : Value} {r : List Value} {i : Nat} (F : Fr g L s.heap m) (N : News g L s.heap ((I, oI) :: news)) (hn : ∀ p ∈ news, p.1 ≠ I)
    (h : ∀ oI' h', IterO oI' ax (i + 1) → Fr g L h' m → News g L h' ((I, oI') :: news) →
      wpAny (model prog w) A (assign (.Name x px) env v) (fun _ s₂ => wpAny (model prog w) A (execs body env) (ForTurn I ax items (i + 1) (ForRest prog w A E env x px body Q I ax items r (i + 1)) Q) E s₂) E { s with heap := h' }) :
    ForRest prog w A E env x px body Q I ax items (v :: r) i s := fun h' hk t => by
  obtain ⟨oI', e, ho⟩ := t.obj
  obtain ⟨F', N'⟩ := tup_step hk F N hn e
  exact h oI' h' ho F' N'
theorem ForRest.nil {i : Nat} (F : Fr g L s.heap m) (N : News g L s.heap ((I, oI) :: news)) (hn : ∀ p ∈ news, p.1 ≠ I)
    (h : ∀ h', Fr g L h' m → News g L h' news → Q .next { s with heap := h' }) : ForRest prog w A E env x px body Q I ax items [] i s := fun h' hk => by
  obtain ⟨_, hL, hg⟩ := N _ (.head _)
  exact h h' ⟨F.ns.at' fun o e => hk L o (fun q => hL q.symm) e, fun b o e => hk b o (fun q => by rw [q, hg] at e; cases e) (F.keep b o e), F.above⟩ fun p hp => ⟨hk _ _ (hn p hp) (N p (.tail _ hp)).1, (N p (.tail _ hp)).2⟩
theorem iter_off {vs : List Value} {j : Nat} {h : Heap} (N : News g L h [(I, oI), (ax, tupleObj vs)]) (ho : IterO oI ax j) : ∀ p ∈ [(ax, tupleObj vs)], p.1 ≠ I := fun p hp e => by
  have hp := List.mem_singleton.mp hp
  subst hp
  have h1 := (N _ (.head _)).1
  have h2 := (N _ (.tail _ (.head _))).1
  have e : ax = I := e
  rw [← e] at h1
  have h3 : oI = tupleObj vs := Option.some.inj (h1.symm.trans h2)
  have h4 := ho.1
  rw [h3] at h4
  exact absurd (Value.type.inj h4) (by decide)
theorem ForRest.cons2 {v : Value} {r vs : List Value} {i j : Nat} (F : Fr g L s.heap m) (N : News g L s.heap [(I, oI), (ax, tupleObj vs)]) (ho : IterO oI ax j)
    (h : ∀ oI' h', IterO oI' ax (i + 1) → Fr g L h' m → News g L h' [(I, oI'), (ax, tupleObj vs)] →
      wpAny (model prog w) A (assign (.Name x px) env v) (fun _ s₂ => wpAny (model prog w) A (execs body env) (ForTurn I ax items (i + 1) (ForRest prog w A E env x px body Q I ax items r (i + 1)) Q) E s₂) E { s with heap := h' }) :
    ForRest prog w A E env x px body Q I ax items (v :: r) i s := ForRest.cons F N (iter_off N ho) h
theorem ForRest.nil2 {vs : List Value} {i j : Nat} (F : Fr g L s.heap m) (N : News g L s.heap [(I, oI), (ax, tupleObj vs)]) (ho : IterO oI ax j)
    (h : ∀ h', Fr g L h' m → News g L h' [(ax, tupleObj vs)] → Q .next { s with heap := h' }) : ForRest prog w A E env x px body Q I ax items [] i s := ForRest.nil F N (iter_off N ho) h
theorem ForTurn.next {vs : List Value} {i : Nat} {K : Shared → Prop} (N : News g L s.heap news) (hI : (I, oI) ∈ news) (ho : IterO oI ax i) (ht : (ax, tupleObj vs) ∈ news) (k : K s) : ForTurn I ax (List.toArray vs) i K Q .next s :=
  ⟨⟨⟨oI, (N _ hI).1, ho⟩, ⟨_, (N _ ht).1, rfl, _, rfl⟩⟩, k⟩
end
end
theorem c_heardA (w : World) {dp un : Nat} {gd : Option (List Code)} {cn : Str} {cs : Scope} {a : Addr} {ccd : Value} {cl : List (Str × Addr)} {outer : List Env} {A₀ : Around} {base h₀ : Heap} {L : Addr} {m : Str → Option Value} {news : List (Addr × Obj)} {s : Shared} {Q E : Value → Shared → Prop} {mean : ExcName → Option Value} {mg mb : Str → Option Value} {l : Addr} {items : List Value} {c n : Nat} {r : Option (Int × Int)}
    (B : Below A₀ base outer h₀) (F : Fr h₀ L s.heap m) (X : (Mine.K w.params).In h₀) (N : News h₀ L s.heap news) (T : Top Mine.view (looseW Mine.view []) mean mg mb h₀) (hk : cs.kind = .function) (XB : (Mine.K w.params).In base) (TB : Top Mine.view (looseW Mine.view []) mean mg mb base) (hm : (l, W.listOf items.toArray c) ∈ news) (hsz : items.length < 1000000) (P : Parse (InTup news) items 0 n r) (hst : ∀ v e, r = some (v, e) → e = (items.length : Int)) (hd : dp + 320 < recursionLimit) (hu : un + 2400 < cLine)
    (hall : (∀ v e, r = some (v, e) → (n : Int) ≤ 40 → ∀ t h₀' h' tk' u1 u2, KtsTurn (outer.filterMap (·.frame)) h₀ h₀' → Fr h₀' L h' m → News h₀' L h' ((t, tupleObj [.int v u1, .int e u2]) :: news) → Below A₀ base outer h₀' → Q (.ref t) { s with heap := h', toks := tk' }) ∧ (∀ kd, Fails 0 n r kd → ∀ h₀' h' tk' u, KtsTurn (outer.filterMap (·.frame)) h₀ h₀' → Fr h₀' L h' m → News h₀' L h' news → Below A₀ base outer h₀' → Q (.str kd u) { s with heap := h', toks := tk' })) :
    wpAny (model PySem.Challenge.rw_pq1455_01.row.prog w) (ktrTop dp un gd cn cs L a ccd cl outer) (call (.ref 308) [.ref l]) Q E s := c_heard w B F X N T hk XB TB hm hsz P hst hd hu hall.1 hall.2
section
theorem said25 : True := by
  (k_with "m:exec For Name Tuple cons nil" => (k_here; (with_unfolding_all refine' for_tup ?_; k_whole)))
  (k_with "m:ForSrc" => (k_here; k_dflt (refine' ForSrc.made ?Fz67 ?Nz67 ?hhz67 ?hmz67 ?_; (case Fz67 => k_asm); (case Nz67 => k_asm); (case hhz67 => exact rfl); (case hmz67 => k_mem)); intro I' oI' h' ne' ho' F' N'; (try k_sweep)))
  (k_with "m:ForRest" => (first | (k_dflt (refine' ForRest.cons2 ?Fz68 ?Nz68 ?hoz68 ?_; (case Fz68 => k_asm); (case Nz68 => exact news_sub (by k_asm) (List.forall_mem_cons.mpr ⟨by k_mem, List.forall_mem_cons.mpr ⟨by k_mem, List.forall_mem_nil _⟩⟩)); (case hoz68 => assumption)); intro oI' h' ho' F' N'; (try k_sweep)) | (k_dflt (refine' ForRest.nil2 ?Fz68 ?Nz68 ?hoz68 ?_; (case Fz68 => k_asm); (case Nz68 => exact news_sub (by k_asm) (List.forall_mem_cons.mpr ⟨by k_mem, List.forall_mem_cons.mpr ⟨by k_mem, List.forall_mem_nil _⟩⟩)); (case hoz68 => assumption)); intro h' F' N'; (try k_sweep))))
  (k_with "m:ForTurn" => (k_here; k_dflt (refine' ForTurn.next ?Nz69 ?hIz69 ?hoz69 ?htz69 ?_; (case Nz69 => k_asm); (case hIz69 => k_mem); (case hoz69 => assumption); (case htz69 => k_mem))))
  (k_with "m:binaryOp Mult ref int" => (k_here; (with_reducible show wpAny _ _ (binaryOp Operator.Mult (Value.ref _) (Value.int _ _)) _ _ _); k_dflt (refine' mul_list_any ?Fz70 ?Nz70 ?lz70 ?loz70 ?hiz70 ?zz70 ?_; (case Fz70 => k_asm); (case Nz70 => k_asm); (case lz70 => k_mem); (case loz70 => omega); (case hiz70 => omega); (case zz70 => (simp only [List.length_cons, List.length_nil]; decide)); k_whole); intro D' h' F' N' l1; (try k_lt l1); (try k_sweep)))
  (k_with "m:binaryOp Add ref ref" => (k_here; (with_reducible show wpAny _ _ (binaryOp _ (Value.ref _) (Value.ref _)) _ _ _); k_dflt (refine' cat2 ?Fz71 ?Nz71 ?az71 ?bz71 ?zz71 ?_; (case Fz71 => k_asm); (case Nz71 => k_asm); (case az71 => k_mem); (case bz71 => k_mem); (case zz71 => ((try simp only [List.length_append, flat_len, flat_len1, List.length_cons, List.length_nil]); omega)); k_whole; intro D' h' F' N'; (try k_sweep))))
  (k_with "m:call ref" => (k_here; (with_reducible show wpAny _ _ (call (Value.ref 308) _ _) _ _ _); k_dflt (refine' c_heardA _ ?kBz72 ?kFz72 ?kXz72 ?kNz72 ?kTz72 ?kKz72 ?kXBz72 ?kTBz72 ?hmz72 ?hszz72 ?kPz72 ?hstz72 ?kdz72 ?kuz72 ?_; (case kBz72 => assumption); (case kFz72 => k_asm); (case kXz72 => k_asm); (case kNz72 => k_asm); (case kTz72 => k_asm); (case kKz72 => exact rfl); (case kXBz72 => assumption); (case kTBz72 => assumption); (case hmz72 => k_mem); (case kPz72 => first | exact one_parse (Or.inl rfl) ⟨_, by k_mem, rfl, _, rfl⟩ | exact one_parse (Or.inr rfl) ⟨_, by k_mem, rfl, _, rfl⟩ | exact row_parse ⟨_, by k_mem, rfl, _, rfl⟩ ⟨_, by k_mem, rfl, _, rfl⟩ ⟨_, by k_mem, rfl, _, rfl⟩ ⟨_, by k_mem, rfl, _, rfl⟩); (case hszz72 => ((try simp only [List.length_append, flat_len, flat_len1, List.length_cons, List.length_nil]); omega)); (case hstz72 => exact fun v e h => by cases h <;> rfl); (case kdz72 => ktr_room); (case kuz72 => ktr_units); k_whole; apply And.intro; (case' left => intro v' e' hr' hn' t' g' h' tk' u1' u2' KT' F' N' B'; first | (exfalso; omega) | (cases hr'; done) | (cases hr'; (have KT8' := KtsTurn.trans (by assumption) KT'); (have X9' := Frag.In.keeps (by assumption) (Below.stays B')); (have T9' := Top.keeps (by assumption) (Below.stays B')); (try k_sweep))); (case' right => intro kd' hf' g' h' tk' u' KT' F' N' B'; (rcases hf' with ⟨e1', e2'⟩ | ⟨e1', e2', e3'⟩); (case' inl => first | (exfalso; omega) | (subst e2'; (have KT8' := KtsTurn.trans (by assumption) KT'); (have X9' := Frag.In.keeps (by assumption) (Below.stays B')); (have T9' := Top.keeps (by assumption) (Below.stays B')); (try k_sweep))); (case' inr => first | (exfalso; omega) | (cases e2'; done) | (subst e3'; (have KT8' := KtsTurn.trans (by assumption) KT'); (have X9' := Frag.In.keeps (by assumption) (Below.stays B')); (have T9' := Top.keeps (by assumption) (Below.stays B')); (try k_sweep)))))))
  (k_with "m:call builtin:len" => (k_here; (with_reducible show wpAny _ _ (call (Value.builtin "len") [Value.ref _]) _ _ _); k_dflt (refine' len_at ?k1z73 ?k2z73 ?_; (case k1z73 => is_list); (case k2z73 => ((try simp only [List.length_append, flat_len, flat_len1, List.length_cons, List.length_nil]); omega)); k_whole)))
  trivial
set_option maxHeartbeats 8000000 in
theorem c_bare (w : World) {dp un : Nat} {gd : Option (List Code)} {cn : Str} {cs : Scope} {a : Addr} {ccd : Value} {A₀ : Around} {base₀ h₀ : Heap} {L : Addr} {m : Str → Option Value} {s : Shared} {Q E : Value → Shared → Prop} {mean : ExcName → Option Value} {mg mb : Str → Option Value} {many : Int} {u : Tok}
    (B₀ : Below A₀ base₀ [] h₀) (F : Fr h₀ L s.heap m) (X : (Mine.K w.params).In h₀) (N : News h₀ L s.heap []) (T : Top Mine.view (looseW Mine.view []) mean mg mb h₀) (hk : cs.kind = .function) (m0 : 0 ≤ many) (m1 : many ≤ 200) (hd : dp + 330 < recursionLimit) (hu : un + 2450 < cLine)
    (hret : ∀ h' tk', Fr h₀ L h' m → Q (.bool true) { s with heap := h', toks := tk' }) :
    wpAny (model PySem.Challenge.rw_pq1455_01.row.prog w) (ktrTop dp un gd cn cs L a ccd [] []) (call (.ref 334) [.int many u]) Q E s := by
  have B : Below A₀ h₀ [] h₀ := ⟨B₀.stack, fun _ _ e => e, trivial⟩
  have XB := X
  have TB := T
  revert X; k_fill; intro X
  refine wpAny_call ?_
  k_dflt (refine' code_defS0 ?k1 ?k2 ?k3 ?k4 ?k5 ?kA ?k6 ?k7 ?k8 ?k9 ?kB ?_ ?cK ?c2 ?c3 ?c4 ?c5; (case kA => exact rfl); (case k2 => k_asm); (case k1 => exact B); (case k3 => k_asm); (case k4 => k_asm); (case k5 => k_asm); (case k6 => k_is); (case k7 => k_is); (case k8 => ktr_room); (case k9 => exact BindsTo.of_eq rfl); (case kB => exact locs rfl); (case cK => assumption); (case c2 => exact rfl); (case c3 => exact rfl); (case c4 => exact rfl); (case c5 => decide))
  k_whole
  intro g' L' h' FG' F' N' B' X' T' D'
  have KT0 : KtsTurn ([envX cn cs L a ccd []].filterMap (·.frame)) g' g' := KtsTurn.refl
  (try dsimp only)
  (try k_fold)
  k_lift B'
  k_steps
  all_goals exact hret _ _ (by assumption)
end
end
theorem said26 : True := by
  k_with_none
  trivial
theorem ints_of {vs : List Value} {ns : List Int} (h : IntsAre vs ns) : Ints vs := by
  induction h with
  | nil => exact fun _ h => by cases h
  | cons n t _ ih => exact fun v hv => (List.mem_cons.mp hv).elim (fun e => ⟨n, t, e⟩) (ih v)
theorem ints_lit3 {a b c : Int} {t u v : Tok} : Ints [.int a t, .int b u, .int c v] := ints_of (.cons _ _ (.cons _ _ (.cons _ _ .nil)))
theorem len_of {vs : List Value} {ns : List Int} (h : IntsAre vs ns) (hn : ns.length < 1000) : vs.length < 1000 := by rw [h.length]; exact hn
theorem fr_nil {h₀ h : Heap} {L : Addr} {m : Str → Option Value} (F : Fr h₀ L h m) : News h₀ L h [] := News.nil
section
theorem said27 : True := by
  (k_with "m:call ref" => (k_here; (with_reducible show wpAny _ _ (call (Value.ref 301) _ _) _ _ _); k_dflt (refine' c_next _ ?kBz74 ?kFz74 ?kXz74 ?kNz74 ?kTz74 ?kKz74 ?kiz74 ?kzz74 ?knez74 ?kdz74 ?kuz74 ?_; (case kBz74 => first | with_reducible assumption | exact below_caller _); (case kFz74 => k_asm); (case kXz74 => k_asm); (case kNz74 => k_asm); (case kTz74 => k_asm); (case kKz74 => exact rfl); (case kiz74 => first | with_reducible assumption | exact ints_of (by with_reducible assumption)); (case kzz74 => first | with_reducible assumption | exact len_of (by with_reducible assumption) (by simp only [List.length_map, List.length_take]; omega)); (case knez74 => first | with_reducible assumption | k_all); (case kdz74 => first | decide | ktr_room); (case kuz74 => first | decide | ktr_units); k_whole; intro h' tk' n' u' vs' c' hi' hz' F' N'; (try k_sweep))))
  (k_with "m:call ref" => (k_here; (with_reducible show wpAny _ _ (call (Value.ref 327) _ _) _ _ _); first | (exfalso; omega) | (k_dflt (refine' c_layers _ ?kBz75 ?kFz75 ?kXz75 ?kNz75 ?kTz75 ?kKz75 ?kiz75 ?kzz75 ?km0z75 ?km1z75 ?kdz75 ?kuz75 ?_; (case kBz75 => first | with_reducible assumption | exact below_caller _); (case kFz75 => k_asm); (case kXz75 => k_asm); (case kTz75 => k_asm); (case kKz75 => exact rfl); (case kNz75 => exact news_sub (by k_asm) (List.forall_mem_cons.mpr ⟨by k_mem, List.forall_mem_nil _⟩)); (case kiz75 => first | with_reducible assumption | exact ints_lit3); (case kzz75 => first | with_reducible assumption | (simp only [List.length_cons, List.length_nil]; decide)); (case km0z75 => first | decide | exact fm_lo _ (by decide)); (case km1z75 => first | decide | exact fm_hi _ (by decide)); (case kdz75 => first | decide | ktr_room); (case kuz75 => first | decide | ktr_units); k_whole; intro h' tk' F'; (have N' := fr_nil F'); (try k_sweep)))))
  (k_with "m:call ref" => (k_here; (with_reducible show wpAny _ _ (call (Value.ref 334) _ _) _ _ _); first | (exfalso; omega) | (k_dflt (refine' c_bare _ ?kBz76 ?kFz76 ?kXz76 ?kNz76 ?kTz76 ?kKz76 ?km0z76 ?km1z76 ?kdz76 ?kuz76 ?_; (case kBz76 => first | with_reducible assumption | exact below_caller _); (case kFz76 => k_asm); (case kXz76 => k_asm); (case kTz76 => k_asm); (case kKz76 => exact rfl); (case kNz76 => exact News.nil); (case km0z76 => first | decide | exact fm_lo _ (by decide)); (case km1z76 => first | decide | exact fm_hi _ (by decide)); (case kdz76 => first | decide | ktr_room); (case kuz76 => first | decide | ktr_units); k_whole; intro h' tk' F'; (have N' := fr_nil F'); (try k_sweep)))))
  (k_with "m:call ref" => (k_here; (with_reducible show wpAny _ _ (call (Value.ref 339) _ _) _ _ _); first | (exfalso; omega) | (k_dflt (refine' c_sum _ ?kBz77 ?kFz77 ?kXz77 ?kNz77 ?kTz77 ?kKz77 ?kiz77 ?kzz77 ?km0z77 ?km1z77 ?kdz77 ?kuz77 ?_; (case kBz77 => first | with_reducible assumption | exact below_caller _); (case kFz77 => k_asm); (case kXz77 => k_asm); (case kTz77 => k_asm); (case kKz77 => exact rfl); (case kNz77 => exact news_sub (by k_asm) (List.forall_mem_cons.mpr ⟨by k_mem, List.forall_mem_nil _⟩)); (case kiz77 => first | with_reducible assumption | exact ints_lit3); (case kzz77 => first | with_reducible assumption | (simp only [List.length_cons, List.length_nil]; decide)); (case km0z77 => first | decide | exact fm_lo _ (by decide)); (case km1z77 => first | decide | exact fm_hi _ (by decide)); (case kdz77 => first | decide | ktr_room); (case kuz77 => first | decide | ktr_units); k_whole; intro h' tk' F'; (have N' := fr_nil F'); (try k_sweep)))))
  (k_with "m:CompSrc" => (k_here; k_dflt (refine LCg.CompSrc.ledger (by rfl) (by k_asm) (by k_asm) (by k_mem) (by kcf_size) ?_; intro g'; (refine' kcf_list _ (by first | (with_reducible assumption) | l_ints) (fun k' t' I' oI' C' oC' D' m' ys' h' tk' E' hk' hC' hx' F' N' off' ne' hMark' => ?_) ?_); (all_goals (try (simp only [LCg.Off3, and_true] at off'))); kcf_last)))
  (k_with "m:eval Name" => (k_here; (with_reducible show wpAny _ _ (eval (Expr.Name _ _) (compEnvC _ _ _ _)) _ _ _); k_dflt (refine LCgL.ld_built (by k_asm) (by k_asm) (by k_asm) (by k_is) (by boot_by_name) (by decide) ?_)))
  trivial
theorem imp_none : importsNone Mine.view = true := by kernel_rfl
theorem names_ok : namesOk Mine.view (looseW Mine.view []) (namesW Mine.view []) = true := by
  rw [PySem.W.Fast.te17448422675489707002, PySem.W.Fast.te821141287760084731]
  kernel_rfl
local macro_rules | `(tactic| k_qdec) => `(tactic| first | exact names_ok | exact imp_none)
theorem hrow : R0.wellSaid = true → R0.Holds := by
  intro said
  w_on
  refine hd1 said hw1 ?_
  delta H0 R0
  k_go
theorem thd : PySem.Challenge.rw_pq1455_01.Holds := PySem.W.holds_law said0 hrow
end
end Mine
theorem PySem.Challenge.cw_pq1455_01_holds : PySem.Challenge.rw_pq1455_01.Holds := by
  exact Mine.thd
