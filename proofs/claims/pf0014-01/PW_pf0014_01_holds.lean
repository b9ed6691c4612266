import PyProof.Rows.All
import Wide.All
import OpenK.AllK
import Wide.FinOn
import PySem.Challenge.RW_pf0014_01
set_option compiler.extract_closed false
open PySem PySem.W PyProof.Rows PySem.Calls PySem.Spec
set_option Elab.async false
set_option linter.unusedVariables false
set_option maxRecDepth 100000
namespace Mine
abbrev prg : Program := PySem.Challenge.rw_pf0014_01.row.prog
noncomputable def kS (x : String) (t : Nat) : Value := Value.str (Str.ofString x) t
noncomputable def kR (a : Nat) : Value := Value.ref a
noncomputable def kT (l : List Value) : Obj := { cls := Value.type "tuple", data := Data.seq l.toArray }
noncomputable def kF (c : String) (l : List Value) : Obj := { cls := Value.type c, data := Data.fields l.toArray }
noncomputable def kC (n : String) (nt : Nat) (q : String) (qt : Nat) (f : String) (ft : Nat) (ln : Int) (as : Int) (r1 : Nat) (fl : Int) (r2 : Nat) (x y : Value) (r3 : Nat) (it : Int) (l2 : Int) (f2 : String) (ft2 : Nat) : Obj :=
  { cls := Value.type "code", data := Data.fields #[Value.str (Str.ofString n) nt, Value.str (Str.ofString q) qt, Value.str (Str.ofString f) ft, Value.int ln 0, Value.int as 0, Value.int 0 0, Value.int 0 0, Value.int 3 0, Value.ref r1, Value.bool true, Value.int fl 0, Value.ref r2, Value.none, x, y, Value.ref r3, Value.int it 0, Value.int l2 0, Value.str (Str.ofString f2) ft2] }
noncomputable def kO (n q : String) (a : Arguments) (b : FuncBody) (s : Scope) (clo : List (Str × Addr)) (dv : Value) (pm : String) (pt : Nat) (cd : Nat) (ct : Value) : Obj :=
  { cls := Value.type "function", data := Data.func { name := Str.ofString n, qualname := Str.ofString q, params := a, body := b, scope := s, globals := 3, closure := clo, defaults := dv, kwdefaults := Value.none, pyModule := Value.str (Str.ofString pm) pt, code := Value.ref cd, closureTuple := ct } }
noncomputable def kD (P : Params) (k : String) (t : Nat) (v : Value) : DictEntry := { hash := PyData.keyHash P (Str.ofString k), key := Value.str (Str.ofString k) t, val := v }
set_option maxRecDepth 100000 in
set_option maxHeartbeats 8000000 in
noncomputable def K : Params → Frag := by
  refine (?g : ∀ F : Params → Frag, (?z0 :: ?z1 :: (.ClassDef ?cn0 ?ca0 ?cb0 (.FunctionDef ?n0 ?a0 ?b0 ?w0 ?x0 ?y0 ?s0 ?u0 ?v0 ?t0 :: ?cc0) ?cd0 ?ce0 ?cf0 ?cg0 ?ch0 ?ci0 ?cj0) :: (.FunctionDef ?n1 ?a1 ?b1 ?w1 ?x1 ?y1 ?s1 ?u1 ?v1 ?t1) :: (.FunctionDef ?n2 ?a2 ?b2 ?w2 ?x2 ?y2 ?s2 ?u2 ?v2 ?t2) :: (.FunctionDef ?n3 ?a3 ?b3 ?w3 ?x3 ?y3 ?s3 ?u3 ?v3 ?t3) :: (.FunctionDef ?n4 ?a4 ?b4 ?w4 ?x4 ?y4 ?s4 ?u4 ?v4 ?t4) :: (.FunctionDef ?n5 ?a5 ?b5 ?w5 ?x5 ?y5 ?s5 ?u5 ?v5 ?t5) :: ?z8 :: ?z9 :: ?z10 :: ?z11 :: ?z12 :: ?z13 :: ?z14 :: ?z15 :: (.FunctionDef ?n6 ?a6 ?b6 ?w6 ?x6 ?y6 ?s6 ?u6 ?v6 ?t6) :: (.FunctionDef ?n7 ?a7 ?b7 ?w7 ?x7 ?y7 ?s7 ?u7 ?v7 ?t7) :: (.FunctionDef ?n8 ?a8 ?b8 ?w8 ?x8 ?y8 ?s8 ?u8 ?v8 ?t8) :: (.FunctionDef ?n9 ?a9 ?b9 ?w9 ?x9 ?y9 ?s9 ?u9 ?v9 ?t9) :: (.FunctionDef ?n10 ?a10 ?b10 ?w10 ?x10 ?y10 ?s10 ?u10 ?v10 ?t10) :: (.FunctionDef ?n11 ?a11 ?b11 ?w11 ?x11 ?y11 ?s11 ?u11 ?v11 ?t11) :: (.FunctionDef ?n12 ?a12 ?b12 ?w12 ?x12 ?y12 ?s12 ?u12 ?v12 ?t12) :: (.FunctionDef ?n13 ?a13 ?b13 ?w13 ?x13 ?y13 ?s13 ?u13 ?v13 ?t13) :: (.FunctionDef ?n14 ?a14 ?b14 ?w14 ?x14 ?y14 ?s14 ?u14 ?v14 ?t14) :: (.FunctionDef ?n15 ?a15 ?b15 ?w15 ?x15 ?y15 ?s15 ?u15 ?v15 ?t15) :: (.FunctionDef ?n16 ?a16 ?b16 ?w16 ?x16 ?y16 ?s16 ?u16 ?v16 ?t16) :: (.FunctionDef ?n17 ?a17 ?b17 ?w17 ?x17 ?y17 ?s17 ?u17 ?v17 ?t17) :: (.FunctionDef ?n18 ?a18 ?b18 ?w18 ?x18 ?y18 ?s18 ?u18 ?v18 ?t18) :: (.FunctionDef ?n19 ?a19 ?b19 ?w19 ?x19 ?y19 ?s19 ?u19 ?v19 ?t19) :: (.FunctionDef ?n20 ?a20 ?b20 ?w20 ?x20 ?y20 ?s20 ?u20 ?v20 ?t20) :: (.FunctionDef ?n21 ?a21 ?b21 ?w21 ?x21 ?y21 ?s21 ?u21 ?v21 ?t21) :: (.FunctionDef ?n22 ?a22 ?b22 ?w22 ?x22 ?y22 ?s22 ?u22 ?v22 ?t22) :: ?z33 :: ?z34 :: ?z35 :: ?z36 :: ?z37 :: ?z38 :: ?z39 :: ?z40 :: ?z41 :: (.FunctionDef ?n23 ?a23 ?b23 ?w23 ?x23 ?y23 ?s23 ?u23 ?v23 ?t23) :: (.FunctionDef ?n24 ?a24 ?b24 ?w24 ?x24 ?y24 ?s24 ?u24 ?v24 ?t24) :: (.FunctionDef ?n25 ?a25 ?b25 ?w25 ?x25 ?y25 ?s25 ?u25 ?v25 ?t25) :: (.FunctionDef ?n26 ?a26 ?b26 ?w26 ?x26 ?y26 ?s26 ?u26 ?v26 ?t26) :: (.FunctionDef ?n27 ?a27 ?b27 ?w27 ?x27 ?y27 ?s27 ?u27 ?v27 ?t27) :: (.FunctionDef ?n28 ?a28 ?b28 ?w28 ?x28 ?y28 ?s28 ?u28 ?v28 ?t28) :: (.FunctionDef ?n29 ?a29 ?b29 ?w29 ?x29 ?y29 ?s29 ?u29 ?v29 ?t29) :: (.ClassDef ?cn30 ?ca30 ?cb30 (.FunctionDef ?n30 ?a30 ?b30 ?w30 ?x30 ?y30 ?s30 ?u30 ?v30 ?t30 :: ?cc30) ?cd30 ?ce30 ?cf30 ?cg30 ?ch30 ?ci30 ?cj30) :: (.FunctionDef ?n31 ?a31 ?b31 ?w31 ?x31 ?y31 ?s31 ?u31 ?v31 ?t31) :: (.FunctionDef ?n32 ?a32 ?b32 ?w32 ?x32 ?y32 ?s32 ?u32 ?v32 ?t32) :: (.FunctionDef ?n33 ?a33 ?b33 ?w33 ?x33 ?y33 ?s33 ?u33 ?v33 ?t33) :: (.FunctionDef ?n34 ?a34 ?b34 ?w34 ?x34 ?y34 ?s34 ?u34 ?v34 ?t34) :: (.FunctionDef ?n35 ?a35 ?b35 ?w35 ?x35 ?y35 ?s35 ?u35 ?v35 ?t35) :: (.FunctionDef ?n36 ?a36 ?b36 ?w36 ?x36 ?y36 ?s36 ?u36 ?v36 ?t36) :: (.FunctionDef ?n37 ?a37 ?b37 ?w37 ?x37 ?y37 ?s37 ?u37 ?v37 ?t37) :: (.FunctionDef ?n38 ?a38 ?b38 ?w38 ?x38 ?y38 ?s38 ?u38 ?v38 ?t38) :: (.FunctionDef ?n39 ?a39 ?b39 ?w39 ?x39 ?y39 ?s39 ?u39 ?v39 ?t39) :: (.FunctionDef ?n40 ?a40 ?b40 ?w40 ?x40 ?y40 ?s40 ?u40 ?v40 ?t40) :: (.FunctionDef ?n41 ?a41 ?b41 ?w41 ?x41 ?y41 ?s41 ?u41 ?v41 ?t41) :: (.FunctionDef ?n42 ?a42 ?b42 ?w42 ?x42 ?y42 ?s42 ?u42 ?v42 ?t42) :: (.FunctionDef ?n43 ?a43 ?b43 ?w43 ?x43 ?y43 ?s43 ?u43 ?v43 ?t43) :: ?z63 :: ?z64 :: ?z65 :: ?z66 :: ?z67 :: (.FunctionDef ?n44 ?a44 ?b44 ?w44 ?x44 ?y44 ?s44 ?u44 ?v44 ?t44) :: (.FunctionDef ?n45 ?a45 ?b45 ?w45 ?x45 ?y45 ?s45 ?u45 ?v45 ?t45) :: (.FunctionDef ?n46 ?a46 ?b46 ?w46 ?x46 ?y46 ?s46 ?u46 ?v46 ?t46) :: (.FunctionDef ?n47 ?a47 ?b47 ?w47 ?x47 ?y47 ?s47 ?u47 ?v47 ?t47) :: ?z72 :: (.FunctionDef ?n48 ?a48 ?b48 ?w48 ?x48 ?y48 ?s48 ?u48 ?v48 ?t48) :: ?z74 :: (.FunctionDef ?n49 ?a49 ?b49 ?w49 ?x49 ?y49 ?s49 ?u49 ?v49 ?t49) :: (.FunctionDef ?n50 ?a50 ?b50 ?w50 ?x50 ?y50 ?s50 ?u50 ?v50 ?t50) :: (.FunctionDef ?n51 ?a51 ?b51 ?w51 ?x51 ?y51 ?s51 ?u51 ?v51 ?t51) :: (.FunctionDef ?n52 ?a52 ?b52 ?w52 ?x52 ?y52 ?s52 ?u52 ?v52 ?t52) :: (.FunctionDef ?n53 ?a53 ?b53 ?w53 ?x53 ?y53 ?s53 ?u53 ?v53 ?t53) :: (.FunctionDef ?n54 ?a54 ?b54 ?w54 ?x54 ?y54 ?s54 ?u54 ?v54 ?t54) :: (.FunctionDef ?n55 ?a55 ?b55 ?w55 ?x55 ?y55 ?s55 ?u55 ?v55 ?t55) :: ?zz = prg.main.body) → F = (fun P =>
    (nat_lit 2, { cls := Value.none, data := Data.dict (kD P "type.__subclasses__.Exception.0" 221 (Value.int 34 0) :: kD P "type.__subclasses__.Exception.n" 222 (Value.int 1 0) :: []).toArray 2 }) ::
    (nat_lit 3, { cls := Value.type "dict", data := Data.dict (kD P "__name__" 165 (kS "law_pf0014_01" 825) :: kD P "__doc__" 166 (Value.none) :: kD P "__package__" 167 (Value.none) :: kD P "__loader__" 168 (Value.builtin "__main__.__loader__#opaque") :: kD P "__spec__" 169 (Value.none) :: kD P "__annotations__" 170 (kR 6) :: kD P "__builtins__" 171 (kR 4) :: kD P "__file__" 173 (kS "/claim/cut.py" 172) :: kD P "__cached__" 174 (Value.none) :: kD P "MOST_EXPONENT" 190 (Value.int 99 189) :: kD P "BasicError" 224 (kR 34) :: kD P "figures_of" 233 (kR 44) :: kD P "rounded_by" 244 (kR 51) :: kD P "made" 256 (kR 58) :: kD P "fits" 264 (kR 65) :: kD P "decimal_of" 272 (kR 72) :: kD P "MOST_SIGNS" 276 (Value.int 255 275) :: kD P "MOST_FIGURES_tokens" 278 (Value.int 40 277) :: kD P "SIGNS" 280 (kS "+-*/\\^(),;:#&@" 279) :: kD P "ORDERS" 282 (kS "<=>" 281) :: kD P "PAIRS" 301 (kR 73) :: kD P "WORDS" 303 (kS "LET PRINT USING INPUT LINE IF THEN ELSE GOTO GOSUB ON RETURN FOR TO STEP NEXT WHILE WEND DEF FNEND READ DATA RESTORE DIM ERASE OPTION BASE SWAP ERROR RESUME STOP END REM RANDOMIZE DEFINT DEFSNG DEFSTR MAT ZER CON IDN INV TRN OPEN OUTPUT APPEND RANDOM AS CLOSE FIELD LSET RSET GET PUT WRITE CHAIN COMMON TRON TROFF AND OR XOR EQV IMP NOT MOD" 302) :: kD P "FUNCTION_WORDS" 305 (kS "ABS ASC CHR$ CINT CSNG CVI CVS EDIT$ EOF ERL ERR FIX FRE HEX$ INSTR INT LCASE$ LEFT$ LEN LOC LOF LPOS LTRIM$ MAX MID$ MIN MKI$ MKS$ OCT$ PI POS RIGHT$ RND RTRIM$ SEG$ SGN SPACE$ SPC SQR STR$ STRING$ SWAP% TAB UCASE$ VAL XLATE$" 304) :: kD P "functions" 311 (kR 80) :: kD P "is_word" 318 (kR 87) :: kD P "is_letter" 325 (kR 94) :: kD P "is_figure" 332 (kR 101) :: kD P "capital" 338 (kR 106) :: kD P "figures_end" 346 (kR 113) :: kD P "skipped" 354 (kR 120) :: kD P "power_end" 364 (kR 127) :: kD P "number_at" 376 (kR 134) :: kD P "name_end" 384 (kR 141) :: kD P "text_at" 393 (kR 148) :: kD P "order_at" 403 (kR 155) :: kD P "data_end" 412 (kR 162) :: kD P "remark_of" 419 (kR 169) :: kD P "word_at" 430 (kR 176) :: kD P "tokens_at" 441 (kR 183) :: kD P "tokens_of" 451 (kR 190) :: kD P "STRENGTH" 508 (kR 191) :: kD P "NOT_STRENGTH" 510 (Value.int 6 509) :: kD P "MINUS_STRENGTH" 512 (Value.int 12 511) :: kD P "MOST_OPEN" 514 (Value.int 60 513) :: kD P "NO_ARGS" 521 (kR 193) :: kD P "NO_TOKEN" 524 (kR 194) :: kD P "MOST_FIGURES_exprread" 526 (Value.int 60 525) :: kD P "MOST_POWER_exprread" 528 (Value.int 999 527) :: kD P "token_at" 536 (kR 201) :: kD P "is_sign" 545 (kR 208) :: kD P "expect" 554 (kR 215) :: kD P "figures_at" 564 (kR 222) :: kD P "power_at" 576 (kR 229) :: kD P "told_exactly" 585 (kR 236) :: kD P "number_tree" 598 (kR 243) :: kD P "Level" 632 (kR 260) :: kD P "join_up" 642 (kR 271) :: kD P "finished" 650 (kR 278) :: kD P "opened" 659 (kR 285) :: kD P "plain_operand" 669 (kR 292) :: kD P "take_operand" 682 (kR 299) :: kD P "take_operator" 694 (kR 306) :: kD P "expression" 706 (kR 313) :: kD P "quoted" 713 (kR 320) :: kD P "decimal_text" 722 (kR 327) :: kD P "leaf_text" 729 (kR 334) :: kD P "parts_of_tree" 736 (kR 341) :: kD P "shown_part" 745 (kR 348) :: kD P "shown_tree" 751 (kR 353) :: kD P "NOUGHT" 756 (kR 354) :: kD P "MOST_FIGURES_decimals" 758 (Value.int 300 757) :: kD P "MOST_POWER_decimals" 760 (Value.int 9999 759) :: kD P "BLANKS" 762 (kS " \t" 761) :: kD P "run_of_figures" 772 (kR 361) :: kD P "exponent_at" 785 (kR 368) :: kD P "d_of_text" 801 (kR 375) :: kD P "told_decimal" 811 (kR 382) :: kD P "worth_of_leaf" 824 (kR 389) :: kD P "_law_sipped" 834 (kR 396) :: kD P "_law_nearest" 849 (kR 403) :: kD P "_law_heard" 857 (kR 410) :: kD P "_law_is_back" 866 (kR 417) :: kD P "_law_number_right" 886 (kR 424) :: kD P "_law_by_six" 894 (kR 431) :: kD P "law" 900 (kR 436) :: []).toArray 85 }) ::
    (nat_lit 15, kT [Value.type "Exception"]) ::
    (nat_lit 18, { cls := Value.type "cell", data := Data.cell (some (kR 34)) }) ::
    (nat_lit 23, kT [kS "" 203]) ::
    (nat_lit 24, kT [kR 18]) ::
    (nat_lit 25, kT [kS "__class__" 207]) ::
    (nat_lit 27, kT [kS "self" 208, kS "code" 209, kS "told" 210]) ::
    (nat_lit 28, kT []) ::
    (nat_lit 30, kC "__init__" 204 "BasicError.__init__" 205 "/claim/cut.py" 206 5 3 25 181 26 (kR 27) (kR 28) 29 211 5 "/claim/cut.py" 212) ::
    (nat_lit 31, kO "__init__" "BasicError.__init__" ?a0 (FuncBody.stmts ?b0) ?s0 [(Str.ofString "__class__", 18)] (kR 23) "basicplus.values" 187 30 (kR 24)) ::
    (nat_lit 32, kT [kS "code" 214, kS "told" 215]) ::
    (nat_lit 33, { cls := Value.type "dict", data := Data.dict (kD P "__module__" 198 (kS "basicplus.values" 187) :: kD P "__firstlineno__" 202 (Value.int 3 201) :: kD P "__init__" 213 (kR 31) :: kD P "__static_attributes__" 216 (kR 32) :: kD P "__weakref__" 219 (kR 35) :: kD P "__doc__" 220 (Value.none) :: []).toArray 4 }) ::
    (nat_lit 34, { cls := Value.type "type", data := Data.cls { name := Str.ofString "BasicError", bases := [Value.type "Exception"], mro := [kR 34, Value.type "Exception", Value.type "BaseException", Value.type "object"], ns := 33, qualname := Str.ofString "BasicError" }, slots := #[some (kR 15), none, some (kS "BasicError" 191), some (kS "BasicError" 199), some (Value.builtin "Exception.__new__"), some (Value.bool true)] }) ::
    (nat_lit 35, { cls := Value.type "getset_descriptor", data := Data.fields #[kS "__weakref__" 218, kR 34, Value.builtin "ExceptionGroup.__weakref__", Value.none] }) ::
    (nat_lit 38, kT []) ::
    (nat_lit 40, kT [kS "number" 228, kS "many" 229, kS "bound" 230]) ::
    (nat_lit 41, kT []) ::
    (nat_lit 43, kC "figures_of" 225 "figures_of" 226 "/claim/cut.py" 227 9 1 38 181 39 (kR 40) (kR 41) 42 231 9 "/claim/cut.py" 232) ::
    (nat_lit 44, kO "figures_of" "figures_of" ?a1 (FuncBody.stmts ?b1) ?s1 [] (Value.none) "basicplus.values" 187 43 Value.none) ::
    (nat_lit 45, kT []) ::
    (nat_lit 47, kT [kS "number" 237, kS "places" 238, kS "unit" 239, kS "found" 240, kS "rest" 241]) ::
    (nat_lit 48, kT []) ::
    (nat_lit 50, kC "rounded_by" 234 "rounded_by" 235 "/claim/cut.py" 236 15 2 45 181 46 (kR 47) (kR 48) 49 242 15 "/claim/cut.py" 243) ::
    (nat_lit 51, kO "rounded_by" "rounded_by" ?a2 (FuncBody.stmts ?b2) ?s2 [] (Value.none) "basicplus.values" 187 50 Value.none) ::
    (nat_lit 52, kT []) ::
    (nat_lit 54, kT [kS "coefficient" 248, kS "exponent" 249, kS "digits" 250, kS "size" 251, kS "more" 252, kS "first" 253]) ::
    (nat_lit 55, kT []) ::
    (nat_lit 57, kC "made" 245 "made" 246 "/claim/cut.py" 247 25 3 52 181 53 (kR 54) (kR 55) 56 254 25 "/claim/cut.py" 255) ::
    (nat_lit 58, kO "made" "made" ?a3 (FuncBody.stmts ?b3) ?s3 [] (Value.none) "basicplus.values" 187 57 Value.none) ::
    (nat_lit 59, kT []) ::
    (nat_lit 61, kT [kS "number" 260, kS "bits" 261]) ::
    (nat_lit 62, kT []) ::
    (nat_lit 64, kC "fits" 257 "fits" 258 "/claim/cut.py" 259 40 2 59 181 60 (kR 61) (kR 62) 63 262 40 "/claim/cut.py" 263) ::
    (nat_lit 65, kO "fits" "fits" ?a4 (FuncBody.stmts ?b4) ?s4 [] (Value.none) "basicplus.values" 187 64 Value.none) ::
    (nat_lit 66, kT []) ::
    (nat_lit 68, kT [kS "value" 268, kS "digits" 269]) ::
    (nat_lit 69, kT []) ::
    (nat_lit 71, kC "decimal_of" 265 "decimal_of" 266 "/claim/cut.py" 267 42 2 66 181 67 (kR 68) (kR 69) 70 270 42 "/claim/cut.py" 271) ::
    (nat_lit 72, kO "decimal_of" "decimal_of" ?a5 (FuncBody.stmts ?b5) ?s5 [] (Value.none) "basicplus.values" 187 71 Value.none) ::
    (nat_lit 73, { cls := Value.type "dict", data := Data.dict (kD P "<=" 283 (kS "<=" 284) :: kD P "=<" 285 (kS "<=" 286) :: kD P ">=" 287 (kS ">=" 288) :: kD P "=>" 289 (kS ">=" 290) :: kD P "<>" 291 (kS "<>" 292) :: kD P "><" 293 (kS "<>" 294) :: []).toArray 6 }) ::
    (nat_lit 74, kT []) ::
    (nat_lit 76, kT []) ::
    (nat_lit 77, kT []) ::
    (nat_lit 79, kC "functions" 306 "functions" 307 "/claim/cut.py" 308 54 0 74 181 75 (kR 76) (kR 77) 78 309 54 "/claim/cut.py" 310) ::
    (nat_lit 80, kO "functions" "functions" ?a6 (FuncBody.stmts ?b6) ?s6 [] (Value.none) "basicplus.tokens" 273 79 Value.none) ::
    (nat_lit 81, kT []) ::
    (nat_lit 83, kT [kS "told" 315]) ::
    (nat_lit 84, kT []) ::
    (nat_lit 86, kC "is_word" 312 "is_word" 313 "/claim/cut.py" 314 56 1 81 181 82 (kR 83) (kR 84) 85 316 56 "/claim/cut.py" 317) ::
    (nat_lit 87, kO "is_word" "is_word" ?a7 (FuncBody.stmts ?b7) ?s7 [] (Value.none) "basicplus.tokens" 273 86 Value.none) ::
    (nat_lit 88, kT []) ::
    (nat_lit 90, kT [kS "sign" 322]) ::
    (nat_lit 91, kT []) ::
    (nat_lit 93, kC "is_letter" 319 "is_letter" 320 "/claim/cut.py" 321 58 1 88 181 89 (kR 90) (kR 91) 92 323 58 "/claim/cut.py" 324) ::
    (nat_lit 94, kO "is_letter" "is_letter" ?a8 (FuncBody.stmts ?b8) ?s8 [] (Value.none) "basicplus.tokens" 273 93 Value.none) ::
    (nat_lit 95, kT []) ::
    (nat_lit 97, kT [kS "sign" 329]) ::
    (nat_lit 98, kT []) ::
    (nat_lit 100, kC "is_figure" 326 "is_figure" 327 "/claim/cut.py" 328 60 1 95 181 96 (kR 97) (kR 98) 99 330 60 "/claim/cut.py" 331) ::
    (nat_lit 101, kO "is_figure" "is_figure" ?a9 (FuncBody.stmts ?b9) ?s9 [] (Value.none) "basicplus.tokens" 273 100 Value.none) ::
    (nat_lit 102, kT []) ::
    (nat_lit 105, kC "capital" 333 "capital" 334 "/claim/cut.py" 335 62 1 102 181 103 (Value.none) (Value.none) 104 336 62 "/claim/cut.py" 337) ::
    (nat_lit 106, kO "capital" "capital" ?a10 (FuncBody.stmts ?b10) ?s10 [] (Value.none) "basicplus.tokens" 273 105 Value.none) ::
    (nat_lit 107, kT []) ::
    (nat_lit 109, kT [kS "row" 342, kS "at" 343]) ::
    (nat_lit 110, kT []) ::
    (nat_lit 112, kC "figures_end" 339 "figures_end" 340 "/claim/cut.py" 341 64 2 107 181 108 (kR 109) (kR 110) 111 344 64 "/claim/cut.py" 345) ::
    (nat_lit 113, kO "figures_end" "figures_end" ?a11 (FuncBody.stmts ?b11) ?s11 [] (Value.none) "basicplus.tokens" 273 112 Value.none) ::
    (nat_lit 114, kT []) ::
    (nat_lit 116, kT [kS "row" 350, kS "at" 351]) ::
    (nat_lit 117, kT []) ::
    (nat_lit 119, kC "skipped" 347 "skipped" 348 "/claim/cut.py" 349 68 2 114 181 115 (kR 116) (kR 117) 118 352 68 "/claim/cut.py" 353) ::
    (nat_lit 120, kO "skipped" "skipped" ?a12 (FuncBody.stmts ?b12) ?s12 [] (Value.none) "basicplus.tokens" 273 119 Value.none) ::
    (nat_lit 121, kT []) ::
    (nat_lit 123, kT [kS "row" 358, kS "at" 359, kS "begin" 360, kS "end" 361]) ::
    (nat_lit 124, kT []) ::
    (nat_lit 126, kC "power_end" 355 "power_end" 356 "/claim/cut.py" 357 72 2 121 181 122 (kR 123) (kR 124) 125 362 72 "/claim/cut.py" 363) ::
    (nat_lit 127, kO "power_end" "power_end" ?a13 (FuncBody.stmts ?b13) ?s13 [] (Value.none) "basicplus.tokens" 273 126 Value.none) ::
    (nat_lit 128, kT []) ::
    (nat_lit 130, kT [kS "row" 368, kS "at" 369, kS "end" 370, kS "is_plain" 371, kS "behind" 372, kS "last" 373]) ::
    (nat_lit 131, kT []) ::
    (nat_lit 133, kC "number_at" 365 "number_at" 366 "/claim/cut.py" 367 80 2 128 181 129 (kR 130) (kR 131) 132 374 80 "/claim/cut.py" 375) ::
    (nat_lit 134, kO "number_at" "number_at" ?a14 (FuncBody.stmts ?b14) ?s14 [] (Value.none) "basicplus.tokens" 273 133 Value.none) ::
    (nat_lit 135, kT []) ::
    (nat_lit 137, kT [kS "row" 380, kS "at" 381]) ::
    (nat_lit 138, kT []) ::
    (nat_lit 140, kC "name_end" 377 "name_end" 378 "/claim/cut.py" 379 92 2 135 181 136 (kR 137) (kR 138) 139 382 92 "/claim/cut.py" 383) ::
    (nat_lit 141, kO "name_end" "name_end" ?a15 (FuncBody.stmts ?b15) ?s15 [] (Value.none) "basicplus.tokens" 273 140 Value.none) ::
    (nat_lit 142, kT []) ::
    (nat_lit 144, kT [kS "row" 388, kS "at" 389, kS "end" 390]) ::
    (nat_lit 145, kT []) ::
    (nat_lit 147, kC "text_at" 385 "text_at" 386 "/claim/cut.py" 387 96 2 142 181 143 (kR 144) (kR 145) 146 391 96 "/claim/cut.py" 392) ::
    (nat_lit 148, kO "text_at" "text_at" ?a16 (FuncBody.stmts ?b16) ?s16 [] (Value.none) "basicplus.tokens" 273 147 Value.none) ::
    (nat_lit 149, kT []) ::
    (nat_lit 151, kT [kS "row" 397, kS "at" 398, kS "later" 399, kS "both" 400]) ::
    (nat_lit 152, kT []) ::
    (nat_lit 154, kC "order_at" 394 "order_at" 395 "/claim/cut.py" 396 101 2 149 181 150 (kR 151) (kR 152) 153 401 101 "/claim/cut.py" 402) ::
    (nat_lit 155, kO "order_at" "order_at" ?a17 (FuncBody.stmts ?b17) ?s17 [] (Value.none) "basicplus.tokens" 273 154 Value.none) ::
    (nat_lit 156, kT []) ::
    (nat_lit 158, kT [kS "row" 407, kS "at" 408, kS "is_quoted" 409]) ::
    (nat_lit 159, kT []) ::
    (nat_lit 161, kC "data_end" 404 "data_end" 405 "/claim/cut.py" 406 107 2 156 181 157 (kR 158) (kR 159) 160 410 107 "/claim/cut.py" 411) ::
    (nat_lit 162, kO "data_end" "data_end" ?a18 (FuncBody.stmts ?b18) ?s18 [] (Value.none) "basicplus.tokens" 273 161 Value.none) ::
    (nat_lit 163, kT []) ::
    (nat_lit 165, kT [kS "text" 416]) ::
    (nat_lit 166, kT []) ::
    (nat_lit 168, kC "remark_of" 413 "remark_of" 414 "/claim/cut.py" 415 114 1 163 181 164 (kR 165) (kR 166) 167 417 114 "/claim/cut.py" 418) ::
    (nat_lit 169, kO "remark_of" "remark_of" ?a19 (FuncBody.stmts ?b19) ?s19 [] (Value.none) "basicplus.tokens" 273 168 Value.none) ::
    (nat_lit 170, kT []) ::
    (nat_lit 172, kT [kS "row" 423, kS "at" 424, kS "end" 425, kS "told" 426, kS "last" 427]) ::
    (nat_lit 173, kT []) ::
    (nat_lit 175, kC "word_at" 420 "word_at" 421 "/claim/cut.py" 422 116 2 170 181 171 (kR 172) (kR 173) 174 428 116 "/claim/cut.py" 429) ::
    (nat_lit 176, kO "word_at" "word_at" ?a20 (FuncBody.stmts ?b20) ?s20 [] (Value.none) "basicplus.tokens" 273 175 Value.none) ::
    (nat_lit 177, kT []) ::
    (nat_lit 179, kT [kS "row" 434, kS "at" 435, kS "sign" 436, kS "told" 437, kS "end" 438]) ::
    (nat_lit 180, kT []) ::
    (nat_lit 182, kC "tokens_at" 431 "tokens_at" 432 "/claim/cut.py" 433 125 2 177 181 178 (kR 179) (kR 180) 181 439 125 "/claim/cut.py" 440) ::
    (nat_lit 183, kO "tokens_at" "tokens_at" ?a21 (FuncBody.stmts ?b21) ?s21 [] (Value.none) "basicplus.tokens" 273 182 Value.none) ::
    (nat_lit 184, kT []) ::
    (nat_lit 186, kT [kS "row" 445, kS "found" 446, kS "at" 447, kS "told" 448]) ::
    (nat_lit 187, kT []) ::
    (nat_lit 189, kC "tokens_of" 442 "tokens_of" 443 "/claim/cut.py" 444 145 1 184 181 185 (kR 186) (kR 187) 188 449 145 "/claim/cut.py" 450) ::
    (nat_lit 190, kO "tokens_of" "tokens_of" ?a22 (FuncBody.stmts ?b22) ?s22 [] (Value.none) "basicplus.tokens" 273 189 Value.none) ::
    (nat_lit 191, { cls := Value.type "dict", data := Data.dict (kD P "IMP" 454 (Value.int 1 455) :: kD P "EQV" 457 (Value.int 2 458) :: kD P "XOR" 460 (Value.int 3 461) :: kD P "OR" 463 (Value.int 4 464) :: kD P "AND" 466 (Value.int 5 467) :: kD P "=" 469 (Value.int 7 470) :: kD P "<>" 472 (Value.int 7 473) :: kD P "<" 475 (Value.int 7 476) :: kD P ">" 478 (Value.int 7 479) :: kD P "<=" 481 (Value.int 7 482) :: kD P ">=" 484 (Value.int 7 485) :: kD P "+" 487 (Value.int 8 488) :: kD P "-" 490 (Value.int 8 491) :: kD P "MOD" 493 (Value.int 9 494) :: kD P "\\" 496 (Value.int 10 497) :: kD P "*" 499 (Value.int 11 500) :: kD P "/" 502 (Value.int 11 503) :: kD P "^" 505 (Value.int 13 506) :: []).toArray 18 }) ::
    (nat_lit 193, kT [kS "ERL" 515, kS "ERR" 516, kS "FRE" 517, kS "PI" 518, kS "POS" 519, kS "RND" 520]) ::
    (nat_lit 194, kT [kS "end" 522, kS "" 523]) ::
    (nat_lit 195, kT []) ::
    (nat_lit 197, kT [kS "tokens" 532, kS "at" 533]) ::
    (nat_lit 198, kT []) ::
    (nat_lit 200, kC "token_at" 529 "token_at" 530 "/claim/cut.py" 531 163 2 195 181 196 (kR 197) (kR 198) 199 534 163 "/claim/cut.py" 535) ::
    (nat_lit 201, kO "token_at" "token_at" ?a23 (FuncBody.stmts ?b23) ?s23 [] (Value.none) "basicplus.exprread" 452 200 Value.none) ::
    (nat_lit 202, kT []) ::
    (nat_lit 204, kT [kS "tokens" 540, kS "at" 541, kS "sign" 542]) ::
    (nat_lit 205, kT []) ::
    (nat_lit 207, kC "is_sign" 537 "is_sign" 538 "/claim/cut.py" 539 165 3 202 181 203 (kR 204) (kR 205) 206 543 165 "/claim/cut.py" 544) ::
    (nat_lit 208, kO "is_sign" "is_sign" ?a24 (FuncBody.stmts ?b24) ?s24 [] (Value.none) "basicplus.exprread" 452 207 Value.none) ::
    (nat_lit 209, kT []) ::
    (nat_lit 211, kT [kS "tokens" 549, kS "at" 550, kS "sign" 551]) ::
    (nat_lit 212, kT []) ::
    (nat_lit 214, kC "expect" 546 "expect" 547 "/claim/cut.py" 548 167 3 209 181 210 (kR 211) (kR 212) 213 552 167 "/claim/cut.py" 553) ::
    (nat_lit 215, kO "expect" "expect" ?a25 (FuncBody.stmts ?b25) ?s25 [] (Value.none) "basicplus.exprread" 452 214 Value.none) ::
    (nat_lit 216, kT []) ::
    (nat_lit 218, kT [kS "text" 558, kS "at" 559, kS "found" 560, kS "begin" 561]) ::
    (nat_lit 219, kT []) ::
    (nat_lit 221, kC "figures_at" 555 "figures_at" 556 "/claim/cut.py" 557 171 2 216 181 217 (kR 218) (kR 219) 220 562 171 "/claim/cut.py" 563) ::
    (nat_lit 222, kO "figures_at" "figures_at" ?a26 (FuncBody.stmts ?b26) ?s26 [] (Value.none) "basicplus.exprread" 452 221 Value.none) ::
    (nat_lit 223, kT []) ::
    (nat_lit 225, kT [kS "text" 568, kS "at" 569, kS "sign" 570, kS "found" 571, kS "many" 572, kS "end" 573]) ::
    (nat_lit 226, kT []) ::
    (nat_lit 228, kC "power_at" 565 "power_at" 566 "/claim/cut.py" 567 179 2 223 181 224 (kR 225) (kR 226) 227 574 179 "/claim/cut.py" 575) ::
    (nat_lit 229, kO "power_at" "power_at" ?a27 (FuncBody.stmts ?b27) ?s27 [] (Value.none) "basicplus.exprread" 452 228 Value.none) ::
    (nat_lit 230, kT []) ::
    (nat_lit 232, kT [kS "coefficient" 580, kS "exponent" 581, kS "first" 582]) ::
    (nat_lit 233, kT []) ::
    (nat_lit 235, kC "told_exactly" 577 "told_exactly" 578 "/claim/cut.py" 579 187 2 230 181 231 (kR 232) (kR 233) 234 583 187 "/claim/cut.py" 584) ::
    (nat_lit 236, kO "told_exactly" "told_exactly" ?a28 (FuncBody.stmts ?b28) ?s28 [] (Value.none) "basicplus.exprread" 452 235 Value.none) ::
    (nat_lit 237, kT []) ::
    (nat_lit 239, kT [kS "text" 589, kS "front" 590, kS "many" 591, kS "at" 592, kS "behind" 593, kS "places" 594, kS "power" 595]) ::
    (nat_lit 240, kT []) ::
    (nat_lit 242, kC "number_tree" 586 "number_tree" 587 "/claim/cut.py" 588 196 1 237 181 238 (kR 239) (kR 240) 241 596 196 "/claim/cut.py" 597) ::
    (nat_lit 243, kO "number_tree" "number_tree" ?a29 (FuncBody.stmts ?b29) ?s29 [] (Value.none) "basicplus.exprread" 452 242 Value.none) ::
    (nat_lit 251, kT []) ::
    (nat_lit 253, kT [kS "self" 614, kS "kind" 615, kS "word" 616]) ::
    (nat_lit 254, kT []) ::
    (nat_lit 256, kC "__init__" 611 "Level.__init__" 612 "/claim/cut.py" 613 207 3 251 181 252 (kR 253) (kR 254) 255 617 207 "/claim/cut.py" 618) ::
    (nat_lit 257, kO "__init__" "Level.__init__" ?a30 (FuncBody.stmts ?b30) ?s30 [] (Value.none) "basicplus.exprread" 452 256 Value.none) ::
    (nat_lit 258, kT [kS "args" 620, kS "kind" 621, kS "operands" 622, kS "operators" 623, kS "word" 624]) ::
    (nat_lit 259, { cls := Value.type "dict", data := Data.dict (kD P "__module__" 606 (kS "basicplus.exprread" 452) :: kD P "__firstlineno__" 610 (Value.int 205 609) :: kD P "__init__" 619 (kR 257) :: kD P "__static_attributes__" 625 (kR 258) :: kD P "__dict__" 627 (kR 261) :: kD P "__weakref__" 629 (kR 262) :: kD P "__doc__" 630 (Value.none) :: []).toArray 4 }) ::
    (nat_lit 260, { cls := Value.type "type", data := Data.cls { name := Str.ofString "Level", bases := [Value.type "object"], mro := [kR 260, Value.type "object"], ns := 259, qualname := Str.ofString "Level" }, slots := #[none, none, some (kS "Level" 599), some (kS "Level" 607), some (Value.builtin "object.__new__"), some (Value.bool true)] }) ::
    (nat_lit 261, { cls := Value.type "getset_descriptor", data := Data.fields #[kS "__dict__" 626, kR 260, Value.builtin "function.__dict__", Value.builtin "function.__dict__#set"] }) ::
    (nat_lit 262, { cls := Value.type "getset_descriptor", data := Data.fields #[kS "__weakref__" 628, kR 260, Value.builtin "ExceptionGroup.__weakref__", Value.none] }) ::
    (nat_lit 265, kT []) ::
    (nat_lit 267, kT [kS "level" 636, kS "strength" 637, kS "op" 638, kS "last" 639]) ::
    (nat_lit 268, kT []) ::
    (nat_lit 270, kC "join_up" 633 "join_up" 634 "/claim/cut.py" 635 213 2 265 181 266 (kR 267) (kR 268) 269 640 213 "/claim/cut.py" 641) ::
    (nat_lit 271, kO "join_up" "join_up" ?a31 (FuncBody.stmts ?b31) ?s31 [] (Value.none) "basicplus.exprread" 452 270 Value.none) ::
    (nat_lit 272, kT []) ::
    (nat_lit 274, kT [kS "level" 646, kS "last" 647]) ::
    (nat_lit 275, kT []) ::
    (nat_lit 277, kC "finished" 643 "finished" 644 "/claim/cut.py" 645 221 1 272 181 273 (kR 274) (kR 275) 276 648 221 "/claim/cut.py" 649) ::
    (nat_lit 278, kO "finished" "finished" ?a32 (FuncBody.stmts ?b32) ?s32 [] (Value.none) "basicplus.exprread" 452 277 Value.none) ::
    (nat_lit 279, kT []) ::
    (nat_lit 281, kT [kS "levels" 654, kS "kind" 655, kS "word" 656]) ::
    (nat_lit 282, kT []) ::
    (nat_lit 284, kC "opened" 651 "opened" 652 "/claim/cut.py" 653 227 3 279 181 280 (kR 281) (kR 282) 283 657 227 "/claim/cut.py" 658) ::
    (nat_lit 285, kO "opened" "opened" ?a33 (FuncBody.stmts ?b33) ?s33 [] (Value.none) "basicplus.exprread" 452 284 Value.none) ::
    (nat_lit 286, kT []) ::
    (nat_lit 288, kT [kS "tokens" 663, kS "at" 664, kS "kind" 665, kS "told" 666]) ::
    (nat_lit 289, kT []) ::
    (nat_lit 291, kC "plain_operand" 660 "plain_operand" 661 "/claim/cut.py" 662 231 2 286 181 287 (kR 288) (kR 289) 290 667 231 "/claim/cut.py" 668) ::
    (nat_lit 292, kO "plain_operand" "plain_operand" ?a34 (FuncBody.stmts ?b34) ?s34 [] (Value.none) "basicplus.exprread" 452 291 Value.none) ::
    (nat_lit 293, kT []) ::
    (nat_lit 295, kT [kS "levels" 673, kS "tokens" 674, kS "at" 675, kS "known" 676, kS "kind" 677, kS "told" 678, kS "found" 679]) ::
    (nat_lit 296, kT []) ::
    (nat_lit 298, kC "take_operand" 670 "take_operand" 671 "/claim/cut.py" 672 242 4 293 181 294 (kR 295) (kR 296) 297 680 242 "/claim/cut.py" 681) ::
    (nat_lit 299, kO "take_operand" "take_operand" ?a35 (FuncBody.stmts ?b35) ?s35 [] (Value.none) "basicplus.exprread" 452 298 Value.none) ::
    (nat_lit 300, kT []) ::
    (nat_lit 302, kT [kS "levels" 686, kS "tokens" 687, kS "at" 688, kS "kind" 689, kS "told" 690, kS "here" 691]) ::
    (nat_lit 303, kT []) ::
    (nat_lit 305, kC "take_operator" 683 "take_operator" 684 "/claim/cut.py" 685 260 3 300 181 301 (kR 302) (kR 303) 304 692 260 "/claim/cut.py" 693) ::
    (nat_lit 306, kO "take_operator" "take_operator" ?a36 (FuncBody.stmts ?b36) ?s36 [] (Value.none) "basicplus.exprread" 452 305 Value.none) ::
    (nat_lit 307, kT []) ::
    (nat_lit 309, kT [kS "tokens" 698, kS "at" 699, kS "levels" 700, kS "due" 701, kS "known" 702, kS "is_whole" 703]) ::
    (nat_lit 310, kT []) ::
    (nat_lit 312, kC "expression" 695 "expression" 696 "/claim/cut.py" 697 277 2 307 181 308 (kR 309) (kR 310) 311 704 277 "/claim/cut.py" 705) ::
    (nat_lit 313, kO "expression" "expression" ?a37 (FuncBody.stmts ?b37) ?s37 [] (Value.none) "basicplus.exprread" 452 312 Value.none) ::
    (nat_lit 314, kT []) ::
    (nat_lit 316, kT [kS "text" 710]) ::
    (nat_lit 317, kT []) ::
    (nat_lit 319, kC "quoted" 707 "quoted" 708 "/claim/cut.py" 709 286 1 314 181 315 (kR 316) (kR 317) 318 711 286 "/claim/cut.py" 712) ::
    (nat_lit 320, kO "quoted" "quoted" ?a38 (FuncBody.stmts ?b38) ?s38 [] (Value.none) "basicplus.exprread" 452 319 Value.none) ::
    (nat_lit 321, kT []) ::
    (nat_lit 323, kT [kS "value" 717, kS "coefficient" 718, kS "exponent" 719]) ::
    (nat_lit 324, kT []) ::
    (nat_lit 326, kC "decimal_text" 714 "decimal_text" 715 "/claim/cut.py" 716 288 1 321 181 322 (kR 323) (kR 324) 325 720 288 "/claim/cut.py" 721) ::
    (nat_lit 327, kO "decimal_text" "decimal_text" ?a39 (FuncBody.stmts ?b39) ?s39 [] (Value.none) "basicplus.exprread" 452 326 Value.none) ::
    (nat_lit 328, kT []) ::
    (nat_lit 330, kT [kS "tree" 726]) ::
    (nat_lit 331, kT []) ::
    (nat_lit 333, kC "leaf_text" 723 "leaf_text" 724 "/claim/cut.py" 725 291 1 328 181 329 (kR 330) (kR 331) 332 727 291 "/claim/cut.py" 728) ::
    (nat_lit 334, kO "leaf_text" "leaf_text" ?a40 (FuncBody.stmts ?b40) ?s40 [] (Value.none) "basicplus.exprread" 452 333 Value.none) ::
    (nat_lit 335, kT []) ::
    (nat_lit 337, kT [kS "tree" 733]) ::
    (nat_lit 338, kT []) ::
    (nat_lit 340, kC "parts_of_tree" 730 "parts_of_tree" 731 "/claim/cut.py" 732 297 1 335 181 336 (kR 337) (kR 338) 339 734 297 "/claim/cut.py" 735) ::
    (nat_lit 341, kO "parts_of_tree" "parts_of_tree" ?a41 (FuncBody.stmts ?b41) ?s41 [] (Value.none) "basicplus.exprread" 452 340 Value.none) ::
    (nat_lit 342, kT []) ::
    (nat_lit 344, kT [kS "tree" 740, kS "texts" 741, kS "kind" 742]) ::
    (nat_lit 345, kT []) ::
    (nat_lit 347, kC "shown_part" 737 "shown_part" 738 "/claim/cut.py" 739 303 2 342 181 343 (kR 344) (kR 345) 346 743 303 "/claim/cut.py" 744) ::
    (nat_lit 348, kO "shown_part" "shown_part" ?a42 (FuncBody.stmts ?b42) ?s42 [] (Value.none) "basicplus.exprread" 452 347 Value.none) ::
    (nat_lit 349, kT []) ::
    (nat_lit 352, kC "shown_tree" 746 "shown_tree" 747 "/claim/cut.py" 748 312 1 349 181 350 (Value.none) (Value.none) 351 749 312 "/claim/cut.py" 750) ::
    (nat_lit 353, kO "shown_tree" "shown_tree" ?a43 (FuncBody.stmts ?b43) ?s43 [] (Value.none) "basicplus.exprread" 452 352 Value.none) ::
    (nat_lit 354, kT [Value.int 0 754, Value.int 0 755]) ::
    (nat_lit 355, kT []) ::
    (nat_lit 357, kT [kS "text" 766, kS "at" 767, kS "found" 768, kS "begin" 769]) ::
    (nat_lit 358, kT []) ::
    (nat_lit 360, kC "run_of_figures" 763 "run_of_figures" 764 "/claim/cut.py" 765 329 2 355 181 356 (kR 357) (kR 358) 359 770 329 "/claim/cut.py" 771) ::
    (nat_lit 361, kO "run_of_figures" "run_of_figures" ?a44 (FuncBody.stmts ?b44) ?s44 [] (Value.none) "basicplus.decimals" 752 360 Value.none) ::
    (nat_lit 362, kT []) ::
    (nat_lit 364, kT [kS "text" 776, kS "at" 777, kS "begin" 778, kS "sign" 779, kS "found" 780, kS "many" 781, kS "end" 782]) ::
    (nat_lit 365, kT []) ::
    (nat_lit 367, kC "exponent_at" 773 "exponent_at" 774 "/claim/cut.py" 775 335 2 362 181 363 (kR 364) (kR 365) 366 783 335 "/claim/cut.py" 784) ::
    (nat_lit 368, kO "exponent_at" "exponent_at" ?a45 (FuncBody.stmts ?b45) ?s45 [] (Value.none) "basicplus.decimals" 752 367 Value.none) ::
    (nat_lit 369, kT []) ::
    (nat_lit 371, kT [kS "text" 789, kS "digits" 790, kS "at" 791, kS "is_below" 792, kS "found" 793, kS "ahead" 794, kS "behind" 795, kS "more" 796, kS "end" 797, kS "exponent" 798]) ::
    (nat_lit 372, kT []) ::
    (nat_lit 374, kC "d_of_text" 786 "d_of_text" 787 "/claim/cut.py" 788 346 2 369 181 370 (kR 371) (kR 372) 373 799 346 "/claim/cut.py" 800) ::
    (nat_lit 375, kO "d_of_text" "d_of_text" ?a46 (FuncBody.stmts ?b46) ?s46 [] (Value.none) "basicplus.decimals" 752 374 Value.none) ::
    (nat_lit 376, kT []) ::
    (nat_lit 378, kT [kS "coefficient" 805, kS "exponent" 806, kS "digits" 807, kS "top" 808]) ::
    (nat_lit 379, kT []) ::
    (nat_lit 381, kC "told_decimal" 802 "told_decimal" 803 "/claim/cut.py" 804 362 3 376 181 377 (kR 378) (kR 379) 380 809 362 "/claim/cut.py" 810) ::
    (nat_lit 382, kO "told_decimal" "told_decimal" ?a47 (FuncBody.stmts ?b47) ?s47 [] (Value.none) "basicplus.decimals" 752 381 Value.none) ::
    (nat_lit 383, kT []) ::
    (nat_lit 385, kT [kS "tree" 817, kS "bits" 818, kS "digits" 819, kS "kind" 820, kS "value" 821]) ::
    (nat_lit 386, kT []) ::
    (nat_lit 388, kC "worth_of_leaf" 814 "worth_of_leaf" 815 "/claim/cut.py" 816 370 3 383 181 384 (kR 385) (kR 386) 387 822 370 "/claim/cut.py" 823) ::
    (nat_lit 389, kO "worth_of_leaf" "worth_of_leaf" ?a48 (FuncBody.stmts ?b48) ?s48 [] (Value.none) "basicplus.worth" 812 388 Value.none) ::
    (nat_lit 390, kT []) ::
    (nat_lit 392, kT [kS "mug" 830, kS "many" 831]) ::
    (nat_lit 393, kT []) ::
    (nat_lit 395, kC "_law_sipped" 827 "_law_sipped" 828 "/claim/cut.py" 829 376 2 390 181 391 (kR 392) (kR 393) 394 832 376 "/claim/cut.py" 833) ::
    (nat_lit 396, kO "_law_sipped" "_law_sipped" ?a49 (FuncBody.stmts ?b49) ?s49 [] (Value.none) "law_pf0014_01" 825 395 Value.none) ::
    (nat_lit 397, kT []) ::
    (nat_lit 399, kT [kS "figures" 838, kS "power" 839, kS "digits" 840, kS "head" 841, kS "rest" 842, kS "kept" 843, kS "tail" 844, kS "top" 845, kS "short" 846]) ::
    (nat_lit 400, kT []) ::
    (nat_lit 402, kC "_law_nearest" 835 "_law_nearest" 836 "/claim/cut.py" 837 379 3 397 181 398 (kR 399) (kR 400) 401 847 379 "/claim/cut.py" 848) ::
    (nat_lit 403, kO "_law_nearest" "_law_nearest" ?a50 (FuncBody.stmts ?b50) ?s50 [] (Value.none) "law_pf0014_01" 825 402 Value.none) ::
    (nat_lit 404, kT []) ::
    (nat_lit 406, kT [kS "work" 853, kS "refusal" 854]) ::
    (nat_lit 407, kT []) ::
    (nat_lit 409, kC "_law_heard" 850 "_law_heard" 851 "/claim/cut.py" 852 392 1 404 181 405 (kR 406) (kR 407) 408 855 392 "/claim/cut.py" 856) ::
    (nat_lit 410, kO "_law_heard" "_law_heard" ?a51 (FuncBody.stmts ?b51) ?s51 [] (Value.none) "law_pf0014_01" 825 409 Value.none) ::
    (nat_lit 411, kT []) ::
    (nat_lit 413, kT [kS "text" 861, kS "tree" 862, kS "tokens" 863]) ::
    (nat_lit 414, kT []) ::
    (nat_lit 416, kC "_law_is_back" 858 "_law_is_back" 859 "/claim/cut.py" 860 397 2 411 181 412 (kR 413) (kR 414) 415 864 397 "/claim/cut.py" 865) ::
    (nat_lit 417, kO "_law_is_back" "_law_is_back" ?a52 (FuncBody.stmts ?b52) ?s52 [] (Value.none) "law_pf0014_01" 825 416 Value.none) ::
    (nat_lit 418, kT []) ::
    (nat_lit 420, kT [kS "front" 870, kS "behind" 871, kS "power" 872, kS "digits" 873, kS "figures" 874, kS "tens" 875, kS "due" 876, kS "found" 877, kS "number" 878, kS "told" 879, kS "end" 880]) ::
    (nat_lit 421, kT [kS "digits" 881, kS "text" 882, kS "tree" 883]) ::
    (nat_lit 423, kC "_law_number_right" 867 "_law_number_right" 868 "/claim/cut.py" 869 400 4 418 181 419 (kR 420) (kR 421) 422 884 400 "/claim/cut.py" 885) ::
    (nat_lit 424, kO "_law_number_right" "_law_number_right" ?a53 (FuncBody.stmts ?b53) ?s53 [] (Value.none) "law_pf0014_01" 825 423 Value.none) ::
    (nat_lit 425, kT []) ::
    (nat_lit 427, kT [kS "text" 890]) ::
    (nat_lit 428, kT [kS "text" 891]) ::
    (nat_lit 430, kC "_law_by_six" 887 "_law_by_six" 888 "/claim/cut.py" 889 417 1 425 181 426 (kR 427) (kR 428) 429 892 417 "/claim/cut.py" 893) ::
    (nat_lit 431, kO "_law_by_six" "_law_by_six" ?a54 (FuncBody.stmts ?b54) ?s54 [] (Value.none) "law_pf0014_01" 825 430 Value.none) ::
    (nat_lit 432, kT []) ::
    (nat_lit 435, kC "law" 895 "law" 896 "/claim/cut.py" 897 419 1 432 181 433 (Value.none) (Value.none) 434 898 419 "/claim/cut.py" 899) ::
    (nat_lit 436, kO "law" "law" ?a55 (FuncBody.stmts ?b55) ?s55 [] (Value.none) "law_pf0014_01" 825 435 Value.none) :: []) → Params → Frag) ?f ?p1 ?p2
  case g => exact fun F _ _ => F
  case p1 => exact rfl
  case p2 => delta kS kR kT kF kC kO kD; exact rfl

theorem law_red.tw14622842886465642711 : True := trivial
theorem law_red.tw4066378779616366231 : True := trivial
set_option Elab.async true in
set_option maxHeartbeats 16000000 in
theorem law_red (h : PySem.Challenge.rw_pf0014_01.row.wellSaid = true → PySem.Challenge.rw_pf0014_01.row.Holds) : PySem.Challenge.rw_pf0014_01.Holds := by
  o_law
  exact h (by assumption)

abbrev Led := List (Addr × Obj)
/-- what a caller gets: the value r, the ledger grown by tl -/
noncomputable def Ret (h₀ : Heap) (L : Addr) (m : Str → Option Value) (news : Led) (s : Shared) (Q : Value → Shared → Prop) (Out : Value → Led → Prop) : Prop :=
  ∀ (r : Value) (tl : Led) (h' : Heap) (tk' : Nat), Fr h₀ L h' m → News h₀ L h' (tl ++ news) → (∀ q ∈ news, ∀ p ∈ tl, q.1 < p.1) → Out r tl → Q r { s with heap := h', toks := tk' }
noncomputable def Meets (w : World) (f : Addr) (d u : Nat) (vs : List Value) (Out : Value → Led → Prop) : Prop :=
  ∀ (p : Program) (loose : List Str) (mean : ExcName → Option Value) (mg mb : Str → Option Value) (dp un : Nat) (gd : Option (List Code)) (cn : Str) (cs : Scope) (a : Addr) (ccd : Value) (cl : List (Str × Addr)) (outer : List Env) (A₀ : Around) (base h₀ : Heap) (L : Addr) (m : Str → Option Value) (news : Led) (s : Shared) (Q E : Value → Shared → Prop),
    PySem.Challenge.rw_pf0014_01 = PySem.Challenge.rw_pf0014_01 →
    Below A₀ base outer h₀ → Fr h₀ L s.heap m → (Mine.K w.params).In h₀ → News h₀ L s.heap news → Top p loose mean mg mb h₀ → cs.kind = .function → dp + d < recursionLimit → un + u < cLine →
    Ret h₀ L m news s Q Out → wpAny (model prg w) (ktrTop dp un gd cn cs L a ccd cl outer) (call (.ref f) vs) Q E s
section
variable {w : World} {f : Addr} {d u : Nat} {vs : List Value} {p : Program} {loose : List Str} {mean : ExcName → Option Value} {mg mb : Str → Option Value} {dp un : Nat} {gd : Option (List Code)} {cn : Str} {cs : Scope} {a : Addr} {ccd : Value} {cl : List (Str × Addr)} {outer : List Env} {A₀ : Around} {base h₀ : Heap} {L : Addr} {m : Str → Option Value} {news : Led} {s : Shared} {Q E : Value → Shared → Prop}
noncomputable def OutI (x : Int) (r : Value) (tl : Led) : Prop := tl = [] ∧ ∃ t, r = .int x t
noncomputable def OutS (x : Str) (r : Value) (tl : Led) : Prop := tl = [] ∧ ∃ t, r = .str x t
noncomputable def OutB (x : Bool) (r : Value) (tl : Led) : Prop := tl = [] ∧ r = .bool x
noncomputable abbrev tup (l : List Value) : Obj := { cls := .type "tuple", data := .seq l.toArray }
noncomputable def OutII (x y : Int) (r : Value) (tl : Led) : Prop := ∃ (D : Addr) (a b : Tok), tl = [(D, tup [.int x a, .int y b])] ∧ r = .ref D
noncomputable def OutIII (x y z : Int) (r : Value) (tl : Led) : Prop := ∃ (D : Addr) (a b c : Tok), tl = [(D, tup [.int x a, .int y b, .int z c])] ∧ r = .ref D
theorem useI {x : Int} (C : Meets w f d u vs (OutI x)) (B : Below A₀ base outer h₀) (F : Fr h₀ L s.heap m) (X : (Mine.K w.params).In h₀) (N : News h₀ L s.heap news) (T : Top p loose mean mg mb h₀) (hk : cs.kind = .function) (hd : dp + d < recursionLimit) (hu : un + u < cLine)
    (k : ∀ t h' tk', Fr h₀ L h' m → News h₀ L h' news → Q (.int x t) { s with heap := h', toks := tk' }) : wpAny (model prg w) (ktrTop dp un gd cn cs L a ccd cl outer) (call (.ref f) vs) Q E s :=
  C p loose mean mg mb dp un gd cn cs a ccd cl outer A₀ base h₀ L m news s Q E rfl B F X N T hk hd hu fun r tl h' tk' F' N' _ ho => by
    obtain ⟨rfl, t, rfl⟩ := ho
    exact k t h' tk' F' N'
theorem useS {x : Str} (C : Meets w f d u vs (OutS x)) (B : Below A₀ base outer h₀) (F : Fr h₀ L s.heap m) (X : (Mine.K w.params).In h₀) (N : News h₀ L s.heap news) (T : Top p loose mean mg mb h₀) (hk : cs.kind = .function) (hd : dp + d < recursionLimit) (hu : un + u < cLine)
    (k : ∀ t h' tk', Fr h₀ L h' m → News h₀ L h' news → Q (.str x t) { s with heap := h', toks := tk' }) : wpAny (model prg w) (ktrTop dp un gd cn cs L a ccd cl outer) (call (.ref f) vs) Q E s :=
  C p loose mean mg mb dp un gd cn cs a ccd cl outer A₀ base h₀ L m news s Q E rfl B F X N T hk hd hu fun r tl h' tk' F' N' _ ho => by
    obtain ⟨rfl, t, rfl⟩ := ho
    exact k t h' tk' F' N'
theorem useB {x : Bool} (C : Meets w f d u vs (OutB x)) (B : Below A₀ base outer h₀) (F : Fr h₀ L s.heap m) (X : (Mine.K w.params).In h₀) (N : News h₀ L s.heap news) (T : Top p loose mean mg mb h₀) (hk : cs.kind = .function) (hd : dp + d < recursionLimit) (hu : un + u < cLine)
    (k : ∀ h' tk', Fr h₀ L h' m → News h₀ L h' news → Q (.bool x) { s with heap := h', toks := tk' }) : wpAny (model prg w) (ktrTop dp un gd cn cs L a ccd cl outer) (call (.ref f) vs) Q E s :=
  C p loose mean mg mb dp un gd cn cs a ccd cl outer A₀ base h₀ L m news s Q E rfl B F X N T hk hd hu fun r tl h' tk' F' N' _ ho => by
    obtain ⟨rfl, rfl⟩ := ho
    exact k h' tk' F' N'
theorem useII {x y : Int} (C : Meets w f d u vs (OutII x y)) (B : Below A₀ base outer h₀) (F : Fr h₀ L s.heap m) (X : (Mine.K w.params).In h₀) (N : News h₀ L s.heap news) (T : Top p loose mean mg mb h₀) (hk : cs.kind = .function) (hd : dp + d < recursionLimit) (hu : un + u < cLine)
    (k : ∀ D a b h' tk', Fr h₀ L h' m → News h₀ L h' ((D, tup [.int x a, .int y b]) :: news) → (∀ q ∈ news, q.1 < D) → Q (.ref D) { s with heap := h', toks := tk' }) : wpAny (model prg w) (ktrTop dp un gd cn cs L a ccd cl outer) (call (.ref f) vs) Q E s :=
  C p loose mean mg mb dp un gd cn cs a ccd cl outer A₀ base h₀ L m news s Q E rfl B F X N T hk hd hu fun r tl h' tk' F' N' l ho => by
    obtain ⟨D, a, b, rfl, rfl⟩ := ho
    exact k D a b h' tk' F' N' fun q hq => l q hq (D, _) (.head _)
theorem useIII {x y z : Int} (C : Meets w f d u vs (OutIII x y z)) (B : Below A₀ base outer h₀) (F : Fr h₀ L s.heap m) (X : (Mine.K w.params).In h₀) (N : News h₀ L s.heap news) (T : Top p loose mean mg mb h₀) (hk : cs.kind = .function) (hd : dp + d < recursionLimit) (hu : un + u < cLine)
    (k : ∀ D a b c h' tk', Fr h₀ L h' m → News h₀ L h' ((D, tup [.int x a, .int y b, .int z c]) :: news) → (∀ q ∈ news, q.1 < D) → Q (.ref D) { s with heap := h', toks := tk' }) : wpAny (model prg w) (ktrTop dp un gd cn cs L a ccd cl outer) (call (.ref f) vs) Q E s :=
  C p loose mean mg mb dp un gd cn cs a ccd cl outer A₀ base h₀ L m news s Q E rfl B F X N T hk hd hu fun r tl h' tk' F' N' l ho => by
    obtain ⟨D, a, b, c, rfl, rfl⟩ := ho
    exact k D a b c h' tk' F' N' fun q hq => l q hq (D, _) (.head _)
theorem Ret.int {x : Int} {y : Int} {t : Tok} {h' : Heap} {tk' : Nat} (H : Ret h₀ L m news s Q (OutI x)) (F : Fr h₀ L h' m) {news' : Led} (N : News h₀ L h' news') (hs : ∀ q ∈ news, q ∈ news') (e : y = x) : Q (.int y t) { s with heap := h', toks := tk' } := by
  subst e
  exact H _ [] h' tk' F (fun q hq => N q (hs q hq)) (fun _ _ _ h => nomatch h) ⟨rfl, t, rfl⟩
theorem Ret.str {x y : Str} {t : Tok} {h' : Heap} {tk' : Nat} (H : Ret h₀ L m news s Q (OutS x)) (F : Fr h₀ L h' m) {news' : Led} (N : News h₀ L h' news') (hs : ∀ q ∈ news, q ∈ news') (e : y = x) : Q (.str y t) { s with heap := h', toks := tk' } := by
  subst e
  exact H _ [] h' tk' F (fun q hq => N q (hs q hq)) (fun _ _ _ h => nomatch h) ⟨rfl, t, rfl⟩
theorem Ret.bool {x y : Bool} {h' : Heap} {tk' : Nat} (H : Ret h₀ L m news s Q (OutB x)) (F : Fr h₀ L h' m) {news' : Led} (N : News h₀ L h' news') (hs : ∀ q ∈ news, q ∈ news') (e : y = x) : Q (.bool y) { s with heap := h', toks := tk' } := by
  subst e
  exact H _ [] h' tk' F (fun q hq => N q (hs q hq)) (fun _ _ _ h => nomatch h) ⟨rfl, rfl⟩
theorem Ret.made {Out : Value → Led → Prop} {D : Addr} {o : Obj} {h' : Heap} {tk' : Nat} (H : Ret h₀ L m news s Q Out) (F : Fr h₀ L h' m) {news' : Led} (N : News h₀ L h' news') (hs : ∀ q ∈ news, q ∈ news') (hD : (D, o) ∈ news') (lt : ∀ q ∈ news, q.1 < D) (e : Out (.ref D) [(D, o)]) : Q (.ref D) { s with heap := h', toks := tk' } :=
  H _ [(D, o)] h' tk' F (fun q hq => by
    rcases List.mem_cons.mp hq with rfl | hq
    · exact N _ hD
    · exact N q (hs q hq)) (fun q hq p hp => by rw [List.mem_singleton.mp hp]; exact lt q hq) e
theorem Ret.made2 {Out : Value → Led → Prop} {D D2 : Addr} {o o2 : Obj} {h' : Heap} {tk' : Nat} (H : Ret h₀ L m news s Q Out) (F : Fr h₀ L h' m) {news' : Led} (N : News h₀ L h' news') (hs : ∀ q ∈ news, q ∈ news') (hD : (D, o) ∈ news') (hD2 : (D2, o2) ∈ news') (lt : ∀ q ∈ news, q.1 < D) (lt2 : ∀ q ∈ news, q.1 < D2) (e : Out (.ref D) [(D, o), (D2, o2)]) : Q (.ref D) { s with heap := h', toks := tk' } :=
  H _ [(D, o), (D2, o2)] h' tk' F (fun q hq => by
    rcases List.mem_cons.mp hq with rfl | hq
    · exact N _ hD
    · rcases List.mem_cons.mp hq with rfl | hq
      · exact N _ hD2
      · exact N q (hs q hq)) (fun q hq p hp => by
    rcases List.mem_cons.mp hp with rfl | hp
    · exact lt q hq
    · rw [List.mem_singleton.mp hp]; exact lt2 q hq) e
theorem Ret.ii {x y x' y' : Int} {a b : Tok} {D : Addr} {h' : Heap} {tk' : Nat} (H : Ret h₀ L m news s Q (OutII x y)) (F : Fr h₀ L h' m) {news' : Led} (N : News h₀ L h' news') (hs : ∀ q ∈ news, q ∈ news') (hD : (D, tup [.int x' a, .int y' b]) ∈ news') (lt : ∀ q ∈ news, q.1 < D) (e1 : x' = x) (e2 : y' = y) : Q (.ref D) { s with heap := h', toks := tk' } := by
  subst e1 e2
  exact H.made F N hs hD lt ⟨D, a, b, rfl, rfl⟩
theorem Ret.iii {x y z x' y' z' : Int} {a b c : Tok} {D : Addr} {h' : Heap} {tk' : Nat} (H : Ret h₀ L m news s Q (OutIII x y z)) (F : Fr h₀ L h' m) {news' : Led} (N : News h₀ L h' news') (hs : ∀ q ∈ news, q ∈ news') (hD : (D, tup [.int x' a, .int y' b, .int z' c]) ∈ news') (lt : ∀ q ∈ news, q.1 < D) (e1 : x' = x) (e2 : y' = y) (e3 : z' = z) : Q (.ref D) { s with heap := h', toks := tk' } := by
  subst e1 e2 e3
  exact H.made F N hs hD lt ⟨D, a, b, c, rfl, rfl⟩
end

/-- a turn of a while has come to its end -/
noncomputable def WhStep {σ : Type} (h₀ : Heap) (L : Addr) (s : Shared) (M : σ → Str → Option Value) (news : Led) (I : σ → Prop) (μ : σ → Nat) (Q : Flow → Shared → Prop) (c : σ) (f : Flow) (s₃ : Shared) : Prop :=
  match f with
  | .next | .cont => ∃ c' h' tk m' news', s₃ = { s with heap := h', toks := tk } ∧ Fr h₀ L h' m' ∧ News h₀ L h' news' ∧ (∀ q ∈ news, q ∈ news') ∧ m' = M c' ∧ I c' ∧ μ c' < μ c
  | .brk => Q .next s₃
  | .ret v => Q (.ret v) s₃
section
variable {prog : Program} {w : World} {A : Around} {E : Value → Shared → Prop} {Q : Flow → Shared → Prop} {s : Shared} {env : Env} {h₀ : Heap} {L : Addr}
theorem WhStep.next {σ : Type} {M : σ → Str → Option Value} {news : Led} {I : σ → Prop} {μ : σ → Nat} {c : σ} {h' : Heap} {tk : Nat} {m' : Str → Option Value} {news' : Led} (c' : σ) (F : Fr h₀ L h' m') (N : News h₀ L h' news') (hs : ∀ q ∈ news, q ∈ news') (hm : m' = M c') (hI : I c') (hμ : μ c' < μ c) :
    WhStep h₀ L s M news I μ Q c .next { s with heap := h', toks := tk } := ⟨c', h', tk, m', news', rfl, F, N, hs, hm, hI, hμ⟩
theorem while_st {σ : Type} {test : Expr} {body : List Stmt} {pos : Pos} {m : Str → Option Value} {news : Led} (M : (Str → Option Value) → σ → Str → Option Value) (I : σ → Prop) (μ : σ → Nat) (c₀ : σ)
    (F : Fr h₀ L s.heap m) (N : News h₀ L s.heap news) (hm : m = M m c₀) (hI : I c₀)
    (turn : ∀ c h₁ tk₁, I c → Fr h₀ L h₁ (M m c) → News h₀ L h₁ news →
      wpAny (model prog w) A (isTrue test env (eval test env)) (fun b s₂ =>
        if b = true then wpAny (model prog w) A (execs body env) (WhStep h₀ L s (M m) news I μ Q c) E s₂ else Q .next s₂) E { s with heap := h₁, toks := tk₁ })
    (hE : PassesOwn (model prog w) A env E) :
    wpAny (model prog w) A (exec (.While test body [] pos) env) Q E s := by
  refine While_inv2 (fun n m' nx => ∃ c, m' = M m c ∧ nx = news ∧ I c ∧ μ c = n) F N ⟨c₀, hm, rfl, hI, rfl⟩ ?_ hE
  rintro n m₁ nx h tk F₁ N₁ ⟨c, rfl, rfl, hI', rfl⟩
  refine wpAny_mono (turn c h tk hI' F₁ N₁) (fun b s₂ p => ?_) fun _ _ x => x
  cases b with
  | false => exact p
  | true =>
    simp only [if_true] at p ⊢
    refine wpAny_mono p (fun f s₃ q => ?_) fun _ _ x => x
    cases f with
    | ret v => exact q
    | brk => exact q
    | next => obtain ⟨c', h', tk, m', news', rfl, F', N', hs, hm', hI'', hμ⟩ := q; exact ⟨h', tk, m', _, _, rfl, F', fun q hq => N' q (hs q hq), hμ, c', hm', rfl, hI'', rfl⟩
    | cont => obtain ⟨c', h', tk, m', news', rfl, F', N', hs, hm', hI'', hμ⟩ := q; exact ⟨h', tk, m', _, _, rfl, F', fun q hq => N' q (hs q hq), hμ, c', hm', rfl, hI'', rfl⟩
end
noncomputable def Bears {P : Prop} (_ : P) : Prop := True
noncomputable def PullF (P : Prop) : Prop := ∀ p q : P, (Bears p ∧ Bears q) → P
theorem pair_ {P : Prop} (p : P) : Bears p ∧ Bears p := ⟨trivial, trivial⟩

section
variable {M : Model} {A : Around} {E : Value → Shared → Prop} {env : Env}
theorem execs_gen {st : Stmt} {rest : List Stmt} {Q : Flow → Shared → Prop} {h : Heap} {g : Array GenState} {d : Drawn} {X : Nat} {o : OsState} (H : ∀ tk, wpAny M A (exec st env) (fun f s' => match f with | .next => wpAny M A (execs rest env) Q E s' | f => Q f s') E ⟨h, g, d, tk, o⟩) :
    wpAny M A (execs (st :: rest) env) Q E ⟨h, g, d, X, o⟩ := wpAny_execs_cons (H X)
end
theorem rm0 {d k n R : Nat} (h : d + k < R) (e : Nat.ble n k = true) : d + n < R := Nat.lt_of_le_of_lt (Nat.add_le_add_left (Nat.le_of_ble_eq_true e) d) h
theorem rm1 {d k a n R : Nat} (h : d + k < R) (e : Nat.ble (a + n) k = true) : d + a + n < R := Nat.add_assoc d a n ▸ rm0 h e
theorem rmz {d k R : Nat} (h : d + k < R) : d < R := Nat.lt_of_le_of_lt (Nat.le_add_right d k) h
theorem lB1 {a b : Nat} {r : Prop} (h : a < b ∧ r) : a < b := h.1
theorem lB2 {a b : Nat} {x1 r : Prop} (h : x1 ∧ a < b ∧ r) : a < b := h.2.1
theorem lB3 {a b : Nat} {x1 x2 r : Prop} (h : x1 ∧ x2 ∧ a < b ∧ r) : a < b := h.2.2.1
theorem lB4 {a b : Nat} {x1 x2 x3 r : Prop} (h : x1 ∧ x2 ∧ x3 ∧ a < b ∧ r) : a < b := h.2.2.2.1
theorem lB5 {a b : Nat} {x1 x2 x3 x4 r : Prop} (h : x1 ∧ x2 ∧ x3 ∧ x4 ∧ a < b ∧ r) : a < b := h.2.2.2.2.1
theorem lB6 {a b : Nat} {x1 x2 x3 x4 x5 r : Prop} (h : x1 ∧ x2 ∧ x3 ∧ x4 ∧ x5 ∧ a < b ∧ r) : a < b := h.2.2.2.2.2.1
theorem lB7 {a b : Nat} {x1 x2 x3 x4 x5 x6 r : Prop} (h : x1 ∧ x2 ∧ x3 ∧ x4 ∧ x5 ∧ x6 ∧ a < b ∧ r) : a < b := h.2.2.2.2.2.2.1
theorem lB8 {a b : Nat} {x1 x2 x3 x4 x5 x6 x7 r : Prop} (h : x1 ∧ x2 ∧ x3 ∧ x4 ∧ x5 ∧ x6 ∧ x7 ∧ a < b ∧ r) : a < b := h.2.2.2.2.2.2.2.1
theorem lB9 {a b : Nat} {x1 x2 x3 x4 x5 x6 x7 x8 r : Prop} (h : x1 ∧ x2 ∧ x3 ∧ x4 ∧ x5 ∧ x6 ∧ x7 ∧ x8 ∧ a < b ∧ r) : a < b := h.2.2.2.2.2.2.2.2.1
theorem lB10 {a b : Nat} {x1 x2 x3 x4 x5 x6 x7 x8 x9 r : Prop} (h : x1 ∧ x2 ∧ x3 ∧ x4 ∧ x5 ∧ x6 ∧ x7 ∧ x8 ∧ x9 ∧ a < b ∧ r) : a < b := h.2.2.2.2.2.2.2.2.2.1
theorem lB11 {a b : Nat} {x1 x2 x3 x4 x5 x6 x7 x8 x9 x10 r : Prop} (h : x1 ∧ x2 ∧ x3 ∧ x4 ∧ x5 ∧ x6 ∧ x7 ∧ x8 ∧ x9 ∧ x10 ∧ a < b ∧ r) : a < b := h.2.2.2.2.2.2.2.2.2.2.1
theorem lB12 {a b : Nat} {x1 x2 x3 x4 x5 x6 x7 x8 x9 x10 x11 r : Prop} (h : x1 ∧ x2 ∧ x3 ∧ x4 ∧ x5 ∧ x6 ∧ x7 ∧ x8 ∧ x9 ∧ x10 ∧ x11 ∧ a < b ∧ r) : a < b := h.2.2.2.2.2.2.2.2.2.2.2.1
theorem lB13 {a b : Nat} {x1 x2 x3 x4 x5 x6 x7 x8 x9 x10 x11 x12 r : Prop} (h : x1 ∧ x2 ∧ x3 ∧ x4 ∧ x5 ∧ x6 ∧ x7 ∧ x8 ∧ x9 ∧ x10 ∧ x11 ∧ x12 ∧ a < b ∧ r) : a < b := h.2.2.2.2.2.2.2.2.2.2.2.2.1
theorem lB14 {a b : Nat} {x1 x2 x3 x4 x5 x6 x7 x8 x9 x10 x11 x12 x13 r : Prop} (h : x1 ∧ x2 ∧ x3 ∧ x4 ∧ x5 ∧ x6 ∧ x7 ∧ x8 ∧ x9 ∧ x10 ∧ x11 ∧ x12 ∧ x13 ∧ a < b ∧ r) : a < b := h.2.2.2.2.2.2.2.2.2.2.2.2.2.1
theorem lB15 {a b : Nat} {x1 x2 x3 x4 x5 x6 x7 x8 x9 x10 x11 x12 x13 x14 r : Prop} (h : x1 ∧ x2 ∧ x3 ∧ x4 ∧ x5 ∧ x6 ∧ x7 ∧ x8 ∧ x9 ∧ x10 ∧ x11 ∧ x12 ∧ x13 ∧ x14 ∧ a < b ∧ r) : a < b := h.2.2.2.2.2.2.2.2.2.2.2.2.2.2.1
theorem lB16 {a b : Nat} {x1 x2 x3 x4 x5 x6 x7 x8 x9 x10 x11 x12 x13 x14 x15 r : Prop} (h : x1 ∧ x2 ∧ x3 ∧ x4 ∧ x5 ∧ x6 ∧ x7 ∧ x8 ∧ x9 ∧ x10 ∧ x11 ∧ x12 ∧ x13 ∧ x14 ∧ x15 ∧ a < b ∧ r) : a < b := h.2.2.2.2.2.2.2.2.2.2.2.2.2.2.2.1
-- MACROS
local macro_rules | `(tactic| walk_at "ol") => `(tactic| (first | with_reducible assumption | exact lB1 (by with_reducible assumption) | exact lB2 (by with_reducible assumption) | exact lB3 (by with_reducible assumption) | exact lB4 (by with_reducible assumption) | exact lB5 (by with_reducible assumption) | exact lB6 (by with_reducible assumption) | exact lB7 (by with_reducible assumption) | exact lB8 (by with_reducible assumption) | exact lB9 (by with_reducible assumption) | exact lB10 (by with_reducible assumption) | exact lB11 (by with_reducible assumption) | exact lB12 (by with_reducible assumption) | exact lB13 (by with_reducible assumption) | exact lB14 (by with_reducible assumption) | exact lB15 (by with_reducible assumption) | exact lB16 (by with_reducible assumption) | fail))
local macro_rules | `(tactic| omega) => `(tactic| (first | (with_reducible refine ltN ?_; first | exact Nat.le_of_ble_eq_true rfl | walk_at "ol" | fail) | (with_reducible refine neN ?_; first | (refine Nat.ne_of_gt ?_; walk_at "ol") | (refine Nat.ne_of_lt ?_; walk_at "ol") | fail) | decide | lia | fail))
local macro_rules | `(tactic| walk_at "ur") => `(tactic| (first | (refine' rm1 ?h ?e; (case h => with_reducible assumption); (case e => exact rfl)) | (refine' rm0 ?h ?e; (case h => with_reducible assumption); (case e => exact rfl)) | (refine' rmz ?h; (case h => with_unfolding_all assumption)) | fail))
local macro_rules | `(tactic| ktr_room) => `(tactic| walk_at "ur")
local macro_rules | `(tactic| ktr_units) => `(tactic| walk_at "ur")
local macro_rules | `(tactic| walk_at "wk") => `(tactic| (first | (k_unfold; (try dsimp only)) | (k_end; wrow_close) | walk1 | (dsimp only; walk1) | (leave1; (try dsimp only))))
local macro_rules | `(tactic| walk_at "u2") => `(tactic| ((case k1 => k_asm); (case k2 => k_asm); (case k3 => k_asm); (case k4 => k_asm); (case k5 => k_asm); (case kK => first | exact rfl | assumption); (case kd => ktr_room); (case ku => ktr_units); k_whole))
local macro_rules | `(tactic| walk_at "u3") => `(tactic| ((try k_sweep); (try dsimp only); (try k_fold)))
local macro_rules | `(tactic| walk_at "up") => `(tactic| (first | with_reducible assumption | omega | assumption | ((try dsimp only); omega) | decide))
local macro_rules | `(tactic| walk_at "execs cons") => `(tactic| (k_here; (with_reducible refine execs_gen (fun tk => ?_)); try dsimp only))
local macro_rules | `(tactic| walk_at "eval Name") => `(tactic| (k_here; name_kind "local"; k_dflt (refine' nameX_L ?F ?v ?_ ?a ?b; (case F => k_asm); (case a => rfl); (case b => rfl); (case v => rfl); k_whole)))
local macro_rules | `(tactic| walk_at "eval Name") => `(tactic| (k_here; name_kind "globalImplicit"; k_dflt (first | (refine' nameX_K ?F ?X ?T ?e ?_ ?a ?b; (case F => k_asm); (case X => k_asm); (case T => k_asm); (case a => rfl); (case b => rfl); (case e => k_is); k_whole) | (refine' nameX_B ?F ?X ?T ?e ?v ?n ?_ ?a ?b; (case F => k_asm); (case X => k_asm); (case T => k_asm); (case a => rfl); (case b => rfl); (case e => k_is); (case v => boot_fast); (case n => decide); k_whole))))
local macro_rules | `(tactic| walk_at "eval Name") => `(tactic| (k_here; name_kind "globalImplicit"; name_is_builtin; k_dflt (refine' nameX_B ?F ?X ?T ?e ?v ?n ?_ ?a ?b; (case F => k_asm); (case X => k_asm); (case T => k_asm); (case a => rfl); (case b => rfl); (case e => k_is); (case v => boot_fast); (case n => decide); k_whole)))
local macro_rules | `(tactic| walk_at "ite") => `(tactic| (k_closed; k_dflt (first | refine ite_neg (by decide) ?_ | refine ite_pos (by decide) ?_)))
local macro_rules | `(tactic| walk_at "call builtin:len") => `(tactic| (k_here; (with_reducible show wpAny _ _ (call (Value.builtin "len") [Value.str _ _]) _ _ _); (refine SBL.len (by omega) ?_)))
local macro_rules | `(tactic| walk_at "subscriptTail") => `(tactic| (k_here; (with_reducible show wpAny _ _ (subscriptTail _ _ (Value.ref _) (Value.int _ _)) _ _ _); k_dflt (refine' item_tupleT ?t ?a ?b ?c ?d ?_; (case t => exact News.isTup (by k_asm) (by k_mem)); (case a => decide); (case b => decide); (case c => rfl); (case d => rfl); k_whole)))
local macro_rules | `(tactic| walk_at "callWith ref") => `(tactic| (k_here; k_dflt (refine' callWith_K ?k1 ?k2 ?_; (case k1 => with_reducible assumption); (case k2 => k_is); k_whole)))
-- END
theorem map_pin {m : Str → Option Value} {a : Str} {v : Option Value} (h : m a = v) : m = fun y => if y = a then v else m y := by
  funext y
  by_cases e : y = a
  · rw [if_pos e, e, h]
  · rw [if_neg e]
section
variable {M : Model} {A : Around} {E : Value → Shared → Prop} {s : Shared} {g : Heap} {L : Addr} {m : Str → Option Value} {news : Led}
noncomputable def CutI (z : Int) (s : Shared) (g : Heap) (L : Addr) (m : Str → Option Value) (news : Led) (v : Value) (s' : Shared) : Prop := ∃ t h' tk', v = .int z t ∧ s' = { s with heap := h', toks := tk' } ∧ Fr g L h' m ∧ News g L h' news
noncomputable def CutN (s : Shared) (g : Heap) (L : Addr) (m : Str → Option Value) (news : Led) (f : Flow) (s' : Shared) : Prop := f = .next ∧ ∃ h' tk', s' = { s with heap := h', toks := tk' } ∧ Fr g L h' m ∧ News g L h' news
theorem CutI.mk {z : Int} {t : Tok} {h' : Heap} {tk' : Nat} {news' : Led} (F : Fr g L h' m) (N : News g L h' news') (hs : ∀ q ∈ news, q ∈ news') : CutI z s g L m news (.int z t) { s with heap := h', toks := tk' } := ⟨t, h', tk', rfl, rfl, F, fun q hq => N q (hs q hq)⟩
theorem CutN.mk {h' : Heap} {tk' : Nat} {news' : Led} (F : Fr g L h' m) (N : News g L h' news') (hs : ∀ q ∈ news, q ∈ news') : CutN s g L m news .next { s with heap := h', toks := tk' } := ⟨rfl, h', tk', rfl, F, fun q hq => N q (hs q hq)⟩
theorem cut_int {tree : Sem Value} {z : Int} {Q : Value → Shared → Prop} (_F : Fr g L s.heap m) (_N : News g L s.heap news)
    (h1 : wpAny M A tree (CutI z s g L m news) E s)
    (h2 : ∀ t h' tk', Fr g L h' m → News g L h' news → Q (.int z t) { s with heap := h', toks := tk' }) : wpAny M A tree Q E s :=
  wpAny_mono h1 (fun _ _ ⟨t, h', tk', hv, hs, F, N⟩ => by subst hv hs; exact h2 t h' tk' F N) fun _ _ x => x
theorem cut_next {tree : Sem Flow} {Q : Flow → Shared → Prop} (_F : Fr g L s.heap m) (_N : News g L s.heap news)
    (h1 : wpAny M A tree (CutN s g L m news) E s)
    (h2 : ∀ h' tk', Fr g L h' m → News g L h' news → Q .next { s with heap := h', toks := tk' }) : wpAny M A tree Q E s :=
  wpAny_mono h1 (fun _ _ ⟨hv, h', tk', hs, F, N⟩ => by subst hv hs; exact h2 h' tk' F N) fun _ _ x => x
/-- a statement behind which the name x holds the figure K -/
noncomputable def CutP (x : Str) (K : Int) (s : Shared) (g : Heap) (L : Addr) (m : Str → Option Value) (news : Led) (f : Flow) (s' : Shared) : Prop := f = .next ∧ ∃ t h' tk', s' = { s with heap := h', toks := tk' } ∧ Fr g L h' (fun y => if y = x then some (.int K t) else m y) ∧ News g L h' news
theorem CutP.mk {x : Str} {K v : Int} {t : Tok} {h' : Heap} {tk' : Nat} {news' : Led} (F : Fr g L h' (fun y => if y = x then some (.int v t) else m y)) (e : v = K) (N : News g L h' news') (hs : ∀ q ∈ news, q ∈ news') : CutP x K s g L m news .next { s with heap := h', toks := tk' } := by
  subst e
  exact ⟨rfl, t, h', tk', rfl, F, fun q hq => N q (hs q hq)⟩
theorem CutP.same {x : Str} {K v : Int} {t : Tok} {h' : Heap} {tk' : Nat} {news' : Led} (F : Fr g L h' m) (hm : m x = some (.int v t)) (e : v = K) (N : News g L h' news') (hs : ∀ q ∈ news, q ∈ news') : CutP x K s g L m news .next { s with heap := h', toks := tk' } :=
  CutP.mk (map_pin hm ▸ F) e N hs
noncomputable def CutP2 (x y : Str) (K1 K2 : Int) (s : Shared) (g : Heap) (L : Addr) (m : Str → Option Value) (news : Led) (f : Flow) (s' : Shared) : Prop := f = .next ∧ ∃ t1 t2 h' tk', s' = { s with heap := h', toks := tk' } ∧ Fr g L h' (fun z => if z = x then some (.int K1 t1) else if z = y then some (.int K2 t2) else m z) ∧ News g L h' news
theorem CutP2.mk {x y : Str} {K1 K2 v1 v2 : Int} {t1 t2 : Tok} {h' : Heap} {tk' : Nat} {news' : Led} (F : Fr g L h' (fun z => if z = x then some (.int v1 t1) else if z = y then some (.int v2 t2) else m z)) (e1 : v1 = K1) (e2 : v2 = K2) (N : News g L h' news') (hs : ∀ q ∈ news, q ∈ news') : CutP2 x y K1 K2 s g L m news .next { s with heap := h', toks := tk' } := by
  subst e1 e2
  exact ⟨rfl, t1, t2, h', tk', rfl, F, fun q hq => N q (hs q hq)⟩
theorem CutP2.same {x y : Str} {K1 K2 v1 v2 : Int} {t1 t2 : Tok} {h' : Heap} {tk' : Nat} {news' : Led} (F : Fr g L h' m) (h1 : m x = some (.int v1 t1)) (h2 : m y = some (.int v2 t2)) (e1 : v1 = K1) (e2 : v2 = K2) (N : News g L h' news') (hs : ∀ q ∈ news, q ∈ news') : CutP2 x y K1 K2 s g L m news .next { s with heap := h', toks := tk' } := by
  refine CutP2.mk (x := x) (y := y) (t1 := t1) (t2 := t2) ?_ e1 e2 N hs
  have e : m = fun z => if z = x then some (.int v1 t1) else if z = y then some (.int v2 t2) else m z := by
    funext z
    by_cases q : z = x
    · rw [if_pos q, q, h1]
    · rw [if_neg q]
      by_cases q2 : z = y
      · rw [if_pos q2, q2, h2]
      · rw [if_neg q2]
  exact e ▸ F
theorem cut_put2 {tree : Sem Flow} {Q : Flow → Shared → Prop} {x y : Str} {K1 K2 : Int} (_F : Fr g L s.heap m) (_N : News g L s.heap news)
    (h1 : wpAny M A tree (CutP2 x y K1 K2 s g L m news) E s)
    (h2 : ∀ t1 t2 h' tk', Fr g L h' (fun z => if z = x then some (.int K1 t1) else if z = y then some (.int K2 t2) else m z) → News g L h' news → Q .next { s with heap := h', toks := tk' }) : wpAny M A tree Q E s :=
  wpAny_mono h1 (fun _ _ ⟨hv, t1, t2, h', tk', hs, F, N⟩ => by subst hv hs; exact h2 t1 t2 h' tk' F N) fun _ _ x => x
theorem cut_put {tree : Sem Flow} {Q : Flow → Shared → Prop} {x : Str} {K : Int} (_F : Fr g L s.heap m) (_N : News g L s.heap news)
    (h1 : wpAny M A tree (CutP x K s g L m news) E s)
    (h2 : ∀ t h' tk', Fr g L h' (fun y => if y = x then some (.int K t) else m y) → News g L h' news → Q .next { s with heap := h', toks := tk' }) : wpAny M A tree Q E s :=
  wpAny_mono h1 (fun _ _ ⟨hv, t, h', tk', hs, F, N⟩ => by subst hv hs; exact h2 t h' tk' F N) fun _ _ x => x
end
/-! texts as lists of signs -/
noncomputable def isD (c : Nat) : Bool := decide (48 ≤ c) && decide (c ≤ 57)
/-- the figures that stand at a -/
noncomputable def run (l : List Nat) (a : Nat) : List Nat := (l.drop a).takeWhile isD
noncomputable def val (l : List Nat) : Nat := l.foldl (fun v c => v * 10 + (c - 48)) 0
noncomputable abbrev sgs (x : Str) : List Nat := x.cps.toList
theorem sgs_len (x : Str) : (sgs x).length = x.length := by simp [sgs, Str.length]
theorem str_eq {x y : Str} (h : sgs x = sgs y) : x = y := Str.ext' (Array.ext' h)
theorem str_eq_iff {x y : Str} : x = y ↔ sgs x = sgs y := ⟨fun h => by rw [h], str_eq⟩
theorem sgs_item {x : Str} {i : Int} (h0 : 0 ≤ i) (h1 : i < x.length) : sgs (Txt.item x i) = [(sgs x).getD i.toNat 0] := by
  rw [item_at h0 h1 rfl]
  simp [sgs]
theorem clampI (a len : Nat) : max (0 : Int) (min (a : Int) (len : Int)) = ((min a len : Nat) : Int) := by omega
theorem slice_idx (a b len : Nat) : Builtin.Str.strSliceIndices (some (a : Int)) (some (b : Int)) 1 len = Builtin.Str.strSliceIndices (some ((min a len : Nat) : Int)) (some ((min b len : Nat) : Int)) 1 len := by
  have h1 : ¬ ((a : Int) < 0) := by omega
  have h2 : ¬ ((b : Int) < 0) := by omega
  have h3 : ¬ (((min a len : Nat) : Int) < 0) := by omega
  have h4 : ¬ (((min b len : Nat) : Int) < 0) := by omega
  simp only [Builtin.Str.strSliceIndices, h1, h2, h3, h4, if_false, clampI, show ((1 : Int) > 0) = True from by simp, if_true, show min (min a len) len = min a len from by omega, show min (min b len) len = min b len from by omega]
theorem slice_eq (x : Str) (a b : Nat) : Txt.slice x (some (a : Int)) (some (b : Int)) = StrLaws.sliceText x (some ((min a x.length : Nat) : Int)) (some ((min b x.length : Nat) : Int)) := by
  show StrLaws.sliceText x _ _ = _
  unfold StrLaws.sliceText
  rw [slice_idx]
theorem slice_void (x : Str) {a b : Nat} (h : b < a) (ha : a ≤ x.length) : StrLaws.sliceText x (some (a : Int)) (some (b : Int)) = ⟨#[]⟩ := by
  have e : Builtin.Str.strSliceIndices (some (a : Int)) (some (b : Int)) 1 x.length = [] := by
    have h1 : ¬ ((a : Int) < 0) := by omega
    have h2 : ¬ ((b : Int) < 0) := by omega
    have e1 : max (0 : Int) (min (a : Int) (x.length : Int)) = a := by omega
    have e2 : max (0 : Int) (min (b : Int) (x.length : Int)) = b := by omega
    have e3 : ¬ ((a : Int) < b) := by omega
    simp only [Builtin.Str.strSliceIndices, sliceRange, h1, h2, if_false, e1, e2, show ((1 : Int) > 0) = True from by simp, if_true, e3]
    rfl
  unfold StrLaws.sliceText
  rw [e]
  have : ¬ (x.length = 0) := by omega
  simp
  intro h0
  omega
theorem sgs_slice (x : Str) (a b : Nat) : sgs (Txt.slice x (some (a : Int)) (some (b : Int))) = ((sgs x).drop a).take (b - a) := by
  have hl := sgs_len x
  rw [slice_eq]
  by_cases h : min a x.length ≤ min b x.length
  · rw [StrLaws.sliceText_nat x h (Nat.min_le_right _ _)]
    show ((sgs x).drop _).take _ = _
    by_cases ha : a ≤ x.length
    · rw [Nat.min_eq_left ha]
      by_cases hb : b ≤ x.length
      · rw [Nat.min_eq_left hb]
      · rw [Nat.min_eq_right (by omega), List.take_of_length_le (by rw [List.length_drop, hl]; omega), List.take_of_length_le (by rw [List.length_drop, hl]; omega)]
    · rw [Nat.min_eq_right (by omega : x.length ≤ a), List.drop_of_length_le (by omega), List.drop_of_length_le (by omega), List.take_nil, List.take_nil]
  · rw [slice_void x (by omega) (Nat.min_le_right _ _)]
    rw [show b - a = 0 by omega]
    rfl
theorem slice_none (x : Str) (a : Nat) : Txt.slice x (some (a : Int)) none = Txt.slice x (some (a : Int)) (some (x.length : Int)) := by
  show StrLaws.sliceText x _ _ = StrLaws.sliceText x _ _
  unfold StrLaws.sliceText
  rw [StrLaws.sliceIdx_none_hi]
theorem sgs_from (x : Str) (a : Nat) : sgs (Txt.slice x (some (a : Int)) none) = (sgs x).drop a := by
  rw [slice_none, sgs_slice, List.take_of_length_le (by rw [List.length_drop, sgs_len]; omega)]
theorem sgs_upto (x : Str) (b : Nat) : sgs (Txt.slice x none (some (b : Int))) = (sgs x).take b := by
  have e : Txt.slice x none (some (b : Int)) = Txt.slice x (some ((0 : Nat) : Int)) (some (b : Int)) := by
    show StrLaws.sliceText x _ _ = StrLaws.sliceText x _ _
    unfold StrLaws.sliceText
    rw [StrLaws.sliceIdx_none_lo]
    rfl
  rw [e, sgs_slice, List.drop_zero, Nat.sub_zero]
theorem sgs_lit (s : String) : sgs (Str.ofString s) = s.toList.map Char.toNat := by
  rw [Str.ofString_eq_toList]
theorem run_le (l : List Nat) (a : Nat) : a + (run l a).length ≤ max a l.length := by
  have : (run l a).length ≤ (l.drop a).length := by
    unfold run
    exact (List.takeWhile_sublist _).length_le
  rw [List.length_drop] at this
  omega
theorem take_run {l : List Nat} {p : Nat → Bool} : ∀ {k : Nat}, k ≤ (l.takeWhile p).length → l.take k = (l.takeWhile p).take k := by
  intro k hk
  have h := List.takeWhile_append_dropWhile (p := p) (l := l)
  conv => lhs; rw [← h]
  rw [List.take_append_of_le_length hk]
theorem takeWhile_all (p : Nat → Bool) : ∀ (l : List Nat), ∀ c ∈ l.takeWhile p, p c = true
  | [], c, h => by simp at h
  | x :: r, c, h => by
    rw [List.takeWhile_cons] at h
    split at h
    · rename_i hx
      rcases List.mem_cons.mp h with rfl | h
      · exact hx
      · exact takeWhile_all p r c h
    · cases h
theorem run_stop {l : List Nat} {a k : Nat} (hk : k ≤ (run l a).length) (h : isD (l.getD (a + k) 0) = false ∨ l.length ≤ a + k) : k = (run l a).length := by
  by_cases hlt : k < (run l a).length
  · exfalso
    have hm : (run l a)[k] ∈ run l a := List.getElem_mem hlt
    have hd : isD (run l a)[k] = true := by
      exact takeWhile_all _ _ _ hm
    have hle : (run l a).length ≤ (l.drop a).length := (List.takeWhile_sublist _).length_le
    rw [List.length_drop] at hle
    have e : (run l a)[k] = l.getD (a + k) 0 := by
      have h1 : (run l a)[k]? = some (run l a)[k] := List.getElem?_eq_getElem hlt
      have h2 : (l.drop a)[k]? = some (run l a)[k] := by
        have := take_run (p := isD) (l := l.drop a) (k := k + 1) hlt
        have e3 : ((l.drop a).take (k + 1))[k]? = ((run l a).take (k + 1))[k]? := by rw [this]; rfl
        rw [List.getElem?_take, List.getElem?_take] at e3
        simpa [h1] using e3
      rw [List.getElem?_drop] at h2
      rw [List.getD_eq_getElem?_getD, h2]
      rfl
    rw [e] at hd
    rcases h with h | h
    · rw [hd] at h; cases h
    · omega
  · omega
theorem run_go {l : List Nat} {a k : Nat} (hk : k ≤ (run l a).length) (hlt : a + k < l.length) (h : isD (l.getD (a + k) 0) = true) : k + 1 ≤ (run l a).length := by
  by_cases he : k = (run l a).length
  · exfalso
    have hspl := List.takeWhile_append_dropWhile (p := isD) (l := l.drop a)
    have hd : (l.drop a)[k]? = ((l.drop a).dropWhile isD)[0]? := by
      conv => lhs; rw [← hspl]
      rw [List.getElem?_append_right (by show (run l a).length ≤ k; omega)]
      congr 1
      show k - (run l a).length = 0
      omega
    rw [List.getElem?_drop, List.getElem?_eq_getElem hlt] at hd
    rw [List.getD_eq_getElem?_getD, List.getElem?_eq_getElem hlt] at h
    have hne : ((l.drop a).dropWhile isD) ≠ [] := by
      intro z; rw [z] at hd; cases hd
    have hnot := List.head_dropWhile_not isD hne
    have e : ((l.drop a).dropWhile isD)[0]? = some (((l.drop a).dropWhile isD).head hne) := by
      rw [List.head_eq_getElem]
      exact List.getElem?_eq_getElem _
    rw [e] at hd
    have hd2 := Option.some.inj hd
    rw [← hd2] at hnot
    simp at h
    rw [h] at hnot
    cases hnot
  · omega
theorem val_nil : val [] = 0 := rfl
theorem val_snoc (l : List Nat) (c : Nat) : val (l ++ [c]) = val l * 10 + (c - 48) := by
  unfold val
  rw [List.foldl_append]
  rfl
theorem run_take_snoc {l : List Nat} {a k : Nat} (hk : k + 1 ≤ (run l a).length) (hlt : a + k < l.length) : (run l a).take (k + 1) = (run l a).take k ++ [l.getD (a + k) 0] := by
  have h1 := take_run (p := isD) (l := l.drop a) (k := k + 1) hk
  have h2 := take_run (p := isD) (l := l.drop a) (k := k) (Nat.le_of_succ_le hk)
  show (List.takeWhile isD (l.drop a)).take (k + 1) = (List.takeWhile isD (l.drop a)).take k ++ _
  rw [← h1, ← h2, List.take_add_one, List.getElem?_drop, List.getElem?_eq_getElem hlt, List.getD_eq_getElem?_getD, List.getElem?_eq_getElem hlt]
  rfl
theorem isD_iff (c : Nat) : isD c = true ↔ 48 ≤ c ∧ c ≤ 57 := by simp [isD]
theorem lt1 (a b : Nat) : (([a] : List Nat) < [b]) ↔ a < b := by
  have := StrLaws.lt_cons_cons a b [] []
  simp only [StrLaws.lt_nil_nil, Bool.and_false, Bool.or_false, decide_eq_decide] at this
  exact this

/-- how many figures: figures_of -/
noncomputable def ndF : Nat → Nat → Nat
  | 0, _ => 1
  | k + 1, n => if n < 10 then 1 else ndF k (n / 10) + 1
noncomputable def nd (n : Nat) : Nat := ndF n n
theorem ndF_eq (k : Nat) : ∀ j n : Nat, n ≤ k → n ≤ j → ndF k n = ndF j n := by
  induction k with
  | zero =>
    intro j n h1 h2
    cases j with
    | zero => rfl
    | succ j => exact (if_pos (by omega)).symm
  | succ k ih =>
    intro j n h1 h2
    cases j with
    | zero => exact if_pos (by omega)
    | succ j =>
      show (if n < 10 then 1 else ndF k (n / 10) + 1) = if n < 10 then 1 else ndF j (n / 10) + 1
      split
      · rfl
      · rw [ih j (n / 10) (by omega) (by omega)]
theorem nd_eq (n : Nat) : nd n = if h : n < 10 then 1 else nd (n / 10) + 1 := by
  show ndF n n = _
  cases n with
  | zero => rfl
  | succ m =>
    show (if m + 1 < 10 then 1 else ndF m ((m + 1) / 10) + 1) = _
    split
    · rfl
    · rw [ndF_eq m ((m + 1) / 10) _ (by omega) (Nat.le_refl _)]; rfl
theorem nd_pos (n : Nat) : 1 ≤ nd n := by
  rw [nd_eq]
  split <;> omega
theorem nd_lt (n : Nat) : n < 10 ^ nd n := by
  induction n using Nat.strongRecOn with
  | ind n ih =>
    rw [nd_eq]
    split
    · omega
    · have := ih (n / 10) (by omega)
      rw [Nat.pow_succ]
      omega
theorem nd_ge {n : Nat} (h : 1 < nd n) : 10 ^ (nd n - 1) ≤ n := by
  induction n using Nat.strongRecOn with
  | ind n ih =>
    have e : nd n = if h : n < 10 then 1 else nd (n / 10) + 1 := nd_eq n
    by_cases h10 : n < 10
    · rw [dif_pos h10] at e; omega
    · rw [dif_neg h10] at e
      rw [e, Nat.add_sub_cancel]
      by_cases h1 : 1 < nd (n / 10)
      · have := ih (n / 10) (by omega) h1
        have hp := nd_pos (n / 10)
        have e2 : nd (n / 10) = (nd (n / 10) - 1) + 1 := by omega
        rw [e2, Nat.pow_succ]
        omega
      · have hp := nd_pos (n / 10)
        have : nd (n / 10) = 1 := by omega
        rw [this]
        omega
theorem nd_unique {n k : Nat} (hk : 1 ≤ k) (h1 : n < 10 ^ k) (h2 : k = 1 ∨ 10 ^ (k - 1) ≤ n) : nd n = k := by
  have a := nd_lt n
  have p := nd_pos n
  rcases Nat.lt_trichotomy (nd n) k with h | h | h
  · exfalso
    rcases h2 with rfl | h2
    · omega
    · have : 10 ^ nd n ≤ 10 ^ (k - 1) := Nat.pow_le_pow_right (by decide) (by omega)
      omega
  · exact h
  · exfalso
    have b := nd_ge (n := n) (by omega)
    have : 10 ^ k ≤ 10 ^ (nd n - 1) := Nat.pow_le_pow_right (by decide) (by omega)
    omega
theorem nd_le {n k : Nat} (hk : 1 ≤ k) (h : n < 10 ^ k) : nd n ≤ k := by
  by_cases h1 : nd n ≤ k
  · exact h1
  · exfalso
    have p := nd_pos n
    have b := nd_ge (n := n) (by omega)
    have : 10 ^ k ≤ 10 ^ (nd n - 1) := Nat.pow_le_pow_right (by decide) (by omega)
    omega
theorem sub_refl (news : Led) : ∀ q ∈ news, q ∈ news := fun _ h => h
theorem sub_cons {news l : Led} {p : Addr × Obj} (h : ∀ q ∈ news, q ∈ l) : ∀ q ∈ news, q ∈ p :: l := fun q hq => .tail _ (h q hq)

theorem fdivN (a b : Nat) : (a : Int).fdiv (b : Int) = ((a / b : Nat) : Int) := by
  rw [Int.fdiv_eq_ediv_of_nonneg _ (Int.natCast_nonneg b)]
  exact_mod_cast rfl
theorem fmodN (a b : Nat) : (a : Int).fmod (b : Int) = ((a % b : Nat) : Int) := by
  rw [Int.fmod_eq_emod_of_nonneg _ (Int.natCast_nonneg b)]
  exact_mod_cast rfl
theorem fdiv10 (a : Nat) : (a : Int).fdiv 10 = ((a / 10 : Nat) : Int) := fdivN a 10
theorem fmod10 (a : Nat) : (a : Int).fmod 10 = ((a % 10 : Nat) : Int) := fmodN a 10
theorem int_eq {a b : Int} {t t' : Tok} (h : a = b) (ht : t = t') : some (Value.int a t) = some (Value.int b t') := by rw [h, ht]
theorem pow_int (k : Nat) : ((10 ^ k : Nat) : Int) = (10 : Int) ^ k := by exact_mod_cast rfl
set_option maxHeartbeats 4000000 in
theorem figures_of (w : World) (n : Nat) (t : Tok) (hn : n < 10 ^ 200) : Meets w 44 1 8 [.int (n : Int) t] (OutI (nd n : Nat)) := by
 refine (?fZ : PullF _) ?pZ ?qZ ?hZ
 case fZ => exact fun _ q _ => q
 case pZ =>
  unfold Meets
  k_fill
  intro p loose mean mg mb dp un gd cn cs a ccd cl outer A₀ base h₀ L m news s Q E hrw B F X N T hk hd hu hret
  clear hrw
  refine wpAny_call ?_
  k_dflt cell_enter
  (repeat' (first | ((fail_if_success (first | (with_reducible show wpAny _ _ (exec (Stmt.While _ _ _ _) _) _ _ _) | (with_reducible show wpAny _ _ (exec (Stmt.Raise _ _ _) _) _ _ _) | (with_reducible show WhStep _ _ _ _ _ _ _ _ _ _ _))); (first | walk_at "wk"))))
  k_dflt (refine' while_st (fun m c y => if y = Str.ofString "bound" then some (.int ((10 ^ (c.1 + 1) : Nat) : Int) c.2.1) else if y = Str.ofString "many" then some (.int ((c.1 + 1 : Nat) : Int) c.2.2) else m y) (fun c : Nat × Tok × Tok => c.1 < nd n) (fun c => nd n - c.1) (0, _, _) ?w1 ?w2 ?w3 ?w4 ?w5 ?w6)
  (case w1 => k_asm); (case w2 => k_asm); (case w3 => (funext y; (try dsimp only); (repeat' split) <;> first | contradiction | rfl | (subst_vars; rfl) | (exfalso; simp_all +decide; done) | (refine int_eq ?ie ?it; (case it => rfl); (case ie => (first | rfl | assumption | exact fdiv10 _ | omega | (simp only [Nat.pow_succ, Int.natCast_mul, Int.natCast_add, Int.natCast_one]; first | done | rfl | omega) | (simp_all; first | done | omega)))) | (simp_all; done))); (case w6 => with_unfolding_all passes_own); (case' w5 => (intro c h₁ tk₁ hI F₁ N₁; (try k_sweep); (try dsimp only); (try k_fold)))
  (case w4 => exact nd_pos _)
  (repeat' (first | ((fail_if_success (first | (with_reducible show wpAny _ _ (exec (Stmt.While _ _ _ _) _) _ _ _) | (with_reducible show wpAny _ _ (exec (Stmt.Raise _ _ _) _) _ _ _) | (with_reducible show WhStep _ _ _ _ _ _ _ _ _ _ _))); (first | walk_at "wk"))))
  · refine' WhStep.next (c.1 + 1, _, _) (by k_asm) (by k_asm) (by repeat' (first | exact sub_refl _ | refine sub_cons ?_)) ?hm ?hI ?hμ
    (case hm => (funext y; (try dsimp only); (repeat' split) <;> first | contradiction | rfl | (subst_vars; rfl) | (exfalso; simp_all +decide; done) | (refine int_eq ?ie ?it; (case it => rfl); (case ie => (first | rfl | assumption | exact fdiv10 _ | omega | (simp only [Nat.pow_succ, Int.natCast_mul, Int.natCast_add, Int.natCast_one]; first | done | rfl | omega) | (simp_all; first | done | omega)))) | (simp_all; done)))
    all_goals (rename ((10 ^ (c.1 + 1) : Nat) : Int) ≤ n => hle)
    · show c.1 + 1 < nd n
      have := nd_lt n
      have h10 : 10 ^ (c.1 + 1) ≤ n := by omega
      have := (Nat.pow_lt_pow_iff_right (a := 10) (by decide)).mp (Nat.lt_of_le_of_lt h10 (nd_lt n))
      exact this
    · show nd n - (c.1 + 1) < nd n - c.1
      have : c.1 < nd n := hI
      omega
  · rename ¬ _ => hle
    refine Ret.int hret (by k_asm) (by k_asm) (by repeat' (first | exact sub_refl _ | refine sub_cons ?_)) ?_
    have hI : c.1 < nd n := hI
    have h2 : nd n = c.1 + 1 := by
      by_cases h : nd n = c.1 + 1
      · exact h
      · exfalso
        have := nd_ge (n := n) (by omega)
        have h3 : 10 ^ (c.1 + 1) ≤ 10 ^ (nd n - 1) := Nat.pow_le_pow_right (by decide) (by omega)
        omega
    rw [h2]
 case hZ => delta id; exact pair_ _
-- MACROS
-- END

/-- rounded_by, where it asks more than nothing -/
noncomputable def rounded (n p : Nat) : Nat := if 2 * (n % 10 ^ p) > 10 ^ p ∨ (2 * (n % 10 ^ p) = 10 ^ p ∧ n / 10 ^ p % 2 = 1) then n / 10 ^ p + 1 else n / 10 ^ p
theorem log2_small {n : Nat} (h : n < 2 ^ 900) : n.log2 < 9000 := by
  by_cases h0 : n = 0
  · subst h0; decide
  · have := (Nat.log2_lt h0).mpr h
    omega
-- MACROS
local macro_rules | `(tactic| walk_at "binaryOp FloorDiv int int") => `(tactic| (k_here; k_dflt (refine' floordiv_int ?hb ?_ (Or.inl (PyProof.noPylong_of_log2 ?hl)); (case hb => assumption); (case hl => assumption))))
-- END
theorem pow10_log (k : Nat) (h : k ≤ 250) : ((10 : Int) ^ ((k : Nat) : Int).toNat).natAbs.log2 < 9000 := by
  refine log2_small ?_
  have e : ((10 : Int) ^ ((k : Nat) : Int).toNat).natAbs = 10 ^ k := by
    rw [Int.natAbs_pow]
    rfl
  rw [e]
  calc 10 ^ k ≤ 10 ^ 250 := Nat.pow_le_pow_right (by decide) h
    _ < 2 ^ 900 := by decide +kernel
theorem pow10_int (k : Nat) : (10 : Int) ^ ((k : Nat) : Int).toNat = ((10 ^ k : Nat) : Int) := by
  rw [show ((k : Nat) : Int).toNat = k from rfl]
  exact (pow_int k).symm
theorem rounded_int (n pl : Nat) : ((rounded n pl : Nat) : Int) = if (10 : Int) ^ ((pl : Nat) : Int).toNat < 2 * (n : Int).fmod (10 ^ ((pl : Nat) : Int).toNat) ∨ (2 * (n : Int).fmod (10 ^ ((pl : Nat) : Int).toNat) = 10 ^ ((pl : Nat) : Int).toNat ∧ ((n : Int).fdiv (10 ^ ((pl : Nat) : Int).toNat)).fmod 2 = 1) then (n : Int).fdiv (10 ^ ((pl : Nat) : Int).toNat) + 1 else (n : Int).fdiv (10 ^ ((pl : Nat) : Int).toNat) := by
  rw [pow10_int, fdivN, fmodN, show (2 : Int) = ((2 : Nat) : Int) from rfl, fmodN]
  unfold rounded
  split <;> split <;> omega
set_option maxHeartbeats 4000000 in
theorem rounded_by (w : World) (n pl : Nat) (t u : Tok) (hn : n < 10 ^ 200) (h1 : 1 ≤ pl) (h2 : pl ≤ nd n + 1) : Meets w 51 2 16 [.int (n : Int) t, .int (pl : Int) u] (OutI (rounded n pl : Nat)) := by
 refine (?fZ : PullF _) ?pZ ?qZ ?hZ
 case fZ => exact fun _ q _ => q
 case pZ =>
  unfold Meets
  k_fill
  intro p loose mean mg mb dp un gd cn cs a ccd cl outer A₀ base h₀ L m news s Q E hrw B F X N T hk hd hu hret
  clear hrw
  refine wpAny_call ?_
  k_dflt cell_enter
  have hnd : nd n ≤ 200 := nd_le (by decide) hn
  have hz1 : (0 : Int) < 10 ^ ((pl : Int)).toNat := Int.pow_pos (by decide)
  have hz2 : (10 : Int) ^ ((pl : Int)).toNat ≠ 0 := by omega
  have hz3 := pow10_log pl (by omega)
  (repeat' (first | ((fail_if_success (first | (with_reducible show wpAny _ _ (exec (Stmt.While _ _ _ _) _) _ _ _) | (with_reducible show wpAny _ _ (exec (Stmt.Raise _ _ _) _) _ _ _) | (with_reducible show WhStep _ _ _ _ _ _ _ _ _ _ _))); (first | (k_here; (with_reducible show wpAny _ _ (call (Value.ref _) _) _ _ _); (first | ((with_reducible show wpAny _ _ (call (Value.ref 44) _) _ _ _); k_dflt (refine' useI (figures_of _ _ _ ?p1) ?k1 ?k2 ?k3 ?k4 ?k5 ?kK ?kd ?ku ?_; (case p1 => walk_at "up"); walk_at "u2"); intro t9 h9 tk9 F9 N9; walk_at "u3"))) | walk_at "wk"))))
  all_goals (refine Ret.int hret (by k_asm) (by k_asm) (by repeat' (first | exact sub_refl _ | refine sub_cons ?_)) ?_; rw [rounded_int])
  · rw [if_pos (Or.inl (by assumption))]
  · rw [if_pos (Or.inr ⟨by assumption, by assumption⟩)]
  · rw [if_neg (by intro h; rcases h with h | h; (exact absurd h (by assumption)); (exact absurd h.2 (by assumption)))]
  · rw [if_neg (by intro h; rcases h with h | h; (exact absurd h (by assumption)); (exact absurd h.1 (by assumption)))]
 case hZ => delta id; exact pair_ _
-- MACROS
-- END

/-- the noughts at the end, taken off -/
noncomputable def stripF : Nat → Nat → Int → Nat × Int
  | 0, c, e => (c, e)
  | k + 1, c, e => if c ≠ 0 ∧ c % 10 = 0 then stripF k (c / 10) (e + 1) else (c, e)
noncomputable def strip10 (c : Nat) (e : Int) : Nat × Int := stripF c c e
theorem stripF_eq (k : Nat) : ∀ (j c : Nat) (e : Int), c ≤ k → c ≤ j → stripF k c e = stripF j c e := by
  induction k with
  | zero =>
    intro j c e h1 h2
    cases j with
    | zero => rfl
    | succ j => exact (if_neg (by omega)).symm
  | succ k ih =>
    intro j c e h1 h2
    cases j with
    | zero => exact if_neg (by omega)
    | succ j =>
      show (if c ≠ 0 ∧ c % 10 = 0 then stripF k (c / 10) (e + 1) else (c, e)) = if c ≠ 0 ∧ c % 10 = 0 then stripF j (c / 10) (e + 1) else (c, e)
      split
      · rw [ih j (c / 10) (e + 1) (by omega) (by omega)]
      · rfl
theorem strip10_eq (c : Nat) (e : Int) : strip10 c e = if h : c ≠ 0 ∧ c % 10 = 0 then strip10 (c / 10) (e + 1) else (c, e) := by
  show stripF c c e = _
  cases c with
  | zero => rfl
  | succ m =>
    show (if m + 1 ≠ 0 ∧ (m + 1) % 10 = 0 then stripF m ((m + 1) / 10) (e + 1) else (m + 1, e)) = _
    split
    · rw [stripF_eq m ((m + 1) / 10) _ _ (by omega) (Nat.le_refl _)]; rfl
    · rfl
noncomputable def exactly (c : Nat) (e : Int) : Nat × Int :=
  if c = 0 then (0, 0) else
    if 99 < (strip10 c e).2 + (nd (strip10 c e).1 : Nat) - 1 then (1, 100) else if -100 ≤ (strip10 c e).2 + (nd (strip10 c e).1 : Nat) - 1 then strip10 c e else (0, 0)
theorem strip10_le (c : Nat) (e : Int) : (strip10 c e).1 ≤ c := by
  induction c using Nat.strongRecOn generalizing e with
  | ind c ih =>
    rw [strip10_eq]
    split
    · have := ih (c / 10) (by omega) (e + 1)
      omega
    · exact Nat.le_refl _
theorem strip10_pos {c : Nat} (hc : c ≠ 0) (e : Int) : (strip10 c e).1 ≠ 0 := by
  induction c using Nat.strongRecOn generalizing e with
  | ind c ih =>
    rw [strip10_eq]
    split
    · exact ih (c / 10) (by omega) (by omega) (e + 1)
    · exact hc
theorem strip10_stop {c : Nat} {e : Int} (h : c % 10 ≠ 0) : strip10 c e = (c, e) := by
  rw [strip10_eq]
  rw [dif_neg (by omega)]
theorem strip10_go {c : Nat} {e : Int} (h0 : c ≠ 0) (h : c % 10 = 0) : strip10 c e = strip10 (c / 10) (e + 1) := by
  conv => lhs; rw [strip10_eq]
  rw [dif_pos ⟨h0, h⟩]
set_option maxHeartbeats 4000000 in
theorem told_exactly (w : World) (n0 : Nat) (e0 : Int) (t u : Tok) (hn : n0 < 10 ^ 200) : Meets w 236 2 16 [.int (n0 : Int) t, .int e0 u] (OutII ((exactly n0 e0).1 : Nat) (exactly n0 e0).2) := by
 refine (?fZ : PullF _) ?pZ ?qZ ?hZ
 case fZ => exact fun _ q _ => q
 case pZ =>
  unfold Meets
  k_fill
  intro p loose mean mg mb dp un gd cn cs a ccd cl outer A₀ base h₀ L m news s Q E hrw B F X N T hk hd hu hret
  clear hrw
  refine wpAny_call ?_
  k_dflt cell_enter
  (repeat' (first | ((fail_if_success (first | (with_reducible show wpAny _ _ (exec (Stmt.While _ _ _ _) _) _ _ _) | (with_reducible show wpAny _ _ (exec (Stmt.Raise _ _ _) _) _ _ _) | (with_reducible show WhStep _ _ _ _ _ _ _ _ _ _ _))); (first | (k_here; (with_reducible show wpAny _ _ (call (Value.ref _) _) _ _ _); (first | ((with_reducible show wpAny _ _ (call (Value.ref 44) _) _ _ _); k_dflt (refine' useI (figures_of _ _ _ ?p1) ?k1 ?k2 ?k3 ?k4 ?k5 ?kK ?kd ?ku ?_; (case p1 => walk_at "up"); walk_at "u2"); intro t9 h9 tk9 F9 N9; walk_at "u3"))) | walk_at "wk"))))
  · have h0 : n0 = 0 := by omega
    rw [show exactly n0 e0 = (0, 0) from if_pos h0] at hret
    exact Ret.ii hret (by k_asm) (by k_asm) (by repeat' (first | exact sub_refl _ | refine sub_cons ?_)) (by k_mem) (by first | assumption | exact ktn_ltOf (by assumption) | exact ktn_ltOf (And.right (by assumption)) | exact ktn_ltOf (And.right (And.right (by assumption))) | exact ktn_ltOf (And.right (And.right (And.right (by assumption)))) | exact ktn_ltOf (And.right (And.right (And.right (And.right (by assumption))))) | exact ktn_ltOf (And.right (And.right (And.right (And.right (And.right (by assumption)))))) | exact ktn_ltOf (And.right (And.right (And.right (And.right (And.right (And.right (by assumption))))))) | exact ktn_ltOf (And.right (And.right (And.right (And.right (And.right (And.right (And.right (by assumption)))))))) | exact ktn_ltOf (And.right (And.right (And.right (And.right (And.right (And.right (And.right (And.right (by assumption))))))))) | exact ktn_ltOf (And.right (And.right (And.right (And.right (And.right (And.right (And.right (And.right (And.right (by assumption)))))))))) | exact ktn_ltOf (And.right (And.right (And.right (And.right (And.right (And.right (And.right (And.right (And.right (And.right (by assumption))))))))))) | exact ktn_ltOf (And.right (And.right (And.right (And.right (And.right (And.right (And.right (And.right (And.right (And.right (And.right (by assumption))))))))))))) rfl rfl
  have h0 : n0 ≠ 0 := by omega
  k_dflt (refine' while_st (fun m c y => if y = Str.ofString "coefficient" then some (.int ((c.1 : Nat) : Int) c.2.2.1) else if y = Str.ofString "exponent" then some (.int c.2.1 c.2.2.2) else m y) (fun c : Nat × Int × Tok × Tok => c.1 ≠ 0 ∧ c.1 ≤ n0 ∧ strip10 c.1 c.2.1 = strip10 n0 e0) (fun c => c.1) (n0, e0, t, u) ?w1 ?w2 ?w3 ?w4 ?w5 ?w6)
  (case w1 => k_asm); (case w2 => k_asm); (case w3 => (funext y; (try dsimp only); (repeat' split) <;> first | contradiction | rfl | (subst_vars; rfl) | (exfalso; simp_all +decide; done) | (refine int_eq ?ie ?it; (case it => rfl); (case ie => (first | rfl | assumption | exact fdiv10 _ | omega | (simp only [Nat.pow_succ, Int.natCast_mul, Int.natCast_add, Int.natCast_one]; first | done | rfl | omega) | (simp_all; first | done | omega)))) | (simp_all; done))); (case w6 => with_unfolding_all passes_own); (case' w5 => (intro c h₁ tk₁ hI F₁ N₁; (try k_sweep); (try dsimp only); (try k_fold)))
  (case w4 => exact ⟨h0, Nat.le_refl _, rfl⟩)
  obtain ⟨c0, c1, c2⟩ := hI
  have hnd : c.1 < 10 ^ 200 := by omega
  (repeat' (first | ((fail_if_success (first | (with_reducible show wpAny _ _ (exec (Stmt.While _ _ _ _) _) _ _ _) | (with_reducible show wpAny _ _ (exec (Stmt.Raise _ _ _) _) _ _ _) | (with_reducible show WhStep _ _ _ _ _ _ _ _ _ _ _))); (first | (k_here; (with_reducible show wpAny _ _ (call (Value.ref _) _) _ _ _); (first | ((with_reducible show wpAny _ _ (call (Value.ref 44) _) _ _ _); k_dflt (refine' useI (figures_of _ _ _ ?p1) ?k1 ?k2 ?k3 ?k4 ?k5 ?kK ?kd ?ku ?_; (case p1 => walk_at "up"); walk_at "u2"); intro t9 h9 tk9 F9 N9; walk_at "u3"))) | walk_at "wk"))))
  · rename (c.1 : Int).fmod 10 = 0 => hz
    rw [show (10 : Int) = ((10 : Nat) : Int) from rfl, fmodN] at hz
    refine' WhStep.next (c.1 / 10, c.2.1 + 1, _, _) (by k_asm) (by k_asm) (by repeat' (first | exact sub_refl _ | refine sub_cons ?_)) ?hm ?hI ?hμ
    (case hm => (funext y; (try dsimp only); (repeat' split) <;> first | contradiction | rfl | (subst_vars; rfl) | (exfalso; simp_all +decide; done) | (refine int_eq ?ie ?it; (case it => rfl); (case ie => (first | rfl | assumption | exact fdiv10 _ | omega | (simp only [Nat.pow_succ, Int.natCast_mul, Int.natCast_add, Int.natCast_one]; first | done | rfl | omega) | (simp_all; first | done | omega)))) | (simp_all; done)))
    · exact ⟨by dsimp only; omega, by dsimp only; omega, by dsimp only; rw [← c2, strip10_go c0 (by omega)]⟩
    · dsimp only; omega
  all_goals (
    rename ¬ (c.1 : Int).fmod 10 = 0 => hz
    rw [show (10 : Int) = ((10 : Nat) : Int) from rfl, fmodN] at hz
    have hs : strip10 n0 e0 = (c.1, c.2.1) := by rw [← c2, strip10_stop (by omega)]
    have he : exactly n0 e0 = if 99 < c.2.1 + (nd c.1 : Nat) - 1 then (1, 100) else if -100 ≤ c.2.1 + (nd c.1 : Nat) - 1 then (c.1, c.2.1) else (0, 0) := by
      unfold exactly
      rw [if_neg h0, hs])
  · rw [if_pos (by assumption)] at he
    rw [he] at hret
    exact Ret.ii hret (by k_asm) (by k_asm) (by repeat' (first | exact sub_refl _ | refine sub_cons ?_)) (by k_mem) (by first | assumption | exact ktn_ltOf (by assumption) | exact ktn_ltOf (And.right (by assumption)) | exact ktn_ltOf (And.right (And.right (by assumption))) | exact ktn_ltOf (And.right (And.right (And.right (by assumption)))) | exact ktn_ltOf (And.right (And.right (And.right (And.right (by assumption))))) | exact ktn_ltOf (And.right (And.right (And.right (And.right (And.right (by assumption)))))) | exact ktn_ltOf (And.right (And.right (And.right (And.right (And.right (And.right (by assumption))))))) | exact ktn_ltOf (And.right (And.right (And.right (And.right (And.right (And.right (And.right (by assumption)))))))) | exact ktn_ltOf (And.right (And.right (And.right (And.right (And.right (And.right (And.right (And.right (by assumption))))))))) | exact ktn_ltOf (And.right (And.right (And.right (And.right (And.right (And.right (And.right (And.right (And.right (by assumption)))))))))) | exact ktn_ltOf (And.right (And.right (And.right (And.right (And.right (And.right (And.right (And.right (And.right (And.right (by assumption))))))))))) | exact ktn_ltOf (And.right (And.right (And.right (And.right (And.right (And.right (And.right (And.right (And.right (And.right (And.right (by assumption))))))))))))) rfl rfl
  · rw [if_neg (by assumption), if_pos (by omega)] at he
    rw [he] at hret
    exact Ret.ii hret (by k_asm) (by k_asm) (by repeat' (first | exact sub_refl _ | refine sub_cons ?_)) (by k_mem) (by first | assumption | exact ktn_ltOf (by assumption) | exact ktn_ltOf (And.right (by assumption)) | exact ktn_ltOf (And.right (And.right (by assumption))) | exact ktn_ltOf (And.right (And.right (And.right (by assumption)))) | exact ktn_ltOf (And.right (And.right (And.right (And.right (by assumption))))) | exact ktn_ltOf (And.right (And.right (And.right (And.right (And.right (by assumption)))))) | exact ktn_ltOf (And.right (And.right (And.right (And.right (And.right (And.right (by assumption))))))) | exact ktn_ltOf (And.right (And.right (And.right (And.right (And.right (And.right (And.right (by assumption)))))))) | exact ktn_ltOf (And.right (And.right (And.right (And.right (And.right (And.right (And.right (And.right (by assumption))))))))) | exact ktn_ltOf (And.right (And.right (And.right (And.right (And.right (And.right (And.right (And.right (And.right (by assumption)))))))))) | exact ktn_ltOf (And.right (And.right (And.right (And.right (And.right (And.right (And.right (And.right (And.right (And.right (by assumption))))))))))) | exact ktn_ltOf (And.right (And.right (And.right (And.right (And.right (And.right (And.right (And.right (And.right (And.right (And.right (by assumption))))))))))))) rfl rfl
  · rw [if_neg (by assumption), if_neg (by omega)] at he
    rw [he] at hret
    exact Ret.ii hret (by k_asm) (by k_asm) (by repeat' (first | exact sub_refl _ | refine sub_cons ?_)) (by k_mem) (by first | assumption | exact ktn_ltOf (by assumption) | exact ktn_ltOf (And.right (by assumption)) | exact ktn_ltOf (And.right (And.right (by assumption))) | exact ktn_ltOf (And.right (And.right (And.right (by assumption)))) | exact ktn_ltOf (And.right (And.right (And.right (And.right (by assumption))))) | exact ktn_ltOf (And.right (And.right (And.right (And.right (And.right (by assumption)))))) | exact ktn_ltOf (And.right (And.right (And.right (And.right (And.right (And.right (by assumption))))))) | exact ktn_ltOf (And.right (And.right (And.right (And.right (And.right (And.right (And.right (by assumption)))))))) | exact ktn_ltOf (And.right (And.right (And.right (And.right (And.right (And.right (And.right (And.right (by assumption))))))))) | exact ktn_ltOf (And.right (And.right (And.right (And.right (And.right (And.right (And.right (And.right (And.right (by assumption)))))))))) | exact ktn_ltOf (And.right (And.right (And.right (And.right (And.right (And.right (And.right (And.right (And.right (And.right (by assumption))))))))))) | exact ktn_ltOf (And.right (And.right (And.right (And.right (And.right (And.right (And.right (And.right (And.right (And.right (And.right (by assumption))))))))))))) rfl rfl
 case hZ => delta id; exact pair_ _
-- MACROS
-- END

theorem item_isD {x : Str} {i : Int} (h0 : 0 ≤ i) (h1 : i < x.length) (a : ¬ (Txt.item x i).cps.toList < (Str.ofString "0").cps.toList) (b : ¬ (Str.ofString "9").cps.toList < (Txt.item x i).cps.toList) : isD ((sgs x).getD i.toNat 0) = true := by
  have e : (Txt.item x i).cps.toList = [(sgs x).getD i.toNat 0] := sgs_item h0 h1
  rw [e, show (Str.ofString "0").cps.toList = [48] from by decide, lt1] at a
  rw [e, show (Str.ofString "9").cps.toList = [57] from by decide, lt1] at b
  rw [isD_iff]
  omega
theorem item_noD {x : Str} {i : Int} (h0 : 0 ≤ i) (h1 : i < x.length) (a : (Txt.item x i).cps.toList < (Str.ofString "0").cps.toList ∨ (Str.ofString "9").cps.toList < (Txt.item x i).cps.toList) : isD ((sgs x).getD i.toNat 0) = false := by
  have e : (Txt.item x i).cps.toList = [(sgs x).getD i.toNat 0] := sgs_item h0 h1
  rw [e, show (Str.ofString "0").cps.toList = [48] from by decide, show (Str.ofString "9").cps.toList = [57] from by decide, lt1, lt1] at a
  cases h : isD ((sgs x).getD i.toNat 0) with
  | false => rfl
  | true => rw [isD_iff] at h; omega
theorem run_len60 {x : Str} (n0 : Nat) (hx : x.length ≤ 60) : (run (sgs x) n0).length ≤ 60 := by
  have h : (run (sgs x) n0).length ≤ ((sgs x).drop n0).length := (List.takeWhile_sublist _).length_le
  rw [List.length_drop, sgs_len] at h
  omega
theorem val_step {x : Str} {n0 k : Nat} (hk : k + 1 ≤ (run (sgs x) n0).length) (hlt : n0 + k < x.length) (h : isD ((sgs x).getD (n0 + k) 0) = true) :
    ((val ((run (sgs x) n0).take k) : Nat) : Int) * 10 + (((Txt.item x ((n0 + k : Nat) : Int)).cps.getD 0 0 : Nat) : Int) - 48 = ((val ((run (sgs x) n0).take (k + 1)) : Nat) : Int) := by
  have e : (Txt.item x ((n0 + k : Nat) : Int)).cps.toList = [(sgs x).getD (n0 + k) 0] := sgs_item (by omega) (by omega)
  have e2 : (Txt.item x ((n0 + k : Nat) : Int)).cps.getD 0 0 = (sgs x).getD (n0 + k) 0 := by
    rw [Array.getD_eq_getD_getElem?, ← Array.getElem?_toList, e]
    rfl
  rw [run_take_snoc hk (by rw [sgs_len]; exact hlt), val_snoc, e2]
  rw [isD_iff] at h
  omega
set_option maxHeartbeats 4000000 in
theorem figures_at (w : World) (x : Str) (n0 : Nat) (t u : Tok) (hx : x.length ≤ 60) : Meets w 222 2 16 [.str x t, .int (n0 : Int) u] (OutIII (val (run (sgs x) n0) : Nat) ((run (sgs x) n0).length : Nat) ((n0 + (run (sgs x) n0).length : Nat) : Int)) := by
 refine (?fZ : PullF _) ?pZ ?qZ ?hZ
 case fZ => exact fun _ q _ => q
 case pZ =>
  unfold Meets
  k_fill
  intro p loose mean mg mb dp un gd cn cs a ccd cl outer A₀ base h₀ L m news s Q E hrw B F X N T hk hd hu hret
  clear hrw
  refine wpAny_call ?_
  k_dflt cell_enter
  have h60 := run_len60 n0 hx
  have hx0 : x.length ≤ 1048576 := Nat.le_trans hx (by decide)
  (repeat' (first | ((fail_if_success (first | (with_reducible show wpAny _ _ (exec (Stmt.While _ _ _ _) _) _ _ _) | (with_reducible show wpAny _ _ (exec (Stmt.Raise _ _ _) _) _ _ _) | (with_reducible show WhStep _ _ _ _ _ _ _ _ _ _ _))); (first | walk_at "wk"))))
  k_dflt (refine' while_st (fun m c y => if y = Str.ofString "found" then some (.int ((val ((run (sgs x) n0).take c.1) : Nat) : Int) c.2.1) else if y = Str.ofString "at" then some (.int ((n0 + c.1 : Nat) : Int) c.2.2) else m y) (fun c : Nat × Tok × Tok => c.1 ≤ (run (sgs x) n0).length) (fun c => x.length - c.1) (0, _, _) ?w1 ?w2 ?w3 ?w4 ?w5 ?w6)
  (case w1 => k_asm); (case w2 => k_asm); (case w3 => (funext y; (try dsimp only); (repeat' split) <;> first | contradiction | rfl | (subst_vars; rfl) | (exfalso; simp_all +decide; done) | (refine int_eq ?ie ?it; (case it => rfl); (case ie => (first | rfl | assumption | exact fdiv10 _ | omega | (simp only [Nat.pow_succ, Int.natCast_mul, Int.natCast_add, Int.natCast_one]; first | done | rfl | omega) | (simp_all; first | done | omega)))) | (simp_all; done))); (case w6 => with_unfolding_all passes_own); (case' w5 => (intro c h₁ tk₁ hI F₁ N₁; (try k_sweep); (try dsimp only); (try k_fold)))
  (case w4 => exact Nat.zero_le _)
  have hI : c.1 ≤ (run (sgs x) n0).length := hI
  have hln := sgs_len x
  (repeat' (first | ((fail_if_success (first | (with_reducible show wpAny _ _ (exec (Stmt.While _ _ _ _) _) _ _ _) | (with_reducible show wpAny _ _ (exec (Stmt.Raise _ _ _) _) _ _ _) | (with_reducible show WhStep _ _ _ _ _ _ _ _ _ _ _))); (first | walk_at "wk"))))
  · have hs := run_stop hI (.inl (item_noD (x := x) (i := ((n0 + c.1 : Nat) : Int)) (by omega) (by omega) (.inl (by assumption))))
    refine Ret.iii hret (by k_asm) (by k_asm) (by repeat' (first | exact sub_refl _ | refine sub_cons ?_)) (by k_mem) (by first | assumption | exact ktn_ltOf (by assumption) | exact ktn_ltOf (And.right (by assumption)) | exact ktn_ltOf (And.right (And.right (by assumption))) | exact ktn_ltOf (And.right (And.right (And.right (by assumption)))) | exact ktn_ltOf (And.right (And.right (And.right (And.right (by assumption))))) | exact ktn_ltOf (And.right (And.right (And.right (And.right (And.right (by assumption)))))) | exact ktn_ltOf (And.right (And.right (And.right (And.right (And.right (And.right (by assumption))))))) | exact ktn_ltOf (And.right (And.right (And.right (And.right (And.right (And.right (And.right (by assumption)))))))) | exact ktn_ltOf (And.right (And.right (And.right (And.right (And.right (And.right (And.right (And.right (by assumption))))))))) | exact ktn_ltOf (And.right (And.right (And.right (And.right (And.right (And.right (And.right (And.right (And.right (by assumption)))))))))) | exact ktn_ltOf (And.right (And.right (And.right (And.right (And.right (And.right (And.right (And.right (And.right (And.right (by assumption))))))))))) | exact ktn_ltOf (And.right (And.right (And.right (And.right (And.right (And.right (And.right (And.right (And.right (And.right (And.right (by assumption))))))))))))) ?_ ?_ ?_
    · rw [hs, List.take_length]
    · omega
    · omega
  · have hs := run_stop hI (.inl (item_noD (x := x) (i := ((n0 + c.1 : Nat) : Int)) (by omega) (by omega) (.inr (by assumption))))
    refine Ret.iii hret (by k_asm) (by k_asm) (by repeat' (first | exact sub_refl _ | refine sub_cons ?_)) (by k_mem) (by first | assumption | exact ktn_ltOf (by assumption) | exact ktn_ltOf (And.right (by assumption)) | exact ktn_ltOf (And.right (And.right (by assumption))) | exact ktn_ltOf (And.right (And.right (And.right (by assumption)))) | exact ktn_ltOf (And.right (And.right (And.right (And.right (by assumption))))) | exact ktn_ltOf (And.right (And.right (And.right (And.right (And.right (by assumption)))))) | exact ktn_ltOf (And.right (And.right (And.right (And.right (And.right (And.right (by assumption))))))) | exact ktn_ltOf (And.right (And.right (And.right (And.right (And.right (And.right (And.right (by assumption)))))))) | exact ktn_ltOf (And.right (And.right (And.right (And.right (And.right (And.right (And.right (And.right (by assumption))))))))) | exact ktn_ltOf (And.right (And.right (And.right (And.right (And.right (And.right (And.right (And.right (And.right (by assumption)))))))))) | exact ktn_ltOf (And.right (And.right (And.right (And.right (And.right (And.right (And.right (And.right (And.right (And.right (by assumption))))))))))) | exact ktn_ltOf (And.right (And.right (And.right (And.right (And.right (And.right (And.right (And.right (And.right (And.right (And.right (by assumption))))))))))))) ?_ ?_ ?_
    · rw [hs, List.take_length]
    · omega
    · omega
  · have hg := run_go hI (by omega) (item_isD (x := x) (i := ((n0 + c.1 : Nat) : Int)) (by omega) (by omega) (by assumption) (by assumption))
    have hv := val_step hg (by omega) (item_isD (x := x) (i := ((n0 + c.1 : Nat) : Int)) (by omega) (by omega) (by assumption) (by assumption))
    refine' WhStep.next (c.1 + 1, _, _) (by k_asm) (by k_asm) (by repeat' (first | exact sub_refl _ | refine sub_cons ?_)) ?hm ?hI ?hμ
    (case hm => (funext y; (try dsimp only); (repeat' split) <;> first | contradiction | rfl | (subst_vars; rfl) | (exfalso; simp_all +decide; done) | (refine int_eq ?ie ?it; (case it => rfl); (case ie => (first | rfl | assumption | exact fdiv10 _ | omega | (simp only [Nat.pow_succ, Int.natCast_mul, Int.natCast_add, Int.natCast_one]; first | done | rfl | omega) | (simp_all; first | done | omega)))) | (simp_all; done)))
    · exact hg
    · dsimp only; omega
  · have hs := run_stop (l := sgs x) hI (.inr (by omega))
    refine Ret.iii hret (by k_asm) (by k_asm) (by repeat' (first | exact sub_refl _ | refine sub_cons ?_)) (by k_mem) (by first | assumption | exact ktn_ltOf (by assumption) | exact ktn_ltOf (And.right (by assumption)) | exact ktn_ltOf (And.right (And.right (by assumption))) | exact ktn_ltOf (And.right (And.right (And.right (by assumption)))) | exact ktn_ltOf (And.right (And.right (And.right (And.right (by assumption))))) | exact ktn_ltOf (And.right (And.right (And.right (And.right (And.right (by assumption)))))) | exact ktn_ltOf (And.right (And.right (And.right (And.right (And.right (And.right (by assumption))))))) | exact ktn_ltOf (And.right (And.right (And.right (And.right (And.right (And.right (And.right (by assumption)))))))) | exact ktn_ltOf (And.right (And.right (And.right (And.right (And.right (And.right (And.right (And.right (by assumption))))))))) | exact ktn_ltOf (And.right (And.right (And.right (And.right (And.right (And.right (And.right (And.right (And.right (by assumption)))))))))) | exact ktn_ltOf (And.right (And.right (And.right (And.right (And.right (And.right (And.right (And.right (And.right (And.right (by assumption))))))))))) | exact ktn_ltOf (And.right (And.right (And.right (And.right (And.right (And.right (And.right (And.right (And.right (And.right (And.right (by assumption))))))))))))) ?_ ?_ ?_
    · rw [hs, List.take_length]
    · omega
    · omega
 case hZ => delta id; exact pair_ _
-- MACROS
-- END

/-- the sign at a place, as a list of none or one -/
noncomputable def at1 (l : List Nat) (a : Nat) : List Nat := (l.drop a).take 1
noncomputable def powStart (l : List Nat) (a : Nat) : Nat := if at1 l (a + 1) = [43] ∨ at1 l (a + 1) = [45] then a + 2 else a + 1
noncomputable def powerAt (l : List Nat) (a : Nat) : Int × Nat :=
  if at1 l a = [69] ∨ at1 l a = [68] then
    (if at1 l (a + 1) = [45] then -(val (run l (powStart l a)) : Nat) else (val (run l (powStart l a)) : Nat), powStart l a + (run l (powStart l a)).length)
  else (0, a)
theorem slice_at1 {x : Str} {i j : Int} (a : Nat) (hi : i = a) (hj : j = a + 1) : sgs (Txt.slice x (some i) (some j)) = at1 (sgs x) a := by
  subst hi hj
  have := sgs_slice x a (a + 1)
  rw [show a + 1 - a = 1 by omega] at this
  exact this
theorem any2_t {A B y : Str} (h : ([A, B].any fun z => z == y) = true) : sgs y = sgs A ∨ sgs y = sgs B := by
  simp only [List.any_cons, List.any_nil, Bool.or_false, Bool.or_eq_true, beq_iff_eq] at h
  rcases h with h | h
  · exact .inl (by rw [h])
  · exact .inr (by rw [h])
theorem any2_f {A B y : Str} (h : ([A, B].any fun z => z == y) = false) : sgs y ≠ sgs A ∧ sgs y ≠ sgs B := by
  simp only [List.any_cons, List.any_nil, Bool.or_false, Bool.or_eq_false_iff, beq_eq_false_iff_ne, ne_eq] at h
  exact ⟨fun e => h.1 (str_eq e.symm), fun e => h.2 (str_eq e.symm)⟩
theorem lit_E : sgs (Str.ofString "E") = [69] := by decide
theorem lit_e : sgs (Str.ofString "e") = [101] := by decide
theorem lit_D : sgs (Str.ofString "D") = [68] := by decide
theorem lit_plus : sgs (Str.ofString "+") = [43] := by decide
theorem lit_minus : sgs (Str.ofString "-") = [45] := by decide
/-- the powers that the text may hold -/
noncomputable def PowOk (l : List Nat) : Prop := ∀ k, (at1 l k = [69] ∨ at1 l k = [68]) → val (run l (powStart l k)) ≤ 999
set_option maxHeartbeats 4000000 in
theorem power_at (w : World) (x : Str) (n0 : Nat) (t u : Tok) (hx : x.length ≤ 60) (hpw : PowOk (sgs x)) : Meets w 229 3 24 [.str x t, .int (n0 : Int) u] (OutII (powerAt (sgs x) n0).1 ((powerAt (sgs x) n0).2 : Nat)) := by
 refine (?fZ : PullF _) ?pZ ?qZ ?hZ
 case fZ => exact fun _ q _ => q
 case pZ =>
  unfold Meets
  k_fill
  intro p loose mean mg mb dp un gd cn cs a ccd cl outer A₀ base h₀ L m news s Q E hrw B F X N T hk hd hu hret
  clear hrw
  refine wpAny_call ?_
  k_dflt cell_enter
  have hx0 : x.length ≤ 1048576 := Nat.le_trans hx (by decide)
  have hsl : sgs (Txt.slice x (some ((n0 : Int) + 1)) (some ((n0 : Int) + 2))) = at1 (sgs x) (n0 + 1) := slice_at1 (n0 + 1) (by omega) (by omega)
  have hsl0 : sgs (Txt.slice x (some (n0 : Int)) (some ((n0 : Int) + 1))) = at1 (sgs x) n0 := slice_at1 n0 rfl rfl
  (repeat' (first | ((fail_if_success (first | (with_reducible show wpAny _ _ (exec (Stmt.While _ _ _ _) _) _ _ _) | (with_reducible show wpAny _ _ (exec (Stmt.Raise _ _ _) _) _ _ _) | (with_reducible show WhStep _ _ _ _ _ _ _ _ _ _ _))); (first | (k_here; (with_reducible show wpAny _ _ (call (Value.ref _) _) _ _ _); (first | ((with_reducible show wpAny _ _ (call (Value.ref 222) _) _ _ _); k_dflt (refine' useIII (figures_at _ _ _ _ _ ?p1) ?k1 ?k2 ?k3 ?k4 ?k5 ?kK ?kd ?ku ?_; (case p1 => walk_at "up"); walk_at "u2"); intro D9 a9 b9 c9 h9 tk9 F9 N9 l9; (try k_lt l9); walk_at "u3"))) | walk_at "wk"))))
  · rename ([Str.ofString "E", _].any _) = true => he
    have he := any2_t he
    rw [hsl0, lit_E, lit_D] at he
    have h999 := hpw n0 he
    have hq : powerAt (sgs x) n0 = _ := if_pos he
    rename ([Str.ofString "+", _].any _) = true => hs
    have hs := any2_t hs
    rw [hsl, lit_plus, lit_minus] at hs
    have hp : powStart (sgs x) n0 = n0 + 2 := if_pos hs
    rw [hp] at h999 hq
    rename (999 : Int) < _ => hb
    exact absurd h999 (Nat.not_le.mpr (Int.ofNat_lt.mp hb))
  · rename ([Str.ofString "E", _].any _) = true => he
    have he := any2_t he
    rw [hsl0, lit_E, lit_D] at he
    have h999 := hpw n0 he
    have hq : powerAt (sgs x) n0 = _ := if_pos he
    rename ([Str.ofString "+", _].any _) = true => hs
    have hs := any2_t hs
    rw [hsl, lit_plus, lit_minus] at hs
    have hp : powStart (sgs x) n0 = n0 + 2 := if_pos hs
    rw [hp] at h999 hq
    rename (_ == Str.ofString "-") = true => hm
    have hm := eq_of_beq hm
    have hm : at1 (sgs x) (n0 + 1) = [45] := by rw [← hsl, hm]; exact lit_minus
    rw [if_pos hm] at hq
    rw [hq] at hret
    exact Ret.ii hret (by k_asm) (by k_asm) (by repeat' (first | exact sub_refl _ | refine sub_cons ?_)) (by k_mem) (by first | assumption | exact ktn_ltOf (by assumption) | exact ktn_ltOf (And.right (by assumption)) | exact ktn_ltOf (And.right (And.right (by assumption))) | exact ktn_ltOf (And.right (And.right (And.right (by assumption)))) | exact ktn_ltOf (And.right (And.right (And.right (And.right (by assumption))))) | exact ktn_ltOf (And.right (And.right (And.right (And.right (And.right (by assumption)))))) | exact ktn_ltOf (And.right (And.right (And.right (And.right (And.right (And.right (by assumption))))))) | exact ktn_ltOf (And.right (And.right (And.right (And.right (And.right (And.right (And.right (by assumption)))))))) | exact ktn_ltOf (And.right (And.right (And.right (And.right (And.right (And.right (And.right (And.right (by assumption))))))))) | exact ktn_ltOf (And.right (And.right (And.right (And.right (And.right (And.right (And.right (And.right (And.right (by assumption)))))))))) | exact ktn_ltOf (And.right (And.right (And.right (And.right (And.right (And.right (And.right (And.right (And.right (And.right (by assumption))))))))))) | exact ktn_ltOf (And.right (And.right (And.right (And.right (And.right (And.right (And.right (And.right (And.right (And.right (And.right (by assumption))))))))))))) rfl rfl
  · rename ([Str.ofString "E", _].any _) = true => he
    have he := any2_t he
    rw [hsl0, lit_E, lit_D] at he
    have h999 := hpw n0 he
    have hq : powerAt (sgs x) n0 = _ := if_pos he
    rename ([Str.ofString "+", _].any _) = true => hs
    have hs := any2_t hs
    rw [hsl, lit_plus, lit_minus] at hs
    have hp : powStart (sgs x) n0 = n0 + 2 := if_pos hs
    rw [hp] at h999 hq
    rename (_ == Str.ofString "-") = false => hm
    have hm := ne_of_beq_false hm
    have hm : at1 (sgs x) (n0 + 1) ≠ [45] := by
      intro z
      rw [← hsl, ← lit_minus] at z
      exact hm (str_eq z)
    rw [if_neg hm] at hq
    rw [hq] at hret
    exact Ret.ii hret (by k_asm) (by k_asm) (by repeat' (first | exact sub_refl _ | refine sub_cons ?_)) (by k_mem) (by first | assumption | exact ktn_ltOf (by assumption) | exact ktn_ltOf (And.right (by assumption)) | exact ktn_ltOf (And.right (And.right (by assumption))) | exact ktn_ltOf (And.right (And.right (And.right (by assumption)))) | exact ktn_ltOf (And.right (And.right (And.right (And.right (by assumption))))) | exact ktn_ltOf (And.right (And.right (And.right (And.right (And.right (by assumption)))))) | exact ktn_ltOf (And.right (And.right (And.right (And.right (And.right (And.right (by assumption))))))) | exact ktn_ltOf (And.right (And.right (And.right (And.right (And.right (And.right (And.right (by assumption)))))))) | exact ktn_ltOf (And.right (And.right (And.right (And.right (And.right (And.right (And.right (And.right (by assumption))))))))) | exact ktn_ltOf (And.right (And.right (And.right (And.right (And.right (And.right (And.right (And.right (And.right (by assumption)))))))))) | exact ktn_ltOf (And.right (And.right (And.right (And.right (And.right (And.right (And.right (And.right (And.right (And.right (by assumption))))))))))) | exact ktn_ltOf (And.right (And.right (And.right (And.right (And.right (And.right (And.right (And.right (And.right (And.right (And.right (by assumption))))))))))))) rfl rfl
  · rename ([Str.ofString "E", _].any _) = true => he
    have he := any2_t he
    rw [hsl0, lit_E, lit_D] at he
    have h999 := hpw n0 he
    have hq : powerAt (sgs x) n0 = _ := if_pos he
    rename ([Str.ofString "+", _].any _) = false => hs
    have hs := any2_f hs
    rw [hsl, lit_plus, lit_minus] at hs
    have hp : powStart (sgs x) n0 = n0 + 1 := if_neg (by intro h; rcases h with h | h; (exact hs.1 h); (exact hs.2 h))
    rw [hp] at h999 hq
    rename (999 : Int) < _ => hb
    exact absurd h999 (Nat.not_le.mpr (Int.ofNat_lt.mp hb))
  · rename ([Str.ofString "E", _].any _) = true => he
    have he := any2_t he
    rw [hsl0, lit_E, lit_D] at he
    have h999 := hpw n0 he
    have hq : powerAt (sgs x) n0 = _ := if_pos he
    rename ([Str.ofString "+", _].any _) = false => hs
    have hs := any2_f hs
    rw [hsl, lit_plus, lit_minus] at hs
    have hp : powStart (sgs x) n0 = n0 + 1 := if_neg (by intro h; rcases h with h | h; (exact hs.1 h); (exact hs.2 h))
    rw [hp] at h999 hq
    rename (_ == Str.ofString "-") = true => hm
    have hm := eq_of_beq hm
    have hm : at1 (sgs x) (n0 + 1) = [45] := by rw [← hsl, hm]; exact lit_minus
    rw [if_pos hm] at hq
    rw [hq] at hret
    exact Ret.ii hret (by k_asm) (by k_asm) (by repeat' (first | exact sub_refl _ | refine sub_cons ?_)) (by k_mem) (by first | assumption | exact ktn_ltOf (by assumption) | exact ktn_ltOf (And.right (by assumption)) | exact ktn_ltOf (And.right (And.right (by assumption))) | exact ktn_ltOf (And.right (And.right (And.right (by assumption)))) | exact ktn_ltOf (And.right (And.right (And.right (And.right (by assumption))))) | exact ktn_ltOf (And.right (And.right (And.right (And.right (And.right (by assumption)))))) | exact ktn_ltOf (And.right (And.right (And.right (And.right (And.right (And.right (by assumption))))))) | exact ktn_ltOf (And.right (And.right (And.right (And.right (And.right (And.right (And.right (by assumption)))))))) | exact ktn_ltOf (And.right (And.right (And.right (And.right (And.right (And.right (And.right (And.right (by assumption))))))))) | exact ktn_ltOf (And.right (And.right (And.right (And.right (And.right (And.right (And.right (And.right (And.right (by assumption)))))))))) | exact ktn_ltOf (And.right (And.right (And.right (And.right (And.right (And.right (And.right (And.right (And.right (And.right (by assumption))))))))))) | exact ktn_ltOf (And.right (And.right (And.right (And.right (And.right (And.right (And.right (And.right (And.right (And.right (And.right (by assumption))))))))))))) rfl rfl
  · rename ([Str.ofString "E", _].any _) = true => he
    have he := any2_t he
    rw [hsl0, lit_E, lit_D] at he
    have h999 := hpw n0 he
    have hq : powerAt (sgs x) n0 = _ := if_pos he
    rename ([Str.ofString "+", _].any _) = false => hs
    have hs := any2_f hs
    rw [hsl, lit_plus, lit_minus] at hs
    have hp : powStart (sgs x) n0 = n0 + 1 := if_neg (by intro h; rcases h with h | h; (exact hs.1 h); (exact hs.2 h))
    rw [hp] at h999 hq
    rename (_ == Str.ofString "-") = false => hm
    have hm := ne_of_beq_false hm
    have hm : at1 (sgs x) (n0 + 1) ≠ [45] := by
      intro z
      rw [← hsl, ← lit_minus] at z
      exact hm (str_eq z)
    rw [if_neg hm] at hq
    rw [hq] at hret
    exact Ret.ii hret (by k_asm) (by k_asm) (by repeat' (first | exact sub_refl _ | refine sub_cons ?_)) (by k_mem) (by first | assumption | exact ktn_ltOf (by assumption) | exact ktn_ltOf (And.right (by assumption)) | exact ktn_ltOf (And.right (And.right (by assumption))) | exact ktn_ltOf (And.right (And.right (And.right (by assumption)))) | exact ktn_ltOf (And.right (And.right (And.right (And.right (by assumption))))) | exact ktn_ltOf (And.right (And.right (And.right (And.right (And.right (by assumption)))))) | exact ktn_ltOf (And.right (And.right (And.right (And.right (And.right (And.right (by assumption))))))) | exact ktn_ltOf (And.right (And.right (And.right (And.right (And.right (And.right (And.right (by assumption)))))))) | exact ktn_ltOf (And.right (And.right (And.right (And.right (And.right (And.right (And.right (And.right (by assumption))))))))) | exact ktn_ltOf (And.right (And.right (And.right (And.right (And.right (And.right (And.right (And.right (And.right (by assumption)))))))))) | exact ktn_ltOf (And.right (And.right (And.right (And.right (And.right (And.right (And.right (And.right (And.right (And.right (by assumption))))))))))) | exact ktn_ltOf (And.right (And.right (And.right (And.right (And.right (And.right (And.right (And.right (And.right (And.right (And.right (by assumption))))))))))))) rfl rfl
  · rename ([Str.ofString "E", _].any _) = false => he
    have he := any2_f he
    rw [hsl0, lit_E, lit_D] at he
    have hq : powerAt (sgs x) n0 = _ := if_neg (by intro h; rcases h with h | h; (exact he.1 h); (exact he.2 h))
    rw [hq] at hret
    exact Ret.ii hret (by k_asm) (by k_asm) (by repeat' (first | exact sub_refl _ | refine sub_cons ?_)) (by k_mem) (by first | assumption | exact ktn_ltOf (by assumption) | exact ktn_ltOf (And.right (by assumption)) | exact ktn_ltOf (And.right (And.right (by assumption))) | exact ktn_ltOf (And.right (And.right (And.right (by assumption)))) | exact ktn_ltOf (And.right (And.right (And.right (And.right (by assumption))))) | exact ktn_ltOf (And.right (And.right (And.right (And.right (And.right (by assumption)))))) | exact ktn_ltOf (And.right (And.right (And.right (And.right (And.right (And.right (by assumption))))))) | exact ktn_ltOf (And.right (And.right (And.right (And.right (And.right (And.right (And.right (by assumption)))))))) | exact ktn_ltOf (And.right (And.right (And.right (And.right (And.right (And.right (And.right (And.right (by assumption))))))))) | exact ktn_ltOf (And.right (And.right (And.right (And.right (And.right (And.right (And.right (And.right (And.right (by assumption)))))))))) | exact ktn_ltOf (And.right (And.right (And.right (And.right (And.right (And.right (And.right (And.right (And.right (And.right (by assumption))))))))))) | exact ktn_ltOf (And.right (And.right (And.right (And.right (And.right (And.right (And.right (And.right (And.right (And.right (And.right (by assumption))))))))))))) rfl rfl
 case hZ => delta id; exact pair_ _
-- MACROS
-- END

/-- what number_tree makes -/
inductive Tr where
  | whole (n : Nat)
  | dec (c : Nat) (e : Int)
noncomputable def OutTr (tr : Tr) (r : Value) (tl : Led) : Prop := match tr with
  | .whole n => ∃ (D : Addr) (a b : Tok), tl = [(D, tup [.str (Str.ofString "whole") a, .int (n : Int) b])] ∧ r = .ref D
  | .dec c e => ∃ (D D2 : Addr) (a b b' : Tok), tl = [(D, tup [.str (Str.ofString "decimal") a, .ref D2]), (D2, tup [.int (c : Int) b, .int e b'])] ∧ r = .ref D ∧ D2 < D
/-- the number that a text tells, nought figures lost: its figures, its power -/
noncomputable def frontA (l : List Nat) : Nat := 0 + (run l 0).length
noncomputable def dotR (l : List Nat) : List Nat := run l (frontA l + 1)
noncomputable def numN (l : List Nat) : Nat := if at1 l (frontA l) = [46] then val (run l 0) * 10 ^ (dotR l).length + val (dotR l) else val (run l 0)
noncomputable def numP (l : List Nat) : Nat := if at1 l (frontA l) = [46] then (dotR l).length else 0
noncomputable def numA (l : List Nat) : Nat := if at1 l (frontA l) = [46] then frontA l + 1 + (dotR l).length else frontA l
noncomputable def ntree (l : List Nat) : Tr :=
  if l.drop (frontA l) = [] ∨ l.drop (frontA l) = [37] then .whole (val (run l 0))
  else .dec (exactly (numN l) ((powerAt l (numA l)).1 - (numP l : Nat))).1 (exactly (numN l) ((powerAt l (numA l)).1 - (numP l : Nat))).2
theorem val_append_lt : ∀ (l : List Nat) (v : Nat), (∀ c ∈ l, isD c = true) → l.foldl (fun v c => v * 10 + (c - 48)) v < (v + 1) * 10 ^ l.length
  | [], v, _ => by simp
  | c :: r, v, h => by
    have hc := h c (.head _)
    rw [isD_iff] at hc
    have := val_append_lt r (v * 10 + (c - 48)) (fun z hz => h z (.tail _ hz))
    rw [List.foldl_cons, List.length_cons, Nat.pow_succ]
    refine Nat.lt_of_lt_of_le this ?_
    have : v * 10 + (c - 48) + 1 ≤ (v + 1) * 10 := by omega
    calc (v * 10 + (c - 48) + 1) * 10 ^ r.length ≤ ((v + 1) * 10) * 10 ^ r.length := Nat.mul_le_mul_right _ this
      _ = (v + 1) * (10 ^ r.length * 10) := by rw [Nat.mul_assoc, Nat.mul_comm 10]
theorem val_lt {l : List Nat} (h : ∀ c ∈ l, isD c = true) : val l < 10 ^ l.length := by
  have := val_append_lt l 0 h
  simpa [val] using this
theorem run_isD (l : List Nat) (a : Nat) : ∀ c ∈ run l a, isD c = true := takeWhile_all _ _
theorem val_run_lt {x : Str} (hx : x.length ≤ 60) (k : Nat) : val (run (sgs x) k) < 10 ^ 60 :=
  Nat.lt_of_lt_of_le (val_lt (run_isD _ _)) (Nat.pow_le_pow_right (by decide) (run_len60 k hx))
theorem Meets.of_eq {w : World} {f : Addr} {d u : Nat} {vs vs' : List Value} {Out : Value → Led → Prop} (C : Meets w f d u vs' Out) (e : vs = vs') : Meets w f d u vs Out := e ▸ C
theorem args2 {a a' b b' : Int} {t u : Tok} (h : a = a') (h' : b = b') : [Value.int a t, Value.int b u] = [Value.int a' t, Value.int b' u] := by rw [h, h']
theorem numN_lt {x : Str} (hx : x.length ≤ 60) : numN (sgs x) < 10 ^ 200 := by
  have h1 := val_run_lt hx 0
  have h2 := val_run_lt hx (frontA (sgs x) + 1)
  have h3 := run_len60 (frontA (sgs x) + 1) hx
  unfold numN dotR
  split
  · have h4 : 10 ^ (run (sgs x) (frontA (sgs x) + 1)).length ≤ 10 ^ 60 := Nat.pow_le_pow_right (by decide) h3
    have h5 : val (run (sgs x) 0) * 10 ^ (run (sgs x) (frontA (sgs x) + 1)).length ≤ 10 ^ 60 * 10 ^ 60 := Nat.mul_le_mul (Nat.le_of_lt h1) h4
    have h6 : (10 : Nat) ^ 60 * 10 ^ 60 + 10 ^ 60 < 10 ^ 200 := by decide +kernel
    omega
  · exact Nat.lt_trans h1 (by decide +kernel)
theorem bits_small {z : Int} (hz : z.natAbs < 10 ^ 200) : Builtin.Int.intBits z ≤ 900 := by
  unfold Builtin.Int.intBits
  split
  · omega
  · by_cases h0 : z.natAbs = 0
    · rw [h0]; decide
    · have := (Nat.log2_lt (k := 899) h0).mpr (Nat.lt_trans hz (by decide +kernel))
      omega
theorem mulOk (a b : Int) (ha : a.natAbs < 10 ^ 200) (hb : b.natAbs < 10 ^ 200) : IntMulOk a b := by
  have h : Builtin.Int.intTooBig (Builtin.Int.intBits a + Builtin.Int.intBits b) = false := by
    have h1 := bits_small ha
    have h2 := bits_small hb
    unfold Builtin.Int.intTooBig bitsLine
    rw [decide_eq_false_iff_not]
    omega
  unfold IntMulOk
  rw [h]
  simp
-- MACROS
local macro_rules | `(tactic| walk_at "binaryOp Mult int int") => `(tactic| (k_here; k_dflt (refine' mul_int ?_ (mulOk _ _ ?ma ?mb); (case ma => assumption); (case mb => assumption))))
-- END
theorem natAbs_pow10 (k : Nat) (h : k ≤ 60) : ((10 : Int) ^ ((k : Nat) : Int).toNat).natAbs < 10 ^ 200 := by
  have e : ((10 : Int) ^ ((k : Nat) : Int).toNat).natAbs = 10 ^ k := by
    rw [Int.natAbs_pow]
    rfl
  rw [e]
  exact Nat.lt_of_le_of_lt (Nat.pow_le_pow_right (by decide) h) (by decide +kernel)
theorem natAbs_nat (k : Nat) (h : k < 10 ^ 60) : ((k : Nat) : Int).natAbs < 10 ^ 200 := by
  rw [Int.natAbs_natCast]
  exact Nat.lt_trans h (by decide +kernel)
theorem lit_nil : sgs (Str.ofString "") = [] := by decide
theorem lit_pct : sgs (Str.ofString "%") = [37] := by decide
theorem lit_dot : sgs (Str.ofString ".") = [46] := by decide
section
variable {M : Model} {A : Around} {E : Value → Shared → Prop} {s : Shared} {g : Heap} {L : Addr} {m : Str → Option Value} {news : Led}
noncomputable def CutP3 (x y z : Str) (K1 K2 K3 : Int) (s : Shared) (g : Heap) (L : Addr) (m : Str → Option Value) (news : Led) (f : Flow) (s' : Shared) : Prop := f = .next ∧ ∃ t1 t2 t3 h' tk', s' = { s with heap := h', toks := tk' } ∧ Fr g L h' (fun q => if q = x then some (.int K1 t1) else if q = y then some (.int K2 t2) else if q = z then some (.int K3 t3) else m q) ∧ News g L h' news
theorem CutP3.mk {x y z : Str} {K1 K2 K3 v1 v2 v3 : Int} {t1 t2 t3 : Tok} {h' : Heap} {tk' : Nat} {news' : Led} (F : Fr g L h' (fun q => if q = x then some (.int v1 t1) else if q = y then some (.int v2 t2) else if q = z then some (.int v3 t3) else m q)) (e1 : v1 = K1) (e2 : v2 = K2) (e3 : v3 = K3) (N : News g L h' news') (hs : ∀ q ∈ news, q ∈ news') : CutP3 x y z K1 K2 K3 s g L m news .next { s with heap := h', toks := tk' } := by
  subst e1 e2 e3
  exact ⟨rfl, t1, t2, t3, h', tk', rfl, F, fun q hq => N q (hs q hq)⟩
theorem CutP3.same {x y z : Str} {K1 K2 K3 v1 v2 v3 : Int} {t1 t2 t3 : Tok} {h' : Heap} {tk' : Nat} {news' : Led} (F : Fr g L h' m) (h1 : m x = some (.int v1 t1)) (h2 : m y = some (.int v2 t2)) (h3 : m z = some (.int v3 t3)) (e1 : v1 = K1) (e2 : v2 = K2) (e3 : v3 = K3) (N : News g L h' news') (hs : ∀ q ∈ news, q ∈ news') : CutP3 x y z K1 K2 K3 s g L m news .next { s with heap := h', toks := tk' } := by
  refine CutP3.mk (x := x) (y := y) (z := z) (t1 := t1) (t2 := t2) (t3 := t3) ?_ e1 e2 e3 N hs
  have e : m = fun q => if q = x then some (.int v1 t1) else if q = y then some (.int v2 t2) else if q = z then some (.int v3 t3) else m q := by
    funext q
    by_cases q1 : q = x
    · rw [if_pos q1, q1, h1]
    · rw [if_neg q1]
      by_cases q2 : q = y
      · rw [if_pos q2, q2, h2]
      · rw [if_neg q2]
        by_cases q3 : q = z
        · rw [if_pos q3, q3, h3]
        · rw [if_neg q3]
  exact e ▸ F
theorem cut_put3 {tree : Sem Flow} {Q : Flow → Shared → Prop} {x y z : Str} {K1 K2 K3 : Int} (_F : Fr g L s.heap m) (_N : News g L s.heap news)
    (h1 : wpAny M A tree (CutP3 x y z K1 K2 K3 s g L m news) E s)
    (h2 : ∀ t1 t2 t3 h' tk', Fr g L h' (fun q => if q = x then some (.int K1 t1) else if q = y then some (.int K2 t2) else if q = z then some (.int K3 t3) else m q) → News g L h' news → Q .next { s with heap := h', toks := tk' }) : wpAny M A tree Q E s :=
  wpAny_mono h1 (fun _ _ ⟨hv, t1, t2, t3, h', tk', hs, F, N⟩ => by subst hv hs; exact h2 t1 t2 t3 h' tk' F N) fun _ _ x => x
end
set_option maxHeartbeats 4000000 in
theorem number_tree (w : World) (x : Str) (t : Tok) (hx : x.length ≤ 60) (hpw : PowOk (sgs x)) : Meets w 243 4 32 [.str x t] (OutTr (ntree (sgs x))) := by
 refine (?fZ : PullF _) ?pZ ?qZ ?hZ
 case fZ => exact fun _ q _ => q
 case pZ =>
  unfold Meets
  k_fill
  intro p loose mean mg mb dp un gd cn cs a ccd cl outer A₀ base h₀ L m news s Q E hrw B F X N T hk hd hu hret
  clear hrw
  refine wpAny_call ?_
  k_dflt cell_enter
  have hsl : sgs (Txt.slice x (some ((0 + (run (sgs x) 0).length : Nat) : Int)) (some (((0 + (run (sgs x) 0).length : Nat) : Int) + 1))) = at1 (sgs x) (frontA (sgs x)) := slice_at1 _ rfl rfl
  have hx0 : x.length ≤ 1048576 := Nat.le_trans hx (by decide)
  have f0 := run_len60 0 hx
  have f1 := run_len60 (0 + (run (sgs x) 0).length + 1) hx
  have f2 := natAbs_pow10 _ f1
  have f3 := natAbs_nat _ (val_run_lt hx 0)
  (repeat' (first | ((fail_if_success (with_reducible show wpAny _ _ (exec (Stmt.If (Expr.Compare _ [CmpOp.Eq] _ _) _ _ _) _) _ _ _)); (first | (k_here; (with_reducible show wpAny _ _ (call (Value.ref _) _) _ _ _); (first | ((with_reducible show wpAny _ _ (call (Value.ref 229) _) _ _ _); k_dflt (refine' useII (power_at _ _ _ _ _ ?p1 ?p2) ?k1 ?k2 ?k3 ?k4 ?k5 ?kK ?kd ?ku ?_; (case p1 => walk_at "up"); (case p2 => walk_at "up"); walk_at "u2"); intro D9 a9 b9 h9 tk9 F9 N9 l9; (try k_lt l9); walk_at "u3") | ((with_reducible show wpAny _ _ (call (Value.ref 222) _) _ _ _); k_dflt (refine' useIII (figures_at _ _ _ _ _ ?p1) ?k1 ?k2 ?k3 ?k4 ?k5 ?kK ?kd ?ku ?_; (case p1 => walk_at "up"); walk_at "u2"); intro D9 a9 b9 c9 h9 tk9 F9 N9 l9; (try k_lt l9); walk_at "u3") | ((with_reducible show wpAny _ _ (call (Value.ref 236) _) _ _ _); k_dflt (refine' useII (told_exactly _ _ _ _ _ ?p1) ?k1 ?k2 ?k3 ?k4 ?k5 ?kK ?kd ?ku ?_; (case p1 => walk_at "up"); walk_at "u2"); intro D9 a9 b9 h9 tk9 F9 N9 l9; (try k_lt l9); walk_at "u3"))) | walk_at "wk"))))
  · rename ([Str.ofString "", _].any _) = true => he
    have he := any2_t he
    rw [sgs_from, lit_nil, lit_pct] at he
    have hq : ntree (sgs x) = _ := if_pos he
    rw [hq] at hret
    exact Ret.made hret (by k_asm) (by k_asm) (by repeat' (first | exact sub_refl _ | refine sub_cons ?_)) (by k_mem) (by first | assumption | exact ktn_ltOf (by assumption) | exact ktn_ltOf (And.right (by assumption)) | exact ktn_ltOf (And.right (And.right (by assumption))) | exact ktn_ltOf (And.right (And.right (And.right (by assumption)))) | exact ktn_ltOf (And.right (And.right (And.right (And.right (by assumption))))) | exact ktn_ltOf (And.right (And.right (And.right (And.right (And.right (by assumption)))))) | exact ktn_ltOf (And.right (And.right (And.right (And.right (And.right (And.right (by assumption))))))) | exact ktn_ltOf (And.right (And.right (And.right (And.right (And.right (And.right (And.right (by assumption)))))))) | exact ktn_ltOf (And.right (And.right (And.right (And.right (And.right (And.right (And.right (And.right (by assumption))))))))) | exact ktn_ltOf (And.right (And.right (And.right (And.right (And.right (And.right (And.right (And.right (And.right (by assumption)))))))))) | exact ktn_ltOf (And.right (And.right (And.right (And.right (And.right (And.right (And.right (And.right (And.right (And.right (by assumption))))))))))) | exact ktn_ltOf (And.right (And.right (And.right (And.right (And.right (And.right (And.right (And.right (And.right (And.right (And.right (by assumption))))))))))))) ⟨_, _, _, rfl, rfl⟩
  rename ([Str.ofString "", _].any _) = false => he
  have he := any2_f he
  rw [sgs_from, lit_nil, lit_pct] at he
  have hq : ntree (sgs x) = _ := if_neg (by intro h; rcases h with h | h; (exact he.1 h); (exact he.2 h))
  rw [hq] at hret
  clear hq he
  obtain ⟨b1, hb1⟩ : ∃ b : Nat, b = if at1 (sgs x) (frontA (sgs x)) = [46] then val (dotR (sgs x)) else 0 := ⟨_, rfl⟩
  have hN : numN (sgs x) = val (run (sgs x) 0) * 10 ^ numP (sgs x) + b1 := by
    rw [hb1]
    unfold numN numP
    split <;> simp
  have hP60 : numP (sgs x) ≤ 60 := by
    unfold numP
    split
    · exact f1
    · omega
  have f4 := natAbs_pow10 _ hP60
  have hnl := numN_lt hx
  rename Fr _ _ _ _ => FF
  rename News _ _ _ _ => NN
  k_dflt (refine cut_put3 (x := Str.ofString "at") (y := Str.ofString "places") (z := Str.ofString "behind") (K1 := ((numA (sgs x) : Nat) : Int)) (K2 := ((numP (sgs x) : Nat) : Int)) (K3 := ((b1 : Nat) : Int)) FF NN ?cu ?re)
  case' cu =>
    (repeat' (first | (k_here; (with_reducible show wpAny _ _ (call (Value.ref _) _) _ _ _); (first | ((with_reducible show wpAny _ _ (call (Value.ref 229) _) _ _ _); k_dflt (refine' useII (power_at _ _ _ _ _ ?p1 ?p2) ?k1 ?k2 ?k3 ?k4 ?k5 ?kK ?kd ?ku ?_; (case p1 => walk_at "up"); (case p2 => walk_at "up"); walk_at "u2"); intro D9 a9 b9 h9 tk9 F9 N9 l9; (try k_lt l9); walk_at "u3") | ((with_reducible show wpAny _ _ (call (Value.ref 222) _) _ _ _); k_dflt (refine' useIII (figures_at _ _ _ _ _ ?p1) ?k1 ?k2 ?k3 ?k4 ?k5 ?kK ?kd ?ku ?_; (case p1 => walk_at "up"); walk_at "u2"); intro D9 a9 b9 c9 h9 tk9 F9 N9 l9; (try k_lt l9); walk_at "u3") | ((with_reducible show wpAny _ _ (call (Value.ref 236) _) _ _ _); k_dflt (refine' useII (told_exactly _ _ _ _ _ ?p1) ?k1 ?k2 ?k3 ?k4 ?k5 ?kK ?kd ?ku ?_; (case p1 => walk_at "up"); walk_at "u2"); intro D9 a9 b9 h9 tk9 F9 N9 l9; (try k_lt l9); walk_at "u3"))) | walk_at "wk"))
    · rename (_ == Str.ofString ".") = true => hd
      have hd := eq_of_beq hd
      have hd : at1 (sgs x) (frontA (sgs x)) = [46] := by rw [← hsl, hd]; exact lit_dot
      have h2 : numP (sgs x) = _ := if_pos hd
      have h3 : numA (sgs x) = _ := if_pos hd
      rw [if_pos hd] at hb1
      exact CutP3.mk (by k_asm) (by rw [h3]; (try rfl)) (by rw [h2]; (try rfl)) (by rw [hb1]; (try rfl)) (by k_asm) (by repeat' (first | exact sub_refl _ | refine sub_cons ?_))
    · rename (_ == Str.ofString ".") = false => hd
      have hd := ne_of_beq_false hd
      have hd : at1 (sgs x) (frontA (sgs x)) ≠ [46] := by
        intro z
        rw [← hsl, ← lit_dot] at z
        exact hd (str_eq z)
      have h2 : numP (sgs x) = _ := if_neg hd
      have h3 : numA (sgs x) = _ := if_neg hd
      rw [if_neg hd] at hb1
      exact CutP3.same (by k_asm) rfl rfl rfl (by rw [h3]; (try rfl)) (by rw [h2]; (try rfl)) (by rw [hb1]; (try rfl)) (by k_asm) (by repeat' (first | exact sub_refl _ | refine sub_cons ?_))
  case' re =>
    intro tA tB tC h7 tk7 F7 N7
    clear FF NN
    (try dsimp only at F7)
    (try dsimp only)
    clear hb1
    generalize numA (sgs x) = a1 at hret F7
    generalize numN (sgs x) = n1 at hret hN hnl
    generalize numP (sgs x) = p1 at hret hN hP60 f4 F7
    (repeat' (first | ((fail_if_success (with_reducible show wpAny _ _ (call (Value.ref 236) _) _ _ _)); (first | (k_here; (with_reducible show wpAny _ _ (call (Value.ref _) _) _ _ _); (first | ((with_reducible show wpAny _ _ (call (Value.ref 229) _) _ _ _); k_dflt (refine' useII (power_at _ _ _ _ _ ?p1 ?p2) ?k1 ?k2 ?k3 ?k4 ?k5 ?kK ?kd ?ku ?_; (case p1 => walk_at "up"); (case p2 => walk_at "up"); walk_at "u2"); intro D9 a9 b9 h9 tk9 F9 N9 l9; (try k_lt l9); walk_at "u3") | ((with_reducible show wpAny _ _ (call (Value.ref 222) _) _ _ _); k_dflt (refine' useIII (figures_at _ _ _ _ _ ?p1) ?k1 ?k2 ?k3 ?k4 ?k5 ?kK ?kd ?ku ?_; (case p1 => walk_at "up"); walk_at "u2"); intro D9 a9 b9 c9 h9 tk9 F9 N9 l9; (try k_lt l9); walk_at "u3") | ((with_reducible show wpAny _ _ (call (Value.ref 236) _) _ _ _); k_dflt (refine' useII (told_exactly _ _ _ _ _ ?p1) ?k1 ?k2 ?k3 ?k4 ?k5 ?kK ?kd ?ku ?_; (case p1 => walk_at "up"); walk_at "u2"); intro D9 a9 b9 h9 tk9 F9 N9 l9; (try k_lt l9); walk_at "u3"))) | walk_at "wk"))))
    k_dflt (refine' useII ((told_exactly w n1 ((powerAt (sgs x) a1).1 - (p1 : Nat)) _ _ hnl).of_eq ?e) ?k1 ?k2 ?k3 ?k4 ?k5 ?kK ?kd ?ku ?_; (case e => (refine args2 ?g1 rfl; (case g1 => (rw [hN, pow10_int, Int.natCast_add, Int.natCast_mul]; (try rfl))))); (case k1 => k_asm); (case k2 => k_asm); (case k3 => k_asm); (case k4 => k_asm); (case k5 => k_asm); (case kK => first | exact rfl | assumption); (case kd => ktr_room); (case ku => ktr_units); k_whole)
    intro D9 a9 b9 h9 tk9 F9 N9 l9
    (try k_lt l9)
    (try k_sweep); (try dsimp only); (try k_fold)
    (repeat' (first | ((fail_if_success (first | (with_reducible show wpAny _ _ (exec (Stmt.While _ _ _ _) _) _ _ _) | (with_reducible show wpAny _ _ (exec (Stmt.Raise _ _ _) _) _ _ _) | (with_reducible show WhStep _ _ _ _ _ _ _ _ _ _ _))); (first | (k_here; (with_reducible show wpAny _ _ (call (Value.ref _) _) _ _ _); (first | ((with_reducible show wpAny _ _ (call (Value.ref 229) _) _ _ _); k_dflt (refine' useII (power_at _ _ _ _ _ ?p1 ?p2) ?k1 ?k2 ?k3 ?k4 ?k5 ?kK ?kd ?ku ?_; (case p1 => walk_at "up"); (case p2 => walk_at "up"); walk_at "u2"); intro D9 a9 b9 h9 tk9 F9 N9 l9; (try k_lt l9); walk_at "u3") | ((with_reducible show wpAny _ _ (call (Value.ref 222) _) _ _ _); k_dflt (refine' useIII (figures_at _ _ _ _ _ ?p1) ?k1 ?k2 ?k3 ?k4 ?k5 ?kK ?kd ?ku ?_; (case p1 => walk_at "up"); walk_at "u2"); intro D9 a9 b9 c9 h9 tk9 F9 N9 l9; (try k_lt l9); walk_at "u3") | ((with_reducible show wpAny _ _ (call (Value.ref 236) _) _ _ _); k_dflt (refine' useII (told_exactly _ _ _ _ _ ?p1) ?k1 ?k2 ?k3 ?k4 ?k5 ?kK ?kd ?ku ?_; (case p1 => walk_at "up"); walk_at "u2"); intro D9 a9 b9 h9 tk9 F9 N9 l9; (try k_lt l9); walk_at "u3"))) | walk_at "wk"))))
    exact Ret.made2 hret (by k_asm) (by k_asm) (by repeat' (first | exact sub_refl _ | refine sub_cons ?_)) (by k_mem) (D2 := D9) (by k_mem) (by first | assumption | exact ktn_ltOf (by assumption) | exact ktn_ltOf (And.right (by assumption)) | exact ktn_ltOf (And.right (And.right (by assumption))) | exact ktn_ltOf (And.right (And.right (And.right (by assumption)))) | exact ktn_ltOf (And.right (And.right (And.right (And.right (by assumption))))) | exact ktn_ltOf (And.right (And.right (And.right (And.right (And.right (by assumption)))))) | exact ktn_ltOf (And.right (And.right (And.right (And.right (And.right (And.right (by assumption))))))) | exact ktn_ltOf (And.right (And.right (And.right (And.right (And.right (And.right (And.right (by assumption)))))))) | exact ktn_ltOf (And.right (And.right (And.right (And.right (And.right (And.right (And.right (And.right (by assumption))))))))) | exact ktn_ltOf (And.right (And.right (And.right (And.right (And.right (And.right (And.right (And.right (And.right (by assumption)))))))))) | exact ktn_ltOf (And.right (And.right (And.right (And.right (And.right (And.right (And.right (And.right (And.right (And.right (by assumption))))))))))) | exact ktn_ltOf (And.right (And.right (And.right (And.right (And.right (And.right (And.right (And.right (And.right (And.right (And.right (by assumption))))))))))))) (by first | assumption | exact ktn_ltOf (by assumption) | exact ktn_ltOf (And.right (by assumption)) | exact ktn_ltOf (And.right (And.right (by assumption))) | exact ktn_ltOf (And.right (And.right (And.right (by assumption)))) | exact ktn_ltOf (And.right (And.right (And.right (And.right (by assumption))))) | exact ktn_ltOf (And.right (And.right (And.right (And.right (And.right (by assumption)))))) | exact ktn_ltOf (And.right (And.right (And.right (And.right (And.right (And.right (by assumption))))))) | exact ktn_ltOf (And.right (And.right (And.right (And.right (And.right (And.right (And.right (by assumption)))))))) | exact ktn_ltOf (And.right (And.right (And.right (And.right (And.right (And.right (And.right (And.right (by assumption))))))))) | exact ktn_ltOf (And.right (And.right (And.right (And.right (And.right (And.right (And.right (And.right (And.right (by assumption)))))))))) | exact ktn_ltOf (And.right (And.right (And.right (And.right (And.right (And.right (And.right (And.right (And.right (And.right (by assumption))))))))))) | exact ktn_ltOf (And.right (And.right (And.right (And.right (And.right (And.right (And.right (And.right (And.right (And.right (And.right (by assumption))))))))))))) ⟨_, D9, _, _, _, rfl, rfl, And.left (by assumption)⟩
 case hZ => delta id; exact pair_ _

/-! BasicError: made, raised, left, caught -/
noncomputable abbrev exCls : Obj := excClassObj (Str.ofString "BasicError") (Str.ofString "BasicError") 34 33 [.type "Exception"] [.type "Exception", .type "BaseException", .type "object"] true [] [] false none none (some (.ref 15)) none (some (.str (Str.ofString "BasicError") 191)) (some (.str (Str.ofString "BasicError") 199)) (some (.bool true)) "Exception.__new__"
theorem cls34 (w : World) : (Mine.K w.params).lookup 34 = some exCls := by kernel_rfl
noncomputable abbrev excO (t : Addr) : Obj := { cls := .ref 34, data := .fields #[.ref t, .none, .none, .none, .bool false, .none] }
set_option maxHeartbeats 4000000 in
theorem exc_core {w : World} {A : Around} {R : Result → Shared → Prop} {h : Heap} {g : Array GenState} {d : Drawn} {t : Nat} {os : OsState} {v : Value} (X : (Mine.K w.params).In h)
    (hi : Looks (model prg w) h (typeLookup (.ref 34) "__init__") (some (.ref 31))) (hb : ∀ self, Looks (model prg w) h (bindSpecial (.ref 31) self) (.ref 31, [self]))
    (hq : codeAny (model prg w) (A.under (.builtin "type.__call__" ⟨[.ref 34, v], []⟩)) (.call (.ref 31) ⟨[.ref (h.objs.size + 1), v], []⟩) (InitBack (h.objs.size + 1) R)
      ⟨(h.push { cls := .type "tuple", data := .seq [v].toArray }).push (excO h.objs.size), g, d, t, os⟩) :
    codeAny (model prg w) A (.call (.ref 34) ⟨[v], []⟩) R ⟨h, g, d, t, os⟩ := by
  have hC : h.get? 34 = some exCls := X _ _ (cls34 w)
  have f1 := tc_lookup
  have f2 := tc_bind (.ref 34)
  have hT : (⟨h, g, d, t, os⟩ : Shared).TypeIs (.ref 34) "type" := ⟨_, hC, rfl⟩
  have F := F.excBase_Exception
  refine codeAny_of_tree ?_
  show wpAny _ _ (callAny (.ref 34) _) _ _ _
  repeat (any_goals (first | assumption | with_reducible refine wpAny_loadPart_at hC ?_ | wp_step))
  refine ⟨rfl, ?_⟩
  refine codeAny_call_builtin_at (Code.quiet_builtin _ (by decide +kernel)) entry_typeCall (wpAny_check_type_call_sub hC ?_)
  repeat (first | with_reducible refine wpAny_loadPart_at hC ?_ | with_reducible refine wpAny_madeBy_exc hC ?_ | wp_step)
  refine codeAny_call_builtin_code (Code.quiet_builtin _ F.quiet) (wpAny_check_new_sub F hC ?_)
  refine codeAny_exc_new_sub F hC ?_ (show 1 ≤ sizeLine by decide)
  show wpAny _ _ _ _ _ (⟨(h.push { cls := .type "tuple", data := .seq [v].toArray }).push (excO h.objs.size), g, d, t, os⟩ : Shared)
  have k : ∀ b o, h.get? b = some o → ((h.push { cls := .type "tuple", data := .seq [v].toArray }).push (excO h.objs.size)).get? b = some o := fun b o e => Heap.get?_push_of_some _ (Heap.get?_push_of_some _ e)
  have hx : ((h.push { cls := .type "tuple", data := .seq [v].toArray }).push (excO h.objs.size)).get? (h.objs.size + 1) = some (excO h.objs.size) := by heap_get
  have t1 : Looks (model prg w) ((h.push { cls := .type "tuple", data := .seq [v].toArray }).push (excO h.objs.size)) (typeOf (.ref (h.objs.size + 1))) (.ref 34) := (Looks.ld hx).andThen .now
  have s1 : Looks (model prg w) ((h.push { cls := .type "tuple", data := .seq [v].toArray }).push (excO h.objs.size)) (isSubtype (.ref 34) (.ref 34)) true := (looks_mroIn X (by kernel_rfl)).keeps k
  have i1 := hi.keeps k
  have b1 := (hb (.ref (h.objs.size + 1))).keeps k
  unfold isInstance callSpecial? specialOf
  repeat (first | with_reducible refine wpAny_call ?_ | lk)
  refine codeAny_mono hq fun r s' z => ?_
  rcases r with e | (v | _ | _ | _) <;> first | exact z | exact z.elim | skip
  obtain ⟨rfl, z⟩ := z
  exact wpAny_pure (wpAny_pure z)
theorem exc_make {w : World} {A : Around} {R : Result → Shared → Prop} {s : Shared} {h₀ : Heap} {L : Addr} {m : Str → Option Value} {news : Led} {v : Value} (F : Fr h₀ L s.heap m) (N : News h₀ L s.heap news) (X₀ : (Mine.K w.params).In h₀)
    (h : ∀ e t h', Fr h₀ L h' m → News h₀ L h' ((e, excO t) :: (t, tup [v]) :: news) → (∀ p ∈ news, p.1 < t) → t < e →
      codeAny (model prg w) (A.under (.builtin "type.__call__" ⟨[.ref 34, v], []⟩)) (.call (.ref 31) ⟨[.ref e, v], []⟩) (InitBack e R) { s with heap := h' }) :
    codeAny (model prg w) A (.call (.ref 34) ⟨[v], []⟩) R s := by
  have X := X₀.keeps F.keep
  obtain ⟨hh, g, d, t, os⟩ := s
  refine exc_core X (looks_findIn X (by kernel_rfl)) (fun self => bind_fn X self (by kernel_rfl)) (h _ hh.objs.size _ ((F.push _).push _) ?_ (fun p hp => Heap.lt_size (N p hp).1) (Nat.lt_succ_self _))
  have := (N.push F (tup [v])).push (F.push _) (excO hh.objs.size)
  rwa [Heap.size_push] at this

theorem slot_wd_get : Slot "wrapper_descriptor" "__get__" "wrapper_descriptor.__get__" := .of (owner := "wrapper_descriptor") (n := "__get__") (by rw [typeLookup_type, builtinLookup_eq_fast]; kernel_rfl) (by decide +kernel) (by decide +kernel) (by decide +kernel) (by first | exact .inl (by decide +kernel) | exact .inr (by decide +kernel)) (by rw [isSubtype_type]; kernel_rfl)
theorem entry_wd_get : entryFor table "wrapper_descriptor.__get__" = some Builtin.«wrapper_descriptor.__get__» := entryFor_of_tree (by kernel_rfl)
theorem args_wd_get (a b c : Value) : argsOk "wrapper_descriptor.__get__" ⟨[a, b, c], []⟩ := by unfold argsOk; kernel_rfl
theorem type_exc_init : typeOf (.builtin "Exception.__init__") = pure (.type "wrapper_descriptor") := by kernel_rfl
theorem owner_exc_init : (".".intercalate ("Exception.__init__".cutAt '.').dropLast) = "Exception" := by
  have e0 : "Exception.__init__".cutAt '.' = ["Exception", "__init__"] := by first | rfl | decide +kernel
  rw [e0]; decide +kernel
noncomputable abbrev mwO (e : Addr) : Obj := { cls := .type "method-wrapper", data := .fields #[.builtin "Exception.__init__", .ref e] }
section
variable {w : World} {A : Around} {E : Value → Shared → Prop} {h : Heap} {g : Array GenState} {d : Drawn} {t : Nat} {os : OsState}
set_option maxHeartbeats 400000 in
theorem super_ga {so x : Addr} {ox : Obj} {tk : Tok} {name : Str} {Q : Fin → Shared → Prop} (X : (Mine.K w.params).In h)
    (hso : h.get? so = some (ks_superObj 34 x 34)) (hx : h.get? x = some ox) (hxc : ox.cls = .ref 34) (hxC : x ≠ 34)
    (hf : alongIn (Mine.K w.params) name [.type "Exception", .type "BaseException", .type "object"] = some (some (.builtin "Exception.__init__"))) (hn : (name == ("__class__" : Str)) = false)
    (hq : Q (.done (.ret (.ref h.objs.size))) ⟨h.push (mwO x), g, d, t, os⟩) :
    wpAny (model prg w) A (Builtin.«super.__getattribute__» ⟨[.ref so, .str name tk], []⟩) Q E ⟨h, g, d, t, os⟩ := by
  have hC : h.get? 34 = some exCls := X _ _ (cls34 w)
  have hlk := slot_wd_get.lookup
  have hne : (Value.ref x == Value.ref 34) = false := by simp [hxC]
  have hTf : (⟨h, g, d, t, os⟩ : Shared).TypeIs (.builtin "Exception.__init__") "wrapper_descriptor" := type_exc_init
  have hno : Looks (model prg w) h (opaqueClassAbove (.ref 34)) none := looks_opaque X (by kernel_rfl)
  have hm : Looks (model prg w) h (mroOf (.ref 34)) [.ref 34, .type "Exception", .type "BaseException", .type "object"] := ((Looks.ld (part := none) hC).andThen .now).andThen .now
  have hdt : (ks_superObj 34 x 34).data = .fields #[.ref 34, .ref x, .ref 34] := rfl
  have f0 : (#[.ref 34, .ref x, .ref 34] : Array Value)[0]? = some (.ref 34) := rfl
  have f1 : (#[.ref 34, .ref x, .ref 34] : Array Value)[1]? = some (.ref x) := rfl
  have f2 : (#[.ref 34, .ref x, .ref 34] : Array Value)[2]? = some (.ref 34) := rfl
  have hl : (([.ref 34, .type "Exception", .type "BaseException", .type "object"] : List Value).dropWhile (· != .ref 34)).drop 1 = [.type "Exception", .type "BaseException", .type "object"] := by decide +kernel
  unfold Builtin.«super.__getattribute__»
  repeat (first
    | (with_reducible refine wpAny_field hso hdt f0 ?_) | (with_reducible refine wpAny_field hso hdt f1 ?_) | (with_reducible refine wpAny_field hso hdt f2 ?_)
    | (with_reducible refine ks_wpAny_notOpaque hno ?_)
    | (with_reducible refine Looks.at hm ?_; rw [hl])
    | (refine ks_forIn_along X (fun _ _ => rfl) rfl ?_ hf)
    | (with_reducible refine wpAny_typeOf hTf ?_)
    | (with_reducible refine wpAny_call_entry slot_wd_get hTf entry_wd_get ?_ (args_wd_get _ _ _))
    | (simp only [hn, hne, Bool.or_false, Bool.false_eq_true, if_false])
    | wp_step
    | dsimp only)
  rw [hxc, owner_exc_init]
  refine wpAny_isSubtype_exc hC ?_
  rw [show ((Value.ref 34 :: [.type "Exception", .type "BaseException", .type "object"]).contains (.type "Exception")) = true from by decide +kernel]
  repeat (first | (with_reducible refine ⟨_, rfl, ?_⟩) | wp_step | dsimp only)
  all_goals exact hq
set_option maxHeartbeats 4000000 in
theorem super_method {so x : Addr} {ox : Obj} {name : Str} {pl : Sem Bool} {Q : Value × List Value → Shared → Prop} (X : (Mine.K w.params).In h)
    (hso : h.get? so = some (ks_superObj 34 x 34)) (hx : h.get? x = some ox) (hxc : ox.cls = .ref 34) (hxC : x ≠ 34) (hf : alongIn (Mine.K w.params) name [.type "Exception", .type "BaseException", .type "object"] = some (some (.builtin "Exception.__init__"))) (hn : (name == ("__class__" : Str)) = false)
    (hq : Q (.ref h.objs.size, []) ⟨h.push (mwO x), g, d, t + 1, os⟩) :
    wpAny (model prg w) A (getMethod (.ref so) name pl) Q E ⟨h, g, d, t, os⟩ := by
  have hlk := F.ks_slot_super_ga.lookup
  have hcan := F.ks_canon_super_ga
  have hT : ∀ t', (⟨h, g, d, t', os⟩ : Shared).TypeIs (.ref so) "super" := fun _ => ⟨_, hso, rfl⟩
  unfold getMethod
  refine wpAny_bind (wpAny_specialOf (hT _) hlk ?_)
  show wpAny _ _ (if (Manifest.canonical "super.__getattribute__" != "object.__getattribute__") = true then _ else _) _ _ _
  rw [if_pos hcan]
  unfold getAttr getAttrBy
  refine wpAny_bind (wpAny_bind (wpAny_mkText (wpAny_holding (wpAny_bind (wpAny_typeOf (hT _) (wpAny_bind (wpAny_of_eq hlk ?_)))))))
  show wpAny _ _ (getAttrByItsOwn (.ref so) (.str name t) (.type "super") (.builtin "super.__getattribute__") true false) _ _ _
  unfold getAttrByItsOwn hookBefore callGetattribute boundAndCalled
  refine wpAny_bind (wpAny_of_eq (show (if onTheHeap (.type "super") then typeLookup (.type "super") "__getattr__" else pure none) = pure none from rfl) ?_)
  refine wpAny_bind (wpAny_attempt (wpAny_holding ?_))
  show wpAny _ _ (bindSpecial (.builtin "super.__getattribute__") (.ref so) >>= _) _ _ _
  refine wpAny_bind (wpAny_of_eq (F.ks_slot_super_ga.bind _) ?_)
  refine wpAny_mono (Q := fun v s' => v = .ref h.objs.size ∧ s' = ⟨h.push (mwO x), g, d, t + 1, os⟩) (E := fun _ _ => False)
    (wpAny_call_entry F.ks_slot_super_ga (hT _) F.ks_entry_super_ga (super_ga X hso hx hxc hxC hf hn ⟨_, rfl, rfl, rfl⟩) (F.ks_gaArgs_super _ _)) (fun v s' hv => ?_) fun _ _ z => z.elim
  obtain ⟨rfl, rfl⟩ := hv
  exact wpAny_pure (wpAny_pure hq)
end

section
variable {w : World} {M : Model} {A : Around} {E : Value → Shared → Prop} {s : Shared} {h : Heap} {g : Array GenState} {d : Drawn} {t : Nat} {os : OsState}
theorem callWith_mwF {pos : Pos} {u x : Addr} {first : List Value} {args : List (Bool × Sem Value)} {Q : Value → Shared → Prop} (hplain : args.any (·.1) = false)
    (h : wpAny M A (evalArgs (.ref u) true args []) (fun y s₁ => s₁.heap.get? u = some (mwO x) ∧ wpAny M A (call (.ref u) (first ++ y.pos) y.kw) Q E s₁) E s) : wpAny M A (callWith pos (.ref u) first args []) Q E s := by
  unfold callWith
  refine wpAny_bind (wpAny_holding (wpAny_mono h (fun y s₁ h₁ => wpAny_bind (wpAny_standAt ?_)) fun _ _ x => x))
  obtain ⟨ho, hcall⟩ := h₁
  simp only [hplain, List.any_nil, Bool.or_false]
  refine wpAny_bind (m := keeperOf (.ref u)) ?_
  unfold keeperOf
  refine wpAny_bind (wpAny_load ho ?_)
  simp only [show (Value.type "method-wrapper" != Value.type "method") = true by decide, show (Value.type "method-wrapper" == Value.type "builtin_function_or_method" || Value.type "method-wrapper" == Value.type "method-wrapper") = true by decide, if_true]
  refine wpAny_pure ?_
  exact wpAny_bind (wpAny_mono hcall (fun r s₂ hr => wpAny_bind (wpAny_holding (wpAny_point (wpAny_pure hr)))) fun _ _ x => x)
theorem callWith_mw {pos : Pos} {u x : Addr} {first : List Value} {env : Env} {e : Expr} {rest : List Expr} {Q : Value → Shared → Prop}
    (h : wpAny M A (spliced (backTo pos (starEach (e :: rest) env))) (fun vs s₁ => s₁.heap.get? u = some (mwO x) ∧ wpAny M A (call (.ref u) (first ++ vs)) Q E s₁) E s)
    (he : starEach (e :: rest) env = (false, eval e env) :: starEach rest env := by rfl) (hplain : (backTo pos (starEach rest env)).any (·.1) = false := by rfl) :
    wpAny M A (callWith pos (.ref u) first (backTo pos (starEach (e :: rest) env)) []) Q E s := by
  rw [he] at h ⊢
  refine callWith_mwF (x := x) (by show (false || (backTo pos (starEach rest env)).any (·.1)) = false; rw [hplain]; rfl) ?_
  exact evalArgs_plain h
theorem check_exc_init {e t1 : Addr} {v : Value} {Q : Unit → Shared → Prop} (hC : h.get? 34 = some exCls) (he : h.get? e = some (excO t1)) (hq : Q () ⟨h, g, d, t, os⟩) :
    wpAny (model prg w) A (checkBoundCall "Exception.__init__" ⟨[.ref e, v], []⟩) Q E ⟨h, g, d, t, os⟩ := by
  have F := F.excBase_Exception
  have hshort := F.noStar
  have hcls : (excO t1).cls = .ref 34 := rfl
  unfold checkBoundCall
  simp only [F.initRow, F.initKind, show (Manifest.AttrKind.slot != Manifest.AttrKind.method && Manifest.AttrKind.slot != Manifest.AttrKind.classMethod) = true from by decide, if_true]
  repeat (first | (with_reducible refine wpAny_loadPart_at he ?_; rw [hcls]) | with_reducible refine wpAny_loadPart_at hC ?_ | (with_reducible refine wpAny_isSubtype_exc hC ?_; rw [show ((Value.ref 34 :: [.type "Exception", .type "BaseException", .type "object"]).contains (.type "Exception")) = true from by decide +kernel]) | wp_step)
  exact hq
set_option maxHeartbeats 4000000 in
theorem call_mw {u e t1 : Addr} {v : Value} {Q : Value → Shared → Prop} (X : (Mine.K w.params).In h) (hu : h.get? u = some (mwO e)) (he : h.get? e = some (excO t1))
    (hq : ∀ h', h'.get? h.objs.size = some (tup [v]) → h'.get? e = some (excO h.objs.size) → (∀ b o, b ≠ e → h.get? b = some o → h'.get? b = some o) → h.objs.size < h'.objs.size → Q .none ⟨h', g, d, t, os⟩) :
    wpAny (model prg w) A (call (.ref u) [v]) Q E ⟨h, g, d, t, os⟩ := by
  have hC : h.get? 34 = some exCls := X _ _ (cls34 w)
  have F := F.excBase_Exception
  refine wpAny_call (codeAny_of_tree ?_)
  show wpAny _ A.in1 (callAny (.ref u) ⟨[v], []⟩) _ _ _
  simp only [callAny]
  refine wpAny_bind (wpAny_load hu ?_)
  simp only [show (Value.type "method-wrapper" == Value.type "method" || Value.type "method-wrapper" == Value.type "builtin_function_or_method" || Value.type "method-wrapper" == Value.type "method-wrapper") = true by decide, if_true]
  refine wpAny_bind (check_exc_init hC he (wpAny_pure ⟨Code.quiet_builtin _ (by decide +kernel), codeAny_builtin F.initEntry ?_⟩))
  unfold Builtin.«BaseException.__init__»
  wp_walk
  have ne : h.objs.size ≠ e := Nat.ne_of_gt (Heap.lt_size he)
  have he' : (h.push { cls := .type "tuple", data := .seq #[v] }).get? e = some (excO t1) := Heap.get?_push_of_some _ he
  refine hq _ ?_ ?_ (fun b o hb hb' => ?_) ?_
  · rw [Heap.get?_update_other _ _ (Ne.symm ne)]
    exact Heap.get?_push_size h rfl
  · exact Heap.get?_update_self _ he' rfl
  · rw [Heap.get?_update_other _ _ (Ne.symm hb)]
    exact Heap.get?_push_of_some _ hb'
  · rw [Heap.size_after_update, Heap.size_push]
    exact Nat.lt_succ_self _
end

section
variable {w : World} {A : Around} {R : Result → Shared → Prop} {E : Value → Shared → Prop} {h : Heap} {g : Array GenState} {d : Drawn} {t : Nat} {os : OsState}
theorem osa_exc {e : Addr} {oe : Obj} {od : Option Obj} {name : Str} {tk : Tok} {v : Value} (X : (Mine.K w.params).In h) (I : InstAt h e oe 34 od)
    (hf : findIn (Mine.K w.params) (.ref 34) name = some none)
    (hq : wpAny (model prg w) A.in1 (Builtin.ObjectAttr.storeInOwnDict (.ref e) (.ref 34) (.str name tk) name v false)
      (fun fin s' => match fin with | .done f => R (.ok f) s' | .again c' => c'.quiet = true ∧ codeAny (model prg w) A c' R s') (fun e s' => R (.error e) s') ⟨h, g, d, t, os⟩) :
    codeAny (model prg w) A (.call (.builtin "object.__setattr__") ⟨[.ref e, .str name tk, v], []⟩) R ⟨h, g, d, t, os⟩ := by
  have SF := PySem.F.store_Exception
  have sub : Looks (model prg w) h (isInstance (.ref e) (.type "object")) true := I.type.andThen (looks_mroIn X (by kernel_rfl))
  have hm : Looks (model prg w) h (mroOf (.ref 34)) [.ref 34, .type "Exception", .type "BaseException", .type "object"] := ((Looks.ld (part := none) (X _ _ (cls34 w))).andThen .now).andThen .now
  refine codeAny_call_builtin SF.slot.plain SF.entry (@check_slot (model prg w) _ _ ⟨h, g, d, t, os⟩ "object.__setattr__" "object" "__setattr__" (.ref e) [.str name tk, v] [] _ SF.kind SF.split sub (SF.args (.ref e) (.str name tk) v) ?_)
  rw [osa_eq, refuse_eq]
  refine wpAny_bind (wpAny_bind (I.type.here (wpAny_bind (hm.here ?_))))
  rw [refuseLoop_ref, SF.passes]
  refine wpAny_pure (wpAny_bind (I.type.here (wpAny_bind ((looks_findIn X hf).here ?_))))
  refine wpAny_bind (wpAny_pure (a := none) ?_)
  exact hq
theorem set_exc {e : Addr} {oe : Obj} {od : Option Obj} {name : Str} {v : Value} {Q : Unit → Shared → Prop} (X : (Mine.K w.params).In h) (I : InstAt h e oe 34 od)
    (hf : findIn (Mine.K w.params) (.ref 34) name = some none)
    (hq : ∀ A' tk', wpAny (model prg w) A' (Builtin.ObjectAttr.storeInOwnDict (.ref e) (.ref 34) (.str name tk') name v false)
      (fun fin s' => match fin with | .done (.ret _) => Q () s' | _ => False) (fun _ _ => False) ⟨h, g, d, t + 1, os⟩) :
    wpAny (model prg w) A (setAttr (.ref e) name v) Q E ⟨h, g, d, t, os⟩ := by
  refine set_plain (s := ⟨h, g, d, t, os⟩) X I (by kernel_rfl) (osa_exc X I hf (wpAny_mono (hq _ _) (fun fin s' z => ?_) fun _ _ z => z.elim))
  rcases fin with f | c
  · rcases f with _ | _ | _ | _ <;> first | exact z | exact z.elim
  · exact z.elim
theorem store0 {e : Addr} {oe : Obj} {name : Str} {tk : Tok} {v : Value} (X : (Mine.K w.params).In h) (he : h.get? e = some oe) (hc : oe.cls = .ref 34) (hdn : oe.dict = none) {vs : Array Value} (hdd : oe.data = .fields vs) {Q : Fin → Shared → Prop}
    (hq : ∀ h' tk', h'.get? e = some { oe with dict := some h.objs.size } → h'.Ns1 h.objs.size (fun y => if y = name then some v else none) →
      (∀ b o, b ≠ e → h.get? b = some o → h'.get? b = some o) → h.objs.size < h'.objs.size → Q (.done (.ret .none)) ⟨h', g, d, tk', os⟩) :
    wpAny (model prg w) A (Builtin.ObjectAttr.storeInOwnDict (.ref e) (.ref 34) (.str name tk) name v false) Q E ⟨h, g, d, t, os⟩ := by
  have hC : h.get? 34 = some exCls := X _ _ (cls34 w)
  unfold Builtin.ObjectAttr.storeInOwnDict
  repeat (first | (with_reducible refine wpAny_loadPart_at he ?_; rw [hc]) | (with_reducible refine wpAny_loadPart_at hC ?_) | wp_step)
  rw [hdn, if_neg (by simp [typeHasDict]), hdd]
  have hx₁ : (h.push { cls := .type "dict", data := .dict #[] }).get? e = some oe := Heap.get?_push_of_some _ he
  have hxs : e ≠ h.objs.size := Nat.ne_of_lt (Heap.lt_size he)
  refine wpAny_bind (wpAny_alloc ?_)
  refine wpAny_bind (wpAny_update hx₁ ?_)
  refine wpAny_pure ?_
  have hgd : ((h.push { cls := .type "dict", data := .dict #[] }).update e fun o => { cls := o.cls, dict := some h.objs.size, data := o.data, slots := o.slots }).get? h.objs.size
      = some { cls := .type "dict", data := .dict #[] } := (Heap.get?_update_ne _ _ _ _ hxs.symm).trans (Heap.get?_push_at rfl rfl)
  have hnd : ((h.push { cls := .type "dict", data := .dict #[] }).update e fun o => { cls := o.cls, dict := some h.objs.size, data := o.data, slots := o.slots }).Ns h.objs.size (fun _ => none) :=
    ⟨_, #[], _, hgd, rfl, fun e he => absurd he (by simp), fun _ => rfl⟩
  show wpAny _ _ (Builtin.ObjectAttr.storeInDict h.objs.size (.str name tk) name v) _ _ _
  unfold Builtin.ObjectAttr.storeInDict Builtin.ObjectAttr.newKeyGuard
  refine wpAny_bind (wpAny_pure (wpAny_bind (wpAny_nsSet1 (Heap.Ns1.of_empty hnd) fun h' hn' hs => ?_)))
  obtain ⟨oD, esD, epD, hoD, hdD, hcD⟩ := hn'.count (Within.cons name v Within.nil)
  refine wpAny_bind (wpAny_lookBehind hoD (by rw [hdD]; exact pastItsLine_dict (Nat.le_trans hcD (by rw [List.length_cons, List.length_nil, sizeLine_eq]; omega))) ?_)
  refine wpAny_pure (hq h' _ ?_ hn' (fun b ob hbx hb => ?_) ?_)
  · refine (hs.2 e hxs).trans (Heap.get?_update_self _ hx₁ ?_)
    obtain ⟨oc, od, odt, osl⟩ := oe
    dsimp only at hdd
    subst hdd
    rfl
  · exact (hs.2 b (Nat.ne_of_lt (Heap.lt_size hb))).trans ((Heap.get?_update_ne _ _ _ _ hbx).trans (Heap.get?_push_of_some _ hb))
  · rw [hs.1, Heap.size_after_update, Heap.size_push]
    exact Nat.lt_succ_self _
theorem store1 {e dx : Addr} {oe : Obj} {name : Str} {tk : Tok} {v : Value} {mA : Str → Option Value} {ns : List Str} (X : (Mine.K w.params).In h) (he : h.get? e = some oe) (hc : oe.cls = .ref 34) (hdn : oe.dict = some dx) (hns : h.Ns1 dx mA) {vs : Array Value} (hdd : oe.data = .fields vs) {Q : Fin → Shared → Prop}
    (hw : Within mA ns) (hsz : ns.length ≤ 1000)
    (hq : ∀ h' tk', h'.Ns1 dx (fun y => if y = name then some v else mA y) → Heap.SameBut dx h h' → Q (.done (.ret .none)) ⟨h', g, d, tk', os⟩) :
    wpAny (model prg w) A (Builtin.ObjectAttr.storeInOwnDict (.ref e) (.ref 34) (.str name tk) name v false) Q E ⟨h, g, d, t, os⟩ := by
  have hC : h.get? 34 = some exCls := X _ _ (cls34 w)
  unfold Builtin.ObjectAttr.storeInOwnDict
  repeat (first | (with_reducible refine wpAny_loadPart_at he ?_; rw [hc]) | (with_reducible refine wpAny_loadPart_at hC ?_) | wp_step)
  rw [hdn]
  refine wpAny_pure ?_
  show wpAny _ _ (Builtin.ObjectAttr.storeInDict dx (.str name tk) name v) _ _ _
  unfold Builtin.ObjectAttr.storeInDict Builtin.ObjectAttr.newKeyGuard
  refine wpAny_bind (wpAny_pure (wpAny_bind (wpAny_nsSet1 hns fun h' hn' hs => ?_)))
  obtain ⟨oD, esD, epD, hoD, hdD, hcD⟩ := hn'.count (Within.cons name v hw)
  refine wpAny_bind (wpAny_lookBehind hoD (by rw [hdD]; exact pastItsLine_dict (Nat.le_trans hcD (by rw [List.length_cons, sizeLine_eq]; omega))) ?_)
  exact wpAny_pure (hq h' _ hn' hs)
end
theorem fr_but {h₀ h h' : Heap} {L e : Addr} {m : Str → Option Value} (F : Fr h₀ L h m) (k : ∀ b o, b ≠ e → h.get? b = some o → h'.get? b = some o) (hL : e ≠ L) (hn : h₀.get? e = none) : Fr h₀ L h' m := by
  obtain ⟨oL, a1, a2, hoL, a3⟩ := F.ns
  refine ⟨⟨oL, a1, a2, k L _ hL.symm hoL, a3⟩, fun b x q => k b x ?_ (F.keep b x q), F.above⟩
  rintro rfl
  rw [hn] at q
  cases q
theorem news_but {h₀ h h' : Heap} {L e : Addr} {news : Led} (N : News h₀ L h news) (k : ∀ b o, b ≠ e → h.get? b = some o → h'.get? b = some o) (hn : ∀ q ∈ news, q.1 ≠ e) : News h₀ L h' news :=
  fun q hq => ⟨k _ _ (hn q hq) (N q hq).1, (N q hq).2⟩
theorem news_cons {h₀ h : Heap} {L : Addr} {news : Led} {q : Addr × Obj} (hq : h.get? q.1 = some q.2 ∧ q.1 ≠ L ∧ h₀.get? q.1 = none) (N : News h₀ L h news) : News h₀ L h (q :: news) := fun p hp => by
  rcases List.mem_cons.mp hp with rfl | hp
  · exact hq
  · exact N p hp
noncomputable abbrev exD (t dx : Addr) : Obj := { cls := .ref 34, dict := some dx, data := .fields #[.ref t, .none, .none, .none, .bool false, .none] }
noncomputable abbrev codeNs (x : Str) (t0 : Tok) (y : Str) : Option Value := if y = "told" then some (.str (Str.ofString "") 203) else if y = "code" then some (.str x t0) else none

set_option maxHeartbeats 4000000 in
theorem exc_init {w : World} {p : Program} {loose : List Str} {mean : ExcName → Option Value} {mg mb : Str → Option Value} {A A₀ : Around} {base h₀ : Heap} {outer : List Env} {env : Env} {L : Addr} {m : Str → Option Value} {news : Led} {s : Shared} {R : Result → Shared → Prop} {e t : Addr} {x : Str} {t0 : Tok}
    (B : Below A₀ base outer h₀) (F : Fr h₀ L s.heap m) (X₀ : (Mine.K w.params).In h₀) (N : News h₀ L s.heap ((e, excO t) :: (t, tup [.str x t0]) :: news)) (T : Top p loose mean mg mb h₀) (hA : A.frames = some (env :: outer)) (hf : env.frame = some L) (hke : env.scope.kind = .function)
    (hroom : A.depth < recursionLimit) (hun : A.units < cLine - 100) (hAh : A.handled = none) (l0 : ∀ p ∈ news, p.1 < t) (l2 : t < e)
    (h : ∀ h' tk' t2 dx oD, Fr h₀ L h' m → News h₀ L h' ((e, exD t2 dx) :: (dx, oD) :: (t2, tup [.str x t0]) :: news) → h'.Ns1 dx (codeNs x t0) → e < t2 → t2 < dx → R (.ok (.ret .none)) { s with heap := h', toks := tk' }) :
    PySem.Challenge.rw_pf0014_01 = PySem.Challenge.rw_pf0014_01 → (Mine.K w.params).In h₀ → codeAny (model prg w) A (.call (.ref 31) ⟨[.ref e, .str x t0], []⟩) R s := by
 refine (?fZ : PullF _) ?pZ ?qZ ?hZ
 case fZ => exact fun _ q _ => q
 case pZ =>
  k_fill
  intro _ _
  k_dflt (refine' ks_code_super ?k1 ?k2 ?k3 ?k4 ?k5 ?kA ?kF ?kK ?k6 ?k7 ?k8 ?k9 ?kB ?_ ?c1 ?c2 ?c3 ?c4; (case kA => exact hA); (case kF => exact hf); (case kK => exact hke); (case k1 => k_asm); (case k2 => k_asm); (case k3 => k_asm); (case k4 => k_asm); (case k5 => k_asm); (case k6 => k_is); (case k7 => k_is); (case k8 => assumption); (case k9 => exact binds_K (by k_in) rfl (by k_is) rfl rfl rfl); (case kB => exact locs rfl); (case c1 => decide); (case c2 => exact rfl); (case c3 => exact rfl); (case c4 => exact rfl); intro g' L' h' FG' F' N' B' X' T' l1; (try k_lt l1); (try dsimp only))
  k_steps
  have I : InstAt h' e (excO t) 34 none := ⟨(N' _ (.head _)).1, rfl, rfl, trivial⟩
  k_dflt (refine' ks_node ?a1 ?a2 ?a3 ?a4 ?a5 ?a6 ?a7 I ?a8 ?a9 ?b1 ?b2 ?b3 ?b4 ?b5 ?b6 ?b7 ?b8 ?b9 ?c1 ?c2 ?c3 ?_)
  (case a1 => k_asm)
  (case a2 => k_asm)
  (case a3 => k_asm)
  (case a4 => k_asm)
  (case a5 => k_is)
  (case a6 => rfl)
  (case a7 => rfl)
  (case a8 => k_is)
  (case a9 => rfl)
  (case b1 => first | rfl | decide +kernel)
  (case b2 => k_is)
  (case b3 => k_is)
  (case b4 => k_is)
  (case b5 => k_is)
  (case b6 => decide)
  (case b7 => rfl)
  (case b8 => rfl)
  (case b9 => rfl)
  (case c1 => rfl)
  (case c2 => decide +kernel)
  (case c3 => first | boot_by_name | rfl | kernel_rfl)
  intro so' h' F' N' l1
  (try k_lt l1)
  k_steps
  have XH : (Mine.K w.params).In h' := X'.keeps F'.keep
  have nE : e ≠ 34 := fun q => by
    have := (N' _ (.tail _ (.head _))).2.2
    rw [q, X' _ _ (cls34 w)] at this
    cases this
  refine super_method XH (N' _ (.head _)).1 (N' _ (.tail _ (.head _))).1 rfl nE (by kernel_rfl) (by decide) ?_
  have F2 := F'.push (mwO e)
  have N2 := N'.push F' (mwO e)
  have l2' : e < h'.objs.size := Heap.lt_size (N' _ (.tail _ (.head _))).1
  have l3' : t < h'.objs.size := Heap.lt_size (N' _ (.tail _ (.tail _ (.head _)))).1
  dsimp only
  refine callWith_mw (x := e) ?_
  k_steps
  (case refine_1 => exact (N2 _ (.head _)).1)
  refine call_mw (X'.keeps F2.keep) (N2 _ (.head _)).1 (N2 _ (.tail _ (.tail _ (.head _)))).1 ?_
  intro h3 e3 e4 e5 e6
  have ne : g'.get? e = none := (N2 _ (.tail _ (.tail _ (.head _)))).2.2
  have eL : e ≠ L' := (N2 _ (.tail _ (.tail _ (.head _)))).2.1
  have F3 := fr_but F2 e5 eL ne
  have N3 : News g' L' h3 news := news_but (fun q hq => N2 q (.tail _ (.tail _ (.tail _ (.tail _ hq))))) e5 (fun q hq => Nat.ne_of_lt (Nat.lt_trans (l0 q hq) l2))
  have zz : (h'.push (mwO e)).objs.size = h'.objs.size + 1 := Heap.size_push ..
  have sL : L' < (h'.push (mwO e)).objs.size := F2.ns.lt
  have sg : g'.get? (h'.push (mwO e)).objs.size = none := F2.fresh
  have N4 : News g' L' h3 ((e, excO (h'.push (mwO e)).objs.size) :: ((h'.push (mwO e)).objs.size, tup [.str x t0]) :: news) :=
    news_cons ⟨e4, eL, ne⟩ (news_cons ⟨e3, Nat.ne_of_gt sL, sg⟩ N3)
  clear N3 N2 F2 e3 e5
  k_steps
  have X3 : (Mine.K w.params).In h3 := X'.keeps F3.keep
  have et2 : e < (h'.push (mwO e)).objs.size := Nat.lt_trans l2' (by rw [zz]; exact Nat.lt_succ_self _)
  have lt2 : (h'.push (mwO e)).objs.size < h3.objs.size := e6
  have lt3 : L' < h3.objs.size := F3.ns.lt
  refine set_exc (od := none) X3 ⟨e4, rfl, rfl, trivial⟩ (by kernel_rfl) fun A' tk' => store0 X3 e4 rfl rfl rfl fun h5 tk5 a1 a2 a3 a4 => ?_
  have F5 := fr_but F3 a3 eL ne
  have N5 : News g' L' h5 (((h'.push (mwO e)).objs.size, tup [.str x t0]) :: news) := news_but (fun q hq => N4 q (.tail _ hq)) a3 (fun q hq => by
    rcases List.mem_cons.mp hq with rfl | hq
    · exact Nat.ne_of_gt et2
    · exact Nat.ne_of_lt (Nat.lt_trans (l0 q hq) l2))
  have sg3 : g'.get? h3.objs.size = none := F3.fresh
  clear N4 a3
  k_steps
  have X5 : (Mine.K w.params).In h5 := X'.keeps F5.keep
  obtain ⟨o5, es5, ep5, c1, c2, c3, c4, c5⟩ := id a2
  refine set_exc (od := some o5) X5 ⟨a1, rfl, rfl, c1⟩ (by kernel_rfl) fun A' tk' => store1 X5 a1 rfl rfl a2 rfl (ns := [Str.ofString "code"]) (Within.cons _ _ Within.nil) (by decide) fun h6 tk6 b1 b2 => ?_
  have dL : h3.objs.size ≠ L' := Nat.ne_of_gt lt3
  have F6 := F5.change b2 dL sg3
  have N6 : News g' L' h6 (((h'.push (mwO e)).objs.size, tup [.str x t0]) :: news) := fun q hq => by
    refine ⟨(b2.2 _ ?_).trans (N5 q hq).1, (N5 q hq).2⟩
    rcases List.mem_cons.mp hq with rfl | hq
    · exact Nat.ne_of_lt lt2
    · exact Nat.ne_of_lt (Nat.lt_trans (Nat.lt_trans (Nat.lt_trans (l0 q hq) l2) et2) lt2)
  have e6 : h6.get? e = some (exD (h'.push (mwO e)).objs.size h3.objs.size) := (b2.2 _ (Nat.ne_of_lt (Nat.lt_trans et2 lt2))).trans a1
  have b1' : h6.Ns1 h3.objs.size (codeNs x t0) := b1
  obtain ⟨o6, es6, ep6, d1, d2, d3, d4, d5⟩ := id b1'
  have N7 : News g' L' h6 ((e, exD (h'.push (mwO e)).objs.size h3.objs.size) :: (h3.objs.size, o6) :: ((h'.push (mwO e)).objs.size, tup [.str x t0]) :: news) :=
    news_cons ⟨e6, eL, ne⟩ (news_cons ⟨d1, dL, sg3⟩ N6)
  clear N6 N5
  k_steps
  exact h _ _ _ _ _ (by assumption) (by assumption) b1' et2 lt2
 case hZ => delta id; exact pair_ _

/-! the exception in flight, its dict kept -/
/-- a tree that reads, writes records and makes new objects, and never changes an object's dict -/
noncomputable def Gentle {α : Type} : Sem α → Prop
  | .pure _ | .raise _ | .unsupported _ | .finish _ => True
  | .rule _ k | .at _ k | .point _ k => Gentle (k ())
  | .load _ _ k => ∀ o, Gentle (k o)
  | .update _ _ f k => (∀ o : Obj, (f o).dict = o.dict ∧ (o.isFreed = false → (f o).isFreed = false)) ∧ Gentle (k ())
  | .alloc _ k => ∀ a, Gentle (k a)
  | .loadIfAlive _ k => ∀ o, Gentle (k o)
  | .fresh k => ∀ t, Gentle (k t)
  | .ask k => ∀ t, Gentle (k t)
  | .stack k => ∀ l, Gentle (k l)
  | _ => False
theorem Gentle.bind {α β : Type} {m : Sem α} {f : α → Sem β} (hm : Gentle m) (hf : ∀ a, Gentle (f a)) : Gentle (m >>= f) := by
  show Gentle (m.bind f)
  induction m with
  | pure a => exact hf a
  | raise e => trivial
  | unsupported w => trivial
  | finish e => trivial
  | rule t k ih => exact ih () hm
  | «at» p k ih => exact ih () hm
  | point l k ih => exact ih () hm
  | load a part k ih => exact fun o => ih o (hm o)
  | update a part g k ih => exact ⟨hm.1, ih () hm.2⟩
  | alloc o k ih => exact fun a => ih a (hm a)
  | loadIfAlive a k ih => exact fun o => ih o (hm o)
  | fresh k ih => exact fun t => ih t (hm t)
  | ask k ih => exact fun t => ih t (hm t)
  | stack k ih => exact fun l => ih l (hm l)
  | _ => exact hm.elim
theorem gentle_wp {α : Type} {M : Model} {Γ : PySem.Ctx} {e : Addr} {D : Option Addr} (m : Sem α) (G : Gentle m) : ∀ {Q : α → Pos → Shared → Prop} {E : Value → Pos → Shared → Prop} {p : Pos} {s : Shared} {oe : Obj}, s.heap.get? e = some oe → oe.dict = D →
    Sem.wp M Γ m Q E p s → Sem.wp M Γ m (fun a p' s' => Q a p' s' ∧ ∃ oe', s'.heap.get? e = some oe' ∧ oe'.dict = D) E p s := by
  induction m with
  | pure a => intro Q E p s oe he hd h; rw [Sem.wp] at h ⊢; exact ⟨h, oe, he, hd⟩
  | raise x => intro Q E p s oe he hd h; rw [Sem.wp] at h ⊢; exact h
  | unsupported w => intro Q E p s oe he hd h; rw [Sem.wp] at h; exact h.elim
  | finish x => intro Q E p s oe he hd h; rw [Sem.wp] at h; exact h.elim
  | rule t k ih => intro Q E p s oe he hd h; rw [Sem.wp] at h ⊢; exact ih () G he hd h
  | «at» p k ih => intro Q E p' s oe he hd h; rw [Sem.wp] at h ⊢; exact ih () G he hd h
  | point l k ih => intro Q E p s oe he hd h; rw [Sem.wp] at h ⊢; exact ih () G he hd h
  | load a part k ih =>
    intro Q E p s oe he hd h; rw [Sem.wp] at h ⊢
    obtain ⟨o, ho, h⟩ := h
    exact ⟨o, ho, ih o (G o) he hd h⟩
  | update a part f k ih =>
    intro Q E p s oe he hd h; rw [Sem.wp] at h ⊢
    refine ⟨h.1, ?_⟩
    by_cases q : a = e
    · subst q
      exact ih () G.2 (s := { s with heap := s.heap.update a f }) (Heap.get?_update_self _ he ((G.1 oe).2 (Heap.get?_some_iff.mp he).2)) ((G.1 oe).1.trans hd) h.2
    · exact ih () G.2 (s := { s with heap := s.heap.update a f }) ((Heap.get?_update_other _ _ q).trans he) hd h.2
  | alloc o k ih =>
    intro Q E p s oe he hd h; rw [Sem.wp] at h ⊢
    exact ih _ (G _) (s := { s with heap := s.heap.push o }) (Heap.get?_push_of_some _ he) hd h
  | loadIfAlive a k ih => intro Q E p s oe he hd h; rw [Sem.wp] at h ⊢; exact ih _ (G _) he hd h
  | fresh k ih => intro Q E p s oe he hd h; rw [Sem.wp] at h ⊢; exact ih _ (G _) (s := { s with toks := s.toks + 1 }) he hd h
  | ask k ih => intro Q E p s oe he hd h; rw [Sem.wp] at h ⊢; exact ih _ (G _) he hd h
  | stack k ih => intro Q E p s oe he hd h; rw [Sem.wp] at h ⊢; exact ih _ (G _) he hd h
  | _ => exact G.elim
theorem gentle_any {α : Type} {M : Model} {A : Around} {e : Addr} {D : Option Addr} {m : Sem α} (G : Gentle m) {Q : α → Shared → Prop} {E : Value → Shared → Prop} {s : Shared} {oe : Obj} (he : s.heap.get? e = some oe) (hd : oe.dict = D)
    (h : wpAny M A m Q E s) : wpAny M A m (fun a s' => Q a s' ∧ ∃ oe', s'.heap.get? e = some oe' ∧ oe'.dict = D) E s := fun Γ p hΓ => gentle_wp m G he hd (h Γ p hΓ)
theorem gentle_load (a : Addr) : Gentle (load a) := fun _ => True.intro
theorem gentle_loadPart (a : Addr) (part : Option Value) : Gentle (loadPart a part) := fun _ => True.intro
theorem gentle_fields (a : Addr) (f : Array Value → Array Value) : Gentle (update a (Obj.mapFields f)) := ⟨fun o => by
  obtain ⟨oc, od, dt, sl⟩ := o
  refine ⟨by cases dt <;> rfl, fun h => ?_⟩
  cases dt <;> first | rfl | exact h, True.intro⟩
theorem gentle_field (v : Value) (i : Nat) : Gentle (field v i) := by
  unfold field fieldsOf
  repeat' (first | exact gentle_load _ | exact True.intro | refine Gentle.bind ?_ fun _ => ?_ | split)
theorem gentle_setField (v : Value) (i : Nat) (x : Value) : Gentle (setField v i x) := by
  unfold setField updateField
  repeat' (first | exact gentle_load _ | exact True.intro | exact gentle_fields _ _ | refine Gentle.bind ?_ fun _ => ?_ | split)
theorem gentle_setFlight (v : Value) (f : Option Addr) : Gentle (setFlight v f) := by
  unfold setFlight
  repeat' (first | exact gentle_field _ _ | exact gentle_setField _ _ _ | exact True.intro | refine Gentle.bind ?_ fun _ => ?_ | split)
theorem gentle_stack : Gentle stack := fun _ => True.intro
theorem gentle_ready : ∀ l : List Env, Gentle (readyFrames l)
  | [] => True.intro
  | env :: outer => by
    unfold readyFrames
    have := gentle_ready outer
    have b : ∀ i, Gentle (keptBack env i outer) := fun i => by
      unfold keptBack underTheClaimsCaller
      repeat' (first | exact gentle_stack | exact True.intro | refine Gentle.bind ?_ fun _ => ?_ | split)
    have c : Gentle (behindIsImport env outer) := by
      unfold behindIsImport
      repeat' (first | exact gentle_field _ _ | exact True.intro | refine Gentle.bind ?_ fun _ => ?_ | split)
    repeat' (first | assumption | exact b _ | exact gentle_load _ | exact True.intro | exact ⟨fun o => ⟨rfl, fun h => (kts_isFreed o _).trans h⟩, True.intro⟩ | refine Gentle.bind ?_ fun _ => ?_ | split)
theorem gentle_frameOf (env : Env) : Gentle (PySem.frameOf env) := by
  unfold PySem.frameOf frameEnvs
  refine Gentle.bind (Gentle.bind gentle_stack fun _ => True.intro) fun l => ?_
  refine Gentle.bind ?_ fun o => ?_
  · unfold frameObject
    split
    · exact True.intro
    · exact Gentle.bind (gentle_ready _) fun _ => True.intro
  · split <;> exact True.intro
theorem gentle_place (f : Addr) (b : Bool) : Gentle (entryPlaceOf f b) := by
  unfold entryPlaceOf
  refine Gentle.bind gentle_stack fun _ => ?_
  split <;> exact True.intro
theorem gentle_newFields (ty : String) (vs : List Value) : Gentle (newFields ty vs) := by
  unfold newFields newObj newObjAsIs
  dsimp only
  split
  · exact True.intro
  · exact fun _ => True.intro
theorem gentle_note (v : Value) (env : Env) : Gentle (noteFrame v env) := by
  unfold noteFrame EntryCells.newEntry
  split
  · refine Gentle.bind (gentle_field _ _) fun h => ?_
    repeat' (first | exact gentle_frameOf _ | exact gentle_place _ _ | exact gentle_newFields _ _ | exact gentle_field _ _ | exact gentle_setField _ _ _ | exact True.intro | refine Gentle.bind ?_ fun _ => ?_ | split)
  · exact True.intro
theorem gentle_leaving (v : Value) (env : Env) : Gentle (leaving env v) := by
  unfold leaving
  exact Gentle.bind (gentle_note _ _) fun _ => gentle_setFlight _ _
section
variable {M : Model} {A : Around} {E : Value → Shared → Prop} {s' : Shared} {base g g₂ h : Heap} {env : Env} {outer : List Env} {L e t D : Addr} {m : Str → Option Value} {Q : Unit → Shared → Prop} {news : Led} {x : Str} {oD : Obj}
theorem below_env (hf : env.frame = some L) (hk : env.scope.kind = .function) (K : Below A base outer g) (F : Fr g L h m) : Below (A.deeper env) base (env :: outer) h := by
  have hnew : base.get? L = none := by
    cases hq : base.get? L with
    | none => rfl
    | some o => exact absurd (Nat.lt_of_lt_of_le (Heap.lt_size (K.stays L o hq)) F.above) (Nat.lt_irrefl _)
  obtain ⟨oL, es, ep, hL, hd, _⟩ := F.ns
  refine ⟨Around.frames_deeper K.stack, fun b o q => F.keep b o (K.stays b o q), ?_⟩
  exact ⟨by rw [hk]; decide, ⟨L, oL, hf, hnew, hL, fun vs q => by rw [hd] at q; cases q⟩, K.frames.of_keeps fun b o q _ => ⟨o, F.keep b o q, rfl⟩⟩
/-- a dict object that holds a namespace -/
noncomputable def DictIs (o : Obj) (mm : Str → Option Value) : Prop := ∃ es ep, o.data = .dict es ep ∧ StrKeys es ∧ ∀ name, nsFind es name = mm name
noncomputable def FlyD (base G : Heap) (l : List Env) (e : Addr) (x : Str) (news : Led) (h : Heap) : Prop :=
  ∃ t t0 D oD oe, RaisedS base G l e (.ref 34) t [.str x t0] ((D, oD) :: news) h ∧ DictIs oD (codeNs x t0) ∧ h.get? e = some oe ∧ oe.dict = some D ∧ G.UpToSlots h
theorem mem_frame (hf : env.frame = some L) {b : Addr} (hm : b ∈ (env :: outer).filterMap (·.frame)) : b = L ∨ b ∈ outer.filterMap (·.frame) := by
  obtain ⟨env', he, hf'⟩ := List.mem_filterMap.mp hm
  rcases List.mem_cons.mp he with rfl | he
  · exact .inl (Option.some.inj (hf'.symm.trans hf))
  · exact .inr (List.mem_filterMap.mpr ⟨env', he, hf'⟩)
theorem fly_first {t0 : Tok} (hf : env.frame = some L) (hk : env.scope.kind = .function) (K : Below A base outer g) (F : Fr g L s'.heap m) (N : News g L s'.heap ((e, exD t D) :: (D, oD) :: (t, tup [.str x t0]) :: news))
    (hns : s'.heap.Ns D (codeNs x t0)) (l1 : e < t) (l2 : t < D) (l0 : ∀ q ∈ news, q.1 < e) (hQ : ∀ h', FlyD base g outer e x news h' → Q () { s' with heap := h' }) :
    wpAny M (A.deeper env) (leaving env (.ref e)) Q E s' := by
  have K' := below_env hf hk K F
  have he := (N _ (.head _)).1
  have hD := (N _ (.tail _ (.head _))).1
  have ht := (N _ (.tail _ (.tail _ (.head _)))).1
  have ge : g.get? e = none := (N _ (.head _)).2.2
  have gt : g.get? t = none := (N _ (.tail _ (.tail _ (.head _)))).2.2
  have be : base.get? e = none := fresh_of_stays K.stays ge
  have bt : base.get? t = none := fresh_of_stays K.stays gt
  have hin : ∀ env' ∈ (env :: outer), ∀ b, env'.frame = some b → b ∈ e :: t :: (env :: outer).filterMap (·.frame) := fun env' he b hb => .tail _ (.tail _ (List.mem_filterMap.mpr ⟨env', he, hb⟩))
  have fb : ∀ b, b ∈ (env :: outer).filterMap (·.frame) → base.get? b = none := fun b hm => (K'.frames.mem hm).1
  have st : base.StaysIn (hideAll s'.heap (e :: t :: (env :: outer).filterMap (·.frame))) := fun b o q => hideAll_get _ (K'.stays b o q) fun hm => by
    rcases List.mem_cons.mp hm with rfl | hm
    · rw [be] at q; cases q
    · rcases List.mem_cons.mp hm with rfl | hm
      · rw [bt] at q; cases q
      · rw [fb b hm] at q; cases q
  have sg : ∀ b o, g.get? b = some o → b ∉ outer.filterMap (·.frame) → (hideAll s'.heap (e :: t :: (env :: outer).filterMap (·.frame))).get? b = some o := fun b o q nm => hideAll_get _ (F.keep b o q) fun hm => by
    rcases List.mem_cons.mp hm with rfl | hm
    · rw [ge] at q; cases q
    · rcases List.mem_cons.mp hm with rfl | hm
      · rw [gt] at q; cases q
      · rcases mem_frame hf hm with rfl | z
        · rw [kts_self F] at q; cases q
        · exact nm z
  have hl : ∀ q ∈ (D, oD) :: news, (hideAll s'.heap (e :: t :: (env :: outer).filterMap (·.frame))).get? q.1 = some q.2 ∧ g.get? q.1 = none ∧ base.get? q.1 = none := fun q hq => by
    have hq' : q ∈ (e, exD t D) :: (D, oD) :: (t, tup [.str x t0]) :: news := by
      rcases List.mem_cons.mp hq with rfl | hq
      · exact .tail _ (.head _)
      · exact .tail _ (.tail _ (.tail _ hq))
    refine ⟨hideAll_get _ (N q hq').1 fun hm => ?_, (N q hq').2.2, fresh_of_stays K.stays (N q hq').2.2⟩
    rcases List.mem_cons.mp hm with z | hm
    · rcases List.mem_cons.mp hq with rfl | hq
      · exact absurd z (Nat.ne_of_gt (Nat.lt_trans l1 l2))
      · exact absurd z (Nat.ne_of_lt (l0 q hq))
    · rcases List.mem_cons.mp hm with z | hm
      · rcases List.mem_cons.mp hq with rfl | hq
        · exact absurd z (Nat.ne_of_gt l2)
        · exact absurd z (Nat.ne_of_lt (Nat.lt_trans (l0 q hq) l1))
      · rcases mem_frame hf hm with z | z
        · exact (N q hq').2.1 z
        · obtain ⟨o, ho, _⟩ := (K.frames.mem z).2
          rw [(N q hq').2.2] at ho; cases ho
  refine wpAny_mono (gentle_any (gentle_leaving _ _) he rfl (wpAny_leaving_firstW (base := hideAll s'.heap (e :: t :: (env :: outer).filterMap (·.frame))) (a0 := .ref t) K'.stack (funFrames_hide K'.frames hin) hf he (fun b o q => of_hideAll _ q) (hideAll_none _ (.head _)) rfl rfl rfl
    (Q := fun _ s'' => ∃ h', s'' = { s' with heap := h' } ∧ Heap.LeftW (hideAll s'.heap (e :: t :: (env :: outer).filterMap (·.frame))) (env :: outer) e (.ref 34) (.ref t) s'.heap h') fun h' hL => ⟨h', rfl, hL⟩)) (fun _ s'' z => ?_) fun _ _ z => z
  obtain ⟨⟨h', rfl, k1, ⟨_, _, k2⟩, k3, k4⟩, oe', he', hd'⟩ := z
  have keepS : s'.heap.UpToSlots h' := k4
  refine hQ h' ⟨t, t0, D, oD, oe', ⟨⟨_, st, sg, hl, ⟨k1, hideAll_none _ (.head _), k2, k3⟩, hideAll_none _ (.tail _ (.head _))⟩, Heap.TupAt.of_slots ⟨_, _, ht, rfl, rfl⟩ keepS⟩, ?_, he', hd', (Heap.UpToSlots.of_keeps F.keep).trans keepS⟩
  obtain ⟨o, es, ep, ho, a1, a2, a3⟩ := hns
  rw [hD] at ho
  cases ho
  exact ⟨es, ep, a1, a2, a3⟩
theorem fly_on (hf : env.frame = some L) (K : Below A base outer g) (F : Fr g L g₂ m) (R : FlyD base g₂ (env :: outer) e x news s'.heap)
    (hQ : ∀ h', FlyD base g outer e x news h' → Q () { s' with heap := h' }) : wpAny M (A.deeper env) (leaving env (.ref e)) Q E s' := by
  obtain ⟨t, t0, D, oD, oe, ⟨⟨B, hB, hBG, hl, hfl, hnew⟩, htup⟩, hD, he, hd, hsm⟩ := R
  refine wpAny_mono (gentle_any (gentle_leaving _ _) he hd (wpAny_leaves_onW (Around.frames_deeper K.stack) hf hfl
    (Q := fun _ s'' => ∃ h', s'' = { s' with heap := h' } ∧ Heap.FlyingW B outer e (.ref 34) (.ref t) h' ∧ s'.heap.UpToSlots h') fun h' x1 x2 => ⟨h', rfl, x1, x2⟩)) (fun _ s'' z => ?_) fun _ _ z => z
  obtain ⟨⟨h', rfl, x1, x2⟩, oe', he', hd'⟩ := z
  refine hQ h' ⟨t, t0, D, oD, oe', ⟨⟨B, hB, fun b o q nm => hBG b o (F.keep b o q) (fun hm => ?_), fun q hq => ⟨(hl q hq).1, kts_none F.keep (hl q hq).2.1, (hl q hq).2.2⟩, x1, hnew⟩, htup.of_slots x2⟩, hD, he', hd', (Heap.UpToSlots.of_keeps F.keep).trans (hsm.trans x2)⟩
  rcases mem_frame hf hm with rfl | z
  · rw [kts_self F] at q; cases q
  · exact nm z
theorem FlyD.less {l : List Env} {news' : Led} (R : FlyD base g l e x news h) (hs : ∀ q ∈ news', q ∈ news) : FlyD base g l e x news' h := by
  obtain ⟨t, t0, D, oD, oe, ⟨⟨B, hB, hBG, hl, hfl, hnew⟩, htup⟩, r⟩ := R
  refine ⟨t, t0, D, oD, oe, ⟨⟨B, hB, hBG, fun q hq => hl q ?_, hfl, hnew⟩, htup⟩, r⟩
  rcases List.mem_cons.mp hq with rfl | hq
  · exact .head _
  · exact .tail _ (hs q hq)
end

section
variable {w : World} {p : Program} {loose : List Str} {mean : ExcName → Option Value} {mg mb : Str → Option Value} {A A₀ : Around} {base h₀ : Heap} {outer : List Env} {env : Env} {L : Addr} {m : Str → Option Value} {news : Led} {s : Shared} {x : Str} {t0 : Tok}
set_option maxHeartbeats 1000000 in
theorem call_exc {Q E : Value → Shared → Prop} (B : Below A₀ base outer h₀) (F : Fr h₀ L s.heap m) (X₀ : (Mine.K w.params).In h₀) (N : News h₀ L s.heap news) (T : Top p loose mean mg mb h₀) (hA : A.frames = some (env :: outer)) (hf : env.frame = some L) (hke : env.scope.kind = .function)
    (hroom : A.depth + 4 < recursionLimit) (hun : A.units + 120 < cLine) (hAh : A.handled = none)
    (h : ∀ h' tk' e t D oD, Fr h₀ L h' m → News h₀ L h' ((e, exD t D) :: (D, oD) :: (t, tup [.str x t0]) :: news) → h'.Ns D (codeNs x t0) → e < t → t < D → (∀ q ∈ news, q.1 < e) → Q (.ref e) { s with heap := h', toks := tk' }) :
    wpAny (model prg w) A (call (.ref 34) [.str x t0]) Q E s := by
  refine wpAny_call (exc_make F N X₀ fun e t h' F' N' l0 l1 => exc_init (env := env) B F' X₀ N' T ?_ hf hke ?_ ?_ hAh l0 l1 (fun h'' tk'' t2 dx oD F'' N'' ns l3 l4 => ⟨rfl, h _ _ _ _ _ _ F'' N'' ns.ns l3 l4 fun q hq => Nat.lt_trans (l0 q hq) l1⟩) rfl X₀)
  · show pushEnvs [] A.frames = _
    rw [hA]; rfl
  · have : (A.under (Code.builtin "type.__call__" ⟨[.ref 34, .str x t0], []⟩)).depth = A.depth + 1 := by
      show A.depth + _ = A.depth + 1
      have : (Code.builtin "type.__call__" ⟨[.ref 34, .str x t0], []⟩).weight = 1 := by kernel_rfl
      rw [this]
    omega
  · have : (A.under (Code.builtin "type.__call__" ⟨[.ref 34, .str x t0], []⟩)).units = A.units + 1 := by
      show A.units + _ = A.units + 1
      have : (Code.builtin "type.__call__" ⟨[.ref 34, .str x t0], []⟩).cUnits = 1 := by kernel_rfl
      rw [this]
    omega
theorem raise_made {E : Value → Shared → Prop} {c : Sem Value} {Q : Flow → Shared → Prop} (hAh : A.handled = none)
    (h : wpAny (model prg w) A c (fun v s₁ => ∃ e t D, v = .ref e ∧ s₁.heap.get? 34 = some exCls ∧ s₁.heap.get? e = some (exD t D) ∧ E (.ref e) s₁) E s) :
    wpAny (model prg w) A (raiseStmt env (some c) none) Q E s := by
  unfold raiseStmt
  refine wpAny_bind (wpAny_mono h (fun v s₁ h₁ => ?_) fun _ _ x => x)
  obtain ⟨e, t, D, rfl, hC, he, hE⟩ := h₁
  obtain ⟨hp, g, d, tk, os⟩ := s₁
  repeat (first | with_reducible refine wpAny_loadPart_at he ?_ | with_reducible refine wpAny_loadPart_at hC ?_ | (with_reducible refine wpAny_isSubtype_exc hC ?_; rw [show ((Value.ref 34 :: [.type "Exception", .type "BaseException", .type "object"]).contains (.type "BaseException")) = true from by decide +kernel]) | wp_step)
  exact wpAny_raiseNew_none hAh hE
theorem Raise_made {E : Value → Shared → Prop} {c : Expr} {pos : Pos} {Q : Flow → Shared → Prop} (hAh : A.handled = none)
    (h : wpAny (model prg w) A (eval c env) (fun v s₁ => ∃ e t D, v = .ref e ∧ s₁.heap.get? 34 = some exCls ∧ s₁.heap.get? e = some (exD t D) ∧ E (.ref e) s₁) E s) :
    wpAny (model prg w) A (exec (.Raise (some c) none pos) env) Q E s := by
  rw [arm_exec_Raise]
  exact wpAny_bind (wpAny_standAt (raise_made hAh (wpAny_bind (wpAny_mono h (fun v s₃ h₃ => wpAny_bind (wpAny_standAt (wpAny_pure h₃))) fun _ _ x => x))))
end

/-! contracts of functions that may raise BasicError(x) -/
noncomputable def Exc (base h₀ : Heap) (L : Addr) (m : Str → Option Value) (news : Led) (s : Shared) (l : List Env) (x : Str) (E : Value → Shared → Prop) : Prop :=
  ∀ (e : Addr) (g' h' : Heap) (tk' : Nat), Fr h₀ L g' m → FlyD base g' l e x news h' → E (.ref e) { s with heap := h', toks := tk' }
noncomputable def MeetsX {γ : Type} (w : World) (f : Addr) (d u : Nat) (vs : List Value) (o : Option γ) (Out : γ → Value → Led → Prop) (x : Str) : Prop :=
  ∀ (p : Program) (loose : List Str) (mean : ExcName → Option Value) (mg mb : Str → Option Value) (dp un : Nat) (gd : Option (List Code)) (cn : Str) (cs : Scope) (a : Addr) (ccd : Value) (cl : List (Str × Addr)) (outer : List Env) (A₀ : Around) (base h₀ : Heap) (L : Addr) (m : Str → Option Value) (news : Led) (s : Shared) (Q E : Value → Shared → Prop),
    PySem.Challenge.rw_pf0014_01 = PySem.Challenge.rw_pf0014_01 →
    Below A₀ base outer h₀ → Fr h₀ L s.heap m → (Mine.K w.params).In h₀ → News h₀ L s.heap news → Top p loose mean mg mb h₀ → cs.kind = .function → dp + d < recursionLimit → un + u < cLine →
    (∀ r, o = some r → Ret h₀ L m news s Q (Out r)) → (o = none → Exc base h₀ L m news s (envX cn cs L a ccd cl :: outer) x E) → wpAny (model prg w) (ktrTop dp un gd cn cs L a ccd cl outer) (call (.ref f) vs) Q E s
section
variable {γ : Type} {w : World} {f : Addr} {d u : Nat} {vs : List Value} {o : Option γ} {Out : γ → Value → Led → Prop} {x : Str} {p : Program} {loose : List Str} {mean : ExcName → Option Value} {mg mb : Str → Option Value} {dp un : Nat} {gd : Option (List Code)} {cn : Str} {cs : Scope} {a : Addr} {ccd : Value} {cl : List (Str × Addr)} {outer : List Env} {A₀ : Around} {base h₀ : Heap} {L : Addr} {m : Str → Option Value} {news : Led} {s : Shared} {Q E : Value → Shared → Prop}
theorem useX (C : MeetsX w f d u vs o Out x) (B : Below A₀ base outer h₀) (F : Fr h₀ L s.heap m) (X : (Mine.K w.params).In h₀) (N : News h₀ L s.heap news) (T : Top p loose mean mg mb h₀) (hk : cs.kind = .function) (hd : dp + d < recursionLimit) (hu : un + u < cLine)
    (kx : o = none → ∀ e g' h' tk', Fr h₀ L g' m → FlyD base g' (envX cn cs L a ccd cl :: outer) e x news h' → E (.ref e) { s with heap := h', toks := tk' })
    (k : ∀ r v tl h' tk', o = some r → Fr h₀ L h' m → News h₀ L h' (tl ++ news) → (∀ q ∈ news, ∀ p ∈ tl, q.1 < p.1) → Out r v tl → Q v { s with heap := h', toks := tk' }) :
    wpAny (model prg w) (ktrTop dp un gd cn cs L a ccd cl outer) (call (.ref f) vs) Q E s :=
  C p loose mean mg mb dp un gd cn cs a ccd cl outer A₀ base h₀ L m news s Q E rfl B F X N T hk hd hu (fun r hr v tl h' tk' F' N' l ho => k r v tl h' tk' hr F' N' l ho) kx
theorem useXII {r : γ → Int × Int} (C : MeetsX w f d u vs o (fun g => OutII (r g).1 (r g).2) x) (B : Below A₀ base outer h₀) (F : Fr h₀ L s.heap m) (X : (Mine.K w.params).In h₀) (N : News h₀ L s.heap news) (T : Top p loose mean mg mb h₀) (hk : cs.kind = .function) (hd : dp + d < recursionLimit) (hu : un + u < cLine)
    (kx : o = none → ∀ e g' h' tk', Fr h₀ L g' m → FlyD base g' (envX cn cs L a ccd cl :: outer) e x news h' → E (.ref e) { s with heap := h', toks := tk' })
    (k : ∀ g D a b h' tk', o = some g → Fr h₀ L h' m → News h₀ L h' ((D, tup [.int (r g).1 a, .int (r g).2 b]) :: news) → (∀ q ∈ news, q.1 < D) → Q (.ref D) { s with heap := h', toks := tk' }) :
    wpAny (model prg w) (ktrTop dp un gd cn cs L a ccd cl outer) (call (.ref f) vs) Q E s :=
  useX C B F X N T hk hd hu kx fun g v tl h' tk' hr F' N' l ho => by
    obtain ⟨D, a, b, rfl, rfl⟩ := ho
    exact k g D a b h' tk' hr F' N' fun q hq => l q hq (D, _) (.head _)
end
-- MACROS
local macro_rules | `(tactic| walk_at "uf") => `(tactic| (intro hn9 e9 g9 h9 tk9 FG9 R9; (try dsimp only); (rename _ = none → Exc _ _ _ _ _ _ _ _ _ => hx9); refine fly_on (env := _) rfl (by assumption) FG9 R9 ?_; intro h8 R8; (try dsimp only); first | exact hx9 (by assumption) _ _ _ _ (by assumption) (R8.less (by repeat' (first | exact sub_refl _ | refine sub_cons ?_))) | (refine hx9 ?hn _ _ _ _ (by assumption) (R8.less (by repeat' (first | exact sub_refl _ | refine sub_cons ?_))))))
-- END

noncomputable def rnd (n : Nat) (e : Int) (dg : Nat) : Nat × Int := if nd n > dg then (rounded n (nd n - dg), e + ((nd n - dg : Nat) : Int)) else (n, e)
noncomputable def cut99 (c : Nat) (e : Int) : Option (Int × Int) :=
  if c = 0 then some (0, 0) else
    if 99 < (strip10 c e).2 + (nd (strip10 c e).1 : Nat) - 1 then none else if (strip10 c e).2 + (nd (strip10 c e).1 : Nat) - 1 < -99 then some (0, 0) else some (((strip10 c e).1 : Nat), (strip10 c e).2)
noncomputable def mk (n : Nat) (e : Int) (dg : Nat) : Option (Int × Int) := cut99 (rnd n e dg).1 (rnd n e dg).2
theorem abs_nat (n : Nat) : (if (n : Int) < 0 then -(n : Int) else (n : Int)) = n := if_neg (by omega)
-- MACROS
local macro_rules | `(tactic| walk_at "call builtin:abs") => `(tactic| ((with_reducible refine call_abs_int ?_); intro _ _; rw [abs_nat]))
-- END
theorem rounded_le (n p : Nat) : rounded n p ≤ n + 1 := by
  have h : n / 10 ^ p ≤ n := Nat.div_le_self _ _
  unfold rounded
  split <;> omega
set_option maxHeartbeats 4000000 in
theorem made (w : World) (n0 : Nat) (e0 : Int) (dg : Nat) (t u v : Tok) (hn : n0 < 10 ^ 150) (hdg : 1 ≤ dg) : MeetsX w 58 8 200 [.int (n0 : Int) t, .int e0 u, .int (dg : Int) v] (mk n0 e0 dg) (fun r => OutII r.1 r.2) (Str.ofString "OV") := by
 refine (?fZ : PullF _) ?pZ ?qZ ?hZ
 case fZ => exact fun _ q _ => q
 case pZ =>
  unfold MeetsX
  k_fill
  intro p loose mean mg mb dp un gd cn cs a ccd cl outer A₀ base h₀ L m news s Q E hrw B F X N T hk hd hu hret hexc
  clear hrw
  refine wpAny_call ?_
  k_dflt cell_enter
  have hn2 : n0 < 10 ^ 200 := Nat.lt_trans hn (by decide +kernel)
  have hlt : (rnd n0 e0 dg).1 < 10 ^ 200 := by
    unfold rnd
    split
    · exact Nat.lt_of_le_of_lt (rounded_le _ _) (by omega)
    · exact hn2
  have hA : nd n0 > dg → rnd n0 e0 dg = (rounded n0 (nd n0 - dg), e0 + ((nd n0 - dg : Nat) : Int)) := fun h => if_pos h
  have hB : ¬ nd n0 > dg → rnd n0 e0 dg = (n0, e0) := fun h => if_neg h
  have hmk : mk n0 e0 dg = cut99 (rnd n0 e0 dg).1 (rnd n0 e0 dg).2 := rfl
  rw [hmk] at hret hexc
  clear hmk
  generalize rnd n0 e0 dg = r at hret hexc hlt hA hB
  obtain ⟨n1, e1⟩ := r
  dsimp only at hret hexc hlt
  (repeat' (first | ((fail_if_success (with_reducible show wpAny _ _ (exec (Stmt.If (Expr.Compare _ _ _ _) _ _ _) _) _ _ _)); (first | (k_here; (with_reducible show wpAny _ _ (call (Value.ref _) _) _ _ _); (first | ((with_reducible show wpAny _ _ (call (Value.ref 51) _) _ _ _); k_dflt (refine' useI (rounded_by _ _ _ _ _ ?p1 ?p2 ?p3) ?k1 ?k2 ?k3 ?k4 ?k5 ?kK ?kd ?ku ?_; (case p1 => walk_at "up"); (case p2 => walk_at "up"); (case p3 => walk_at "up"); walk_at "u2"); intro t9 h9 tk9 F9 N9; walk_at "u3") | ((with_reducible show wpAny _ _ (call (Value.ref 44) _) _ _ _); k_dflt (refine' useI (figures_of _ _ _ ?p1) ?k1 ?k2 ?k3 ?k4 ?k5 ?kK ?kd ?ku ?_; (case p1 => walk_at "up"); walk_at "u2"); intro t9 h9 tk9 F9 N9; walk_at "u3"))) | walk_at "wk"))))
  rename Fr _ _ _ _ => FF
  rename News _ _ _ _ => NN
  k_dflt (refine cut_put2 (x := Str.ofString "size") (y := Str.ofString "exponent") (K1 := ((n1 : Nat) : Int)) (K2 := e1) FF NN ?cu ?re)
  case' cu =>
    (repeat' (first | ((fail_if_success (first | (with_reducible show wpAny _ _ (exec (Stmt.While _ _ _ _) _) _ _ _) | (with_reducible show wpAny _ _ (exec (Stmt.Raise _ _ _) _) _ _ _) | (with_reducible show WhStep _ _ _ _ _ _ _ _ _ _ _))); (first | (k_here; (with_reducible show wpAny _ _ (call (Value.ref _) _) _ _ _); (first | ((with_reducible show wpAny _ _ (call (Value.ref 51) _) _ _ _); k_dflt (refine' useI (rounded_by _ _ _ _ _ ?p1 ?p2 ?p3) ?k1 ?k2 ?k3 ?k4 ?k5 ?kK ?kd ?ku ?_; (case p1 => walk_at "up"); (case p2 => walk_at "up"); (case p3 => walk_at "up"); walk_at "u2"); intro t9 h9 tk9 F9 N9; walk_at "u3") | ((with_reducible show wpAny _ _ (call (Value.ref 44) _) _ _ _); k_dflt (refine' useI (figures_of _ _ _ ?p1) ?k1 ?k2 ?k3 ?k4 ?k5 ?kK ?kd ?ku ?_; (case p1 => walk_at "up"); walk_at "u2"); intro t9 h9 tk9 F9 N9; walk_at "u3"))) | walk_at "wk"))))
    · rename 0 < ((nd n0 : Nat) : Int) - (dg : Int) => hgt
      have hgt' : nd n0 > dg := by omega
      have he : ((nd n0 : Nat) : Int) - (dg : Int) = ((nd n0 - dg : Nat) : Int) := by omega
      rw [he]
      obtain ⟨rfl, rfl⟩ := Prod.mk.inj (hA hgt')
      k_dflt (refine' useI (rounded_by w n0 (nd n0 - dg) _ _ hn2 (by omega) (by omega)) ?k1 ?k2 ?k3 ?k4 ?k5 ?kK ?kd ?ku ?_; (case k1 => k_asm); (case k2 => k_asm); (case k3 => k_asm); (case k4 => k_asm); (case k5 => k_asm); (case kK => first | exact rfl | assumption); (case kd => ktr_room); (case ku => ktr_units); k_whole)
      intro t9 h9 tk9 F9 N9
      (try k_sweep); (try dsimp only); (try k_fold)
      (repeat' (first | ((fail_if_success (first | (with_reducible show wpAny _ _ (exec (Stmt.While _ _ _ _) _) _ _ _) | (with_reducible show wpAny _ _ (exec (Stmt.Raise _ _ _) _) _ _ _) | (with_reducible show WhStep _ _ _ _ _ _ _ _ _ _ _))); (first | (k_here; (with_reducible show wpAny _ _ (call (Value.ref _) _) _ _ _); (first | ((with_reducible show wpAny _ _ (call (Value.ref 51) _) _ _ _); k_dflt (refine' useI (rounded_by _ _ _ _ _ ?p1 ?p2 ?p3) ?k1 ?k2 ?k3 ?k4 ?k5 ?kK ?kd ?ku ?_; (case p1 => walk_at "up"); (case p2 => walk_at "up"); (case p3 => walk_at "up"); walk_at "u2"); intro t9 h9 tk9 F9 N9; walk_at "u3") | ((with_reducible show wpAny _ _ (call (Value.ref 44) _) _ _ _); k_dflt (refine' useI (figures_of _ _ _ ?p1) ?k1 ?k2 ?k3 ?k4 ?k5 ?kK ?kd ?ku ?_; (case p1 => walk_at "up"); walk_at "u2"); intro t9 h9 tk9 F9 N9; walk_at "u3"))) | walk_at "wk"))))
      rw [← he]
      exact CutP2.mk (by k_asm) rfl rfl (by k_asm) (by repeat' (first | exact sub_refl _ | refine sub_cons ?_))
    · obtain ⟨rfl, rfl⟩ := Prod.mk.inj (hB (by omega))
      exact CutP2.same (by k_asm) rfl rfl rfl rfl (by k_asm) (by repeat' (first | exact sub_refl _ | refine sub_cons ?_))
  case' re =>
    intro tA tB h8 tk8 F8 N8
    clear FF NN hA hB
    (try dsimp only at F8)
    (try dsimp only)
    (repeat' (first | ((fail_if_success (first | (with_reducible show wpAny _ _ (exec (Stmt.While _ _ _ _) _) _ _ _) | (with_reducible show wpAny _ _ (exec (Stmt.Raise _ _ _) _) _ _ _) | (with_reducible show WhStep _ _ _ _ _ _ _ _ _ _ _))); (first | (k_here; (with_reducible show wpAny _ _ (call (Value.ref _) _) _ _ _); (first | ((with_reducible show wpAny _ _ (call (Value.ref 51) _) _ _ _); k_dflt (refine' useI (rounded_by _ _ _ _ _ ?p1 ?p2 ?p3) ?k1 ?k2 ?k3 ?k4 ?k5 ?kK ?kd ?ku ?_; (case p1 => walk_at "up"); (case p2 => walk_at "up"); (case p3 => walk_at "up"); walk_at "u2"); intro t9 h9 tk9 F9 N9; walk_at "u3") | ((with_reducible show wpAny _ _ (call (Value.ref 44) _) _ _ _); k_dflt (refine' useI (figures_of _ _ _ ?p1) ?k1 ?k2 ?k3 ?k4 ?k5 ?kK ?kd ?ku ?_; (case p1 => walk_at "up"); walk_at "u2"); intro t9 h9 tk9 F9 N9; walk_at "u3"))) | walk_at "wk"))))
    · rename ((n1 : Nat) : Int) = 0 => hz
      exact Ret.ii (hret _ (if_pos (by omega))) (by k_asm) (by k_asm) (by repeat' (first | exact sub_refl _ | refine sub_cons ?_)) (by k_mem) (by first | assumption | exact ktn_ltOf (by assumption) | exact ktn_ltOf (And.right (by assumption)) | exact ktn_ltOf (And.right (And.right (by assumption))) | exact ktn_ltOf (And.right (And.right (And.right (by assumption)))) | exact ktn_ltOf (And.right (And.right (And.right (And.right (by assumption))))) | exact ktn_ltOf (And.right (And.right (And.right (And.right (And.right (by assumption)))))) | exact ktn_ltOf (And.right (And.right (And.right (And.right (And.right (And.right (by assumption))))))) | exact ktn_ltOf (And.right (And.right (And.right (And.right (And.right (And.right (And.right (by assumption)))))))) | exact ktn_ltOf (And.right (And.right (And.right (And.right (And.right (And.right (And.right (And.right (by assumption))))))))) | exact ktn_ltOf (And.right (And.right (And.right (And.right (And.right (And.right (And.right (And.right (And.right (by assumption)))))))))) | exact ktn_ltOf (And.right (And.right (And.right (And.right (And.right (And.right (And.right (And.right (And.right (And.right (by assumption))))))))))) | exact ktn_ltOf (And.right (And.right (And.right (And.right (And.right (And.right (And.right (And.right (And.right (And.right (And.right (by assumption))))))))))))) rfl rfl
    rename ((n1 : Nat) : Int) ≠ 0 => hn1'
    have hn1 : n1 ≠ 0 := by omega
    k_dflt (refine' while_st (fun m c y => if y = Str.ofString "size" then some (.int ((c.1 : Nat) : Int) c.2.2.1) else if y = Str.ofString "exponent" then some (.int c.2.1 c.2.2.2) else m y) (fun c : Nat × Int × Tok × Tok => c.1 ≠ 0 ∧ c.1 ≤ n1 ∧ strip10 c.1 c.2.1 = strip10 n1 e1) (fun c => c.1) (n1, e1, _, _) ?w1 ?w2 ?w3 ?w4 ?w5 ?w6)
    (case w1 => k_asm); (case w2 => k_asm); (case w3 => (funext y; (try dsimp only); (repeat' split) <;> first | contradiction | rfl | (subst_vars; rfl) | (exfalso; simp_all +decide; done) | (refine int_eq ?ie ?it; (case it => rfl); (case ie => (first | rfl | assumption | exact fdiv10 _ | omega | (simp only [Nat.pow_succ, Int.natCast_mul, Int.natCast_add, Int.natCast_one]; first | done | rfl | omega) | (simp_all; first | done | omega)))) | (simp_all; done))); (case w6 => with_unfolding_all passes_own); (case' w5 => (intro c h₁ tk₁ hI F₁ N₁; (try k_sweep); (try dsimp only); (try k_fold)))
    (case w4 => exact ⟨hn1, Nat.le_refl _, rfl⟩)
    obtain ⟨c0, c1, c2⟩ := hI
    have hnd : c.1 < 10 ^ 200 := Nat.lt_of_le_of_lt c1 hlt
    (repeat' (first | ((fail_if_success (first | (with_reducible show wpAny _ _ (exec (Stmt.While _ _ _ _) _) _ _ _) | (with_reducible show wpAny _ _ (exec (Stmt.Raise _ _ _) _) _ _ _) | (with_reducible show WhStep _ _ _ _ _ _ _ _ _ _ _))); (first | (k_here; (with_reducible show wpAny _ _ (call (Value.ref _) _) _ _ _); (first | ((with_reducible show wpAny _ _ (call (Value.ref 51) _) _ _ _); k_dflt (refine' useI (rounded_by _ _ _ _ _ ?p1 ?p2 ?p3) ?k1 ?k2 ?k3 ?k4 ?k5 ?kK ?kd ?ku ?_; (case p1 => walk_at "up"); (case p2 => walk_at "up"); (case p3 => walk_at "up"); walk_at "u2"); intro t9 h9 tk9 F9 N9; walk_at "u3") | ((with_reducible show wpAny _ _ (call (Value.ref 44) _) _ _ _); k_dflt (refine' useI (figures_of _ _ _ ?p1) ?k1 ?k2 ?k3 ?k4 ?k5 ?kK ?kd ?ku ?_; (case p1 => walk_at "up"); walk_at "u2"); intro t9 h9 tk9 F9 N9; walk_at "u3"))) | walk_at "wk"))))
    · rename (c.1 : Int).fmod 10 = 0 => hz
      rw [show (10 : Int) = ((10 : Nat) : Int) from rfl, fmodN] at hz
      refine' WhStep.next (c.1 / 10, c.2.1 + 1, _, _) (by k_asm) (by k_asm) (by repeat' (first | exact sub_refl _ | refine sub_cons ?_)) ?hm ?hI ?hμ
      (case hm => (funext y; (try dsimp only); (repeat' split) <;> first | contradiction | rfl | (subst_vars; rfl) | (exfalso; simp_all +decide; done) | (refine int_eq ?ie ?it; (case it => rfl); (case ie => (first | rfl | assumption | exact fdiv10 _ | omega | (simp only [Nat.pow_succ, Int.natCast_mul, Int.natCast_add, Int.natCast_one]; first | done | rfl | omega) | (simp_all; first | done | omega)))) | (simp_all; done)))
      · exact ⟨by dsimp only; omega, by dsimp only; omega, by dsimp only; rw [← c2, strip10_go c0 (by omega)]⟩
      · dsimp only; omega
    all_goals (
      rename ¬ (c.1 : Int).fmod 10 = 0 => hz
      rw [show (10 : Int) = ((10 : Nat) : Int) from rfl, fmodN] at hz
      have hs : strip10 n1 e1 = (c.1, c.2.1) := by rw [← c2, strip10_stop (by omega)]
      have he : cut99 n1 e1 = if 99 < c.2.1 + (nd c.1 : Nat) - 1 then none else if c.2.1 + (nd c.1 : Nat) - 1 < -99 then some (0, 0) else some (((c.1 : Nat) : Int), c.2.1) := by
        unfold cut99
        rw [if_neg hn1, hs])
    · rw [if_pos (by assumption)] at he
      (refine Raise_made rfl ?_; (repeat' (first | ((fail_if_success (first | (with_reducible show wpAny _ _ (exec (Stmt.While _ _ _ _) _) _ _ _) | (with_reducible show wpAny _ _ (exec (Stmt.Raise _ _ _) _) _ _ _) | (with_reducible show WhStep _ _ _ _ _ _ _ _ _ _ _))); (first | (k_here; (with_reducible show wpAny _ _ (call (Value.ref _) _) _ _ _); (first | ((with_reducible show wpAny _ _ (call (Value.ref 51) _) _ _ _); k_dflt (refine' useI (rounded_by _ _ _ _ _ ?p1 ?p2 ?p3) ?k1 ?k2 ?k3 ?k4 ?k5 ?kK ?kd ?ku ?_; (case p1 => walk_at "up"); (case p2 => walk_at "up"); (case p3 => walk_at "up"); walk_at "u2"); intro t9 h9 tk9 F9 N9; walk_at "u3") | ((with_reducible show wpAny _ _ (call (Value.ref 44) _) _ _ _); k_dflt (refine' useI (figures_of _ _ _ ?p1) ?k1 ?k2 ?k3 ?k4 ?k5 ?kK ?kd ?ku ?_; (case p1 => walk_at "up"); walk_at "u2"); intro t9 h9 tk9 F9 N9; walk_at "u3"))) | walk_at "wk")))); k_dflt (refine' call_exc ?k1 ?k2 ?k3 ?k4 ?k5 ?kA ?kF ?kK ?kd ?ku ?kh ?_; (case kA => exact rfl); (case kF => exact rfl); (case kK => exact rfl); (case kh => exact rfl); (case k1 => k_asm); (case k2 => k_asm); (case k3 => k_asm); (case k4 => k_asm); (case k5 => k_asm); (case kd => (show dp + 1 + 4 < recursionLimit; omega)); (case ku => (show un + 3 + 120 < cLine; omega))); intro h7 tk7 e7 t7 D7 oD7 F7 N7 ns7 l7 l8 l9; refine ⟨e7, t7, D7, rfl, ?x34, (N7 _ (.head _)).1, ?xE⟩; (case x34 => exact (show (Mine.K w.params).In _ from by k_asm).keeps F7.keep _ _ (cls34 w)); (case' xE => ((try dsimp only); refine fly_first rfl rfl (by assumption) F7 N7 ns7 l7 l8 l9 ?_; intro h6 R6; (try dsimp only); refine hexc ?hn _ _ _ _ (by assumption) (R6.less (by repeat' (first | exact sub_refl _ | refine sub_cons ?_))))))
      exact he
    · rw [if_neg (by assumption), if_pos (by assumption)] at he
      exact Ret.ii (hret _ he) (by k_asm) (by k_asm) (by repeat' (first | exact sub_refl _ | refine sub_cons ?_)) (by k_mem) (by first | assumption | exact ktn_ltOf (by assumption) | exact ktn_ltOf (And.right (by assumption)) | exact ktn_ltOf (And.right (And.right (by assumption))) | exact ktn_ltOf (And.right (And.right (And.right (by assumption)))) | exact ktn_ltOf (And.right (And.right (And.right (And.right (by assumption))))) | exact ktn_ltOf (And.right (And.right (And.right (And.right (And.right (by assumption)))))) | exact ktn_ltOf (And.right (And.right (And.right (And.right (And.right (And.right (by assumption))))))) | exact ktn_ltOf (And.right (And.right (And.right (And.right (And.right (And.right (And.right (by assumption)))))))) | exact ktn_ltOf (And.right (And.right (And.right (And.right (And.right (And.right (And.right (And.right (by assumption))))))))) | exact ktn_ltOf (And.right (And.right (And.right (And.right (And.right (And.right (And.right (And.right (And.right (by assumption)))))))))) | exact ktn_ltOf (And.right (And.right (And.right (And.right (And.right (And.right (And.right (And.right (And.right (And.right (by assumption))))))))))) | exact ktn_ltOf (And.right (And.right (And.right (And.right (And.right (And.right (And.right (And.right (And.right (And.right (And.right (by assumption))))))))))))) rfl rfl
    · rw [if_neg (by assumption), if_neg (by assumption)] at he
      exact Ret.ii (hret _ he) (by k_asm) (by k_asm) (by repeat' (first | exact sub_refl _ | refine sub_cons ?_)) (by k_mem) (by first | assumption | exact ktn_ltOf (by assumption) | exact ktn_ltOf (And.right (by assumption)) | exact ktn_ltOf (And.right (And.right (by assumption))) | exact ktn_ltOf (And.right (And.right (And.right (by assumption)))) | exact ktn_ltOf (And.right (And.right (And.right (And.right (by assumption))))) | exact ktn_ltOf (And.right (And.right (And.right (And.right (And.right (by assumption)))))) | exact ktn_ltOf (And.right (And.right (And.right (And.right (And.right (And.right (by assumption))))))) | exact ktn_ltOf (And.right (And.right (And.right (And.right (And.right (And.right (And.right (by assumption)))))))) | exact ktn_ltOf (And.right (And.right (And.right (And.right (And.right (And.right (And.right (And.right (by assumption))))))))) | exact ktn_ltOf (And.right (And.right (And.right (And.right (And.right (And.right (And.right (And.right (And.right (by assumption)))))))))) | exact ktn_ltOf (And.right (And.right (And.right (And.right (And.right (And.right (And.right (And.right (And.right (And.right (by assumption))))))))))) | exact ktn_ltOf (And.right (And.right (And.right (And.right (And.right (And.right (And.right (And.right (And.right (And.right (And.right (by assumption))))))))))))) rfl rfl
 case hZ => delta id; exact pair_ _
-- MACROS
-- END

noncomputable def MeetsA {γ : Type} (w : World) (f : Addr) (d u : Nat) (vs : List Value) (args : Led) (o : Option γ) (Out : γ → Value → Led → Prop) (x : Str) : Prop :=
  ∀ (p : Program) (loose : List Str) (mean : ExcName → Option Value) (mg mb : Str → Option Value) (dp un : Nat) (gd : Option (List Code)) (cn : Str) (cs : Scope) (a : Addr) (ccd : Value) (cl : List (Str × Addr)) (outer : List Env) (A₀ : Around) (base h₀ : Heap) (L : Addr) (m : Str → Option Value) (news : Led) (s : Shared) (Q E : Value → Shared → Prop),
    PySem.Challenge.rw_pf0014_01 = PySem.Challenge.rw_pf0014_01 →
    Below A₀ base outer h₀ → Fr h₀ L s.heap m → (Mine.K w.params).In h₀ → News h₀ L s.heap (args ++ news) → Top p loose mean mg mb h₀ → cs.kind = .function → dp + d < recursionLimit → un + u < cLine →
    (∀ r, o = some r → Ret h₀ L m (args ++ news) s Q (Out r)) → (o = none → Exc base h₀ L m (args ++ news) s (envX cn cs L a ccd cl :: outer) x E) → wpAny (model prg w) (ktrTop dp un gd cn cs L a ccd cl outer) (call (.ref f) vs) Q E s
-- MACROS
local macro_rules | `(tactic| walk_at "binaryOp LShift int int") => `(tactic| (k_here; (with_reducible refine lshift_int ?kbn ?kbs ?_); (case kbn => decide); (case kbs => first | decide | decide +kernel)))
-- END
set_option maxHeartbeats 4000000 in
theorem fits16 (w : World) (n0 : Nat) (t u : Tok) : Meets w 65 1 8 [.int (n0 : Int) t, .int 16 u] (OutB (decide (n0 < 32768))) := by
 refine (?fZ : PullF _) ?pZ ?qZ ?hZ
 case fZ => exact fun _ q _ => q
 case pZ =>
  unfold Meets
  k_fill
  intro p loose mean mg mb dp un gd cn cs a ccd cl outer A₀ base h₀ L m news s Q E hrw B F X N T hk hd hu hret
  clear hrw
  refine wpAny_call ?_
  k_dflt cell_enter
  have h16 : (1 * 2 ^ ((16 : Int) - 1).toNat : Int) = 32768 := by decide
  (repeat' (first | ((fail_if_success (first | (with_reducible show wpAny _ _ (exec (Stmt.While _ _ _ _) _) _ _ _) | (with_reducible show wpAny _ _ (exec (Stmt.Raise _ _ _) _) _ _ _) | (with_reducible show WhStep _ _ _ _ _ _ _ _ _ _ _))); (first | (k_here; (with_reducible show wpAny _ _ (call (Value.ref _) _) _ _ _); (first | ((with_reducible show wpAny _ _ (call (Value.ref 58) _) _ _ _); k_dflt (refine' useXII (made _ _ _ _ _ _ _ ?p1 ?p2) ?k1 ?k2 ?k3 ?k4 ?k5 ?kK ?kd ?ku ?kx ?kq; (case p1 => walk_at "up"); (case p2 => walk_at "up"); walk_at "u2"; (case' kx => walk_at "uf")); (case' kq => (intro g9 D9 a9 b9 h9 tk9 hr9 F9 N9 l9; (try k_lt l9); walk_at "u3"))))) | walk_at "wk"))))
  · refine Ret.bool hret (by k_asm) (by k_asm) (by repeat' (first | exact sub_refl _ | refine sub_cons ?_)) ?_
    rw [h16]
    exact decide_eq_decide.mpr (by omega)
  · exfalso
    rename ¬ -(1 * 2 ^ ((16 : Int) - 1).toNat : Int) ≤ _ => hz
    rw [h16] at hz
    omega
 case hZ => delta id; exact pair_ _
-- MACROS
-- END
set_option maxHeartbeats 4000000 in
theorem decimal_of_int (w : World) (n0 dg : Nat) (t v : Tok) (hn : n0 < 10 ^ 150) (hdg : 1 ≤ dg) : MeetsX w 72 12 240 [.int (n0 : Int) t, .int (dg : Int) v] (mk n0 0 dg) (fun r => OutII r.1 r.2) (Str.ofString "OV") := by
 refine (?fZ : PullF _) ?pZ ?qZ ?hZ
 case fZ => exact fun _ q _ => q
 case pZ =>
  unfold MeetsX
  k_fill
  intro p loose mean mg mb dp un gd cn cs a ccd cl outer A₀ base h₀ L m news s Q E hrw B F X N T hk hd hu hret hexc
  clear hrw
  refine wpAny_call ?_
  k_dflt cell_enter
  (repeat' (first | ((fail_if_success (first | (with_reducible show wpAny _ _ (exec (Stmt.While _ _ _ _) _) _ _ _) | (with_reducible show wpAny _ _ (exec (Stmt.Raise _ _ _) _) _ _ _) | (with_reducible show WhStep _ _ _ _ _ _ _ _ _ _ _))); (first | (k_here; (with_reducible show wpAny _ _ (call (Value.ref _) _) _ _ _); (first | ((with_reducible show wpAny _ _ (call (Value.ref 65) _) _ _ _); k_dflt (refine' useB (fits16 _ _ _ _) ?k1 ?k2 ?k3 ?k4 ?k5 ?kK ?kd ?ku ?_; walk_at "u2"); intro h9 tk9 F9 N9; walk_at "u3") | ((with_reducible show wpAny _ _ (call (Value.ref 58) _) _ _ _); k_dflt (refine' useXII (made _ _ _ _ _ _ _ ?p1 ?p2) ?k1 ?k2 ?k3 ?k4 ?k5 ?kK ?kd ?ku ?kx ?kq; (case p1 => walk_at "up"); (case p2 => walk_at "up"); walk_at "u2"; (case' kx => walk_at "uf")); (case' kq => (intro g9 D9 a9 b9 h9 tk9 hr9 F9 N9 l9; (try k_lt l9); walk_at "u3"))))) | walk_at "wk"))))
  exact Ret.ii (hret _ (by assumption)) (by k_asm) (by k_asm) (by repeat' (first | exact sub_refl _ | refine sub_cons ?_)) (by k_mem) (by first | assumption | exact ktn_ltOf (by assumption) | exact ktn_ltOf (And.right (by assumption)) | exact ktn_ltOf (And.right (And.right (by assumption))) | exact ktn_ltOf (And.right (And.right (And.right (by assumption)))) | exact ktn_ltOf (And.right (And.right (And.right (And.right (by assumption))))) | exact ktn_ltOf (And.right (And.right (And.right (And.right (And.right (by assumption)))))) | exact ktn_ltOf (And.right (And.right (And.right (And.right (And.right (And.right (by assumption))))))) | exact ktn_ltOf (And.right (And.right (And.right (And.right (And.right (And.right (And.right (by assumption)))))))) | exact ktn_ltOf (And.right (And.right (And.right (And.right (And.right (And.right (And.right (And.right (by assumption))))))))) | exact ktn_ltOf (And.right (And.right (And.right (And.right (And.right (And.right (And.right (And.right (And.right (by assumption)))))))))) | exact ktn_ltOf (And.right (And.right (And.right (And.right (And.right (And.right (And.right (And.right (And.right (And.right (by assumption))))))))))) | exact ktn_ltOf (And.right (And.right (And.right (And.right (And.right (And.right (And.right (And.right (And.right (And.right (And.right (by assumption))))))))))))) rfl rfl
 case hZ => delta id; exact pair_ _
-- MACROS
-- END
set_option maxHeartbeats 4000000 in
theorem decimal_of_ref (w : World) (n0 dg : Nat) (e0 : Int) (D2 : Addr) (b b' v : Tok) (hn : n0 < 10 ^ 150) (hdg : 1 ≤ dg) : MeetsA w 72 12 240 [.ref D2, .int (dg : Int) v] [(D2, tup [.int (n0 : Int) b, .int e0 b'])] (mk n0 e0 dg) (fun r => OutII r.1 r.2) (Str.ofString "OV") := by
 refine (?fZ : PullF _) ?pZ ?qZ ?hZ
 case fZ => exact fun _ q _ => q
 case pZ =>
  unfold MeetsA
  k_fill
  intro p loose mean mg mb dp un gd cn cs a ccd cl outer A₀ base h₀ L m news s Q E hrw B F X N T hk hd hu hret hexc
  clear hrw
  dsimp only [List.cons_append, List.nil_append] at N hret hexc
  refine wpAny_call ?_
  k_dflt cell_enter
  (repeat' (first | ((fail_if_success (first | (with_reducible show wpAny _ _ (exec (Stmt.While _ _ _ _) _) _ _ _) | (with_reducible show wpAny _ _ (exec (Stmt.Raise _ _ _) _) _ _ _) | (with_reducible show WhStep _ _ _ _ _ _ _ _ _ _ _))); (first | (k_here; (with_reducible show wpAny _ _ (call (Value.ref _) _) _ _ _); (first | ((with_reducible show wpAny _ _ (call (Value.ref 72) (Value.int _ _ :: _)) _ _ _); k_dflt (refine' useXII (decimal_of_int _ _ _ _ _ ?p1 ?p2) ?k1 ?k2 ?k3 ?k4 ?k5 ?kK ?kd ?ku ?kx ?kq; (case p1 => walk_at "up"); (case p2 => walk_at "up"); walk_at "u2"; (case' kx => walk_at "uf")); (case' kq => (intro g9 D9 a9 b9 h9 tk9 hr9 F9 N9 l9; (try k_lt l9); walk_at "u3"))) | ((with_reducible show wpAny _ _ (call (Value.ref 65) _) _ _ _); k_dflt (refine' useB (fits16 _ _ _ _) ?k1 ?k2 ?k3 ?k4 ?k5 ?kK ?kd ?ku ?_; walk_at "u2"); intro h9 tk9 F9 N9; walk_at "u3") | ((with_reducible show wpAny _ _ (call (Value.ref 58) _) _ _ _); k_dflt (refine' useXII (made _ _ _ _ _ _ _ ?p1 ?p2) ?k1 ?k2 ?k3 ?k4 ?k5 ?kK ?kd ?ku ?kx ?kq; (case p1 => walk_at "up"); (case p2 => walk_at "up"); walk_at "u2"; (case' kx => walk_at "uf")); (case' kq => (intro g9 D9 a9 b9 h9 tk9 hr9 F9 N9 l9; (try k_lt l9); walk_at "u3"))))) | walk_at "wk"))))
  exact Ret.ii (hret _ (by assumption)) (by k_asm) (by k_asm) (by repeat' (first | exact sub_refl _ | refine sub_cons ?_)) (by k_mem) (by first | assumption | exact ktn_ltOf (by assumption) | exact ktn_ltOf (And.right (by assumption)) | exact ktn_ltOf (And.right (And.right (by assumption))) | exact ktn_ltOf (And.right (And.right (And.right (by assumption)))) | exact ktn_ltOf (And.right (And.right (And.right (And.right (by assumption))))) | exact ktn_ltOf (And.right (And.right (And.right (And.right (And.right (by assumption)))))) | exact ktn_ltOf (And.right (And.right (And.right (And.right (And.right (And.right (by assumption))))))) | exact ktn_ltOf (And.right (And.right (And.right (And.right (And.right (And.right (And.right (by assumption)))))))) | exact ktn_ltOf (And.right (And.right (And.right (And.right (And.right (And.right (And.right (And.right (by assumption))))))))) | exact ktn_ltOf (And.right (And.right (And.right (And.right (And.right (And.right (And.right (And.right (And.right (by assumption)))))))))) | exact ktn_ltOf (And.right (And.right (And.right (And.right (And.right (And.right (And.right (And.right (And.right (And.right (by assumption))))))))))) | exact ktn_ltOf (And.right (And.right (And.right (And.right (And.right (And.right (And.right (And.right (And.right (And.right (And.right (by assumption))))))))))))) rfl rfl
 case hZ => delta id; exact pair_ _
section
variable {γ : Type} {w : World} {f : Addr} {d u : Nat} {vs : List Value} {args : Led} {o : Option γ} {Out : γ → Value → Led → Prop} {x : Str} {p : Program} {loose : List Str} {mean : ExcName → Option Value} {mg mb : Str → Option Value} {dp un : Nat} {gd : Option (List Code)} {cn : Str} {cs : Scope} {a : Addr} {ccd : Value} {cl : List (Str × Addr)} {outer : List Env} {A₀ : Around} {base h₀ : Heap} {L : Addr} {m : Str → Option Value} {news : Led} {s : Shared} {Q E : Value → Shared → Prop}
theorem useA (C : MeetsA w f d u vs args o Out x) (B : Below A₀ base outer h₀) (F : Fr h₀ L s.heap m) (X : (Mine.K w.params).In h₀) (N : News h₀ L s.heap news) (T : Top p loose mean mg mb h₀) (hk : cs.kind = .function) (hd : dp + d < recursionLimit) (hu : un + u < cLine) (ha : ∀ q ∈ args, q ∈ news)
    (kx : o = none → ∀ e g' h' tk', Fr h₀ L g' m → FlyD base g' (envX cn cs L a ccd cl :: outer) e x news h' → E (.ref e) { s with heap := h', toks := tk' })
    (k : ∀ r v tl h' tk', o = some r → Fr h₀ L h' m → News h₀ L h' (tl ++ news) → (∀ q ∈ news, ∀ p ∈ tl, q.1 < p.1) → Out r v tl → Q v { s with heap := h', toks := tk' }) :
    wpAny (model prg w) (ktrTop dp un gd cn cs L a ccd cl outer) (call (.ref f) vs) Q E s :=
  C p loose mean mg mb dp un gd cn cs a ccd cl outer A₀ base h₀ L m news s Q E rfl B F X (fun q hq => (List.mem_append.mp hq).elim (fun z => N q (ha q z)) (N q)) T hk hd hu
    (fun r hr v tl h' tk' F' N' l ho => k r v tl h' tk' hr F' (fun q hq => N' q ((List.mem_append.mp hq).elim (fun z => List.mem_append_left _ z) fun z => List.mem_append_right _ (List.mem_append_right _ z))) (fun q hq => l q (List.mem_append_right _ hq)) ho)
    fun hn e g' h' tk' F' R => kx hn e g' h' tk' F' (R.less fun q hq => List.mem_append_right _ hq)
theorem useAII {r : γ → Int × Int} (C : MeetsA w f d u vs args o (fun g => OutII (r g).1 (r g).2) x) (B : Below A₀ base outer h₀) (F : Fr h₀ L s.heap m) (X : (Mine.K w.params).In h₀) (N : News h₀ L s.heap news) (T : Top p loose mean mg mb h₀) (hk : cs.kind = .function) (hd : dp + d < recursionLimit) (hu : un + u < cLine) (ha : ∀ q ∈ args, q ∈ news)
    (kx : o = none → ∀ e g' h' tk', Fr h₀ L g' m → FlyD base g' (envX cn cs L a ccd cl :: outer) e x news h' → E (.ref e) { s with heap := h', toks := tk' })
    (k : ∀ g D a b h' tk', o = some g → Fr h₀ L h' m → News h₀ L h' ((D, tup [.int (r g).1 a, .int (r g).2 b]) :: news) → (∀ q ∈ news, q.1 < D) → Q (.ref D) { s with heap := h', toks := tk' }) :
    wpAny (model prg w) (ktrTop dp un gd cn cs L a ccd cl outer) (call (.ref f) vs) Q E s :=
  useA C B F X N T hk hd hu ha kx fun g v tl h' tk' hr F' N' l ho => by
    obtain ⟨D, a, b, rfl, rfl⟩ := ho
    exact k g D a b h' tk' hr F' N' fun q hq => l q hq (D, _) (.head _)
end
theorem ha1 {q : Addr × Obj} {news : Led} (h : q ∈ news) : ∀ p ∈ [q], p ∈ news := fun p hp => by rw [List.mem_singleton.mp hp]; exact h
theorem ha2 {q q' : Addr × Obj} {news : Led} (h : q ∈ news) (h' : q' ∈ news) : ∀ p ∈ [q, q'], p ∈ news := fun p hp => by
  rcases List.mem_cons.mp hp with rfl | hp
  · exact h
  · rw [List.mem_singleton.mp hp]; exact h'
-- MACROS
-- END
abbrev Wt := Sum Int (Int × Int)
noncomputable def OutW (r : Wt) (v : Value) (tl : Led) : Prop := match r with
  | .inl n => OutI n v tl
  | .inr r => OutII r.1 r.2 v tl
noncomputable def worth (dg : Nat) : Tr → Option Wt
  | .whole n => if n < 32768 then some (.inl n) else (mk n 0 dg).map .inr
  | .dec c e => (mk c e dg).map .inr
set_option maxHeartbeats 4000000 in
theorem worth_whole (w : World) (n0 dg : Nat) (D : Addr) (t b b' v : Tok) (hn : n0 < 10 ^ 150) (hdg : 1 ≤ dg) : MeetsA w 389 16 300 [.ref D, .int 16 t, .int (dg : Int) v] [(D, tup [.str (Str.ofString "whole") b, .int (n0 : Int) b'])] (worth dg (.whole n0)) OutW (Str.ofString "OV") := by
 refine (?fZ : PullF _) ?pZ ?qZ ?hZ
 case fZ => exact fun _ q _ => q
 case pZ =>
  unfold MeetsA
  k_fill
  intro p loose mean mg mb dp un gd cn cs a ccd cl outer A₀ base h₀ L m news s Q E hrw B F X N T hk hd hu hret hexc
  clear hrw
  dsimp only [List.cons_append, List.nil_append] at N hret hexc
  refine wpAny_call ?_
  k_dflt cell_enter
  (repeat' (first | ((fail_if_success (first | (with_reducible show wpAny _ _ (exec (Stmt.While _ _ _ _) _) _ _ _) | (with_reducible show wpAny _ _ (exec (Stmt.Raise _ _ _) _) _ _ _) | (with_reducible show WhStep _ _ _ _ _ _ _ _ _ _ _))); (first | (k_here; (with_reducible show wpAny _ _ (call (Value.ref _) _) _ _ _); (first | ((with_reducible show wpAny _ _ (call (Value.ref 72) (Value.ref _ :: _)) _ _ _); k_dflt (refine' useAII (decimal_of_ref _ _ _ _ _ _ _ _ ?p1 ?p2) ?k1 ?k2 ?k3 ?k4 ?k5 ?kK ?kd ?ku (ha1 ?kh) ?kx ?kq; walk_at "u2"; (case kh => k_mem); (case p1 => walk_at "up"); (case p2 => walk_at "up"); (case' kx => walk_at "uf")); (case' kq => (intro g9 D9 a9 b9 h9 tk9 hr9 F9 N9 l9; (try k_lt l9); walk_at "u3"))) | ((with_reducible show wpAny _ _ (call (Value.ref 72) (Value.int _ _ :: _)) _ _ _); k_dflt (refine' useXII (decimal_of_int _ _ _ _ _ ?p1 ?p2) ?k1 ?k2 ?k3 ?k4 ?k5 ?kK ?kd ?ku ?kx ?kq; (case p1 => walk_at "up"); (case p2 => walk_at "up"); walk_at "u2"; (case' kx => walk_at "uf")); (case' kq => (intro g9 D9 a9 b9 h9 tk9 hr9 F9 N9 l9; (try k_lt l9); walk_at "u3"))) | ((with_reducible show wpAny _ _ (call (Value.ref 65) _) _ _ _); k_dflt (refine' useB (fits16 _ _ _ _) ?k1 ?k2 ?k3 ?k4 ?k5 ?kK ?kd ?ku ?_; walk_at "u2"); intro h9 tk9 F9 N9; walk_at "u3") | ((with_reducible show wpAny _ _ (call (Value.ref 58) _) _ _ _); k_dflt (refine' useXII (made _ _ _ _ _ _ _ ?p1 ?p2) ?k1 ?k2 ?k3 ?k4 ?k5 ?kK ?kd ?ku ?kx ?kq; (case p1 => walk_at "up"); (case p2 => walk_at "up"); walk_at "u2"; (case' kx => walk_at "uf")); (case' kq => (intro g9 D9 a9 b9 h9 tk9 hr9 F9 N9 l9; (try k_lt l9); walk_at "u3"))))) | walk_at "wk"))))
  · have hw : worth dg (.whole n0) = some (.inl n0) := if_pos (by assumption)
    exact Ret.int (hret _ hw : Ret _ _ _ _ _ _ (OutI (n0 : Int))) (by k_asm) (by k_asm) (by repeat' (first | exact sub_refl _ | refine sub_cons ?_)) rfl
  · rename mk n0 0 dg = some _ => hr
    have hw : worth dg (.whole n0) = some (.inr _) := (if_neg (by assumption)).trans (by rw [hr]; rfl)
    exact Ret.ii (hret _ hw : Ret _ _ _ _ _ _ (OutII _ _)) (by k_asm) (by k_asm) (by repeat' (first | exact sub_refl _ | refine sub_cons ?_)) (by k_mem) (by first | assumption | exact ktn_ltOf (by assumption) | exact ktn_ltOf (And.right (by assumption)) | exact ktn_ltOf (And.right (And.right (by assumption))) | exact ktn_ltOf (And.right (And.right (And.right (by assumption)))) | exact ktn_ltOf (And.right (And.right (And.right (And.right (by assumption))))) | exact ktn_ltOf (And.right (And.right (And.right (And.right (And.right (by assumption)))))) | exact ktn_ltOf (And.right (And.right (And.right (And.right (And.right (And.right (by assumption))))))) | exact ktn_ltOf (And.right (And.right (And.right (And.right (And.right (And.right (And.right (by assumption)))))))) | exact ktn_ltOf (And.right (And.right (And.right (And.right (And.right (And.right (And.right (And.right (by assumption))))))))) | exact ktn_ltOf (And.right (And.right (And.right (And.right (And.right (And.right (And.right (And.right (And.right (by assumption)))))))))) | exact ktn_ltOf (And.right (And.right (And.right (And.right (And.right (And.right (And.right (And.right (And.right (And.right (by assumption))))))))))) | exact ktn_ltOf (And.right (And.right (And.right (And.right (And.right (And.right (And.right (And.right (And.right (And.right (And.right (by assumption))))))))))))) rfl rfl
  · rename mk n0 0 dg = none => hr
    exact (if_neg (by assumption)).trans (by rw [hr]; rfl)
 case hZ => delta id; exact pair_ _
-- MACROS
-- END
set_option maxHeartbeats 4000000 in
theorem worth_dec (w : World) (n0 dg : Nat) (e0 : Int) (D D2 : Addr) (t b c c' v : Tok) (hn : n0 < 10 ^ 150) (hdg : 1 ≤ dg) : MeetsA w 389 16 300 [.ref D, .int 16 t, .int (dg : Int) v] [(D, tup [.str (Str.ofString "decimal") b, .ref D2]), (D2, tup [.int (n0 : Int) c, .int e0 c'])] (worth dg (.dec n0 e0)) OutW (Str.ofString "OV") := by
 refine (?fZ : PullF _) ?pZ ?qZ ?hZ
 case fZ => exact fun _ q _ => q
 case pZ =>
  unfold MeetsA
  k_fill
  intro p loose mean mg mb dp un gd cn cs a ccd cl outer A₀ base h₀ L m news s Q E hrw B F X N T hk hd hu hret hexc
  clear hrw
  dsimp only [List.cons_append, List.nil_append] at N hret hexc
  refine wpAny_call ?_
  k_dflt cell_enter
  (repeat' (first | ((fail_if_success (first | (with_reducible show wpAny _ _ (exec (Stmt.While _ _ _ _) _) _ _ _) | (with_reducible show wpAny _ _ (exec (Stmt.Raise _ _ _) _) _ _ _) | (with_reducible show WhStep _ _ _ _ _ _ _ _ _ _ _))); (first | (k_here; (with_reducible show wpAny _ _ (call (Value.ref _) _) _ _ _); (first | ((with_reducible show wpAny _ _ (call (Value.ref 72) (Value.ref _ :: _)) _ _ _); k_dflt (refine' useAII (decimal_of_ref _ _ _ _ _ _ _ _ ?p1 ?p2) ?k1 ?k2 ?k3 ?k4 ?k5 ?kK ?kd ?ku (ha1 ?kh) ?kx ?kq; walk_at "u2"; (case kh => k_mem); (case p1 => walk_at "up"); (case p2 => walk_at "up"); (case' kx => walk_at "uf")); (case' kq => (intro g9 D9 a9 b9 h9 tk9 hr9 F9 N9 l9; (try k_lt l9); walk_at "u3"))) | ((with_reducible show wpAny _ _ (call (Value.ref 72) (Value.int _ _ :: _)) _ _ _); k_dflt (refine' useXII (decimal_of_int _ _ _ _ _ ?p1 ?p2) ?k1 ?k2 ?k3 ?k4 ?k5 ?kK ?kd ?ku ?kx ?kq; (case p1 => walk_at "up"); (case p2 => walk_at "up"); walk_at "u2"; (case' kx => walk_at "uf")); (case' kq => (intro g9 D9 a9 b9 h9 tk9 hr9 F9 N9 l9; (try k_lt l9); walk_at "u3"))) | ((with_reducible show wpAny _ _ (call (Value.ref 65) _) _ _ _); k_dflt (refine' useB (fits16 _ _ _ _) ?k1 ?k2 ?k3 ?k4 ?k5 ?kK ?kd ?ku ?_; walk_at "u2"); intro h9 tk9 F9 N9; walk_at "u3") | ((with_reducible show wpAny _ _ (call (Value.ref 58) _) _ _ _); k_dflt (refine' useXII (made _ _ _ _ _ _ _ ?p1 ?p2) ?k1 ?k2 ?k3 ?k4 ?k5 ?kK ?kd ?ku ?kx ?kq; (case p1 => walk_at "up"); (case p2 => walk_at "up"); walk_at "u2"; (case' kx => walk_at "uf")); (case' kq => (intro g9 D9 a9 b9 h9 tk9 hr9 F9 N9 l9; (try k_lt l9); walk_at "u3"))))) | walk_at "wk"))))
  · rename mk n0 e0 dg = some _ => hr
    have hw : worth dg (.dec n0 e0) = some (.inr _) := (congrArg (fun z : Option (Int × Int) => z.map (Sum.inr (α := Int))) hr)
    exact Ret.ii (hret _ hw : Ret _ _ _ _ _ _ (OutII _ _)) (by k_asm) (by k_asm) (by repeat' (first | exact sub_refl _ | refine sub_cons ?_)) (by k_mem) (by first | assumption | exact ktn_ltOf (by assumption) | exact ktn_ltOf (And.right (by assumption)) | exact ktn_ltOf (And.right (And.right (by assumption))) | exact ktn_ltOf (And.right (And.right (And.right (by assumption)))) | exact ktn_ltOf (And.right (And.right (And.right (And.right (by assumption))))) | exact ktn_ltOf (And.right (And.right (And.right (And.right (And.right (by assumption)))))) | exact ktn_ltOf (And.right (And.right (And.right (And.right (And.right (And.right (by assumption))))))) | exact ktn_ltOf (And.right (And.right (And.right (And.right (And.right (And.right (And.right (by assumption)))))))) | exact ktn_ltOf (And.right (And.right (And.right (And.right (And.right (And.right (And.right (And.right (by assumption))))))))) | exact ktn_ltOf (And.right (And.right (And.right (And.right (And.right (And.right (And.right (And.right (And.right (by assumption)))))))))) | exact ktn_ltOf (And.right (And.right (And.right (And.right (And.right (And.right (And.right (And.right (And.right (And.right (by assumption))))))))))) | exact ktn_ltOf (And.right (And.right (And.right (And.right (And.right (And.right (And.right (And.right (And.right (And.right (And.right (by assumption))))))))))))) rfl rfl
  · rename mk n0 e0 dg = none => hr
    exact (congrArg (fun z : Option (Int × Int) => z.map (Sum.inr (α := Int))) hr)
 case hZ => delta id; exact pair_ _
-- MACROS
-- END

set_option maxHeartbeats 4000000 in
theorem run_of_figures (w : World) (x : Str) (n0 : Nat) (t u : Tok) (hx : x.length ≤ 60) : Meets w 361 2 16 [.str x t, .int (n0 : Int) u] (OutIII (val (run (sgs x) n0) : Nat) ((run (sgs x) n0).length : Nat) ((n0 + (run (sgs x) n0).length : Nat) : Int)) := by
 refine (?fZ : PullF _) ?pZ ?qZ ?hZ
 case fZ => exact fun _ q _ => q
 case pZ =>
  unfold Meets
  k_fill
  intro p loose mean mg mb dp un gd cn cs a ccd cl outer A₀ base h₀ L m news s Q E hrw B F X N T hk hd hu hret
  clear hrw
  refine wpAny_call ?_
  k_dflt cell_enter
  have h60 := run_len60 n0 hx
  have hx0 : x.length ≤ 1048576 := Nat.le_trans hx (by decide)
  (repeat' (first | ((fail_if_success (first | (with_reducible show wpAny _ _ (exec (Stmt.While _ _ _ _) _) _ _ _) | (with_reducible show wpAny _ _ (exec (Stmt.Raise _ _ _) _) _ _ _) | (with_reducible show WhStep _ _ _ _ _ _ _ _ _ _ _))); (first | (k_here; (with_reducible show wpAny _ _ (call (Value.ref _) _) _ _ _); (first | ((with_reducible show wpAny _ _ (call (Value.ref 58) _) _ _ _); k_dflt (refine' useXII (made _ _ _ _ _ _ _ ?p1 ?p2) ?k1 ?k2 ?k3 ?k4 ?k5 ?kK ?kd ?ku ?kx ?kq; (case p1 => walk_at "up"); (case p2 => walk_at "up"); walk_at "u2"; (case' kx => walk_at "uf")); (case' kq => (intro g9 D9 a9 b9 h9 tk9 hr9 F9 N9 l9; (try k_lt l9); walk_at "u3"))) | ((with_reducible show wpAny _ _ (call (Value.ref 44) _) _ _ _); k_dflt (refine' useI (figures_of _ _ _ ?p1) ?k1 ?k2 ?k3 ?k4 ?k5 ?kK ?kd ?ku ?_; (case p1 => walk_at "up"); walk_at "u2"); intro t9 h9 tk9 F9 N9; walk_at "u3"))) | walk_at "wk"))))
  k_dflt (refine' while_st (fun m c y => if y = Str.ofString "found" then some (.int ((val ((run (sgs x) n0).take c.1) : Nat) : Int) c.2.1) else if y = Str.ofString "at" then some (.int ((n0 + c.1 : Nat) : Int) c.2.2) else m y) (fun c : Nat × Tok × Tok => c.1 ≤ (run (sgs x) n0).length) (fun c => x.length - c.1) (0, _, _) ?w1 ?w2 ?w3 ?w4 ?w5 ?w6)
  (case w1 => k_asm); (case w2 => k_asm); (case w3 => (funext y; (try dsimp only); (repeat' split) <;> first | contradiction | rfl | (subst_vars; rfl) | (exfalso; simp_all +decide; done) | (refine int_eq ?ie ?it; (case it => rfl); (case ie => (first | rfl | assumption | exact fdiv10 _ | omega | (simp only [Nat.pow_succ, Int.natCast_mul, Int.natCast_add, Int.natCast_one]; first | done | rfl | omega) | (simp_all; first | done | omega)))) | (simp_all; done))); (case w6 => with_unfolding_all passes_own); (case' w5 => (intro c h₁ tk₁ hI F₁ N₁; (try k_sweep); (try dsimp only); (try k_fold)))
  (case w4 => exact Nat.zero_le _)
  have hI : c.1 ≤ (run (sgs x) n0).length := hI
  have hln := sgs_len x
  (repeat' (first | ((fail_if_success (first | (with_reducible show wpAny _ _ (exec (Stmt.While _ _ _ _) _) _ _ _) | (with_reducible show wpAny _ _ (exec (Stmt.Raise _ _ _) _) _ _ _) | (with_reducible show WhStep _ _ _ _ _ _ _ _ _ _ _))); (first | (k_here; (with_reducible show wpAny _ _ (call (Value.ref _) _) _ _ _); (first | ((with_reducible show wpAny _ _ (call (Value.ref 58) _) _ _ _); k_dflt (refine' useXII (made _ _ _ _ _ _ _ ?p1 ?p2) ?k1 ?k2 ?k3 ?k4 ?k5 ?kK ?kd ?ku ?kx ?kq; (case p1 => walk_at "up"); (case p2 => walk_at "up"); walk_at "u2"; (case' kx => walk_at "uf")); (case' kq => (intro g9 D9 a9 b9 h9 tk9 hr9 F9 N9 l9; (try k_lt l9); walk_at "u3"))) | ((with_reducible show wpAny _ _ (call (Value.ref 44) _) _ _ _); k_dflt (refine' useI (figures_of _ _ _ ?p1) ?k1 ?k2 ?k3 ?k4 ?k5 ?kK ?kd ?ku ?_; (case p1 => walk_at "up"); walk_at "u2"); intro t9 h9 tk9 F9 N9; walk_at "u3"))) | walk_at "wk"))))
  · have hs := run_stop hI (.inl (item_noD (x := x) (i := ((n0 + c.1 : Nat) : Int)) (by omega) (by omega) (.inl (by assumption))))
    refine Ret.iii hret (by k_asm) (by k_asm) (by repeat' (first | exact sub_refl _ | refine sub_cons ?_)) (by k_mem) (by first | assumption | exact ktn_ltOf (by assumption) | exact ktn_ltOf (And.right (by assumption)) | exact ktn_ltOf (And.right (And.right (by assumption))) | exact ktn_ltOf (And.right (And.right (And.right (by assumption)))) | exact ktn_ltOf (And.right (And.right (And.right (And.right (by assumption))))) | exact ktn_ltOf (And.right (And.right (And.right (And.right (And.right (by assumption)))))) | exact ktn_ltOf (And.right (And.right (And.right (And.right (And.right (And.right (by assumption))))))) | exact ktn_ltOf (And.right (And.right (And.right (And.right (And.right (And.right (And.right (by assumption)))))))) | exact ktn_ltOf (And.right (And.right (And.right (And.right (And.right (And.right (And.right (And.right (by assumption))))))))) | exact ktn_ltOf (And.right (And.right (And.right (And.right (And.right (And.right (And.right (And.right (And.right (by assumption)))))))))) | exact ktn_ltOf (And.right (And.right (And.right (And.right (And.right (And.right (And.right (And.right (And.right (And.right (by assumption))))))))))) | exact ktn_ltOf (And.right (And.right (And.right (And.right (And.right (And.right (And.right (And.right (And.right (And.right (And.right (by assumption))))))))))))) ?_ ?_ ?_
    · rw [hs, List.take_length]
    · omega
    · omega
  · have hs := run_stop hI (.inl (item_noD (x := x) (i := ((n0 + c.1 : Nat) : Int)) (by omega) (by omega) (.inr (by assumption))))
    refine Ret.iii hret (by k_asm) (by k_asm) (by repeat' (first | exact sub_refl _ | refine sub_cons ?_)) (by k_mem) (by first | assumption | exact ktn_ltOf (by assumption) | exact ktn_ltOf (And.right (by assumption)) | exact ktn_ltOf (And.right (And.right (by assumption))) | exact ktn_ltOf (And.right (And.right (And.right (by assumption)))) | exact ktn_ltOf (And.right (And.right (And.right (And.right (by assumption))))) | exact ktn_ltOf (And.right (And.right (And.right (And.right (And.right (by assumption)))))) | exact ktn_ltOf (And.right (And.right (And.right (And.right (And.right (And.right (by assumption))))))) | exact ktn_ltOf (And.right (And.right (And.right (And.right (And.right (And.right (And.right (by assumption)))))))) | exact ktn_ltOf (And.right (And.right (And.right (And.right (And.right (And.right (And.right (And.right (by assumption))))))))) | exact ktn_ltOf (And.right (And.right (And.right (And.right (And.right (And.right (And.right (And.right (And.right (by assumption)))))))))) | exact ktn_ltOf (And.right (And.right (And.right (And.right (And.right (And.right (And.right (And.right (And.right (And.right (by assumption))))))))))) | exact ktn_ltOf (And.right (And.right (And.right (And.right (And.right (And.right (And.right (And.right (And.right (And.right (And.right (by assumption))))))))))))) ?_ ?_ ?_
    · rw [hs, List.take_length]
    · omega
    · omega
  · have hg := run_go hI (by omega) (item_isD (x := x) (i := ((n0 + c.1 : Nat) : Int)) (by omega) (by omega) (by assumption) (by assumption))
    have hv := val_step hg (by omega) (item_isD (x := x) (i := ((n0 + c.1 : Nat) : Int)) (by omega) (by omega) (by assumption) (by assumption))
    refine' WhStep.next (c.1 + 1, _, _) (by k_asm) (by k_asm) (by repeat' (first | exact sub_refl _ | refine sub_cons ?_)) ?hm ?hI ?hμ
    (case hm => (funext y; (try dsimp only); (repeat' split) <;> first | contradiction | rfl | (subst_vars; rfl) | (exfalso; simp_all +decide; done) | (refine int_eq ?ie ?it; (case it => rfl); (case ie => (first | rfl | assumption | exact fdiv10 _ | omega | (simp only [Nat.pow_succ, Int.natCast_mul, Int.natCast_add, Int.natCast_one]; first | done | rfl | omega) | (simp_all; first | done | omega)))) | (simp_all; done)))
    · exact hg
    · dsimp only; omega
  · have hs := run_stop (l := sgs x) hI (.inr (by omega))
    refine Ret.iii hret (by k_asm) (by k_asm) (by repeat' (first | exact sub_refl _ | refine sub_cons ?_)) (by k_mem) (by first | assumption | exact ktn_ltOf (by assumption) | exact ktn_ltOf (And.right (by assumption)) | exact ktn_ltOf (And.right (And.right (by assumption))) | exact ktn_ltOf (And.right (And.right (And.right (by assumption)))) | exact ktn_ltOf (And.right (And.right (And.right (And.right (by assumption))))) | exact ktn_ltOf (And.right (And.right (And.right (And.right (And.right (by assumption)))))) | exact ktn_ltOf (And.right (And.right (And.right (And.right (And.right (And.right (by assumption))))))) | exact ktn_ltOf (And.right (And.right (And.right (And.right (And.right (And.right (And.right (by assumption)))))))) | exact ktn_ltOf (And.right (And.right (And.right (And.right (And.right (And.right (And.right (And.right (by assumption))))))))) | exact ktn_ltOf (And.right (And.right (And.right (And.right (And.right (And.right (And.right (And.right (And.right (by assumption)))))))))) | exact ktn_ltOf (And.right (And.right (And.right (And.right (And.right (And.right (And.right (And.right (And.right (And.right (by assumption))))))))))) | exact ktn_ltOf (And.right (And.right (And.right (And.right (And.right (And.right (And.right (And.right (And.right (And.right (And.right (by assumption))))))))))))) ?_ ?_ ?_
    · rw [hs, List.take_length]
    · omega
    · omega
 case hZ => delta id; exact pair_ _
-- MACROS
-- END
noncomputable def told (n : Nat) (e : Int) (dg : Nat) : Option (Int × Int) := if n = 0 ∨ e + (nd n : Nat) - 1 < -198 then some (0, 0) else if 198 < e + (nd n : Nat) - 1 then none else mk n e dg
/-- a pair of ints, new or the one that stands -/
noncomputable def OutN (x y : Int) (r : Value) (tl : Led) : Prop := OutII x y r tl ∨ (tl = [] ∧ r = .ref 354 ∧ x = 0 ∧ y = 0)
theorem Ret.same {h₀ : Heap} {L : Addr} {m : Str → Option Value} {news : Led} {s : Shared} {Q : Value → Shared → Prop} {Out : Value → Led → Prop} {r : Value} {h' : Heap} {tk' : Nat} (H : Ret h₀ L m news s Q Out) (F : Fr h₀ L h' m) {news' : Led} (N : News h₀ L h' news') (hs : ∀ q ∈ news, q ∈ news') (e : Out r []) : Q r { s with heap := h', toks := tk' } :=
  H r [] h' tk' F (fun q hq => N q (hs q hq)) (fun _ _ _ h => nomatch h) e
set_option maxHeartbeats 4000000 in
theorem told_decimal (w : World) (n0 dg : Nat) (e0 : Int) (t u v : Tok) (hn : n0 < 10 ^ 150) (hdg : 1 ≤ dg) : MeetsX w 382 12 240 [.int (n0 : Int) t, .int e0 u, .int (dg : Int) v] (told n0 e0 dg) (fun r => OutN r.1 r.2) (Str.ofString "OV") := by
 refine (?fZ : PullF _) ?pZ ?qZ ?hZ
 case fZ => exact fun _ q _ => q
 case pZ =>
  unfold MeetsX
  k_fill
  intro p loose mean mg mb dp un gd cn cs a ccd cl outer A₀ base h₀ L m news s Q E hrw B F X N T hk hd hu hret hexc
  clear hrw
  refine wpAny_call ?_
  k_dflt cell_enter
  (repeat' (first | ((fail_if_success (first | (with_reducible show wpAny _ _ (exec (Stmt.While _ _ _ _) _) _ _ _) | (with_reducible show wpAny _ _ (exec (Stmt.Raise _ _ _) _) _ _ _) | (with_reducible show WhStep _ _ _ _ _ _ _ _ _ _ _))); (first | (k_here; (with_reducible show wpAny _ _ (call (Value.ref _) _) _ _ _); (first | ((with_reducible show wpAny _ _ (call (Value.ref 58) _) _ _ _); k_dflt (refine' useXII (made _ _ _ _ _ _ _ ?p1 ?p2) ?k1 ?k2 ?k3 ?k4 ?k5 ?kK ?kd ?ku ?kx ?kq; (case p1 => walk_at "up"); (case p2 => walk_at "up"); walk_at "u2"; (case' kx => walk_at "uf")); (case' kq => (intro g9 D9 a9 b9 h9 tk9 hr9 F9 N9 l9; (try k_lt l9); walk_at "u3"))) | ((with_reducible show wpAny _ _ (call (Value.ref 44) _) _ _ _); k_dflt (refine' useI (figures_of _ _ _ ?p1) ?k1 ?k2 ?k3 ?k4 ?k5 ?kK ?kd ?ku ?_; (case p1 => walk_at "up"); walk_at "u2"); intro t9 h9 tk9 F9 N9; walk_at "u3"))) | walk_at "wk"))))
  · have hm : told n0 e0 dg = some (0, 0) := if_pos (.inl (by omega))
    exact Ret.same (hret _ hm) (by k_asm) (by k_asm) (by repeat' (first | exact sub_refl _ | refine sub_cons ?_)) (.inr ⟨rfl, rfl, rfl, rfl⟩)
  · have hm : told n0 e0 dg = some (0, 0) := if_pos (.inr (by omega))
    exact Ret.same (hret _ hm) (by k_asm) (by k_asm) (by repeat' (first | exact sub_refl _ | refine sub_cons ?_)) (.inr ⟨rfl, rfl, rfl, rfl⟩)
  · (refine Raise_made rfl ?_; (repeat' (first | ((fail_if_success (first | (with_reducible show wpAny _ _ (exec (Stmt.While _ _ _ _) _) _ _ _) | (with_reducible show wpAny _ _ (exec (Stmt.Raise _ _ _) _) _ _ _) | (with_reducible show WhStep _ _ _ _ _ _ _ _ _ _ _))); (first | (k_here; (with_reducible show wpAny _ _ (call (Value.ref _) _) _ _ _); (first | ((with_reducible show wpAny _ _ (call (Value.ref 58) _) _ _ _); k_dflt (refine' useXII (made _ _ _ _ _ _ _ ?p1 ?p2) ?k1 ?k2 ?k3 ?k4 ?k5 ?kK ?kd ?ku ?kx ?kq; (case p1 => walk_at "up"); (case p2 => walk_at "up"); walk_at "u2"; (case' kx => walk_at "uf")); (case' kq => (intro g9 D9 a9 b9 h9 tk9 hr9 F9 N9 l9; (try k_lt l9); walk_at "u3"))) | ((with_reducible show wpAny _ _ (call (Value.ref 44) _) _ _ _); k_dflt (refine' useI (figures_of _ _ _ ?p1) ?k1 ?k2 ?k3 ?k4 ?k5 ?kK ?kd ?ku ?_; (case p1 => walk_at "up"); walk_at "u2"); intro t9 h9 tk9 F9 N9; walk_at "u3"))) | walk_at "wk")))); k_dflt (refine' call_exc ?k1 ?k2 ?k3 ?k4 ?k5 ?kA ?kF ?kK ?kd ?ku ?kh ?_; (case kA => exact rfl); (case kF => exact rfl); (case kK => exact rfl); (case kh => exact rfl); (case k1 => k_asm); (case k2 => k_asm); (case k3 => k_asm); (case k4 => k_asm); (case k5 => k_asm); (case kd => (show dp + 1 + 4 < recursionLimit; omega)); (case ku => (show un + 3 + 120 < cLine; omega))); intro h7 tk7 e7 t7 D7 oD7 F7 N7 ns7 l7 l8 l9; refine ⟨e7, t7, D7, rfl, ?x34, (N7 _ (.head _)).1, ?xE⟩; (case x34 => exact (show (Mine.K w.params).In _ from by k_asm).keeps F7.keep _ _ (cls34 w)); (case' xE => ((try dsimp only); refine fly_first rfl rfl (by assumption) F7 N7 ns7 l7 l8 l9 ?_; intro h6 R6; (try dsimp only); refine hexc ?hn _ _ _ _ (by assumption) (R6.less (by repeat' (first | exact sub_refl _ | refine sub_cons ?_))))))
    unfold told
    rw [if_neg (by omega), if_pos (by omega)]
  · have hm : told n0 e0 dg = mk n0 e0 dg := by
      unfold told
      rw [if_neg (by omega), if_neg (by omega)]
    exact Ret.made (hret _ (hm.trans (by assumption))) (by k_asm) (by k_asm) (by repeat' (first | exact sub_refl _ | refine sub_cons ?_)) (by k_mem) (by first | assumption | exact ktn_ltOf (by assumption) | exact ktn_ltOf (And.right (by assumption)) | exact ktn_ltOf (And.right (And.right (by assumption))) | exact ktn_ltOf (And.right (And.right (And.right (by assumption)))) | exact ktn_ltOf (And.right (And.right (And.right (And.right (by assumption))))) | exact ktn_ltOf (And.right (And.right (And.right (And.right (And.right (by assumption)))))) | exact ktn_ltOf (And.right (And.right (And.right (And.right (And.right (And.right (by assumption))))))) | exact ktn_ltOf (And.right (And.right (And.right (And.right (And.right (And.right (And.right (by assumption)))))))) | exact ktn_ltOf (And.right (And.right (And.right (And.right (And.right (And.right (And.right (And.right (by assumption))))))))) | exact ktn_ltOf (And.right (And.right (And.right (And.right (And.right (And.right (And.right (And.right (And.right (by assumption)))))))))) | exact ktn_ltOf (And.right (And.right (And.right (And.right (And.right (And.right (And.right (And.right (And.right (And.right (by assumption))))))))))) | exact ktn_ltOf (And.right (And.right (And.right (And.right (And.right (And.right (And.right (And.right (And.right (And.right (And.right (by assumption))))))))))))) (.inl ⟨_, _, _, rfl, rfl⟩)
  · unfold told
    rw [if_neg (by omega), if_neg (by omega)]
    assumption
 case hZ => delta id; exact pair_ _
-- MACROS
-- END

/-- a power, or none, at a place -/
noncomputable def PowForm (l : List Nat) (a : Nat) : Prop := (at1 l a = [] ∨ at1 l a = [33]) ∨ (at1 l a = [69] ∧ (run l (powStart l a)).length ≠ 0 ∧ val (run l (powStart l a)) ≤ 999)
theorem at1_getD {l : List Nat} {a : Nat} (h : a < l.length) : at1 l a = [l.getD a 0] := by
  unfold at1
  rw [List.drop_eq_getElem_cons h, List.take_succ_cons, List.take_zero, List.getD_eq_getElem?_getD, List.getElem?_eq_getElem h]
  rfl
theorem at1_end {l : List Nat} {a : Nat} (h : l.length ≤ a) : at1 l a = [] := by
  unfold at1
  rw [List.drop_eq_nil_of_le h]
  rfl
theorem item_one {x : Str} {i : Int} (h0 : 0 ≤ i) (h1 : i < x.length) : Txt.item x i = ⟨#[(sgs x).getD i.toNat 0]⟩ := by
  refine str_eq ?_
  exact sgs_item h0 h1
theorem occ_item {x y : Str} {i : Int} {b : Bool} (h0 : 0 ≤ i) (h1 : i < x.length) (h : (Builtin.Str.occurrences y (Txt.item x i) 0 y.length 1).isEmpty = b) : decide ((sgs x).getD i.toNat 0 ∈ sgs y) = !b := by
  rw [← h, item_one h0 h1, ← StrLaws.found_one]
theorem pow_none {l : List Nat} {a : Nat} (h : at1 l a ≠ [69]) (h' : at1 l a ≠ [68]) : powerAt l a = (0, a) := if_neg (by intro z; rcases z with z | z; (exact h z); (exact h' z))
theorem lit_EeDd : sgs (Str.ofString "EeDd") = [69, 101, 68, 100] := by decide
theorem pf_in {l : List Nat} {a : Nat} (hp : PowForm l a) (hl : a < l.length) (hc : l.getD a 0 ∈ [69, 101, 68, 100]) : at1 l a = [69] ∧ (run l (powStart l a)).length ≠ 0 ∧ val (run l (powStart l a)) ≤ 999 := by
  rcases hp with (h | h) | h
  · rw [at1_getD hl] at h; cases h
  · rw [at1_getD hl] at h
    rw [(List.cons.inj h).1] at hc
    exact absurd hc (by decide)
  · exact h
theorem pf_out {l : List Nat} {a : Nat} (hc : a < l.length → l.getD a 0 ∉ [69, 101, 68, 100]) : powerAt l a = (0, a) := by
  by_cases hl : a < l.length
  · have := hc hl
    refine pow_none ?_ ?_ <;> (rw [at1_getD hl]; intro z; rw [(List.cons.inj z).1] at this; exact this (by decide))
  · have e := at1_end (l := l) (a := a) (by omega)
    exact pow_none (by rw [e]; intro z; cases z) (by rw [e]; intro z; cases z)
theorem min9999 {n : Nat} (h : n ≤ 999) : (if (9999 : Int) < ((n : Nat) : Int) then (9999 : Int) else ((n : Nat) : Int)) = n := if_neg (by omega)
theorem min9999' {n : Nat} (h : n ≤ 999) : (if ((n : Nat) : Int) < (9999 : Int) then ((n : Nat) : Int) else (9999 : Int)) = n := if_pos (by omega)
set_option maxHeartbeats 4000000 in
theorem exponent_at (w : World) (x : Str) (n0 : Nat) (t u : Tok) (hx : x.length ≤ 60) (hpf : PowForm (sgs x) n0) : Meets w 368 4 32 [.str x t, .int (n0 : Int) u] (OutII (powerAt (sgs x) n0).1 ((powerAt (sgs x) n0).2 : Nat)) := by
 refine (?fZ : PullF _) ?pZ ?qZ ?hZ
 case fZ => exact fun _ q _ => q
 case pZ =>
  unfold Meets
  k_fill
  intro p loose mean mg mb dp un gd cn cs a ccd cl outer A₀ base h₀ L m news s Q E hrw B F X N T hk hd hu hret
  clear hrw
  refine wpAny_call ?_
  k_dflt cell_enter
  have hx0 : x.length ≤ 1048576 := Nat.le_trans hx (by decide)
  have hsl : sgs (Txt.slice x (some ((n0 : Int) + 1)) (some ((n0 : Int) + 1 + 1))) = at1 (sgs x) (n0 + 1) := slice_at1 (n0 + 1) (by omega) (by omega)
  have hln := sgs_len x
  (repeat' (first | ((fail_if_success (with_reducible show wpAny _ _ (eval (Expr.IfExp _ _ _ _) _) _ _ _)); (first | (k_here; (with_reducible show wpAny _ _ (call (Value.ref _) _) _ _ _); (first | ((with_reducible show wpAny _ _ (call (Value.ref 361) _) _ _ _); k_dflt (refine' useIII (run_of_figures _ _ _ _ _ ?p1) ?k1 ?k2 ?k3 ?k4 ?k5 ?kK ?kd ?ku ?_; (case p1 => walk_at "up"); walk_at "u2"); intro D9 a9 b9 c9 h9 tk9 F9 N9 l9; (try k_lt l9); walk_at "u3"))) | walk_at "wk"))))
  · rename (x.length : Int) ≤ (n0 : Int) => hle
    have hq := pf_out (l := sgs x) (a := n0) (fun h => by omega)
    rw [hq] at hret
    exact Ret.ii hret (by k_asm) (by k_asm) (by repeat' (first | exact sub_refl _ | refine sub_cons ?_)) (by k_mem) (by first | assumption | exact ktn_ltOf (by assumption) | exact ktn_ltOf (And.right (by assumption)) | exact ktn_ltOf (And.right (And.right (by assumption))) | exact ktn_ltOf (And.right (And.right (And.right (by assumption)))) | exact ktn_ltOf (And.right (And.right (And.right (And.right (by assumption))))) | exact ktn_ltOf (And.right (And.right (And.right (And.right (And.right (by assumption)))))) | exact ktn_ltOf (And.right (And.right (And.right (And.right (And.right (And.right (by assumption))))))) | exact ktn_ltOf (And.right (And.right (And.right (And.right (And.right (And.right (And.right (by assumption)))))))) | exact ktn_ltOf (And.right (And.right (And.right (And.right (And.right (And.right (And.right (And.right (by assumption))))))))) | exact ktn_ltOf (And.right (And.right (And.right (And.right (And.right (And.right (And.right (And.right (And.right (by assumption)))))))))) | exact ktn_ltOf (And.right (And.right (And.right (And.right (And.right (And.right (And.right (And.right (And.right (And.right (by assumption))))))))))) | exact ktn_ltOf (And.right (And.right (And.right (And.right (And.right (And.right (And.right (And.right (And.right (And.right (And.right (by assumption))))))))))))) rfl rfl
  · rename ¬ (x.length : Int) ≤ (n0 : Int) => hle
    rename (Builtin.Str.occurrences _ _ _ _ _).isEmpty = true => ho
    have ho := occ_item (i := ((n0 : Nat) : Int)) (by omega) (by omega) ho
    have hq := pf_out (l := sgs x) (a := n0) (fun _ => by rw [← lit_EeDd]; exact of_decide_eq_false ho)
    rw [hq] at hret
    exact Ret.ii hret (by k_asm) (by k_asm) (by repeat' (first | exact sub_refl _ | refine sub_cons ?_)) (by k_mem) (by first | assumption | exact ktn_ltOf (by assumption) | exact ktn_ltOf (And.right (by assumption)) | exact ktn_ltOf (And.right (And.right (by assumption))) | exact ktn_ltOf (And.right (And.right (And.right (by assumption)))) | exact ktn_ltOf (And.right (And.right (And.right (And.right (by assumption))))) | exact ktn_ltOf (And.right (And.right (And.right (And.right (And.right (by assumption)))))) | exact ktn_ltOf (And.right (And.right (And.right (And.right (And.right (And.right (by assumption))))))) | exact ktn_ltOf (And.right (And.right (And.right (And.right (And.right (And.right (And.right (by assumption)))))))) | exact ktn_ltOf (And.right (And.right (And.right (And.right (And.right (And.right (And.right (And.right (by assumption))))))))) | exact ktn_ltOf (And.right (And.right (And.right (And.right (And.right (And.right (And.right (And.right (And.right (by assumption)))))))))) | exact ktn_ltOf (And.right (And.right (And.right (And.right (And.right (And.right (And.right (And.right (And.right (And.right (by assumption))))))))))) | exact ktn_ltOf (And.right (And.right (And.right (And.right (And.right (And.right (And.right (And.right (And.right (And.right (And.right (by assumption))))))))))))) rfl rfl
  rename ¬ (x.length : Int) ≤ (n0 : Int) => hle
  rename (Builtin.Str.occurrences _ _ _ _ _).isEmpty = false => ho
  have ho := occ_item (i := ((n0 : Nat) : Int)) (by omega) (by omega) ho
  obtain ⟨hE, hne, h9⟩ := pf_in hpf (by omega) (by rw [← lit_EeDd]; exact of_decide_eq_true ho)
  obtain ⟨sg, hsg⟩ : ∃ sg : Int, sg = if at1 (sgs x) (n0 + 1) = [45] then -1 else 1 := ⟨_, rfl⟩
  have hq : powerAt (sgs x) n0 = (sg * ((val (run (sgs x) (powStart (sgs x) n0)) : Nat) : Int), powStart (sgs x) n0 + (run (sgs x) (powStart (sgs x) n0)).length) := by
    have h0 : powerAt (sgs x) n0 = _ := if_pos (.inl hE)
    rw [h0, hsg]
    refine Prod.ext ?_ rfl
    dsimp only
    split <;> omega
  have hpT : (at1 (sgs x) (n0 + 1) = [43] ∨ at1 (sgs x) (n0 + 1) = [45]) → powStart (sgs x) n0 = n0 + 1 + 1 := fun h => if_pos h
  have hpF : ¬ (at1 (sgs x) (n0 + 1) = [43] ∨ at1 (sgs x) (n0 + 1) = [45]) → powStart (sgs x) n0 = n0 + 1 := fun h => if_neg h
  rw [hq] at hret
  clear hq ho hpf
  generalize powStart (sgs x) n0 = ps at hret hne h9 hpT hpF
  rename Fr _ _ _ _ => FF
  rename News _ _ _ _ => NN
  k_dflt (refine cut_int (z := sg) FF NN ?cut ?rest)
  case' cut =>
    by_cases hm : at1 (sgs x) (n0 + 1) = [45]
    · rw [if_pos hm] at hsg
      subst hsg
      have hmm : (Txt.slice x (some ((n0 : Int) + 1)) (some ((n0 : Int) + 1 + 1)) == Str.ofString "-") = true := beq_iff_eq.mpr (str_eq (by rw [hsl, hm]; exact lit_minus.symm))
      (repeat' (first | (k_here; (with_reducible show wpAny _ _ (call (Value.ref _) _) _ _ _); (first | ((with_reducible show wpAny _ _ (call (Value.ref 361) _) _ _ _); k_dflt (refine' useIII (run_of_figures _ _ _ _ _ ?p1) ?k1 ?k2 ?k3 ?k4 ?k5 ?kK ?kd ?ku ?_; (case p1 => walk_at "up"); walk_at "u2"); intro D9 a9 b9 c9 h9 tk9 F9 N9 l9; (try k_lt l9); walk_at "u3"))) | walk_at "wk"))
      exact CutI.mk (by k_asm) (by k_asm) (by repeat' (first | exact sub_refl _ | refine sub_cons ?_))
    · rw [if_neg hm] at hsg
      subst hsg
      have hmm : (Txt.slice x (some ((n0 : Int) + 1)) (some ((n0 : Int) + 1 + 1)) == Str.ofString "-") = false := Bool.eq_false_iff.mpr fun z => hm (by rw [← hsl, eq_of_beq z]; exact lit_minus)
      (repeat' (first | (k_here; (with_reducible show wpAny _ _ (call (Value.ref _) _) _ _ _); (first | ((with_reducible show wpAny _ _ (call (Value.ref 361) _) _ _ _); k_dflt (refine' useIII (run_of_figures _ _ _ _ _ ?p1) ?k1 ?k2 ?k3 ?k4 ?k5 ?kK ?kd ?ku ?_; (case p1 => walk_at "up"); walk_at "u2"); intro D9 a9 b9 c9 h9 tk9 F9 N9 l9; (try k_lt l9); walk_at "u3"))) | walk_at "wk"))
      exact CutI.mk (by k_asm) (by k_asm) (by repeat' (first | exact sub_refl _ | refine sub_cons ?_))
  case' rest =>
    intro tS h7 tk7 F7 N7
    clear FF NN hsg
    (try dsimp only)
    (repeat' (first | ((fail_if_success (with_reducible show wpAny _ _ (exec (Stmt.If (Expr.Compare _ _ _ _) _ _ _) _) _ _ _)); (first | (k_here; (with_reducible show wpAny _ _ (call (Value.ref _) _) _ _ _); (first | ((with_reducible show wpAny _ _ (call (Value.ref 361) _) _ _ _); k_dflt (refine' useIII (run_of_figures _ _ _ _ _ ?p1) ?k1 ?k2 ?k3 ?k4 ?k5 ?kK ?kd ?ku ?_; (case p1 => walk_at "up"); walk_at "u2"); intro D9 a9 b9 c9 h9 tk9 F9 N9 l9; (try k_lt l9); walk_at "u3"))) | walk_at "wk"))))
    rename Fr _ _ _ _ => FF
    rename News _ _ _ _ => NN
    k_dflt (refine cut_put (x := Str.ofString "begin") (K := ((ps : Nat) : Int)) FF NN ?cu ?re)
    case' cu =>
      (repeat' (first | (k_here; (with_reducible show wpAny _ _ (call (Value.ref _) _) _ _ _); (first | ((with_reducible show wpAny _ _ (call (Value.ref 361) _) _ _ _); k_dflt (refine' useIII (run_of_figures _ _ _ _ _ ?p1) ?k1 ?k2 ?k3 ?k4 ?k5 ?kK ?kd ?ku ?_; (case p1 => walk_at "up"); walk_at "u2"); intro D9 a9 b9 c9 h9 tk9 F9 N9 l9; (try k_lt l9); walk_at "u3"))) | walk_at "wk"))
      · rename ([Str.ofString "+", _].any _) = true => hs
        have hs := any2_t hs
        rw [hsl, lit_plus, lit_minus] at hs
        exact CutP.mk (by k_asm) (by rw [hpT hs]; omega) (by k_asm) (by repeat' (first | exact sub_refl _ | refine sub_cons ?_))
      · rename ([Str.ofString "+", _].any _) = false => hs
        have hs := any2_f hs
        rw [hsl, lit_plus, lit_minus] at hs
        exact CutP.same (by k_asm) rfl (by rw [hpF (by intro h; rcases h with h | h; (exact hs.1 h); (exact hs.2 h))]; omega) (by k_asm) (by repeat' (first | exact sub_refl _ | refine sub_cons ?_))
    case' re =>
      intro tB h8 tk8 F8 N8
      clear FF NN hpT hpF
      (try dsimp only at F8)
      (try dsimp only)
      (repeat' (first | ((fail_if_success (first | (with_reducible show wpAny _ _ (exec (Stmt.While _ _ _ _) _) _ _ _) | (with_reducible show wpAny _ _ (exec (Stmt.Raise _ _ _) _) _ _ _) | (with_reducible show WhStep _ _ _ _ _ _ _ _ _ _ _))); (first | (k_here; (with_reducible show wpAny _ _ (call (Value.ref _) _) _ _ _); (first | ((with_reducible show wpAny _ _ (call (Value.ref 361) _) _ _ _); k_dflt (refine' useIII (run_of_figures _ _ _ _ _ ?p1) ?k1 ?k2 ?k3 ?k4 ?k5 ?kK ?kd ?ku ?_; (case p1 => walk_at "up"); walk_at "u2"); intro D9 a9 b9 c9 h9 tk9 F9 N9 l9; (try k_lt l9); walk_at "u3"))) | walk_at "wk"))))
      all_goals (first
        | exact absurd (show ((run (sgs x) ps).length : Int) = 0 by assumption) (by omega)
        | (refine Ret.ii hret (by k_asm) (by k_asm) (by repeat' (first | exact sub_refl _ | refine sub_cons ?_)) (by k_mem) (by first | assumption | exact ktn_ltOf (by assumption) | exact ktn_ltOf (And.right (by assumption)) | exact ktn_ltOf (And.right (And.right (by assumption))) | exact ktn_ltOf (And.right (And.right (And.right (by assumption)))) | exact ktn_ltOf (And.right (And.right (And.right (And.right (by assumption))))) | exact ktn_ltOf (And.right (And.right (And.right (And.right (And.right (by assumption)))))) | exact ktn_ltOf (And.right (And.right (And.right (And.right (And.right (And.right (by assumption))))))) | exact ktn_ltOf (And.right (And.right (And.right (And.right (And.right (And.right (And.right (by assumption)))))))) | exact ktn_ltOf (And.right (And.right (And.right (And.right (And.right (And.right (And.right (And.right (by assumption))))))))) | exact ktn_ltOf (And.right (And.right (And.right (And.right (And.right (And.right (And.right (And.right (And.right (by assumption)))))))))) | exact ktn_ltOf (And.right (And.right (And.right (And.right (And.right (And.right (And.right (And.right (And.right (And.right (by assumption))))))))))) | exact ktn_ltOf (And.right (And.right (And.right (And.right (And.right (And.right (And.right (And.right (And.right (And.right (And.right (by assumption))))))))))))) ?_ ?_ <;> first | rfl | ((try dsimp only); rw [if_neg (by omega)]) | ((try dsimp only); (try rw [min9999 h9]); omega)))
 case hZ => delta id; exact pair_ _
-- MACROS
-- END

noncomputable def OutDT (x y z : Int) (r : Value) (tl : Led) : Prop := ∃ (D D2 : Addr) (a : Tok) (tl2 : Led), r = .ref D ∧ tl = (D, tup [.ref D2, .int z a]) :: tl2 ∧ OutN x y (.ref D2) tl2
theorem run0_isD {l : List Nat} (h : (run l 0).length ≠ 0) : 0 < l.length ∧ isD (l.getD 0 0) = true := by
  cases l with
  | nil => exact absurd rfl h
  | cons c r =>
    refine ⟨Nat.succ_pos _, ?_⟩
    unfold run at h
    rw [List.drop_zero, List.takeWhile_cons] at h
    by_cases hc : isD c = true
    · exact hc
    · rw [if_neg hc] at h
      exact absurd rfl h
theorem lit_blanks : sgs (Str.ofString " \t") = [32, 9] := by decide
theorem item_blank {x : Str} (h0 : 0 < x.length) (h : isD ((sgs x).getD 0 0) = true) : (Builtin.Str.occurrences (Str.ofString " \t") (Txt.item x 0) 0 (Str.ofString " \t").length 1).isEmpty = true := by
  have := occ_item (x := x) (y := Str.ofString " \t") (i := 0) (b := (Builtin.Str.occurrences (Str.ofString " \t") (Txt.item x 0) 0 (Str.ofString " \t").length 1).isEmpty) (by omega) (by omega) rfl
  rw [lit_blanks, show (0 : Int).toNat = 0 from rfl] at this
  have hn : ¬ ((sgs x).getD 0 0 ∈ [32, 9]) := by
    rw [isD_iff] at h
    intro z
    simp only [List.mem_cons, List.not_mem_nil, or_false] at z
    omega
  rw [decide_eq_false hn] at this
  revert this
  cases (Builtin.Str.occurrences (Str.ofString " \t") (Txt.item x 0) 0 (Str.ofString " \t").length 1).isEmpty <;> simp
theorem at1_isD {l : List Nat} {a c : Nat} (h0 : a < l.length) (h : isD (l.getD a 0) = true) (hc : isD c = false) : at1 l a ≠ [c] := by
  rw [at1_getD h0]
  intro z
  rw [(List.cons.inj z).1, hc] at h
  cases h
theorem slice_ne {x A : Str} {i j : Int} {a : Nat} (hs : sgs (Txt.slice x (some i) (some j)) = at1 (sgs x) a) (h : at1 (sgs x) a ≠ sgs A) : (Txt.slice x (some i) (some j) == A) = false := by
  rw [beq_eq_false_iff_ne]
  intro z
  rw [← hs, z] at h
  exact h rfl
theorem slice_any2 {x A B : Str} {i j : Int} {a : Nat} (hs : sgs (Txt.slice x (some i) (some j)) = at1 (sgs x) a) (h : at1 (sgs x) a ≠ sgs A) (h' : at1 (sgs x) a ≠ sgs B) : ([A, B].any fun z => z == Txt.slice x (some i) (some j)) = false := by
  simp only [List.any_cons, List.any_nil, Bool.or_false, Bool.or_eq_false_iff, beq_eq_false_iff_ne, ne_eq]
  refine ⟨fun z => h ?_, fun z => h' ?_⟩ <;> rw [← hs, ← z]
theorem MeetsX.of_eq {γ : Type} {w : World} {f : Addr} {d u : Nat} {vs vs' : List Value} {o : Option γ} {Out : γ → Value → Led → Prop} {x : Str} (C : MeetsX w f d u vs' o Out x) (e : vs = vs') : MeetsX w f d u vs o Out x := e ▸ C
theorem args3 {a a' b b' : Int} {t u : Tok} {v : Value} (h : a = a') (h' : b = b') : [Value.int a t, Value.int b u, v] = [Value.int a' t, Value.int b' u, v] := by rw [h, h']
theorem numN_lt150 {x : Str} (hx : x.length ≤ 60) : numN (sgs x) < 10 ^ 150 := by
  have h1 := val_run_lt hx 0
  have h2 := val_run_lt hx (frontA (sgs x) + 1)
  have h3 := run_len60 (frontA (sgs x) + 1) hx
  unfold numN dotR
  split
  · have h4 : 10 ^ (run (sgs x) (frontA (sgs x) + 1)).length ≤ 10 ^ 60 := Nat.pow_le_pow_right (by decide) h3
    have h5 : val (run (sgs x) 0) * 10 ^ (run (sgs x) (frontA (sgs x) + 1)).length ≤ 10 ^ 60 * 10 ^ 60 := Nat.mul_le_mul (Nat.le_of_lt h1) h4
    have h6 : (10 : Nat) ^ 60 * 10 ^ 60 + 10 ^ 60 < 10 ^ 150 := by decide +kernel
    omega
  · exact Nat.lt_trans h1 (by decide +kernel)
section
variable {M : Model} {A : Around} {E : Value → Shared → Prop} {s : Shared} {g : Heap} {L : Addr} {m : Str → Option Value} {news : Led}
/-- a statement behind which the names stand as P says -/
noncomputable def CutMap (P : (Str → Option Value) → Prop) (s : Shared) (g : Heap) (L : Addr) (news : Led) (f : Flow) (s' : Shared) : Prop := f = .next ∧ ∃ m' h' tk', s' = { s with heap := h', toks := tk' } ∧ P m' ∧ Fr g L h' m' ∧ News g L h' news
theorem CutMap.mk {P : (Str → Option Value) → Prop} {m' : Str → Option Value} {h' : Heap} {tk' : Nat} {news' : Led} (F : Fr g L h' m') (p : P m') (N : News g L h' news') (hs : ∀ q ∈ news, q ∈ news') : CutMap P s g L news .next { s with heap := h', toks := tk' } := ⟨rfl, m', h', tk', rfl, p, F, fun q hq => N q (hs q hq)⟩
theorem cut_map {tree : Sem Flow} {Q : Flow → Shared → Prop} (P : (Str → Option Value) → Prop) (_F : Fr g L s.heap m) (_N : News g L s.heap news)
    (h1 : wpAny M A tree (CutMap P s g L news) E s)
    (h2 : ∀ m' h' tk', P m' → Fr g L h' m' → News g L h' news → Q .next { s with heap := h', toks := tk' }) : wpAny M A tree Q E s :=
  wpAny_mono h1 (fun _ _ ⟨hv, m', h', tk', hs, p, F, N⟩ => by subst hv hs; exact h2 m' h' tk' p F N) fun _ _ x => x
end
theorem int_at {m : Str → Option Value} {x : Str} {v K : Int} {t : Tok} (h : m x = some (.int v t)) (e : v = K) : m x = some (.int K t) := e ▸ h
set_option maxHeartbeats 4000000 in
theorem d_of_text (w : World) (x : Str) (dg : Nat) (t u : Tok) (hx : x.length ≤ 60) (hdg : 1 ≤ dg) (hr0 : (run (sgs x) 0).length ≠ 0) (hpf : PowForm (sgs x) (numA (sgs x))) :
    MeetsX w 375 16 300 [.str x t, .int (dg : Int) u] (told (numN (sgs x)) ((powerAt (sgs x) (numA (sgs x))).1 - (numP (sgs x) : Nat)) dg) (fun r => OutDT r.1 r.2 ((powerAt (sgs x) (numA (sgs x))).2 : Nat)) (Str.ofString "OV") := by
 refine (?fZ : PullF _) ?pZ ?qZ ?hZ
 case fZ => exact fun _ q _ => q
 case pZ =>
  unfold MeetsX
  k_fill
  intro p loose mean mg mb dp un gd cn cs a ccd cl outer A₀ base h₀ L m news s Q E hrw B F X N T hk hd hu hret hexc
  clear hrw
  refine wpAny_call ?_
  k_dflt cell_enter
  have hx0 : x.length ≤ 1048576 := Nat.le_trans hx (by decide)
  have hln := sgs_len x
  obtain ⟨hl0, hd0⟩ := run0_isD hr0
  have hs0 : sgs (Txt.slice x (some 0) (some (0 + 1))) = at1 (sgs x) 0 := slice_at1 0 rfl rfl
  have hb0 := item_blank (x := x) (by omega) hd0
  have hb1 := slice_ne hs0 (A := Str.ofString "-") (by rw [lit_minus]; exact at1_isD hl0 hd0 (by decide))
  have hb2 := slice_any2 hs0 (A := Str.ofString "+") (B := Str.ofString "-") (by rw [lit_plus]; exact at1_isD hl0 hd0 (by decide)) (by rw [lit_minus]; exact at1_isD hl0 hd0 (by decide))
  have f0 := run_len60 0 hx
  have f1 := run_len60 (0 + (run (sgs x) 0).length + 1) hx
  have f2 := natAbs_pow10 _ f1
  have f3 := natAbs_nat _ (val_run_lt hx 0)
  (repeat' (first | ((fail_if_success (first | (with_reducible show wpAny _ _ (exec (Stmt.While _ _ _ _) _) _ _ _) | (with_reducible show wpAny _ _ (exec (Stmt.Raise _ _ _) _) _ _ _) | (with_reducible show WhStep _ _ _ _ _ _ _ _ _ _ _))); (first | (k_here; (with_reducible show wpAny _ _ (call (Value.ref _) _) _ _ _); (first | ((with_reducible show wpAny _ _ (call (Value.ref 368) _) _ _ _); k_dflt (refine' useII (exponent_at _ _ _ _ _ ?p1 ?p2) ?k1 ?k2 ?k3 ?k4 ?k5 ?kK ?kd ?ku ?_; (case p1 => walk_at "up"); (case p2 => walk_at "up"); walk_at "u2"); intro D9 a9 b9 h9 tk9 F9 N9 l9; (try k_lt l9); walk_at "u3") | ((with_reducible show wpAny _ _ (call (Value.ref 382) _) _ _ _); k_dflt (refine' useX (told_decimal _ _ _ _ _ _ _ ?p1 ?p2) ?k1 ?k2 ?k3 ?k4 ?k5 ?kK ?kd ?ku ?kx ?kq; (case p1 => walk_at "up"); (case p2 => walk_at "up"); walk_at "u2"; (case' kx => walk_at "uf")); (case' kq => (intro r9 v9 tl9 h9 tk9 hr9 F9 N9 l9 o9; rcases o9 with ⟨D9, a9, b9, e9, e8⟩ | ⟨e9, e8, hx9, hy9⟩ <;> (subst e9; subst e8; dsimp only [List.cons_append, List.nil_append] at N9; (try (have l9' := fun q hq => l9 q hq (D9, _) (.head _); k_lt l9')); walk_at "u3")))) | ((with_reducible show wpAny _ _ (call (Value.ref 361) _) _ _ _); k_dflt (refine' useIII (run_of_figures _ _ _ _ _ ?p1) ?k1 ?k2 ?k3 ?k4 ?k5 ?kK ?kd ?ku ?_; (case p1 => walk_at "up"); walk_at "u2"); intro D9 a9 b9 c9 h9 tk9 F9 N9 l9; (try k_lt l9); walk_at "u3"))) | walk_at "wk"))))
  k_dflt (refine' while_st (fun m (_ : Unit) => m) (fun _ => True) (fun _ => 0) () ?w1 ?w2 ?w3 ?w4 ?w5 ?w6)
  (case w1 => k_asm)
  (case w2 => k_asm)
  (case w3 => rfl)
  (case w4 => trivial)
  (case w6 => with_unfolding_all passes_own)
  (case' w5 => (intro c h₁ tk₁ hI F₁ N₁; (try k_sweep); (try dsimp only); (try k_fold)))
  (repeat' (first | ((fail_if_success (with_reducible show wpAny _ _ (exec (Stmt.If (Expr.Compare _ [CmpOp.Eq] _ _) _ _ _) _) _ _ _)); (first | (k_here; (with_reducible show wpAny _ _ (call (Value.ref _) _) _ _ _); (first | ((with_reducible show wpAny _ _ (call (Value.ref 368) _) _ _ _); k_dflt (refine' useII (exponent_at _ _ _ _ _ ?p1 ?p2) ?k1 ?k2 ?k3 ?k4 ?k5 ?kK ?kd ?ku ?_; (case p1 => walk_at "up"); (case p2 => walk_at "up"); walk_at "u2"); intro D9 a9 b9 h9 tk9 F9 N9 l9; (try k_lt l9); walk_at "u3") | ((with_reducible show wpAny _ _ (call (Value.ref 382) _) _ _ _); k_dflt (refine' useX (told_decimal _ _ _ _ _ _ _ ?p1 ?p2) ?k1 ?k2 ?k3 ?k4 ?k5 ?kK ?kd ?ku ?kx ?kq; (case p1 => walk_at "up"); (case p2 => walk_at "up"); walk_at "u2"; (case' kx => walk_at "uf")); (case' kq => (intro r9 v9 tl9 h9 tk9 hr9 F9 N9 l9 o9; rcases o9 with ⟨D9, a9, b9, e9, e8⟩ | ⟨e9, e8, hx9, hy9⟩ <;> (subst e9; subst e8; dsimp only [List.cons_append, List.nil_append] at N9; (try (have l9' := fun q hq => l9 q hq (D9, _) (.head _); k_lt l9')); walk_at "u3")))) | ((with_reducible show wpAny _ _ (call (Value.ref 361) _) _ _ _); k_dflt (refine' useIII (run_of_figures _ _ _ _ _ ?p1) ?k1 ?k2 ?k3 ?k4 ?k5 ?kK ?kd ?ku ?_; (case p1 => walk_at "up"); walk_at "u2"); intro D9 a9 b9 c9 h9 tk9 F9 N9 l9; (try k_lt l9); walk_at "u3"))) | walk_at "wk"))))
  rename Fr _ _ _ _ => FF
  rename News _ _ _ _ => NN
  k_dflt (refine cut_map (fun m' => ∃ t1 t2 t3 t4 : Tok, m' (Str.ofString "found") = some (.int ((numN (sgs x) : Nat) : Int) t1) ∧ m' (Str.ofString "behind") = some (.int ((numP (sgs x) : Nat) : Int) t2) ∧ m' (Str.ofString "at") = some (.int ((numA (sgs x) : Nat) : Int) t3) ∧ m' (Str.ofString "ahead") = some (.int ((run (sgs x) 0).length : Int) t4) ∧ m' (Str.ofString "text") = some (.str x t) ∧ m' (Str.ofString "digits") = some (.int (dg : Int) u) ∧ ∃ b : Bool, b = false ∧ m' (Str.ofString "is_below") = some (.bool b)) FF NN ?cu ?re)
  case' cu =>
    have hah1 : ¬ (((run (sgs x) 0).length : Int) + ((run (sgs x) (0 + (run (sgs x) 0).length + 1)).length : Int) = 0) := by omega
    by_cases hd : at1 (sgs x) (frontA (sgs x)) = [46]
    · have h1 : numN (sgs x) = _ := if_pos hd
      have h2 : numP (sgs x) = _ := if_pos hd
      have h3 : numA (sgs x) = _ := if_pos hd
      have hdot : (Txt.slice x (some ((0 + (run (sgs x) 0).length : Nat) : Int)) (some (((0 + (run (sgs x) 0).length : Nat) : Int) + 1)) == Str.ofString ".") = true := by
        rw [beq_iff_eq]
        exact str_eq (by rw [slice_at1 _ rfl rfl, lit_dot]; exact hd)
      (repeat' (first | (k_here; (with_reducible show wpAny _ _ (call (Value.ref _) _) _ _ _); (first | ((with_reducible show wpAny _ _ (call (Value.ref 368) _) _ _ _); k_dflt (refine' useII (exponent_at _ _ _ _ _ ?p1 ?p2) ?k1 ?k2 ?k3 ?k4 ?k5 ?kK ?kd ?ku ?_; (case p1 => walk_at "up"); (case p2 => walk_at "up"); walk_at "u2"); intro D9 a9 b9 h9 tk9 F9 N9 l9; (try k_lt l9); walk_at "u3") | ((with_reducible show wpAny _ _ (call (Value.ref 382) _) _ _ _); k_dflt (refine' useX (told_decimal _ _ _ _ _ _ _ ?p1 ?p2) ?k1 ?k2 ?k3 ?k4 ?k5 ?kK ?kd ?ku ?kx ?kq; (case p1 => walk_at "up"); (case p2 => walk_at "up"); walk_at "u2"; (case' kx => walk_at "uf")); (case' kq => (intro r9 v9 tl9 h9 tk9 hr9 F9 N9 l9 o9; rcases o9 with ⟨D9, a9, b9, e9, e8⟩ | ⟨e9, e8, hx9, hy9⟩ <;> (subst e9; subst e8; dsimp only [List.cons_append, List.nil_append] at N9; (try (have l9' := fun q hq => l9 q hq (D9, _) (.head _); k_lt l9')); walk_at "u3")))) | ((with_reducible show wpAny _ _ (call (Value.ref 361) _) _ _ _); k_dflt (refine' useIII (run_of_figures _ _ _ _ _ ?p1) ?k1 ?k2 ?k3 ?k4 ?k5 ?kK ?kd ?ku ?_; (case p1 => walk_at "up"); walk_at "u2"); intro D9 a9 b9 c9 h9 tk9 F9 N9 l9; (try k_lt l9); walk_at "u3"))) | walk_at "wk"))
      exact CutMap.mk (by k_asm) ⟨_, _, _, _, int_at rfl (by rw [h1, pow10_int, Int.natCast_add, Int.natCast_mul]; (try rfl)), int_at rfl (by rw [h2]; (try rfl)), int_at rfl (by rw [h3]; (try rfl)), rfl, rfl, rfl, ⟨_, hb1, rfl⟩⟩ (by k_asm) (by repeat' (first | exact sub_refl _ | refine sub_cons ?_))
    · have h1 : numN (sgs x) = _ := if_neg hd
      have h2 : numP (sgs x) = _ := if_neg hd
      have h3 : numA (sgs x) = _ := if_neg hd
      have hdot : (Txt.slice x (some ((0 + (run (sgs x) 0).length : Nat) : Int)) (some (((0 + (run (sgs x) 0).length : Nat) : Int) + 1)) == Str.ofString ".") = false :=
        slice_ne (slice_at1 _ rfl rfl) (by rw [lit_dot]; exact hd)
      (repeat' (first | (k_here; (with_reducible show wpAny _ _ (call (Value.ref _) _) _ _ _); (first | ((with_reducible show wpAny _ _ (call (Value.ref 368) _) _ _ _); k_dflt (refine' useII (exponent_at _ _ _ _ _ ?p1 ?p2) ?k1 ?k2 ?k3 ?k4 ?k5 ?kK ?kd ?ku ?_; (case p1 => walk_at "up"); (case p2 => walk_at "up"); walk_at "u2"); intro D9 a9 b9 h9 tk9 F9 N9 l9; (try k_lt l9); walk_at "u3") | ((with_reducible show wpAny _ _ (call (Value.ref 382) _) _ _ _); k_dflt (refine' useX (told_decimal _ _ _ _ _ _ _ ?p1 ?p2) ?k1 ?k2 ?k3 ?k4 ?k5 ?kK ?kd ?ku ?kx ?kq; (case p1 => walk_at "up"); (case p2 => walk_at "up"); walk_at "u2"; (case' kx => walk_at "uf")); (case' kq => (intro r9 v9 tl9 h9 tk9 hr9 F9 N9 l9 o9; rcases o9 with ⟨D9, a9, b9, e9, e8⟩ | ⟨e9, e8, hx9, hy9⟩ <;> (subst e9; subst e8; dsimp only [List.cons_append, List.nil_append] at N9; (try (have l9' := fun q hq => l9 q hq (D9, _) (.head _); k_lt l9')); walk_at "u3")))) | ((with_reducible show wpAny _ _ (call (Value.ref 361) _) _ _ _); k_dflt (refine' useIII (run_of_figures _ _ _ _ _ ?p1) ?k1 ?k2 ?k3 ?k4 ?k5 ?kK ?kd ?ku ?_; (case p1 => walk_at "up"); walk_at "u2"); intro D9 a9 b9 c9 h9 tk9 F9 N9 l9; (try k_lt l9); walk_at "u3"))) | walk_at "wk"))
      exact CutMap.mk (by k_asm) ⟨_, _, _, _, int_at rfl (by rw [h1]), int_at rfl (by rw [h2]; (try rfl)), int_at rfl (by rw [h3]; (try rfl)), rfl, rfl, rfl, ⟨_, hb1, rfl⟩⟩ (by k_asm) (by repeat' (first | exact sub_refl _ | refine sub_cons ?_))
  case' re =>
    intro m1 h7 tk7 hm7 F7 N7
    clear FF NN
    obtain ⟨t1, t2, t3, t4, e1, e2, e3, e4, e5, e6, b7, rfl, e7⟩ := hm7
    rw [map_pin e1] at F7
    rw [map_pin e2] at F7
    rw [map_pin e3] at F7
    rw [map_pin e4] at F7
    rw [map_pin e5] at F7
    rw [map_pin e6] at F7
    rw [map_pin e7] at F7
    (try dsimp only at F7)
    (try dsimp only)
    clear e1 e2 e3 e4 e5 e6 e7
    have hn := numN_lt150 hx
    have hah : ¬ (((run (sgs x) 0).length : Int) + ((numP (sgs x) : Nat) : Int) = 0) := by omega
    generalize numN (sgs x) = n1 at hret hexc hpf hn F7
    generalize numP (sgs x) = p1 at hret hexc hah F7
    generalize numA (sgs x) = a1 at hret hexc hpf F7
    (repeat' (first | ((fail_if_success (with_reducible show wpAny _ _ (call (Value.ref 382) _) _ _ _)); (first | (k_here; (with_reducible show wpAny _ _ (call (Value.ref _) _) _ _ _); (first | ((with_reducible show wpAny _ _ (call (Value.ref 368) _) _ _ _); k_dflt (refine' useII (exponent_at _ _ _ _ _ ?p1 ?p2) ?k1 ?k2 ?k3 ?k4 ?k5 ?kK ?kd ?ku ?_; (case p1 => walk_at "up"); (case p2 => walk_at "up"); walk_at "u2"); intro D9 a9 b9 h9 tk9 F9 N9 l9; (try k_lt l9); walk_at "u3") | ((with_reducible show wpAny _ _ (call (Value.ref 382) _) _ _ _); k_dflt (refine' useX (told_decimal _ _ _ _ _ _ _ ?p1 ?p2) ?k1 ?k2 ?k3 ?k4 ?k5 ?kK ?kd ?ku ?kx ?kq; (case p1 => walk_at "up"); (case p2 => walk_at "up"); walk_at "u2"; (case' kx => walk_at "uf")); (case' kq => (intro r9 v9 tl9 h9 tk9 hr9 F9 N9 l9 o9; rcases o9 with ⟨D9, a9, b9, e9, e8⟩ | ⟨e9, e8, hx9, hy9⟩ <;> (subst e9; subst e8; dsimp only [List.cons_append, List.nil_append] at N9; (try (have l9' := fun q hq => l9 q hq (D9, _) (.head _); k_lt l9')); walk_at "u3")))) | ((with_reducible show wpAny _ _ (call (Value.ref 361) _) _ _ _); k_dflt (refine' useIII (run_of_figures _ _ _ _ _ ?p1) ?k1 ?k2 ?k3 ?k4 ?k5 ?kK ?kd ?ku ?_; (case p1 => walk_at "up"); walk_at "u2"); intro D9 a9 b9 c9 h9 tk9 F9 N9 l9; (try k_lt l9); walk_at "u3"))) | walk_at "wk"))))
    all_goals (try exact absurd (by assumption) hah)
    k_dflt (refine' useX (told_decimal w n1 dg ((powerAt (sgs x) a1).1 - (p1 : Nat)) _ _ _ hn hdg) ?k1 ?k2 ?k3 ?k4 ?k5 ?kK ?kd ?ku ?kx ?kq; (case k1 => k_asm); (case k2 => k_asm); (case k3 => k_asm); (case k4 => k_asm); (case k5 => k_asm); (case kK => first | exact rfl | assumption); (case kd => ktr_room); (case ku => ktr_units); k_whole; (case' kx => (intro hn9 e9 g9 h9 tk9 FG9 R9; (try dsimp only); (rename _ = none → Exc _ _ _ _ _ _ _ _ _ => hx9); refine fly_on (env := _) rfl (by assumption) FG9 R9 ?_; intro h8 R8; (try dsimp only); first | exact hx9 (by assumption) _ _ _ _ (by assumption) (R8.less (by repeat' (first | exact sub_refl _ | refine sub_cons ?_))) | (refine hx9 ?hn _ _ _ _ (by assumption) (R8.less (by repeat' (first | exact sub_refl _ | refine sub_cons ?_)))))))
    (case' kq =>
      intro r9 v9 tl9 h9 tk9 hr9 F9 N9 l9 o9
      rcases o9 with ⟨D9, a9, b9, rfl, rfl⟩ | ⟨rfl, rfl, hx9, hy9⟩ <;> (dsimp only [List.cons_append, List.nil_append] at N9; (try (have l9' := fun q hq => l9 q hq (D9, _) (.head _); k_lt l9')); (try k_sweep); (try dsimp only); (try k_fold)))
    (repeat' (first | ((fail_if_success (first | (with_reducible show wpAny _ _ (exec (Stmt.While _ _ _ _) _) _ _ _) | (with_reducible show wpAny _ _ (exec (Stmt.Raise _ _ _) _) _ _ _) | (with_reducible show WhStep _ _ _ _ _ _ _ _ _ _ _))); (first | (k_here; (with_reducible show wpAny _ _ (call (Value.ref _) _) _ _ _); (first | ((with_reducible show wpAny _ _ (call (Value.ref 368) _) _ _ _); k_dflt (refine' useII (exponent_at _ _ _ _ _ ?p1 ?p2) ?k1 ?k2 ?k3 ?k4 ?k5 ?kK ?kd ?ku ?_; (case p1 => walk_at "up"); (case p2 => walk_at "up"); walk_at "u2"); intro D9 a9 b9 h9 tk9 F9 N9 l9; (try k_lt l9); walk_at "u3") | ((with_reducible show wpAny _ _ (call (Value.ref 382) _) _ _ _); k_dflt (refine' useX (told_decimal _ _ _ _ _ _ _ ?p1 ?p2) ?k1 ?k2 ?k3 ?k4 ?k5 ?kK ?kd ?ku ?kx ?kq; (case p1 => walk_at "up"); (case p2 => walk_at "up"); walk_at "u2"; (case' kx => walk_at "uf")); (case' kq => (intro r9 v9 tl9 h9 tk9 hr9 F9 N9 l9 o9; rcases o9 with ⟨D9, a9, b9, e9, e8⟩ | ⟨e9, e8, hx9, hy9⟩ <;> (subst e9; subst e8; dsimp only [List.cons_append, List.nil_append] at N9; (try (have l9' := fun q hq => l9 q hq (D9, _) (.head _); k_lt l9')); walk_at "u3")))) | ((with_reducible show wpAny _ _ (call (Value.ref 361) _) _ _ _); k_dflt (refine' useIII (run_of_figures _ _ _ _ _ ?p1) ?k1 ?k2 ?k3 ?k4 ?k5 ?kK ?kd ?ku ?_; (case p1 => walk_at "up"); walk_at "u2"); intro D9 a9 b9 c9 h9 tk9 F9 N9 l9; (try k_lt l9); walk_at "u3"))) | walk_at "wk"))))
    all_goals (have H := hret _ hr9)
    · exact Ret.made2 H (by k_asm) (by k_asm) (by repeat' (first | exact sub_refl _ | refine sub_cons ?_)) (by k_mem) (D2 := D9) (by k_mem) (by first | assumption | exact ktn_ltOf (by assumption) | exact ktn_ltOf (And.right (by assumption)) | exact ktn_ltOf (And.right (And.right (by assumption))) | exact ktn_ltOf (And.right (And.right (And.right (by assumption)))) | exact ktn_ltOf (And.right (And.right (And.right (And.right (by assumption))))) | exact ktn_ltOf (And.right (And.right (And.right (And.right (And.right (by assumption)))))) | exact ktn_ltOf (And.right (And.right (And.right (And.right (And.right (And.right (by assumption))))))) | exact ktn_ltOf (And.right (And.right (And.right (And.right (And.right (And.right (And.right (by assumption)))))))) | exact ktn_ltOf (And.right (And.right (And.right (And.right (And.right (And.right (And.right (And.right (by assumption))))))))) | exact ktn_ltOf (And.right (And.right (And.right (And.right (And.right (And.right (And.right (And.right (And.right (by assumption)))))))))) | exact ktn_ltOf (And.right (And.right (And.right (And.right (And.right (And.right (And.right (And.right (And.right (And.right (by assumption))))))))))) | exact ktn_ltOf (And.right (And.right (And.right (And.right (And.right (And.right (And.right (And.right (And.right (And.right (And.right (by assumption))))))))))))) (by first | assumption | exact ktn_ltOf (by assumption) | exact ktn_ltOf (And.right (by assumption)) | exact ktn_ltOf (And.right (And.right (by assumption))) | exact ktn_ltOf (And.right (And.right (And.right (by assumption)))) | exact ktn_ltOf (And.right (And.right (And.right (And.right (by assumption))))) | exact ktn_ltOf (And.right (And.right (And.right (And.right (And.right (by assumption)))))) | exact ktn_ltOf (And.right (And.right (And.right (And.right (And.right (And.right (by assumption))))))) | exact ktn_ltOf (And.right (And.right (And.right (And.right (And.right (And.right (And.right (by assumption)))))))) | exact ktn_ltOf (And.right (And.right (And.right (And.right (And.right (And.right (And.right (And.right (by assumption))))))))) | exact ktn_ltOf (And.right (And.right (And.right (And.right (And.right (And.right (And.right (And.right (And.right (by assumption)))))))))) | exact ktn_ltOf (And.right (And.right (And.right (And.right (And.right (And.right (And.right (And.right (And.right (And.right (by assumption))))))))))) | exact ktn_ltOf (And.right (And.right (And.right (And.right (And.right (And.right (And.right (And.right (And.right (And.right (And.right (by assumption))))))))))))) ⟨_, D9, _, _, rfl, rfl, .inl ⟨_, _, _, rfl, rfl⟩⟩
    · exact Ret.made H (by k_asm) (by k_asm) (by repeat' (first | exact sub_refl _ | refine sub_cons ?_)) (by k_mem) (by first | assumption | exact ktn_ltOf (by assumption) | exact ktn_ltOf (And.right (by assumption)) | exact ktn_ltOf (And.right (And.right (by assumption))) | exact ktn_ltOf (And.right (And.right (And.right (by assumption)))) | exact ktn_ltOf (And.right (And.right (And.right (And.right (by assumption))))) | exact ktn_ltOf (And.right (And.right (And.right (And.right (And.right (by assumption)))))) | exact ktn_ltOf (And.right (And.right (And.right (And.right (And.right (And.right (by assumption))))))) | exact ktn_ltOf (And.right (And.right (And.right (And.right (And.right (And.right (And.right (by assumption)))))))) | exact ktn_ltOf (And.right (And.right (And.right (And.right (And.right (And.right (And.right (And.right (by assumption))))))))) | exact ktn_ltOf (And.right (And.right (And.right (And.right (And.right (And.right (And.right (And.right (And.right (by assumption)))))))))) | exact ktn_ltOf (And.right (And.right (And.right (And.right (And.right (And.right (And.right (And.right (And.right (And.right (by assumption))))))))))) | exact ktn_ltOf (And.right (And.right (And.right (And.right (And.right (And.right (And.right (And.right (And.right (And.right (And.right (by assumption))))))))))))) ⟨_, 354, _, [], rfl, rfl, .inr ⟨rfl, rfl, hx9, hy9⟩⟩
 case hZ => delta id; exact pair_ _

noncomputable def isF (y : Str) : Bool := decide (¬ y.cps.toList < (Str.ofString "0").cps.toList ∧ ¬ (Str.ofString "9").cps.toList < y.cps.toList)
theorem isF_item {x : Str} {i : Int} (h0 : 0 ≤ i) (h1 : i < x.length) : isF (Txt.item x i) = isD ((sgs x).getD i.toNat 0) := by
  have e : (Txt.item x i).cps.toList = [(sgs x).getD i.toNat 0] := sgs_item h0 h1
  unfold isF
  cases h : isD ((sgs x).getD i.toNat 0) with
  | true =>
    rw [decide_eq_true_eq, e, show (Str.ofString "0").cps.toList = [48] from by decide, show (Str.ofString "9").cps.toList = [57] from by decide, lt1, lt1]
    rw [isD_iff] at h
    omega
  | false =>
    rw [decide_eq_false_iff_not]
    intro z
    have := item_isD h0 h1 z.1 z.2
    rw [h] at this
    cases this
set_option maxHeartbeats 4000000 in
theorem is_figure (w : World) (x : Str) (t : Tok) : Meets w 101 1 8 [.str x t] (OutB (isF x)) := by
 refine (?fZ : PullF _) ?pZ ?qZ ?hZ
 case fZ => exact fun _ q _ => q
 case pZ =>
  unfold Meets
  k_fill
  intro p loose mean mg mb dp un gd cn cs a ccd cl outer A₀ base h₀ L m news s Q E hrw B F X N T hk hd hu hret
  clear hrw
  refine wpAny_call ?_
  k_dflt cell_enter
  (repeat' (first | ((fail_if_success (first | (with_reducible show wpAny _ _ (exec (Stmt.While _ _ _ _) _) _ _ _) | (with_reducible show wpAny _ _ (exec (Stmt.Raise _ _ _) _) _ _ _) | (with_reducible show WhStep _ _ _ _ _ _ _ _ _ _ _))); (first | walk_at "wk"))))
  all_goals (refine Ret.bool hret (by k_asm) (by k_asm) (by repeat' (first | exact sub_refl _ | refine sub_cons ?_)) ?_)
  · rename x.cps.toList < _ => hz
    unfold isF
    rw [decide_eq_true hz]
    exact (decide_eq_false fun z => z.1 hz).symm
  · rename ¬ x.cps.toList < _ => hz
    unfold isF
    by_cases h : (Str.ofString "9").cps.toList < x.cps.toList
    · rw [decide_eq_true h]
      exact (decide_eq_false fun z => z.2 h).symm
    · rw [decide_eq_false h]
      exact (decide_eq_true ⟨hz, h⟩).symm
 case hZ => delta id; exact pair_ _
-- MACROS
-- END
set_option maxHeartbeats 4000000 in
theorem figures_end (w : World) (x : Str) (n0 : Nat) (t u : Tok) (hx : x.length ≤ 60) : Meets w 113 3 24 [.str x t, .int (n0 : Int) u] (OutI ((n0 + (run (sgs x) n0).length : Nat) : Int)) := by
 refine (?fZ : PullF _) ?pZ ?qZ ?hZ
 case fZ => exact fun _ q _ => q
 case pZ =>
  unfold Meets
  k_fill
  intro p loose mean mg mb dp un gd cn cs a ccd cl outer A₀ base h₀ L m news s Q E hrw B F X N T hk hd hu hret
  clear hrw
  refine wpAny_call ?_
  k_dflt cell_enter
  have h60 := run_len60 n0 hx
  have hx0 : x.length ≤ 1048576 := Nat.le_trans hx (by decide)
  (repeat' (first | ((fail_if_success (first | (with_reducible show wpAny _ _ (exec (Stmt.While _ _ _ _) _) _ _ _) | (with_reducible show wpAny _ _ (exec (Stmt.Raise _ _ _) _) _ _ _) | (with_reducible show WhStep _ _ _ _ _ _ _ _ _ _ _))); (first | (k_here; (with_reducible show wpAny _ _ (call (Value.ref _) _) _ _ _); (first | ((with_reducible show wpAny _ _ (call (Value.ref 101) _) _ _ _); k_dflt (refine' useB (is_figure _ _ _) ?k1 ?k2 ?k3 ?k4 ?k5 ?kK ?kd ?ku ?_; walk_at "u2"); intro h9 tk9 F9 N9; walk_at "u3"))) | walk_at "wk"))))
  k_dflt (refine' while_st (fun m c y => if y = Str.ofString "at" then some (.int ((n0 + c.1 : Nat) : Int) c.2) else m y) (fun c : Nat × Tok => c.1 ≤ (run (sgs x) n0).length) (fun c => x.length - c.1) (0, _) ?w1 ?w2 ?w3 ?w4 ?w5 ?w6)
  (case w1 => k_asm); (case w2 => k_asm); (case w3 => (funext y; (try dsimp only); (repeat' split) <;> first | contradiction | rfl | (subst_vars; rfl) | (exfalso; simp_all +decide; done) | (refine int_eq ?ie ?it; (case it => rfl); (case ie => (first | rfl | assumption | exact fdiv10 _ | omega | (simp only [Nat.pow_succ, Int.natCast_mul, Int.natCast_add, Int.natCast_one]; first | done | rfl | omega) | (simp_all; first | done | omega)))) | (simp_all; done))); (case w6 => with_unfolding_all passes_own); (case' w5 => (intro c h₁ tk₁ hI F₁ N₁; (try k_sweep); (try dsimp only); (try k_fold)))
  (case w4 => exact Nat.zero_le _)
  have hI : c.1 ≤ (run (sgs x) n0).length := hI
  have hln := sgs_len x
  (repeat' (first | ((fail_if_success (first | (with_reducible show wpAny _ _ (exec (Stmt.While _ _ _ _) _) _ _ _) | (with_reducible show wpAny _ _ (exec (Stmt.Raise _ _ _) _) _ _ _) | (with_reducible show WhStep _ _ _ _ _ _ _ _ _ _ _))); (first | (k_here; (with_reducible show wpAny _ _ (call (Value.ref _) _) _ _ _); (first | ((with_reducible show wpAny _ _ (call (Value.ref 101) _) _ _ _); k_dflt (refine' useB (is_figure _ _ _) ?k1 ?k2 ?k3 ?k4 ?k5 ?kK ?kd ?ku ?_; walk_at "u2"); intro h9 tk9 F9 N9; walk_at "u3"))) | walk_at "wk"))))
  · rename isF _ = true => hf
    rw [isF_item (by omega) (by omega)] at hf
    have hg := run_go hI (by omega) hf
    refine' WhStep.next (c.1 + 1, _) (by k_asm) (by k_asm) (by repeat' (first | exact sub_refl _ | refine sub_cons ?_)) ?hm ?hI ?hμ
    (case hm => (funext y; (try dsimp only); (repeat' split) <;> first | contradiction | rfl | (subst_vars; rfl) | (exfalso; simp_all +decide; done) | (refine int_eq ?ie ?it; (case it => rfl); (case ie => (first | rfl | assumption | exact fdiv10 _ | omega | (simp only [Nat.pow_succ, Int.natCast_mul, Int.natCast_add, Int.natCast_one]; first | done | rfl | omega) | (simp_all; first | done | omega)))) | (simp_all; done)))
    · exact hg
    · dsimp only; omega
  · rename isF _ = false => hf
    rw [isF_item (by omega) (by omega)] at hf
    have hs := run_stop hI (.inl hf)
    exact Ret.int hret (by k_asm) (by k_asm) (by repeat' (first | exact sub_refl _ | refine sub_cons ?_)) (by rw [hs])
  · have hs := run_stop (l := sgs x) hI (.inr (by omega))
    exact Ret.int hret (by k_asm) (by k_asm) (by repeat' (first | exact sub_refl _ | refine sub_cons ?_)) (by rw [hs])
 case hZ => delta id; exact pair_ _
-- MACROS
-- END
set_option maxHeartbeats 4000000 in
theorem skipped_none (w : World) (x : Str) (n0 : Nat) (t u : Tok) (hx : x.length ≤ 60) (hb : (Builtin.Str.occurrences (Str.ofString " \t") (Txt.item x n0) 0 (Str.ofString " \t").length 1).isEmpty = true) : Meets w 120 3 24 [.str x t, .int (n0 : Int) u] (OutI (n0 : Nat)) := by
 refine (?fZ : PullF _) ?pZ ?qZ ?hZ
 case fZ => exact fun _ q _ => q
 case pZ =>
  unfold Meets
  k_fill
  intro p loose mean mg mb dp un gd cn cs a ccd cl outer A₀ base h₀ L m news s Q E hrw B F X N T hk hd hu hret
  clear hrw
  refine wpAny_call ?_
  k_dflt cell_enter
  have hx0 : x.length ≤ 1048576 := Nat.le_trans hx (by decide)
  (repeat' (first | ((fail_if_success (first | (with_reducible show wpAny _ _ (exec (Stmt.While _ _ _ _) _) _ _ _) | (with_reducible show wpAny _ _ (exec (Stmt.Raise _ _ _) _) _ _ _) | (with_reducible show WhStep _ _ _ _ _ _ _ _ _ _ _))); (first | (k_here; (with_reducible show wpAny _ _ (call (Value.ref _) _) _ _ _); (first | ((with_reducible show wpAny _ _ (call (Value.ref 101) _) _ _ _); k_dflt (refine' useB (is_figure _ _ _) ?k1 ?k2 ?k3 ?k4 ?k5 ?kK ?kd ?ku ?_; walk_at "u2"); intro h9 tk9 F9 N9; walk_at "u3"))) | walk_at "wk"))))
  k_dflt (refine' while_st (fun m (_ : Unit) => m) (fun _ => True) (fun _ => 0) () ?w1 ?w2 ?w3 ?w4 ?w5 ?w6)
  (case w1 => k_asm)
  (case w2 => k_asm)
  (case w3 => rfl)
  (case w4 => trivial)
  (case w6 => with_unfolding_all passes_own)
  (case' w5 => (intro c h₁ tk₁ hI F₁ N₁; (try k_sweep); (try dsimp only); (try k_fold)))
  (repeat' (first | ((fail_if_success (first | (with_reducible show wpAny _ _ (exec (Stmt.While _ _ _ _) _) _ _ _) | (with_reducible show wpAny _ _ (exec (Stmt.Raise _ _ _) _) _ _ _) | (with_reducible show WhStep _ _ _ _ _ _ _ _ _ _ _))); (first | (k_here; (with_reducible show wpAny _ _ (call (Value.ref _) _) _ _ _); (first | ((with_reducible show wpAny _ _ (call (Value.ref 101) _) _ _ _); k_dflt (refine' useB (is_figure _ _ _) ?k1 ?k2 ?k3 ?k4 ?k5 ?kK ?kd ?ku ?_; walk_at "u2"); intro h9 tk9 F9 N9; walk_at "u3"))) | walk_at "wk"))))
  all_goals exact Ret.int hret (by k_asm) (by k_asm) (by repeat' (first | exact sub_refl _ | refine sub_cons ?_)) rfl
 case hZ => delta id; exact pair_ _
-- MACROS
-- END

theorem slice_any2_t {x A B : Str} {i j : Int} {a : Nat} (hs : sgs (Txt.slice x (some i) (some j)) = at1 (sgs x) a) (h : at1 (sgs x) a = sgs A ∨ at1 (sgs x) a = sgs B) : ([A, B].any fun z => z == Txt.slice x (some i) (some j)) = true := by
  simp only [List.any_cons, List.any_nil, Bool.or_false, Bool.or_eq_true, beq_iff_eq]
  rcases h with h | h
  · exact .inl (str_eq (by rw [hs, h]))
  · exact .inr (str_eq (by rw [hs, h]))
/-- a power, or none, of at most three figures -/
noncomputable def PowForm3 (l : List Nat) (a : Nat) : Prop := (at1 l a = [] ∨ at1 l a = [33]) ∨ (at1 l a = [69] ∧ (run l (powStart l a)).length ≠ 0 ∧ (run l (powStart l a)).length ≤ 3)
theorem PowForm3.form {l : List Nat} {a : Nat} (h : PowForm3 l a) : PowForm l a := by
  rcases h with h | ⟨h1, h2, h3⟩
  · exact .inl h
  · refine .inr ⟨h1, h2, ?_⟩
    have := val_lt (run_isD l (powStart l a))
    have h4 : 10 ^ (run l (powStart l a)).length ≤ 10 ^ 3 := Nat.pow_le_pow_right (by decide) h3
    omega
set_option maxHeartbeats 4000000 in
theorem power_end (w : World) (x : Str) (n0 : Nat) (t u : Tok) (hx : x.length ≤ 60) (hpf : PowForm3 (sgs x) n0) : Meets w 127 5 40 [.str x t, .int (n0 : Int) u] (OutI ((powerAt (sgs x) n0).2 : Nat)) := by
 refine (?fZ : PullF _) ?pZ ?qZ ?hZ
 case fZ => exact fun _ q _ => q
 case pZ =>
  unfold Meets
  k_fill
  intro p loose mean mg mb dp un gd cn cs a ccd cl outer A₀ base h₀ L m news s Q E hrw B F X N T hk hd hu hret
  clear hrw
  refine wpAny_call ?_
  k_dflt cell_enter
  have hx0 : x.length ≤ 1048576 := Nat.le_trans hx (by decide)
  have hsl0 : sgs (Txt.slice x (some (n0 : Int)) (some ((n0 : Int) + 1))) = at1 (sgs x) n0 := slice_at1 n0 rfl rfl
  have hsl : sgs (Txt.slice x (some ((n0 : Int) + 1)) (some ((n0 : Int) + 2))) = at1 (sgs x) (n0 + 1) := slice_at1 (n0 + 1) (by omega) (by omega)
  rcases hpf with hA | ⟨hE, hne, h3⟩
  · have hf := slice_any2 (A := Str.ofString "E") (B := Str.ofString "e") hsl0 (by rw [lit_E]; rcases hA with h | h <;> rw [h] <;> decide) (by rw [lit_e]; rcases hA with h | h <;> rw [h] <;> decide)
    have hq : powerAt (sgs x) n0 = _ := pow_none (by rcases hA with h | h <;> rw [h] <;> decide) (by rcases hA with h | h <;> rw [h] <;> decide)
    rw [hq] at hret
    (repeat' (first | ((fail_if_success (first | (with_reducible show wpAny _ _ (exec (Stmt.While _ _ _ _) _) _ _ _) | (with_reducible show wpAny _ _ (exec (Stmt.Raise _ _ _) _) _ _ _) | (with_reducible show WhStep _ _ _ _ _ _ _ _ _ _ _))); (first | (k_here; (with_reducible show wpAny _ _ (call (Value.ref _) _) _ _ _); (first | ((with_reducible show wpAny _ _ (call (Value.ref 113) _) _ _ _); k_dflt (refine' useI (figures_end _ _ _ _ _ ?p1) ?k1 ?k2 ?k3 ?k4 ?k5 ?kK ?kd ?ku ?_; (case p1 => walk_at "up"); walk_at "u2"); intro t9 h9 tk9 F9 N9; walk_at "u3"))) | walk_at "wk"))))
    exact Ret.int hret (by k_asm) (by k_asm) (by repeat' (first | exact sub_refl _ | refine sub_cons ?_)) rfl
  · have hf := slice_any2_t (A := Str.ofString "E") (B := Str.ofString "e") hsl0 (by rw [lit_E]; exact .inl hE)
    have hq : powerAt (sgs x) n0 = _ := if_pos (.inl hE)
    by_cases hs : at1 (sgs x) (n0 + 1) = [43] ∨ at1 (sgs x) (n0 + 1) = [45]
    · have hp : powStart (sgs x) n0 = n0 + 2 := if_pos hs
      have hg := slice_any2_t (A := Str.ofString "+") (B := Str.ofString "-") hsl (by rw [lit_plus, lit_minus]; exact hs)
      rw [hp] at hq hne h3
      rw [hq] at hret
      (repeat' (first | ((fail_if_success (first | (with_reducible show wpAny _ _ (exec (Stmt.While _ _ _ _) _) _ _ _) | (with_reducible show wpAny _ _ (exec (Stmt.Raise _ _ _) _) _ _ _) | (with_reducible show WhStep _ _ _ _ _ _ _ _ _ _ _))); (first | (k_here; (with_reducible show wpAny _ _ (call (Value.ref _) _) _ _ _); (first | ((with_reducible show wpAny _ _ (call (Value.ref 113) _) _ _ _); k_dflt (refine' useI (figures_end _ _ _ _ _ ?p1) ?k1 ?k2 ?k3 ?k4 ?k5 ?kK ?kd ?ku ?_; (case p1 => walk_at "up"); walk_at "u2"); intro t9 h9 tk9 F9 N9; walk_at "u3"))) | walk_at "wk"))))
      exact Ret.int hret (by k_asm) (by k_asm) (by repeat' (first | exact sub_refl _ | refine sub_cons ?_)) rfl
    · have hp : powStart (sgs x) n0 = n0 + 1 := if_neg hs
      have hg := slice_any2 (A := Str.ofString "+") (B := Str.ofString "-") hsl (by rw [lit_plus]; exact fun z => hs (.inl z)) (by rw [lit_minus]; exact fun z => hs (.inr z))
      rw [hp] at hq hne h3
      rw [hq] at hret
      (repeat' (first | ((fail_if_success (first | (with_reducible show wpAny _ _ (exec (Stmt.While _ _ _ _) _) _ _ _) | (with_reducible show wpAny _ _ (exec (Stmt.Raise _ _ _) _) _ _ _) | (with_reducible show WhStep _ _ _ _ _ _ _ _ _ _ _))); (first | (k_here; (with_reducible show wpAny _ _ (call (Value.ref _) _) _ _ _); (first | ((with_reducible show wpAny _ _ (call (Value.ref 113) _) _ _ _); k_dflt (refine' useI (figures_end _ _ _ _ _ ?p1) ?k1 ?k2 ?k3 ?k4 ?k5 ?kK ?kd ?ku ?_; (case p1 => walk_at "up"); walk_at "u2"); intro t9 h9 tk9 F9 N9; walk_at "u3"))) | walk_at "wk"))))
      exact Ret.int hret (by k_asm) (by k_asm) (by repeat' (first | exact sub_refl _ | refine sub_cons ?_)) rfl
 case hZ => delta id; exact pair_ _
-- MACROS
-- END

/-! a list comprehension over an ASCII text -/
section
variable {prog : Program} {w : World} {A : Around} {E : Value → Shared → Prop} {s : Shared} {h₀ : Heap} {L : Addr} {m : Str → Option Value} {env : Env}
noncomputable def SrcS (prog : Program) (w : World) (A : Around) (h₀ : Heap) (L : Addr) (m : Str → Option Value) (env : Env) (elt : Expr) (x : Str) (scope : Scope) (cl : List (Str × Addr)) (Q : Value → Shared → Prop) (xv : Value) (s₁ : Shared) : Prop :=
  ∃ (y : Str) (t : Tok) (news : Led), xv = .str y t ∧ A.handled = none ∧ y.cps.all (· < 128) = true ∧ y.cps.size ≤ sizeLine ∧ Fr h₀ L s₁.heap m ∧ News h₀ L s₁.heap news ∧
    ∀ g, LCg.CompRest prog w A h₀ L m env elt x scope cl { s₁ with heap := g } (fun _ => True) (SignAt y) (LCg.FinE h₀ L m { s₁ with heap := g } Q) y.cps.size 0 [] news
theorem ListComp_S {elt iter : Expr} {x : Str} {px : Pos} {scope : Scope} {cl : List (Str × Addr)} {pos : Pos} {Q : Value → Shared → Prop} (_F₀ : Fr h₀ L s.heap m)
    (hclos : closureFor scope env = pure cl) (hcell : ∀ y ∈ scope.names, y.2 ≠ .cell) (hkind : scope.kind = .function)
    (hnames : ∀ y ∈ scope.names, y.2 = .local → scope.names.lookup y.1 = some .local) (hx : scope.names.lookup x = some .local)
    (h : wpAny (model prog w) A (eval iter env) (SrcS prog w A h₀ L m env elt x scope cl Q) E s)
    (hs : ∀ x, foldedSetIterable iter env x = pure x := by intro _; rfl) :
    wpAny (model prog w) A (eval (.ListComp elt [⟨.Name x px, iter, [], 0⟩] scope pos) env) Q E s := by
  rw [eval_ListComp]
  refine wpAny_comprehension_free (use := none) rfl hs hclos hkind hnames (wpAny_mono h (fun xv s₁ h₁ => ?_) fun _ _ e => e)
  obtain ⟨y, t, news, rfl, hh, ha, hsz, F, N, R⟩ := h₁
  refine wpAny_pyIter_ascii ha ?_
  have up : ∀ b o, s₁.heap.get? b = some o → (s₁.heap.push { cls := .type "str_ascii_iterator", data := .fields #[.str y t, .int 0 0] }).get? b = some o := fun b o e => Heap.get?_push_of_some _ e
  refine LCg.block_U (S := fun _ => True) (Walks.strAscii hh s₁.heap.objs.size y t) hsz (fun i h st => by obtain ⟨o, e, _⟩ := st; exact ⟨o, e⟩) (fun i h h' o nw st e e' _ _ _ => by obtain ⟨o', q, r⟩ := st; rw [e] at q; cases q; exact ⟨o, e', r⟩) hcell hkind hx ⟨_, Heap.get?_push_size _ rfl, rfl, rfl⟩ (fun b hb => ?_)
    (F.keeps up) (N.grown up) (Nat.ne_of_lt F.ns.lt) (next_is_new F) (fun p hp => Nat.ne_of_lt (Heap.lt_size (N p hp).1)) trivial (R _) ?_
  · show b < (s₁.heap.push _).objs.size
    rw [Heap.size_push, List.mem_singleton.mp hb]
    exact Nat.lt_succ_self _
  · intro D C h tk m' ys news' F' N' o1 hn hC₀ hD₀ hCL hDL hCD offC fin
    refine ⟨m', hn, fun h'' hs'' => fin D h'' tk (F'.change hs'' hCL hC₀) (fun p hp => ?_) o1⟩
    refine ⟨hs''.extBut _ _ ?_ (N' p hp).1, (N' p hp).2⟩
    rcases List.mem_cons.mp hp with rfl | hp
    · exact Ne.symm hCD
    · exact offC p hp
end
section
variable {prog : Program} {w : World} {A : Around} {s : Shared} {h₀ : Heap} {L : Addr} {m : Str → Option Value} {env : Env} {elt : Expr} {x : Str} {scope : Scope} {cl : List (Str × Addr)} {Fin : List Value → Led → Prop} {news : Led}
noncomputable def SignEl (news : Led) (c : Nat) (r : Value) (news' : Led) : Prop := news' = news ∧ ∃ u', r = .str ⟨#[c]⟩ u'
theorem comp_signs (y : Str)
    (turn : ∀ c u I oI C oC D m₂ ys h tk (E' : Value → Shared → Prop), c ∈ sgs y → LCg.NsObj oC m₂ → m₂ x = some (.str ⟨#[c]⟩ u) → Fr h₀ L h m → News h₀ L h ((I, oI) :: (C, oC) :: (D, LCg.lst ys) :: news) → LCg.Off3 I C D news → ((@Ne Nat I C) ∧ (@Ne Nat I D) ∧ (@Ne Nat C D)) →
      wpAny (model prog w) A (eval elt (compEnvC scope cl C env)) (LCg.CompEnd h₀ L m { s with heap := h, toks := tk } I oI C oC D (LCg.lst ys) (fun _ => True) (SignEl news c)) E' { s with heap := h, toks := tk })
    (fin : ∀ ys, StrsAre ys ((sgs y).map fun c => (⟨#[c]⟩ : Str)) → Fin ys news) : LCg.CompRest prog w A h₀ L m env elt x scope cl s (fun _ => True) (SignAt y) Fin y.cps.size 0 [] news := by
  have hl : (sgs y).length = y.cps.size := sgs_len y
  have key : ∀ (j i : Nat) (ys : List Value), i + j = y.cps.size → StrsAre ys (((sgs y).take i).map fun c => (⟨#[c]⟩ : Str)) → LCg.CompRest prog w A h₀ L m env elt x scope cl s (fun _ => True) (SignAt y) Fin j i ys news := by
    intro j
    induction j with
    | zero =>
      intro i ys hi hy
      rw [List.take_of_length_le (by omega)] at hy
      exact LCg.CompRest.zero (fin ys hy)
    | succ j ih =>
      intro i ys hi hy
      refine LCg.CompRest.succ ?_
      intro v I oI C oC D m₂ h tk E' hv hC hx F N off ne
      obtain ⟨c, u, hk, rfl⟩ := hv
      have hk' : (sgs y)[i]? = some c := by
        show y.cps.toList[i]? = some c
        rw [Array.getElem?_toList]; exact hk
      refine wpAny_mono (turn c u I oI C oC D m₂ ys h tk E' (List.mem_of_getElem? hk') hC hx F N off ne) (fun r s₂ hq => ?_) fun _ _ e => e
      obtain ⟨h', tk', nw, e, F', N', off', hS, rfl, u', rfl⟩ := hq
      refine ⟨h', tk', nw, e, F', N', off', hS, ?_⟩
      refine ih (i + 1) _ (by omega) ?_
      rw [List.take_add_one, hk']
      simpa using kct_snoc hy
  exact key _ 0 [] (by omega) (by simp only [List.take_zero, List.map_nil]; exact .nil)
end
theorem sgs_append (a b : Str) : sgs (a ++ b) = sgs a ++ sgs b := by
  show (a.cps ++ b.cps).toList = _
  rw [Array.toList_append]
theorem join_signs : ∀ l : List Nat, sgs (Str.join (Str.ofString "") (l.map fun c => (⟨#[c]⟩ : Str))) = l
  | [] => by decide
  | [c] => rfl
  | c :: d :: r => by
    have ih := join_signs (d :: r)
    show sgs ((⟨#[c]⟩ : Str) ++ Str.ofString "" ++ Str.join (Str.ofString "") ((d :: r).map fun c => (⟨#[c]⟩ : Str))) = _
    rw [sgs_append, sgs_append, ih, show sgs (Str.ofString "") = [] from by decide]
    rfl
theorem txt_join (sep : Str) (ys : List Str) : Txt.join sep ys = Str.join sep ys := eq_of_beq (join_closes rfl)
theorem chars_weight (l : List Nat) : ((l.map fun c => (⟨#[c]⟩ : Str)).map (·.length)).sum + (l.map fun c => (⟨#[c]⟩ : Str)).length = 2 * l.length := by
  induction l with
  | nil => rfl
  | cons c r ih =>
    simp only [List.map_cons, List.sum_cons, List.length_cons] at ih ⊢
    have : (⟨#[c]⟩ : Str).length = 1 := rfl
    omega
set_option maxHeartbeats 4000000 in
theorem capital (w : World) (x : Str) (t : Tok) (hx : x.length ≤ 60) (hc : ∀ c ∈ sgs x, ¬ (97 ≤ c ∧ c ≤ 122)) (hasc : x.cps.all (· < 128) = true) : Meets w 106 3 24 [.str x t] (OutS x) := by
 refine (?fZ : PullF _) ?pZ ?qZ ?hZ
 case fZ => exact fun _ q _ => q
 case pZ =>
  unfold Meets
  k_fill
  intro p loose mean mg mb dp un gd cn cs a ccd cl outer A₀ base h₀ L m news s Q E hrw B F X N T hk hd hu hret
  clear hrw
  refine wpAny_call ?_
  k_dflt cell_enter
  have hx0 : x.length ≤ 1048576 := Nat.le_trans hx (by decide)
  have hsz : x.cps.size ≤ sizeLine := Nat.le_trans hx (by rw [sizeLine_eq]; omega)
  (repeat' (first | ((fail_if_success (with_reducible show wpAny _ _ (eval (Expr.ListComp _ _ _ _) _) _ _ _)); walk1) | k_unfold))
  k_dflt (refine' ListComp_S (by k_asm) ?c1 ?c2 ?c3 ?c4 ?c5 ?c6; (case c1 => with_unfolding_all rfl); (case c2 => decide); (case c3 => rfl); (case c4 => decide); (case c5 => rfl))
  (repeat' (first | ((fail_if_success (with_reducible show SrcS _ _ _ _ _ _ _ _ _ _ _ _ _ _)); walk1) | k_unfold))
  refine ⟨x, t, _, rfl, rfl, hasc, hsz, (by k_asm), (by k_asm), fun g => comp_signs x ?turn ?fin⟩
  (case turn =>
    intro c u I oI C oC D m₂ ys h tk E' hcm hC hx' F9 N9 off ne
    have hcc := hc c hcm
    (repeat' (first | ((fail_if_success (first | (with_reducible show wpAny _ _ (exec (Stmt.While _ _ _ _) _) _ _ _) | (with_reducible show wpAny _ _ (exec (Stmt.Raise _ _ _) _) _ _ _) | (with_reducible show WhStep _ _ _ _ _ _ _ _ _ _ _))); (first | walk_at "wk"))))
    · exact LCg.CompEnd.intro F9 N9 news (fun p h => h) off trivial ⟨rfl, u, rfl⟩
    · exact LCg.CompEnd.intro F9 N9 news (fun p h => h) off trivial ⟨rfl, u, rfl⟩
    · exfalso
      rename ¬ (⟨#[c]⟩ : Str).cps.toList < _ => h1
      rename ¬ _ < (⟨#[c]⟩ : Str).cps.toList => h2
      rw [show (⟨#[c]⟩ : Str).cps.toList = [c] from rfl] at h1 h2
      rw [show (Str.ofString "a").cps.toList = [97] from by decide, lt1] at h1
      rw [show (Str.ofString "z").cps.toList = [122] from by decide, lt1] at h2
      omega)
  (case fin =>
    intro ys hys
    intro D h tk F9 N9 o9
    (repeat' (first | ((fail_if_success (first | (with_reducible show wpAny _ _ (exec (Stmt.While _ _ _ _) _) _ _ _) | (with_reducible show wpAny _ _ (exec (Stmt.Raise _ _ _) _) _ _ _) | (with_reducible show WhStep _ _ _ _ _ _ _ _ _ _ _))); (first | walk_at "wk"))))
    refine join_listW (N9.isList (.head _)) hys (show (Str.ofString "").length ≤ 16 by decide) (by rw [chars_weight]; have := sgs_len x; omega) ?_
    intro t7 k7
    (repeat' (first | ((fail_if_success (first | (with_reducible show wpAny _ _ (exec (Stmt.While _ _ _ _) _) _ _ _) | (with_reducible show wpAny _ _ (exec (Stmt.Raise _ _ _) _) _ _ _) | (with_reducible show WhStep _ _ _ _ _ _ _ _ _ _ _))); (first | walk_at "wk"))))
    refine Ret.str hret (by k_asm) (by k_asm) (by repeat' (first | exact sub_refl _ | refine sub_cons ?_)) ?_
    rw [txt_join]
    exact str_eq (join_signs _))
 case hZ => delta id; exact pair_ _
-- MACROS
-- END

section
open Builtin Builtin.Str
theorem gives_find4 (x y : Str) (i j : Int) (t u v z : Tok) : Gives («str.find» ⟨[.str x t, .str y u, .int i v, .int j z], []⟩) (.int (match occurrences x y (fromIndex x.length i) (min (fromIndex x.length j) x.length) 1 with | k :: _ => (k : Int) | [] => -1)) := by
  show Gives (match occurrences x y (fromIndex x.length i) (min (fromIndex x.length j) x.length) 1 with | k :: _ => retInt k | [] => (do rule "str.find.not-found"; retInt (-1))) _
  cases occurrences x y (fromIndex x.length i) (min (fromIndex x.length j) x.length) 1 with
  | nil => exact .rule (.of_eq rfl)
  | cons k _ => exact .of_eq rfl
noncomputable def fnd4 (x y : Str) (i j : Int) : Int := match occurrences x y (fromIndex x.length i) (min (fromIndex x.length j) x.length) 1 with | k :: _ => (k : Int) | [] => -1
theorem find4 {prog : Program} {w : World} {A : Around} {E : Value → Shared → Prop} {s : Shared} {x y : Str} {t u v z : Tok} {i j : Int} {Q : Value → Shared → Prop} (hq : Q (.int (fnd4 x y i j) s.toks) { s with toks := s.toks + 1 }) :
    wpAny (model prog w) A (call (.builtin "str.find") [.str x t, .str y u, .int i v, .int j z]) Q E s :=
  call_gives F.slot_str_find (typeIs_str _ _ _) F.entry_str_find (F.args_str_find_4 _ _ _ _) (gives_find4 x y i j t u v z) hq
end
-- MACROS
-- END
/-- a number as rows have it -/
structure NumText (l : List Nat) : Prop where
  len : l.length ≤ 60
  front : (run l 0).length ≠ 0
  few : numA l ≤ 40
  pow : PowForm3 l (numA l)
  done : l.drop (powerAt l (numA l)).2 = [] ∨ l.drop (powerAt l (numA l)).2 = [33]
  ascii : ∀ c ∈ l, c < 97
  powok : PowOk l
noncomputable def OutNum (x : Str) (r : Value) (tl : Led) : Prop := ∃ (D D2 : Addr) (a b c : Tok) (z : Int), tl = [(D, tup [.ref D2, .int z a]), (D2, tup [.str (Str.ofString "number") b, .str x c])] ∧ r = .ref D ∧ D2 < D ∧ z = (x.length : Nat)
theorem lit_bang : sgs (Str.ofString "!") = [33] := by decide
theorem slice_all {x : Str} {i j : Int} (hi : i = 0) (hj : j = (x.length : Nat)) : Txt.slice x (some i) (some j) = x := by
  subst hi hj
  refine str_eq ?_
  have := sgs_slice x 0 x.length
  rw [Nat.sub_zero, List.drop_zero, ← sgs_len, List.take_length] at this
  exact this
theorem drop_len {l : List Nat} {q : Nat} (h : l.drop q = [33]) : q + 1 = l.length := by
  have := congrArg List.length h
  rw [List.length_drop] at this
  simp only [List.length_cons, List.length_nil] at this
  omega
theorem numA_le (l : List Nat) : numA l ≤ l.length := by
  have h1 : ∀ k, (run l k).length ≤ l.length - k := fun k => by
    have h : (run l k).length ≤ (l.drop k).length := (List.takeWhile_sublist _).length_le
    rwa [List.length_drop] at h
  have h2 := h1 0
  have h3 := h1 (frontA l + 1)
  unfold numA
  split
  · rename_i hd
    have : frontA l < l.length := by
      by_cases hh : frontA l < l.length
      · exact hh
      · rw [at1_end (by omega)] at hd; cases hd
    unfold dotR
    omega
  · unfold frontA
    omega
theorem powerAt_le {l : List Nat} {a : Nat} (h : a ≤ l.length) : (powerAt l a).2 ≤ l.length := by
  have h1 : ∀ k, (run l k).length ≤ l.length - k := fun k => by
    have h : (run l k).length ≤ (l.drop k).length := (List.takeWhile_sublist _).length_le
    rwa [List.length_drop] at h
  unfold powerAt
  split
  · rename_i hE
    have ha : a < l.length := by
      by_cases hh : a < l.length
      · exact hh
      · rw [at1_end (by omega)] at hE; rcases hE with hE | hE <;> cases hE
    have hs : powStart l a ≤ l.length := by
      unfold powStart
      split
      · rename_i hS
        by_cases hh : a + 1 < l.length
        · omega
        · rw [at1_end (by omega)] at hS; rcases hS with hS | hS <;> cases hS
      · omega
    have := h1 (powStart l a)
    show powStart l a + (run l (powStart l a)).length ≤ _
    omega
  · exact h
set_option maxHeartbeats 4000000 in
theorem number_at (w : World) (x : Str) (t u : Tok) (hnt : NumText (sgs x)) : Meets w 134 8 80 [.str x t, .int 0 u] (OutNum x) := by
 refine (?fZ : PullF _) ?pZ ?qZ ?hZ
 case fZ => exact fun _ q _ => q
 case pZ =>
  unfold Meets
  k_fill
  intro p loose mean mg mb dp un gd cn cs a ccd cl outer A₀ base h₀ L m news s Q E hrw B F X N T hk hd hu hret
  clear hrw
  refine wpAny_call ?_
  k_dflt cell_enter
  have hln := sgs_len x
  have hx : x.length ≤ 60 := by rw [← hln]; exact hnt.len
  have hx0 : x.length ≤ 1048576 := Nat.le_trans hx (by decide)
  have hc1 : ∀ c ∈ sgs x, ¬ (97 ≤ c ∧ c ≤ 122) := fun c hc => by have := hnt.ascii c hc; omega
  have hc2 : x.cps.all (· < 128) = true := by
    rw [← Array.all_toList, List.all_eq_true]
    intro c hc
    have := hnt.ascii c hc
    exact decide_eq_true (by omega)
  have hqle := powerAt_le (numA_le (sgs x))
  have hpf := hnt.pow
  have hfew := hnt.few
  have hdone := hnt.done
  have hA : at1 (sgs x) (frontA (sgs x)) = [46] → numA (sgs x) = 0 + (run (sgs x) 0).length + 1 + (run (sgs x) (0 + (run (sgs x) 0).length + 1)).length := fun h => if_pos h
  have hB : ¬ at1 (sgs x) (frontA (sgs x)) = [46] → numA (sgs x) = 0 + (run (sgs x) 0).length := fun h => if_neg h
  have hnl := numA_le (sgs x)
  generalize numA (sgs x) = q at hqle hpf hfew hdone hA hB hnl
  (repeat' (first | ((fail_if_success (with_reducible show wpAny _ _ (exec (Stmt.If (Expr.Compare _ _ _ _) _ _ _) _) _ _ _)); (first | (k_here; with_reducible refine find4 ?_) | (k_here; (with_reducible show wpAny _ _ (call (Value.ref _) _) _ _ _); (first | ((with_reducible show wpAny _ _ (call (Value.ref 106) _) _ _ _); k_dflt (refine' useS (capital _ _ _ ?p1 ?p2 ?p3) ?k1 ?k2 ?k3 ?k4 ?k5 ?kK ?kd ?ku ?_; (case p1 => walk_at "up"); (case p2 => walk_at "up"); (case p3 => walk_at "up"); walk_at "u2"); intro t9 h9 tk9 F9 N9; walk_at "u3") | ((with_reducible show wpAny _ _ (call (Value.ref 127) _) _ _ _); k_dflt (refine' useI (power_end _ _ _ _ _ ?p1 ?p2) ?k1 ?k2 ?k3 ?k4 ?k5 ?kK ?kd ?ku ?_; (case p1 => walk_at "up"); (case p2 => walk_at "up"); walk_at "u2"); intro t9 h9 tk9 F9 N9; walk_at "u3") | ((with_reducible show wpAny _ _ (call (Value.ref 113) _) _ _ _); k_dflt (refine' useI (figures_end _ _ _ _ _ ?p1) ?k1 ?k2 ?k3 ?k4 ?k5 ?kK ?kd ?ku ?_; (case p1 => walk_at "up"); walk_at "u2"); intro t9 h9 tk9 F9 N9; walk_at "u3"))) | walk_at "wk"))))
  rename Fr _ _ _ _ => FF
  rename News _ _ _ _ => NN
  k_dflt (refine cut_put (x := Str.ofString "end") (K := ((q : Nat) : Int)) FF NN ?cu ?re)
  case' cu =>
    by_cases hd : at1 (sgs x) (frontA (sgs x)) = [46]
    · have hdot : (Txt.slice x (some ((0 + (run (sgs x) 0).length : Nat) : Int)) (some (((0 + (run (sgs x) 0).length : Nat) : Int) + 1)) == Str.ofString ".") = true := by
        rw [beq_iff_eq]
        exact str_eq (by rw [slice_at1 _ rfl rfl, lit_dot]; exact hd)
      have h3 := hA hd
      (repeat' (first | (k_here; with_reducible refine find4 ?_) | (k_here; (with_reducible show wpAny _ _ (call (Value.ref _) _) _ _ _); (first | ((with_reducible show wpAny _ _ (call (Value.ref 106) _) _ _ _); k_dflt (refine' useS (capital _ _ _ ?p1 ?p2 ?p3) ?k1 ?k2 ?k3 ?k4 ?k5 ?kK ?kd ?ku ?_; (case p1 => walk_at "up"); (case p2 => walk_at "up"); (case p3 => walk_at "up"); walk_at "u2"); intro t9 h9 tk9 F9 N9; walk_at "u3") | ((with_reducible show wpAny _ _ (call (Value.ref 127) _) _ _ _); k_dflt (refine' useI (power_end _ _ _ _ _ ?p1 ?p2) ?k1 ?k2 ?k3 ?k4 ?k5 ?kK ?kd ?ku ?_; (case p1 => walk_at "up"); (case p2 => walk_at "up"); walk_at "u2"); intro t9 h9 tk9 F9 N9; walk_at "u3") | ((with_reducible show wpAny _ _ (call (Value.ref 113) _) _ _ _); k_dflt (refine' useI (figures_end _ _ _ _ _ ?p1) ?k1 ?k2 ?k3 ?k4 ?k5 ?kK ?kd ?ku ?_; (case p1 => walk_at "up"); walk_at "u2"); intro t9 h9 tk9 F9 N9; walk_at "u3"))) | walk_at "wk"))
      exact CutP.mk (by k_asm) (by rw [h3]) (by k_asm) (by repeat' (first | exact sub_refl _ | refine sub_cons ?_))
    · have hdot : (Txt.slice x (some ((0 + (run (sgs x) 0).length : Nat) : Int)) (some (((0 + (run (sgs x) 0).length : Nat) : Int) + 1)) == Str.ofString ".") = false :=
        slice_ne (slice_at1 _ rfl rfl) (by rw [lit_dot]; exact hd)
      have h3 := hB hd
      (repeat' (first | (k_here; with_reducible refine find4 ?_) | (k_here; (with_reducible show wpAny _ _ (call (Value.ref _) _) _ _ _); (first | ((with_reducible show wpAny _ _ (call (Value.ref 106) _) _ _ _); k_dflt (refine' useS (capital _ _ _ ?p1 ?p2 ?p3) ?k1 ?k2 ?k3 ?k4 ?k5 ?kK ?kd ?ku ?_; (case p1 => walk_at "up"); (case p2 => walk_at "up"); (case p3 => walk_at "up"); walk_at "u2"); intro t9 h9 tk9 F9 N9; walk_at "u3") | ((with_reducible show wpAny _ _ (call (Value.ref 127) _) _ _ _); k_dflt (refine' useI (power_end _ _ _ _ _ ?p1 ?p2) ?k1 ?k2 ?k3 ?k4 ?k5 ?kK ?kd ?ku ?_; (case p1 => walk_at "up"); (case p2 => walk_at "up"); walk_at "u2"); intro t9 h9 tk9 F9 N9; walk_at "u3") | ((with_reducible show wpAny _ _ (call (Value.ref 113) _) _ _ _); k_dflt (refine' useI (figures_end _ _ _ _ _ ?p1) ?k1 ?k2 ?k3 ?k4 ?k5 ?kK ?kd ?ku ?_; (case p1 => walk_at "up"); walk_at "u2"); intro t9 h9 tk9 F9 N9; walk_at "u3"))) | walk_at "wk"))
      exact CutP.same (by k_asm) rfl (by rw [h3]) (by k_asm) (by repeat' (first | exact sub_refl _ | refine sub_cons ?_))
  case' re =>
    intro tK h9 tk9 F9 N9
    clear FF NN hA hB
    (try dsimp only at F9)
    (try dsimp only)
    (repeat' (first | ((fail_if_success (with_reducible show wpAny _ _ (exec (Stmt.If (Expr.BoolOp _ _ _) _ _ _) _) _ _ _)); (first | (k_here; with_reducible refine find4 ?_) | (k_here; (with_reducible show wpAny _ _ (call (Value.ref _) _) _ _ _); (first | ((with_reducible show wpAny _ _ (call (Value.ref 106) _) _ _ _); k_dflt (refine' useS (capital _ _ _ ?p1 ?p2 ?p3) ?k1 ?k2 ?k3 ?k4 ?k5 ?kK ?kd ?ku ?_; (case p1 => walk_at "up"); (case p2 => walk_at "up"); (case p3 => walk_at "up"); walk_at "u2"); intro t9 h9 tk9 F9 N9; walk_at "u3") | ((with_reducible show wpAny _ _ (call (Value.ref 127) _) _ _ _); k_dflt (refine' useI (power_end _ _ _ _ _ ?p1 ?p2) ?k1 ?k2 ?k3 ?k4 ?k5 ?kK ?kd ?ku ?_; (case p1 => walk_at "up"); (case p2 => walk_at "up"); walk_at "u2"); intro t9 h9 tk9 F9 N9; walk_at "u3") | ((with_reducible show wpAny _ _ (call (Value.ref 113) _) _ _ _); k_dflt (refine' useI (figures_end _ _ _ _ _ ?p1) ?k1 ?k2 ?k3 ?k4 ?k5 ?kK ?kd ?ku ?_; (case p1 => walk_at "up"); walk_at "u2"); intro t9 h9 tk9 F9 N9; walk_at "u3"))) | walk_at "wk"))))
    rename Fr _ _ _ _ => FF
    rename News _ _ _ _ => NN
    k_dflt (refine cut_put (x := Str.ofString "behind") (K := ((x.length : Nat) : Int)) FF NN ?cu2 ?re2)
    case' cu2 =>
      rcases hdone with hdn | hdn
      · have hq : (powerAt (sgs x) q).2 = x.length := by
          have := List.drop_eq_nil_iff.mp hdn
          omega
        have hb1 := slice_ne (A := Str.ofString "!") (slice_at1 (x := x) _ rfl rfl) (by unfold at1; rw [hdn, lit_bang]; decide)
        have hb2 := slice_ne (A := Str.ofString "%") (slice_at1 (x := x) _ rfl rfl) (by unfold at1; rw [hdn, lit_pct]; decide)
        (repeat' (first | (k_here; with_reducible refine find4 ?_) | (k_here; (with_reducible show wpAny _ _ (call (Value.ref _) _) _ _ _); (first | ((with_reducible show wpAny _ _ (call (Value.ref 106) _) _ _ _); k_dflt (refine' useS (capital _ _ _ ?p1 ?p2 ?p3) ?k1 ?k2 ?k3 ?k4 ?k5 ?kK ?kd ?ku ?_; (case p1 => walk_at "up"); (case p2 => walk_at "up"); (case p3 => walk_at "up"); walk_at "u2"); intro t9 h9 tk9 F9 N9; walk_at "u3") | ((with_reducible show wpAny _ _ (call (Value.ref 127) _) _ _ _); k_dflt (refine' useI (power_end _ _ _ _ _ ?p1 ?p2) ?k1 ?k2 ?k3 ?k4 ?k5 ?kK ?kd ?ku ?_; (case p1 => walk_at "up"); (case p2 => walk_at "up"); walk_at "u2"); intro t9 h9 tk9 F9 N9; walk_at "u3") | ((with_reducible show wpAny _ _ (call (Value.ref 113) _) _ _ _); k_dflt (refine' useI (figures_end _ _ _ _ _ ?p1) ?k1 ?k2 ?k3 ?k4 ?k5 ?kK ?kd ?ku ?_; (case p1 => walk_at "up"); walk_at "u2"); intro t9 h9 tk9 F9 N9; walk_at "u3"))) | walk_at "wk"))
        exact CutP.same (by k_asm) rfl (by rw [hq]) (by k_asm) (by repeat' (first | exact sub_refl _ | refine sub_cons ?_))
      · have hq := drop_len hdn
        rw [hln] at hq
        have hb1 : (Txt.slice x (some (((powerAt (sgs x) q).2 : Nat) : Int)) (some ((((powerAt (sgs x) q).2 : Nat) : Int) + 1)) == Str.ofString "!") = true := by
          rw [beq_iff_eq]
          exact str_eq (by rw [slice_at1 _ rfl rfl, lit_bang]; unfold at1; rw [hdn]; rfl)
        (repeat' (first | (k_here; with_reducible refine find4 ?_) | (k_here; (with_reducible show wpAny _ _ (call (Value.ref _) _) _ _ _); (first | ((with_reducible show wpAny _ _ (call (Value.ref 106) _) _ _ _); k_dflt (refine' useS (capital _ _ _ ?p1 ?p2 ?p3) ?k1 ?k2 ?k3 ?k4 ?k5 ?kK ?kd ?ku ?_; (case p1 => walk_at "up"); (case p2 => walk_at "up"); (case p3 => walk_at "up"); walk_at "u2"); intro t9 h9 tk9 F9 N9; walk_at "u3") | ((with_reducible show wpAny _ _ (call (Value.ref 127) _) _ _ _); k_dflt (refine' useI (power_end _ _ _ _ _ ?p1 ?p2) ?k1 ?k2 ?k3 ?k4 ?k5 ?kK ?kd ?ku ?_; (case p1 => walk_at "up"); (case p2 => walk_at "up"); walk_at "u2"); intro t9 h9 tk9 F9 N9; walk_at "u3") | ((with_reducible show wpAny _ _ (call (Value.ref 113) _) _ _ _); k_dflt (refine' useI (figures_end _ _ _ _ _ ?p1) ?k1 ?k2 ?k3 ?k4 ?k5 ?kK ?kd ?ku ?_; (case p1 => walk_at "up"); walk_at "u2"); intro t9 h9 tk9 F9 N9; walk_at "u3"))) | walk_at "wk"))
        exact CutP.mk (by k_asm) (by rw [← hq]; rfl) (by k_asm) (by repeat' (first | exact sub_refl _ | refine sub_cons ?_))
    case' re2 =>
      intro tB h8 tk8 F8 N8
      clear FF NN hdone
      (try dsimp only at F8)
      (try dsimp only)
      (repeat' (first | ((fail_if_success (first | (with_reducible show wpAny _ _ (exec (Stmt.While _ _ _ _) _) _ _ _) | (with_reducible show wpAny _ _ (exec (Stmt.Raise _ _ _) _) _ _ _) | (with_reducible show WhStep _ _ _ _ _ _ _ _ _ _ _))); (first | (k_here; with_reducible refine find4 ?_) | (k_here; (with_reducible show wpAny _ _ (call (Value.ref _) _) _ _ _); (first | ((with_reducible show wpAny _ _ (call (Value.ref 106) _) _ _ _); k_dflt (refine' useS (capital _ _ _ ?p1 ?p2 ?p3) ?k1 ?k2 ?k3 ?k4 ?k5 ?kK ?kd ?ku ?_; (case p1 => walk_at "up"); (case p2 => walk_at "up"); (case p3 => walk_at "up"); walk_at "u2"); intro t9 h9 tk9 F9 N9; walk_at "u3") | ((with_reducible show wpAny _ _ (call (Value.ref 127) _) _ _ _); k_dflt (refine' useI (power_end _ _ _ _ _ ?p1 ?p2) ?k1 ?k2 ?k3 ?k4 ?k5 ?kK ?kd ?ku ?_; (case p1 => walk_at "up"); (case p2 => walk_at "up"); walk_at "u2"); intro t9 h9 tk9 F9 N9; walk_at "u3") | ((with_reducible show wpAny _ _ (call (Value.ref 113) _) _ _ _); k_dflt (refine' useI (figures_end _ _ _ _ _ ?p1) ?k1 ?k2 ?k3 ?k4 ?k5 ?kK ?kd ?ku ?_; (case p1 => walk_at "up"); walk_at "u2"); intro t9 h9 tk9 F9 N9; walk_at "u3"))) | walk_at "wk"))))
      rw [slice_all (x := x) rfl rfl]
      (repeat' (first | ((fail_if_success (first | (with_reducible show wpAny _ _ (exec (Stmt.While _ _ _ _) _) _ _ _) | (with_reducible show wpAny _ _ (exec (Stmt.Raise _ _ _) _) _ _ _) | (with_reducible show WhStep _ _ _ _ _ _ _ _ _ _ _))); (first | (k_here; with_reducible refine find4 ?_) | (k_here; (with_reducible show wpAny _ _ (call (Value.ref _) _) _ _ _); (first | ((with_reducible show wpAny _ _ (call (Value.ref 106) _) _ _ _); k_dflt (refine' useS (capital _ _ _ ?p1 ?p2 ?p3) ?k1 ?k2 ?k3 ?k4 ?k5 ?kK ?kd ?ku ?_; (case p1 => walk_at "up"); (case p2 => walk_at "up"); (case p3 => walk_at "up"); walk_at "u2"); intro t9 h9 tk9 F9 N9; walk_at "u3") | ((with_reducible show wpAny _ _ (call (Value.ref 127) _) _ _ _); k_dflt (refine' useI (power_end _ _ _ _ _ ?p1 ?p2) ?k1 ?k2 ?k3 ?k4 ?k5 ?kK ?kd ?ku ?_; (case p1 => walk_at "up"); (case p2 => walk_at "up"); walk_at "u2"); intro t9 h9 tk9 F9 N9; walk_at "u3") | ((with_reducible show wpAny _ _ (call (Value.ref 113) _) _ _ _); k_dflt (refine' useI (figures_end _ _ _ _ _ ?p1) ?k1 ?k2 ?k3 ?k4 ?k5 ?kK ?kd ?ku ?_; (case p1 => walk_at "up"); walk_at "u2"); intro t9 h9 tk9 F9 N9; walk_at "u3"))) | walk_at "wk"))))
      exact Ret.made2 hret (by k_asm) (by k_asm) (by repeat' (first | exact sub_refl _ | refine sub_cons ?_)) (by k_mem) (by k_mem) (by first | assumption | exact ktn_ltOf (by assumption) | exact ktn_ltOf (And.right (by assumption)) | exact ktn_ltOf (And.right (And.right (by assumption))) | exact ktn_ltOf (And.right (And.right (And.right (by assumption)))) | exact ktn_ltOf (And.right (And.right (And.right (And.right (by assumption))))) | exact ktn_ltOf (And.right (And.right (And.right (And.right (And.right (by assumption)))))) | exact ktn_ltOf (And.right (And.right (And.right (And.right (And.right (And.right (by assumption))))))) | exact ktn_ltOf (And.right (And.right (And.right (And.right (And.right (And.right (And.right (by assumption)))))))) | exact ktn_ltOf (And.right (And.right (And.right (And.right (And.right (And.right (And.right (And.right (by assumption))))))))) | exact ktn_ltOf (And.right (And.right (And.right (And.right (And.right (And.right (And.right (And.right (And.right (by assumption)))))))))) | exact ktn_ltOf (And.right (And.right (And.right (And.right (And.right (And.right (And.right (And.right (And.right (And.right (by assumption))))))))))) | exact ktn_ltOf (And.right (And.right (And.right (And.right (And.right (And.right (And.right (And.right (And.right (And.right (And.right (by assumption))))))))))))) (by first | assumption | exact ktn_ltOf (by assumption) | exact ktn_ltOf (And.right (by assumption)) | exact ktn_ltOf (And.right (And.right (by assumption))) | exact ktn_ltOf (And.right (And.right (And.right (by assumption)))) | exact ktn_ltOf (And.right (And.right (And.right (And.right (by assumption))))) | exact ktn_ltOf (And.right (And.right (And.right (And.right (And.right (by assumption)))))) | exact ktn_ltOf (And.right (And.right (And.right (And.right (And.right (And.right (by assumption))))))) | exact ktn_ltOf (And.right (And.right (And.right (And.right (And.right (And.right (And.right (by assumption)))))))) | exact ktn_ltOf (And.right (And.right (And.right (And.right (And.right (And.right (And.right (And.right (by assumption))))))))) | exact ktn_ltOf (And.right (And.right (And.right (And.right (And.right (And.right (And.right (And.right (And.right (by assumption)))))))))) | exact ktn_ltOf (And.right (And.right (And.right (And.right (And.right (And.right (And.right (And.right (And.right (And.right (by assumption))))))))))) | exact ktn_ltOf (And.right (And.right (And.right (And.right (And.right (And.right (And.right (And.right (And.right (And.right (And.right (by assumption))))))))))))) ⟨_, _, _, _, _, _, rfl, rfl, And.left (by assumption), rfl⟩
 case hZ => delta id; exact pair_ _
section
variable {w : World} {f : Addr} {d u : Nat} {vs : List Value} {Out : Value → Led → Prop} {p : Program} {loose : List Str} {mean : ExcName → Option Value} {mg mb : Str → Option Value} {dp un : Nat} {gd : Option (List Code)} {cn : Str} {cs : Scope} {a : Addr} {ccd : Value} {cl : List (Str × Addr)} {outer : List Env} {A₀ : Around} {base h₀ : Heap} {L : Addr} {m : Str → Option Value} {news : Led} {s : Shared} {Q E : Value → Shared → Prop}
theorem useM (C : Meets w f d u vs Out) (B : Below A₀ base outer h₀) (F : Fr h₀ L s.heap m) (X : (Mine.K w.params).In h₀) (N : News h₀ L s.heap news) (T : Top p loose mean mg mb h₀) (hk : cs.kind = .function) (hd : dp + d < recursionLimit) (hu : un + u < cLine)
    (k : ∀ r tl h' tk', Fr h₀ L h' m → News h₀ L h' (tl ++ news) → (∀ q ∈ news, ∀ p ∈ tl, q.1 < p.1) → Out r tl → Q r { s with heap := h', toks := tk' }) : wpAny (model prg w) (ktrTop dp un gd cn cs L a ccd cl outer) (call (.ref f) vs) Q E s :=
  C p loose mean mg mb dp un gd cn cs a ccd cl outer A₀ base h₀ L m news s Q E rfl B F X N T hk hd hu fun r tl h' tk' F' N' l ho => k r tl h' tk' F' N' l ho
end
-- MACROS
-- END

theorem ha3 {q q' q'' : Addr × Obj} {news : Led} (h : q ∈ news) (h' : q' ∈ news) (h'' : q'' ∈ news) : ∀ p ∈ [q, q', q''], p ∈ news := fun p hp => by
  rcases List.mem_cons.mp hp with rfl | hp
  · exact h
  · exact ha2 h' h'' p hp
theorem lt_one {news : Led} {D : Addr} {o : Obj} (h : ∀ q ∈ news, q.1 < D) : ∀ q ∈ news, ∀ p ∈ [(D, o)], q.1 < p.1 := fun q hq p hp => by rw [List.mem_singleton.mp hp]; exact h q hq
theorem lt_more {news tl : Led} {D : Addr} {o : Obj} (h : ∀ q ∈ news, q.1 < D) (r : ∀ q ∈ news, ∀ p ∈ tl, q.1 < p.1) : ∀ q ∈ news, ∀ p ∈ (D, o) :: tl, q.1 < p.1 := fun q hq p hp => by
  rcases List.mem_cons.mp hp with rfl | hp
  · exact h q hq
  · exact r q hq p hp
theorem Ret.many {h₀ : Heap} {L : Addr} {m : Str → Option Value} {news : Led} {s : Shared} {Q : Value → Shared → Prop} {Out : Value → Led → Prop} {r : Value} {tl : Led} {h' : Heap} {tk' : Nat} (H : Ret h₀ L m news s Q Out) (F : Fr h₀ L h' m) {news' : Led} (N : News h₀ L h' news') (hs : ∀ q ∈ news, q ∈ news') (htl : ∀ p ∈ tl, p ∈ news') (lt : ∀ q ∈ news, ∀ p ∈ tl, q.1 < p.1) (e : Out r tl) : Q r { s with heap := h', toks := tk' } :=
  H r tl h' tk' F (fun q hq => (List.mem_append.mp hq).elim (fun z => N q (htl q z)) fun z => N q (hs q z)) lt e
set_option maxHeartbeats 4000000 in
theorem skipped_end (w : World) (x : Str) (n0 : Nat) (t u : Tok) (hx : x.length ≤ 60) (hb : x.length ≤ n0) : Meets w 120 3 24 [.str x t, .int (n0 : Int) u] (OutI (n0 : Nat)) := by
 refine (?fZ : PullF _) ?pZ ?qZ ?hZ
 case fZ => exact fun _ q _ => q
 case pZ =>
  unfold Meets
  k_fill
  intro p loose mean mg mb dp un gd cn cs a ccd cl outer A₀ base h₀ L m news s Q E hrw B F X N T hk hd hu hret
  clear hrw
  refine wpAny_call ?_
  k_dflt cell_enter
  have hx0 : x.length ≤ 1048576 := Nat.le_trans hx (by decide)
  (repeat' (first | ((fail_if_success (first | (with_reducible show wpAny _ _ (exec (Stmt.While _ _ _ _) _) _ _ _) | (with_reducible show wpAny _ _ (exec (Stmt.Raise _ _ _) _) _ _ _) | (with_reducible show WhStep _ _ _ _ _ _ _ _ _ _ _))); (first | (first | (refine WhlIf.yes (decide_eq_true ?hw) ?_; (case hw => first | assumption | omega)) | (refine WhlIf.no (decide_eq_false ?hw) ?_; (case hw => first | assumption | omega))) | (k_here; (with_reducible show wpAny _ _ (call (Value.ref _) _) _ _ _); (first | ((with_reducible show wpAny _ _ (call (Value.ref 134) _) _ _ _); k_dflt (refine' useM (number_at _ _ _ _ ?p1) ?k1 ?k2 ?k3 ?k4 ?k5 ?kK ?kd ?ku ?_; (case p1 => walk_at "up"); walk_at "u2"); (intro r9 tl9 h9 tk9 F9 N9 l9 o9; obtain ⟨D9, D8, a9, b9, c9, z9, e9, e8, lt9, hz9⟩ := o9; subst e9; subst e8; dsimp only [List.cons_append, List.nil_append] at N9; (have l9' := fun q hq => l9 q hq (D8, _) (.tail _ (.head _))); (try k_lt l9'); walk_at "u3")) | ((with_reducible show wpAny _ _ (call (Value.ref 106) _) _ _ _); k_dflt (refine' useS (capital _ _ _ ?p1 ?p2 ?p3) ?k1 ?k2 ?k3 ?k4 ?k5 ?kK ?kd ?ku ?_; (case p1 => walk_at "up"); (case p2 => walk_at "up"); (case p3 => walk_at "up"); walk_at "u2"); intro t9 h9 tk9 F9 N9; walk_at "u3") | ((with_reducible show wpAny _ _ (call (Value.ref 120) _) _ _ _); k_dflt (refine' useI (skipped_none _ _ _ _ _ ?p1 ?p2) ?k1 ?k2 ?k3 ?k4 ?k5 ?kK ?kd ?ku ?_; (case p1 => walk_at "up"); (case p2 => walk_at "up"); walk_at "u2"); intro t9 h9 tk9 F9 N9; walk_at "u3") | ((with_reducible show wpAny _ _ (call (Value.ref 101) _) _ _ _); k_dflt (refine' useB (is_figure _ _ _) ?k1 ?k2 ?k3 ?k4 ?k5 ?kK ?kd ?ku ?_; walk_at "u2"); intro h9 tk9 F9 N9; walk_at "u3"))) | walk_at "wk"))))
  k_dflt (refine' while_st (fun m (_ : Unit) => m) (fun _ => True) (fun _ => 0) () ?w1 ?w2 ?w3 ?w4 ?w5 ?w6)
  (case w1 => k_asm)
  (case w2 => k_asm)
  (case w3 => rfl)
  (case w4 => trivial)
  (case w6 => with_unfolding_all passes_own)
  (case' w5 => (intro c h₁ tk₁ hI F₁ N₁; (try k_sweep); (try dsimp only); (try k_fold)))
  (repeat' (first | ((fail_if_success (first | (with_reducible show wpAny _ _ (exec (Stmt.While _ _ _ _) _) _ _ _) | (with_reducible show wpAny _ _ (exec (Stmt.Raise _ _ _) _) _ _ _) | (with_reducible show WhStep _ _ _ _ _ _ _ _ _ _ _))); (first | (first | (refine WhlIf.yes (decide_eq_true ?hw) ?_; (case hw => first | assumption | omega)) | (refine WhlIf.no (decide_eq_false ?hw) ?_; (case hw => first | assumption | omega))) | (k_here; (with_reducible show wpAny _ _ (call (Value.ref _) _) _ _ _); (first | ((with_reducible show wpAny _ _ (call (Value.ref 134) _) _ _ _); k_dflt (refine' useM (number_at _ _ _ _ ?p1) ?k1 ?k2 ?k3 ?k4 ?k5 ?kK ?kd ?ku ?_; (case p1 => walk_at "up"); walk_at "u2"); (intro r9 tl9 h9 tk9 F9 N9 l9 o9; obtain ⟨D9, D8, a9, b9, c9, z9, e9, e8, lt9, hz9⟩ := o9; subst e9; subst e8; dsimp only [List.cons_append, List.nil_append] at N9; (have l9' := fun q hq => l9 q hq (D8, _) (.tail _ (.head _))); (try k_lt l9'); walk_at "u3")) | ((with_reducible show wpAny _ _ (call (Value.ref 106) _) _ _ _); k_dflt (refine' useS (capital _ _ _ ?p1 ?p2 ?p3) ?k1 ?k2 ?k3 ?k4 ?k5 ?kK ?kd ?ku ?_; (case p1 => walk_at "up"); (case p2 => walk_at "up"); (case p3 => walk_at "up"); walk_at "u2"); intro t9 h9 tk9 F9 N9; walk_at "u3") | ((with_reducible show wpAny _ _ (call (Value.ref 120) _) _ _ _); k_dflt (refine' useI (skipped_none _ _ _ _ _ ?p1 ?p2) ?k1 ?k2 ?k3 ?k4 ?k5 ?kK ?kd ?ku ?_; (case p1 => walk_at "up"); (case p2 => walk_at "up"); walk_at "u2"); intro t9 h9 tk9 F9 N9; walk_at "u3") | ((with_reducible show wpAny _ _ (call (Value.ref 101) _) _ _ _); k_dflt (refine' useB (is_figure _ _ _) ?k1 ?k2 ?k3 ?k4 ?k5 ?kK ?kd ?ku ?_; walk_at "u2"); intro h9 tk9 F9 N9; walk_at "u3"))) | walk_at "wk"))))
  all_goals exact Ret.int hret (by k_asm) (by k_asm) (by repeat' (first | exact sub_refl _ | refine sub_cons ?_)) rfl
 case hZ => delta id; exact pair_ _
-- MACROS
-- END
noncomputable def OutTA (x : Str) (r : Value) (tl : Led) : Prop := ∃ (D l D8 : Addr) (a b c : Tok) (z : Int), tl = [(D, tup [.ref l, .int z a]), (l, W.listOf #[.ref D8] 0), (D8, tup [.str (Str.ofString "number") b, .str x c])] ∧ r = .ref D ∧ D8 < l ∧ l < D ∧ z = (x.length : Nat)
set_option maxHeartbeats 4000000 in
theorem tokens_at (w : World) (x : Str) (t u : Tok) (hnt : NumText (sgs x)) : Meets w 183 12 120 [.str x t, .int 0 u] (OutTA x) := by
 refine (?fZ : PullF _) ?pZ ?qZ ?hZ
 case fZ => exact fun _ q _ => q
 case pZ =>
  unfold Meets
  k_fill
  intro p loose mean mg mb dp un gd cn cs a ccd cl outer A₀ base h₀ L m news s Q E hrw B F X N T hk hd hu hret
  clear hrw
  refine wpAny_call ?_
  k_dflt cell_enter
  have hln := sgs_len x
  have hx : x.length ≤ 60 := by rw [← hln]; exact hnt.len
  have hx0 : x.length ≤ 1048576 := Nat.le_trans hx (by decide)
  obtain ⟨hl0, hd0⟩ := run0_isD hnt.front
  have hf : isF (Txt.item x 0) = true := by rw [isF_item (by omega) (by omega)]; exact hd0
  (repeat' (first | ((fail_if_success (first | (with_reducible show wpAny _ _ (exec (Stmt.While _ _ _ _) _) _ _ _) | (with_reducible show wpAny _ _ (exec (Stmt.Raise _ _ _) _) _ _ _) | (with_reducible show WhStep _ _ _ _ _ _ _ _ _ _ _))); (first | (first | (refine WhlIf.yes (decide_eq_true ?hw) ?_; (case hw => first | assumption | omega)) | (refine WhlIf.no (decide_eq_false ?hw) ?_; (case hw => first | assumption | omega))) | (k_here; (with_reducible show wpAny _ _ (call (Value.ref _) _) _ _ _); (first | ((with_reducible show wpAny _ _ (call (Value.ref 120) _) _ _ _); k_dflt (refine' useI (skipped_end _ _ _ _ _ ?p1 ?p2) ?k1 ?k2 ?k3 ?k4 ?k5 ?kK ?kd ?ku ?_; (case p1 => walk_at "up"); (case p2 => walk_at "up"); walk_at "u2"); intro t9 h9 tk9 F9 N9; walk_at "u3") | ((with_reducible show wpAny _ _ (call (Value.ref 134) _) _ _ _); k_dflt (refine' useM (number_at _ _ _ _ ?p1) ?k1 ?k2 ?k3 ?k4 ?k5 ?kK ?kd ?ku ?_; (case p1 => walk_at "up"); walk_at "u2"); (intro r9 tl9 h9 tk9 F9 N9 l9 o9; obtain ⟨D9, D8, a9, b9, c9, z9, e9, e8, lt9, hz9⟩ := o9; subst e9; subst e8; dsimp only [List.cons_append, List.nil_append] at N9; (have l9' := fun q hq => l9 q hq (D8, _) (.tail _ (.head _))); (try k_lt l9'); walk_at "u3")) | ((with_reducible show wpAny _ _ (call (Value.ref 106) _) _ _ _); k_dflt (refine' useS (capital _ _ _ ?p1 ?p2 ?p3) ?k1 ?k2 ?k3 ?k4 ?k5 ?kK ?kd ?ku ?_; (case p1 => walk_at "up"); (case p2 => walk_at "up"); (case p3 => walk_at "up"); walk_at "u2"); intro t9 h9 tk9 F9 N9; walk_at "u3") | ((with_reducible show wpAny _ _ (call (Value.ref 120) _) _ _ _); k_dflt (refine' useI (skipped_none _ _ _ _ _ ?p1 ?p2) ?k1 ?k2 ?k3 ?k4 ?k5 ?kK ?kd ?ku ?_; (case p1 => walk_at "up"); (case p2 => walk_at "up"); walk_at "u2"); intro t9 h9 tk9 F9 N9; walk_at "u3") | ((with_reducible show wpAny _ _ (call (Value.ref 101) _) _ _ _); k_dflt (refine' useB (is_figure _ _ _) ?k1 ?k2 ?k3 ?k4 ?k5 ?kK ?kd ?ku ?_; walk_at "u2"); intro h9 tk9 F9 N9; walk_at "u3"))) | walk_at "wk"))))
  rename (_ : Addr) < _ ∧ _ < _ ∧ AllLt _ news => hl
  exact Ret.many hret (by k_asm) (by k_asm) (by repeat' (first | exact sub_refl _ | refine sub_cons ?_)) (ha3 (by k_mem) (by k_mem) (by k_mem)) (lt_more (by first | assumption | exact ktn_ltOf (by assumption) | exact ktn_ltOf (And.right (by assumption)) | exact ktn_ltOf (And.right (And.right (by assumption))) | exact ktn_ltOf (And.right (And.right (And.right (by assumption)))) | exact ktn_ltOf (And.right (And.right (And.right (And.right (by assumption))))) | exact ktn_ltOf (And.right (And.right (And.right (And.right (And.right (by assumption)))))) | exact ktn_ltOf (And.right (And.right (And.right (And.right (And.right (And.right (by assumption))))))) | exact ktn_ltOf (And.right (And.right (And.right (And.right (And.right (And.right (And.right (by assumption)))))))) | exact ktn_ltOf (And.right (And.right (And.right (And.right (And.right (And.right (And.right (And.right (by assumption))))))))) | exact ktn_ltOf (And.right (And.right (And.right (And.right (And.right (And.right (And.right (And.right (And.right (by assumption)))))))))) | exact ktn_ltOf (And.right (And.right (And.right (And.right (And.right (And.right (And.right (And.right (And.right (And.right (by assumption))))))))))) | exact ktn_ltOf (And.right (And.right (And.right (And.right (And.right (And.right (And.right (And.right (And.right (And.right (And.right (by assumption))))))))))))) (lt_more (by first | assumption | exact ktn_ltOf (by assumption) | exact ktn_ltOf (And.right (by assumption)) | exact ktn_ltOf (And.right (And.right (by assumption))) | exact ktn_ltOf (And.right (And.right (And.right (by assumption)))) | exact ktn_ltOf (And.right (And.right (And.right (And.right (by assumption))))) | exact ktn_ltOf (And.right (And.right (And.right (And.right (And.right (by assumption)))))) | exact ktn_ltOf (And.right (And.right (And.right (And.right (And.right (And.right (by assumption))))))) | exact ktn_ltOf (And.right (And.right (And.right (And.right (And.right (And.right (And.right (by assumption)))))))) | exact ktn_ltOf (And.right (And.right (And.right (And.right (And.right (And.right (And.right (And.right (by assumption))))))))) | exact ktn_ltOf (And.right (And.right (And.right (And.right (And.right (And.right (And.right (And.right (And.right (by assumption)))))))))) | exact ktn_ltOf (And.right (And.right (And.right (And.right (And.right (And.right (And.right (And.right (And.right (And.right (by assumption))))))))))) | exact ktn_ltOf (And.right (And.right (And.right (And.right (And.right (And.right (And.right (And.right (And.right (And.right (And.right (by assumption))))))))))))) (lt_one (by first | assumption | exact ktn_ltOf (by assumption) | exact ktn_ltOf (And.right (by assumption)) | exact ktn_ltOf (And.right (And.right (by assumption))) | exact ktn_ltOf (And.right (And.right (And.right (by assumption)))) | exact ktn_ltOf (And.right (And.right (And.right (And.right (by assumption))))) | exact ktn_ltOf (And.right (And.right (And.right (And.right (And.right (by assumption)))))) | exact ktn_ltOf (And.right (And.right (And.right (And.right (And.right (And.right (by assumption))))))) | exact ktn_ltOf (And.right (And.right (And.right (And.right (And.right (And.right (And.right (by assumption)))))))) | exact ktn_ltOf (And.right (And.right (And.right (And.right (And.right (And.right (And.right (And.right (by assumption))))))))) | exact ktn_ltOf (And.right (And.right (And.right (And.right (And.right (And.right (And.right (And.right (And.right (by assumption)))))))))) | exact ktn_ltOf (And.right (And.right (And.right (And.right (And.right (And.right (And.right (And.right (And.right (And.right (by assumption))))))))))) | exact ktn_ltOf (And.right (And.right (And.right (And.right (And.right (And.right (And.right (And.right (And.right (And.right (And.right (by assumption)))))))))))))))) ⟨_, _, _, _, _, _, _, rfl, rfl, hl.2.1, And.left (by assumption), by assumption⟩
 case hZ => delta id; exact pair_ _
-- MACROS
-- END
noncomputable def OutTO (x : Str) (r : Value) (tl : Led) : Prop := ∃ (l D8 : Addr) (b c : Tok) (n : Nat), tl = [(l, W.listOf #[.ref D8] n), (D8, tup [.str (Str.ofString "number") b, .str x c])] ∧ r = .ref l ∧ l < D8
-- MACROS
-- END
set_option maxHeartbeats 4000000 in
theorem tokens_of (w : World) (x : Str) (t : Tok) (hnt : NumText (sgs x)) : Meets w 190 16 160 [.str x t] (OutTO x) := by
 refine (?fZ : PullF _) ?pZ ?qZ ?hZ
 case fZ => exact fun _ q _ => q
 case pZ =>
  unfold Meets
  k_fill
  intro p loose mean mg mb dp un gd cn cs a ccd cl outer A₀ base h₀ L m news s Q E hrw B F X N T hk hd hu hret
  clear hrw
  refine wpAny_call ?_
  k_dflt cell_enter
  have hln := sgs_len x
  have hx : x.length ≤ 60 := by rw [← hln]; exact hnt.len
  have hx0 : x.length ≤ 1048576 := Nat.le_trans hx (by decide)
  obtain ⟨hl0, hd0⟩ := run0_isD hnt.front
  have hb0 := item_blank (x := x) (by omega) hd0
  (repeat' (first | ((fail_if_success (first | (with_reducible show wpAny _ _ (exec (Stmt.While _ _ _ _) _) _ _ _) | (with_reducible show wpAny _ _ (exec (Stmt.Raise _ _ _) _) _ _ _) | (with_reducible show WhStep _ _ _ _ _ _ _ _ _ _ _))); (first | (first | (refine WhlIf.yes (decide_eq_true ?hw) ?_; (case hw => first | assumption | omega)) | (refine WhlIf.no (decide_eq_false ?hw) ?_; (case hw => first | assumption | omega))) | (k_here; (with_reducible show wpAny _ _ (call (Value.ref _) _) _ _ _); (first | ((with_reducible show wpAny _ _ (call (Value.ref 183) _) _ _ _); k_dflt (refine' useM (tokens_at _ _ _ _ ?p1) ?k1 ?k2 ?k3 ?k4 ?k5 ?kK ?kd ?ku ?_; (case p1 => walk_at "up"); walk_at "u2"); (intro r9 tl9 h9 tk9 F9 N9 l9 o9; obtain ⟨D9, m9, D8, a9, b9, c9, z9, e9, e8, lt9, lt8, hz9⟩ := o9; subst e9; subst e8; subst hz9; dsimp only [List.cons_append, List.nil_append] at N9; (have l9' := fun q hq => l9 q hq (D8, _) (.tail _ (.tail _ (.head _)))); (have l9a := fun q hq => l9 q hq (D9, _) (.head _)); (have l9b := fun q hq => l9 q hq (m9, _) (.tail _ (.head _))); clear l9; (try k_lt l9'); (try k_lt l9a); (try k_lt l9b); walk_at "u3")) | ((with_reducible show wpAny _ _ (call (Value.ref 120) _) _ _ _); k_dflt (refine' useI (skipped_end _ _ _ _ _ ?p1 ?p2) ?k1 ?k2 ?k3 ?k4 ?k5 ?kK ?kd ?ku ?_; (case p1 => walk_at "up"); (case p2 => walk_at "up"); walk_at "u2"); intro t9 h9 tk9 F9 N9; walk_at "u3") | ((with_reducible show wpAny _ _ (call (Value.ref 134) _) _ _ _); k_dflt (refine' useM (number_at _ _ _ _ ?p1) ?k1 ?k2 ?k3 ?k4 ?k5 ?kK ?kd ?ku ?_; (case p1 => walk_at "up"); walk_at "u2"); (intro r9 tl9 h9 tk9 F9 N9 l9 o9; obtain ⟨D9, D8, a9, b9, c9, z9, e9, e8, lt9, hz9⟩ := o9; subst e9; subst e8; dsimp only [List.cons_append, List.nil_append] at N9; (have l9' := fun q hq => l9 q hq (D8, _) (.tail _ (.head _))); (try k_lt l9'); walk_at "u3")) | ((with_reducible show wpAny _ _ (call (Value.ref 106) _) _ _ _); k_dflt (refine' useS (capital _ _ _ ?p1 ?p2 ?p3) ?k1 ?k2 ?k3 ?k4 ?k5 ?kK ?kd ?ku ?_; (case p1 => walk_at "up"); (case p2 => walk_at "up"); (case p3 => walk_at "up"); walk_at "u2"); intro t9 h9 tk9 F9 N9; walk_at "u3") | ((with_reducible show wpAny _ _ (call (Value.ref 120) _) _ _ _); k_dflt (refine' useI (skipped_none _ _ _ _ _ ?p1 ?p2) ?k1 ?k2 ?k3 ?k4 ?k5 ?kK ?kd ?ku ?_; (case p1 => walk_at "up"); (case p2 => walk_at "up"); walk_at "u2"); intro t9 h9 tk9 F9 N9; walk_at "u3") | ((with_reducible show wpAny _ _ (call (Value.ref 101) _) _ _ _); k_dflt (refine' useB (is_figure _ _ _) ?k1 ?k2 ?k3 ?k4 ?k5 ?kK ?kd ?ku ?_; walk_at "u2"); intro h9 tk9 F9 N9; walk_at "u3"))) | walk_at "wk"))))
  k_dflt (refine whl_start 3 ?_)
  (repeat' (first | ((fail_if_success (first | (with_reducible show wpAny _ _ (exec (Stmt.While _ _ _ _) _) _ _ _) | (with_reducible show wpAny _ _ (exec (Stmt.Raise _ _ _) _) _ _ _) | (with_reducible show WhStep _ _ _ _ _ _ _ _ _ _ _))); (first | (first | (refine WhlIf.yes (decide_eq_true ?hw) ?_; (case hw => first | assumption | omega)) | (refine WhlIf.no (decide_eq_false ?hw) ?_; (case hw => first | assumption | omega))) | (k_here; (with_reducible show wpAny _ _ (call (Value.ref _) _) _ _ _); (first | ((with_reducible show wpAny _ _ (call (Value.ref 183) _) _ _ _); k_dflt (refine' useM (tokens_at _ _ _ _ ?p1) ?k1 ?k2 ?k3 ?k4 ?k5 ?kK ?kd ?ku ?_; (case p1 => walk_at "up"); walk_at "u2"); (intro r9 tl9 h9 tk9 F9 N9 l9 o9; obtain ⟨D9, m9, D8, a9, b9, c9, z9, e9, e8, lt9, lt8, hz9⟩ := o9; subst e9; subst e8; subst hz9; dsimp only [List.cons_append, List.nil_append] at N9; (have l9' := fun q hq => l9 q hq (D8, _) (.tail _ (.tail _ (.head _)))); (have l9a := fun q hq => l9 q hq (D9, _) (.head _)); (have l9b := fun q hq => l9 q hq (m9, _) (.tail _ (.head _))); clear l9; (try k_lt l9'); (try k_lt l9a); (try k_lt l9b); walk_at "u3")) | ((with_reducible show wpAny _ _ (call (Value.ref 120) _) _ _ _); k_dflt (refine' useI (skipped_end _ _ _ _ _ ?p1 ?p2) ?k1 ?k2 ?k3 ?k4 ?k5 ?kK ?kd ?ku ?_; (case p1 => walk_at "up"); (case p2 => walk_at "up"); walk_at "u2"); intro t9 h9 tk9 F9 N9; walk_at "u3") | ((with_reducible show wpAny _ _ (call (Value.ref 134) _) _ _ _); k_dflt (refine' useM (number_at _ _ _ _ ?p1) ?k1 ?k2 ?k3 ?k4 ?k5 ?kK ?kd ?ku ?_; (case p1 => walk_at "up"); walk_at "u2"); (intro r9 tl9 h9 tk9 F9 N9 l9 o9; obtain ⟨D9, D8, a9, b9, c9, z9, e9, e8, lt9, hz9⟩ := o9; subst e9; subst e8; dsimp only [List.cons_append, List.nil_append] at N9; (have l9' := fun q hq => l9 q hq (D8, _) (.tail _ (.head _))); (try k_lt l9'); walk_at "u3")) | ((with_reducible show wpAny _ _ (call (Value.ref 106) _) _ _ _); k_dflt (refine' useS (capital _ _ _ ?p1 ?p2 ?p3) ?k1 ?k2 ?k3 ?k4 ?k5 ?kK ?kd ?ku ?_; (case p1 => walk_at "up"); (case p2 => walk_at "up"); (case p3 => walk_at "up"); walk_at "u2"); intro t9 h9 tk9 F9 N9; walk_at "u3") | ((with_reducible show wpAny _ _ (call (Value.ref 120) _) _ _ _); k_dflt (refine' useI (skipped_none _ _ _ _ _ ?p1 ?p2) ?k1 ?k2 ?k3 ?k4 ?k5 ?kK ?kd ?ku ?_; (case p1 => walk_at "up"); (case p2 => walk_at "up"); walk_at "u2"); intro t9 h9 tk9 F9 N9; walk_at "u3") | ((with_reducible show wpAny _ _ (call (Value.ref 101) _) _ _ _); k_dflt (refine' useB (is_figure _ _ _) ?k1 ?k2 ?k3 ?k4 ?k5 ?kK ?kd ?ku ?_; walk_at "u2"); intro h9 tk9 F9 N9; walk_at "u3"))) | walk_at "wk"))))
  exact Ret.many hret (by k_asm) (by k_asm) (by repeat' (first | exact sub_refl _ | refine sub_cons ?_)) (ha2 (by k_mem) (by k_mem)) (lt_more (by first | assumption | exact ktn_ltOf (by assumption) | exact ktn_ltOf (And.right (by assumption)) | exact ktn_ltOf (And.right (And.right (by assumption))) | exact ktn_ltOf (And.right (And.right (And.right (by assumption)))) | exact ktn_ltOf (And.right (And.right (And.right (And.right (by assumption))))) | exact ktn_ltOf (And.right (And.right (And.right (And.right (And.right (by assumption)))))) | exact ktn_ltOf (And.right (And.right (And.right (And.right (And.right (And.right (by assumption))))))) | exact ktn_ltOf (And.right (And.right (And.right (And.right (And.right (And.right (And.right (by assumption)))))))) | exact ktn_ltOf (And.right (And.right (And.right (And.right (And.right (And.right (And.right (And.right (by assumption))))))))) | exact ktn_ltOf (And.right (And.right (And.right (And.right (And.right (And.right (And.right (And.right (And.right (by assumption)))))))))) | exact ktn_ltOf (And.right (And.right (And.right (And.right (And.right (And.right (And.right (And.right (And.right (And.right (by assumption))))))))))) | exact ktn_ltOf (And.right (And.right (And.right (And.right (And.right (And.right (And.right (And.right (And.right (And.right (And.right (by assumption))))))))))))) (lt_one (by first | assumption | exact ktn_ltOf (by assumption) | exact ktn_ltOf (And.right (by assumption)) | exact ktn_ltOf (And.right (And.right (by assumption))) | exact ktn_ltOf (And.right (And.right (And.right (by assumption)))) | exact ktn_ltOf (And.right (And.right (And.right (And.right (by assumption))))) | exact ktn_ltOf (And.right (And.right (And.right (And.right (And.right (by assumption)))))) | exact ktn_ltOf (And.right (And.right (And.right (And.right (And.right (And.right (by assumption))))))) | exact ktn_ltOf (And.right (And.right (And.right (And.right (And.right (And.right (And.right (by assumption)))))))) | exact ktn_ltOf (And.right (And.right (And.right (And.right (And.right (And.right (And.right (And.right (by assumption))))))))) | exact ktn_ltOf (And.right (And.right (And.right (And.right (And.right (And.right (And.right (And.right (And.right (by assumption)))))))))) | exact ktn_ltOf (And.right (And.right (And.right (And.right (And.right (And.right (And.right (And.right (And.right (And.right (by assumption))))))))))) | exact ktn_ltOf (And.right (And.right (And.right (And.right (And.right (And.right (And.right (And.right (And.right (And.right (And.right (by assumption))))))))))))))) ⟨_, _, _, _, _, rfl, rfl, And.left (And.right (by assumption))⟩
 case hZ => delta id; exact pair_ _
-- MACROS
-- END

noncomputable def OutAt (a : Addr) (r : Value) (tl : Led) : Prop := tl = [] ∧ r = .ref a
theorem Ret.at {h₀ : Heap} {L : Addr} {m : Str → Option Value} {news : Led} {s : Shared} {Q : Value → Shared → Prop} {a : Addr} {h' : Heap} {tk' : Nat} (H : Ret h₀ L m news s Q (OutAt a)) (F : Fr h₀ L h' m) {news' : Led} (N : News h₀ L h' news') (hs : ∀ q ∈ news, q ∈ news') : Q (.ref a) { s with heap := h', toks := tk' } :=
  H _ [] h' tk' F (fun q hq => N q (hs q hq)) (fun _ _ _ h => nomatch h) ⟨rfl, rfl⟩
set_option maxHeartbeats 4000000 in
theorem token_at0 (w : World) (l D8 : Addr) (z : Int) (t : Tok) (n : Nat) (hz : z = 0) : MeetsA (γ := Unit) w 201 2 12 [.ref l, .int z t] [(l, W.listOf #[.ref D8] n)] (some ()) (fun _ => OutAt D8) (Str.ofString "OV") := by
 refine (?fZ : PullF _) ?pZ ?qZ ?hZ
 case fZ => exact fun _ q _ => q
 case pZ =>
  subst hz
  unfold MeetsA
  k_fill
  intro p loose mean mg mb dp un gd cn cs a ccd cl outer A₀ base h₀ L m news s Q E hrw B F X N T hk hd hu hret hexc
  clear hrw
  dsimp only [List.cons_append, List.nil_append] at N hret hexc
  refine wpAny_call ?_
  k_dflt cell_enter
  (repeat' (first | ((fail_if_success (first | (with_reducible show wpAny _ _ (exec (Stmt.While _ _ _ _) _) _ _ _) | (with_reducible show wpAny _ _ (exec (Stmt.Raise _ _ _) _) _ _ _) | (with_reducible show WhStep _ _ _ _ _ _ _ _ _ _ _))); (first | walk_at "wk"))))
  exact Ret.at (hret _ rfl) (by k_asm) (by k_asm) (by repeat' (first | exact sub_refl _ | refine sub_cons ?_))
 case hZ => delta id; exact pair_ _
set_option maxHeartbeats 4000000 in
theorem token_at1 (w : World) (l D8 : Addr) (z : Int) (t : Tok) (n : Nat) (hz : z = 1) : MeetsA (γ := Unit) w 201 2 12 [.ref l, .int z t] [(l, W.listOf #[.ref D8] n)] (some ()) (fun _ => OutAt 194) (Str.ofString "OV") := by
 refine (?fZ : PullF _) ?pZ ?qZ ?hZ
 case fZ => exact fun _ q _ => q
 case pZ =>
  subst hz
  unfold MeetsA
  k_fill
  intro p loose mean mg mb dp un gd cn cs a ccd cl outer A₀ base h₀ L m news s Q E hrw B F X N T hk hd hu hret hexc
  clear hrw
  dsimp only [List.cons_append, List.nil_append] at N hret hexc
  refine wpAny_call ?_
  k_dflt cell_enter
  (repeat' (first | ((fail_if_success (first | (with_reducible show wpAny _ _ (exec (Stmt.While _ _ _ _) _) _ _ _) | (with_reducible show wpAny _ _ (exec (Stmt.Raise _ _ _) _) _ _ _) | (with_reducible show WhStep _ _ _ _ _ _ _ _ _ _ _))); (first | walk_at "wk"))))
  exact Ret.at (hret _ rfl) (by k_asm) (by k_asm) (by repeat' (first | exact sub_refl _ | refine sub_cons ?_))
 case hZ => delta id; exact pair_ _
section
variable {w : World} {f : Addr} {d u : Nat} {vs : List Value} {args : Led} {aa : Addr} {x : Str} {p : Program} {loose : List Str} {mean : ExcName → Option Value} {mg mb : Str → Option Value} {dp un : Nat} {gd : Option (List Code)} {cn : Str} {cs : Scope} {a : Addr} {ccd : Value} {cl : List (Str × Addr)} {outer : List Env} {A₀ : Around} {base h₀ : Heap} {L : Addr} {m : Str → Option Value} {news : Led} {s : Shared} {Q E : Value → Shared → Prop}
theorem useAt (C : MeetsA (γ := Unit) w f d u vs args (some ()) (fun _ => OutAt aa) x) (B : Below A₀ base outer h₀) (F : Fr h₀ L s.heap m) (X : (Mine.K w.params).In h₀) (N : News h₀ L s.heap news) (T : Top p loose mean mg mb h₀) (hk : cs.kind = .function) (hd : dp + d < recursionLimit) (hu : un + u < cLine) (ha : ∀ q ∈ args, q ∈ news)
    (k : ∀ h' tk', Fr h₀ L h' m → News h₀ L h' news → Q (.ref aa) { s with heap := h', toks := tk' }) : wpAny (model prg w) (ktrTop dp un gd cn cs L a ccd cl outer) (call (.ref f) vs) Q E s :=
  useA C B F X N T hk hd hu ha (fun h => nomatch h) fun g v tl h' tk' hr F' N' l ho => by
    obtain ⟨rfl, rfl⟩ := ho
    exact k h' tk' F' N'
theorem useAm {γ : Type} {g : γ} {Out : γ → Value → Led → Prop} (C : MeetsA w f d u vs args (some g) Out x) (B : Below A₀ base outer h₀) (F : Fr h₀ L s.heap m) (X : (Mine.K w.params).In h₀) (N : News h₀ L s.heap news) (T : Top p loose mean mg mb h₀) (hk : cs.kind = .function) (hd : dp + d < recursionLimit) (hu : un + u < cLine) (ha : ∀ q ∈ args, q ∈ news)
    (k : ∀ v tl h' tk', Fr h₀ L h' m → News h₀ L h' (tl ++ news) → (∀ q ∈ news, ∀ p ∈ tl, q.1 < p.1) → Out g v tl → Q v { s with heap := h', toks := tk' }) : wpAny (model prg w) (ktrTop dp un gd cn cs L a ccd cl outer) (call (.ref f) vs) Q E s :=
  useA C B F X N T hk hd hu ha (fun h => nomatch h) fun g' v tl h' tk' hr F' N' l ho => by
    cases hr
    exact k v tl h' tk' F' N' l ho
end
-- MACROS
-- END

noncomputable abbrev lvD (w : World) (u1 u2 u3 u4 u5 t b : Tok) (La Lo Lp : Addr) : Obj :=
  dictOf [{ hash := PyData.keyHash w.params (Str.ofString "kind"), key := .str (Str.ofString "kind") u1, val := .str (Str.ofString "top") t },
    { hash := PyData.keyHash w.params (Str.ofString "word"), key := .str (Str.ofString "word") u2, val := .str (Str.ofString "") b },
    { hash := PyData.keyHash w.params (Str.ofString "args"), key := .str (Str.ofString "args") u3, val := .ref La },
    { hash := PyData.keyHash w.params (Str.ofString "operands"), key := .str (Str.ofString "operands") u4, val := .ref Lo },
    { hash := PyData.keyHash w.params (Str.ofString "operators"), key := .str (Str.ofString "operators") u5, val := .ref Lp }] 5
noncomputable def OutLv (w : World) (r : Value) (tl : Led) : Prop := ∃ (I d La Lo Lp : Addr) (u1 u2 u3 u4 u5 t b : Tok), tl = [(Lp, W.listOf #[] 0), (Lo, W.listOf #[] 0), (La, W.listOf #[] 0), (I, instObj 260 d), (d, lvD w u1 u2 u3 u4 u5 t b La Lo Lp)] ∧ r = .ref I ∧ d < I ∧ I < La ∧ La < Lo ∧ Lo < Lp
-- MACROS
-- END
set_option maxHeartbeats 8000000 in
theorem level_new (w : World) (t b : Tok) : Meets w 260 4 40 [.str (Str.ofString "top") t, .str (Str.ofString "") b] (OutLv w) := by
 refine (?fZ : PullF _) ?pZ ?qZ ?hZ
 case fZ => exact fun _ q _ => q
 case pZ =>
  unfold Meets
  k_fill
  intro p loose mean mg mb dp un gd cn cs a ccd cl outer A₀ base h₀ L m news s Q E hrw B F X N T hk hd hu hret
  clear hrw
  (repeat' (first | ((fail_if_success (first | (with_reducible show wpAny _ _ (exec (Stmt.While _ _ _ _) _) _ _ _) | (with_reducible show wpAny _ _ (exec (Stmt.Raise _ _ _) _) _ _ _) | (with_reducible show WhStep _ _ _ _ _ _ _ _ _ _ _))); (first | (k_here; (with_reducible show wpAny _ _ (call (Value.ref _) _) _ _ _); (first | ((with_reducible show wpAny _ _ (call (Value.ref 260) _) _ _ _); k_dflt (refine' call_cls ?k1 ?k2 ?k3 ?k4 ?k5 ?k6 ?_; (case k1 => k_asm); (case k2 => k_asm); (case k3 => k_asm); (case k4 => k_is); (case k5 => k_is); (case k6 => k_is); k_whole; intro x' d' h' F' N' l1 l2; (try k_lt l1); (try k_lt2 l2); (try k_sweep)); (refine' code_def ?k1 ?k2 ?k3 ?k4 ?k5 ?kA ?kF ?kK ?k6 ?k7 ?k8 ?k9 ?kB ?_ ?c2 ?c3 ?c4 ?c5; (case kA => exact rfl); (case kF => exact rfl); (case kK => first | exact rfl | assumption); (case k1 => k_asm); (case k2 => k_asm); (case k3 => k_asm); (case k4 => k_asm); (case k5 => k_asm); (case k6 => k_is); (case k7 => k_is); (case k8 => ktr_room); (case k9 => exact BindsTo.of_eq rfl); (case c5 => decide); (case kB => exact locs rfl); (case c2 => exact rfl); (case c3 => exact rfl); (case c4 => exact rfl); k_whole; intro g' L' h' FG' F' N' B' X' T'; (try dsimp only); (try k_lift B'); (try k_fold))))) | walk_at "wk"))))
  rename ∀ p : Addr × Obj, p ∈ news → p.1 < _ => la
  rename (_ : Addr) < _ => lb
  have la' := fun q hq => Nat.lt_trans (la q hq) lb
  rename (_ : Addr) < _ ∧ _ < _ ∧ _ < _ ∧ _ < _ ∧ AllLt _ news => ld
  rename (_ : Addr) < _ ∧ _ < _ ∧ _ < _ ∧ AllLt _ news => lc
  rename (_ : Addr) < _ ∧ _ < _ ∧ AllLt _ news => le
  exact Ret.many hret (by k_asm) (by k_asm) (by repeat' (first | exact sub_refl _ | refine sub_cons ?_)) (by repeat' (first | exact List.forall_mem_nil _ | refine List.forall_mem_cons.mpr ⟨by k_mem, ?_⟩)) (lt_more (by first | assumption | exact ktn_ltOf (by assumption) | exact ktn_ltOf (And.right (by assumption)) | exact ktn_ltOf (And.right (And.right (by assumption))) | exact ktn_ltOf (And.right (And.right (And.right (by assumption)))) | exact ktn_ltOf (And.right (And.right (And.right (And.right (by assumption))))) | exact ktn_ltOf (And.right (And.right (And.right (And.right (And.right (by assumption)))))) | exact ktn_ltOf (And.right (And.right (And.right (And.right (And.right (And.right (by assumption))))))) | exact ktn_ltOf (And.right (And.right (And.right (And.right (And.right (And.right (And.right (by assumption)))))))) | exact ktn_ltOf (And.right (And.right (And.right (And.right (And.right (And.right (And.right (And.right (by assumption))))))))) | exact ktn_ltOf (And.right (And.right (And.right (And.right (And.right (And.right (And.right (And.right (And.right (by assumption)))))))))) | exact ktn_ltOf (And.right (And.right (And.right (And.right (And.right (And.right (And.right (And.right (And.right (And.right (by assumption))))))))))) | exact ktn_ltOf (And.right (And.right (And.right (And.right (And.right (And.right (And.right (And.right (And.right (And.right (And.right (by assumption))))))))))))) (lt_more (by first | assumption | exact ktn_ltOf (by assumption) | exact ktn_ltOf (And.right (by assumption)) | exact ktn_ltOf (And.right (And.right (by assumption))) | exact ktn_ltOf (And.right (And.right (And.right (by assumption)))) | exact ktn_ltOf (And.right (And.right (And.right (And.right (by assumption))))) | exact ktn_ltOf (And.right (And.right (And.right (And.right (And.right (by assumption)))))) | exact ktn_ltOf (And.right (And.right (And.right (And.right (And.right (And.right (by assumption))))))) | exact ktn_ltOf (And.right (And.right (And.right (And.right (And.right (And.right (And.right (by assumption)))))))) | exact ktn_ltOf (And.right (And.right (And.right (And.right (And.right (And.right (And.right (And.right (by assumption))))))))) | exact ktn_ltOf (And.right (And.right (And.right (And.right (And.right (And.right (And.right (And.right (And.right (by assumption)))))))))) | exact ktn_ltOf (And.right (And.right (And.right (And.right (And.right (And.right (And.right (And.right (And.right (And.right (by assumption))))))))))) | exact ktn_ltOf (And.right (And.right (And.right (And.right (And.right (And.right (And.right (And.right (And.right (And.right (And.right (by assumption))))))))))))) (lt_more (by first | assumption | exact ktn_ltOf (by assumption) | exact ktn_ltOf (And.right (by assumption)) | exact ktn_ltOf (And.right (And.right (by assumption))) | exact ktn_ltOf (And.right (And.right (And.right (by assumption)))) | exact ktn_ltOf (And.right (And.right (And.right (And.right (by assumption))))) | exact ktn_ltOf (And.right (And.right (And.right (And.right (And.right (by assumption)))))) | exact ktn_ltOf (And.right (And.right (And.right (And.right (And.right (And.right (by assumption))))))) | exact ktn_ltOf (And.right (And.right (And.right (And.right (And.right (And.right (And.right (by assumption)))))))) | exact ktn_ltOf (And.right (And.right (And.right (And.right (And.right (And.right (And.right (And.right (by assumption))))))))) | exact ktn_ltOf (And.right (And.right (And.right (And.right (And.right (And.right (And.right (And.right (And.right (by assumption)))))))))) | exact ktn_ltOf (And.right (And.right (And.right (And.right (And.right (And.right (And.right (And.right (And.right (And.right (by assumption))))))))))) | exact ktn_ltOf (And.right (And.right (And.right (And.right (And.right (And.right (And.right (And.right (And.right (And.right (And.right (by assumption))))))))))))) (lt_more la' (lt_one la))))) ⟨_, _, _, _, _, _, _, _, _, _, _, _, rfl, rfl, lb, le.1, lc.1, ld.1⟩
 case hZ => delta id; exact pair_ _

/-! contracts of functions that change one object (P) of the caller's -/
noncomputable def MeetsU (w : World) (f : Addr) (d u : Nat) (vs : List Value) (P : Addr) (o : Obj) (args : Led) (Out : Value → Obj → Led → Prop) : Prop :=
  ∀ (p : Program) (loose : List Str) (mean : ExcName → Option Value) (mg mb : Str → Option Value) (dp un : Nat) (gd : Option (List Code)) (cn : Str) (cs : Scope) (a : Addr) (ccd : Value) (cl : List (Str × Addr)) (outer : List Env) (A₀ : Around) (base h₀ : Heap) (L : Addr) (m : Str → Option Value) (news : Led) (s : Shared) (Q E : Value → Shared → Prop),
    PySem.Challenge.rw_pf0014_01 = PySem.Challenge.rw_pf0014_01 →
    Below A₀ base outer h₀ → Fr h₀ L s.heap m → (Mine.K w.params).In h₀ → News h₀ L s.heap ((P, o) :: (args ++ news)) → (∀ q ∈ news, q.1 ≠ P) → Top p loose mean mg mb h₀ → cs.kind = .function → dp + d < recursionLimit → un + u < cLine →
    (∀ r ob tl h' tk', Fr h₀ L h' m → News h₀ L h' (tl ++ (P, ob) :: (args ++ news)) → (∀ q ∈ (P, o) :: (args ++ news), ∀ p ∈ tl, q.1 < p.1) → Out r ob tl → Q r { s with heap := h', toks := tk' }) → wpAny (model prg w) (ktrTop dp un gd cn cs L a ccd cl outer) (call (.ref f) vs) Q E s
theorem news_sub' {h₀ h' : Heap} {L : Addr} {n n' : Led} (N : News h₀ L h' n') (hs : ∀ q ∈ n, q ∈ n') : News h₀ L h' n := fun q hq => N q (hs q hq)
section
variable {w : World} {f : Addr} {d u : Nat} {vs : List Value} {P : Addr} {o : Obj} {args : Led} {Out : Value → Obj → Led → Prop} {g : Obj → Led} {p : Program} {loose : List Str} {mean : ExcName → Option Value} {mg mb : Str → Option Value} {dp un : Nat} {gd : Option (List Code)} {cn : Str} {cs : Scope} {a : Addr} {ccd : Value} {cl : List (Str × Addr)} {outer : List Env} {A₀ : Around} {base h₀ : Heap} {L : Addr} {m : Str → Option Value} {news : Led} {s : Shared} {Q E : Value → Shared → Prop}
theorem useU (C : MeetsU w f d u vs P o args Out) (B : Below A₀ base outer h₀) (F : Fr h₀ L s.heap m) (X : (Mine.K w.params).In h₀) (N : News h₀ L s.heap news) (T : Top p loose mean mg mb h₀) (hk : cs.kind = .function) (hd : dp + d < recursionLimit) (hu : un + u < cLine) (U : UpdF P o news g) (ha : ∀ q ∈ args, q ∈ news)
    (k : ∀ r ob tl h' tk', Fr h₀ L h' m → News h₀ L h' (tl ++ g ob) → (∀ q ∈ news, ∀ p ∈ tl, q.1 < p.1) → Out r ob tl → Q r { s with heap := h', toks := tk' }) : wpAny (model prg w) (ktrTop dp un gd cn cs L a ccd cl outer) (call (.ref f) vs) Q E s := by
  obtain ⟨pre, post, hn, hg, h1, h2⟩ := U.split
  refine C p loose mean mg mb dp un gd cn cs a ccd cl outer A₀ base h₀ L m (pre ++ post) s Q E rfl B F X (fun q hq => ?_) (fun q hq => ?_) T hk hd hu fun r ob tl h' tk' F' N' l ho => k r ob tl h' tk' F' (fun q hq => ?_) (fun q hq => ?_) ho
  · rw [hn] at N ha
    rcases List.mem_cons.mp hq with rfl | hq
    · exact N _ (List.mem_append_right _ (.head _))
    rcases List.mem_append.mp hq with hq | hq
    · exact N _ (ha _ hq)
    rcases List.mem_append.mp hq with hq | hq
    · exact N _ (List.mem_append_left _ hq)
    · exact N _ (List.mem_append_right _ (.tail _ hq))
  · rcases List.mem_append.mp hq with hq | hq
    · exact h1 _ hq
    · exact h2 _ hq
  · refine N' _ ?_
    rcases List.mem_append.mp hq with hq | hq
    · exact List.mem_append_left _ hq
    rw [hg] at hq
    rcases List.mem_append.mp hq with hq | hq
    · exact List.mem_append_right _ (.tail _ (List.mem_append_right _ (List.mem_append_left _ hq)))
    rcases List.mem_cons.mp hq with rfl | hq
    · exact List.mem_append_right _ (.head _)
    · exact List.mem_append_right _ (.tail _ (List.mem_append_right _ (List.mem_append_right _ hq)))
  · refine l _ ?_
    rw [hn] at hq
    rcases List.mem_append.mp hq with hq | hq
    · exact .tail _ (List.mem_append_right _ (List.mem_append_left _ hq))
    rcases List.mem_cons.mp hq with rfl | hq
    · exact .head _
    · exact .tail _ (List.mem_append_right _ (List.mem_append_right _ hq))
end
-- MACROS
local macro_rules | `(tactic| k_all) => `(tactic| assumption)
-- END
set_option maxHeartbeats 8000000 in
theorem finished (w : World) (I d La Lo Lp T0 : Addr) (u1 u2 u3 u4 u5 t b : Tok) (n : Nat) (g1 : @LT.lt Nat _ d I) (g2 : @LT.lt Nat _ I Lo) (g3 : @LT.lt Nat _ Lo Lp) :
    MeetsU w 278 6 60 [.ref I] Lo (W.listOf #[.ref T0] n) [(Lp, W.listOf #[] 0), (I, instObj 260 d), (d, lvD w u1 u2 u3 u4 u5 t b La Lo Lp)] (fun r _ tl => r = .ref T0 ∧ tl = []) := by
 refine (?fZ : PullF _) ?pZ ?qZ ?hZ
 case fZ => exact fun _ q _ => q
 case pZ =>
  unfold MeetsU
  k_fill
  intro p loose mean mg mb dp un gd cn cs a ccd cl outer A₀ base h₀ L m news s Q E hrw B F X N hne T hk hd hu hret
  clear hrw
  dsimp only [List.cons_append, List.nil_append] at N hret
  refine wpAny_call ?_
  k_dflt cell_enter
  (repeat' (first | ((fail_if_success (first | (with_reducible show wpAny _ _ (exec (Stmt.While _ _ _ _) _) _ _ _) | (with_reducible show wpAny _ _ (exec (Stmt.Raise _ _ _) _) _ _ _) | (with_reducible show WhStep _ _ _ _ _ _ _ _ _ _ _))); (first | (k_here; (with_reducible show wpAny _ _ (call (Value.ref _) _) _ _ _); (first | ((with_reducible show wpAny _ _ (call (Value.ref 271) _) _ _ _); refine wpAny_call ?_; (refine' code_def ?k1 ?k2 ?k3 ?k4 ?k5 ?kA ?kF ?kK ?k6 ?k7 ?k8 ?k9 ?kB ?_ ?c2 ?c3 ?c4 ?c5; (case kA => exact rfl); (case kF => exact rfl); (case kK => exact rfl); (case k1 => k_asm); (case k2 => k_asm); (case k3 => k_asm); (case k4 => k_asm); (case k5 => k_asm); (case k6 => k_is); (case k7 => k_is); (case k8 => ktr_room); (case k9 => exact BindsTo.of_eq rfl); (case c5 => decide); (case kB => exact locs rfl); (case c2 => exact rfl); (case c3 => exact rfl); (case c4 => exact rfl); k_whole; intro g' L' h' FG' F' N' B' X' T'; (try dsimp only); (try k_lift B'); (try k_fold))) | ((with_reducible show wpAny _ _ (call (Value.ref 201) _) _ _ _); (first | (k_dflt (refine' useAt (token_at0 _ _ _ _ _ _ ?p1) ?k1 ?k2 ?k3 ?k4 ?k5 ?kK ?kd ?ku (ha1 ?kh) ?_); (case p1 => first | rfl | omega)) | (k_dflt (refine' useAt (token_at1 _ _ _ _ _ _ ?p1) ?k1 ?k2 ?k3 ?k4 ?k5 ?kK ?kd ?ku (ha1 ?kh) ?_); (case p1 => first | rfl | omega))); (case k1 => k_asm); (case k2 => k_asm); (case k3 => k_asm); (case k4 => k_asm); (case k5 => k_asm); (case kK => first | exact rfl | assumption); (case kd => ktr_room); (case ku => ktr_units); (case kh => k_mem); k_whole; intro h9 tk9 F9 N9; walk_at "u3") | ((with_reducible show wpAny _ _ (call (Value.ref 229) _) _ _ _); k_dflt (refine' useII (power_at _ _ _ _ _ ?p1 ?p2) ?k1 ?k2 ?k3 ?k4 ?k5 ?kK ?kd ?ku ?_; (case p1 => walk_at "up"); (case p2 => walk_at "up"); walk_at "u2"); intro D9 a9 b9 h9 tk9 F9 N9 l9; (try k_lt l9); walk_at "u3") | ((with_reducible show wpAny _ _ (call (Value.ref 222) _) _ _ _); k_dflt (refine' useIII (figures_at _ _ _ _ _ ?p1) ?k1 ?k2 ?k3 ?k4 ?k5 ?kK ?kd ?ku ?_; (case p1 => walk_at "up"); walk_at "u2"); intro D9 a9 b9 c9 h9 tk9 F9 N9 l9; (try k_lt l9); walk_at "u3") | ((with_reducible show wpAny _ _ (call (Value.ref 236) _) _ _ _); k_dflt (refine' useII (told_exactly _ _ _ _ _ ?p1) ?k1 ?k2 ?k3 ?k4 ?k5 ?kK ?kd ?ku ?_; (case p1 => walk_at "up"); walk_at "u2"); intro D9 a9 b9 h9 tk9 F9 N9 l9; (try k_lt l9); walk_at "u3"))) | walk_at "wk"))))
  k_dflt (refine whl_start 2 ?_)
  (repeat' (first | ((fail_if_success (first | (with_reducible show wpAny _ _ (exec (Stmt.While _ _ _ _) _) _ _ _) | (with_reducible show wpAny _ _ (exec (Stmt.Raise _ _ _) _) _ _ _) | (with_reducible show WhStep _ _ _ _ _ _ _ _ _ _ _))); (first | (k_here; (with_reducible show wpAny _ _ (call (Value.ref _) _) _ _ _); (first | ((with_reducible show wpAny _ _ (call (Value.ref 271) _) _ _ _); refine wpAny_call ?_; (refine' code_def ?k1 ?k2 ?k3 ?k4 ?k5 ?kA ?kF ?kK ?k6 ?k7 ?k8 ?k9 ?kB ?_ ?c2 ?c3 ?c4 ?c5; (case kA => exact rfl); (case kF => exact rfl); (case kK => exact rfl); (case k1 => k_asm); (case k2 => k_asm); (case k3 => k_asm); (case k4 => k_asm); (case k5 => k_asm); (case k6 => k_is); (case k7 => k_is); (case k8 => ktr_room); (case k9 => exact BindsTo.of_eq rfl); (case c5 => decide); (case kB => exact locs rfl); (case c2 => exact rfl); (case c3 => exact rfl); (case c4 => exact rfl); k_whole; intro g' L' h' FG' F' N' B' X' T'; (try dsimp only); (try k_lift B'); (try k_fold))) | ((with_reducible show wpAny _ _ (call (Value.ref 201) _) _ _ _); (first | (k_dflt (refine' useAt (token_at0 _ _ _ _ _ _ ?p1) ?k1 ?k2 ?k3 ?k4 ?k5 ?kK ?kd ?ku (ha1 ?kh) ?_); (case p1 => first | rfl | omega)) | (k_dflt (refine' useAt (token_at1 _ _ _ _ _ _ ?p1) ?k1 ?k2 ?k3 ?k4 ?k5 ?kK ?kd ?ku (ha1 ?kh) ?_); (case p1 => first | rfl | omega))); (case k1 => k_asm); (case k2 => k_asm); (case k3 => k_asm); (case k4 => k_asm); (case k5 => k_asm); (case kK => first | exact rfl | assumption); (case kd => ktr_room); (case ku => ktr_units); (case kh => k_mem); k_whole; intro h9 tk9 F9 N9; walk_at "u3") | ((with_reducible show wpAny _ _ (call (Value.ref 229) _) _ _ _); k_dflt (refine' useII (power_at _ _ _ _ _ ?p1 ?p2) ?k1 ?k2 ?k3 ?k4 ?k5 ?kK ?kd ?ku ?_; (case p1 => walk_at "up"); (case p2 => walk_at "up"); walk_at "u2"); intro D9 a9 b9 h9 tk9 F9 N9 l9; (try k_lt l9); walk_at "u3") | ((with_reducible show wpAny _ _ (call (Value.ref 222) _) _ _ _); k_dflt (refine' useIII (figures_at _ _ _ _ _ ?p1) ?k1 ?k2 ?k3 ?k4 ?k5 ?kK ?kd ?ku ?_; (case p1 => walk_at "up"); walk_at "u2"); intro D9 a9 b9 c9 h9 tk9 F9 N9 l9; (try k_lt l9); walk_at "u3") | ((with_reducible show wpAny _ _ (call (Value.ref 236) _) _ _ _); k_dflt (refine' useII (told_exactly _ _ _ _ _ ?p1) ?k1 ?k2 ?k3 ?k4 ?k5 ?kK ?kd ?ku ?_; (case p1 => walk_at "up"); walk_at "u2"); intro D9 a9 b9 h9 tk9 F9 N9 l9; (try k_lt l9); walk_at "u3"))) | walk_at "wk"))))
  exact hret _ _ [] _ _ (by k_asm) (news_sub' (by k_asm) (by repeat' (first | exact sub_refl _ | refine List.forall_mem_cons.mpr ⟨by k_mem, ?_⟩ | refine sub_cons ?_))) (fun _ _ _ h => nomatch h) ⟨rfl, rfl⟩
 case hZ => delta id; exact pair_ _
-- MACROS
-- END
noncomputable def OutTE (r : Value) (tl : Led) : Prop := ∃ (D : Addr) (a b : Tok), tl = [(D, tup [.int 1 a, .str (Str.ofString "end") b])] ∧ r = .ref D
set_option maxHeartbeats 8000000 in
theorem take_operator (w : World) (Lv I d La Lo Lp l D8 : Addr) (u1 u2 u3 u4 u5 t b v : Tok) (n n1 : Nat) : MeetsA (γ := Unit) w 306 6 60 [.ref Lv, .ref l, .int 1 v] [(Lv, W.listOf #[.ref I] n), (I, instObj 260 d), (d, lvD w u1 u2 u3 u4 u5 t b La Lo Lp), (l, W.listOf #[.ref D8] n1)] (some ()) (fun _ => OutTE) (Str.ofString "OV") := by
 refine (?fZ : PullF _) ?pZ ?qZ ?hZ
 case fZ => exact fun _ q _ => q
 case pZ =>
  unfold MeetsA
  k_fill
  intro p loose mean mg mb dp un gd cn cs a ccd cl outer A₀ base h₀ L m news s Q E hrw B F X N T hk hd hu hret hexc
  clear hrw
  dsimp only [List.cons_append, List.nil_append] at N hret hexc
  refine wpAny_call ?_
  k_dflt cell_enter
  (repeat' (first | ((fail_if_success (first | (with_reducible show wpAny _ _ (exec (Stmt.While _ _ _ _) _) _ _ _) | (with_reducible show wpAny _ _ (exec (Stmt.Raise _ _ _) _) _ _ _) | (with_reducible show WhStep _ _ _ _ _ _ _ _ _ _ _))); (first | (k_here; (with_reducible show wpAny _ _ (call (Value.ref _) _) _ _ _); (first | ((with_reducible show wpAny _ _ (call (Value.ref 278) _) _ _ _); k_dflt (refine' useU (finished _ _ _ _ _ _ _ _ _ _ _ _ _ _ _ ?p1 ?p2 ?p3) ?k1 ?k2 ?k3 ?k4 ?k5 ?kK ?kd ?ku ?kU ?kh ?_; walk_at "u2"; (case kh => exact (by repeat' (first | exact List.forall_mem_nil _ | refine List.forall_mem_cons.mpr ⟨by k_mem, ?_⟩))); (case kU => k_updF); (case p1 => (try dsimp only); omega); (case p2 => (try dsimp only); omega); (case p3 => (try dsimp only); omega)); (intro r9 ob9 tl9 h9 tk9 F9 N9 l9 o9; obtain ⟨e9, e8⟩ := o9; subst e9; subst e8; dsimp only [List.cons_append, List.nil_append] at N9; clear l9; walk_at "u3")) | ((with_reducible show wpAny _ _ (call (Value.ref 271) _) _ _ _); refine wpAny_call ?_; (refine' code_def ?k1 ?k2 ?k3 ?k4 ?k5 ?kA ?kF ?kK ?k6 ?k7 ?k8 ?k9 ?kB ?_ ?c2 ?c3 ?c4 ?c5; (case kA => exact rfl); (case kF => exact rfl); (case kK => exact rfl); (case k1 => k_asm); (case k2 => k_asm); (case k3 => k_asm); (case k4 => k_asm); (case k5 => k_asm); (case k6 => k_is); (case k7 => k_is); (case k8 => ktr_room); (case k9 => exact BindsTo.of_eq rfl); (case c5 => decide); (case kB => exact locs rfl); (case c2 => exact rfl); (case c3 => exact rfl); (case c4 => exact rfl); k_whole; intro g' L' h' FG' F' N' B' X' T'; (try dsimp only); (try k_lift B'); (try k_fold))) | ((with_reducible show wpAny _ _ (call (Value.ref 201) _) _ _ _); (first | (k_dflt (refine' useAt (token_at0 _ _ _ _ _ _ ?p1) ?k1 ?k2 ?k3 ?k4 ?k5 ?kK ?kd ?ku (ha1 ?kh) ?_); (case p1 => first | rfl | omega)) | (k_dflt (refine' useAt (token_at1 _ _ _ _ _ _ ?p1) ?k1 ?k2 ?k3 ?k4 ?k5 ?kK ?kd ?ku (ha1 ?kh) ?_); (case p1 => first | rfl | omega))); (case k1 => k_asm); (case k2 => k_asm); (case k3 => k_asm); (case k4 => k_asm); (case k5 => k_asm); (case kK => first | exact rfl | assumption); (case kd => ktr_room); (case ku => ktr_units); (case kh => k_mem); k_whole; intro h9 tk9 F9 N9; walk_at "u3") | ((with_reducible show wpAny _ _ (call (Value.ref 229) _) _ _ _); k_dflt (refine' useII (power_at _ _ _ _ _ ?p1 ?p2) ?k1 ?k2 ?k3 ?k4 ?k5 ?kK ?kd ?ku ?_; (case p1 => walk_at "up"); (case p2 => walk_at "up"); walk_at "u2"); intro D9 a9 b9 h9 tk9 F9 N9 l9; (try k_lt l9); walk_at "u3") | ((with_reducible show wpAny _ _ (call (Value.ref 222) _) _ _ _); k_dflt (refine' useIII (figures_at _ _ _ _ _ ?p1) ?k1 ?k2 ?k3 ?k4 ?k5 ?kK ?kd ?ku ?_; (case p1 => walk_at "up"); walk_at "u2"); intro D9 a9 b9 c9 h9 tk9 F9 N9 l9; (try k_lt l9); walk_at "u3") | ((with_reducible show wpAny _ _ (call (Value.ref 236) _) _ _ _); k_dflt (refine' useII (told_exactly _ _ _ _ _ ?p1) ?k1 ?k2 ?k3 ?k4 ?k5 ?kK ?kd ?ku ?_; (case p1 => walk_at "up"); walk_at "u2"); intro D9 a9 b9 h9 tk9 F9 N9 l9; (try k_lt l9); walk_at "u3"))) | walk_at "wk"))))
  exact Ret.many (hret _ rfl) (by k_asm) (by k_asm) (by repeat' (first | exact sub_refl _ | refine sub_cons ?_)) (by repeat' (first | exact List.forall_mem_nil _ | refine List.forall_mem_cons.mpr ⟨by k_mem, ?_⟩)) (lt_one (by first | assumption | exact ktn_ltOf (by assumption) | exact ktn_ltOf (And.right (by assumption)) | exact ktn_ltOf (And.right (And.right (by assumption))) | exact ktn_ltOf (And.right (And.right (And.right (by assumption)))) | exact ktn_ltOf (And.right (And.right (And.right (And.right (by assumption))))) | exact ktn_ltOf (And.right (And.right (And.right (And.right (And.right (by assumption)))))) | exact ktn_ltOf (And.right (And.right (And.right (And.right (And.right (And.right (by assumption))))))) | exact ktn_ltOf (And.right (And.right (And.right (And.right (And.right (And.right (And.right (by assumption)))))))) | exact ktn_ltOf (And.right (And.right (And.right (And.right (And.right (And.right (And.right (And.right (by assumption))))))))) | exact ktn_ltOf (And.right (And.right (And.right (And.right (And.right (And.right (And.right (And.right (And.right (by assumption)))))))))) | exact ktn_ltOf (And.right (And.right (And.right (And.right (And.right (And.right (And.right (And.right (And.right (And.right (by assumption))))))))))) | exact ktn_ltOf (And.right (And.right (And.right (And.right (And.right (And.right (And.right (And.right (And.right (And.right (And.right (by assumption)))))))))))))) ⟨_, _, _, rfl, rfl⟩
 case hZ => delta id; exact pair_ _
-- MACROS
-- END
/-- a number's tree: its two objects (of a whole number both are one) -/
noncomputable def TreeAt (tr : Tr) (T T2 : Addr) (o o2 : Obj) : Prop := match tr with
  | .whole n => ∃ (b b' : Tok), o = tup [.str (Str.ofString "whole") b, .int (n : Int) b'] ∧ T2 = T ∧ o2 = o
  | .dec c e => ∃ (b a a' : Tok), o = tup [.str (Str.ofString "decimal") b, .ref T2] ∧ o2 = tup [.int (c : Int) a, .int e a'] ∧ T2 < T
noncomputable def OutTree (tr : Tr) (r : Value) (tl : Led) : Prop := ∃ (T T2 : Addr) (o o2 : Obj), tl = [(T, o), (T2, o2)] ∧ r = .ref T ∧ TreeAt tr T T2 o o2
theorem number_treeT (w : World) (x : Str) (t : Tok) (hx : x.length ≤ 60) (hpw : PowOk (sgs x)) : Meets w 243 4 32 [.str x t] (OutTree (ntree (sgs x))) := by
  intro p loose mean mg mb dp un gd cn cs a ccd cl outer A₀ base h₀ L m news s Q E hrw B F X N T hk hd hu hret
  refine number_tree w x t hx hpw p loose mean mg mb dp un gd cn cs a ccd cl outer A₀ base h₀ L m news s Q E hrw B F X N T hk hd hu ?_
  intro r tl h' tk' F' N' l o
  cases htr : ntree (sgs x) with
  | whole n =>
    rw [htr] at o
    obtain ⟨D, a, b, rfl, rfl⟩ := o
    exact hret (.ref D) [(D, _), (D, _)] h' tk' F' (fun q hq => by
      rcases List.mem_cons.mp hq with rfl | hq
      · exact N' _ (.head _)
      · exact N' _ hq) (fun q hq p hp => by
      rcases List.mem_cons.mp hp with rfl | hp
      · exact l q hq _ (.head _)
      · exact l q hq _ hp) ⟨D, D, _, _, rfl, rfl, by rw [htr]; exact ⟨a, b, rfl, rfl, rfl⟩⟩
  | dec c e =>
    rw [htr] at o
    obtain ⟨D, D2, a, b, b', rfl, rfl, lt⟩ := o
    exact hret (.ref D) [(D, _), (D2, _)] h' tk' F' N' l ⟨D, D2, _, _, rfl, rfl, by rw [htr]; exact ⟨a, b, b', rfl, rfl, lt⟩⟩
-- MACROS
-- END

noncomputable def OutTO2 (tr : Tr) (r : Value) (ob : Obj) (tl : Led) : Prop := ∃ (D T T2 : Addr) (o o2 : Obj) (n : Nat) (a : Tok), tl = [(D, tup [.int 1 a, .bool true]), (T, o), (T2, o2)] ∧ ob = W.listOf #[.ref T] n ∧ r = .ref D ∧ TreeAt tr T T2 o o2
set_option maxHeartbeats 8000000 in
theorem take_operand (w : World) (Lv I d La Lo Lp l D8 : Addr) (u1 u2 u3 u4 u5 t b v c k : Tok) (n n1 n2 : Nat) (x : Str) (kn : Value) (hx : x.length ≤ 60) (hpw : PowOk (sgs x)) (g1 : @LT.lt Nat _ d I) (g2 : @LT.lt Nat _ I Lo) (g3 : @LT.lt Nat _ Lo Lv) (g4 : @LT.lt Nat _ l D8) (g5 : @LT.lt Nat _ D8 d) :
    MeetsU w 299 12 100 [.ref Lv, .ref l, .int 0 v, kn] Lo (W.listOf #[] n) [(Lv, W.listOf #[.ref I] n1), (I, instObj 260 d), (d, lvD w u1 u2 u3 u4 u5 t b La Lo Lp), (l, W.listOf #[.ref D8] n2), (D8, tup [.str (Str.ofString "number") k, .str x c])] (OutTO2 (ntree (sgs x))) := by
 refine (?fZ : PullF _) ?pZ ?qZ ?hZ
 case fZ => exact fun _ q _ => q
 case pZ =>
  unfold MeetsU
  k_fill
  intro p loose mean mg mb dp un gd cn cs a ccd cl outer A₀ base h₀ L m news s Q E hrw B F X N hne T hk hd hu hret
  clear hrw
  dsimp only [List.cons_append, List.nil_append] at N hret
  refine wpAny_call ?_
  k_dflt cell_enter
  (repeat' (first | ((fail_if_success (first | (with_reducible show wpAny _ _ (exec (Stmt.While _ _ _ _) _) _ _ _) | (with_reducible show wpAny _ _ (exec (Stmt.Raise _ _ _) _) _ _ _) | (with_reducible show WhStep _ _ _ _ _ _ _ _ _ _ _))); (first | (k_here; (with_reducible show wpAny _ _ (call (Value.ref _) _) _ _ _); (first | ((with_reducible show wpAny _ _ (call (Value.ref 292) _) _ _ _); refine wpAny_call ?_; (refine' code_def ?k1 ?k2 ?k3 ?k4 ?k5 ?kA ?kF ?kK ?k6 ?k7 ?k8 ?k9 ?kB ?_ ?c2 ?c3 ?c4 ?c5; (case kA => exact rfl); (case kF => exact rfl); (case kK => exact rfl); (case k1 => k_asm); (case k2 => k_asm); (case k3 => k_asm); (case k4 => k_asm); (case k5 => k_asm); (case k6 => k_is); (case k7 => k_is); (case k8 => ktr_room); (case k9 => exact BindsTo.of_eq rfl); (case c5 => decide); (case kB => exact locs rfl); (case c2 => exact rfl); (case c3 => exact rfl); (case c4 => exact rfl); k_whole; intro g' L' h' FG' F' N' B' X' T'; (try dsimp only); (try k_lift B'); (try k_fold))) | ((with_reducible show wpAny _ _ (call (Value.ref 243) _) _ _ _); k_dflt (refine' useM (number_treeT _ _ _ ?p1 ?p2) ?k1 ?k2 ?k3 ?k4 ?k5 ?kK ?kd ?ku ?_; (case p1 => walk_at "up"); (case p2 => walk_at "up"); walk_at "u2"); (intro r9 tl9 h9 tk9 F9 N9 l9 o9; obtain ⟨T9, T8, x9, x8, e9, e8, tr9⟩ := o9; subst e9; subst e8; dsimp only [List.cons_append, List.nil_append] at N9; (have l9' := fun q hq => l9 q hq (T9, _) (.head _)); (have l9b := fun q hq => l9 q hq (T8, _) (.tail _ (.head _))); clear l9; (try k_lt l9'); (try k_lt l9b); walk_at "u3")) | ((with_reducible show wpAny _ _ (call (Value.ref 260) _) _ _ _); k_dflt (refine' useM (level_new _ _ _) ?k1 ?k2 ?k3 ?k4 ?k5 ?kK ?kd ?ku ?_; walk_at "u2"); (intro r9 tl9 h9 tk9 F9 N9 l9 o9; obtain ⟨I9, d9, a9, o9', p9, v1, v2, v3, v4, v5, v6, v7, e9, e8, lt1, lt2, lt3, lt4⟩ := o9; subst e9; subst e8; dsimp only [List.cons_append, List.nil_append] at N9; (have l91 := fun q hq => l9 q hq (d9, _) (.tail _ (.tail _ (.tail _ (.tail _ (.head _)))))); (have l92 := fun q hq => l9 q hq (o9', _) (.tail _ (.head _))); clear l9; (try k_lt l91); (try k_lt l92); k_lt2 lt1; k_lt2 lt2; k_lt2 lt3; k_lt2 lt4; walk_at "u3")) | ((with_reducible show wpAny _ _ (call (Value.ref 201) _) _ _ _); (first | (k_dflt (refine' useAt (token_at0 _ _ _ _ _ _ ?p1) ?k1 ?k2 ?k3 ?k4 ?k5 ?kK ?kd ?ku (ha1 ?kh) ?_); (case p1 => first | rfl | omega)) | (k_dflt (refine' useAt (token_at1 _ _ _ _ _ _ ?p1) ?k1 ?k2 ?k3 ?k4 ?k5 ?kK ?kd ?ku (ha1 ?kh) ?_); (case p1 => first | rfl | omega))); (case k1 => k_asm); (case k2 => k_asm); (case k3 => k_asm); (case k4 => k_asm); (case k5 => k_asm); (case kK => first | exact rfl | assumption); (case kd => ktr_room); (case ku => ktr_units); (case kh => k_mem); k_whole; intro h9 tk9 F9 N9; walk_at "u3") | ((with_reducible show wpAny _ _ (call (Value.ref 260) _) _ _ _); k_dflt (refine' call_cls ?k1 ?k2 ?k3 ?k4 ?k5 ?k6 ?_; (case k1 => k_asm); (case k2 => k_asm); (case k3 => k_asm); (case k4 => k_is); (case k5 => k_is); (case k6 => k_is); k_whole; intro x' d' h' F' N' l1 l2; (try k_lt l1); (try k_lt2 l2); (try k_sweep)); (refine' code_def ?k1 ?k2 ?k3 ?k4 ?k5 ?kA ?kF ?kK ?k6 ?k7 ?k8 ?k9 ?kB ?_ ?c2 ?c3 ?c4 ?c5; (case kA => exact rfl); (case kF => exact rfl); (case kK => first | exact rfl | assumption); (case k1 => k_asm); (case k2 => k_asm); (case k3 => k_asm); (case k4 => k_asm); (case k5 => k_asm); (case k6 => k_is); (case k7 => k_is); (case k8 => ktr_room); (case k9 => exact BindsTo.of_eq rfl); (case c5 => decide); (case kB => exact locs rfl); (case c2 => exact rfl); (case c3 => exact rfl); (case c4 => exact rfl); k_whole; intro g' L' h' FG' F' N' B' X' T'; (try dsimp only); (try k_lift B'); (try k_fold))))) | walk_at "wk"))))
  rename TreeAt _ _ _ _ _ => tr
  refine' hret (.ref _) _ [(_, _), (_, _), (_, _)] _ _ (by k_asm) (news_sub' (by k_asm) ?n) ?l ⟨_, _, _, _, _, _, _, rfl, rfl, rfl, tr⟩
  case n => exact (by repeat' (first | exact sub_refl _ | refine List.forall_mem_cons.mpr ⟨by k_mem, ?_⟩ | refine sub_cons ?_))
  case l => exact lt_more (by first | assumption | exact ktn_ltOf (by assumption) | exact ktn_ltOf (And.right (by assumption)) | exact ktn_ltOf (And.right (And.right (by assumption))) | exact ktn_ltOf (And.right (And.right (And.right (by assumption)))) | exact ktn_ltOf (And.right (And.right (And.right (And.right (by assumption))))) | exact ktn_ltOf (And.right (And.right (And.right (And.right (And.right (by assumption)))))) | exact ktn_ltOf (And.right (And.right (And.right (And.right (And.right (And.right (by assumption))))))) | exact ktn_ltOf (And.right (And.right (And.right (And.right (And.right (And.right (And.right (by assumption)))))))) | exact ktn_ltOf (And.right (And.right (And.right (And.right (And.right (And.right (And.right (And.right (by assumption))))))))) | exact ktn_ltOf (And.right (And.right (And.right (And.right (And.right (And.right (And.right (And.right (And.right (by assumption)))))))))) | exact ktn_ltOf (And.right (And.right (And.right (And.right (And.right (And.right (And.right (And.right (And.right (And.right (by assumption))))))))))) | exact ktn_ltOf (And.right (And.right (And.right (And.right (And.right (And.right (And.right (And.right (And.right (And.right (And.right (by assumption))))))))))))) (lt_more (by first | assumption | exact ktn_ltOf (by assumption) | exact ktn_ltOf (And.right (by assumption)) | exact ktn_ltOf (And.right (And.right (by assumption))) | exact ktn_ltOf (And.right (And.right (And.right (by assumption)))) | exact ktn_ltOf (And.right (And.right (And.right (And.right (by assumption))))) | exact ktn_ltOf (And.right (And.right (And.right (And.right (And.right (by assumption)))))) | exact ktn_ltOf (And.right (And.right (And.right (And.right (And.right (And.right (by assumption))))))) | exact ktn_ltOf (And.right (And.right (And.right (And.right (And.right (And.right (And.right (by assumption)))))))) | exact ktn_ltOf (And.right (And.right (And.right (And.right (And.right (And.right (And.right (And.right (by assumption))))))))) | exact ktn_ltOf (And.right (And.right (And.right (And.right (And.right (And.right (And.right (And.right (And.right (by assumption)))))))))) | exact ktn_ltOf (And.right (And.right (And.right (And.right (And.right (And.right (And.right (And.right (And.right (And.right (by assumption))))))))))) | exact ktn_ltOf (And.right (And.right (And.right (And.right (And.right (And.right (And.right (And.right (And.right (And.right (And.right (by assumption))))))))))))) (lt_one (by first | assumption | exact ktn_ltOf (by assumption) | exact ktn_ltOf (And.right (by assumption)) | exact ktn_ltOf (And.right (And.right (by assumption))) | exact ktn_ltOf (And.right (And.right (And.right (by assumption)))) | exact ktn_ltOf (And.right (And.right (And.right (And.right (by assumption))))) | exact ktn_ltOf (And.right (And.right (And.right (And.right (And.right (by assumption)))))) | exact ktn_ltOf (And.right (And.right (And.right (And.right (And.right (And.right (by assumption))))))) | exact ktn_ltOf (And.right (And.right (And.right (And.right (And.right (And.right (And.right (by assumption)))))))) | exact ktn_ltOf (And.right (And.right (And.right (And.right (And.right (And.right (And.right (And.right (by assumption))))))))) | exact ktn_ltOf (And.right (And.right (And.right (And.right (And.right (And.right (And.right (And.right (And.right (by assumption)))))))))) | exact ktn_ltOf (And.right (And.right (And.right (And.right (And.right (And.right (And.right (And.right (And.right (And.right (by assumption))))))))))) | exact ktn_ltOf (And.right (And.right (And.right (And.right (And.right (And.right (And.right (And.right (And.right (And.right (And.right (by assumption)))))))))))))))
 case hZ => delta id; exact pair_ _
-- MACROS
-- END

noncomputable def OutR (r : Value) (tl : Led) : Prop := tl = [] ∧ ∃ a : Addr, r = .ref a
set_option maxHeartbeats 8000000 in
theorem functions (w : World) : Meets w 80 2 20 [] OutR := by
 refine (?fZ : PullF _) ?pZ ?qZ ?hZ
 case fZ => exact fun _ q _ => q
 case pZ =>
  unfold Meets
  k_fill
  intro p loose mean mg mb dp un gd cn cs a ccd cl outer A₀ base h₀ L m news s Q E hrw B F X N T hk hd hu hret
  clear hrw
  refine wpAny_call ?_
  k_dflt cell_enter
  (repeat' (first | ((fail_if_success (first | (with_reducible show wpAny _ _ (exec (Stmt.While _ _ _ _) _) _ _ _) | (with_reducible show wpAny _ _ (exec (Stmt.Raise _ _ _) _) _ _ _) | (with_reducible show WhStep _ _ _ _ _ _ _ _ _ _ _))); (first | (k_here; (with_reducible show wpAny _ _ (call (Value.ref _) _) _ _ _); (first | ((with_reducible show wpAny _ _ (call (Value.ref 299) _) _ _ _); k_dflt (refine' useU (take_operand _ _ _ _ _ _ _ _ _ _ _ _ _ _ _ _ _ _ _ _ _ _ _ _ ?q1 ?q2 ?p1 ?p2 ?p3 ?p4 ?p5) ?k1 ?k2 ?k3 ?k4 ?k5 ?kK ?kd ?ku ?kU ?kh ?_; walk_at "u2"; (case kh => exact (by repeat' (first | exact List.forall_mem_nil _ | refine List.forall_mem_cons.mpr ⟨by k_mem, ?_⟩))); (case kU => k_updF); (case q1 => walk_at "up"); (case q2 => walk_at "up"); (case p1 => (try dsimp only); omega); (case p2 => (try dsimp only); omega); (case p3 => (try dsimp only); omega); (case p4 => (try dsimp only); omega); (case p5 => (try dsimp only); omega)); (intro r9 ob9 tl9 h9 tk9 F9 N9 l9 o9; obtain ⟨D9, T9, T8, x9, x8, n9, a9, e9, e8, e7, tr9⟩ := o9; subst e9; subst e8; subst e7; dsimp only [List.cons_append, List.nil_append] at N9; (have l9a := fun q hq => l9 q hq (D9, _) (.head _)); (have l9' := fun q hq => l9 q hq (T9, _) (.tail _ (.head _))); (have l9b := fun q hq => l9 q hq (T8, _) (.tail _ (.tail _ (.head _)))); clear l9; (try k_lt l9a); (try k_lt l9'); (try k_lt l9b); walk_at "u3")) | ((with_reducible show wpAny _ _ (call (Value.ref 306) _) _ _ _); k_dflt (refine' useAm (take_operator _ _ _ _ _ _ _ _ _ _ _ _ _ _ _ _ _ _ _) ?k1 ?k2 ?k3 ?k4 ?k5 ?kK ?kd ?ku ?kh ?_; walk_at "u2"; (case kh => exact (by repeat' (first | exact List.forall_mem_nil _ | refine List.forall_mem_cons.mpr ⟨by k_mem, ?_⟩)))); (intro r9 tl9 h9 tk9 F9 N9 l9 o9; obtain ⟨D9, a9, b9, e9, e8⟩ := o9; subst e9; subst e8; dsimp only [List.cons_append, List.nil_append] at N9; (have l9' := fun q hq => l9 q hq (D9, _) (.head _)); clear l9; (try k_lt l9'); walk_at "u3")) | ((with_reducible show wpAny _ _ (call (Value.ref 278) _) _ _ _); k_dflt (refine' useU (finished _ _ _ _ _ _ _ _ _ _ _ _ _ _ _ ?p1 ?p2 ?p3) ?k1 ?k2 ?k3 ?k4 ?k5 ?kK ?kd ?ku ?kU ?kh ?_; walk_at "u2"; (case kh => exact (by repeat' (first | exact List.forall_mem_nil _ | refine List.forall_mem_cons.mpr ⟨by k_mem, ?_⟩))); (case kU => k_updF); (case p1 => (try dsimp only); omega); (case p2 => (try dsimp only); omega); (case p3 => (try dsimp only); omega)); (intro r9 ob9 tl9 h9 tk9 F9 N9 l9 o9; obtain ⟨e9, e8⟩ := o9; subst e9; subst e8; dsimp only [List.cons_append, List.nil_append] at N9; clear l9; walk_at "u3")) | ((with_reducible show wpAny _ _ (call (Value.ref 260) _) _ _ _); k_dflt (refine' useM (level_new _ _ _) ?k1 ?k2 ?k3 ?k4 ?k5 ?kK ?kd ?ku ?_; walk_at "u2"); (intro r9 tl9 h9 tk9 F9 N9 l9 o9; obtain ⟨I9, d9, a9, o9', p9, v1, v2, v3, v4, v5, v6, v7, e9, e8, lt1, lt2, lt3, lt4⟩ := o9; subst e9; subst e8; dsimp only [List.cons_append, List.nil_append] at N9; (have l91 := fun q hq => l9 q hq (d9, _) (.tail _ (.tail _ (.tail _ (.tail _ (.head _)))))); (have l92 := fun q hq => l9 q hq (o9', _) (.tail _ (.head _))); clear l9; (try k_lt l91); (try k_lt l92); k_lt2 lt1; k_lt2 lt2; k_lt2 lt3; k_lt2 lt4; walk_at "u3")) | ((with_reducible show wpAny _ _ (call (Value.ref 260) _) _ _ _); k_dflt (refine' call_cls ?k1 ?k2 ?k3 ?k4 ?k5 ?k6 ?_; (case k1 => k_asm); (case k2 => k_asm); (case k3 => k_asm); (case k4 => k_is); (case k5 => k_is); (case k6 => k_is); k_whole; intro x' d' h' F' N' l1 l2; (try k_lt l1); (try k_lt2 l2); (try k_sweep)); (refine' code_def ?k1 ?k2 ?k3 ?k4 ?k5 ?kA ?kF ?kK ?k6 ?k7 ?k8 ?k9 ?kB ?_ ?c2 ?c3 ?c4 ?c5; (case kA => exact rfl); (case kF => exact rfl); (case kK => first | exact rfl | assumption); (case k1 => k_asm); (case k2 => k_asm); (case k3 => k_asm); (case k4 => k_asm); (case k5 => k_asm); (case k6 => k_is); (case k7 => k_is); (case k8 => ktr_room); (case k9 => exact BindsTo.of_eq rfl); (case c5 => decide); (case kB => exact locs rfl); (case c2 => exact rfl); (case c3 => exact rfl); (case c4 => exact rfl); k_whole; intro g' L' h' FG' F' N' B' X' T'; (try dsimp only); (try k_lift B'); (try k_fold))))) | walk_at "wk"))))
  exact hret _ [] _ _ (by k_asm) (news_sub' (by k_asm) (by repeat' (first | exact sub_refl _ | refine sub_cons ?_))) (fun _ _ _ h => nomatch h) ⟨rfl, _, rfl⟩
 case hZ => delta id; exact pair_ _
-- MACROS
-- END
noncomputable def OutEx (tr : Tr) (r : Value) (tl : Led) : Prop := ∃ (D T T2 : Addr) (o o2 : Obj) (a : Tok), tl = [(D, tup [.ref T, .int 1 a]), (T, o), (T2, o2)] ∧ r = .ref D ∧ TreeAt tr T T2 o o2
set_option maxHeartbeats 8000000 in
theorem expression (w : World) (x : Str) (l D8 : Addr) (t b c : Tok) (n : Nat) (hx : x.length ≤ 60) (hpw : PowOk (sgs x)) (hlt : @LT.lt Nat _ l D8) : MeetsA (γ := Unit) w 313 20 200 [.ref l, .int 0 t] [(l, W.listOf #[.ref D8] n), (D8, tup [.str (Str.ofString "number") b, .str x c])] (some ()) (fun _ => OutEx (ntree (sgs x))) (Str.ofString "OV") := by
 refine (?fZ : PullF _) ?pZ ?qZ ?hZ
 case fZ => exact fun _ q _ => q
 case pZ =>
  unfold MeetsA
  k_fill
  intro p loose mean mg mb dp un gd cn cs a ccd cl outer A₀ base h₀ L m news s Q E hrw B F X N T hk hd hu hret hexc
  clear hrw
  dsimp only [List.cons_append, List.nil_append] at N hret hexc
  refine wpAny_call ?_
  k_dflt cell_enter
  (repeat' (first | ((fail_if_success (first | (with_reducible show wpAny _ _ (exec (Stmt.While _ _ _ _) _) _ _ _) | (with_reducible show wpAny _ _ (exec (Stmt.Raise _ _ _) _) _ _ _) | (with_reducible show WhStep _ _ _ _ _ _ _ _ _ _ _))); (first | (k_here; (with_reducible show wpAny _ _ (call (Value.ref _) _) _ _ _); (first | ((with_reducible show wpAny _ _ (call (Value.ref 80) _) _ _ _); k_dflt (refine' useM (functions _) ?k1 ?k2 ?k3 ?k4 ?k5 ?kK ?kd ?ku ?_; walk_at "u2"); (intro r9 tl9 h9 tk9 F9 N9 l9 o9; obtain ⟨e9, a9, e8⟩ := o9; subst e9; subst e8; dsimp only [List.cons_append, List.nil_append] at N9; clear l9; walk_at "u3")) | ((with_reducible show wpAny _ _ (call (Value.ref 299) _) _ _ _); k_dflt (refine' useU (take_operand _ _ _ _ _ _ _ _ _ _ _ _ _ _ _ _ _ _ _ _ _ _ _ _ ?q1 ?q2 ?p1 ?p2 ?p3 ?p4 ?p5) ?k1 ?k2 ?k3 ?k4 ?k5 ?kK ?kd ?ku ?kU ?kh ?_; walk_at "u2"; (case kh => exact (by repeat' (first | exact List.forall_mem_nil _ | refine List.forall_mem_cons.mpr ⟨by k_mem, ?_⟩))); (case kU => k_updF); (case q1 => walk_at "up"); (case q2 => walk_at "up"); (case p1 => (try dsimp only); omega); (case p2 => (try dsimp only); omega); (case p3 => (try dsimp only); omega); (case p4 => (try dsimp only); omega); (case p5 => (try dsimp only); omega)); (intro r9 ob9 tl9 h9 tk9 F9 N9 l9 o9; obtain ⟨D9, T9, T8, x9, x8, n9, a9, e9, e8, e7, tr9⟩ := o9; subst e9; subst e8; subst e7; dsimp only [List.cons_append, List.nil_append] at N9; (have l9a := fun q hq => l9 q hq (D9, _) (.head _)); (have l9' := fun q hq => l9 q hq (T9, _) (.tail _ (.head _))); (have l9b := fun q hq => l9 q hq (T8, _) (.tail _ (.tail _ (.head _)))); clear l9; (try k_lt l9a); (try k_lt l9'); (try k_lt l9b); walk_at "u3")) | ((with_reducible show wpAny _ _ (call (Value.ref 306) _) _ _ _); k_dflt (refine' useAm (take_operator _ _ _ _ _ _ _ _ _ _ _ _ _ _ _ _ _ _ _) ?k1 ?k2 ?k3 ?k4 ?k5 ?kK ?kd ?ku ?kh ?_; walk_at "u2"; (case kh => exact (by repeat' (first | exact List.forall_mem_nil _ | refine List.forall_mem_cons.mpr ⟨by k_mem, ?_⟩)))); (intro r9 tl9 h9 tk9 F9 N9 l9 o9; obtain ⟨D9, a9, b9, e9, e8⟩ := o9; subst e9; subst e8; dsimp only [List.cons_append, List.nil_append] at N9; (have l9' := fun q hq => l9 q hq (D9, _) (.head _)); clear l9; (try k_lt l9'); walk_at "u3")) | ((with_reducible show wpAny _ _ (call (Value.ref 278) _) _ _ _); k_dflt (refine' useU (finished _ _ _ _ _ _ _ _ _ _ _ _ _ _ _ ?p1 ?p2 ?p3) ?k1 ?k2 ?k3 ?k4 ?k5 ?kK ?kd ?ku ?kU ?kh ?_; walk_at "u2"; (case kh => exact (by repeat' (first | exact List.forall_mem_nil _ | refine List.forall_mem_cons.mpr ⟨by k_mem, ?_⟩))); (case kU => k_updF); (case p1 => (try dsimp only); omega); (case p2 => (try dsimp only); omega); (case p3 => (try dsimp only); omega)); (intro r9 ob9 tl9 h9 tk9 F9 N9 l9 o9; obtain ⟨e9, e8⟩ := o9; subst e9; subst e8; dsimp only [List.cons_append, List.nil_append] at N9; clear l9; walk_at "u3")) | ((with_reducible show wpAny _ _ (call (Value.ref 260) _) _ _ _); k_dflt (refine' useM (level_new _ _ _) ?k1 ?k2 ?k3 ?k4 ?k5 ?kK ?kd ?ku ?_; walk_at "u2"); (intro r9 tl9 h9 tk9 F9 N9 l9 o9; obtain ⟨I9, d9, a9, o9', p9, v1, v2, v3, v4, v5, v6, v7, e9, e8, lt1, lt2, lt3, lt4⟩ := o9; subst e9; subst e8; dsimp only [List.cons_append, List.nil_append] at N9; (have l91 := fun q hq => l9 q hq (d9, _) (.tail _ (.tail _ (.tail _ (.tail _ (.head _)))))); (have l92 := fun q hq => l9 q hq (o9', _) (.tail _ (.head _))); clear l9; (try k_lt l91); (try k_lt l92); k_lt2 lt1; k_lt2 lt2; k_lt2 lt3; k_lt2 lt4; walk_at "u3")) | ((with_reducible show wpAny _ _ (call (Value.ref 260) _) _ _ _); k_dflt (refine' call_cls ?k1 ?k2 ?k3 ?k4 ?k5 ?k6 ?_; (case k1 => k_asm); (case k2 => k_asm); (case k3 => k_asm); (case k4 => k_is); (case k5 => k_is); (case k6 => k_is); k_whole; intro x' d' h' F' N' l1 l2; (try k_lt l1); (try k_lt2 l2); (try k_sweep)); (refine' code_def ?k1 ?k2 ?k3 ?k4 ?k5 ?kA ?kF ?kK ?k6 ?k7 ?k8 ?k9 ?kB ?_ ?c2 ?c3 ?c4 ?c5; (case kA => exact rfl); (case kF => exact rfl); (case kK => first | exact rfl | assumption); (case k1 => k_asm); (case k2 => k_asm); (case k3 => k_asm); (case k4 => k_asm); (case k5 => k_asm); (case k6 => k_is); (case k7 => k_is); (case k8 => ktr_room); (case k9 => exact BindsTo.of_eq rfl); (case c5 => decide); (case kB => exact locs rfl); (case c2 => exact rfl); (case c3 => exact rfl); (case c4 => exact rfl); k_whole; intro g' L' h' FG' F' N' B' X' T'; (try dsimp only); (try k_lift B'); (try k_fold))))) | walk_at "wk"))))
  k_dflt (refine whl_start 4 ?_)
  (repeat' (first | ((fail_if_success (first | (with_reducible show wpAny _ _ (exec (Stmt.While _ _ _ _) _) _ _ _) | (with_reducible show wpAny _ _ (exec (Stmt.Raise _ _ _) _) _ _ _) | (with_reducible show WhStep _ _ _ _ _ _ _ _ _ _ _))); (first | (k_here; (with_reducible show wpAny _ _ (call (Value.ref _) _) _ _ _); (first | ((with_reducible show wpAny _ _ (call (Value.ref 80) _) _ _ _); k_dflt (refine' useM (functions _) ?k1 ?k2 ?k3 ?k4 ?k5 ?kK ?kd ?ku ?_; walk_at "u2"); (intro r9 tl9 h9 tk9 F9 N9 l9 o9; obtain ⟨e9, a9, e8⟩ := o9; subst e9; subst e8; dsimp only [List.cons_append, List.nil_append] at N9; clear l9; walk_at "u3")) | ((with_reducible show wpAny _ _ (call (Value.ref 299) _) _ _ _); k_dflt (refine' useU (take_operand _ _ _ _ _ _ _ _ _ _ _ _ _ _ _ _ _ _ _ _ _ _ _ _ ?q1 ?q2 ?p1 ?p2 ?p3 ?p4 ?p5) ?k1 ?k2 ?k3 ?k4 ?k5 ?kK ?kd ?ku ?kU ?kh ?_; walk_at "u2"; (case kh => exact (by repeat' (first | exact List.forall_mem_nil _ | refine List.forall_mem_cons.mpr ⟨by k_mem, ?_⟩))); (case kU => k_updF); (case q1 => walk_at "up"); (case q2 => walk_at "up"); (case p1 => (try dsimp only); omega); (case p2 => (try dsimp only); omega); (case p3 => (try dsimp only); omega); (case p4 => (try dsimp only); omega); (case p5 => (try dsimp only); omega)); (intro r9 ob9 tl9 h9 tk9 F9 N9 l9 o9; obtain ⟨D9, T9, T8, x9, x8, n9, a9, e9, e8, e7, tr9⟩ := o9; subst e9; subst e8; subst e7; dsimp only [List.cons_append, List.nil_append] at N9; (have l9a := fun q hq => l9 q hq (D9, _) (.head _)); (have l9' := fun q hq => l9 q hq (T9, _) (.tail _ (.head _))); (have l9b := fun q hq => l9 q hq (T8, _) (.tail _ (.tail _ (.head _)))); clear l9; (try k_lt l9a); (try k_lt l9'); (try k_lt l9b); walk_at "u3")) | ((with_reducible show wpAny _ _ (call (Value.ref 306) _) _ _ _); k_dflt (refine' useAm (take_operator _ _ _ _ _ _ _ _ _ _ _ _ _ _ _ _ _ _ _) ?k1 ?k2 ?k3 ?k4 ?k5 ?kK ?kd ?ku ?kh ?_; walk_at "u2"; (case kh => exact (by repeat' (first | exact List.forall_mem_nil _ | refine List.forall_mem_cons.mpr ⟨by k_mem, ?_⟩)))); (intro r9 tl9 h9 tk9 F9 N9 l9 o9; obtain ⟨D9, a9, b9, e9, e8⟩ := o9; subst e9; subst e8; dsimp only [List.cons_append, List.nil_append] at N9; (have l9' := fun q hq => l9 q hq (D9, _) (.head _)); clear l9; (try k_lt l9'); walk_at "u3")) | ((with_reducible show wpAny _ _ (call (Value.ref 278) _) _ _ _); k_dflt (refine' useU (finished _ _ _ _ _ _ _ _ _ _ _ _ _ _ _ ?p1 ?p2 ?p3) ?k1 ?k2 ?k3 ?k4 ?k5 ?kK ?kd ?ku ?kU ?kh ?_; walk_at "u2"; (case kh => exact (by repeat' (first | exact List.forall_mem_nil _ | refine List.forall_mem_cons.mpr ⟨by k_mem, ?_⟩))); (case kU => k_updF); (case p1 => (try dsimp only); omega); (case p2 => (try dsimp only); omega); (case p3 => (try dsimp only); omega)); (intro r9 ob9 tl9 h9 tk9 F9 N9 l9 o9; obtain ⟨e9, e8⟩ := o9; subst e9; subst e8; dsimp only [List.cons_append, List.nil_append] at N9; clear l9; walk_at "u3")) | ((with_reducible show wpAny _ _ (call (Value.ref 260) _) _ _ _); k_dflt (refine' useM (level_new _ _ _) ?k1 ?k2 ?k3 ?k4 ?k5 ?kK ?kd ?ku ?_; walk_at "u2"); (intro r9 tl9 h9 tk9 F9 N9 l9 o9; obtain ⟨I9, d9, a9, o9', p9, v1, v2, v3, v4, v5, v6, v7, e9, e8, lt1, lt2, lt3, lt4⟩ := o9; subst e9; subst e8; dsimp only [List.cons_append, List.nil_append] at N9; (have l91 := fun q hq => l9 q hq (d9, _) (.tail _ (.tail _ (.tail _ (.tail _ (.head _)))))); (have l92 := fun q hq => l9 q hq (o9', _) (.tail _ (.head _))); clear l9; (try k_lt l91); (try k_lt l92); k_lt2 lt1; k_lt2 lt2; k_lt2 lt3; k_lt2 lt4; walk_at "u3")) | ((with_reducible show wpAny _ _ (call (Value.ref 260) _) _ _ _); k_dflt (refine' call_cls ?k1 ?k2 ?k3 ?k4 ?k5 ?k6 ?_; (case k1 => k_asm); (case k2 => k_asm); (case k3 => k_asm); (case k4 => k_is); (case k5 => k_is); (case k6 => k_is); k_whole; intro x' d' h' F' N' l1 l2; (try k_lt l1); (try k_lt2 l2); (try k_sweep)); (refine' code_def ?k1 ?k2 ?k3 ?k4 ?k5 ?kA ?kF ?kK ?k6 ?k7 ?k8 ?k9 ?kB ?_ ?c2 ?c3 ?c4 ?c5; (case kA => exact rfl); (case kF => exact rfl); (case kK => first | exact rfl | assumption); (case k1 => k_asm); (case k2 => k_asm); (case k3 => k_asm); (case k4 => k_asm); (case k5 => k_asm); (case k6 => k_is); (case k7 => k_is); (case k8 => ktr_room); (case k9 => exact BindsTo.of_eq rfl); (case c5 => decide); (case kB => exact locs rfl); (case c2 => exact rfl); (case c3 => exact rfl); (case c4 => exact rfl); k_whole; intro g' L' h' FG' F' N' B' X' T'; (try dsimp only); (try k_lift B'); (try k_fold))))) | walk_at "wk"))))
  rename TreeAt _ _ _ _ _ => tr
  refine' Ret.many (tl := [(_, _), (_, _), (_, _)]) (hret _ rfl) (by k_asm) (by k_asm) (by repeat' (first | exact sub_refl _ | refine sub_cons ?_)) ?htl ?l ⟨_, _, _, _, _, _, rfl, rfl, tr⟩
  case htl => exact (by repeat' (first | exact List.forall_mem_nil _ | refine List.forall_mem_cons.mpr ⟨by k_mem, ?_⟩))
  case l => exact lt_more (by first | assumption | exact ktn_ltOf (by assumption) | exact ktn_ltOf (And.right (by assumption)) | exact ktn_ltOf (And.right (And.right (by assumption))) | exact ktn_ltOf (And.right (And.right (And.right (by assumption)))) | exact ktn_ltOf (And.right (And.right (And.right (And.right (by assumption))))) | exact ktn_ltOf (And.right (And.right (And.right (And.right (And.right (by assumption)))))) | exact ktn_ltOf (And.right (And.right (And.right (And.right (And.right (And.right (by assumption))))))) | exact ktn_ltOf (And.right (And.right (And.right (And.right (And.right (And.right (And.right (by assumption)))))))) | exact ktn_ltOf (And.right (And.right (And.right (And.right (And.right (And.right (And.right (And.right (by assumption))))))))) | exact ktn_ltOf (And.right (And.right (And.right (And.right (And.right (And.right (And.right (And.right (And.right (by assumption)))))))))) | exact ktn_ltOf (And.right (And.right (And.right (And.right (And.right (And.right (And.right (And.right (And.right (And.right (by assumption))))))))))) | exact ktn_ltOf (And.right (And.right (And.right (And.right (And.right (And.right (And.right (And.right (And.right (And.right (And.right (by assumption))))))))))))) (lt_more (by first | assumption | exact ktn_ltOf (by assumption) | exact ktn_ltOf (And.right (by assumption)) | exact ktn_ltOf (And.right (And.right (by assumption))) | exact ktn_ltOf (And.right (And.right (And.right (by assumption)))) | exact ktn_ltOf (And.right (And.right (And.right (And.right (by assumption))))) | exact ktn_ltOf (And.right (And.right (And.right (And.right (And.right (by assumption)))))) | exact ktn_ltOf (And.right (And.right (And.right (And.right (And.right (And.right (by assumption))))))) | exact ktn_ltOf (And.right (And.right (And.right (And.right (And.right (And.right (And.right (by assumption)))))))) | exact ktn_ltOf (And.right (And.right (And.right (And.right (And.right (And.right (And.right (And.right (by assumption))))))))) | exact ktn_ltOf (And.right (And.right (And.right (And.right (And.right (And.right (And.right (And.right (And.right (by assumption)))))))))) | exact ktn_ltOf (And.right (And.right (And.right (And.right (And.right (And.right (And.right (And.right (And.right (And.right (by assumption))))))))))) | exact ktn_ltOf (And.right (And.right (And.right (And.right (And.right (And.right (And.right (And.right (And.right (And.right (And.right (by assumption))))))))))))) (lt_one (by first | assumption | exact ktn_ltOf (by assumption) | exact ktn_ltOf (And.right (by assumption)) | exact ktn_ltOf (And.right (And.right (by assumption))) | exact ktn_ltOf (And.right (And.right (And.right (by assumption)))) | exact ktn_ltOf (And.right (And.right (And.right (And.right (by assumption))))) | exact ktn_ltOf (And.right (And.right (And.right (And.right (And.right (by assumption)))))) | exact ktn_ltOf (And.right (And.right (And.right (And.right (And.right (And.right (by assumption))))))) | exact ktn_ltOf (And.right (And.right (And.right (And.right (And.right (And.right (And.right (by assumption)))))))) | exact ktn_ltOf (And.right (And.right (And.right (And.right (And.right (And.right (And.right (And.right (by assumption))))))))) | exact ktn_ltOf (And.right (And.right (And.right (And.right (And.right (And.right (And.right (And.right (And.right (by assumption)))))))))) | exact ktn_ltOf (And.right (And.right (And.right (And.right (And.right (And.right (And.right (And.right (And.right (And.right (by assumption))))))))))) | exact ktn_ltOf (And.right (And.right (And.right (And.right (And.right (And.right (And.right (And.right (And.right (And.right (And.right (by assumption)))))))))))))))
 case hZ => delta id; exact pair_ _
-- MACROS
-- END

set_option maxHeartbeats 8000000 in
theorem is_back_whole (w : World) (x : Str) (D : Addr) (n : Nat) {t b b' : Tok} (hnt : NumText (sgs x)) (htr : ntree (sgs x) = .whole n) : MeetsA (γ := Unit) w 417 24 300 [.str x t, .ref D] [(D, tup [.str (Str.ofString "whole") b, .int (n : Int) b'])] (some ()) (fun _ => OutB true) (Str.ofString "OV") := by
 refine (?fZ : PullF _) ?pZ ?qZ ?hZ
 case fZ => exact fun _ q _ => q
 case pZ =>
  unfold MeetsA
  k_fill
  intro p loose mean mg mb dp un gd cn cs a ccd cl outer A₀ base h₀ L m news s Q E hrw B F X N T hk hd hu hret hexc
  clear hrw
  dsimp only [List.cons_append, List.nil_append] at N hret hexc
  refine wpAny_call ?_
  k_dflt cell_enter
  have hln := sgs_len x
  have hx : x.length ≤ 60 := by rw [← hln]; exact hnt.len
  have hpo := hnt.powok
  (repeat' (first | ((fail_if_success (first | (with_reducible show wpAny _ _ (exec (Stmt.While _ _ _ _) _) _ _ _) | (with_reducible show wpAny _ _ (exec (Stmt.Raise _ _ _) _) _ _ _) | (with_reducible show WhStep _ _ _ _ _ _ _ _ _ _ _))); (first | (k_here; (with_reducible show wpAny _ _ (call (Value.ref _) _) _ _ _); (first | ((with_reducible show wpAny _ _ (call (Value.ref 313) _) _ _ _); k_dflt (refine' useAm (expression _ _ _ _ _ _ _ _ ?q1 ?q2 ?p1) ?k1 ?k2 ?k3 ?k4 ?k5 ?kK ?kd ?ku ?kh ?_; walk_at "u2"; (case kh => exact (by repeat' (first | exact List.forall_mem_nil _ | refine List.forall_mem_cons.mpr ⟨by k_mem, ?_⟩))); (case q1 => walk_at "up"); (case q2 => walk_at "up"); (case p1 => walk_at "up")); (intro r9 tl9 h9 tk9 F9 N9 l9 o9; obtain ⟨D9, T9, T8, x9, x8, a9, e9, e8, tr9⟩ := o9; subst e9; subst e8; dsimp only [List.cons_append, List.nil_append] at N9; (have l9a := fun q hq => l9 q hq (D9, _) (.head _)); (have l9' := fun q hq => l9 q hq (T9, _) (.tail _ (.head _))); (have l9b := fun q hq => l9 q hq (T8, _) (.tail _ (.tail _ (.head _)))); clear l9; (try k_lt l9a); (try k_lt l9'); (try k_lt l9b); (rename ntree _ = _ => ht9); rw [ht9] at tr9; (first | (obtain ⟨c9, c8, e7, e6, e5⟩ := tr9; subst e7; subst e6; subst e5) | (obtain ⟨c9, c8, c7, e7, e6, lt9⟩ := tr9; subst e7; subst e6; k_lt2 lt9)); walk_at "u3")) | ((with_reducible show wpAny _ _ (call (Value.ref 190) _) _ _ _); k_dflt (refine' useM (tokens_of _ _ _ ?p1) ?k1 ?k2 ?k3 ?k4 ?k5 ?kK ?kd ?ku ?_; (case p1 => walk_at "up"); walk_at "u2"); (intro r9 tl9 h9 tk9 F9 N9 l9 o9; obtain ⟨m9, D8, b9, c9, n9, e9, e8, lt9⟩ := o9; subst e9; subst e8; dsimp only [List.cons_append, List.nil_append] at N9; (have l9' := fun q hq => l9 q hq (D8, _) (.tail _ (.head _))); (have l9b := fun q hq => l9 q hq (m9, _) (.head _)); clear l9; (try k_lt l9'); (try k_lt l9b); walk_at "u3")))) | walk_at "wk"))))
  exact Ret.bool (hret _ rfl) (by k_asm) (by k_asm) (by repeat' (first | exact sub_refl _ | refine sub_cons ?_)) rfl
 case hZ => delta id; exact pair_ _
set_option maxHeartbeats 8000000 in
theorem is_back_dec (w : World) (x : Str) (D D2 : Addr) (c : Nat) (e : Int) {t b a a' : Tok} (hnt : NumText (sgs x)) (htr : ntree (sgs x) = .dec c e) : MeetsA (γ := Unit) w 417 24 300 [.str x t, .ref D] [(D, tup [.str (Str.ofString "decimal") b, .ref D2]), (D2, tup [.int (c : Int) a, .int e a'])] (some ()) (fun _ => OutB true) (Str.ofString "OV") := by
 refine (?fZ : PullF _) ?pZ ?qZ ?hZ
 case fZ => exact fun _ q _ => q
 case pZ =>
  unfold MeetsA
  k_fill
  intro p loose mean mg mb dp un gd cn cs a ccd cl outer A₀ base h₀ L m news s Q E hrw B F X N T hk hd hu hret hexc
  clear hrw
  dsimp only [List.cons_append, List.nil_append] at N hret hexc
  refine wpAny_call ?_
  k_dflt cell_enter
  have hln := sgs_len x
  have hx : x.length ≤ 60 := by rw [← hln]; exact hnt.len
  have hpo := hnt.powok
  (repeat' (first | ((fail_if_success (first | (with_reducible show wpAny _ _ (exec (Stmt.While _ _ _ _) _) _ _ _) | (with_reducible show wpAny _ _ (exec (Stmt.Raise _ _ _) _) _ _ _) | (with_reducible show WhStep _ _ _ _ _ _ _ _ _ _ _))); (first | (k_here; (with_reducible show wpAny _ _ (call (Value.ref _) _) _ _ _); (first | ((with_reducible show wpAny _ _ (call (Value.ref 313) _) _ _ _); k_dflt (refine' useAm (expression _ _ _ _ _ _ _ _ ?q1 ?q2 ?p1) ?k1 ?k2 ?k3 ?k4 ?k5 ?kK ?kd ?ku ?kh ?_; walk_at "u2"; (case kh => exact (by repeat' (first | exact List.forall_mem_nil _ | refine List.forall_mem_cons.mpr ⟨by k_mem, ?_⟩))); (case q1 => walk_at "up"); (case q2 => walk_at "up"); (case p1 => walk_at "up")); (intro r9 tl9 h9 tk9 F9 N9 l9 o9; obtain ⟨D9, T9, T8, x9, x8, a9, e9, e8, tr9⟩ := o9; subst e9; subst e8; dsimp only [List.cons_append, List.nil_append] at N9; (have l9a := fun q hq => l9 q hq (D9, _) (.head _)); (have l9' := fun q hq => l9 q hq (T9, _) (.tail _ (.head _))); (have l9b := fun q hq => l9 q hq (T8, _) (.tail _ (.tail _ (.head _)))); clear l9; (try k_lt l9a); (try k_lt l9'); (try k_lt l9b); (rename ntree _ = _ => ht9); rw [ht9] at tr9; (first | (obtain ⟨c9, c8, e7, e6, e5⟩ := tr9; subst e7; subst e6; subst e5) | (obtain ⟨c9, c8, c7, e7, e6, lt9⟩ := tr9; subst e7; subst e6; k_lt2 lt9)); walk_at "u3")) | ((with_reducible show wpAny _ _ (call (Value.ref 190) _) _ _ _); k_dflt (refine' useM (tokens_of _ _ _ ?p1) ?k1 ?k2 ?k3 ?k4 ?k5 ?kK ?kd ?ku ?_; (case p1 => walk_at "up"); walk_at "u2"); (intro r9 tl9 h9 tk9 F9 N9 l9 o9; obtain ⟨m9, D8, b9, c9, n9, e9, e8, lt9⟩ := o9; subst e9; subst e8; dsimp only [List.cons_append, List.nil_append] at N9; (have l9' := fun q hq => l9 q hq (D8, _) (.tail _ (.head _))); (have l9b := fun q hq => l9 q hq (m9, _) (.head _)); clear l9; (try k_lt l9'); (try k_lt l9b); walk_at "u3")))) | walk_at "wk"))))
  exact Ret.bool (hret _ rfl) (by k_asm) (by k_asm) (by repeat' (first | exact sub_refl _ | refine sub_cons ?_)) rfl
 case hZ => delta id; exact pair_ _
section
variable {w : World} {f : Addr} {d u : Nat} {vs : List Value} {args : Led} {b : Bool} {x : Str} {p : Program} {loose : List Str} {mean : ExcName → Option Value} {mg mb : Str → Option Value} {dp un : Nat} {gd : Option (List Code)} {cn : Str} {cs : Scope} {a : Addr} {ccd : Value} {cl : List (Str × Addr)} {outer : List Env} {A₀ : Around} {base h₀ : Heap} {L : Addr} {m : Str → Option Value} {news : Led} {s : Shared} {Q E : Value → Shared → Prop}
theorem useAB (C : MeetsA (γ := Unit) w f d u vs args (some ()) (fun _ => OutB b) x) (B : Below A₀ base outer h₀) (F : Fr h₀ L s.heap m) (X : (Mine.K w.params).In h₀) (N : News h₀ L s.heap news) (T : Top p loose mean mg mb h₀) (hk : cs.kind = .function) (hd : dp + d < recursionLimit) (hu : un + u < cLine) (ha : ∀ q ∈ args, q ∈ news)
    (k : ∀ h' tk', Fr h₀ L h' m → News h₀ L h' news → Q (.bool b) { s with heap := h', toks := tk' }) : wpAny (model prg w) (ktrTop dp un gd cn cs L a ccd cl outer) (call (.ref f) vs) Q E s :=
  useA C B F X N T hk hd hu ha (fun h => nomatch h) fun g v tl h' tk' hr F' N' l ho => by
    obtain ⟨rfl, rfl⟩ := ho
    exact k h' tk' F' N'
end
-- MACROS
-- END

theorem nd_ten {c : Nat} (h : c ≠ 0) : nd (10 * c) = nd c + 1 := by
  rw [nd_eq, dif_neg (by omega)]
  congr 2
  omega
theorem rounded_ten (c p : Nat) : rounded (10 * c) (p + 1) = rounded c p := by
  have e1 : (10 * c) % 10 ^ (p + 1) = 10 * (c % 10 ^ p) := by
    rw [Nat.pow_succ, Nat.mul_comm (10 ^ p) 10, Nat.mul_mod_mul_left]
  have e2 : (10 * c) / 10 ^ (p + 1) = c / 10 ^ p := by
    rw [Nat.pow_succ, Nat.mul_comm (10 ^ p) 10, Nat.mul_div_mul_left _ _ (by decide)]
  have e3 : (10 : Nat) ^ (p + 1) = 10 * 10 ^ p := by rw [Nat.pow_succ, Nat.mul_comm]
  unfold rounded
  rw [e1, e2, e3]
  have c1 : (2 * (10 * (c % 10 ^ p)) > 10 * 10 ^ p ∨ (2 * (10 * (c % 10 ^ p)) = 10 * 10 ^ p ∧ c / 10 ^ p % 2 = 1)) ↔ (2 * (c % 10 ^ p) > 10 ^ p ∨ (2 * (c % 10 ^ p) = 10 ^ p ∧ c / 10 ^ p % 2 = 1)) := by
    constructor
    · rintro (h | ⟨h, h'⟩)
      · exact .inl (by omega)
      · exact .inr ⟨by omega, h'⟩
    · rintro (h | ⟨h, h'⟩)
      · exact .inl (by omega)
      · exact .inr ⟨by omega, h'⟩
  by_cases h : (2 * (c % 10 ^ p) > 10 ^ p ∨ (2 * (c % 10 ^ p) = 10 ^ p ∧ c / 10 ^ p % 2 = 1))
  · rw [if_pos h, if_pos (c1.mpr h)]
  · rw [if_neg h, if_neg (fun z => h (c1.mp z))]
theorem rounded_one (c : Nat) : rounded (10 * c) 1 = c := by
  unfold rounded
  have e1 : (10 * c) % 10 ^ 1 = 0 := by omega
  have e2 : (10 * c) / 10 ^ 1 = c := by omega
  rw [e1, e2, if_neg (by omega)]
theorem cut99_ten {c : Nat} (h : c ≠ 0) (e : Int) : cut99 (10 * c) e = cut99 c (e + 1) := by
  have s : strip10 (10 * c) e = strip10 c (e + 1) := by
    rw [strip10_go (by omega) (by omega)]
    congr 1
    omega
  unfold cut99
  rw [s, if_neg (by omega), if_neg h]
theorem mk_ten {c : Nat} (h : c ≠ 0) (e : Int) (dg : Nat) : mk (10 * c) e dg = mk c (e + 1) dg := by
  unfold mk rnd
  rw [nd_ten h]
  by_cases h1 : nd c > dg
  · rw [if_pos (by omega), if_pos h1]
    have : nd c + 1 - dg = (nd c - dg) + 1 := by omega
    rw [this, rounded_ten]
    dsimp only
    congr 1
    omega
  · rw [if_neg h1]
    by_cases h2 : nd c = dg
    · rw [if_pos (by omega), show nd c + 1 - dg = 1 by omega, rounded_one]
      dsimp only
      congr 1
    · rw [if_neg (by omega)]
      exact cut99_ten h e
theorem strip10_zero (e : Int) : strip10 0 e = (0, e) := by
  rw [strip10_eq]
  rw [dif_neg (by omega)]
theorem mk_strip (dg : Nat) : ∀ (c : Nat) (e : Int), mk (strip10 c e).1 (strip10 c e).2 dg = mk c e dg := by
  intro c
  induction c using Nat.strongRecOn with
  | ind c ih =>
    intro e
    by_cases h : c ≠ 0 ∧ c % 10 = 0
    · rw [strip10_go h.1 h.2, ih (c / 10) (by omega) (e + 1), ← mk_ten (by omega)]
      congr 1
      omega
    · have : strip10 c e = (c, e) := by
        rw [strip10_eq]
        rw [dif_neg h]
      rw [this]
theorem strip_nd : ∀ (c : Nat) (e : Int), (strip10 c e).2 + (nd (strip10 c e).1 : Nat) = e + (nd c : Nat) := by
  intro c
  induction c using Nat.strongRecOn with
  | ind c ih =>
    intro e
    by_cases h : c ≠ 0 ∧ c % 10 = 0
    · have hc : c = 10 * (c / 10) := by omega
      rw [strip10_go h.1 h.2, ih (c / 10) (by omega) (e + 1)]
      have : nd c = nd (c / 10) + 1 := by
        conv => lhs; rw [hc]
        exact nd_ten (by omega)
      omega
    · have : strip10 c e = (c, e) := by
        rw [strip10_eq]
        rw [dif_neg h]
      rw [this]
/-- the rounded number's figures: as before, or one more -/
theorem rounded_nd {n dg : Nat} (hn : n ≠ 0) (hd : 1 ≤ dg) (h : nd n > dg) : nd (rounded n (nd n - dg)) = dg ∨ nd (rounded n (nd n - dg)) = dg + 1 := by
  have hlt := nd_lt n
  have hge := nd_ge (n := n) (by omega)
  have lo : 10 ^ (dg - 1) ≤ n / 10 ^ (nd n - dg) := by
    rw [Nat.le_div_iff_mul_le (Nat.pow_pos (by decide)), ← Nat.pow_add, show dg - 1 + (nd n - dg) = nd n - 1 by omega]
    exact hge
  have hi : n / 10 ^ (nd n - dg) < 10 ^ dg := by
    rw [Nat.div_lt_iff_lt_mul (Nat.pow_pos (by decide)), ← Nat.pow_add, show dg + (nd n - dg) = nd n by omega]
    exact hlt
  have r1 : n / 10 ^ (nd n - dg) ≤ rounded n (nd n - dg) := by unfold rounded; split <;> omega
  have r2 : rounded n (nd n - dg) ≤ n / 10 ^ (nd n - dg) + 1 := by unfold rounded; split <;> omega
  by_cases hq : rounded n (nd n - dg) < 10 ^ dg
  · exact .inl (nd_unique hd hq (.inr (by omega)))
  · refine .inr (nd_unique (by omega) ?_ (.inr (by rw [Nat.add_sub_cancel]; omega)))
    rw [Nat.pow_succ]
    have : 0 < 10 ^ dg := Nat.pow_pos (by decide)
    omega
theorem rounded_pos {n dg : Nat} (hn : n ≠ 0) (hd : 1 ≤ dg) (h : nd n > dg) : rounded n (nd n - dg) ≠ 0 := by
  have hge := nd_ge (n := n) (by omega)
  have lo : 10 ^ (dg - 1) ≤ n / 10 ^ (nd n - dg) := by
    rw [Nat.le_div_iff_mul_le (Nat.pow_pos (by decide)), ← Nat.pow_add, show dg - 1 + (nd n - dg) = nd n - 1 by omega]
    exact hge
  have r1 : n / 10 ^ (nd n - dg) ≤ rounded n (nd n - dg) := by unfold rounded; split <;> omega
  have : 0 < 10 ^ (dg - 1) := Nat.pow_pos (by decide)
  omega
theorem rnd_pos {n dg : Nat} {e : Int} (hn : n ≠ 0) (hd : 1 ≤ dg) : (rnd n e dg).1 ≠ 0 := by
  unfold rnd
  split
  · exact rounded_pos hn hd (by assumption)
  · exact hn
theorem rnd_top {n dg : Nat} {e : Int} (hn : n ≠ 0) (hd : 1 ≤ dg) : e + (nd n : Nat) ≤ (rnd n e dg).2 + (nd (rnd n e dg).1 : Nat) ∧ (rnd n e dg).2 + (nd (rnd n e dg).1 : Nat) ≤ e + (nd n : Nat) + 1 := by
  unfold rnd
  split
  · rename_i h
    have := rounded_nd hn hd h
    dsimp only
    omega
  · dsimp only
    omega
theorem cut99_big {c : Nat} {e : Int} (hc : c ≠ 0) (h : 99 < e + (nd c : Nat) - 1) : cut99 c e = none := by
  have := strip_nd c e
  unfold cut99
  rw [if_neg hc, if_pos (by omega)]
theorem cut99_small {c : Nat} {e : Int} (h : e + (nd c : Nat) - 1 < -99) : cut99 c e = some (0, 0) := by
  have := strip_nd c e
  unfold cut99
  by_cases hc : c = 0
  · rw [if_pos hc]
  · rw [if_neg hc, if_neg (by omega), if_pos (by omega)]
theorem mk_big {c dg : Nat} {e : Int} (hc : c ≠ 0) (hd : 1 ≤ dg) (h : 99 < e + (nd c : Nat) - 1) : mk c e dg = none := by
  have := rnd_top (e := e) hc hd
  exact cut99_big (rnd_pos hc hd) (by omega)
theorem mk_small {c dg : Nat} {e : Int} (hc : c ≠ 0) (hd : 1 ≤ dg) (h : e + (nd c : Nat) - 1 < -100) : mk c e dg = some (0, 0) := by
  have := rnd_top (e := e) hc hd
  exact cut99_small (by omega)
theorem nd_zero : nd 0 = 1 := by rw [nd_eq, dif_pos (by decide)]
theorem nd_one : nd 1 = 1 := by rw [nd_eq, dif_pos (by decide)]
theorem mk_zero {dg : Nat} {e : Int} (hd : 1 ≤ dg) : mk 0 e dg = some (0, 0) := by
  unfold mk rnd
  rw [nd_zero, if_neg (by omega)]
  exact if_pos rfl
theorem mk_exactly {c dg : Nat} {e : Int} (hd : 1 ≤ dg) : mk (exactly c e).1 (exactly c e).2 dg = mk c e dg := by
  have hs := strip_nd c e
  unfold exactly
  by_cases hc : c = 0
  · rw [if_pos hc, hc, mk_zero hd]
    exact (mk_zero hd).symm
  · rw [if_neg hc]
    by_cases h1 : 99 < (strip10 c e).2 + (nd (strip10 c e).1 : Nat) - 1
    · rw [if_pos h1, mk_big hc hd (by omega)]
      exact mk_big (by decide) hd (by rw [nd_one]; decide)
    · rw [if_neg h1]
      by_cases h2 : -100 ≤ (strip10 c e).2 + (nd (strip10 c e).1 : Nat) - 1
      · rw [if_pos h2]
        exact mk_strip dg c e
      · rw [if_neg h2, mk_small hc hd (by omega)]
        exact mk_zero hd
theorem told_mk {c dg : Nat} {e : Int} (hd : 1 ≤ dg) : told c e dg = mk c e dg := by
  unfold told
  by_cases hc : c = 0
  · rw [if_pos (.inl hc), hc, mk_zero hd]
  · by_cases h1 : e + (nd c : Nat) - 1 < -198
    · rw [if_pos (.inr h1), mk_small hc hd (by omega)]
    · rw [if_neg (by intro z; rcases z with z | z; (exact hc z); (exact h1 z))]
      by_cases h2 : 198 < e + (nd c : Nat) - 1
      · rw [if_pos h2, mk_big hc hd (by omega)]
      · rw [if_neg h2]
theorem strip_mod : ∀ (c : Nat) (e : Int), c ≠ 0 → (strip10 c e).1 % 10 ≠ 0 := by
  intro c
  induction c using Nat.strongRecOn with
  | ind c ih =>
    intro e hc
    by_cases h : c % 10 = 0
    · rw [strip10_go hc h]
      exact ih (c / 10) (by omega) (e + 1) (by omega)
    · rw [strip10_stop h]
      exact h
theorem exactly_idem (c : Nat) (e : Int) : exactly (exactly c e).1 (exactly c e).2 = exactly c e := by
  have key : ∀ r : Nat × Int, r = exactly c e → exactly r.1 r.2 = r := by
    intro r hr
    unfold exactly at hr
    by_cases hc : c = 0
    · rw [if_pos hc] at hr
      subst hr
      rfl
    · rw [if_neg hc] at hr
      by_cases h1 : 99 < (strip10 c e).2 + (nd (strip10 c e).1 : Nat) - 1
      · rw [if_pos h1] at hr
        subst hr
        unfold exactly
        rw [if_neg (by decide), strip10_stop (by decide), nd_one, if_pos (by decide)]
      · rw [if_neg h1] at hr
        by_cases h2 : -100 ≤ (strip10 c e).2 + (nd (strip10 c e).1 : Nat) - 1
        · rw [if_pos h2] at hr
          subst hr
          unfold exactly
          rw [if_neg (strip10_pos hc e), strip10_stop (strip_mod c e hc), if_neg h1, if_pos h2]
        · rw [if_neg h2] at hr
          subst hr
          rfl
  exact key _ rfl
theorem exactly_le (c : Nat) (e : Int) (hc : c ≠ 0) : (exactly c e).1 ≤ c := by
  unfold exactly
  rw [if_neg hc]
  split
  · exact Nat.pos_of_ne_zero hc
  · split
    · exact strip10_le c e
    · exact Nat.zero_le _
theorem exactly_pow {c k : Nat} {e : Int} (h : c < 10 ^ k) (hk : 1 ≤ k) : -(100 + (k : Int)) ≤ (exactly c e).2 ∧ (exactly c e).2 ≤ 100 := by
  have hs := strip10_le c e
  have hn : nd (strip10 c e).1 ≤ k := nd_le hk (by omega)
  have h1 := nd_pos (strip10 c e).1
  unfold exactly
  split
  · exact ⟨by show -(100 + (k : Int)) ≤ 0; omega, by decide⟩
  · split
    · exact ⟨by show -(100 + (k : Int)) ≤ 100; omega, by decide⟩
    · split
      · constructor <;> omega
      · exact ⟨by show -(100 + (k : Int)) ≤ 0; omega, by decide⟩

theorem rec_snoc {α : Type} {motive : List α → Prop} (l : List α) (nil : motive []) (snoc : ∀ l c, motive l → motive (l ++ [c])) : motive l := by
  have h : ∀ r : List α, motive r.reverse := by
    intro r
    induction r with
    | nil => exact nil
    | cons c r ih => rw [List.reverse_cons]; exact snoc _ _ ih
  have := h l.reverse
  rwa [List.reverse_reverse] at this
theorem val_append (a b : List Nat) : val (a ++ b) = val a * 10 ^ b.length + val b := by
  induction b using rec_snoc with
  | nil => simp [val]
  | snoc b c ih =>
    rw [← List.append_assoc, val_snoc, ih, val_snoc, List.length_append, List.length_singleton, Nat.pow_succ, Nat.add_mul, Nat.mul_assoc]
    omega
theorem val_one (c : Nat) : val [c] = c - 48 := by simp [val]
theorem val_cons (c : Nat) (l : List Nat) : val (c :: l) = (c - 48) * 10 ^ l.length + val l := by
  have := val_append [c] l
  rwa [val_one] at this
noncomputable def Dig (l : List Nat) : Prop := ∀ c ∈ l, isD c = true
theorem Dig.tail {c : Nat} {l : List Nat} (h : Dig (c :: l)) : Dig l := fun z hz => h z (.tail _ hz)
theorem Dig.head {c : Nat} {l : List Nat} (h : Dig (c :: l)) : 48 ≤ c ∧ c ≤ 57 := (isD_iff c).mp (h c (.head _))
theorem Dig.take {l : List Nat} (h : Dig l) (k : Nat) : Dig (l.take k) := fun z hz => h z (List.mem_of_mem_take hz)
theorem Dig.drop {l : List Nat} (h : Dig l) (k : Nat) : Dig (l.drop k) := fun z hz => h z (List.mem_of_mem_drop hz)
theorem Dig.append {a b : List Nat} (h : Dig a) (h' : Dig b) : Dig (a ++ b) := fun z hz => (List.mem_append.mp hz).elim (h z) (h' z)
/-- the noughts ahead, taken off -/
noncomputable def ls (l : List Nat) : List Nat := l.dropWhile (· == 48)
theorem ls_dig {l : List Nat} (h : Dig l) : Dig (ls l) := fun z hz => h z ((List.dropWhile_sublist _).subset hz)
theorem ls_val : ∀ l : List Nat, val (ls l) = val l
  | [] => rfl
  | c :: r => by
    unfold ls
    by_cases h : c = 48
    · subst h
      rw [List.dropWhile_cons_of_pos (by decide), val_cons]
      have := ls_val r
      unfold ls at this
      rw [this]
      omega
    · rw [List.dropWhile_cons_of_neg (by simpa using h)]
theorem ls_head : ∀ {l : List Nat} {c : Nat} {r : List Nat}, ls l = c :: r → c ≠ 48
  | [], _, _, h => by simp [ls] at h
  | d :: t, c, r, h => by
    unfold ls at h
    by_cases hd : d = 48
    · subst hd
      rw [List.dropWhile_cons_of_pos (by decide)] at h
      exact ls_head (l := t) h
    · rw [List.dropWhile_cons_of_neg (by simpa using hd)] at h
      cases h
      exact hd
theorem nd_figs {l : List Nat} (h : Dig l) {c : Nat} {r : List Nat} (e : l = c :: r) (hc : c ≠ 48) : nd (val l) = l.length ∧ val l ≠ 0 := by
  subst e
  have h1 := h.head
  have h2 := val_lt (l := c :: r) h
  have h3 : 10 ^ r.length ≤ val (c :: r) := by
    rw [val_cons]
    have : 1 * 10 ^ r.length ≤ (c - 48) * 10 ^ r.length := Nat.mul_le_mul_right _ (by omega)
    omega
  have h4 : 0 < 10 ^ r.length := Nat.pow_pos (by decide)
  refine ⟨nd_unique (by simp) h2 (.inr (by simpa using h3)), by omega⟩
/-- the noughts behind, taken off -/
noncomputable def rs : List Nat → List Nat
  | [] => []
  | c :: l => if rs l = [] ∧ c = 48 then [] else c :: rs l
theorem rs_snoc0 (l : List Nat) : rs (l ++ [48]) = rs l := by
  induction l with
  | nil => rfl
  | cons c l ih => show (if rs (l ++ [48]) = [] ∧ c = 48 then [] else c :: rs (l ++ [48])) = _; rw [ih]; rfl
theorem rs_snoc {c : Nat} (h : c ≠ 48) (l : List Nat) : rs (l ++ [c]) = l ++ [c] := by
  induction l with
  | nil => show (if rs [] = [] ∧ c = 48 then [] else c :: rs []) = _; rw [if_neg (fun z => h z.2)]; rfl
  | cons d l ih =>
    show (if rs (l ++ [c]) = [] ∧ d = 48 then [] else d :: rs (l ++ [c])) = _
    rw [ih, if_neg (by intro z; simp at z)]
    rfl
theorem rs_rev (l : List Nat) : (l.reverse.dropWhile (· == 48)).reverse = rs l := by
  induction l using rec_snoc with
  | nil => rfl
  | snoc l c ih =>
    rw [List.reverse_append, List.reverse_singleton, List.singleton_append]
    by_cases h : c = 48
    · subst h
      rw [List.dropWhile_cons_of_pos (by decide), ih, rs_snoc0]
    · rw [List.dropWhile_cons_of_neg (by simpa using h), rs_snoc h]
      simp
theorem rs_nil {l : List Nat} (h : Dig l) : rs l = [] ↔ val l = 0 := by
  induction l with
  | nil => simp [rs, val]
  | cons c l ih =>
    have := ih h.tail
    have h1 := h.head
    rw [val_cons]
    have hp : 0 < 10 ^ l.length := Nat.pow_pos (by decide)
    show (if rs l = [] ∧ c = 48 then [] else c :: rs l) = [] ↔ _
    by_cases q : rs l = [] ∧ c = 48
    · rw [if_pos q]
      simp [this.mp q.1, q.2]
    · rw [if_neg q]
      simp only [reduceCtorEq, false_iff]
      intro z
      have z1 : (c - 48) * 10 ^ l.length = 0 := by omega
      have z2 : c - 48 = 0 := (Nat.mul_eq_zero.mp z1).resolve_right (by omega)
      exact q ⟨this.mpr (by omega), by omega⟩
theorem rs_over {l : List Nat} (h : Dig l) (hl : l ≠ []) : ([53] < rs l) ↔ 10 ^ l.length < 2 * val l := by
  cases l with
  | nil => exact absurd rfl hl
  | cons c l =>
    have h1 := h.head
    have h2 := rs_nil h.tail
    have h3 := val_lt (l := l) h.tail
    rw [val_cons, List.length_cons, Nat.pow_succ]
    have hp : 0 < 10 ^ l.length := Nat.pow_pos (by decide)
    generalize 10 ^ l.length = p at *
    show [53] < (if rs l = [] ∧ c = 48 then [] else c :: rs l) ↔ _
    by_cases q : rs l = [] ∧ c = 48
    · rw [if_pos q]
      have := h2.mp q.1
      have e : (c - 48) * p = 0 := by rw [q.2]; omega
      simp only [List.not_lt_nil, false_iff]
      omega
    · rw [if_neg q, List.cons_lt_cons_iff]
      rcases Nat.lt_trichotomy c 53 with hc | hc | hc
      · have : (c - 48) * p ≤ 4 * p := Nat.mul_le_mul_right _ (by omega)
        constructor
        · rintro (z | z)
          · omega
          · omega
        · intro z
          omega
      · subst hc
        have e : (53 - 48) * p = 5 * p := rfl
        rw [e]
        constructor
        · rintro (z | z)
          · omega
          · have z := z.2
            have : rs l ≠ [] := by intro y; rw [y] at z; simp at z
            have : val l ≠ 0 := fun y => this (h2.mpr y)
            omega
        · intro z
          refine .inr ⟨rfl, ?_⟩
          have : rs l ≠ [] := by intro y; have := h2.mp y; omega
          cases hr : rs l with
          | nil => exact absurd hr this
          | cons a b => exact List.nil_lt_cons a b
      · have : 6 * p ≤ (c - 48) * p := Nat.mul_le_mul_right _ (by omega)
        constructor
        · intro _
          omega
        · intro _
          exact .inl hc
theorem rs_half {l : List Nat} (h : Dig l) (hl : l ≠ []) : rs l = [53] ↔ 10 ^ l.length = 2 * val l := by
  cases l with
  | nil => exact absurd rfl hl
  | cons c l =>
    have h1 := h.head
    have h2 := rs_nil h.tail
    have h3 := val_lt (l := l) h.tail
    rw [val_cons, List.length_cons, Nat.pow_succ]
    have hp : 0 < 10 ^ l.length := Nat.pow_pos (by decide)
    generalize 10 ^ l.length = p at *
    show (if rs l = [] ∧ c = 48 then [] else c :: rs l) = [53] ↔ _
    by_cases q : rs l = [] ∧ c = 48
    · rw [if_pos q]
      have := h2.mp q.1
      have e : (c - 48) * p = 0 := by rw [q.2]; omega
      simp only [List.nil_eq, reduceCtorEq, false_iff]
      omega
    · rw [if_neg q]
      rcases Nat.lt_trichotomy c 53 with hc | hc | hc
      · have : (c - 48) * p ≤ 4 * p := Nat.mul_le_mul_right _ (by omega)
        constructor
        · intro z
          have : c = 53 := by simpa using congrArg (List.head? ) z
          omega
        · intro z
          omega
      · subst hc
        have e : (53 - 48) * p = 5 * p := rfl
        rw [e]
        constructor
        · intro z
          have z1 : rs l = [] := by simpa using z
          have := h2.mp z1
          omega
        · intro z
          have : rs l = [] := h2.mpr (by omega)
          rw [this]
      · have : 6 * p ≤ (c - 48) * p := Nat.mul_le_mul_right _ (by omega)
        constructor
        · intro z
          have : c = 53 := by simpa using congrArg (List.head? ) z
          omega
        · intro z
          omega
/-- the figures of a number -/
noncomputable def figs (n : Nat) : List Nat := (Nat.toDigits 10 n).map Char.toNat
theorem figs_small {n : Nat} (h : n < 10) : figs n = [n + 48] := by
  have : ∀ k, k < 10 → figs k = [k + 48] := by decide
  exact this n h
theorem figs_big {n : Nat} (h : 10 ≤ n) : figs n = figs (n / 10) ++ [n % 10 + 48] := by
  have hm : n % 10 < 10 := Nat.mod_lt n (by decide)
  have t : Nat.toDigits 10 (n / 10) ++ Nat.toDigits 10 (n % 10) = Nat.toDigits 10 (10 * (n / 10) + n % 10) := Nat.toDigits_append_toDigits (by decide) (by omega) hm
  rw [Nat.div_add_mod] at t
  rw [← figs_small hm]
  unfold figs
  rw [← t, List.map_append]
theorem figs_dig (n : Nat) : Dig (figs n) := by
  induction n using Nat.strongRecOn with
  | ind n ih =>
    by_cases h : n < 10
    · rw [figs_small h]
      intro c hc
      rw [List.mem_singleton.mp hc, isD_iff]
      omega
    · rw [figs_big (by omega)]
      refine (ih (n / 10) (by omega)).append ?_
      intro c hc
      rw [List.mem_singleton.mp hc, isD_iff]
      omega
theorem figs_val (n : Nat) : val (figs n) = n := by
  induction n using Nat.strongRecOn with
  | ind n ih =>
    by_cases h : n < 10
    · rw [figs_small h, val_one]
      omega
    · rw [figs_big (by omega), val_snoc, ih (n / 10) (by omega)]
      omega
theorem figs_len (n : Nat) : (figs n).length = nd n := by
  induction n using Nat.strongRecOn with
  | ind n ih =>
    by_cases h : n < 10
    · rw [figs_small h, nd_eq, dif_pos h]
      rfl
    · rw [figs_big (by omega), nd_eq, dif_neg h, List.length_append, ih (n / 10) (by omega)]
      rfl
theorem figs_ne (n : Nat) : figs n ≠ [] := by
  intro e
  have := figs_len n
  have h := nd_pos n
  rw [e] at this
  simp at this
  omega
theorem figs_rs : ∀ (n : Nat) (e : Int), n ≠ 0 → rs (figs n) = figs (strip10 n e).1 := by
  intro n
  induction n using Nat.strongRecOn with
  | ind n ih =>
    intro e hn
    by_cases h : n % 10 = 0
    · rw [strip10_go hn h, figs_big (by omega), show n % 10 + 48 = 48 by omega, rs_snoc0]
      exact ih (n / 10) (by omega) (e + 1) (by omega)
    · rw [strip10_stop h]
      by_cases h1 : n < 10
      · rw [figs_small h1]
        exact rs_snoc (by omega) []
      · rw [figs_big (by omega)]
        exact rs_snoc (by omega) _
/-- what nearest keeps: the figures ahead, rounded by those behind -/
noncomputable def kept (F : List Nat) (dg : Nat) : Nat := if [53] < rs (F.drop dg) ∨ (rs (F.drop dg) = [53] ∧ val (F.take dg) % 2 = 1) then val (F.take dg) + 1 else val (F.take dg)
theorem near_rnd {l : List Nat} (h : Dig l) {dg : Nat} (hd : 1 ≤ dg) (hF : ls l ≠ []) (e : Int) : rnd (val l) e dg = (kept (ls l) dg, e + ((ls l).drop dg).length) := by
  obtain ⟨c, r, hc⟩ : ∃ c r, ls l = c :: r := by
    cases q : ls l with
    | nil => exact absurd q hF
    | cons c r => exact ⟨c, r, rfl⟩
  obtain ⟨n1, n2⟩ := nd_figs (ls_dig h) hc (ls_head hc)
  rw [← ls_val l]
  have hD := ls_dig h
  generalize ls l = F at *
  unfold rnd kept
  by_cases hq : nd (val F) > dg
  · have hl : (F.drop dg).length = nd (val F) - dg := by rw [List.length_drop, n1]
    have hne : F.drop dg ≠ [] := by intro z; rw [z] at hl; simp at hl; omega
    have hv : val F = val (F.take dg) * 10 ^ (F.drop dg).length + val (F.drop dg) := by
      have := val_append (F.take dg) (F.drop dg)
      rwa [List.take_append_drop] at this
    have hlt := val_lt (hD.drop dg)
    have h1 := rs_over (hD.drop dg) hne
    have h2 := rs_half (hD.drop dg) hne
    rw [if_pos hq, ← hl]
    have e1 : val F / 10 ^ (F.drop dg).length = val (F.take dg) := by
      rw [hv, Nat.mul_comm, Nat.mul_add_div (Nat.pow_pos (by decide)), Nat.div_eq_of_lt hlt, Nat.add_zero]
    have e2 : val F % 10 ^ (F.drop dg).length = val (F.drop dg) := by
      conv => lhs; rw [hv]
      rw [Nat.mul_comm, Nat.mul_add_mod, Nat.mod_eq_of_lt hlt]
    unfold rounded
    rw [e1, e2]
    congr 1
    by_cases q1 : [53] < rs (F.drop dg)
    · rw [if_pos (.inl (h1.mp q1)), if_pos (.inl q1)]
    · by_cases q2 : rs (F.drop dg) = [53] ∧ val (F.take dg) % 2 = 1
      · rw [if_pos (.inr ⟨(h2.mp q2.1).symm, q2.2⟩), if_pos (.inr q2)]
      · rw [if_neg (by rintro (z | z); (exact q1 (h1.mpr z)); (exact q2 ⟨h2.mpr z.1.symm, z.2⟩)), if_neg (by rintro (z | z); (exact q1 z); (exact q2 z))]
  · have hl : F.length ≤ dg := by omega
    rw [if_neg hq, List.drop_of_length_le hl, List.take_of_length_le hl]
    rw [if_neg (by rintro (z | z); (simp [rs] at z); (simp [rs] at z))]
    simp
theorem kept_pos {l : List Nat} (h : Dig l) {dg : Nat} (hd : 1 ≤ dg) (hF : ls l ≠ []) : kept (ls l) dg ≠ 0 := by
  have hr := near_rnd h hd hF 0
  obtain ⟨c, r, hc⟩ : ∃ c r, ls l = c :: r := by
    cases q : ls l with
    | nil => exact absurd q hF
    | cons c r => exact ⟨c, r, rfl⟩
  obtain ⟨n1, n2⟩ := nd_figs (ls_dig h) hc (ls_head hc)
  rw [ls_val] at n2
  have := rnd_pos (e := 0) n2 hd
  rwa [hr] at this
theorem near_nil {l : List Nat} (hF : ls l = []) {dg : Nat} (hd : 1 ≤ dg) (e : Int) : mk (val l) e dg = some (0, 0) := by
  have : val l = 0 := by rw [← ls_val, hF]; rfl
  rw [this]
  exact mk_zero hd
theorem near_cut {l : List Nat} (h : Dig l) {dg : Nat} (hd : 1 ≤ dg) (hF : ls l ≠ []) (e : Int) :
    mk (val l) e dg = if 99 < e + (((ls l).drop dg).length : Int) + ((figs (kept (ls l) dg)).length : Int) - 1 then none
      else if e + (((ls l).drop dg).length : Int) + ((figs (kept (ls l) dg)).length : Int) - 1 < -99 then some (0, 0)
      else some ((val (rs (figs (kept (ls l) dg))) : Int), e + (((ls l).drop dg).length : Int) + ((figs (kept (ls l) dg)).length : Int) - 1 - ((rs (figs (kept (ls l) dg))).length : Int) + 1) := by
  have hk := kept_pos h hd hF
  unfold mk
  rw [near_rnd h hd hF e]
  dsimp only
  generalize kept (ls l) dg = K at *
  generalize e + (((ls l).drop dg).length : Int) = e' at *
  have hs := strip_nd K e'
  unfold cut99
  rw [if_neg hk, figs_rs K e' hk, figs_val, figs_len, figs_len]
  by_cases h1 : 99 < e' + (nd K : Int) - 1
  · rw [if_pos h1, if_pos (by omega)]
  · rw [if_neg h1, if_neg (by omega)]
    by_cases h2 : e' + (nd K : Int) - 1 < -99
    · rw [if_pos h2, if_pos (by omega)]
    · rw [if_neg h2, if_neg (by omega)]
      congr 2
      omega

theorem tw_dig {D T : List Nat} (h : Dig D) (hT : T.takeWhile isD = []) : (D ++ T).takeWhile isD = D := by
  induction D with
  | nil => exact hT
  | cons c D ih =>
    rw [List.cons_append, List.takeWhile_cons_of_pos (h c (.head _)), ih h.tail]
theorem run_at {A D T : List Nat} (h : Dig D) (hT : T.takeWhile isD = []) {a : Nat} (ha : a = A.length) : run (A ++ (D ++ T)) a = D := by
  unfold run
  rw [ha, List.drop_left]
  exact tw_dig h hT
theorem at1_at {A T : List Nat} {a : Nat} (ha : a = A.length) : at1 (A ++ T) a = T.take 1 := by
  unfold at1
  rw [ha, List.drop_left]
theorem getD_at {l : List Nat} {j : Nat} (hj : j < l.length) : l.getD j 0 = l[j] := by
  simp [List.getD_eq_getElem?_getD, hj]
theorem getD_left (A T : List Nat) {k : Nat} (h : k < A.length) : (A ++ T).getD k 0 = A.getD k 0 := by
  simp only [List.getD_eq_getElem?_getD]
  rw [List.getElem?_append_left h]
theorem getD_right (A T : List Nat) (k : Nat) : (A ++ T).getD (A.length + k) 0 = T.getD k 0 := by
  simp only [List.getD_eq_getElem?_getD]
  rw [List.getElem?_append_right (by omega), Nat.add_sub_cancel_left]
theorem at1_some {l : List Nat} {k c : Nat} (h : at1 l k = [c]) : k < l.length ∧ l.getD k 0 = c := by
  have hk : k < l.length := by
    rcases Nat.lt_or_ge k l.length with q | q
    · exact q
    · rw [at1_end q] at h
      cases h
  have := at1_getD hk
  rw [h] at this
  exact ⟨hk, by simpa using this.symm⟩
/-- the power of a row's number, and what it says -/
noncomputable def PF (P : List Nat) (z : Int) : Prop := (P = [] ∧ z = 0) ∨ (P = [33] ∧ z = 0) ∨ ∃ S D, P = 69 :: (S ++ D) ∧ Dig D ∧ D ≠ [] ∧ D.length ≤ 3 ∧ ((S = [] ∧ z = (val D : Nat)) ∨ (S = [43] ∧ z = (val D : Nat)) ∨ (S = [45] ∧ z = -(val D : Nat)))
noncomputable def BF (B : List Nat) : Prop := B = [] ∨ ∃ C, B = 46 :: C ∧ Dig C
theorem PF.nod {P : List Nat} {z : Int} (h : PF P z) : P.takeWhile isD = [] := by
  rcases h with ⟨rfl, _⟩ | ⟨rfl, _⟩ | ⟨S, D, rfl, _⟩
  · rfl
  · rfl
  · rw [List.takeWhile_cons_of_neg (by decide)]
theorem BF.nod {B P : List Nat} {z : Int} (hb : BF B) (h : PF P z) : (B ++ P).takeWhile isD = [] := by
  rcases hb with rfl | ⟨C, rfl, _⟩
  · exact h.nod
  · rw [List.cons_append, List.takeWhile_cons_of_neg (by decide)]
theorem dig_take {D : List Nat} (h : Dig D) (hne : D ≠ []) : D.take 1 ≠ [43] ∧ D.take 1 ≠ [45] := by
  cases D with
  | nil => exact absurd rfl hne
  | cons c D =>
    have := h.head
    constructor
    · intro z
      have : c = 43 := by simpa using z
      omega
    · intro z
      have : c = 45 := by simpa using z
      omega
theorem pow_shape {A P : List Nat} {z : Int} (h : PF P z) {a : Nat} (ha : a = A.length) :
    powerAt (A ++ P) a = (z, (A ++ P).length - (if P = [33] then 1 else 0)) ∧ PowForm3 (A ++ P) a ∧
      ((A ++ P).drop (powerAt (A ++ P) a).2 = [] ∨ (A ++ P).drop (powerAt (A ++ P) a).2 = [33]) := by
  have hat := at1_at (A := A) (T := P) ha
  rcases h with ⟨rfl, rfl⟩ | ⟨rfl, rfl⟩ | ⟨S, D, rfl, hD, hne, hl, hS⟩
  · have e : powerAt (A ++ []) a = (0, a) := if_neg (by rw [hat]; simp)
    rw [e]
    refine ⟨by rw [if_neg (by simp), ha]; simp, .inl (.inl (by rw [hat]; rfl)), .inl (by simp [ha])⟩
  · have e : powerAt (A ++ [33]) a = (0, a) := if_neg (by rw [hat]; simp)
    rw [e]
    refine ⟨by rw [if_pos rfl, ha]; simp, .inl (.inr (by rw [hat]; rfl)), .inr (by rw [ha]; simp)⟩
  · have n33 : (69 :: (S ++ D)) ≠ [33] := by intro z; cases z
    have p0 : at1 (A ++ 69 :: (S ++ D)) a = [69] := by rw [hat]; rfl
    have key : ∃ st, powStart (A ++ 69 :: (S ++ D)) a = st ∧ st = a + 1 + S.length ∧ run (A ++ 69 :: (S ++ D)) st = D ∧ ((if at1 (A ++ 69 :: (S ++ D)) (a + 1) = [45] then -((val D : Nat) : Int) else ((val D : Nat) : Int)) = z) := by
      refine ⟨_, rfl, ?_⟩
      have p1 : at1 (A ++ 69 :: (S ++ D)) (a + 1) = (S ++ D).take 1 := by
        have := at1_at (A := A ++ [69]) (T := S ++ D) (a := a + 1) (by simp [ha])
        rwa [List.append_assoc, List.singleton_append] at this
      have hr : ∀ st, st = a + 1 + S.length → run (A ++ 69 :: (S ++ D)) st = D := by
        intro st hst
        have := run_at (A := A ++ 69 :: S) (D := D) (T := []) hD rfl (a := st) (by simp [hst, ha]; omega)
        rwa [List.append_nil, List.append_assoc, List.cons_append] at this
      obtain ⟨t1, t2⟩ := dig_take hD hne
      unfold powStart
      rw [p1]
      rcases hS with ⟨rfl, rfl⟩ | ⟨rfl, rfl⟩ | ⟨rfl, rfl⟩
      · rw [List.nil_append] at *
        rw [if_neg (by rintro (y | y); (exact t1 y); (exact t2 y)), if_neg t2]
        exact ⟨rfl, hr _ rfl, rfl⟩
      · rw [if_pos (.inl rfl)]
        exact ⟨rfl, hr _ rfl, by rw [if_neg (by simp)]⟩
      · rw [if_pos (.inr rfl)]
        exact ⟨rfl, hr _ rfl, by rw [if_pos (by simp)]⟩
    obtain ⟨st, k1, k2, k3, k4⟩ := key
    have e : powerAt (A ++ 69 :: (S ++ D)) a = (z, st + D.length) := by
      unfold powerAt
      rw [if_pos (.inl p0), k1, k3]
      rw [k4]
    have hlen : (A ++ 69 :: (S ++ D)).length = st + D.length := by
      rw [k2, ha]
      simp
      omega
    rw [e]
    refine ⟨by rw [if_neg n33, hlen, Nat.sub_zero], .inr ⟨p0, ?_, ?_⟩, .inl ?_⟩
    · rw [k1, k3]
      intro y
      exact hne (List.length_eq_zero_iff.mp y)
    · rw [k1, k3]
      exact hl
    · show List.drop (st + D.length) _ = []
      rw [← hlen]
      exact List.drop_length
/-- a number as rows have it -/
structure RowNum (l F B P : List Nat) (z : Int) : Prop where
  is : l = F ++ B ++ P
  f : Dig F
  fne : F ≠ []
  b : BF B
  p : PF P z
  few : F.length + B.length ≤ 40
section
variable {l F B P : List Nat} {z : Int} (h : RowNum l F B P z)
include h
theorem RowNum.run0 : run l 0 = F := by
  have := run_at (A := []) (T := B ++ P) h.f (h.b.nod h.p) (a := 0) rfl
  rwa [List.nil_append, ← List.append_assoc, ← h.is] at this
theorem RowNum.fr : frontA l = F.length := by unfold frontA; rw [h.run0]; omega
theorem RowNum.at46 : at1 l (frontA l) = [46] ↔ B ≠ [] := by
  rw [h.fr, h.is, List.append_assoc, at1_at rfl]
  have hp := h.p
  rcases h.b with rfl | ⟨C, rfl, _⟩
  · rw [List.nil_append]
    rcases hp with ⟨rfl, _⟩ | ⟨rfl, _⟩ | ⟨S, D, rfl, _⟩ <;> simp
  · simp
theorem RowNum.dot (hb : B ≠ []) : dotR l = B.drop 1 := by
  unfold dotR
  rw [h.fr]
  rcases h.b with e | ⟨C, e, hC⟩
  · exact absurd e hb
  · have := run_at (A := F ++ [46]) (D := C) (T := P) hC h.p.nod (a := F.length + 1) (by simp)
    rw [h.is, e]
    rw [List.append_assoc] at this
    rw [List.append_assoc]
    exact this
theorem RowNum.numA : numA l = (F ++ B).length := by
  unfold Mine.numA
  by_cases hb : B = []
  · rw [if_neg (fun y => h.at46.mp y hb), h.fr, hb]
    simp
  · rw [if_pos (h.at46.mpr hb), h.fr, h.dot hb]
    have : B.length ≠ 0 := fun y => hb (List.length_eq_zero_iff.mp y)
    simp
    omega
theorem RowNum.numN : numN l = val (F ++ B.drop 1) := by
  unfold Mine.numN
  by_cases hb : B = []
  · rw [if_neg (fun y => h.at46.mp y hb), h.run0, hb]
    simp
  · rw [if_pos (h.at46.mpr hb), h.run0, h.dot hb, val_append]
theorem RowNum.numP : numP l = B.length - 1 := by
  unfold Mine.numP
  by_cases hb : B = []
  · rw [if_neg (fun y => h.at46.mp y hb), hb]
    rfl
  · rw [if_pos (h.at46.mpr hb), h.dot hb]
    simp
theorem RowNum.pw : powerAt l (Mine.numA l) = (z, l.length - (if P = [33] then 1 else 0)) := by
  have := (pow_shape (A := F ++ B) h.p rfl).1
  rw [h.numA]
  rwa [← h.is] at this
theorem PF.len : P.length ≤ 5 := by
  rcases h.p with ⟨rfl, _⟩ | ⟨rfl, _⟩ | ⟨S, D, rfl, _, _, hl, hS⟩
  · simp
  · simp
  · have : S.length ≤ 1 := by rcases hS with ⟨rfl, _⟩ | ⟨rfl, _⟩ | ⟨rfl, _⟩ <;> simp
    simp
    omega
theorem RowNum.len : l.length ≤ 45 := by
  have := PF.len h
  have := h.few
  rw [h.is]
  simp
  omega
theorem RowNum.mem {c : Nat} (hc : c ∈ l) : isD c = true ∨ c = 46 ∨ c = 33 ∨ c = 69 ∨ c = 43 ∨ c = 45 := by
  rw [h.is] at hc
  rcases List.mem_append.mp hc with hc | hc
  · rcases List.mem_append.mp hc with hc | hc
    · exact .inl (h.f c hc)
    · rcases h.b with rfl | ⟨C, rfl, hC⟩
      · cases hc
      · rcases List.mem_cons.mp hc with rfl | hc
        · exact .inr (.inl rfl)
        · exact .inl (hC c hc)
  · rcases h.p with ⟨rfl, _⟩ | ⟨rfl, _⟩ | ⟨S, D, rfl, hD, _, _, hS⟩
    · cases hc
    · exact .inr (.inr (.inl (List.mem_singleton.mp hc)))
    · rcases List.mem_cons.mp hc with rfl | hc
      · exact .inr (.inr (.inr (.inl rfl)))
      · rcases List.mem_append.mp hc with hc | hc
        · rcases hS with ⟨rfl, _⟩ | ⟨rfl, _⟩ | ⟨rfl, _⟩
          · cases hc
          · exact .inr (.inr (.inr (.inr (.inl (List.mem_singleton.mp hc)))))
          · exact .inr (.inr (.inr (.inr (.inr (List.mem_singleton.mp hc)))))
        · exact .inl (hD c hc)
/-- a letter stands only where the power begins -/
theorem RowNum.letter {k c : Nat} (hk : at1 l k = [c]) (hc : c = 69 ∨ c = 68) : k = (F ++ B).length ∧ ∃ S D, P = 69 :: (S ++ D) := by
  obtain ⟨k1, k2⟩ := at1_some hk
  have nd : isD c = false := by rcases hc with rfl | rfl <;> decide
  have nin : ∀ {X : List Nat}, (∀ d ∈ X, isD d = true ∨ d = 46 ∨ d = 43 ∨ d = 45) → ∀ j, j < X.length → X.getD j 0 ≠ c := by
    intro X hX j hj e
    have hm : X.getD j 0 ∈ X := by rw [getD_at hj]; exact List.getElem_mem _
    rw [e] at hm
    rcases hX c hm with q | q | q | q
    · rw [nd] at q; cases q
    · omega
    · omega
    · omega
  have hFB : ∀ d ∈ F ++ B, isD d = true ∨ d = 46 ∨ d = 43 ∨ d = 45 := by
    intro d hd
    rcases List.mem_append.mp hd with hd | hd
    · exact .inl (h.f d hd)
    · rcases h.b with rfl | ⟨C, rfl, hC⟩
      · cases hd
      · rcases List.mem_cons.mp hd with rfl | hd
        · exact .inr (.inl rfl)
        · exact .inl (hC d hd)
  rcases Nat.lt_or_ge k (F ++ B).length with q | q
  · rw [h.is, getD_left _ _ q] at k2
    exact absurd k2 (nin hFB k q)
  · have hkk : k = (F ++ B).length + (k - (F ++ B).length) := by omega
    rw [hkk, h.is, getD_right] at k2
    have k3 : k - (F ++ B).length < P.length := by
      have : l.length = (F ++ B).length + P.length := by rw [h.is]; simp; omega
      omega
    generalize hj : k - (F ++ B).length = j at *
    rcases h.p with ⟨rfl, _⟩ | ⟨rfl, _⟩ | ⟨S, D, rfl, hD, _, _, hS⟩
    · simp at k3
    · have : j = 0 := by simp at k3; omega
      subst this
      have : 33 = c := by simpa using k2
      omega
    · cases j with
      | zero => exact ⟨by omega, S, D, rfl⟩
      | succ j =>
        have k4 : (S ++ D).getD j 0 = c := by simpa using k2
        refine absurd k4 (nin ?_ j (by simp at k3 ⊢; omega))
        intro d hd
        rcases List.mem_append.mp hd with hd | hd
        · rcases hS with ⟨rfl, _⟩ | ⟨rfl, _⟩ | ⟨rfl, _⟩
          · cases hd
          · exact .inr (.inr (.inl (List.mem_singleton.mp hd)))
          · exact .inr (.inr (.inr (List.mem_singleton.mp hd)))
        · exact .inl (hD d hd)
theorem RowNum.num : NumText l := by
  have hs := pow_shape (A := F ++ B) h.p rfl
  rw [← h.is] at hs
  rw [← h.numA] at hs
  refine ⟨Nat.le_trans h.len (by decide), ?_, ?_, hs.2.1, hs.2.2, ?_, ?_⟩
  · rw [h.run0]
    exact fun y => h.fne (List.length_eq_zero_iff.mp y)
  · rw [h.numA]
    have := h.few
    simp
    omega
  · intro c hc
    rcases h.mem hc with q | q | q | q | q | q
    · rw [isD_iff] at q; omega
    · omega
    · omega
    · omega
    · omega
    · omega
  · intro k hk
    have hk' : ∃ c, at1 l k = [c] ∧ (c = 69 ∨ c = 68) := by
      rcases hk with q | q
      · exact ⟨_, q, .inl rfl⟩
      · exact ⟨_, q, .inr rfl⟩
    obtain ⟨c, hc1, hc2⟩ := hk'
    obtain ⟨k1, S, D, k2⟩ := h.letter hc1 hc2
    have hf := hs.2.1
    rw [h.numA, ← k1] at hf
    have hp : at1 l k = [69] := by
      rw [k1, h.is, at1_at rfl, k2]
      rfl
    rcases hf with (q | q) | ⟨_, q1, q2⟩
    · rw [hp] at q; cases q
    · rw [hp] at q; cases q
    · have h1 := val_lt (run_isD l (powStart l k))
      have h2 : 10 ^ (run l (powStart l k)).length ≤ 10 ^ 3 := Nat.pow_le_pow_right (by decide) q2
      omega
theorem RowNum.whole (hb : B = []) (hp : P = []) : ntree l = .whole (val F) := by
  unfold ntree
  rw [h.run0, h.fr, if_pos (Or.inl (by rw [h.is, hb, hp]; simp))]
theorem RowNum.dec (hbp : ¬ (B = [] ∧ P = [])) : ntree l = .dec (exactly (val (F ++ B.drop 1)) (z - ((B.length - 1 : Nat) : Int))).1 (exactly (val (F ++ B.drop 1)) (z - ((B.length - 1 : Nat) : Int))).2 := by
  unfold ntree
  rw [if_neg, h.numN, h.numP, h.pw]
  rw [h.fr, h.is, List.append_assoc, List.drop_left]
  rcases h.b with rfl | ⟨C, rfl, hC⟩
  · rcases h.p with ⟨rfl, _⟩ | ⟨rfl, _⟩ | ⟨S, D, rfl, _⟩
    · exact absurd ⟨rfl, rfl⟩ hbp
    · simp
    · simp
  · simp
end

noncomputable def OutD (o : Option (Int × Int)) (r : Value) (tl : Led) : Prop := match o with
  | none => OutS (Str.ofString "OV") r tl
  | some r' => OutII r'.1 r'.2 r tl
-- MACROS
-- END
theorem sz60 {x : Str} (h : x.length ≤ 60) : x.length ≤ sizeLine := Nat.le_trans h (by decide)
theorem lit_0 : (Str.ofString "0").cps.contains = (· == 48) := by
  funext c
  show #[48].contains c = _
  simp
  exact (Bool.beq_eq_decide_eq c 48).symm
theorem takeWhile_drop (p : Nat → Bool) : ∀ l : List Nat, l.drop (l.takeWhile p).length = l.dropWhile p
  | [] => rfl
  | c :: r => by
    by_cases h : p c = true
    · rw [List.takeWhile_cons_of_pos h, List.dropWhile_cons_of_pos h, List.length_cons, List.drop_succ_cons]
      exact takeWhile_drop p r
    · rw [List.takeWhile_cons_of_neg h, List.dropWhile_cons_of_neg h]
      rfl
theorem sgs_strip (g : Nat → Bool) (l r : Bool) (x : Str) : sgs (Txt.stripBy g l r x) = ((sgs x).drop (stripLo g l x)).take (stripHi g r x (stripLo g l x) - stripLo g l x) := by
  have e : sgs (PySem.stripped g l r x) = ((sgs x).drop (stripLo g l x)).take (stripHi g r x (stripLo g l x) - stripLo g l x) := by
    show (x.cps.extract _ _).toList = _
    rw [Array.toList_extract, List.extract_eq_drop_take]
  unfold Txt.stripBy
  split
  · rename_i h
    simp only [stripSame, Bool.and_eq_true, beq_iff_eq] at h
    rw [h.2, h.1, List.drop_zero, Nat.sub_zero, ← sgs_len, List.take_length]
  · exact e
theorem sgs_lstrip (x : Str) : sgs (Txt.lstripChars x (Str.ofString "0")) = ls (sgs x) := by
  unfold Txt.lstripChars
  rw [sgs_strip, lit_0]
  show ((sgs x).drop ((sgs x).takeWhile (· == 48)).length).take (x.length - _) = _
  rw [takeWhile_drop, List.take_of_length_le]
  · rfl
  · rw [← takeWhile_drop, List.length_drop, sgs_len]
    exact Nat.le_refl _
theorem sgs_rstrip (x : Str) : sgs (Txt.rstripChars x (Str.ofString "0")) = rs (sgs x) := by
  unfold Txt.rstripChars
  rw [sgs_strip, lit_0]
  show ((sgs x).drop 0).take (x.length - (((sgs x).drop 0).reverse.takeWhile (· == 48)).length - 0) = _
  rw [List.drop_zero, Nat.sub_zero, ← rs_rev, ← takeWhile_drop, ← sgs_len, List.reverse_drop, List.reverse_reverse, List.length_reverse]
theorem rs_len (l : List Nat) : (rs l).length ≤ l.length := by
  induction l with
  | nil => exact Nat.le_refl _
  | cons c l ih =>
    show (if rs l = [] ∧ c = 48 then [] else c :: rs l).length ≤ _
    split
    · exact Nat.zero_le _
    · simp only [List.length_cons]; omega
theorem rs_digs {l : List Nat} (h : Dig l) : Dig (rs l) := by
  rw [← rs_rev]
  intro c hc
  exact h c (by simpa using (List.dropWhile_sublist _).subset (List.mem_reverse.mp hc))
theorem text_val {x : Str} (h : Dig (sgs x)) (h1 : sgs x ≠ []) (h2 : x.length ≤ 4300) : PySem.intText? x = some ((val (sgs x) : Nat) : Int) :=
  PySem.intText_digits (fun c hc => (isD_iff c).mp (h c hc)) h1 h2
theorem sgs_str (n : Nat) : sgs (Str.ofString (toString ((n : Nat) : Int))) = figs n := KIN.signs_num n
theorem str_facts (K : Nat) (hK : K < 10 ^ 61) (hK0 : K ≠ 0) (kz : Int) (e : kz = (K : Nat)) : kz.natAbs.log2 < 1920 ∧ (Str.ofString (toString kz)).length = (figs K).length ∧ (figs K).length ≤ 61 ∧ (Str.ofString (toString kz)).length ≤ sizeLine ∧
    (Txt.rstripChars (Str.ofString (toString kz)) (Str.ofString "0")).length = (rs (figs K)).length ∧ (rs (figs K)).length ≤ 61 ∧ PySem.intText? (Txt.rstripChars (Str.ofString (toString kz)) (Str.ofString "0")) = some ((val (rs (figs K)) : Nat) : Int) := by
  subst e
  have h1 : (figs K).length ≤ 61 := by rw [figs_len]; exact nd_le (by decide) hK
  have h2 : (Str.ofString (toString ((K : Nat) : Int))).length = (figs K).length := by rw [← sgs_len, sgs_str]
  have h3 := rs_len (figs K)
  have h4 : sgs (Txt.rstripChars (Str.ofString (toString ((K : Nat) : Int))) (Str.ofString "0")) = rs (figs K) := by rw [sgs_rstrip, sgs_str]
  have h5 : (Txt.rstripChars (Str.ofString (toString ((K : Nat) : Int))) (Str.ofString "0")).length = (rs (figs K)).length := by rw [← sgs_len, h4]
  refine ⟨?_, h2, h1, Nat.le_trans (by omega) (show 61 ≤ sizeLine by decide), h5, by omega, ?_⟩
  · rw [Int.natAbs_natCast]
    exact (Nat.log2_lt hK0).mpr (Nat.lt_trans hK (by decide +kernel))
  · rw [text_val (by rw [h4]; exact rs_digs (figs_dig K)) (by rw [h4, figs_rs K 0 hK0]; exact figs_ne _) (by omega), h4]
theorem lit_5 : sgs (Str.ofString "5") = [53] := by decide
set_option maxHeartbeats 4000000 in
theorem law_nearest (w : World) (x : Str) (e0 : Int) (dg : Nat) (t u v : Tok) (hx : x.length ≤ 60) (hxd : Dig (sgs x)) (hdg : 1 ≤ dg) : Meets w 403 4 40 [.str x t, .int e0 u, .int (dg : Int) v] (OutD (mk (val (sgs x)) e0 dg)) := by
 refine (?fZ : PullF _) ?pZ ?qZ ?hZ
 case fZ => exact fun _ q _ => q
 case pZ =>
  unfold Meets
  k_fill
  intro p loose mean mg mb dp un gd cn cs a ccd cl outer A₀ base h₀ L m news s Q E hrw B F X N T hk hd hu hret
  clear hrw
  refine wpAny_call ?_
  k_dflt cell_enter
  have hs0 := sz60 hx
  have hl := sgs_lstrip x
  have hlen : (Txt.lstripChars x (Str.ofString "0")).length ≤ 60 := by
    rw [← sgs_len, hl]
    have := (List.dropWhile_sublist (l := sgs x) (· == 48)).length_le
    have := sgs_len x
    unfold ls
    omega
  by_cases hF : ls (sgs x) = []
  · have he : (Txt.lstripChars x (Str.ofString "0") == Str.ofString "") = true := beq_iff_eq.mpr (str_eq (by rw [hl, hF]; exact lit_nil.symm))
    (repeat' (first | ((fail_if_success (first | (with_reducible show wpAny _ _ (exec (Stmt.While _ _ _ _) _) _ _ _) | (with_reducible show wpAny _ _ (exec (Stmt.Raise _ _ _) _) _ _ _) | (with_reducible show WhStep _ _ _ _ _ _ _ _ _ _ _))); (first | (k_here; (with_reducible show wpAny _ _ (call (Value.type "int") [Value.str _ _]) _ _ _); (refine KIN.call_text (by with_reducible assumption) (by omega) ?_)) | (k_here; (with_reducible show wpAny _ _ (call (Value.type "str") [Value.int _ _]) _ _ _); (refine P.str_of_int ?hs ?_; (case hs => with_reducible assumption))) | (k_here; (with_reducible show wpAny _ _ (call (Value.builtin "str.rstrip") [Value.str _ _, Value.str _ _]) _ _ _); (refine KXw.rstripChars rfl ?hs ?_; (case hs => with_reducible assumption)); intro _ _) | (k_here; (with_reducible show wpAny _ _ (call (Value.builtin "str.lstrip") [Value.str _ _, Value.str _ _]) _ _ _); (refine KXw.lstripChars rfl ?hs ?_; (case hs => with_reducible assumption)); intro _ _) | walk_at "wk"))))
    rw [near_nil hF hdg] at hret
    exact Ret.ii hret (by k_asm) (by k_asm) (by repeat' (first | exact sub_refl _ | refine sub_cons ?_)) (by k_mem) (by first | assumption | exact ktn_ltOf (by assumption) | exact ktn_ltOf (And.right (by assumption)) | exact ktn_ltOf (And.right (And.right (by assumption))) | exact ktn_ltOf (And.right (And.right (And.right (by assumption)))) | exact ktn_ltOf (And.right (And.right (And.right (And.right (by assumption))))) | exact ktn_ltOf (And.right (And.right (And.right (And.right (And.right (by assumption)))))) | exact ktn_ltOf (And.right (And.right (And.right (And.right (And.right (And.right (by assumption))))))) | exact ktn_ltOf (And.right (And.right (And.right (And.right (And.right (And.right (And.right (by assumption)))))))) | exact ktn_ltOf (And.right (And.right (And.right (And.right (And.right (And.right (And.right (And.right (by assumption))))))))) | exact ktn_ltOf (And.right (And.right (And.right (And.right (And.right (And.right (And.right (And.right (And.right (by assumption)))))))))) | exact ktn_ltOf (And.right (And.right (And.right (And.right (And.right (And.right (And.right (And.right (And.right (And.right (by assumption))))))))))) | exact ktn_ltOf (And.right (And.right (And.right (And.right (And.right (And.right (And.right (And.right (And.right (And.right (And.right (by assumption))))))))))))) rfl rfl
  · have he : (Txt.lstripChars x (Str.ofString "0") == Str.ofString "") = false := by
      rw [beq_eq_false_iff_ne]
      intro z
      rw [z, lit_nil] at hl
      exact hF hl.symm
    have hcut := near_cut hxd hdg hF e0
    have hkp := kept_pos hxd hdg hF
    have h1 : sgs (Txt.slice (Txt.lstripChars x (Str.ofString "0")) none (some (dg : Int))) = (ls (sgs x)).take dg := by rw [sgs_upto, hl]
    have h2 : sgs (Txt.slice (Txt.lstripChars x (Str.ofString "0")) (some (dg : Int)) none) = (ls (sgs x)).drop dg := by rw [sgs_from, hl]
    have hdl := ls_dig hxd
    have hhd : PySem.intText? (Txt.slice (Txt.lstripChars x (Str.ofString "0")) none (some (dg : Int))) = some ((val ((ls (sgs x)).take dg) : Nat) : Int) := by
      have hle : (Txt.slice (Txt.lstripChars x (Str.ofString "0")) none (some (dg : Int))).length ≤ 60 := by
        rw [← sgs_len, h1, List.length_take, ← hl, sgs_len]
        omega
      rw [text_val (by rw [h1]; exact hdl.take dg) (by rw [h1]; intro z; exact hF (by simpa [show dg ≠ 0 by omega] using z)) (by omega), h1]
    have hrl : (Txt.slice (Txt.lstripChars x (Str.ofString "0")) (some (dg : Int)) none).length = ((ls (sgs x)).drop dg).length := by rw [← sgs_len, h2]
    have hrl2 : ((ls (sgs x)).drop dg).length ≤ 60 := by rw [List.length_drop, ← hl, sgs_len]; omega
    have hrl3 : (Txt.slice (Txt.lstripChars x (Str.ofString "0")) (some (dg : Int)) none).length ≤ sizeLine := sz60 (by omega)
    have htl : sgs (Txt.rstripChars (Txt.slice (Txt.lstripChars x (Str.ofString "0")) (some (dg : Int)) none) (Str.ofString "0")) = rs ((ls (sgs x)).drop dg) := by rw [sgs_rstrip, h2]
    have hv : val ((ls (sgs x)).take dg) < 10 ^ 60 := Nat.lt_of_lt_of_le (val_lt (hdl.take dg)) (Nat.pow_le_pow_right (by decide) (by rw [List.length_take, ← hl, sgs_len]; omega))
    have hv2 : val ((ls (sgs x)).take dg) + 1 < 10 ^ 61 := Nat.lt_of_le_of_lt hv (by decide +kernel)
    clear hl h1 h2 hdl
    have hlt : ((Str.ofString "5").cps.toList < (Txt.rstripChars (Txt.slice (Txt.lstripChars x (Str.ofString "0")) (some (dg : Int)) none) (Str.ofString "0")).cps.toList) ↔ [53] < rs ((ls (sgs x)).drop dg) := by rw [← htl]; exact Iff.rfl
    have heq : ((Txt.rstripChars (Txt.slice (Txt.lstripChars x (Str.ofString "0")) (some (dg : Int)) none) (Str.ofString "0")) == Str.ofString "5") = true ↔ rs ((ls (sgs x)).drop dg) = [53] := by rw [beq_iff_eq, ← htl, str_eq_iff, lit_5]
    have hk1 : ([53] < rs ((ls (sgs x)).drop dg) ∨ (rs ((ls (sgs x)).drop dg) = [53] ∧ val ((ls (sgs x)).take dg) % 2 = 1)) → kept (ls (sgs x)) dg = val ((ls (sgs x)).take dg) + 1 := fun h => if_pos h
    have hk0 : ¬ ([53] < rs ((ls (sgs x)).drop dg) ∨ (rs ((ls (sgs x)).drop dg) = [53] ∧ val ((ls (sgs x)).take dg) % 2 = 1)) → kept (ls (sgs x)) dg = val ((ls (sgs x)).take dg) := fun h => if_neg h
    have hkb : kept (ls (sgs x)) dg < 10 ^ 61 := by unfold kept; split <;> omega
    generalize kept (ls (sgs x)) dg = K at hcut hkp hkb hk1 hk0
    (repeat' (first | ((fail_if_success (with_reducible show wpAny _ _ (exec (Stmt.If (Expr.BoolOp _ _ _) _ _ _) _) _ _ _)); (first | (k_here; (with_reducible show wpAny _ _ (call (Value.type "int") [Value.str _ _]) _ _ _); (refine KIN.call_text (by with_reducible assumption) (by omega) ?_)) | (k_here; (with_reducible show wpAny _ _ (call (Value.type "str") [Value.int _ _]) _ _ _); (refine P.str_of_int ?hs ?_; (case hs => with_reducible assumption))) | (k_here; (with_reducible show wpAny _ _ (call (Value.builtin "str.rstrip") [Value.str _ _, Value.str _ _]) _ _ _); (refine KXw.rstripChars rfl ?hs ?_; (case hs => with_reducible assumption)); intro _ _) | (k_here; (with_reducible show wpAny _ _ (call (Value.builtin "str.lstrip") [Value.str _ _, Value.str _ _]) _ _ _); (refine KXw.lstripChars rfl ?hs ?_; (case hs => with_reducible assumption)); intro _ _) | walk_at "wk"))))
    rename Fr _ _ _ _ => FF
    rename News _ _ _ _ => NN
    k_dflt (refine cut_put (x := Str.ofString "kept") (K := ((K : Nat) : Int)) FF NN ?cu ?re)
    case' cu =>
      by_cases q1 : (Str.ofString "5").cps.toList < (Txt.rstripChars (Txt.slice (Txt.lstripChars x (Str.ofString "0")) (some (dg : Int)) none) (Str.ofString "0")).cps.toList
      · have hk := hk1 (.inl (hlt.mp q1))
        (repeat' (first | (k_here; (with_reducible show wpAny _ _ (call (Value.type "int") [Value.str _ _]) _ _ _); (refine KIN.call_text (by with_reducible assumption) (by omega) ?_)) | (k_here; (with_reducible show wpAny _ _ (call (Value.type "str") [Value.int _ _]) _ _ _); (refine P.str_of_int ?hs ?_; (case hs => with_reducible assumption))) | (k_here; (with_reducible show wpAny _ _ (call (Value.builtin "str.rstrip") [Value.str _ _, Value.str _ _]) _ _ _); (refine KXw.rstripChars rfl ?hs ?_; (case hs => with_reducible assumption)); intro _ _) | (k_here; (with_reducible show wpAny _ _ (call (Value.builtin "str.lstrip") [Value.str _ _, Value.str _ _]) _ _ _); (refine KXw.lstripChars rfl ?hs ?_; (case hs => with_reducible assumption)); intro _ _) | walk_at "wk"))
        all_goals try exact absurd q1 (by with_reducible assumption)
        exact CutP.mk (by k_asm) (by rw [hk]; rfl) (by k_asm) (by repeat' (first | exact sub_refl _ | refine sub_cons ?_))
      by_cases q2 : ((Txt.rstripChars (Txt.slice (Txt.lstripChars x (Str.ofString "0")) (some (dg : Int)) none) (Str.ofString "0")) == Str.ofString "5") = true
      · have q2' := heq.mp q2
        by_cases q3 : ((val ((ls (sgs x)).take dg) : Nat) : Int).fmod 2 = 1
        · have hk := hk1 (.inr ⟨q2', (by have := fmodN (val ((ls (sgs x)).take dg)) 2; rw [show ((2 : Nat) : Int) = 2 from rfl] at this; omega)⟩)
          (repeat' (first | (k_here; (with_reducible show wpAny _ _ (call (Value.type "int") [Value.str _ _]) _ _ _); (refine KIN.call_text (by with_reducible assumption) (by omega) ?_)) | (k_here; (with_reducible show wpAny _ _ (call (Value.type "str") [Value.int _ _]) _ _ _); (refine P.str_of_int ?hs ?_; (case hs => with_reducible assumption))) | (k_here; (with_reducible show wpAny _ _ (call (Value.builtin "str.rstrip") [Value.str _ _, Value.str _ _]) _ _ _); (refine KXw.rstripChars rfl ?hs ?_; (case hs => with_reducible assumption)); intro _ _) | (k_here; (with_reducible show wpAny _ _ (call (Value.builtin "str.lstrip") [Value.str _ _, Value.str _ _]) _ _ _); (refine KXw.lstripChars rfl ?hs ?_; (case hs => with_reducible assumption)); intro _ _) | walk_at "wk"))
          all_goals try exact absurd (by with_reducible assumption) q1
          all_goals try (first | exact absurd q3 (by with_reducible assumption) | (exfalso; omega))
          exact CutP.mk (by k_asm) (by rw [hk]; rfl) (by k_asm) (by repeat' (first | exact sub_refl _ | refine sub_cons ?_))
        · have hk := hk0 (by rintro (z | z); (exact q1 (hlt.mpr z)); (have z2 := z.2; exact q3 (by have := fmodN (val ((ls (sgs x)).take dg)) 2; rw [show ((2 : Nat) : Int) = 2 from rfl] at this; omega)))
          (repeat' (first | (k_here; (with_reducible show wpAny _ _ (call (Value.type "int") [Value.str _ _]) _ _ _); (refine KIN.call_text (by with_reducible assumption) (by omega) ?_)) | (k_here; (with_reducible show wpAny _ _ (call (Value.type "str") [Value.int _ _]) _ _ _); (refine P.str_of_int ?hs ?_; (case hs => with_reducible assumption))) | (k_here; (with_reducible show wpAny _ _ (call (Value.builtin "str.rstrip") [Value.str _ _, Value.str _ _]) _ _ _); (refine KXw.rstripChars rfl ?hs ?_; (case hs => with_reducible assumption)); intro _ _) | (k_here; (with_reducible show wpAny _ _ (call (Value.builtin "str.lstrip") [Value.str _ _, Value.str _ _]) _ _ _); (refine KXw.lstripChars rfl ?hs ?_; (case hs => with_reducible assumption)); intro _ _) | walk_at "wk"))
          all_goals try exact absurd (by with_reducible assumption) q1
          all_goals try (first | exact absurd (by with_reducible assumption) q3 | (exfalso; omega))
          exact CutP.same (by k_asm) rfl (by rw [hk]) (by k_asm) (by repeat' (first | exact sub_refl _ | refine sub_cons ?_))
      · have q2b : ((Txt.rstripChars (Txt.slice (Txt.lstripChars x (Str.ofString "0")) (some (dg : Int)) none) (Str.ofString "0")) == Str.ofString "5") = false := eq_false_of_ne_true q2
        have hk := hk0 (by rintro (z | z); (exact q1 (hlt.mpr z)); (exact q2 (heq.mpr z.1)))
        (repeat' (first | (k_here; (with_reducible show wpAny _ _ (call (Value.type "int") [Value.str _ _]) _ _ _); (refine KIN.call_text (by with_reducible assumption) (by omega) ?_)) | (k_here; (with_reducible show wpAny _ _ (call (Value.type "str") [Value.int _ _]) _ _ _); (refine P.str_of_int ?hs ?_; (case hs => with_reducible assumption))) | (k_here; (with_reducible show wpAny _ _ (call (Value.builtin "str.rstrip") [Value.str _ _, Value.str _ _]) _ _ _); (refine KXw.rstripChars rfl ?hs ?_; (case hs => with_reducible assumption)); intro _ _) | (k_here; (with_reducible show wpAny _ _ (call (Value.builtin "str.lstrip") [Value.str _ _, Value.str _ _]) _ _ _); (refine KXw.lstripChars rfl ?hs ?_; (case hs => with_reducible assumption)); intro _ _) | walk_at "wk"))
        all_goals try exact absurd (by with_reducible assumption) q1
        exact CutP.same (by k_asm) rfl (by rw [hk]) (by k_asm) (by repeat' (first | exact sub_refl _ | refine sub_cons ?_))
    case' re =>
      intro tK h9 tk9 F9 N9
      clear FF NN hlt heq hk1 hk0 htl hv hv2
      (try dsimp only at F9)
      (try dsimp only)
      obtain ⟨f1, f2, f3, f4, f5, f6, f7⟩ := str_facts K hkb hkp ((K : Nat) : Int) rfl
      (repeat' (first | ((fail_if_success (first | (with_reducible show wpAny _ _ (exec (Stmt.While _ _ _ _) _) _ _ _) | (with_reducible show wpAny _ _ (exec (Stmt.Raise _ _ _) _) _ _ _) | (with_reducible show WhStep _ _ _ _ _ _ _ _ _ _ _))); (first | (k_here; (with_reducible show wpAny _ _ (call (Value.type "int") [Value.str _ _]) _ _ _); (refine KIN.call_text (by with_reducible assumption) (by omega) ?_)) | (k_here; (with_reducible show wpAny _ _ (call (Value.type "str") [Value.int _ _]) _ _ _); (refine P.str_of_int ?hs ?_; (case hs => with_reducible assumption))) | (k_here; (with_reducible show wpAny _ _ (call (Value.builtin "str.rstrip") [Value.str _ _, Value.str _ _]) _ _ _); (refine KXw.rstripChars rfl ?hs ?_; (case hs => with_reducible assumption)); intro _ _) | (k_here; (with_reducible show wpAny _ _ (call (Value.builtin "str.lstrip") [Value.str _ _, Value.str _ _]) _ _ _); (refine KXw.lstripChars rfl ?hs ?_; (case hs => with_reducible assumption)); intro _ _) | walk_at "wk"))))
      · rw [hcut, if_pos (by omega)] at hret
        exact Ret.str hret (by k_asm) (by k_asm) (by repeat' (first | exact sub_refl _ | refine sub_cons ?_)) rfl
      · rw [hcut, if_neg (by omega), if_pos (by omega)] at hret
        exact Ret.ii hret (by k_asm) (by k_asm) (by repeat' (first | exact sub_refl _ | refine sub_cons ?_)) (by k_mem) (by first | assumption | exact ktn_ltOf (by assumption) | exact ktn_ltOf (And.right (by assumption)) | exact ktn_ltOf (And.right (And.right (by assumption))) | exact ktn_ltOf (And.right (And.right (And.right (by assumption)))) | exact ktn_ltOf (And.right (And.right (And.right (And.right (by assumption))))) | exact ktn_ltOf (And.right (And.right (And.right (And.right (And.right (by assumption)))))) | exact ktn_ltOf (And.right (And.right (And.right (And.right (And.right (And.right (by assumption))))))) | exact ktn_ltOf (And.right (And.right (And.right (And.right (And.right (And.right (And.right (by assumption)))))))) | exact ktn_ltOf (And.right (And.right (And.right (And.right (And.right (And.right (And.right (And.right (by assumption))))))))) | exact ktn_ltOf (And.right (And.right (And.right (And.right (And.right (And.right (And.right (And.right (And.right (by assumption)))))))))) | exact ktn_ltOf (And.right (And.right (And.right (And.right (And.right (And.right (And.right (And.right (And.right (And.right (by assumption))))))))))) | exact ktn_ltOf (And.right (And.right (And.right (And.right (And.right (And.right (And.right (And.right (And.right (And.right (And.right (by assumption))))))))))))) rfl rfl
      · rw [hcut, if_neg (by omega), if_neg (by omega)] at hret
        exact Ret.ii hret (by k_asm) (by k_asm) (by repeat' (first | exact sub_refl _ | refine sub_cons ?_)) (by k_mem) (by first | assumption | exact ktn_ltOf (by assumption) | exact ktn_ltOf (And.right (by assumption)) | exact ktn_ltOf (And.right (And.right (by assumption))) | exact ktn_ltOf (And.right (And.right (And.right (by assumption)))) | exact ktn_ltOf (And.right (And.right (And.right (And.right (by assumption))))) | exact ktn_ltOf (And.right (And.right (And.right (And.right (And.right (by assumption)))))) | exact ktn_ltOf (And.right (And.right (And.right (And.right (And.right (And.right (by assumption))))))) | exact ktn_ltOf (And.right (And.right (And.right (And.right (And.right (And.right (And.right (by assumption)))))))) | exact ktn_ltOf (And.right (And.right (And.right (And.right (And.right (And.right (And.right (And.right (by assumption))))))))) | exact ktn_ltOf (And.right (And.right (And.right (And.right (And.right (And.right (And.right (And.right (And.right (by assumption)))))))))) | exact ktn_ltOf (And.right (And.right (And.right (And.right (And.right (And.right (And.right (And.right (And.right (And.right (by assumption))))))))))) | exact ktn_ltOf (And.right (And.right (And.right (And.right (And.right (And.right (And.right (And.right (And.right (And.right (And.right (by assumption))))))))))))) rfl (by omega)
 case hZ => delta id; exact pair_ _

/-! refusal.code: an attribute read off the exception's own dict -/
theorem look_dict {oD : Obj} {mm : Str → Option Value} {name : Str} {v : Value} (hD : DictIs oD mm) (hm : mm name = some v) : lookIn name oD = some (some v) := by
  obtain ⟨es, ep, hd, hs, hf⟩ := hD
  have h1 := (hf name).trans hm
  unfold lookIn
  rw [hd]
  dsimp only
  unfold nsFind findBy at h1
  rw [← Array.find?_toList] at h1
  obtain ⟨e, he, h2⟩ := Option.map_eq_some_iff.mp h1
  rw [he, ← h2]
section
variable {w : World} {A : Around} {R : Result → Shared → Prop} {E : Value → Shared → Prop} {h : Heap} {g : Array GenState} {d : Drawn} {t : Nat} {os : OsState}
theorem find_exc {oD : Obj} {mm : Str → Option Value} {name : Str} {v : Value} (hD : DictIs oD mm) (hm : mm name = some v) (hf : findIn (Mine.K w.params) (.ref 34) name = some none) : findObj (Mine.K w.params) 34 (some oD) name = some (.value v) := by
  have hc : (clsIn (Mine.K w.params) 34).map (·.hasDict) = some true := by kernel_rfl
  obtain ⟨cd, hc, hd⟩ := Option.map_eq_some_iff.mp hc
  unfold findObj
  rw [hc, Option.bind_some, hf, Option.bind_some]
  dsimp only [Option.bind_some]
  unfold W.ownOf
  rw [hd, if_pos rfl]
  dsimp only
  rw [look_dict hD hm]
  rfl
theorem ga_exc {e : Addr} {oe oD : Obj} {name : Str} {tk : Tok} {v : Value} (X : (Mine.K w.params).In h) (I : InstAt h e oe 34 (some oD)) (hf : findObj (Mine.K w.params) 34 (some oD) name = some (.value v))
    (hq : R (.ok (.ret v)) ⟨h, g, d, t, os⟩) :
    codeAny (model prg w) A (.call (.builtin "BaseException.__getattribute__") ⟨[.ref e, .str name tk], []⟩) R ⟨h, g, d, t, os⟩ := by
  have hk : builtinKind "BaseException.__getattribute__" = some .slot := by decide +kernel
  have hsplit : splitId "BaseException.__getattribute__" = some ("BaseException", "__getattribute__") := by decide +kernel
  have sub : Looks (model prg w) h (isInstance (.ref e) (.type "BaseException")) true := I.type.andThen (looks_mroIn X (by kernel_rfl))
  have L0 := I.type (M := model prg w)
  have L1 := looks_find (M := model prg w) X I hf
  refine codeAny_call_builtin F.attrBase_Exception.ga.plain F.entry_bexc_ga (@check_slot (model prg w) _ _ ⟨h, g, d, t, os⟩ "BaseException.__getattribute__" "BaseException" "__getattribute__" (.ref e) [.str name tk] [] _ hk hsplit sub (F.args_bexc_ga (.ref e) (.str name tk)) ?_)
  refine wpAny_bind (wpAny_pure (wpAny_bind (wpAny_pure (wpAny_bind (L0.at (wpAny_bind (L1.at ?_)))))))
  exact wpAny_pure hq
theorem load_exc {e : Addr} {oe oD : Obj} {name : Str} {v : Value} {expr : Bool} {Q : Value → Shared → Prop} (X : (Mine.K w.params).In h) (I : InstAt h e oe 34 (some oD)) (hf : findObj (Mine.K w.params) 34 (some oD) name = some (.value v))
    (hh : handedIn v = true) (hq : Q v ⟨h, g, d, t + 1, os⟩) : wpAny (model prg w) A (getAttr (.ref e) name expr) Q E ⟨h, g, d, t, os⟩ := by
  have L0 := I.type (M := model prg w)
  have L1 := looks_findIn (M := model prg w) X (show findIn (Mine.K w.params) (.ref 34) "__getattribute__" = some (some (.builtin "BaseException.__getattribute__")) by kernel_rfl)
  have L2 := looks_findIn (M := model prg w) X (show findIn (Mine.K w.params) (.ref 34) "__getattr__" = some none by kernel_rfl)
  have f3 := F.attrBase_Exception.ga.bind (.ref e)
  have hx2 : (Value.builtin "BaseException.__getattribute__" == Value.builtin "object.__getattribute__") = false := by decide +kernel
  unfold getAttr getAttrBy
  refine wpAny_bind (wpAny_mkText (wpAny_holding (wpAny_bind (L0.at (wpAny_bind (L1.at ?_))))))
  dsimp only
  rw [hx2, Bool.and_false, if_neg (by decide)]
  unfold getAttrByItsOwn
  refine wpAny_bind (L2.at ?_)
  refine wpAny_bind (wpAny_attempt (wpAny_holding ?_))
  rw [show callGetattribute (.ref e) (.str name t) (.builtin "BaseException.__getattribute__") expr = boundAndCalled (.builtin "BaseException.__getattribute__") (.ref e) (.str name t) from by cases expr <;> rfl]
  unfold boundAndCalled
  rw [f3]
  refine wpAny_bind (wpAny_pure (wpAny_call (ga_exc X I hf ?_)))
  dsimp only
  rw [handedOut_of hh]
  exact wpAny_pure hq
end

/-! the exception caught: its dict kept -/
section
variable {M : Model} {A : Around} {s : Shared} {e : Addr} {D : Option Addr} {oe : Obj}
/-- what a gentle tree does with the heap, and the exception's dict is what it was -/
theorem gentle_heap {m : Sem Unit} (G : Gentle m) (he : s.heap.get? e = some oe) (hd : oe.dict = D) {P : Heap → Prop} {E : Value → Shared → Prop}
    (h : wpAny M A m (fun _ s'' => ∃ h', s'' = { s with heap := h' } ∧ P h') E s) {Q : Unit → Shared → Prop} (hQ : ∀ h' oe', P h' → h'.get? e = some oe' → oe'.dict = D → Q () { s with heap := h' }) : wpAny M A m Q E s :=
  wpAny_mono (gentle_any G he hd h) (fun _ s'' z => by
    obtain ⟨⟨h', rfl, hp⟩, oe', he', hd'⟩ := z
    exact hQ h' oe' hp he' hd') fun _ _ z => z
end
section
variable {w : World} {A₀ : Around} {E : Value → Shared → Prop} {s' : Shared} {base g g₀ G : Heap} {outer : List Env} {L a e : Addr} {m : Str → Option Value} {name : Str} {scope : Scope} {cd : Value}
  {n : Str} {b₀ : Stmt} {suite : List Stmt} {pos np : Pos} {rest : List ExceptHandler} {Q : Flow → Shared → Prop} {news : Led}
  {p : Program} {loose : List Str} {mean : ExcName → Option Value} {mg mb : Str → Option Value} {x y : Str}
theorem caught_D (R : FlyD base G (envOf name scope L a cd :: outer) e x news s'.heap) (F : Fr g L G m) (K : Below A₀ base outer g) (XB : (Mine.K w.params).In base) (TB : Top p loose mean mg mb base) (D : KtsDicts (outer.filterMap (·.frame)) g)
    (ex : nsIn (Mine.K w.params) mainGlobals y = some (some (.ref 34))) (q : ktsIn (Mine.K w.params) 34 "BaseException" = true)
    (k : ∀ h' g' tk oe Dd oD t0, KtsTurn (outer.filterMap (·.frame)) g g' → Fr g' L h' (fun z => if z = n then some (.ref e) else m z) → News g' L h' ((e, oe) :: (Dd, oD) :: news) → InstAt h' e oe 34 (some oD) → DictIs oD (codeNs x t0) → Below A₀ base outer g' → (Mine.K w.params).In g' → Top p loose mean mg mb g' → KtsDicts (outer.filterMap (·.frame)) g' →
      wpAny (model prg w) ((A₀.deeper (envOf name scope L a cd)).mark (some (.ref e))) (execs (b₀ :: suite) (envOf name scope L a cd))
        (fun f s₄ => wpAny (model prg w) (A₀.deeper (envOf name scope L a cd)) (do bindName (envOf name scope L a cd) n .none; unbindBehindTheSuite (envOf name scope L a cd) n pos) (fun _ s₅ => Q f s₅) E s₄)
        (AsSuiteRaised (model prg w) ((A₀.deeper (envOf name scope L a cd)).mark (some (.ref e))) (envOf name scope L a cd) n pos (notedBy (model prg w) ((A₀.deeper (envOf name scope L a cd)).mark (some (.ref e))) (envOf name scope L a cd) (cameBackBy (model prg w) (A₀.deeper (envOf name scope L a cd)) (envOf name scope L a cd) E)))
        { s' with heap := h', toks := tk })
    (hk : scope.kind = .function := by rfl) (hlo : (envOf name scope L a cd).kindOf n = some .local := by rfl) (hx : (envOf name scope L a cd).kindOf y = some .globalImplicit := by rfl) (hd : (y == ("__debug__" : Str)) = false := by decide) :
    wpAny (model prg w) (A₀.deeper (envOf name scope L a cd)) (noteFrame (.ref e) (envOf name scope L a cd))
      (fun _ s₂ => wpAny (model prg w) (A₀.deeper (envOf name scope L a cd)) (setFlight (.ref e) none) (fun _ s₃ =>
        wpAny (model prg w) (A₀.deeper (envOf name scope L a cd)) (handleBy (.ref e) (envOf name scope L a cd) (.ExceptHandler (some (.Name y np)) (some n) (b₀ :: suite) pos :: rest)) Q E s₃) E s₂) E s' := by
  obtain ⟨t, t0, Dd, oD, oe₀, ⟨⟨B, hB, hBG, hl, hfl, hnew⟩, htup⟩, hDi, he₀, hdd₀, hsm⟩ := R
  have hL : B.get? L = none := by
    obtain ⟨_, ⟨L', _, hf, hn', _⟩, _⟩ := hfl.2.2.1
    obtain rfl : L = L' := Option.some.inj hf
    exact hn'
  refine gentle_heap (gentle_note _ _) he₀ hdd₀ (P := fun h' => Heap.HeldW B (envOf name scope L a cd :: outer) e (.ref 34) (.ref t) L h' ∧ s'.heap.UpToSlots h') (wpAny_looks_onW (Around.frames_deeper K.stack) rfl hfl fun h' z1 z2 => ⟨h', rfl, z1, z2⟩) fun h₄ oe₄ ⟨hheld₄, hsm₄⟩ he₄ hdd₄ => ?_
  refine gentle_heap (gentle_setFlight _ _) he₄ hdd₄ (P := fun h' => Heap.FlyingW B (envOf name scope L a cd :: outer) e (.ref 34) (.ref t) h' ∧ h₄.UpToSlots h') (wpAny_landsW hheld₄ fun h' z1 z2 => ⟨h', rfl, z1, z2⟩) fun h₅ oe₅ ⟨hheld, hsm₅'⟩ he₅ hdd₅ => ?_
  have hsm₅ := hsm₄.trans hsm₅'
  obtain ⟨g₅, T₅, F₅, K₅⟩ := kts_ground K F hBG hheld.1 (hsm.trans hsm₅)
  have X₅ : (Mine.K w.params).In g₅ := XB.keeps K₅.stays
  have P₅ : TopRead p loose mg mb g₅ := topRead_of (TB.keeps K₅.stays)
  obtain ⟨ob, hob, hobc⟩ := hheld.there
  obtain ⟨nm, q', N, bs, bm, hdct, sn, sub, ab, col, dd, k0, k1, k2, k3, k5, newId, hC, hbase, hbT⟩ := kts_cls X₅ q
  have hC₅ := F₅.keep _ _ hC
  refine wpAny_handleBy_cons (codeAny_handlers_test (name_K F₅ X₅ P₅ ex ?_ hk hx hd)) (by intro q; cases q)
  refine wpAny_excMatches_sub_self hC₅ hob hobc hbase (codeAny_handlers_suite_as ?_)
  refine gentle_heap (gentle_setFlight _ _) he₅ hdd₅ (P := fun h' => Heap.FlyingW B (envOf name scope L a cd :: outer) e (.ref 34) (.ref t) h' ∧ h₅.UpToSlots h') (lands_againW hheld fun h' z1 z2 => ⟨h', rfl, z1, z2⟩) fun h₆ oe₆ ⟨hfl₆, hsm₆⟩ he₆ hdd₆ => ?_
  obtain ⟨g₆, T₆, F₆, K₆⟩ := kts_ground K F hBG hfl₆.1 ((hsm.trans hsm₅).trans hsm₆)
  obtain ⟨oe, ws, hoe, hoec, hoed, hoe0⟩ := hfl₆.first
  rw [he₆] at hoe
  cases hoe
  have ne₆ : g₆.get? e = none := T₆.none_ _ (kts_fresh F hBG hfl₆.2.1 fun o ho m => by
    obtain ⟨_, o', ho', hd⟩ := K.frames.mem m
    rw [ho] at ho'
    cases ho'
    obtain ⟨sl, hs⟩ := ((hsm.trans hsm₅).trans hsm₆) _ _ (F.keep _ _ ho) hd
    rw [he₆] at hs
    cases hs
    exact hd _ hoed)
  have N₆ := News.more F₆ News.nil he₆ (fun es n q => by rw [hoed] at q; cases q) ne₆
  have Nl : News g₆ L h₆ ((Dd, oD) :: news) := fun q hq => ⟨hfl₆.1 _ _ (hl q hq).1, (fun z => by have := (hl q hq).1; rw [z, hL] at this; cases this), T₆.none_ _ (kts_none F.keep (hl q hq).2.1)⟩
  have X₆ : (Mine.K w.params).In g₆ := XB.keeps K₆.stays
  have P₆ : Top p loose mean mg mb g₆ := TB.keeps K₆.stays
  have D₆ : KtsDicts (outer.filterMap (·.frame)) g₆ := D.turn T₆
  refine stN F₆ (news := (e, oe₆) :: (Dd, oD) :: news) (fun q hq => by
    rcases List.mem_cons.mp hq with rfl | hq
    · exact N₆ _ (.head _)
    · exact Nl q hq) (fun h₇ F₇ N₇ => ?_) hk hlo
  refine k h₇ g₆ _ oe₆ Dd oD t0 T₆ F₇ N₇ ⟨(N₇ _ (.head _)).1, hoec, ?_, ?_⟩ hDi K₆ X₆ P₆ D₆
  · unfold notCls
    rw [hoed]
  · rw [hdd₆]
    exact (N₇ _ (.tail _ (.head _))).1
end

/-! a function entered, the ground of the caller's frames free to turn -/
noncomputable def LeaveT (K : Frag) (env : Env) (A₀ : Around) (base : Heap) (outer : List Env) (p : Program) (loose : List Str) (mean : ExcName → Option Value) (mg mb : Str → Option Value) (h₀ : Heap) (L : Addr) (m : Str → Option Value) (g : Heap) (R : Result → Shared → Prop) (v : Value) (s' : Shared) : Prop :=
  ∃ g' L' m' news', KtsTurn ((env :: outer).filterMap (·.frame)) g g' ∧ Fr g' L' s'.heap m' ∧ News g' L' s'.heap news' ∧ ∀ h₀', KtsTurn (outer.filterMap (·.frame)) h₀ h₀' → Fr h₀' L s'.heap m → News h₀' L s'.heap news' → Below A₀ base outer h₀' → K.In h₀' → Top p loose mean mg mb h₀' →
    KtsDicts (outer.filterMap (·.frame)) h₀' → R (.ok (.ret v)) s'
section
variable {prog : Program} {w : World} {A₀ A : Around} {s : Shared} {base h₀ : Heap} {outer : List Env} {env : Env} {L : Addr} {m : Str → Option Value} {news : Led} {K : Frag} {p : Program} {loose : List Str} {mean : ExcName → Option Value} {mg mb : Str → Option Value}
    {R : Result → Shared → Prop} {name qual : Str} {params : Arguments} {body : List Stmt} {scope : Scope} {dV kV doc pm cdv ct oc : Value} {an od : Option Addr} {osl : Array (Option Value)} {f : Addr} {args : Args} {binds : List (Str × Value)}
theorem turn_back {news' : Led} {g g' : Heap} {s' : Shared} {L' : Addr} {m' : Str → Option Value} (B : Below A₀ base outer h₀) (F : Fr h₀ L s.heap m) (hf : env.frame = some L) (st : h₀.StaysIn g) (FG : Fr h₀ L g m) (XB : K.In base) (TB : Top p loose mean mg mb base) (D : KtsDicts (outer.filterMap (·.frame)) h₀)
    (T' : KtsTurn ((env :: outer).filterMap (·.frame)) g g') (F' : Fr g' L' s'.heap m') (N' : News g' L' s'.heap news') :
    ∃ h₀', KtsTurn (outer.filterMap (·.frame)) h₀ h₀' ∧ Fr h₀' L s'.heap m ∧ News h₀' L s'.heap news' ∧ Below A₀ base outer h₀' ∧ K.In h₀' ∧ Top p loose mean mg mb h₀' ∧ KtsDicts (outer.filterMap (·.frame)) h₀' := by
  have nL₀ : h₀.get? L = none := kts_self F
  obtain ⟨oL, es, ep, hLg, hLd, hLk, hLf⟩ := FG.ns
  have mem : ∀ b, b ∈ (env :: outer).filterMap (·.frame) → b = L ∨ b ∈ outer.filterMap (·.frame) := fun b hb => mem_frame hf hb
  obtain ⟨sl, hs⟩ := T'.up hLg
  obtain ⟨T₁, S₁⟩ := kts_turn_at (h := s'.heap) (fs := outer.filterMap (·.frame)) (g := h₀)
    (fun b hb => by
      obtain ⟨_, o, ho', _⟩ := B.frames.mem hb
      exact ⟨o, ho'⟩)
    (fun b o e nmem => F'.keep b o (T'.other b o (st b o e) (fun q => by
      rcases mem b q with z | z
      · rw [z, nL₀] at e
        cases e
      · exact nmem z)))
    (fun b o e hm => by
      obtain ⟨sl', hs'⟩ := T'.up (st b o e)
      exact ⟨sl', F'.keep _ _ hs'⟩)
  have B₃ : Below A₀ base outer (ktsHeap s'.heap (outer.filterMap (·.frame)) h₀) := ⟨B.stack, fun b o e => T₁.other b o (B.stays b o e) (fun hm => by
    rw [(B.frames.mem hm).1] at e
    cases e), B.frames.of_keeps fun b o e _ => by
    obtain ⟨sl', hs'⟩ := T₁.up e
    exact ⟨_, hs', rfl⟩⟩
  refine ⟨_, T₁, ⟨⟨_, es, ep, F'.keep _ _ hs, hLd, hLk, hLf⟩, S₁, by rw [T₁.size]; exact F.above⟩, (fun p hp => ⟨(N' p hp).1, fun q => ?_, ?_⟩), B₃, (XB.keeps B₃.stays), (TB.keeps B₃.stays), (D.turn T₁)⟩
  · have := (N' p hp).2.2; rw [q, hs] at this; cases this
  · refine T₁.none_ _ ?_
    cases q : h₀.get? p.1 with
    | none => rfl
    | some o =>
      obtain ⟨sl', hs'⟩ := T'.up (st _ _ q)
      have := (N' p hp).2.2
      rw [hs'] at this
      cases this
theorem dicts_in (hf : env.frame = some L) (FG : Fr h₀ L g m) (st : h₀.StaysIn g) (D : KtsDicts (outer.filterMap (·.frame)) h₀) : KtsDicts ((env :: outer).filterMap (·.frame)) g := fun b hb => by
  obtain ⟨oL, es, ep, hLg, hLd, _⟩ := FG.ns
  rcases mem_frame hf hb with rfl | hb
  · exact ⟨oL, es, ep, hLg, hLd⟩
  · obtain ⟨o, es', n', ho', hd'⟩ := D b hb
    exact ⟨o, es', n', st b o ho', hd'⟩
theorem code_defT (B : Below A₀ base outer h₀) (F : Fr h₀ L s.heap m) (X₀ : K.In h₀) (N : News h₀ L s.heap news) (T : Top p loose mean mg mb h₀) (XB : K.In base) (TB : Top p loose mean mg mb base) (D : KtsDicts (outer.filterMap (·.frame)) h₀)
    (hA : A.frames = some (env :: outer)) (hf : env.frame = some L) (hke : env.scope.kind = .function)
    (ho : K.lookup f = some ⟨oc, od, .func (fnOf name qual params body scope dV kV doc pm an cdv ct), osl⟩) (hcd : codeIn K cdv qual = true) (hroom : A.depth < recursionLimit)
    (hbind : BindsTo s (fnOf name qual params body scope dV kV doc pm an cdv ct) args binds) (hloc : ∀ y ∈ binds, scope.names.lookup y.1 = some .local)
    (h : ∀ g L' h₁, Fr h₀ L g m → Fr g L' h₁ (fun y => binds.reverse.lookup y) → News g L' h₁ news → Below A base (env :: outer) g → K.In g → Top p loose mean mg mb g → KtsDicts ((env :: outer).filterMap (·.frame)) g →
      wpAny (model prog w) (A.deeper (envOf qual scope L' f cdv)) (execs body (envOf qual scope L' f cdv))
        (fun fl s' => LeaveT K env A₀ base outer p loose mean mg mb h₀ L m g R (match fl with | .ret v => v | _ => .none) s')
        (fun e s' => wpAny (model prog w) (A.deeper (envOf qual scope L' f cdv)) (leaving (envOf qual scope L' f cdv) e) (fun _ s'' => R (.error e) s'') (fun e' s'' => R (.error e') s'') s')
        { s with heap := h₁, toks := s.toks + binds.length })
    (hco : scope.isCoroutine = false) (hgen : scope.isGenerator = false) (hk : scope.kind = .function)
    (hcell : ∀ x ∈ scope.names, x.2 ≠ .cell) : codeAny (model prog w) A (.call (.ref f) args) R s := by
  have X := X₀.keeps F.keep
  refine codeAny_call_def (fd := fnOf name qual params body scope dV kV doc pm an cdv ct) (body := body) (binds := binds) hroom (X _ _ ho) rfl (T.nolimit.keeps F.keep) (codeRec_of X hcd) rfl hbind hcell hloc (fun h₁ hns hk₁ => ?_) hco hgen hk
  obtain ⟨FG, BG, st, _⟩ := groundX (R := fun _ _ => True) B F N hA hf hke
  refine wpAny_mono (h _ s.heap.objs.size h₁ FG ⟨hns, fun b o e => hk₁ b o (of_hideAll _ e), Nat.le_of_eq (hideAll_size _ _)⟩
    (fun p hp => ⟨hk₁ _ _ (N p hp).1, Nat.ne_of_lt (Heap.lt_size (N p hp).1), hideAll_none _ (List.mem_map_of_mem hp)⟩) BG (X₀.keeps st) (T.keeps st) (dicts_in hf FG st D)) (fun fl s' hl => ?_) fun _ _ y => y
  obtain ⟨g', L', m', news', T', F', N', k⟩ := hl
  obtain ⟨h₀', z1, z2, z3, z4, z5, z6, z7⟩ := turn_back B F hf st FG XB TB D T' F' N'
  exact k h₀' z1 z2 z3 z4 z5 z6 z7
end

/-! _law_heard: what the work gives, or the code of the refusal -/
noncomputable def OutH {γ : Type} (o : Option γ) (Out : γ → Value → Led → Prop) (x : Str) (r : Value) (tl : Led) : Prop := match o with
  | some g => Out g r tl
  | none => tl = [] ∧ ∃ t, r = .str x t
/-- a contract of a call in which the ground of the frames may turn -/
noncomputable def MeetsT (w : World) (f : Addr) (d u : Nat) (vs : List Value) (args : Led) (Out : Value → Led → Prop) : Prop :=
  ∀ (p : Program) (loose : List Str) (mean : ExcName → Option Value) (mg mb : Str → Option Value) (dp un : Nat) (gd : Option (List Code)) (cn : Str) (cs : Scope) (a : Addr) (ccd : Value) (cl : List (Str × Addr)) (outer : List Env) (A₀ : Around) (base h₀ : Heap) (L : Addr) (m : Str → Option Value) (news : Led) (s : Shared) (Q E : Value → Shared → Prop),
    PySem.Challenge.rw_pf0014_01 = PySem.Challenge.rw_pf0014_01 →
    Below A₀ base outer h₀ → Fr h₀ L s.heap m → (Mine.K w.params).In h₀ → News h₀ L s.heap (args ++ news) → Top p loose mean mg mb h₀ → cs.kind = .function → dp + d < recursionLimit → un + u < cLine →
    (Mine.K w.params).In base → Top p loose mean mg mb base → KtsDicts (outer.filterMap (·.frame)) h₀ →
    (∀ r tl h₀' h' tk', KtsTurn (outer.filterMap (·.frame)) h₀ h₀' → Fr h₀' L h' m → News h₀' L h' (tl ++ (args ++ news)) → (∀ q ∈ args ++ news, ∀ p ∈ tl, q.1 < p.1) → Below A₀ base outer h₀' → (Mine.K w.params).In h₀' → Top p loose mean mg mb h₀' → KtsDicts (outer.filterMap (·.frame)) h₀' → Out r tl → Q r { s with heap := h', toks := tk' }) →
    wpAny (model prg w) (ktrTop dp un gd cn cs L a ccd cl outer) (call (.ref f) vs) Q E s
theorem news_sub {h₀ h' : Heap} {L : Addr} {n n' : Led} (N : News h₀ L h' n') (hs : ∀ q ∈ n, q ∈ n') : News h₀ L h' n := fun q hq => N q (hs q hq)
set_option maxHeartbeats 4000000 in
theorem law_heard {γ : Type} (w : World) (f : Addr) (d u : Nat) (oc : Value) (od : Option Addr) (fd : FuncData) (sl : Array (Option Value)) (rest : Led) (o : Option γ) (Out : γ → Value → Led → Prop) (C : MeetsA w f d u [] ((f, ⟨oc, od, .func fd, sl⟩) :: rest) o Out (Str.ofString "OV")) : MeetsT w 410 (d + 2) (u + 20) [.ref f] ((f, ⟨oc, od, .func fd, sl⟩) :: rest) (OutH o Out (Str.ofString "OV")) := by
 refine (?fZ : PullF _) ?pZ ?qZ ?hZ
 case fZ => exact fun _ q _ => q
 case pZ =>
  unfold MeetsT
  k_fill
  intro p loose mean mg mb dp un gd cn cs a ccd cl outer A₀ base h₀ L m news s Q E hrw B F X N T hk hd hu XB TB D hret
  clear hrw
  refine wpAny_call ?_
  k_dflt (refine' code_defT ?k1 ?k2 ?k3 ?k4 ?k5 ?XB ?TB ?D ?kA ?kF ?kK ?k6 ?k7 ?k8 ?k9 ?kB ?_ ?c2 ?c3 ?c4 ?c5; (case kA => exact rfl); (case kF => exact rfl); (case kK => exact hk); (case k1 => exact B); (case k2 => exact F); (case k3 => exact X); (case k4 => exact N); (case k5 => exact T); (case XB => exact XB); (case TB => exact TB); (case D => exact D); (case k6 => k_is); (case k7 => k_is); (case k8 => ktr_room); (case k9 => exact BindsTo.of_eq rfl); (case kB => exact locs rfl); (case c2 => exact rfl); (case c3 => exact rfl); (case c4 => exact rfl); (case c5 => decide); k_whole; intro g' L' h' FG' F' N' B' X' T' D'; (try dsimp only); (try k_lift B'); (try k_fold))
  (repeat' (first | ((fail_if_success (first | (with_reducible show wpAny _ _ (exec (Stmt.While _ _ _ _) _) _ _ _) | (with_reducible show wpAny _ _ (exec (Stmt.Raise _ _ _) _) _ _ _) | (with_reducible show WhStep _ _ _ _ _ _ _ _ _ _ _))); (first | walk_at "wk"))))
  k_dflt (refine callWith_F0 (FnAt.of (by k_asm) (.head _)) ?_)
  dsimp only [List.nil_append]
  k_dflt (refine' useA C ?k1 ?k2 ?k3 ?k4 ?k5 ?kK ?kd ?ku ?ka ?kx ?kq)
  (case k1 => k_asm)
  (case k2 => k_asm)
  (case k3 => k_asm)
  (case k4 => k_asm)
  (case k5 => k_asm)
  (case kK => exact rfl)
  (case kd => ktr_room)
  (case ku => ktr_units)
  (case ka => exact fun q hq => List.mem_append_left _ hq)
  case' kq =>
    intro r9 v9 tl9 h9 tk9 hr9 F9 N9 l9 o9
    (repeat' (first | ((fail_if_success (first | (with_reducible show wpAny _ _ (exec (Stmt.While _ _ _ _) _) _ _ _) | (with_reducible show wpAny _ _ (exec (Stmt.Raise _ _ _) _) _ _ _) | (with_reducible show WhStep _ _ _ _ _ _ _ _ _ _ _))); (first | walk_at "wk"))))
    refine ⟨_, _, _, _, KtsTurn.refl, F9, N9, ?_⟩
    intro h8 T8 F8 N8 B8 X8 P8 D8
    exact hret v9 tl9 h8 _ _ T8 F8 N8 l9 B8 X8 P8 D8 (by subst hr9; exact o9)
  case' kx =>
    intro hn9 e9 g9 h9 tk9 FG9 R9
    try dsimp only
    k_dflt (refine caught_D R9 FG9 (by assumption) XB TB (by assumption) ?ex ?q ?kc)
    (case ex => k_is)
    (case q => kts_isx)
    intro h8 g8 tk8 oe8 Dd8 oD8 t8 T8 F8 N8 I8 Di8 B8 X8 P8 D8
    (repeat' (first | ((fail_if_success (first | (with_reducible show wpAny _ _ (exec (Stmt.While _ _ _ _) _) _ _ _) | (with_reducible show wpAny _ _ (exec (Stmt.Raise _ _ _) _) _ _ _) | (with_reducible show WhStep _ _ _ _ _ _ _ _ _ _ _))); (first | walk_at "wk"))))
    refine load_exc (X8.keeps F8.keep) I8 (find_exc Di8 (v := .str (Str.ofString "OV") t8) ((if_neg (by decide)).trans (if_pos rfl)) (by kernel_rfl)) rfl ?_
    dsimp only
    (repeat' (first | ((fail_if_success (first | (with_reducible show wpAny _ _ (exec (Stmt.While _ _ _ _) _) _ _ _) | (with_reducible show wpAny _ _ (exec (Stmt.Raise _ _ _) _) _ _ _) | (with_reducible show WhStep _ _ _ _ _ _ _ _ _ _ _))); (first | walk_at "wk"))))
    subst hn9
    refine ⟨g8, _, _, _, T8, (by k_asm), (by k_asm), ?_⟩
    intro h8b T8b F8b N8b B8b X8b P8b D8b
    exact hret (.str (Str.ofString "OV") t8) [] h8b _ _ T8b F8b (news_sub N8b (by repeat' (first | exact sub_refl _ | refine sub_cons ?_))) (fun _ _ _ h => nomatch h) B8b X8b P8b D8b ⟨rfl, t8, rfl⟩
 case hZ => delta id; exact pair_ _

/-! lambdas with a code table whose state is not known; entering a function with cells, the ground free to turn -/
noncomputable def TS (P : Addr) (qual : Str) (ps : Array Value) (led : Led) : Prop :=
  TriplesOk ps.toList ∧ ∀ pos cv, codeAmong pos ps.toList = some cv → ∃ c' oc vs t, cv = .ref c' ∧ (c', oc) ∈ led ∧ oc.data = .fields vs ∧ vs[1]? = some (.str qual t) ∧ P < c'
theorem TS.nil {P : Addr} {qual : Str} {led : Led} : TS P qual #[] led := ⟨trivial, fun _ _ h => nomatch h⟩
theorem TS.mono {P : Addr} {qual : Str} {ps : Array Value} {led led' : Led} (S : TS P qual ps led) (h : ∀ q ∈ led, q ∈ led') : TS P qual ps led' :=
  ⟨S.1, fun pos cv e => by
    obtain ⟨c', oc, vs, t, h1, h2, h3⟩ := S.2 pos cv e
    exact ⟨c', oc, vs, t, h1, h _ h2, h3⟩⟩
theorem among_snoc {pos : Pos} {a b : Int} {c cv : Value} (l : List Value) (h : TriplesOk l) (hn : codeAmong pos (l ++ [rawInt a, rawInt b, c]) = some cv) : codeAmong pos l = some cv ∨ cv = c := by
  fun_induction TriplesOk l with
  | case1 =>
    simp only [List.nil_append, codeAmong, rawInt] at hn
    split at hn
    · exact .inr (Option.some.inj hn).symm
    · cases hn
  | case2 a' t b' u x rest ih =>
    simp only [List.cons_append, codeAmong] at hn ⊢
    split at hn
    · rename_i hc
      rw [if_pos hc]
      exact .inl hn
    · rename_i hc
      rw [if_neg hc]
      exact ih h hn
  | case3 l h1 h2 => exact h.elim
theorem TS.add {P : Addr} {qual : Str} {ps : Array Value} {led : Led} (S : TS P qual ps led) {pos : Pos} {c' : Addr} {oc : Obj} {vs : Array Value} {t : Tok} (hd : oc.data = .fields vs) (hv : vs[1]? = some (.str qual t)) (hP : P < c') :
    TS P qual (ps ++ #[rawInt pos.line, rawInt pos.col, .ref c']) ((c', oc) :: led) := by
  refine ⟨by rw [Array.toList_append]; exact TriplesOk_snoc _ _ _ _ S.1, fun pos' cv e => ?_⟩
  rw [Array.toList_append] at e
  rcases among_snoc _ S.1 e with e | rfl
  · obtain ⟨c₁, oc₁, vs₁, t₁, h1, h2, h3⟩ := S.2 _ _ e
    exact ⟨c₁, oc₁, vs₁, t₁, h1, .tail _ h2, h3⟩
  · exact ⟨c', oc, vs, t, rfl, .head _, hd, hv, hP⟩
section
variable {M : Model} {A : Around} {E : Value → Shared → Prop} {s : Shared} {h₀ : Heap} {L a c P : Addr} {m mg mb : Str → Option Value} {cn : Str} {cs : Scope} {ccd : Value} {cl : List (Str × Addr)} {news : List (Addr × Obj)} {g : Obj → List (Addr × Obj)}
  {p : Program} {loose : List Str} {mean : ExcName → Option Value} {name qual : Str} {params : Arguments} {body : Expr} {scope : Scope} {ps : Array Value} {pos : Pos} {firstLine : Nat} {clos : List (Str × Addr)}
theorem lam_any {Q : Value → Shared → Prop} {tl : Led} (F : Fr h₀ L s.heap m) (N : News h₀ L s.heap news) (T : Top p loose mean mg mb h₀) (C : CodeHd h₀ c P) (hcd : ccd = .ref c) (U : UpdF P (tabObj ps) news g) (S : TS P qual ps tl) (htl : ∀ q ∈ tl, q ∈ news)
    (hcl : closureFor scope (envX cn cs L a ccd cl) = pure clos)
    (h : ∀ f c' oc vs t ctv ps' h' tk, Fr h₀ L h' m → News h₀ L h' ((f, kla_obj name qual params body scope clos ((mg "__name__").getD .none) c' ctv) :: (c', oc) :: g (tabObj ps')) →
      oc.data = .fields vs → vs[1]? = some (.str qual t) → TS P qual ps' ((c', oc) :: tl) → (∀ q ∈ news, q.1 < f) → c' < f → P < c' → ((c', oc) ∈ tl ∨ ∀ q ∈ news, q.1 < c') → Q (.ref f) { s with heap := h', toks := tk }) :
    wpAny M A (makeFunction name qual params (.expr body) scope (envX cn cs L a ccd cl) [] [] [] pos firstLine) Q E s := by
  obtain ⟨own, rest, hn, hgr, h1, h2⟩ := U.split
  have hPm : (P, tabObj ps) ∈ news := by rw [hn]; exact List.mem_append_right _ (.head _)
  cases e : codeAmong pos ps.toList with
  | none =>
    refine kla_nest F N T C hcd U S.1 e hcl fun f c' oc vs t ctv h' tk F' N' hd hv l1 l2 => ?_
    have hPc : P < c' := l1 _ hPm
    exact h f c' oc vs t ctv _ h' tk F' N' hd hv (S.add hd hv hPc) (fun q hq => Nat.lt_trans (l1 q hq) l2) l2 hPc (.inr l1)
  | some cv =>
    obtain ⟨c', oc, vs, t, rfl, hm, hd, hv, hPc⟩ := S.2 _ _ e
    refine kla_hit F N T C hcd hPm S.1 e hcl fun f ctv h' tk F' N' l1 => ?_
    refine h f c' oc vs t ctv ps h' tk F' (fun q hq => ?_) hd hv (S.mono fun q hq => .tail _ hq) l1 (l1 _ (htl _ hm)) hPc (.inl hm)
    rw [hgr, ← hn] at hq
    rcases List.mem_cons.mp hq with rfl | hq
    · exact N' _ (.head _)
    rcases List.mem_cons.mp hq with rfl | hq
    · exact N' _ (.tail _ (htl _ hm))
    · exact N' _ (.tail _ hq)
end
section
variable {prog : Program} {w : World} {A₀ A : Around} {s : Shared} {base h₀ : Heap} {outer : List Env} {env : Env} {L : Addr} {m : Str → Option Value} {news : Led} {K : Frag} {p : Program} {loose : List Str} {mean : ExcName → Option Value} {mg mb : Str → Option Value}
    {R : Result → Shared → Prop} {name qual : Str} {params : Arguments} {body : List Stmt} {scope : Scope} {dV kV doc pm cdv ct oc : Value} {an od : Option Addr} {osl : Array (Option Value)} {f : Addr} {args : Args} {binds : List (Str × Value)}
theorem code_cellsT (B : Below A₀ base outer h₀) (F : Fr h₀ L s.heap m) (X₀ : K.In h₀) (N : News h₀ L s.heap news) (T : Top p loose mean mg mb h₀) (XB : K.In base) (TB : Top p loose mean mg mb base) (D : KtsDicts (outer.filterMap (·.frame)) h₀)
    (hA : A.frames = some (env :: outer)) (hf : env.frame = some L) (hke : env.scope.kind = .function)
    (ho : K.lookup f = some ⟨oc, od, .func (fnOf name qual params body scope dV kV doc pm an cdv ct), osl⟩) (hcd : codeIn K cdv qual = true) (hroom : A.depth < recursionLimit)
    (hbind : BindsTo s (fnOf name qual params body scope dV kV doc pm an cdv ct) args binds) (hkind : (binds.all fun y => scope.names.lookup y.1 == some .local || scope.names.lookup y.1 == some .cell) = true)
    (hnd : ((cellsFrom 0 scope.names []).map (·.1)).Nodup)
    (h : ∀ g L' h₁ tk cells, Fr h₀ L g m → Fr g L' h₁ (bindL (envOfC qual scope L' f cdv).kindOf binds fun _ => none) → News g L' h₁ (cells ++ news) →
      CellsAre (bindC (envOfC qual scope L' f cdv).kindOf binds fun _ => none) (cellsFrom (L' + 1) scope.names []) cells → Below A base (env :: outer) g → K.In g → Top p loose mean mg mb g → KtsDicts ((env :: outer).filterMap (·.frame)) g → h₀.StaysIn g → (∀ p ∈ news, p.1 < L') →
      wpAny (model prog w) (A.deeper (envOfC qual scope L' f cdv)) (execs body (envOfC qual scope L' f cdv))
        (fun fl s' => LeaveT K env A₀ base outer p loose mean mg mb h₀ L m g R (match fl with | .ret v => v | _ => .none) s')
        (fun e s' => wpAny (model prog w) (A.deeper (envOfC qual scope L' f cdv)) (leaving (envOfC qual scope L' f cdv) e) (fun _ s'' => R (.error e) s'') (fun e' s'' => R (.error e') s'') s')
        { s with heap := h₁, toks := tk })
    (hco : scope.isCoroutine = false) (hgen : scope.isGenerator = false) (hk : scope.kind = .function) : codeAny (model prog w) A (.call (.ref f) args) R s := by
  have X := X₀.keeps F.keep
  obtain ⟨FG, BG, st, _⟩ := groundX (R := fun _ _ => True) B F N hA hf hke
  refine codeAny_call_function hroom (X _ _ ho) rfl hco hgen rfl (codeRec_of X hcd) (hbind _ _ _ _ ?_)
  refine wpAny_newFunctionEnv_cells hk (kindsX hkind _) fun env' he s' x => ?_
  subst he
  refine ⟨(T.nolimit.keeps F.keep).keeps x.toInCall.keep, codeAny_func ?_⟩
  obtain ⟨h₁, tk, rfl, _⟩ := x.done
  have hk₁ := x.toInCall.keep
  obtain ⟨cells, NC, Y⟩ := Cl.news (h₀ := s.heap) (Nat.le_refl _) fun n c hm => ⟨x.cell n c (lookup_of_mem_nodup (cellsFrom_names scope.names 0 (s.heap.objs.size + 1) [] [] rfl ▸ hnd) hm), x.above n c hm⟩
  refine wpAny_mono (h _ s.heap.objs.size h₁ tk cells FG ⟨x.toInCall.ns, fun b o e => hk₁ b o (of_hideAll _ e), Nat.le_of_eq (hideAll_size _ _)⟩ (fun p hp => ?_) Y BG (X₀.keeps st) (T.keeps st) (dicts_in hf FG st D) st (fun p hp => Heap.lt_size (N p hp).1)) (fun fl s' hl => ?_) fun _ _ y => y
  · rcases List.mem_append.mp hp with hp | hp
    · refine ⟨(NC p hp).1, (NC p hp).2.1, ?_⟩
      cases q : (hideAll s.heap (news.map (·.1))).get? p.1 with
      | none => rfl
      | some o => have := of_hideAll _ q; rw [(NC p hp).2.2] at this; cases this
    · exact ⟨hk₁ _ _ (N p hp).1, Nat.ne_of_lt (Heap.lt_size (N p hp).1), hideAll_none _ (List.mem_map_of_mem hp)⟩
  · obtain ⟨g', L', m', news', T', F', N', k⟩ := hl
    obtain ⟨h₀', z1, z2, z3, z4, z5, z6, z7⟩ := turn_back B F hf st FG XB TB D T' F' N'
    exact k h₀' z1 z2 z3 z4 z5 z6 z7
end
section
variable {w : World} {f : Addr} {d u : Nat} {vs : List Value} {args : Led} {Out : Value → Led → Prop} {p : Program} {loose : List Str} {mean : ExcName → Option Value} {mg mb : Str → Option Value} {dp un : Nat} {gd : Option (List Code)} {cn : Str} {cs : Scope} {a : Addr} {ccd : Value} {cl : List (Str × Addr)} {outer : List Env} {A₀ : Around} {base h₀ : Heap} {L : Addr} {m : Str → Option Value} {s : Shared} {Q E : Value → Shared → Prop}
theorem useT (N : News h₀ L s.heap args) (F : Fr h₀ L s.heap m) (B : Below A₀ base outer h₀) (X : (Mine.K w.params).In h₀) (T : Top p loose mean mg mb h₀) (XB : (Mine.K w.params).In base) (TB : Top p loose mean mg mb base) (D : KtsDicts (outer.filterMap (·.frame)) h₀)
    (hk : cs.kind = .function) (hd : dp + d < recursionLimit) (hu : un + u < cLine) (C : MeetsT w f d u vs args Out)
    (k : ∀ r tl h₀' h' tk', KtsTurn (outer.filterMap (·.frame)) h₀ h₀' → Fr h₀' L h' m → News h₀' L h' (tl ++ args) → (∀ q ∈ args, ∀ p ∈ tl, q.1 < p.1) → Below A₀ base outer h₀' → (Mine.K w.params).In h₀' → Top p loose mean mg mb h₀' → KtsDicts (outer.filterMap (·.frame)) h₀' → Out r tl → Q r { s with heap := h', toks := tk' }) :
    wpAny (model prg w) (ktrTop dp un gd cn cs L a ccd cl outer) (call (.ref f) vs) Q E s :=
  C p loose mean mg mb dp un gd cn cs a ccd cl outer A₀ base h₀ L m [] s Q E rfl B F X (by rw [List.append_nil]; exact N) T hk hd hu XB TB D fun r tl h₀' h' tk' T' F' N' l B' X' P' D' o => by
    rw [List.append_nil] at N' l
    exact k r tl h₀' h' tk' T' F' N' l B' X' P' D' o
end

/-! the shown text of a whole or a decimal -/
theorem str_app (a b : String) : sgs (Str.ofString (a ++ b)) = sgs (Str.ofString a) ++ sgs (Str.ofString b) := by
  show (Str.ofString (a ++ b)).cps.toList = _
  rw [signs_ofString, String.toList_append, List.map_append, ← signs_ofString, ← signs_ofString]
theorem pos_str (n : Nat) : sgs (Str.ofString (toString ((n : Nat) : Int))) = figs n := KIN.signs_num n
theorem neg_str (n : Nat) (h : n ≠ 0) : sgs (Str.ofString (toString (-(n : Int)))) = 45 :: figs n := by
  obtain ⟨k, rfl⟩ := Nat.exists_eq_succ_of_ne_zero h
  show sgs (Str.ofString ("-" ++ toString ((k.succ : Nat) : Int))) = _
  rw [str_app, show sgs (Str.ofString "-") = [45] from by decide]
  exact congrArg (List.cons 45) (KIN.signs_num _)
/-- the power behind a shown decimal -/
noncomputable def shownP (e : Int) : List Nat := if e = 0 then [33] else 69 :: ((if e < 0 then [45] else []) ++ figs e.natAbs)
theorem int_str (e : Int) : sgs (Str.ofString (toString e)) = (if e < 0 then [45] else []) ++ figs e.natAbs := by
  by_cases h : e < 0
  · rw [if_pos h]
    have := neg_str e.natAbs (by omega)
    rw [show -((e.natAbs : Nat) : Int) = e by omega] at this
    exact this
  · rw [if_neg h]
    have := pos_str e.natAbs
    rw [show ((e.natAbs : Nat) : Int) = e by omega] at this
    exact this
theorem shownP_form {e : Int} (h1 : -999 ≤ e) (h2 : e ≤ 999) : PF (shownP e) e := by
  unfold shownP
  by_cases h : e = 0
  · rw [if_pos h, h]
    exact .inr (.inl ⟨rfl, rfl⟩)
  rw [if_neg h]
  refine .inr (.inr ⟨if e < 0 then [45] else [], figs e.natAbs, rfl, figs_dig _, figs_ne _, ?_, ?_⟩)
  · rw [figs_len]
    exact nd_le (by decide) (by omega)
  · rw [figs_val]
    by_cases h3 : e < 0
    · rw [if_pos h3]
      exact .inr (.inr ⟨rfl, by omega⟩)
    · rw [if_neg h3]
      exact .inl ⟨rfl, by omega⟩
theorem shown_whole {n : Nat} (h : n < 10 ^ 40) : RowNum (figs n) (figs n) [] [] 0 :=
  ⟨by simp, figs_dig n, figs_ne n, .inl rfl, .inl ⟨rfl, rfl⟩, by
    have : nd n ≤ 40 := nd_le (by decide) h
    rw [figs_len]
    simpa using this⟩
theorem shown_dec {c : Nat} {e : Int} (h : c < 10 ^ 40) (h1 : -999 ≤ e) (h2 : e ≤ 999) : RowNum (figs c ++ shownP e) (figs c) [] (shownP e) e :=
  ⟨by simp, figs_dig c, figs_ne c, .inl rfl, shownP_form h1 h2, by
    have : nd c ≤ 40 := nd_le (by decide) h
    rw [figs_len]
    simpa using this⟩
theorem log_40 {n : Nat} (h : n < 10 ^ 40) : ((n : Nat) : Int).natAbs.log2 < 1920 := by
  rw [Int.natAbs_natCast]
  by_cases h0 : n = 0
  · subst h0; decide
  · exact (Nat.log2_lt h0).mpr (Nat.lt_trans h (by decide +kernel))
theorem log_int {e : Int} (h1 : -999 ≤ e) (h2 : e ≤ 999) : e.natAbs.log2 < 1920 := by
  by_cases h0 : e.natAbs = 0
  · rw [h0]; decide
  · exact (Nat.log2_lt h0).mpr (Nat.lt_trans (show e.natAbs < 2 ^ 10 by omega) (Nat.pow_lt_pow_right (by decide) (by decide)))
noncomputable def OutSg (l : List Nat) (r : Value) (tl : Led) : Prop := tl = [] ∧ ∃ y t, r = .str y t ∧ sgs y = l
theorem Ret.sg {h₀ : Heap} {L : Addr} {m : Str → Option Value} {news : Led} {s : Shared} {Q : Value → Shared → Prop} {l : List Nat} {y : Str} {t : Tok} {h' : Heap} {tk' : Nat} (H : Ret h₀ L m news s Q (OutSg l)) (F : Fr h₀ L h' m) {news' : Led} (N : News h₀ L h' news') (hs : ∀ q ∈ news, q ∈ news') (e : sgs y = l) : Q (.str y t) { s with heap := h', toks := tk' } :=
  H _ [] h' tk' F (fun q hq => N q (hs q hq)) (fun _ _ _ h => nomatch h) ⟨rfl, y, t, rfl, e⟩
section
variable {w : World} {f : Addr} {d u : Nat} {vs : List Value} {args : Led} {l : List Nat} {x : Str} {p : Program} {loose : List Str} {mean : ExcName → Option Value} {mg mb : Str → Option Value} {dp un : Nat} {gd : Option (List Code)} {cn : Str} {cs : Scope} {a : Addr} {ccd : Value} {cl : List (Str × Addr)} {outer : List Env} {A₀ : Around} {base h₀ : Heap} {L : Addr} {m : Str → Option Value} {news : Led} {s : Shared} {Q E : Value → Shared → Prop}
theorem useSg (C : MeetsA (γ := Unit) w f d u vs args (some ()) (fun _ => OutSg l) x) (B : Below A₀ base outer h₀) (F : Fr h₀ L s.heap m) (X : (Mine.K w.params).In h₀) (N : News h₀ L s.heap news) (T : Top p loose mean mg mb h₀) (hk : cs.kind = .function) (hd : dp + d < recursionLimit) (hu : un + u < cLine) (ha : ∀ q ∈ args, q ∈ news)
    (k : ∀ y t h' tk', sgs y = l → Fr h₀ L h' m → News h₀ L h' news → Q (.str y t) { s with heap := h', toks := tk' }) : wpAny (model prg w) (ktrTop dp un gd cn cs L a ccd cl outer) (call (.ref f) vs) Q E s :=
  useA C B F X N T hk hd hu ha (fun h => nomatch h) fun g v tl h' tk' hr F' N' l ho => by
    obtain ⟨rfl, y, t, rfl, e⟩ := ho
    exact k y t h' tk' e F' N'
end

theorem sgs_cat (a b : Str) : sgs (a ++ b) = sgs a ++ sgs b := by
  show (Str.append a b).cps.toList = _
  simp [Str.append, sgs]
-- MACROS
-- END
set_option maxHeartbeats 4000000 in
theorem decimal_text (w : World) (c : Nat) (e0 : Int) (D2 : Addr) (t u : Tok) (hc : c < 10 ^ 40) (h1 : -999 ≤ e0) (h2 : e0 ≤ 999) : MeetsA (γ := Unit) w 327 2 40 [.ref D2] [(D2, tup [.int (c : Int) t, .int e0 u])] (some ()) (fun _ => OutSg (figs c ++ shownP e0)) (Str.ofString "OV") := by
 refine (?fZ : PullF _) ?pZ ?qZ ?hZ
 case fZ => exact fun _ q _ => q
 case pZ =>
  unfold MeetsA
  k_fill
  intro p loose mean mg mb dp un gd cn cs a ccd cl outer A₀ base h₀ L m news s Q E hrw B F X N T hk hd hu hret hexc
  clear hrw
  dsimp only [List.cons_append, List.nil_append] at N hret hexc
  refine wpAny_call ?_
  k_dflt cell_enter
  have f1 := log_40 hc
  have f2 := log_int h1 h2
  have f3 : (figs c).length ≤ 40 := by rw [figs_len]; exact nd_le (by decide) hc
  have f4 : (figs e0.natAbs).length ≤ 3 := by rw [figs_len]; exact nd_le (by decide) (by omega)
  have f5 : (Str.ofString (toString ((c : Nat) : Int))).length ≤ 40 := by rw [← sgs_len, pos_str]; exact f3
  have f6 : (Str.ofString (toString e0)).length ≤ 4 := by
    rw [← sgs_len, int_str]
    split <;> simp only [List.length_append, List.length_cons, List.length_nil] <;> omega
  (repeat' (first | ((fail_if_success (first | (with_reducible show wpAny _ _ (exec (Stmt.While _ _ _ _) _) _ _ _) | (with_reducible show wpAny _ _ (exec (Stmt.Raise _ _ _) _) _ _ _) | (with_reducible show WhStep _ _ _ _ _ _ _ _ _ _ _))); (first | (k_here; (with_reducible show wpAny _ _ (call (Value.type "str") [Value.int _ _]) _ _ _); (refine P.str_of_int ?hs ?_; (case hs => with_reducible assumption))) | walk_at "wk"))))
  · refine Ret.sg (hret _ rfl) (by k_asm) (by k_asm) (by repeat' (first | exact sub_refl _ | refine sub_cons ?_)) ?_
    rw [sgs_cat, sgs_cat, pos_str, int_str, lit_E, shownP, if_neg (show e0 ≠ 0 by assumption)]
    rfl
  · refine Ret.sg (hret _ rfl) (by k_asm) (by k_asm) (by repeat' (first | exact sub_refl _ | refine sub_cons ?_)) ?_
    rw [sgs_cat, pos_str, lit_bang, shownP, if_pos (by assumption)]
 case hZ => delta id; exact pair_ _
-- MACROS
-- END
/-- a tree of a leaf: its kind, its value, and what it holds -/
noncomputable def Leaf (k : Str) (v : Value) (ext : Led) (l : List Nat) : Prop := (∃ (n : Nat) (t : Tok), n < 10 ^ 40 ∧ k = Str.ofString "whole" ∧ v = .int (n : Int) t ∧ ext = [] ∧ l = figs n) ∨
  ∃ (c : Nat) (e : Int) (D2 : Addr) (t u : Tok), c < 10 ^ 40 ∧ -999 ≤ e ∧ e ≤ 999 ∧ k = Str.ofString "decimal" ∧ v = .ref D2 ∧ ext = [(D2, tup [.int (c : Int) t, .int e u])] ∧ l = figs c ++ shownP e
set_option maxHeartbeats 4000000 in
theorem leaf_whole (w : World) (n : Nat) (D : Addr) (t b : Tok) (hc : n < 10 ^ 40) : MeetsA (γ := Unit) w 334 4 80 [.ref D] [(D, tup [.str (Str.ofString "whole") b, .int (n : Int) t])] (some ()) (fun _ => OutSg (figs n)) (Str.ofString "OV") := by
 refine (?fZ : PullF _) ?pZ ?qZ ?hZ
 case fZ => exact fun _ q _ => q
 case pZ =>
  unfold MeetsA
  k_fill
  intro p loose mean mg mb dp un gd cn cs a ccd cl outer A₀ base h₀ L m news s Q E hrw B F X N T hk hd hu hret hexc
  clear hrw
  dsimp only [List.cons_append, List.nil_append] at N hret hexc
  refine wpAny_call ?_
  k_dflt cell_enter
  have f1 := log_40 hc
  have f3 : (figs n).length ≤ 40 := by rw [figs_len]; exact nd_le (by decide) hc
  have f5 : (Str.ofString (toString ((n : Nat) : Int))).length ≤ 40 := by rw [← sgs_len, pos_str]; exact f3
  (repeat' (first | ((fail_if_success (first | (with_reducible show wpAny _ _ (exec (Stmt.While _ _ _ _) _) _ _ _) | (with_reducible show wpAny _ _ (exec (Stmt.Raise _ _ _) _) _ _ _) | (with_reducible show WhStep _ _ _ _ _ _ _ _ _ _ _))); (first | (k_here; (with_reducible show wpAny _ _ (call (Value.type "str") [Value.int _ _]) _ _ _); (refine P.str_of_int ?hs ?_; (case hs => with_reducible assumption))) | (k_here; (with_reducible show wpAny _ _ (call (Value.ref _) _) _ _ _); (first | ((with_reducible show wpAny _ _ (call (Value.ref 327) _) _ _ _); k_dflt (refine' useSg (decimal_text _ _ _ _ _ _ ?p1 ?p2 ?p3) ?k1 ?k2 ?k3 ?k4 ?k5 ?kK ?kd ?ku (ha1 ?kh) ?_; walk_at "u2"; (case kh => k_mem); (case p1 => walk_at "up"); (case p2 => walk_at "up"); (case p3 => walk_at "up")); (intro y9 t9 h9 tk9 hy9 F9 N9; walk_at "u3")))) | walk_at "wk"))))
  exact Ret.sg (hret _ rfl) (by k_asm) (by k_asm) (by repeat' (first | exact sub_refl _ | refine sub_cons ?_)) (pos_str n)
 case hZ => delta id; exact pair_ _
set_option maxHeartbeats 4000000 in
theorem leaf_dec (w : World) (c : Nat) (e0 : Int) (D D2 : Addr) (b t u : Tok) (hc : c < 10 ^ 40) (h1 : -999 ≤ e0) (h2 : e0 ≤ 999) : MeetsA (γ := Unit) w 334 4 80 [.ref D] [(D, tup [.str (Str.ofString "decimal") b, .ref D2]), (D2, tup [.int (c : Int) t, .int e0 u])] (some ()) (fun _ => OutSg (figs c ++ shownP e0)) (Str.ofString "OV") := by
 refine (?fZ : PullF _) ?pZ ?qZ ?hZ
 case fZ => exact fun _ q _ => q
 case pZ =>
  unfold MeetsA
  k_fill
  intro p loose mean mg mb dp un gd cn cs a ccd cl outer A₀ base h₀ L m news s Q E hrw B F X N T hk hd hu hret hexc
  clear hrw
  dsimp only [List.cons_append, List.nil_append] at N hret hexc
  refine wpAny_call ?_
  k_dflt cell_enter
  (repeat' (first | ((fail_if_success (first | (with_reducible show wpAny _ _ (exec (Stmt.While _ _ _ _) _) _ _ _) | (with_reducible show wpAny _ _ (exec (Stmt.Raise _ _ _) _) _ _ _) | (with_reducible show WhStep _ _ _ _ _ _ _ _ _ _ _))); (first | (k_here; (with_reducible show wpAny _ _ (call (Value.type "str") [Value.int _ _]) _ _ _); (refine P.str_of_int ?hs ?_; (case hs => with_reducible assumption))) | (k_here; (with_reducible show wpAny _ _ (call (Value.ref _) _) _ _ _); (first | ((with_reducible show wpAny _ _ (call (Value.ref 327) _) _ _ _); k_dflt (refine' useSg (decimal_text _ _ _ _ _ _ ?p1 ?p2 ?p3) ?k1 ?k2 ?k3 ?k4 ?k5 ?kK ?kd ?ku (ha1 ?kh) ?_; walk_at "u2"; (case kh => k_mem); (case p1 => walk_at "up"); (case p2 => walk_at "up"); (case p3 => walk_at "up")); (intro y9 t9 h9 tk9 hy9 F9 N9; walk_at "u3")))) | walk_at "wk"))))
  exact Ret.sg (hret _ rfl) (by k_asm) (by k_asm) (by repeat' (first | exact sub_refl _ | refine sub_cons ?_)) (by assumption)
 case hZ => delta id; exact pair_ _
theorem leaf_text (w : World) (k : Str) (v : Value) (ext : Led) (l : List Nat) (D : Addr) (b : Tok) (H : Leaf k v ext l) : MeetsA (γ := Unit) w 334 4 80 [.ref D] ((D, tup [.str k b, v]) :: ext) (some ()) (fun _ => OutSg l) (Str.ofString "OV") := by
  rcases H with ⟨n, t, h1, rfl, rfl, rfl, rfl⟩ | ⟨c, e, D2, t, u, h1, h2, h3, rfl, rfl, rfl, rfl⟩
  · exact leaf_whole w n D t b h1
  · exact leaf_dec w c e D D2 b t u h1 h2 h3
-- MACROS
-- END
theorem Leaf.k1 {k : Str} {v : Value} {ext : Led} {l : List Nat} (H : Leaf k v ext l) : k = Str.ofString "whole" ∨ k = Str.ofString "decimal" := by
  rcases H with ⟨_, _, _, rfl, _⟩ | ⟨_, _, _, _, _, _, _, _, rfl, _⟩
  · exact .inl rfl
  · exact .inr rfl
noncomputable def OutL0 (r : Value) (tl : Led) : Prop := ∃ l : Addr, tl = [(l, W.listOf #[] 0)] ∧ r = .ref l
theorem kinds_off {k : Str} (h : k = Str.ofString "whole" ∨ k = Str.ofString "decimal") : ([Str.ofString "item", Str.ofString "call", Str.ofString "fn"].any fun x => x == k) = false ∧ (k == Str.ofString "two") = false ∧ ([Str.ofString "neg", Str.ofString "not"].any fun x => x == k) = false ∧ (k == Str.ofString "neg") = false ∧ (k == Str.ofString "not") = false := by
  rcases h with rfl | rfl <;> decide +kernel
set_option maxHeartbeats 4000000 in
theorem parts_of_tree (w : World) (k : Str) (v : Value) (D : Addr) (b : Tok) (hk0 : k = Str.ofString "whole" ∨ k = Str.ofString "decimal") : MeetsA (γ := Unit) w 341 2 20 [.ref D] [(D, tup [.str k b, v])] (some ()) (fun _ => OutL0) (Str.ofString "OV") := by
 refine (?fZ : PullF _) ?pZ ?qZ ?hZ
 case fZ => exact fun _ q _ => q
 case pZ =>
  unfold MeetsA
  k_fill
  intro p loose mean mg mb dp un gd cn cs a ccd cl outer A₀ base h₀ L m news s Q E hrw B F X N T hk hd hu hret hexc
  clear hrw
  dsimp only [List.cons_append, List.nil_append] at N hret hexc
  refine wpAny_call ?_
  k_dflt cell_enter
  obtain ⟨q1, q2, q3, q4, q5⟩ := kinds_off hk0
  (repeat' (first | ((fail_if_success (first | (with_reducible show wpAny _ _ (exec (Stmt.While _ _ _ _) _) _ _ _) | (with_reducible show wpAny _ _ (exec (Stmt.Raise _ _ _) _) _ _ _) | (with_reducible show WhStep _ _ _ _ _ _ _ _ _ _ _))); (first | (k_here; (with_reducible show wpAny _ _ (call (Value.type "str") [Value.int _ _]) _ _ _); (refine P.str_of_int ?hs ?_; (case hs => with_reducible assumption))) | (k_here; (with_reducible show wpAny _ _ (call (Value.ref _) _) _ _ _); (first | ((with_reducible show wpAny _ _ (call (Value.ref 334) _) _ _ _); (rename Leaf _ _ _ _ => hl9); k_dflt (refine' useSg (leaf_text _ _ _ _ _ _ _ hl9) ?k1 ?k2 ?k3 ?k4 ?k5 ?kK ?kd ?ku ?kh ?_; walk_at "u2"; (case kh => (refine List.forall_mem_cons.mpr ⟨?ma, ?mb⟩; (case ma => k_mem); (case mb => first | assumption | exact (by repeat' (first | exact (fun q hq => List.mem_append_left _ hq) | refine sub_cons ?_)))))); (intro y9 t9 h9 tk9 hy9 F9 N9; walk_at "u3")) | ((with_reducible show wpAny _ _ (call (Value.ref 327) _) _ _ _); k_dflt (refine' useSg (decimal_text _ _ _ _ _ _ ?p1 ?p2 ?p3) ?k1 ?k2 ?k3 ?k4 ?k5 ?kK ?kd ?ku (ha1 ?kh) ?_; walk_at "u2"; (case kh => k_mem); (case p1 => walk_at "up"); (case p2 => walk_at "up"); (case p3 => walk_at "up")); (intro y9 t9 h9 tk9 hy9 F9 N9; walk_at "u3")))) | walk_at "wk"))))
  exact Ret.many (hret _ rfl) (by k_asm) (by k_asm) (by repeat' (first | exact sub_refl _ | refine sub_cons ?_)) (by repeat' (first | exact List.forall_mem_nil _ | refine List.forall_mem_cons.mpr ⟨by k_mem, ?_⟩)) (lt_one (by first | assumption | exact ktn_ltOf (by assumption) | exact ktn_ltOf (And.right (by assumption)) | exact ktn_ltOf (And.right (And.right (by assumption))) | exact ktn_ltOf (And.right (And.right (And.right (by assumption)))) | exact ktn_ltOf (And.right (And.right (And.right (And.right (by assumption))))) | exact ktn_ltOf (And.right (And.right (And.right (And.right (And.right (by assumption)))))) | exact ktn_ltOf (And.right (And.right (And.right (And.right (And.right (And.right (by assumption))))))) | exact ktn_ltOf (And.right (And.right (And.right (And.right (And.right (And.right (And.right (by assumption)))))))) | exact ktn_ltOf (And.right (And.right (And.right (And.right (And.right (And.right (And.right (And.right (by assumption))))))))) | exact ktn_ltOf (And.right (And.right (And.right (And.right (And.right (And.right (And.right (And.right (And.right (by assumption)))))))))) | exact ktn_ltOf (And.right (And.right (And.right (And.right (And.right (And.right (And.right (And.right (And.right (And.right (by assumption))))))))))) | exact ktn_ltOf (And.right (And.right (And.right (And.right (And.right (And.right (And.right (And.right (And.right (And.right (And.right (by assumption)))))))))))))) ⟨_, rfl, rfl⟩
 case hZ => delta id; exact pair_ _
-- MACROS
-- END
set_option maxHeartbeats 4000000 in
theorem shown_part (w : World) (k : Str) (v : Value) (ext : Led) (l : List Nat) (D X0 : Addr) (b : Tok) (H : Leaf k v ext l) : MeetsA (γ := Unit) w 348 6 120 [.ref D, .ref X0] ((D, tup [.str k b, v]) :: ext) (some ()) (fun _ => OutSg l) (Str.ofString "OV") := by
 refine (?fZ : PullF _) ?pZ ?qZ ?hZ
 case fZ => exact fun _ q _ => q
 case pZ =>
  unfold MeetsA
  k_fill
  intro p loose mean mg mb dp un gd cn cs a ccd cl outer A₀ base h₀ L m news s Q E hrw B F X N T hk hd hu hret hexc
  clear hrw
  dsimp only [List.cons_append, List.nil_append] at N hret hexc
  refine wpAny_call ?_
  k_dflt cell_enter
  obtain ⟨q1, q2, q3, q4, q5⟩ := kinds_off H.k1
  (repeat' (first | ((fail_if_success (first | (with_reducible show wpAny _ _ (exec (Stmt.While _ _ _ _) _) _ _ _) | (with_reducible show wpAny _ _ (exec (Stmt.Raise _ _ _) _) _ _ _) | (with_reducible show WhStep _ _ _ _ _ _ _ _ _ _ _))); (first | (k_here; (with_reducible show wpAny _ _ (call (Value.type "str") [Value.int _ _]) _ _ _); (refine P.str_of_int ?hs ?_; (case hs => with_reducible assumption))) | (k_here; (with_reducible show wpAny _ _ (call (Value.ref _) _) _ _ _); (first | ((with_reducible show wpAny _ _ (call (Value.ref 341) _) _ _ _); k_dflt (refine' useAm (parts_of_tree _ _ _ _ _ ?p1) ?k1 ?k2 ?k3 ?k4 ?k5 ?kK ?kd ?ku (ha1 ?kh) ?_; (case p1 => assumption); walk_at "u2"; (case kh => k_mem)); (intro r9 tl9 h9 tk9 F9 N9 l9 o9; obtain ⟨p9, e9, e8⟩ := o9; subst e9; subst e8; dsimp only [List.cons_append, List.nil_append] at N9; (have l9' := fun q hq => l9 q hq (p9, _) (.head _)); clear l9; (try k_lt l9'); walk_at "u3")) | ((with_reducible show wpAny _ _ (call (Value.ref 334) _) _ _ _); (rename Leaf _ _ _ _ => hl9); k_dflt (refine' useSg (leaf_text _ _ _ _ _ _ _ hl9) ?k1 ?k2 ?k3 ?k4 ?k5 ?kK ?kd ?ku ?kh ?_; walk_at "u2"; (case kh => (refine List.forall_mem_cons.mpr ⟨?ma, ?mb⟩; (case ma => k_mem); (case mb => first | assumption | exact (by repeat' (first | exact (fun q hq => List.mem_append_left _ hq) | refine sub_cons ?_)))))); (intro y9 t9 h9 tk9 hy9 F9 N9; walk_at "u3")) | ((with_reducible show wpAny _ _ (call (Value.ref 327) _) _ _ _); k_dflt (refine' useSg (decimal_text _ _ _ _ _ _ ?p1 ?p2 ?p3) ?k1 ?k2 ?k3 ?k4 ?k5 ?kK ?kd ?ku (ha1 ?kh) ?_; walk_at "u2"; (case kh => k_mem); (case p1 => walk_at "up"); (case p2 => walk_at "up"); (case p3 => walk_at "up")); (intro y9 t9 h9 tk9 hy9 F9 N9; walk_at "u3")))) | walk_at "wk"))))
  exact Ret.sg (hret _ rfl) (by k_asm) (by k_asm) (by repeat' (first | exact sub_refl _ | refine sub_cons ?_)) (by assumption)
 case hZ => delta id; exact pair_ _
-- MACROS
-- END
set_option maxHeartbeats 4000000 in
theorem shown_tree (w : World) (k : Str) (v : Value) (ext : Led) (l : List Nat) (D : Addr) (b : Tok) (H : Leaf k v ext l) : MeetsA (γ := Unit) w 353 10 160 [.ref D] ((D, tup [.str k b, v]) :: ext) (some ()) (fun _ => OutSg l) (Str.ofString "OV") := by
 refine (?fZ : PullF _) ?pZ ?qZ ?hZ
 case fZ => exact fun _ q _ => q
 case pZ =>
  unfold MeetsA
  k_fill
  intro p loose mean mg mb dp un gd cn cs a ccd cl outer A₀ base h₀ L m news s Q E hrw B F X N T hk hd hu hret hexc
  clear hrw
  dsimp only [List.cons_append, List.nil_append] at N hret hexc
  refine wpAny_call ?_
  k_dflt cell_enter
  have hk0 := H.k1
  (repeat' (first | ((fail_if_success (first | (with_reducible show wpAny _ _ (exec (Stmt.While _ _ _ _) _) _ _ _) | (with_reducible show wpAny _ _ (exec (Stmt.Raise _ _ _) _) _ _ _) | (with_reducible show WhStep _ _ _ _ _ _ _ _ _ _ _))); (first | (k_here; (with_reducible show wpAny _ _ (call (Value.type "str") [Value.int _ _]) _ _ _); (refine P.str_of_int ?hs ?_; (case hs => with_reducible assumption))) | (k_here; (with_reducible show wpAny _ _ (call (Value.ref _) _) _ _ _); (first | ((with_reducible show wpAny _ _ (call (Value.ref 348) _) _ _ _); (rename Leaf _ _ _ _ => hl9); k_dflt (refine' useSg (shown_part _ _ _ _ _ _ _ _ hl9) ?k1 ?k2 ?k3 ?k4 ?k5 ?kK ?kd ?ku ?kh ?_; walk_at "u2"; (case kh => (refine List.forall_mem_cons.mpr ⟨?ma, ?mb⟩; (case ma => k_mem); (case mb => first | assumption | exact (by repeat' (first | exact (fun q hq => List.mem_append_left _ hq) | refine sub_cons ?_)))))); (intro y9 t9 h9 tk9 hy9 F9 N9; walk_at "u3")) | ((with_reducible show wpAny _ _ (call (Value.ref 341) _) _ _ _); k_dflt (refine' useAm (parts_of_tree _ _ _ _ _ ?p1) ?k1 ?k2 ?k3 ?k4 ?k5 ?kK ?kd ?ku (ha1 ?kh) ?_; (case p1 => assumption); walk_at "u2"; (case kh => k_mem)); (intro r9 tl9 h9 tk9 F9 N9 l9 o9; obtain ⟨p9, e9, e8⟩ := o9; subst e9; subst e8; dsimp only [List.cons_append, List.nil_append] at N9; (have l9' := fun q hq => l9 q hq (p9, _) (.head _)); clear l9; (try k_lt l9'); walk_at "u3")) | ((with_reducible show wpAny _ _ (call (Value.ref 334) _) _ _ _); (rename Leaf _ _ _ _ => hl9); k_dflt (refine' useSg (leaf_text _ _ _ _ _ _ _ hl9) ?k1 ?k2 ?k3 ?k4 ?k5 ?kK ?kd ?ku ?kh ?_; walk_at "u2"; (case kh => (refine List.forall_mem_cons.mpr ⟨?ma, ?mb⟩; (case ma => k_mem); (case mb => first | assumption | exact (by repeat' (first | exact (fun q hq => List.mem_append_left _ hq) | refine sub_cons ?_)))))); (intro y9 t9 h9 tk9 hy9 F9 N9; walk_at "u3")) | ((with_reducible show wpAny _ _ (call (Value.ref 327) _) _ _ _); k_dflt (refine' useSg (decimal_text _ _ _ _ _ _ ?p1 ?p2 ?p3) ?k1 ?k2 ?k3 ?k4 ?k5 ?kK ?kd ?ku (ha1 ?kh) ?_; walk_at "u2"; (case kh => k_mem); (case p1 => walk_at "up"); (case p2 => walk_at "up"); (case p3 => walk_at "up")); (intro y9 t9 h9 tk9 hy9 F9 N9; walk_at "u3")))) | walk_at "wk"))))
  k_dflt (refine whl_start 3 ?_)
  (repeat' (first | ((fail_if_success (first | (with_reducible show wpAny _ _ (exec (Stmt.While _ _ _ _) _) _ _ _) | (with_reducible show wpAny _ _ (exec (Stmt.Raise _ _ _) _) _ _ _) | (with_reducible show WhStep _ _ _ _ _ _ _ _ _ _ _))); (first | (k_here; (with_reducible show wpAny _ _ (call (Value.type "str") [Value.int _ _]) _ _ _); (refine P.str_of_int ?hs ?_; (case hs => with_reducible assumption))) | (k_here; (with_reducible show wpAny _ _ (call (Value.ref _) _) _ _ _); (first | ((with_reducible show wpAny _ _ (call (Value.ref 348) _) _ _ _); (rename Leaf _ _ _ _ => hl9); k_dflt (refine' useSg (shown_part _ _ _ _ _ _ _ _ hl9) ?k1 ?k2 ?k3 ?k4 ?k5 ?kK ?kd ?ku ?kh ?_; walk_at "u2"; (case kh => (refine List.forall_mem_cons.mpr ⟨?ma, ?mb⟩; (case ma => k_mem); (case mb => first | assumption | exact (by repeat' (first | exact (fun q hq => List.mem_append_left _ hq) | refine sub_cons ?_)))))); (intro y9 t9 h9 tk9 hy9 F9 N9; walk_at "u3")) | ((with_reducible show wpAny _ _ (call (Value.ref 341) _) _ _ _); k_dflt (refine' useAm (parts_of_tree _ _ _ _ _ ?p1) ?k1 ?k2 ?k3 ?k4 ?k5 ?kK ?kd ?ku (ha1 ?kh) ?_; (case p1 => assumption); walk_at "u2"; (case kh => k_mem)); (intro r9 tl9 h9 tk9 F9 N9 l9 o9; obtain ⟨p9, e9, e8⟩ := o9; subst e9; subst e8; dsimp only [List.cons_append, List.nil_append] at N9; (have l9' := fun q hq => l9 q hq (p9, _) (.head _)); clear l9; (try k_lt l9'); walk_at "u3")) | ((with_reducible show wpAny _ _ (call (Value.ref 334) _) _ _ _); (rename Leaf _ _ _ _ => hl9); k_dflt (refine' useSg (leaf_text _ _ _ _ _ _ _ hl9) ?k1 ?k2 ?k3 ?k4 ?k5 ?kK ?kd ?ku ?kh ?_; walk_at "u2"; (case kh => (refine List.forall_mem_cons.mpr ⟨?ma, ?mb⟩; (case ma => k_mem); (case mb => first | assumption | exact (by repeat' (first | exact (fun q hq => List.mem_append_left _ hq) | refine sub_cons ?_)))))); (intro y9 t9 h9 tk9 hy9 F9 N9; walk_at "u3")) | ((with_reducible show wpAny _ _ (call (Value.ref 327) _) _ _ _); k_dflt (refine' useSg (decimal_text _ _ _ _ _ _ ?p1 ?p2 ?p3) ?k1 ?k2 ?k3 ?k4 ?k5 ?kK ?kd ?ku (ha1 ?kh) ?_; walk_at "u2"; (case kh => k_mem); (case p1 => walk_at "up"); (case p2 => walk_at "up"); (case p3 => walk_at "up")); (intro y9 t9 h9 tk9 hy9 F9 N9; walk_at "u3")))) | walk_at "wk"))))
  exact Ret.sg (hret _ rfl) (by k_asm) (by k_asm) (by repeat' (first | exact sub_refl _ | refine sub_cons ?_)) (by assumption)
 case hZ => delta id; exact pair_ _
-- MACROS
-- END

/-! _law_number_right -/
noncomputable def MeetsN (w : World) (f : Addr) (d u : Nat) (c P : Addr) (qual : Str) (vs : List Value) (Out : Value → Prop) : Prop :=
  ∀ (p : Program) (loose : List Str) (mean : ExcName → Option Value) (mg mb : Str → Option Value) (dp un : Nat) (gd : Option (List Code)) (cn : Str) (cs : Scope) (a : Addr) (ccd : Value) (cl : List (Str × Addr)) (outer : List Env) (A₀ : Around) (base h₀ : Heap) (L : Addr) (m : Str → Option Value) (news : Led) (s : Shared) (Q E : Value → Shared → Prop) (ps : Array Value) (cd : Led),
    PySem.Challenge.rw_pf0014_01 = PySem.Challenge.rw_pf0014_01 →
    Below A₀ base outer h₀ → Fr h₀ L s.heap m → (Mine.K w.params).In h₀ → News h₀ L s.heap ((P, tabObj ps) :: news) → TS P qual ps cd → (∀ q ∈ cd, q ∈ news) → (∀ q ∈ news, q.1 ≠ P) → Top p loose mean mg mb h₀ → cs.kind = .function → dp + d < recursionLimit → un + u < cLine →
    (Mine.K w.params).In base → Top p loose mean mg mb base → KtsDicts (outer.filterMap (·.frame)) h₀ → CodeHd base c P →
    (∀ r cd' ps' h₀' h' tk', KtsTurn (outer.filterMap (·.frame)) h₀ h₀' → Fr h₀' L h' m → News h₀' L h' (cd' ++ (P, tabObj ps') :: news) → TS P qual ps' cd' → (∀ p ∈ cd', p ∈ cd ∨ ∀ q ∈ news, q.1 < p.1) → (∀ p ∈ cd', p ∈ cd ∨ P < p.1) → Below A₀ base outer h₀' → (Mine.K w.params).In h₀' → Top p loose mean mg mb h₀' → KtsDicts (outer.filterMap (·.frame)) h₀' → Out r → Q r { s with heap := h', toks := tk' }) →
    wpAny (model prg w) (ktrTop dp un gd cn cs L a ccd cl outer) (call (.ref f) vs) Q E s
theorem pow3_pow {l : List Nat} {a : Nat} (h : PowForm3 l a) : PowForm l a := by
  rcases h with q | ⟨q1, q2, q3⟩
  · exact .inl q
  · refine .inr ⟨q1, q2, ?_⟩
    have h1 := val_lt (run_isD l (powStart l a))
    have h2 : 10 ^ (run l (powStart l a)).length ≤ 10 ^ 3 := Nat.pow_le_pow_right (by decide) q3
    omega
theorem mk_some {n dg : Nat} {e : Int} (hd : 1 ≤ dg) (h : e + (nd n : Nat) ≤ 99) : ∃ q, mk n e dg = some q := by
  by_cases hn : n = 0
  · subst hn
    exact ⟨_, mk_zero hd⟩
  · have h1 := rnd_top (e := e) hn hd
    have h2 := strip_nd (rnd n e dg).1 (rnd n e dg).2
    unfold mk cut99
    rw [if_neg (rnd_pos hn hd), if_neg (by omega)]
    split
    · exact ⟨_, rfl⟩
    · exact ⟨_, rfl⟩
theorem near_some (w : World) (x : Str) (e0 e1 : Int) (n dg : Nat) (q : Int × Int) {t u v : Tok} (hx : x.length ≤ 60) (hxd : Dig (sgs x)) (hdg : 1 ≤ dg) (hn : val (sgs x) = n) (he : e0 = e1) (hm : mk n e1 dg = some q) : Meets w 403 4 40 [.str x t, .int e0 u, .int (dg : Int) v] (OutII q.1 q.2) := by
  have C := law_nearest w x e0 dg t u v hx hxd hdg
  rw [hn, he, hm] at C
  rw [he]
  exact C
theorem near_none (w : World) (x : Str) (e0 e1 : Int) (n dg : Nat) (q : Unit) {t u v : Tok} (hx : x.length ≤ 60) (hxd : Dig (sgs x)) (hdg : 1 ≤ dg) (hn : val (sgs x) = n) (he : e0 = e1) (hm : mk n e1 dg = none) : Meets w 403 4 40 [.str x t, .int e0 u, .int (dg : Int) v] (OutS (Str.ofString "OV")) := by
  have C := law_nearest w x e0 dg t u v hx hxd hdg
  rw [hn, he, hm] at C
  rw [he]
  exact C
-- MACROS
local macro_rules | `(tactic| walk_at "call lambda") => `(tactic| (k_dflt (refine wpAny_call ?_); k_dflt (refine' kla_code ?k1 ?k2 ?k3 ?k4 ?k5 ?kA ?kF ?kK ?k6 ?k7 ?k8 ?k9 ?kB ?_ ?c2 ?c3 ?c4 ?c5; (case kA => exact rfl); (case kF => exact rfl); (case kK => first | exact rfl | assumption); (case k1 => k_asm); (case k2 => k_asm); (case k3 => k_asm); (case k4 => k_asm); (case k5 => k_asm); (case k6 => k_mem); (case k7 => exact codeRec_news (by k_asm) (by k_mem) (by assumption) (by assumption)); (case k8 => ktr_room); (case k9 => exact rfl); (case c5 => decide); (case kB => exact locs rfl); (case c2 => exact rfl); (case c3 => exact rfl); (case c4 => exact rfl); k_whole; intro g' L' h' FG' F' N' B' X' T'; (try dsimp only); (try k_lift B'); (try k_fold))))
local macro_rules | `(tactic| k_all) => `(tactic| assumption)
-- END

noncomputable abbrev noughtO : Obj := tup [.int 0 754, .int 0 755]
theorem nought_obj (w : World) : (Mine.K w.params).lookup 354 = some noughtO := by kernel_rfl
theorem nought_reads {w : World} {g h : Heap} {L : Addr} {m : Str → Option Value} (F : Fr g L h m) (X : (Mine.K w.params).In g) : Reads h (.ref 354) (.tuple [.int 0, .int 0]) [] :=
  reads_tuple_at (X.keeps F.keep _ _ (nought_obj w)) rfl rfl (.cons (Reads.int _ _) (.cons (Reads.int _ _) .nil))
theorem close_N {K : Frag} {env : Env} {A₀ : Around} {base : Heap} {outer : List Env} {p : Program} {loose : List Str} {mean : ExcName → Option Value} {mg mb : Str → Option Value} {h₀ : Heap} {L : Addr} {m : Str → Option Value} {g g' : Heap} {L' : Addr} {m' : Str → Option Value} {R : Result → Shared → Prop} {v : Value} {s' : Shared} {P : Addr} {qual : Str} {ps : Array Value} {cd l news : Led}
    (_S : TS P qual ps cd) (T : KtsTurn ((env :: outer).filterMap (·.frame)) g g') (F : Fr g' L' s'.heap m') (N : News g' L' s'.heap l) (h1 : ∀ q ∈ cd, q ∈ l) (h2 : (P, tabObj ps) ∈ l) (h3 : ∀ q ∈ news, q ∈ l)
    (k : ∀ h₀', KtsTurn (outer.filterMap (·.frame)) h₀ h₀' → Fr h₀' L s'.heap m → News h₀' L s'.heap (cd ++ (P, tabObj ps) :: news) → Below A₀ base outer h₀' → K.In h₀' → Top p loose mean mg mb h₀' → KtsDicts (outer.filterMap (·.frame)) h₀' → R (.ok (.ret v)) s') :
    LeaveT K env A₀ base outer p loose mean mg mb h₀ L m g R v s' :=
  ⟨g', L', m', _, T, F, news_sub N (fun q hq => by
    rcases List.mem_append.mp hq with hq | hq
    · exact h1 q hq
    rcases List.mem_cons.mp hq with rfl | hq
    · exact h2
    · exact h3 q hq), k⟩
theorem cd_two {cd news lA lB : Led} {ca cb P : Addr} {oa ob oA oB : Obj} (wa : (ca, oa) ∈ cd ∨ ∀ q ∈ lA, q.1 < ca) (wb : (cb, ob) ∈ (ca, oa) :: cd ∨ ∀ q ∈ lB, q.1 < cb) (hA : ∀ q ∈ (P, oA) :: news, q ∈ lA) (hB : ∀ q ∈ (P, oB) :: news, q ∈ lB) :
    (∀ p ∈ (cb, ob) :: (ca, oa) :: cd, p ∈ cd ∨ ∀ q ∈ news, q.1 < p.1) ∧ (∀ p ∈ (cb, ob) :: (ca, oa) :: cd, p ∈ cd ∨ P < p.1) := by
  have ka : ((ca, oa) ∈ cd ∨ ∀ q ∈ news, q.1 < ca) ∧ ((ca, oa) ∈ cd ∨ P < ca) := by
    rcases wa with h | h
    · exact ⟨.inl h, .inl h⟩
    · exact ⟨.inr fun q hq => h q (hA q (.tail _ hq)), .inr (h _ (hA _ (.head _)))⟩
  have kb : ((cb, ob) ∈ cd ∨ ∀ q ∈ news, q.1 < cb) ∧ ((cb, ob) ∈ cd ∨ P < cb) := by
    rcases wb with h | h
    · rcases List.mem_cons.mp h with e | h
      · cases e
        exact ka
      · exact ⟨.inl h, .inl h⟩
    · exact ⟨.inr fun q hq => h q (hB q (.tail _ hq)), .inr (h _ (hB _ (.head _)))⟩
  refine ⟨fun p hp => ?_, fun p hp => ?_⟩
  · rcases List.mem_cons.mp hp with rfl | hp
    · exact kb.1
    rcases List.mem_cons.mp hp with rfl | hp
    · exact ka.1
    · exact .inl hp
  · rcases List.mem_cons.mp hp with rfl | hp
    · exact kb.2
    rcases List.mem_cons.mp hp with rfl | hp
    · exact ka.2
    · exact .inl hp
theorem shown_whole_tree (w : World) (D : Addr) (n : Nat) {b b' : Tok} (hn : n < 10 ^ 40) : MeetsA (γ := Unit) w 353 10 160 [.ref D] [(D, tup [.str (Str.ofString "whole") b, .int (n : Int) b'])] (some ()) (fun _ => OutSg (figs n)) (Str.ofString "OV") :=
  shown_tree w _ _ [] _ D b (.inl ⟨n, b', hn, rfl, rfl, rfl, rfl⟩)
theorem shown_dec_tree (w : World) (D D2 : Addr) (c : Nat) (e : Int) {b a a' : Tok} (hc : c < 10 ^ 40) (h1 : -999 ≤ e) (h2 : e ≤ 999) : MeetsA (γ := Unit) w 353 10 160 [.ref D] [(D, tup [.str (Str.ofString "decimal") b, .ref D2]), (D2, tup [.int (c : Int) a, .int e a'])] (some ()) (fun _ => OutSg (figs c ++ shownP e)) (Str.ofString "OV") :=
  shown_tree w _ _ _ _ D b (.inr ⟨c, e, D2, a, a', hc, h1, h2, rfl, rfl, rfl, rfl⟩)
-- MACROS
local macro_rules | `(tactic| ked_read) => `(tactic| exact nought_reads (by k_asm) (by assumption))
-- END

/-! _law_number_right of a number with a point or a power: what the walk asks -/
noncomputable abbrev pw2 (l : List Nat) : Nat := (powerAt l (numA l)).2
structure DF (F B P : Str) (z : Int) (dg n : Nat) (e1 : Int) (c : Nat) (e : Int) : Prop where
  x2 : (F ++ B ++ P).length ≤ 60
  x3 : ntree (sgs (F ++ B ++ P)) = .dec c e
  x4 : PowOk (sgs (F ++ B ++ P))
  x5 : (F ++ Txt.slice B (some 1) none).length ≤ 60
  x7 : Dig (sgs (F ++ Txt.slice B (some 1) none))
  x8 : val (sgs (F ++ Txt.slice B (some 1) none)) = n
  e1z : e1 = z - ((B.length - 1 : Nat) : Int)
  v0 : c < 10 ^ 40
  v1 : c < 10 ^ 150
  b1 : -999 ≤ e
  b2 : e ≤ 999
  xn : NumText (sgs (F ++ B ++ P))
  x10 : (run (sgs (F ++ B ++ P)) 0).length ≠ 0
  x11 : PowForm (sgs (F ++ B ++ P)) (numA (sgs (F ++ B ++ P)))
  xm : mk c e dg = mk n e1 dg
  xt : told (numN (sgs (F ++ B ++ P))) ((powerAt (sgs (F ++ B ++ P)) (numA (sgs (F ++ B ++ P)))).1 - (numP (sgs (F ++ B ++ P)) : Nat)) dg = mk n e1 dg
  xz : (((F ++ B ++ P).length : Nat) : Int) - (if (P == Str.ofString "!") = true then 1 else 0) = ((pw2 (sgs (F ++ B ++ P)) : Nat) : Int)
  hback : ∀ y : Str, sgs y = figs c ++ shownP e → NumText (sgs y) ∧ ntree (sgs y) = .dec c e
theorem beq_lit {P A : Str} {l : List Nat} (h : sgs A = l) : ((P == A) = true) ↔ sgs P = l := by
  rw [beq_iff_eq]
  exact ⟨fun e => by rw [e]; exact h, fun e => str_eq (e.trans h.symm)⟩
theorem dec_facts {F B P : Str} {z : Int} {dg : Nat} (hR : RowNum (sgs F ++ sgs B ++ sgs P) (sgs F) (sgs B) (sgs P) z) (hbp : ¬ (sgs B = [] ∧ sgs P = [])) (hdg : 1 ≤ dg) : ∃ n e1 c e, DF F B P z dg n e1 c e := by
  have f1 := sgs_len F
  have f2 := sgs_len B
  have f3 := sgs_len P
  have xs : sgs (F ++ B ++ P) = sgs F ++ sgs B ++ sgs P := by rw [sgs_cat, sgs_cat]
  have hl := hR.len
  have hfew := hR.few
  have x6 : sgs (F ++ Txt.slice B (some 1) none) = sgs F ++ (sgs B).drop 1 := by
    rw [sgs_cat]
    exact congrArg _ (sgs_from B 1)
  have hbd : Dig ((sgs B).drop 1) := by
    rcases hR.b with h | ⟨C, h, hC⟩
    · rw [h]; intro c hc; cases hc
    · rw [h]; exact hC
  have hd : Dig (sgs F ++ (sgs B).drop 1) := hR.f.append hbd
  have hlen : (sgs F ++ (sgs B).drop 1).length ≤ 40 := by
    rw [List.length_append, List.length_drop]
    omega
  have v0 : val (sgs F ++ (sgs B).drop 1) < 10 ^ 40 := Nat.lt_of_lt_of_le (val_lt hd) (Nat.pow_le_pow_right (by decide) hlen)
  have hx2 := hR.dec hbp
  generalize hn : val (sgs F ++ (sgs B).drop 1) = n at *
  generalize he1 : z - (((sgs B).length - 1 : Nat) : Int) = e1 at *
  have vc : (exactly n e1).1 < 10 ^ 40 := by
    by_cases h0 : n = 0
    · rw [h0, show exactly 0 e1 = (0, 0) from if_pos rfl]
      decide
    · exact Nat.lt_of_le_of_lt (exactly_le n e1 h0) v0
  have hb := exactly_pow (e := e1) v0 (by decide)
  have hm : mk (exactly n e1).1 (exactly n e1).2 dg = mk n e1 dg := mk_exactly hdg
  have hid := exactly_idem n e1
  refine ⟨n, e1, (exactly n e1).1, (exactly n e1).2, ?_⟩
  generalize hc : (exactly n e1).1 = c at *
  generalize he : (exactly n e1).2 = e at *
  refine ⟨?_, ?_, ?_, ?_, ?_, ?_, ?_, vc, Nat.lt_trans vc (by decide +kernel), by omega, by omega, ?_, ?_, ?_, hm, ?_, ?_, ?_⟩
  · rw [← sgs_len, xs]; omega
  · rw [xs]; exact hx2
  · rw [xs]; exact hR.num.powok
  · rw [← sgs_len, x6]; omega
  · rw [x6]; exact hd
  · rw [x6]; exact hn
  · rw [← he1, f2]
  · rw [xs]; exact hR.num
  · rw [xs]; exact hR.num.front
  · rw [xs]; exact pow3_pow hR.num.pow
  · rw [xs, told_mk hdg, hR.numN, hR.numP, hR.pw, hn, he1]
  · rw [← sgs_len]
    unfold pw2
    rw [xs, hR.pw]
    have hb33 := beq_lit (P := P) lit_bang
    by_cases h : sgs P = [33]
    · rw [if_pos (hb33.mpr h), if_pos h]
      have : 1 ≤ (sgs F ++ sgs B ++ sgs P).length := by rw [h]; simp; omega
      omega
    · rw [if_neg (fun q => h (hb33.mp q)), if_neg h]
      omega
  · intro y hy
    have r := shown_dec (e := e) vc (by omega) (by omega)
    have r2 := r.dec (by
      rintro ⟨-, q⟩
      unfold shownP at q
      split at q <;> cases q)
    simp only [List.drop_nil, List.append_nil, figs_val, List.length_nil] at r2
    rw [hy]
    refine ⟨r.num, ?_⟩
    rw [r2]
    simp only [Nat.zero_sub, Int.natCast_zero, Int.sub_zero, hid, hc, he]
noncomputable def PowTxt (P : Str) (z : Int) : Prop := (([Str.ofString "", Str.ofString "!"].any fun y => y == P) = true ∧ z = 0) ∨ (([Str.ofString "", Str.ofString "!"].any fun y => y == P) = false ∧ PySem.intText? (Txt.slice P (some 1) none) = some z)
section
variable {M : Model} {A : Around} {E : Value → Shared → Prop} {s : Shared} {g : Heap} {L : Addr} {m : Str → Option Value} {news : Led}
theorem fr_pin3 {h' : Heap} {a b c : Str} (u v w : Option Value) {P : Prop} (F : Fr g L h' m) (h1 : m a = u) (h2 : m b = v) (h3 : m c = w) (k : ∀ m0 : Str → Option Value, Fr g L h' (fun y => if y = a then u else if y = b then v else if y = c then w else m0 y) → P) : P := k m (by
  have e : m = fun y => if y = a then u else if y = b then v else if y = c then w else m y := by
    funext y
    by_cases q : y = a
    · rw [if_pos q, q, h1]
    · rw [if_neg q]
      by_cases q2 : y = b
      · rw [if_pos q2, q2, h2]
      · rw [if_neg q2]
        by_cases q3 : y = c
        · rw [if_pos q3, q3, h3]
        · rw [if_neg q3]
  exact e ▸ F)
theorem hide_QE {α : Type} {tree : Sem α} {Q : α → Shared → Prop} (k : ∀ (QQ : α → Shared → Prop) (EE : Value → Shared → Prop), (∀ v s', Q v s' → QQ v s') → wpAny M A tree QQ EE s) : wpAny M A tree Q E s := k Q E fun _ _ h => h
theorem news_tail {h' : Heap} {x : Addr × Obj} (N : News g L h' (x :: news)) : News g L h' news := fun q hq => N q (.tail _ hq)
noncomputable def CutM (x : Str) (s : Shared) (g : Heap) (L : Addr) (m : Str → Option Value) (news : Led) (f : Flow) (s' : Shared) : Prop := f = .next ∧ ∃ v h' tk', s' = { s with heap := h', toks := tk' } ∧ Fr g L h' (fun y => if y = x then some v else m y) ∧ News g L h' news
theorem CutM.mk {x : Str} {v : Value} {h' : Heap} {tk' : Nat} {news' : Led} (F : Fr g L h' (fun y => if y = x then some v else m y)) (N : News g L h' news') (hs : ∀ q ∈ news, q ∈ news') : CutM x s g L m news .next { s with heap := h', toks := tk' } := ⟨rfl, v, h', tk', rfl, F, fun q hq => N q (hs q hq)⟩
theorem cut_store {tree : Sem Flow} {Q : Flow → Shared → Prop} (x : Str) (_F : Fr g L s.heap m) (_N : News g L s.heap news)
    (h1 : wpAny M A tree (CutM x s g L m news) E s)
    (h2 : ∀ v h' tk', Fr g L h' (fun y => if y = x then some v else m y) → News g L h' news → Q .next { s with heap := h', toks := tk' }) : wpAny M A tree Q E s :=
  wpAny_mono h1 (fun _ _ ⟨hv, v, h', tk', hs, F, N⟩ => by subst hv hs; exact h2 v h' tk' F N) fun _ _ x => x
end
theorem news_rot {g h : Heap} {L : Addr} {x : Addr × Obj} {tl A : Led} (N : News g L h (x :: (tl ++ A))) : News g L h (A ++ (x :: tl)) := fun q hq => N q (by
  rcases List.mem_append.mp hq with hq | hq
  · exact .tail _ (List.mem_append_right _ hq)
  · rcases List.mem_cons.mp hq with rfl | hq
    · exact .head _
    · exact .tail _ (List.mem_append_left _ hq))
theorem news_unrot {g g0 h h0 : Heap} {L L0 : Addr} {x : Addr × Obj} {tl A big : Led} (_ : News g0 L0 h0 A) (N : News g L h big) (e : big = A ++ (x :: tl)) : News g L h (x :: (tl ++ A)) := fun q hq => N q (by
  subst e
  rcases List.mem_cons.mp hq with rfl | hq
  · exact List.mem_append_right _ (.head _)
  · rcases List.mem_append.mp hq with hq | hq
    · exact List.mem_append_right _ (.tail _ hq)
    · exact List.mem_append_left _ hq)
theorem news_part {g g0 h h0 : Heap} {L L0 : Addr} {A X big : Led} (_ : News g0 L0 h0 A) (N : News g L h big) (e : big = A ++ X) : News g L h A := fun q hq => N q (by
  subst e
  exact List.mem_append_left _ hq)

set_option maxHeartbeats 8000000 in
theorem right_whole (w : World) (F : Str) (tF tB tP tg : Tok) (dg : Nat) (hR : RowNum (sgs F) (sgs F) [] [] 0) (hdg : 1 ≤ dg) :
    MeetsN w 424 60 1200 423 419 (Str.ofString "_law_number_right.<locals>.<lambda>") [.str F tF, .str (Str.ofString "") tB, .str (Str.ofString "") tP, .int (dg : Int) tg] (fun r => r = .bool true) := by
 refine (?fZ : PullF _) ?pZ ?qZ ?hZ
 case fZ => exact fun _ q _ => q
 case pZ =>
  unfold MeetsN
  k_fill
  intro p loose mean mg mb dp un gd cn cs a ccd cl outer A₀ base h₀ L m news s Q E ps cd hrw B₀ F₀ X₀ N₀ S₀ hcd hne T₀ hk hd hu XB TB D₀ C₀ hret
  clear hrw
  refine wpAny_call ?_
  k_dflt (refine' code_cellsT ?k1 ?k2 ?k3 ?k4 ?k5 ?XB ?TB ?D ?kA ?kF ?kK ?k6 ?k7 ?k8 ?k9 ?kB ?kD ?_ ?c2 ?c3 ?c4; (case kA => exact rfl); (case kF => exact rfl); (case kK => exact hk); (case k1 => exact B₀); (case k2 => exact F₀); (case k3 => exact X₀); (case k4 => exact N₀); (case k5 => exact T₀); (case XB => exact XB); (case TB => exact TB); (case D => exact D₀); (case k6 => k_is); (case k7 => k_is); (case k8 => ktr_room); (case k9 => exact BindsTo.of_eq rfl); (case kB => exact rfl); (case kD => decide +kernel); (case c2 => exact rfl); (case c3 => exact rfl); (case c4 => exact rfl); k_whole; intro g' L' h' tk' cells' FG' F' N' Y' B' X' T' D' st' l1)
  have hc0 : ∀ q ∈ news, @LT.lt Nat _ q.1 L' := fun q hq => l1 q (.tail _ hq)
  have hc1 : ∀ q ∈ news, q.1 ≠ L' + 1 := fun q hq => Nat.ne_of_lt (Nat.lt_succ_of_lt (hc0 q hq))
  have hc2 : ∀ q ∈ news, q.1 ≠ L' + 1 + 1 := fun q hq => Nat.ne_of_lt (Nat.lt_succ_of_lt (Nat.lt_succ_of_lt (hc0 q hq)))
  have hc3 : ∀ q ∈ news, q.1 ≠ L' + 1 + 1 + 1 := fun q hq => Nat.ne_of_lt (Nat.lt_succ_of_lt (Nat.lt_succ_of_lt (Nat.lt_succ_of_lt (hc0 q hq))))
  k_lt l1
  obtain ⟨o1, o2, o3, hE, d1, d2, d3⟩ := PyProof.Rows.CellsAre.three Y'
  subst hE
  clear Y'
  replace d1 : o1.data = .cell none := d1
  replace d2 : o2.data = .cell none := d2
  replace d3 : o3.data = .cell (some (.int (dg : Int) tg)) := d3
  simp only [List.cons_append, List.nil_append] at N'
  try dsimp only
  try k_lift B'
  try k_fold
  refine fr_pin3 (a := Str.ofString "front") (b := Str.ofString "behind") (c := Str.ofString "power") (some (.str F tF)) (some (.str (Str.ofString "") tB)) (some (.str (Str.ofString "") tP)) F' rfl rfl rfl ?_
  clear F'
  intro m0 F'
  refine hide_QE ?_
  intro QQ EE hQQ
  have f1 := sgs_len F
  have f4 : F.length ≤ 40 := by rw [← f1]; simpa using hR.few
  have x1 : sgs (F ++ Str.ofString "" ++ Str.ofString "") = sgs F := by rw [sgs_cat, sgs_cat, show sgs (Str.ofString "") = [] from rfl, List.append_nil, List.append_nil]
  have x2 : (F ++ Str.ofString "" ++ Str.ofString "").length ≤ 60 := by rw [← sgs_len, x1, f1]; omega
  have x3 : ntree (sgs (F ++ Str.ofString "" ++ Str.ofString "")) = .whole (val (sgs F)) := by rw [x1]; exact hR.whole rfl rfl
  have x4 : PowOk (sgs (F ++ Str.ofString "" ++ Str.ofString "")) := by rw [x1]; exact hR.num.powok
  have x5 : (F ++ Str.ofString "").length ≤ 60 := by rw [← sgs_len, sgs_cat, show sgs (Str.ofString "") = [] from rfl, List.append_nil, f1]; omega
  have x6 : sgs (F ++ Str.ofString "") = sgs F := by rw [sgs_cat, show sgs (Str.ofString "") = [] from rfl, List.append_nil]
  have x7 : Dig (sgs (F ++ Str.ofString "")) := by rw [x6]; exact hR.f
  have x8 : val (sgs (F ++ Str.ofString "")) = val (sgs F) := by rw [x6]
  have v0 : val (sgs F) < 10 ^ 40 := Nat.lt_of_lt_of_le (val_lt hR.f) (Nat.pow_le_pow_right (by decide) (by rw [f1]; exact f4))
  have v1 : val (sgs F) < 10 ^ 150 := Nat.lt_trans v0 (by decide +kernel)
  obtain ⟨⟨q1, q2⟩, hq⟩ : ∃ q, mk (val (sgs F)) 0 dg = some q := mk_some hdg (by have := nd_le (by decide) v0; omega)
  have x9 : PySem.intText? (F ++ Str.ofString "") = some ((val (sgs F) : Nat) : Int) := by
    have := text_val (x := F ++ Str.ofString "") x7 (by rw [x6]; exact hR.fne) (by omega)
    rwa [x8] at this
  have hback : ∀ y : Str, sgs y = figs (val (sgs F)) → NumText (sgs y) ∧ ntree (sgs y) = .whole (val (sgs F)) := fun y hy => by
    have r := shown_whole v0
    have r2 := r.whole rfl rfl
    rw [figs_val] at r2
    rw [hy]
    exact ⟨r.num, r2⟩
  have xn : NumText (sgs (F ++ Str.ofString "" ++ Str.ofString "")) := by rw [x1]; exact hR.num
  have x10 : (run (sgs (F ++ Str.ofString "" ++ Str.ofString "")) 0).length ≠ 0 := xn.front
  have x11 : PowForm (sgs (F ++ Str.ofString "" ++ Str.ofString "")) (numA (sgs (F ++ Str.ofString "" ++ Str.ofString ""))) := pow3_pow xn.pow
  have xt : told (numN (sgs (F ++ Str.ofString "" ++ Str.ofString ""))) ((powerAt (sgs (F ++ Str.ofString "" ++ Str.ofString "")) (numA (sgs (F ++ Str.ofString "" ++ Str.ofString "")))).1 - (numP (sgs (F ++ Str.ofString "" ++ Str.ofString "")) : Nat)) dg = some (q1, q2) := by
    rw [x1, told_mk hdg, hR.numN, hR.numP, hR.pw]
    simpa using hq
  have xe : (powerAt (sgs (F ++ Str.ofString "" ++ Str.ofString "")) (numA (sgs (F ++ Str.ofString "" ++ Str.ofString "")))).2 = F.length := by
    rw [x1, hR.pw, f1]
    rfl
  have xz : (((F ++ Str.ofString "" ++ Str.ofString "").length : Nat) : Int) - (if (Str.ofString "" == Str.ofString "!") = true then 1 else 0) = ((F.length : Nat) : Int) := by
    rw [if_neg (by decide), Int.sub_zero, ← sgs_len, x1, f1]
  (repeat' (first | ((fail_if_success (with_reducible show wpAny _ _ (call (Value.ref 410) _) _ _ _)); (first | (k_here; (with_reducible show wpAny _ _ (compareOp CmpOp.Eq (Value.ref _) (Value.str _ _)) _ _ _); (refine cmp_ofEq ?_); k_dflt (refine' SeqAt.RcAt.tuple_str _ _ ?zh ?zu _ _ _ _ ?_); (case zh => exact ⟨_, News.get (by k_asm) (by k_mem), rfl, _, rfl⟩); (case zu => ktr_units)) | (k_here; (with_reducible show wpAny _ _ (eval (Expr.Lambda _ _ _ _) _) _ _ _); k_dflt (refine' kla_eval ?d0 ?_; (case d0 => exact rfl)); k_dflt (refine' lam_any ?F ?N ?T ?C ?cd ?U ?S ?tl ?cl ?_; (case F => k_asm); (case N => k_asm); (case T => k_asm); (case cd => exact rfl); (case C => kn_code); (case U => k_updF); (case S => assumption); (case tl => first | (refine List.forall_mem_cons.mpr ⟨?ma, ?mb⟩; (case ma => k_mem); (case mb => exact (by repeat' (first | with_reducible assumption | refine sub_cons ?_)))) | exact (by repeat' (first | with_reducible assumption | refine sub_cons ?_))); (case cl => exact rfl); k_whole); intro f9 c9 oc9 vs9 t9 ct9 ps9 h9 tk9 F9 N9 d9 e9 S9 l9 l8 l7 w9; (try dsimp only at N9); (try k_lt l9); (try k_lt2 l8); (try k_lt2 l7)) | (k_here; (with_reducible show wpAny _ _ (call (Value.type "int") [Value.str _ _]) _ _ _); (refine KIN.call_text (by with_reducible assumption) (by omega) ?_)) | (k_here; (with_reducible show wpAny _ _ (call (Value.ref _) _) _ _ _); (first | ((with_reducible show wpAny _ _ (call (Value.ref 353) _) _ _ _); k_dflt (first | (refine' useSg (shown_whole_tree _ _ _ ?p1) ?k1 ?k2 ?k3 ?k4 ?k5 ?kK ?kd ?ku (ha1 ?kh) ?_; walk_at "u2"; (case kh => k_mem)) | (refine' useSg (shown_dec_tree _ _ _ _ _ ?p1 ?p2 ?p3) ?k1 ?k2 ?k3 ?k4 ?k5 ?kK ?kd ?ku (ha2 ?kh ?kh2) ?_; walk_at "u2"; (case kh => k_mem); (case kh2 => k_mem); (case p2 => walk_at "up"); (case p3 => walk_at "up"))); (case p1 => walk_at "up"); (intro y9 t9 h9 tk9 hy9 F9 N9; (try (rename ∀ y : Str, sgs y = _ → NumText (sgs y) ∧ ntree (sgs y) = _ => hb9; have hb8 := hb9 _ hy9; obtain ⟨hb7, hb6⟩ := hb8)); walk_at "u3")) | ((with_reducible show wpAny _ _ (call (Value.ref 375) _) _ _ _); k_dflt (refine' useX (d_of_text _ _ _ _ _ ?p1 ?p2 ?p3 ?p4) ?k1 ?k2 ?k3 ?k4 ?k5 ?kK ?kd ?ku ?kx ?_; (case p1 => walk_at "up"); (case p2 => walk_at "up"); (case p3 => walk_at "up"); (case p4 => walk_at "up"); walk_at "u2"; (case kx => walk_at "uf")); (intro r9 v9 tl9 h9 tk9 hr9 F9 N9 l9 o9; walk_at "u3")) | ((with_reducible show wpAny _ _ (call (Value.ref 243) _) _ _ _); (rename ntree _ = Tr.dec _ _ => ht9); k_dflt (refine' useM (number_tree _ _ _ ?p1 ?p2) ?k1 ?k2 ?k3 ?k4 ?k5 ?kK ?kd ?ku ?_; (case p1 => walk_at "up"); (case p2 => walk_at "up"); walk_at "u2"); (intro r9 tl9 h9 tk9 F9 N9 l9 o9; rw [ht9] at o9; obtain ⟨D9, D8, a9, b9, c9, e9, e8, lt9⟩ := o9; subst e9; subst e8; dsimp only [List.cons_append, List.nil_append] at N9; (have l9' := fun q hq => l9 q hq (D9, _) (.head _)); (have l9b := fun q hq => l9 q hq (D8, _) (.tail _ (.head _))); clear l9; (try k_lt l9'); (try k_lt l9b); walk_at "u3")) | ((with_reducible show wpAny _ _ (call (Value.ref 243) _) _ _ _); (rename ntree _ = Tr.whole _ => ht9); k_dflt (refine' useM (number_tree _ _ _ ?p1 ?p2) ?k1 ?k2 ?k3 ?k4 ?k5 ?kK ?kd ?ku ?_; (case p1 => walk_at "up"); (case p2 => walk_at "up"); walk_at "u2"); (intro r9 tl9 h9 tk9 F9 N9 l9 o9; rw [ht9] at o9; obtain ⟨D9, a9, b9, e9, e8⟩ := o9; subst e9; subst e8; dsimp only [List.cons_append, List.nil_append] at N9; (have l9' := fun q hq => l9 q hq (D9, _) (.head _)); clear l9; (try k_lt l9'); walk_at "u3")) | ((with_reducible show wpAny _ _ (call (Value.ref 403) _) _ _ _); (rename mk _ _ _ = none => hm9); k_dflt (refine' useS (near_none _ _ _ _ _ _ () ?p1 ?p2 ?p3 ?p4 ?p5 hm9) ?k1 ?k2 ?k3 ?k4 ?k5 ?kK ?kd ?ku ?_; (case p1 => walk_at "up"); (case p2 => walk_at "up"); (case p3 => walk_at "up"); (case p4 => walk_at "up"); (case p5 => (first | decide | omega | (split <;> omega))); walk_at "u2"); (intro t9 h9 tk9 F9 N9; walk_at "u3")) | ((with_reducible show wpAny _ _ (call (Value.ref 403) _) _ _ _); (rename mk _ _ _ = some _ => hm9); k_dflt (refine' useII (near_some _ _ _ _ _ _ _ ?p1 ?p2 ?p3 ?p4 ?p5 hm9) ?k1 ?k2 ?k3 ?k4 ?k5 ?kK ?kd ?ku ?_; (case p1 => walk_at "up"); (case p2 => walk_at "up"); (case p3 => walk_at "up"); (case p4 => walk_at "up"); (case p5 => (first | decide | omega | (split <;> omega))); walk_at "u2"); (intro D9 a9 b9 h9 tk9 F9 N9 l9; (try k_lt l9); walk_at "u3")) | ((with_reducible show wpAny _ _ (call (Value.ref 417) _) _ _ _); k_dflt (first | (refine' useAB (is_back_whole _ _ _ _ ?p1 ?p2) ?k1 ?k2 ?k3 ?k4 ?k5 ?kK ?kd ?ku (ha1 ?kh) ?_; (case p2 => assumption); walk_at "u2"; (case kh => k_mem)) | (refine' useAB (is_back_dec _ _ _ _ _ _ ?p1 ?p2) ?k1 ?k2 ?k3 ?k4 ?k5 ?kK ?kd ?ku (ha2 ?kh ?kh2) ?_; (case p2 => assumption); walk_at "u2"; (case kh => k_mem); (case kh2 => k_mem))); (case p1 => assumption); (intro h9 tk9 F9 N9; walk_at "u3")) | ((with_reducible show wpAny _ _ (call (Value.ref 389) _) _ _ _); k_dflt (refine' useA (worth_dec _ _ _ _ _ _ _ _ _ _ _ ?p1 ?p2) ?k1 ?k2 ?k3 ?k4 ?k5 ?kK ?kd ?ku (ha2 ?kh ?kh2) ?kx ?_; walk_at "u2"; (case kh => k_mem); (case kh2 => k_mem); (case p1 => walk_at "up"); (case p2 => walk_at "up"); (case kx => walk_at "uf")); (intro r9 v9 tl9 h9 tk9 hr9 F9 N9 l9 o9; walk_at "u3")) | ((with_reducible show wpAny _ _ (call (Value.ref 389) _) _ _ _); k_dflt (refine' useA (worth_whole _ _ _ _ _ _ _ _ ?p1 ?p2) ?k1 ?k2 ?k3 ?k4 ?k5 ?kK ?kd ?ku (ha1 ?kh) ?kx ?_; walk_at "u2"; (case kh => k_mem); (case p1 => walk_at "up"); (case p2 => walk_at "up"); (case kx => walk_at "uf")); (intro r9 v9 tl9 h9 tk9 hr9 F9 N9 l9 o9; walk_at "u3")))) | walk_at "wk"))))
  k_dflt (refine' useT ?ak4 ?ak2 ?ak1 ?ak3 ?ak5 XB TB ?ak6 ?akK ?akd ?aku (law_heard w _ 20 340 _ _ _ _ _ (worth dg (.whole (val (sgs F)))) OutW ?aC) ?akq)
  (case ak4 => k_asm)
  (case ak2 => k_asm)
  (case ak1 => k_asm)
  (case ak3 => k_asm)
  (case ak5 => k_asm)
  (case ak6 => k_asm)
  (case akK => exact rfl)
  (case akd => ktr_room)
  (case aku => ktr_units)
  case' aC =>
    unfold MeetsA
    k_fill
    intro p2 loose2 mean2 mg2 mb2 dp2 un2 gd2 cn2 cs2 a2 ccd2 cl2 outer2 A2 base2 g2 L2 m2 news2 s2 Q2 E2 hrw2 B2 F2 X2 N2 T2 hk2 hd2 hu2 hret2 hexc2
    clear hrw2
    dsimp only [List.cons_append, List.nil_append] at N2 hret2 hexc2
    walk_at "call lambda"
    (repeat' (first | (k_here; (with_reducible show wpAny _ _ (compareOp CmpOp.Eq (Value.ref _) (Value.str _ _)) _ _ _); (refine cmp_ofEq ?_); k_dflt (refine' SeqAt.RcAt.tuple_str _ _ ?zh ?zu _ _ _ _ ?_); (case zh => exact ⟨_, News.get (by k_asm) (by k_mem), rfl, _, rfl⟩); (case zu => ktr_units)) | (k_here; (with_reducible show wpAny _ _ (eval (Expr.Lambda _ _ _ _) _) _ _ _); k_dflt (refine' kla_eval ?d0 ?_; (case d0 => exact rfl)); k_dflt (refine' lam_any ?F ?N ?T ?C ?cd ?U ?S ?tl ?cl ?_; (case F => k_asm); (case N => k_asm); (case T => k_asm); (case cd => exact rfl); (case C => kn_code); (case U => k_updF); (case S => assumption); (case tl => first | (refine List.forall_mem_cons.mpr ⟨?ma, ?mb⟩; (case ma => k_mem); (case mb => exact (by repeat' (first | with_reducible assumption | refine sub_cons ?_)))) | exact (by repeat' (first | with_reducible assumption | refine sub_cons ?_))); (case cl => exact rfl); k_whole); intro f9 c9 oc9 vs9 t9 ct9 ps9 h9 tk9 F9 N9 d9 e9 S9 l9 l8 l7 w9; (try dsimp only at N9); (try k_lt l9); (try k_lt2 l8); (try k_lt2 l7)) | (k_here; (with_reducible show wpAny _ _ (call (Value.type "int") [Value.str _ _]) _ _ _); (refine KIN.call_text (by with_reducible assumption) (by omega) ?_)) | (k_here; (with_reducible show wpAny _ _ (call (Value.ref _) _) _ _ _); (first | ((with_reducible show wpAny _ _ (call (Value.ref 353) _) _ _ _); k_dflt (first | (refine' useSg (shown_whole_tree _ _ _ ?p1) ?k1 ?k2 ?k3 ?k4 ?k5 ?kK ?kd ?ku (ha1 ?kh) ?_; walk_at "u2"; (case kh => k_mem)) | (refine' useSg (shown_dec_tree _ _ _ _ _ ?p1 ?p2 ?p3) ?k1 ?k2 ?k3 ?k4 ?k5 ?kK ?kd ?ku (ha2 ?kh ?kh2) ?_; walk_at "u2"; (case kh => k_mem); (case kh2 => k_mem); (case p2 => walk_at "up"); (case p3 => walk_at "up"))); (case p1 => walk_at "up"); (intro y9 t9 h9 tk9 hy9 F9 N9; (try (rename ∀ y : Str, sgs y = _ → NumText (sgs y) ∧ ntree (sgs y) = _ => hb9; have hb8 := hb9 _ hy9; obtain ⟨hb7, hb6⟩ := hb8)); walk_at "u3")) | ((with_reducible show wpAny _ _ (call (Value.ref 375) _) _ _ _); k_dflt (refine' useX (d_of_text _ _ _ _ _ ?p1 ?p2 ?p3 ?p4) ?k1 ?k2 ?k3 ?k4 ?k5 ?kK ?kd ?ku ?kx ?_; (case p1 => walk_at "up"); (case p2 => walk_at "up"); (case p3 => walk_at "up"); (case p4 => walk_at "up"); walk_at "u2"; (case kx => walk_at "uf")); (intro r9 v9 tl9 h9 tk9 hr9 F9 N9 l9 o9; walk_at "u3")) | ((with_reducible show wpAny _ _ (call (Value.ref 243) _) _ _ _); (rename ntree _ = Tr.dec _ _ => ht9); k_dflt (refine' useM (number_tree _ _ _ ?p1 ?p2) ?k1 ?k2 ?k3 ?k4 ?k5 ?kK ?kd ?ku ?_; (case p1 => walk_at "up"); (case p2 => walk_at "up"); walk_at "u2"); (intro r9 tl9 h9 tk9 F9 N9 l9 o9; rw [ht9] at o9; obtain ⟨D9, D8, a9, b9, c9, e9, e8, lt9⟩ := o9; subst e9; subst e8; dsimp only [List.cons_append, List.nil_append] at N9; (have l9' := fun q hq => l9 q hq (D9, _) (.head _)); (have l9b := fun q hq => l9 q hq (D8, _) (.tail _ (.head _))); clear l9; (try k_lt l9'); (try k_lt l9b); walk_at "u3")) | ((with_reducible show wpAny _ _ (call (Value.ref 243) _) _ _ _); (rename ntree _ = Tr.whole _ => ht9); k_dflt (refine' useM (number_tree _ _ _ ?p1 ?p2) ?k1 ?k2 ?k3 ?k4 ?k5 ?kK ?kd ?ku ?_; (case p1 => walk_at "up"); (case p2 => walk_at "up"); walk_at "u2"); (intro r9 tl9 h9 tk9 F9 N9 l9 o9; rw [ht9] at o9; obtain ⟨D9, a9, b9, e9, e8⟩ := o9; subst e9; subst e8; dsimp only [List.cons_append, List.nil_append] at N9; (have l9' := fun q hq => l9 q hq (D9, _) (.head _)); clear l9; (try k_lt l9'); walk_at "u3")) | ((with_reducible show wpAny _ _ (call (Value.ref 403) _) _ _ _); (rename mk _ _ _ = none => hm9); k_dflt (refine' useS (near_none _ _ _ _ _ _ () ?p1 ?p2 ?p3 ?p4 ?p5 hm9) ?k1 ?k2 ?k3 ?k4 ?k5 ?kK ?kd ?ku ?_; (case p1 => walk_at "up"); (case p2 => walk_at "up"); (case p3 => walk_at "up"); (case p4 => walk_at "up"); (case p5 => (first | decide | omega | (split <;> omega))); walk_at "u2"); (intro t9 h9 tk9 F9 N9; walk_at "u3")) | ((with_reducible show wpAny _ _ (call (Value.ref 403) _) _ _ _); (rename mk _ _ _ = some _ => hm9); k_dflt (refine' useII (near_some _ _ _ _ _ _ _ ?p1 ?p2 ?p3 ?p4 ?p5 hm9) ?k1 ?k2 ?k3 ?k4 ?k5 ?kK ?kd ?ku ?_; (case p1 => walk_at "up"); (case p2 => walk_at "up"); (case p3 => walk_at "up"); (case p4 => walk_at "up"); (case p5 => (first | decide | omega | (split <;> omega))); walk_at "u2"); (intro D9 a9 b9 h9 tk9 F9 N9 l9; (try k_lt l9); walk_at "u3")) | ((with_reducible show wpAny _ _ (call (Value.ref 417) _) _ _ _); k_dflt (first | (refine' useAB (is_back_whole _ _ _ _ ?p1 ?p2) ?k1 ?k2 ?k3 ?k4 ?k5 ?kK ?kd ?ku (ha1 ?kh) ?_; (case p2 => assumption); walk_at "u2"; (case kh => k_mem)) | (refine' useAB (is_back_dec _ _ _ _ _ _ ?p1 ?p2) ?k1 ?k2 ?k3 ?k4 ?k5 ?kK ?kd ?ku (ha2 ?kh ?kh2) ?_; (case p2 => assumption); walk_at "u2"; (case kh => k_mem); (case kh2 => k_mem))); (case p1 => assumption); (intro h9 tk9 F9 N9; walk_at "u3")) | ((with_reducible show wpAny _ _ (call (Value.ref 389) _) _ _ _); k_dflt (refine' useA (worth_dec _ _ _ _ _ _ _ _ _ _ _ ?p1 ?p2) ?k1 ?k2 ?k3 ?k4 ?k5 ?kK ?kd ?ku (ha2 ?kh ?kh2) ?kx ?_; walk_at "u2"; (case kh => k_mem); (case kh2 => k_mem); (case p1 => walk_at "up"); (case p2 => walk_at "up"); (case kx => walk_at "uf")); (intro r9 v9 tl9 h9 tk9 hr9 F9 N9 l9 o9; walk_at "u3")) | ((with_reducible show wpAny _ _ (call (Value.ref 389) _) _ _ _); k_dflt (refine' useA (worth_whole _ _ _ _ _ _ _ _ ?p1 ?p2) ?k1 ?k2 ?k3 ?k4 ?k5 ?kK ?kd ?ku (ha1 ?kh) ?kx ?_; walk_at "u2"; (case kh => k_mem); (case p1 => walk_at "up"); (case p2 => walk_at "up"); (case kx => walk_at "uf")); (intro r9 v9 tl9 h9 tk9 hr9 F9 N9 l9 o9; walk_at "u3")))) | walk_at "wk"))
    exact hret2 _ (by assumption) _ _ _ _ (by k_asm) (by k_asm) (by assumption) (by assumption)
  case' akq =>
    intro r8 tl8 h8 h8' tk8 T8 F8 N8 l8 B8 X8 P8 D8 o8
    clear B' X' T' D'
    (try dsimp only [List.nil_append, List.cons_append] at N8)
    try k_lift B8
    (repeat' (first | ((fail_if_success (with_reducible show wpAny _ _ (exec (Stmt.If (Expr.BoolOp _ _ _) _ _ _) _) _ _ _)); (first | (k_here; (with_reducible show wpAny _ _ (compareOp CmpOp.Eq (Value.ref _) (Value.str _ _)) _ _ _); (refine cmp_ofEq ?_); k_dflt (refine' SeqAt.RcAt.tuple_str _ _ ?zh ?zu _ _ _ _ ?_); (case zh => exact ⟨_, News.get (by k_asm) (by k_mem), rfl, _, rfl⟩); (case zu => ktr_units)) | (k_here; (with_reducible show wpAny _ _ (eval (Expr.Lambda _ _ _ _) _) _ _ _); k_dflt (refine' kla_eval ?d0 ?_; (case d0 => exact rfl)); k_dflt (refine' lam_any ?F ?N ?T ?C ?cd ?U ?S ?tl ?cl ?_; (case F => k_asm); (case N => k_asm); (case T => k_asm); (case cd => exact rfl); (case C => kn_code); (case U => k_updF); (case S => assumption); (case tl => first | (refine List.forall_mem_cons.mpr ⟨?ma, ?mb⟩; (case ma => k_mem); (case mb => exact (by repeat' (first | with_reducible assumption | refine sub_cons ?_)))) | exact (by repeat' (first | with_reducible assumption | refine sub_cons ?_))); (case cl => exact rfl); k_whole); intro f9 c9 oc9 vs9 t9 ct9 ps9 h9 tk9 F9 N9 d9 e9 S9 l9 l8 l7 w9; (try dsimp only at N9); (try k_lt l9); (try k_lt2 l8); (try k_lt2 l7)) | (k_here; (with_reducible show wpAny _ _ (call (Value.type "int") [Value.str _ _]) _ _ _); (refine KIN.call_text (by with_reducible assumption) (by omega) ?_)) | (k_here; (with_reducible show wpAny _ _ (call (Value.ref _) _) _ _ _); (first | ((with_reducible show wpAny _ _ (call (Value.ref 353) _) _ _ _); k_dflt (first | (refine' useSg (shown_whole_tree _ _ _ ?p1) ?k1 ?k2 ?k3 ?k4 ?k5 ?kK ?kd ?ku (ha1 ?kh) ?_; walk_at "u2"; (case kh => k_mem)) | (refine' useSg (shown_dec_tree _ _ _ _ _ ?p1 ?p2 ?p3) ?k1 ?k2 ?k3 ?k4 ?k5 ?kK ?kd ?ku (ha2 ?kh ?kh2) ?_; walk_at "u2"; (case kh => k_mem); (case kh2 => k_mem); (case p2 => walk_at "up"); (case p3 => walk_at "up"))); (case p1 => walk_at "up"); (intro y9 t9 h9 tk9 hy9 F9 N9; (try (rename ∀ y : Str, sgs y = _ → NumText (sgs y) ∧ ntree (sgs y) = _ => hb9; have hb8 := hb9 _ hy9; obtain ⟨hb7, hb6⟩ := hb8)); walk_at "u3")) | ((with_reducible show wpAny _ _ (call (Value.ref 375) _) _ _ _); k_dflt (refine' useX (d_of_text _ _ _ _ _ ?p1 ?p2 ?p3 ?p4) ?k1 ?k2 ?k3 ?k4 ?k5 ?kK ?kd ?ku ?kx ?_; (case p1 => walk_at "up"); (case p2 => walk_at "up"); (case p3 => walk_at "up"); (case p4 => walk_at "up"); walk_at "u2"; (case kx => walk_at "uf")); (intro r9 v9 tl9 h9 tk9 hr9 F9 N9 l9 o9; walk_at "u3")) | ((with_reducible show wpAny _ _ (call (Value.ref 243) _) _ _ _); (rename ntree _ = Tr.dec _ _ => ht9); k_dflt (refine' useM (number_tree _ _ _ ?p1 ?p2) ?k1 ?k2 ?k3 ?k4 ?k5 ?kK ?kd ?ku ?_; (case p1 => walk_at "up"); (case p2 => walk_at "up"); walk_at "u2"); (intro r9 tl9 h9 tk9 F9 N9 l9 o9; rw [ht9] at o9; obtain ⟨D9, D8, a9, b9, c9, e9, e8, lt9⟩ := o9; subst e9; subst e8; dsimp only [List.cons_append, List.nil_append] at N9; (have l9' := fun q hq => l9 q hq (D9, _) (.head _)); (have l9b := fun q hq => l9 q hq (D8, _) (.tail _ (.head _))); clear l9; (try k_lt l9'); (try k_lt l9b); walk_at "u3")) | ((with_reducible show wpAny _ _ (call (Value.ref 243) _) _ _ _); (rename ntree _ = Tr.whole _ => ht9); k_dflt (refine' useM (number_tree _ _ _ ?p1 ?p2) ?k1 ?k2 ?k3 ?k4 ?k5 ?kK ?kd ?ku ?_; (case p1 => walk_at "up"); (case p2 => walk_at "up"); walk_at "u2"); (intro r9 tl9 h9 tk9 F9 N9 l9 o9; rw [ht9] at o9; obtain ⟨D9, a9, b9, e9, e8⟩ := o9; subst e9; subst e8; dsimp only [List.cons_append, List.nil_append] at N9; (have l9' := fun q hq => l9 q hq (D9, _) (.head _)); clear l9; (try k_lt l9'); walk_at "u3")) | ((with_reducible show wpAny _ _ (call (Value.ref 403) _) _ _ _); (rename mk _ _ _ = none => hm9); k_dflt (refine' useS (near_none _ _ _ _ _ _ () ?p1 ?p2 ?p3 ?p4 ?p5 hm9) ?k1 ?k2 ?k3 ?k4 ?k5 ?kK ?kd ?ku ?_; (case p1 => walk_at "up"); (case p2 => walk_at "up"); (case p3 => walk_at "up"); (case p4 => walk_at "up"); (case p5 => (first | decide | omega | (split <;> omega))); walk_at "u2"); (intro t9 h9 tk9 F9 N9; walk_at "u3")) | ((with_reducible show wpAny _ _ (call (Value.ref 403) _) _ _ _); (rename mk _ _ _ = some _ => hm9); k_dflt (refine' useII (near_some _ _ _ _ _ _ _ ?p1 ?p2 ?p3 ?p4 ?p5 hm9) ?k1 ?k2 ?k3 ?k4 ?k5 ?kK ?kd ?ku ?_; (case p1 => walk_at "up"); (case p2 => walk_at "up"); (case p3 => walk_at "up"); (case p4 => walk_at "up"); (case p5 => (first | decide | omega | (split <;> omega))); walk_at "u2"); (intro D9 a9 b9 h9 tk9 F9 N9 l9; (try k_lt l9); walk_at "u3")) | ((with_reducible show wpAny _ _ (call (Value.ref 417) _) _ _ _); k_dflt (first | (refine' useAB (is_back_whole _ _ _ _ ?p1 ?p2) ?k1 ?k2 ?k3 ?k4 ?k5 ?kK ?kd ?ku (ha1 ?kh) ?_; (case p2 => assumption); walk_at "u2"; (case kh => k_mem)) | (refine' useAB (is_back_dec _ _ _ _ _ _ ?p1 ?p2) ?k1 ?k2 ?k3 ?k4 ?k5 ?kK ?kd ?ku (ha2 ?kh ?kh2) ?_; (case p2 => assumption); walk_at "u2"; (case kh => k_mem); (case kh2 => k_mem))); (case p1 => assumption); (intro h9 tk9 F9 N9; walk_at "u3")) | ((with_reducible show wpAny _ _ (call (Value.ref 389) _) _ _ _); k_dflt (refine' useA (worth_dec _ _ _ _ _ _ _ _ _ _ _ ?p1 ?p2) ?k1 ?k2 ?k3 ?k4 ?k5 ?kK ?kd ?ku (ha2 ?kh ?kh2) ?kx ?_; walk_at "u2"; (case kh => k_mem); (case kh2 => k_mem); (case p1 => walk_at "up"); (case p2 => walk_at "up"); (case kx => walk_at "uf")); (intro r9 v9 tl9 h9 tk9 hr9 F9 N9 l9 o9; walk_at "u3")) | ((with_reducible show wpAny _ _ (call (Value.ref 389) _) _ _ _); k_dflt (refine' useA (worth_whole _ _ _ _ _ _ _ _ ?p1 ?p2) ?k1 ?k2 ?k3 ?k4 ?k5 ?kK ?kd ?ku (ha1 ?kh) ?kx ?_; walk_at "u2"; (case kh => k_mem); (case p1 => walk_at "up"); (case p2 => walk_at "up"); (case kx => walk_at "uf")); (intro r9 v9 tl9 h9 tk9 hr9 F9 N9 l9 o9; walk_at "u3")))) | walk_at "wk"))))
    rename Fr h8 L' _ _ => FF
    rename News h8 L' _ _ => NN
    k_dflt (refine cut_store (Str.ofString "number") FF (news_sub NN (fun q hq => List.mem_append_right _ (.tail _ hq))) ?wcu ?wre)
    case' wcu =>
      by_cases h5 : val (sgs F) < 32768
      · have hw : worth dg (.whole (val (sgs F))) = some (.inl ((val (sgs F) : Nat) : Int)) := if_pos h5
        rw [hw] at o8
        obtain ⟨e8, t8, e8'⟩ := o8
        subst e8
        subst e8'
        (try dsimp only [List.nil_append, List.cons_append] at NN)
        (repeat' (first | (k_here; (with_reducible show wpAny _ _ (compareOp CmpOp.Eq (Value.ref _) (Value.str _ _)) _ _ _); (refine cmp_ofEq ?_); k_dflt (refine' SeqAt.RcAt.tuple_str _ _ ?zh ?zu _ _ _ _ ?_); (case zh => exact ⟨_, News.get (by k_asm) (by k_mem), rfl, _, rfl⟩); (case zu => ktr_units)) | (k_here; (with_reducible show wpAny _ _ (eval (Expr.Lambda _ _ _ _) _) _ _ _); k_dflt (refine' kla_eval ?d0 ?_; (case d0 => exact rfl)); k_dflt (refine' lam_any ?F ?N ?T ?C ?cd ?U ?S ?tl ?cl ?_; (case F => k_asm); (case N => k_asm); (case T => k_asm); (case cd => exact rfl); (case C => kn_code); (case U => k_updF); (case S => assumption); (case tl => first | (refine List.forall_mem_cons.mpr ⟨?ma, ?mb⟩; (case ma => k_mem); (case mb => exact (by repeat' (first | with_reducible assumption | refine sub_cons ?_)))) | exact (by repeat' (first | with_reducible assumption | refine sub_cons ?_))); (case cl => exact rfl); k_whole); intro f9 c9 oc9 vs9 t9 ct9 ps9 h9 tk9 F9 N9 d9 e9 S9 l9 l8 l7 w9; (try dsimp only at N9); (try k_lt l9); (try k_lt2 l8); (try k_lt2 l7)) | (k_here; (with_reducible show wpAny _ _ (call (Value.type "int") [Value.str _ _]) _ _ _); (refine KIN.call_text (by with_reducible assumption) (by omega) ?_)) | (k_here; (with_reducible show wpAny _ _ (call (Value.ref _) _) _ _ _); (first | ((with_reducible show wpAny _ _ (call (Value.ref 353) _) _ _ _); k_dflt (first | (refine' useSg (shown_whole_tree _ _ _ ?p1) ?k1 ?k2 ?k3 ?k4 ?k5 ?kK ?kd ?ku (ha1 ?kh) ?_; walk_at "u2"; (case kh => k_mem)) | (refine' useSg (shown_dec_tree _ _ _ _ _ ?p1 ?p2 ?p3) ?k1 ?k2 ?k3 ?k4 ?k5 ?kK ?kd ?ku (ha2 ?kh ?kh2) ?_; walk_at "u2"; (case kh => k_mem); (case kh2 => k_mem); (case p2 => walk_at "up"); (case p3 => walk_at "up"))); (case p1 => walk_at "up"); (intro y9 t9 h9 tk9 hy9 F9 N9; (try (rename ∀ y : Str, sgs y = _ → NumText (sgs y) ∧ ntree (sgs y) = _ => hb9; have hb8 := hb9 _ hy9; obtain ⟨hb7, hb6⟩ := hb8)); walk_at "u3")) | ((with_reducible show wpAny _ _ (call (Value.ref 375) _) _ _ _); k_dflt (refine' useX (d_of_text _ _ _ _ _ ?p1 ?p2 ?p3 ?p4) ?k1 ?k2 ?k3 ?k4 ?k5 ?kK ?kd ?ku ?kx ?_; (case p1 => walk_at "up"); (case p2 => walk_at "up"); (case p3 => walk_at "up"); (case p4 => walk_at "up"); walk_at "u2"; (case kx => walk_at "uf")); (intro r9 v9 tl9 h9 tk9 hr9 F9 N9 l9 o9; walk_at "u3")) | ((with_reducible show wpAny _ _ (call (Value.ref 243) _) _ _ _); (rename ntree _ = Tr.dec _ _ => ht9); k_dflt (refine' useM (number_tree _ _ _ ?p1 ?p2) ?k1 ?k2 ?k3 ?k4 ?k5 ?kK ?kd ?ku ?_; (case p1 => walk_at "up"); (case p2 => walk_at "up"); walk_at "u2"); (intro r9 tl9 h9 tk9 F9 N9 l9 o9; rw [ht9] at o9; obtain ⟨D9, D8, a9, b9, c9, e9, e8, lt9⟩ := o9; subst e9; subst e8; dsimp only [List.cons_append, List.nil_append] at N9; (have l9' := fun q hq => l9 q hq (D9, _) (.head _)); (have l9b := fun q hq => l9 q hq (D8, _) (.tail _ (.head _))); clear l9; (try k_lt l9'); (try k_lt l9b); walk_at "u3")) | ((with_reducible show wpAny _ _ (call (Value.ref 243) _) _ _ _); (rename ntree _ = Tr.whole _ => ht9); k_dflt (refine' useM (number_tree _ _ _ ?p1 ?p2) ?k1 ?k2 ?k3 ?k4 ?k5 ?kK ?kd ?ku ?_; (case p1 => walk_at "up"); (case p2 => walk_at "up"); walk_at "u2"); (intro r9 tl9 h9 tk9 F9 N9 l9 o9; rw [ht9] at o9; obtain ⟨D9, a9, b9, e9, e8⟩ := o9; subst e9; subst e8; dsimp only [List.cons_append, List.nil_append] at N9; (have l9' := fun q hq => l9 q hq (D9, _) (.head _)); clear l9; (try k_lt l9'); walk_at "u3")) | ((with_reducible show wpAny _ _ (call (Value.ref 403) _) _ _ _); (rename mk _ _ _ = none => hm9); k_dflt (refine' useS (near_none _ _ _ _ _ _ () ?p1 ?p2 ?p3 ?p4 ?p5 hm9) ?k1 ?k2 ?k3 ?k4 ?k5 ?kK ?kd ?ku ?_; (case p1 => walk_at "up"); (case p2 => walk_at "up"); (case p3 => walk_at "up"); (case p4 => walk_at "up"); (case p5 => (first | decide | omega | (split <;> omega))); walk_at "u2"); (intro t9 h9 tk9 F9 N9; walk_at "u3")) | ((with_reducible show wpAny _ _ (call (Value.ref 403) _) _ _ _); (rename mk _ _ _ = some _ => hm9); k_dflt (refine' useII (near_some _ _ _ _ _ _ _ ?p1 ?p2 ?p3 ?p4 ?p5 hm9) ?k1 ?k2 ?k3 ?k4 ?k5 ?kK ?kd ?ku ?_; (case p1 => walk_at "up"); (case p2 => walk_at "up"); (case p3 => walk_at "up"); (case p4 => walk_at "up"); (case p5 => (first | decide | omega | (split <;> omega))); walk_at "u2"); (intro D9 a9 b9 h9 tk9 F9 N9 l9; (try k_lt l9); walk_at "u3")) | ((with_reducible show wpAny _ _ (call (Value.ref 417) _) _ _ _); k_dflt (first | (refine' useAB (is_back_whole _ _ _ _ ?p1 ?p2) ?k1 ?k2 ?k3 ?k4 ?k5 ?kK ?kd ?ku (ha1 ?kh) ?_; (case p2 => assumption); walk_at "u2"; (case kh => k_mem)) | (refine' useAB (is_back_dec _ _ _ _ _ _ ?p1 ?p2) ?k1 ?k2 ?k3 ?k4 ?k5 ?kK ?kd ?ku (ha2 ?kh ?kh2) ?_; (case p2 => assumption); walk_at "u2"; (case kh => k_mem); (case kh2 => k_mem))); (case p1 => assumption); (intro h9 tk9 F9 N9; walk_at "u3")) | ((with_reducible show wpAny _ _ (call (Value.ref 389) _) _ _ _); k_dflt (refine' useA (worth_dec _ _ _ _ _ _ _ _ _ _ _ ?p1 ?p2) ?k1 ?k2 ?k3 ?k4 ?k5 ?kK ?kd ?ku (ha2 ?kh ?kh2) ?kx ?_; walk_at "u2"; (case kh => k_mem); (case kh2 => k_mem); (case p1 => walk_at "up"); (case p2 => walk_at "up"); (case kx => walk_at "uf")); (intro r9 v9 tl9 h9 tk9 hr9 F9 N9 l9 o9; walk_at "u3")) | ((with_reducible show wpAny _ _ (call (Value.ref 389) _) _ _ _); k_dflt (refine' useA (worth_whole _ _ _ _ _ _ _ _ ?p1 ?p2) ?k1 ?k2 ?k3 ?k4 ?k5 ?kK ?kd ?ku (ha1 ?kh) ?kx ?_; walk_at "u2"; (case kh => k_mem); (case p1 => walk_at "up"); (case p2 => walk_at "up"); (case kx => walk_at "uf")); (intro r9 v9 tl9 h9 tk9 hr9 F9 N9 l9 o9; walk_at "u3")))) | walk_at "wk"))
        all_goals try (rename ((val (sgs F) : Nat) : Int) ≠ _ => hz; exact absurd rfl hz)
        exact CutM.mk (by with_reducible assumption) (by with_reducible assumption) (by repeat' (first | exact sub_refl _ | refine sub_cons ?_))
      · have hw : worth dg (.whole (val (sgs F))) = some (.inr (q1, q2)) := (if_neg h5).trans (by rw [show mk (val (sgs F)) 0 dg = some (q1, q2) by assumption]; rfl)
        rw [hw] at o8
        obtain ⟨Dw, aw, bw, e8, e8'⟩ := o8
        subst e8
        subst e8'
        have l8a := fun q hq => l8 q hq (Dw, _) (.head _)
        k_lt l8a
        (try dsimp only [List.nil_append, List.cons_append] at NN)
        (repeat' (first | (k_here; (with_reducible show wpAny _ _ (compareOp CmpOp.Eq (Value.ref _) (Value.str _ _)) _ _ _); (refine cmp_ofEq ?_); k_dflt (refine' SeqAt.RcAt.tuple_str _ _ ?zh ?zu _ _ _ _ ?_); (case zh => exact ⟨_, News.get (by k_asm) (by k_mem), rfl, _, rfl⟩); (case zu => ktr_units)) | (k_here; (with_reducible show wpAny _ _ (eval (Expr.Lambda _ _ _ _) _) _ _ _); k_dflt (refine' kla_eval ?d0 ?_; (case d0 => exact rfl)); k_dflt (refine' lam_any ?F ?N ?T ?C ?cd ?U ?S ?tl ?cl ?_; (case F => k_asm); (case N => k_asm); (case T => k_asm); (case cd => exact rfl); (case C => kn_code); (case U => k_updF); (case S => assumption); (case tl => first | (refine List.forall_mem_cons.mpr ⟨?ma, ?mb⟩; (case ma => k_mem); (case mb => exact (by repeat' (first | with_reducible assumption | refine sub_cons ?_)))) | exact (by repeat' (first | with_reducible assumption | refine sub_cons ?_))); (case cl => exact rfl); k_whole); intro f9 c9 oc9 vs9 t9 ct9 ps9 h9 tk9 F9 N9 d9 e9 S9 l9 l8 l7 w9; (try dsimp only at N9); (try k_lt l9); (try k_lt2 l8); (try k_lt2 l7)) | (k_here; (with_reducible show wpAny _ _ (call (Value.type "int") [Value.str _ _]) _ _ _); (refine KIN.call_text (by with_reducible assumption) (by omega) ?_)) | (k_here; (with_reducible show wpAny _ _ (call (Value.ref _) _) _ _ _); (first | ((with_reducible show wpAny _ _ (call (Value.ref 353) _) _ _ _); k_dflt (first | (refine' useSg (shown_whole_tree _ _ _ ?p1) ?k1 ?k2 ?k3 ?k4 ?k5 ?kK ?kd ?ku (ha1 ?kh) ?_; walk_at "u2"; (case kh => k_mem)) | (refine' useSg (shown_dec_tree _ _ _ _ _ ?p1 ?p2 ?p3) ?k1 ?k2 ?k3 ?k4 ?k5 ?kK ?kd ?ku (ha2 ?kh ?kh2) ?_; walk_at "u2"; (case kh => k_mem); (case kh2 => k_mem); (case p2 => walk_at "up"); (case p3 => walk_at "up"))); (case p1 => walk_at "up"); (intro y9 t9 h9 tk9 hy9 F9 N9; (try (rename ∀ y : Str, sgs y = _ → NumText (sgs y) ∧ ntree (sgs y) = _ => hb9; have hb8 := hb9 _ hy9; obtain ⟨hb7, hb6⟩ := hb8)); walk_at "u3")) | ((with_reducible show wpAny _ _ (call (Value.ref 375) _) _ _ _); k_dflt (refine' useX (d_of_text _ _ _ _ _ ?p1 ?p2 ?p3 ?p4) ?k1 ?k2 ?k3 ?k4 ?k5 ?kK ?kd ?ku ?kx ?_; (case p1 => walk_at "up"); (case p2 => walk_at "up"); (case p3 => walk_at "up"); (case p4 => walk_at "up"); walk_at "u2"; (case kx => walk_at "uf")); (intro r9 v9 tl9 h9 tk9 hr9 F9 N9 l9 o9; walk_at "u3")) | ((with_reducible show wpAny _ _ (call (Value.ref 243) _) _ _ _); (rename ntree _ = Tr.dec _ _ => ht9); k_dflt (refine' useM (number_tree _ _ _ ?p1 ?p2) ?k1 ?k2 ?k3 ?k4 ?k5 ?kK ?kd ?ku ?_; (case p1 => walk_at "up"); (case p2 => walk_at "up"); walk_at "u2"); (intro r9 tl9 h9 tk9 F9 N9 l9 o9; rw [ht9] at o9; obtain ⟨D9, D8, a9, b9, c9, e9, e8, lt9⟩ := o9; subst e9; subst e8; dsimp only [List.cons_append, List.nil_append] at N9; (have l9' := fun q hq => l9 q hq (D9, _) (.head _)); (have l9b := fun q hq => l9 q hq (D8, _) (.tail _ (.head _))); clear l9; (try k_lt l9'); (try k_lt l9b); walk_at "u3")) | ((with_reducible show wpAny _ _ (call (Value.ref 243) _) _ _ _); (rename ntree _ = Tr.whole _ => ht9); k_dflt (refine' useM (number_tree _ _ _ ?p1 ?p2) ?k1 ?k2 ?k3 ?k4 ?k5 ?kK ?kd ?ku ?_; (case p1 => walk_at "up"); (case p2 => walk_at "up"); walk_at "u2"); (intro r9 tl9 h9 tk9 F9 N9 l9 o9; rw [ht9] at o9; obtain ⟨D9, a9, b9, e9, e8⟩ := o9; subst e9; subst e8; dsimp only [List.cons_append, List.nil_append] at N9; (have l9' := fun q hq => l9 q hq (D9, _) (.head _)); clear l9; (try k_lt l9'); walk_at "u3")) | ((with_reducible show wpAny _ _ (call (Value.ref 403) _) _ _ _); (rename mk _ _ _ = none => hm9); k_dflt (refine' useS (near_none _ _ _ _ _ _ () ?p1 ?p2 ?p3 ?p4 ?p5 hm9) ?k1 ?k2 ?k3 ?k4 ?k5 ?kK ?kd ?ku ?_; (case p1 => walk_at "up"); (case p2 => walk_at "up"); (case p3 => walk_at "up"); (case p4 => walk_at "up"); (case p5 => (first | decide | omega | (split <;> omega))); walk_at "u2"); (intro t9 h9 tk9 F9 N9; walk_at "u3")) | ((with_reducible show wpAny _ _ (call (Value.ref 403) _) _ _ _); (rename mk _ _ _ = some _ => hm9); k_dflt (refine' useII (near_some _ _ _ _ _ _ _ ?p1 ?p2 ?p3 ?p4 ?p5 hm9) ?k1 ?k2 ?k3 ?k4 ?k5 ?kK ?kd ?ku ?_; (case p1 => walk_at "up"); (case p2 => walk_at "up"); (case p3 => walk_at "up"); (case p4 => walk_at "up"); (case p5 => (first | decide | omega | (split <;> omega))); walk_at "u2"); (intro D9 a9 b9 h9 tk9 F9 N9 l9; (try k_lt l9); walk_at "u3")) | ((with_reducible show wpAny _ _ (call (Value.ref 417) _) _ _ _); k_dflt (first | (refine' useAB (is_back_whole _ _ _ _ ?p1 ?p2) ?k1 ?k2 ?k3 ?k4 ?k5 ?kK ?kd ?ku (ha1 ?kh) ?_; (case p2 => assumption); walk_at "u2"; (case kh => k_mem)) | (refine' useAB (is_back_dec _ _ _ _ _ _ ?p1 ?p2) ?k1 ?k2 ?k3 ?k4 ?k5 ?kK ?kd ?ku (ha2 ?kh ?kh2) ?_; (case p2 => assumption); walk_at "u2"; (case kh => k_mem); (case kh2 => k_mem))); (case p1 => assumption); (intro h9 tk9 F9 N9; walk_at "u3")) | ((with_reducible show wpAny _ _ (call (Value.ref 389) _) _ _ _); k_dflt (refine' useA (worth_dec _ _ _ _ _ _ _ _ _ _ _ ?p1 ?p2) ?k1 ?k2 ?k3 ?k4 ?k5 ?kK ?kd ?ku (ha2 ?kh ?kh2) ?kx ?_; walk_at "u2"; (case kh => k_mem); (case kh2 => k_mem); (case p1 => walk_at "up"); (case p2 => walk_at "up"); (case kx => walk_at "uf")); (intro r9 v9 tl9 h9 tk9 hr9 F9 N9 l9 o9; walk_at "u3")) | ((with_reducible show wpAny _ _ (call (Value.ref 389) _) _ _ _); k_dflt (refine' useA (worth_whole _ _ _ _ _ _ _ _ ?p1 ?p2) ?k1 ?k2 ?k3 ?k4 ?k5 ?kK ?kd ?ku (ha1 ?kh) ?kx ?_; walk_at "u2"; (case kh => k_mem); (case p1 => walk_at "up"); (case p2 => walk_at "up"); (case kx => walk_at "uf")); (intro r9 v9 tl9 h9 tk9 hr9 F9 N9 l9 o9; walk_at "u3")))) | walk_at "wk"))
        all_goals try (rename ((val (sgs F) : Nat) : Int) ≠ _ => hz; exact absurd rfl hz)
        exact CutM.mk (by with_reducible assumption) (by with_reducible assumption) (by repeat' (first | exact sub_refl _ | refine sub_cons ?_))
    case' wre =>
      intro nv h9 tk9 F9 N9
      clear FF NN
      (try clear N8)
      (try clear F8)
      (try clear o8 l8)
      (try dsimp only at F9)
      (try dsimp only)
      (repeat' (first | ((fail_if_success (with_reducible show wpAny _ _ (call (Value.ref 410) _) _ _ _)); (first | (k_here; (with_reducible show wpAny _ _ (compareOp CmpOp.Eq (Value.ref _) (Value.str _ _)) _ _ _); (refine cmp_ofEq ?_); k_dflt (refine' SeqAt.RcAt.tuple_str _ _ ?zh ?zu _ _ _ _ ?_); (case zh => exact ⟨_, News.get (by k_asm) (by k_mem), rfl, _, rfl⟩); (case zu => ktr_units)) | (k_here; (with_reducible show wpAny _ _ (eval (Expr.Lambda _ _ _ _) _) _ _ _); k_dflt (refine' kla_eval ?d0 ?_; (case d0 => exact rfl)); k_dflt (refine' lam_any ?F ?N ?T ?C ?cd ?U ?S ?tl ?cl ?_; (case F => k_asm); (case N => k_asm); (case T => k_asm); (case cd => exact rfl); (case C => kn_code); (case U => k_updF); (case S => assumption); (case tl => first | (refine List.forall_mem_cons.mpr ⟨?ma, ?mb⟩; (case ma => k_mem); (case mb => exact (by repeat' (first | with_reducible assumption | refine sub_cons ?_)))) | exact (by repeat' (first | with_reducible assumption | refine sub_cons ?_))); (case cl => exact rfl); k_whole); intro f9 c9 oc9 vs9 t9 ct9 ps9 h9 tk9 F9 N9 d9 e9 S9 l9 l8 l7 w9; (try dsimp only at N9); (try k_lt l9); (try k_lt2 l8); (try k_lt2 l7)) | (k_here; (with_reducible show wpAny _ _ (call (Value.type "int") [Value.str _ _]) _ _ _); (refine KIN.call_text (by with_reducible assumption) (by omega) ?_)) | (k_here; (with_reducible show wpAny _ _ (call (Value.ref _) _) _ _ _); (first | ((with_reducible show wpAny _ _ (call (Value.ref 353) _) _ _ _); k_dflt (first | (refine' useSg (shown_whole_tree _ _ _ ?p1) ?k1 ?k2 ?k3 ?k4 ?k5 ?kK ?kd ?ku (ha1 ?kh) ?_; walk_at "u2"; (case kh => k_mem)) | (refine' useSg (shown_dec_tree _ _ _ _ _ ?p1 ?p2 ?p3) ?k1 ?k2 ?k3 ?k4 ?k5 ?kK ?kd ?ku (ha2 ?kh ?kh2) ?_; walk_at "u2"; (case kh => k_mem); (case kh2 => k_mem); (case p2 => walk_at "up"); (case p3 => walk_at "up"))); (case p1 => walk_at "up"); (intro y9 t9 h9 tk9 hy9 F9 N9; (try (rename ∀ y : Str, sgs y = _ → NumText (sgs y) ∧ ntree (sgs y) = _ => hb9; have hb8 := hb9 _ hy9; obtain ⟨hb7, hb6⟩ := hb8)); walk_at "u3")) | ((with_reducible show wpAny _ _ (call (Value.ref 375) _) _ _ _); k_dflt (refine' useX (d_of_text _ _ _ _ _ ?p1 ?p2 ?p3 ?p4) ?k1 ?k2 ?k3 ?k4 ?k5 ?kK ?kd ?ku ?kx ?_; (case p1 => walk_at "up"); (case p2 => walk_at "up"); (case p3 => walk_at "up"); (case p4 => walk_at "up"); walk_at "u2"; (case kx => walk_at "uf")); (intro r9 v9 tl9 h9 tk9 hr9 F9 N9 l9 o9; walk_at "u3")) | ((with_reducible show wpAny _ _ (call (Value.ref 243) _) _ _ _); (rename ntree _ = Tr.dec _ _ => ht9); k_dflt (refine' useM (number_tree _ _ _ ?p1 ?p2) ?k1 ?k2 ?k3 ?k4 ?k5 ?kK ?kd ?ku ?_; (case p1 => walk_at "up"); (case p2 => walk_at "up"); walk_at "u2"); (intro r9 tl9 h9 tk9 F9 N9 l9 o9; rw [ht9] at o9; obtain ⟨D9, D8, a9, b9, c9, e9, e8, lt9⟩ := o9; subst e9; subst e8; dsimp only [List.cons_append, List.nil_append] at N9; (have l9' := fun q hq => l9 q hq (D9, _) (.head _)); (have l9b := fun q hq => l9 q hq (D8, _) (.tail _ (.head _))); clear l9; (try k_lt l9'); (try k_lt l9b); walk_at "u3")) | ((with_reducible show wpAny _ _ (call (Value.ref 243) _) _ _ _); (rename ntree _ = Tr.whole _ => ht9); k_dflt (refine' useM (number_tree _ _ _ ?p1 ?p2) ?k1 ?k2 ?k3 ?k4 ?k5 ?kK ?kd ?ku ?_; (case p1 => walk_at "up"); (case p2 => walk_at "up"); walk_at "u2"); (intro r9 tl9 h9 tk9 F9 N9 l9 o9; rw [ht9] at o9; obtain ⟨D9, a9, b9, e9, e8⟩ := o9; subst e9; subst e8; dsimp only [List.cons_append, List.nil_append] at N9; (have l9' := fun q hq => l9 q hq (D9, _) (.head _)); clear l9; (try k_lt l9'); walk_at "u3")) | ((with_reducible show wpAny _ _ (call (Value.ref 403) _) _ _ _); (rename mk _ _ _ = none => hm9); k_dflt (refine' useS (near_none _ _ _ _ _ _ () ?p1 ?p2 ?p3 ?p4 ?p5 hm9) ?k1 ?k2 ?k3 ?k4 ?k5 ?kK ?kd ?ku ?_; (case p1 => walk_at "up"); (case p2 => walk_at "up"); (case p3 => walk_at "up"); (case p4 => walk_at "up"); (case p5 => (first | decide | omega | (split <;> omega))); walk_at "u2"); (intro t9 h9 tk9 F9 N9; walk_at "u3")) | ((with_reducible show wpAny _ _ (call (Value.ref 403) _) _ _ _); (rename mk _ _ _ = some _ => hm9); k_dflt (refine' useII (near_some _ _ _ _ _ _ _ ?p1 ?p2 ?p3 ?p4 ?p5 hm9) ?k1 ?k2 ?k3 ?k4 ?k5 ?kK ?kd ?ku ?_; (case p1 => walk_at "up"); (case p2 => walk_at "up"); (case p3 => walk_at "up"); (case p4 => walk_at "up"); (case p5 => (first | decide | omega | (split <;> omega))); walk_at "u2"); (intro D9 a9 b9 h9 tk9 F9 N9 l9; (try k_lt l9); walk_at "u3")) | ((with_reducible show wpAny _ _ (call (Value.ref 417) _) _ _ _); k_dflt (first | (refine' useAB (is_back_whole _ _ _ _ ?p1 ?p2) ?k1 ?k2 ?k3 ?k4 ?k5 ?kK ?kd ?ku (ha1 ?kh) ?_; (case p2 => assumption); walk_at "u2"; (case kh => k_mem)) | (refine' useAB (is_back_dec _ _ _ _ _ _ ?p1 ?p2) ?k1 ?k2 ?k3 ?k4 ?k5 ?kK ?kd ?ku (ha2 ?kh ?kh2) ?_; (case p2 => assumption); walk_at "u2"; (case kh => k_mem); (case kh2 => k_mem))); (case p1 => assumption); (intro h9 tk9 F9 N9; walk_at "u3")) | ((with_reducible show wpAny _ _ (call (Value.ref 389) _) _ _ _); k_dflt (refine' useA (worth_dec _ _ _ _ _ _ _ _ _ _ _ ?p1 ?p2) ?k1 ?k2 ?k3 ?k4 ?k5 ?kK ?kd ?ku (ha2 ?kh ?kh2) ?kx ?_; walk_at "u2"; (case kh => k_mem); (case kh2 => k_mem); (case p1 => walk_at "up"); (case p2 => walk_at "up"); (case kx => walk_at "uf")); (intro r9 v9 tl9 h9 tk9 hr9 F9 N9 l9 o9; walk_at "u3")) | ((with_reducible show wpAny _ _ (call (Value.ref 389) _) _ _ _); k_dflt (refine' useA (worth_whole _ _ _ _ _ _ _ _ ?p1 ?p2) ?k1 ?k2 ?k3 ?k4 ?k5 ?kK ?kd ?ku (ha1 ?kh) ?kx ?_; walk_at "u2"; (case kh => k_mem); (case p1 => walk_at "up"); (case p2 => walk_at "up"); (case kx => walk_at "uf")); (intro r9 v9 tl9 h9 tk9 hr9 F9 N9 l9 o9; walk_at "u3")))) | walk_at "wk"))))
      k_dflt (refine' useT ?bk4 ?bk2 ?bk1 ?bk3 ?bk5 XB TB ?bk6 ?bkK ?bkd ?bku (law_heard w _ 20 340 _ _ _ _ _ (told (numN (sgs (F ++ Str.ofString "" ++ Str.ofString ""))) ((powerAt (sgs (F ++ Str.ofString "" ++ Str.ofString "")) (numA (sgs (F ++ Str.ofString "" ++ Str.ofString "")))).1 - (numP (sgs (F ++ Str.ofString "" ++ Str.ofString "")) : Nat)) dg) (fun r => OutDT r.1 r.2 ((powerAt (sgs (F ++ Str.ofString "" ++ Str.ofString "")) (numA (sgs (F ++ Str.ofString "" ++ Str.ofString "")))).2 : Nat)) ?bC) ?bkq)
      (case bk4 => k_asm)
      (case bk2 => k_asm)
      (case bk1 => k_asm)
      (case bk3 => k_asm)
      (case bk5 => k_asm)
      (case bk6 => k_asm)
      (case bkK => exact rfl)
      (case bkd => ktr_room)
      (case bku => ktr_units)
      case' bC =>
        unfold MeetsA
        k_fill
        intro p2 loose2 mean2 mg2 mb2 dp2 un2 gd2 cn2 cs2 a2 ccd2 cl2 outer2 A2 base2 g2 L2 m2 news2 s2 Q2 E2 hrw2 B2 F2 X2 N2 T2 hk2 hd2 hu2 hret2 hexc2
        clear hrw2
        dsimp only [List.cons_append, List.nil_append] at N2 hret2 hexc2
        walk_at "call lambda"
        (repeat' (first | (k_here; (with_reducible show wpAny _ _ (compareOp CmpOp.Eq (Value.ref _) (Value.str _ _)) _ _ _); (refine cmp_ofEq ?_); k_dflt (refine' SeqAt.RcAt.tuple_str _ _ ?zh ?zu _ _ _ _ ?_); (case zh => exact ⟨_, News.get (by k_asm) (by k_mem), rfl, _, rfl⟩); (case zu => ktr_units)) | (k_here; (with_reducible show wpAny _ _ (eval (Expr.Lambda _ _ _ _) _) _ _ _); k_dflt (refine' kla_eval ?d0 ?_; (case d0 => exact rfl)); k_dflt (refine' lam_any ?F ?N ?T ?C ?cd ?U ?S ?tl ?cl ?_; (case F => k_asm); (case N => k_asm); (case T => k_asm); (case cd => exact rfl); (case C => kn_code); (case U => k_updF); (case S => assumption); (case tl => first | (refine List.forall_mem_cons.mpr ⟨?ma, ?mb⟩; (case ma => k_mem); (case mb => exact (by repeat' (first | with_reducible assumption | refine sub_cons ?_)))) | exact (by repeat' (first | with_reducible assumption | refine sub_cons ?_))); (case cl => exact rfl); k_whole); intro f9 c9 oc9 vs9 t9 ct9 ps9 h9 tk9 F9 N9 d9 e9 S9 l9 l8 l7 w9; (try dsimp only at N9); (try k_lt l9); (try k_lt2 l8); (try k_lt2 l7)) | (k_here; (with_reducible show wpAny _ _ (call (Value.type "int") [Value.str _ _]) _ _ _); (refine KIN.call_text (by with_reducible assumption) (by omega) ?_)) | (k_here; (with_reducible show wpAny _ _ (call (Value.ref _) _) _ _ _); (first | ((with_reducible show wpAny _ _ (call (Value.ref 353) _) _ _ _); k_dflt (first | (refine' useSg (shown_whole_tree _ _ _ ?p1) ?k1 ?k2 ?k3 ?k4 ?k5 ?kK ?kd ?ku (ha1 ?kh) ?_; walk_at "u2"; (case kh => k_mem)) | (refine' useSg (shown_dec_tree _ _ _ _ _ ?p1 ?p2 ?p3) ?k1 ?k2 ?k3 ?k4 ?k5 ?kK ?kd ?ku (ha2 ?kh ?kh2) ?_; walk_at "u2"; (case kh => k_mem); (case kh2 => k_mem); (case p2 => walk_at "up"); (case p3 => walk_at "up"))); (case p1 => walk_at "up"); (intro y9 t9 h9 tk9 hy9 F9 N9; (try (rename ∀ y : Str, sgs y = _ → NumText (sgs y) ∧ ntree (sgs y) = _ => hb9; have hb8 := hb9 _ hy9; obtain ⟨hb7, hb6⟩ := hb8)); walk_at "u3")) | ((with_reducible show wpAny _ _ (call (Value.ref 375) _) _ _ _); k_dflt (refine' useX (d_of_text _ _ _ _ _ ?p1 ?p2 ?p3 ?p4) ?k1 ?k2 ?k3 ?k4 ?k5 ?kK ?kd ?ku ?kx ?_; (case p1 => walk_at "up"); (case p2 => walk_at "up"); (case p3 => walk_at "up"); (case p4 => walk_at "up"); walk_at "u2"; (case kx => walk_at "uf")); (intro r9 v9 tl9 h9 tk9 hr9 F9 N9 l9 o9; walk_at "u3")) | ((with_reducible show wpAny _ _ (call (Value.ref 243) _) _ _ _); (rename ntree _ = Tr.dec _ _ => ht9); k_dflt (refine' useM (number_tree _ _ _ ?p1 ?p2) ?k1 ?k2 ?k3 ?k4 ?k5 ?kK ?kd ?ku ?_; (case p1 => walk_at "up"); (case p2 => walk_at "up"); walk_at "u2"); (intro r9 tl9 h9 tk9 F9 N9 l9 o9; rw [ht9] at o9; obtain ⟨D9, D8, a9, b9, c9, e9, e8, lt9⟩ := o9; subst e9; subst e8; dsimp only [List.cons_append, List.nil_append] at N9; (have l9' := fun q hq => l9 q hq (D9, _) (.head _)); (have l9b := fun q hq => l9 q hq (D8, _) (.tail _ (.head _))); clear l9; (try k_lt l9'); (try k_lt l9b); walk_at "u3")) | ((with_reducible show wpAny _ _ (call (Value.ref 243) _) _ _ _); (rename ntree _ = Tr.whole _ => ht9); k_dflt (refine' useM (number_tree _ _ _ ?p1 ?p2) ?k1 ?k2 ?k3 ?k4 ?k5 ?kK ?kd ?ku ?_; (case p1 => walk_at "up"); (case p2 => walk_at "up"); walk_at "u2"); (intro r9 tl9 h9 tk9 F9 N9 l9 o9; rw [ht9] at o9; obtain ⟨D9, a9, b9, e9, e8⟩ := o9; subst e9; subst e8; dsimp only [List.cons_append, List.nil_append] at N9; (have l9' := fun q hq => l9 q hq (D9, _) (.head _)); clear l9; (try k_lt l9'); walk_at "u3")) | ((with_reducible show wpAny _ _ (call (Value.ref 403) _) _ _ _); (rename mk _ _ _ = none => hm9); k_dflt (refine' useS (near_none _ _ _ _ _ _ () ?p1 ?p2 ?p3 ?p4 ?p5 hm9) ?k1 ?k2 ?k3 ?k4 ?k5 ?kK ?kd ?ku ?_; (case p1 => walk_at "up"); (case p2 => walk_at "up"); (case p3 => walk_at "up"); (case p4 => walk_at "up"); (case p5 => (first | decide | omega | (split <;> omega))); walk_at "u2"); (intro t9 h9 tk9 F9 N9; walk_at "u3")) | ((with_reducible show wpAny _ _ (call (Value.ref 403) _) _ _ _); (rename mk _ _ _ = some _ => hm9); k_dflt (refine' useII (near_some _ _ _ _ _ _ _ ?p1 ?p2 ?p3 ?p4 ?p5 hm9) ?k1 ?k2 ?k3 ?k4 ?k5 ?kK ?kd ?ku ?_; (case p1 => walk_at "up"); (case p2 => walk_at "up"); (case p3 => walk_at "up"); (case p4 => walk_at "up"); (case p5 => (first | decide | omega | (split <;> omega))); walk_at "u2"); (intro D9 a9 b9 h9 tk9 F9 N9 l9; (try k_lt l9); walk_at "u3")) | ((with_reducible show wpAny _ _ (call (Value.ref 417) _) _ _ _); k_dflt (first | (refine' useAB (is_back_whole _ _ _ _ ?p1 ?p2) ?k1 ?k2 ?k3 ?k4 ?k5 ?kK ?kd ?ku (ha1 ?kh) ?_; (case p2 => assumption); walk_at "u2"; (case kh => k_mem)) | (refine' useAB (is_back_dec _ _ _ _ _ _ ?p1 ?p2) ?k1 ?k2 ?k3 ?k4 ?k5 ?kK ?kd ?ku (ha2 ?kh ?kh2) ?_; (case p2 => assumption); walk_at "u2"; (case kh => k_mem); (case kh2 => k_mem))); (case p1 => assumption); (intro h9 tk9 F9 N9; walk_at "u3")) | ((with_reducible show wpAny _ _ (call (Value.ref 389) _) _ _ _); k_dflt (refine' useA (worth_dec _ _ _ _ _ _ _ _ _ _ _ ?p1 ?p2) ?k1 ?k2 ?k3 ?k4 ?k5 ?kK ?kd ?ku (ha2 ?kh ?kh2) ?kx ?_; walk_at "u2"; (case kh => k_mem); (case kh2 => k_mem); (case p1 => walk_at "up"); (case p2 => walk_at "up"); (case kx => walk_at "uf")); (intro r9 v9 tl9 h9 tk9 hr9 F9 N9 l9 o9; walk_at "u3")) | ((with_reducible show wpAny _ _ (call (Value.ref 389) _) _ _ _); k_dflt (refine' useA (worth_whole _ _ _ _ _ _ _ _ ?p1 ?p2) ?k1 ?k2 ?k3 ?k4 ?k5 ?kK ?kd ?ku (ha1 ?kh) ?kx ?_; walk_at "u2"; (case kh => k_mem); (case p1 => walk_at "up"); (case p2 => walk_at "up"); (case kx => walk_at "uf")); (intro r9 v9 tl9 h9 tk9 hr9 F9 N9 l9 o9; walk_at "u3")))) | walk_at "wk"))
        exact hret2 _ (by assumption) _ _ _ _ (by k_asm) (by k_asm) (by assumption) (by assumption)
      case' bkq =>
        rename News _ _ _ _ => N6
        intro r7 tl7 h7 h7' tk7 T7 F7 N7 l7 B7 X7 P7 D7 o7
        rw [xt, xe] at o7
        obtain ⟨D5, D6, a5, tl5, e5, e6, o6⟩ := o7
        subst e5
        subst e6
        clear B8 X8 P8 D8
        (try dsimp only [List.cons_append, List.nil_append] at N7)
        replace N7 := news_rot N7
        (try dsimp only [List.cons_append, List.nil_append] at N7)
        try k_lift B7
        (repeat' (first | ((fail_if_success (with_reducible show wpAny _ _ (exec (Stmt.If (Expr.Compare _ _ _ _) _ _ _) _) _ _ _)); (first | (k_here; (with_reducible show wpAny _ _ (compareOp CmpOp.Eq (Value.ref _) (Value.str _ _)) _ _ _); (refine cmp_ofEq ?_); k_dflt (refine' SeqAt.RcAt.tuple_str _ _ ?zh ?zu _ _ _ _ ?_); (case zh => exact ⟨_, News.get (by k_asm) (by k_mem), rfl, _, rfl⟩); (case zu => ktr_units)) | (k_here; (with_reducible show wpAny _ _ (eval (Expr.Lambda _ _ _ _) _) _ _ _); k_dflt (refine' kla_eval ?d0 ?_; (case d0 => exact rfl)); k_dflt (refine' lam_any ?F ?N ?T ?C ?cd ?U ?S ?tl ?cl ?_; (case F => k_asm); (case N => k_asm); (case T => k_asm); (case cd => exact rfl); (case C => kn_code); (case U => k_updF); (case S => assumption); (case tl => first | (refine List.forall_mem_cons.mpr ⟨?ma, ?mb⟩; (case ma => k_mem); (case mb => exact (by repeat' (first | with_reducible assumption | refine sub_cons ?_)))) | exact (by repeat' (first | with_reducible assumption | refine sub_cons ?_))); (case cl => exact rfl); k_whole); intro f9 c9 oc9 vs9 t9 ct9 ps9 h9 tk9 F9 N9 d9 e9 S9 l9 l8 l7 w9; (try dsimp only at N9); (try k_lt l9); (try k_lt2 l8); (try k_lt2 l7)) | (k_here; (with_reducible show wpAny _ _ (call (Value.type "int") [Value.str _ _]) _ _ _); (refine KIN.call_text (by with_reducible assumption) (by omega) ?_)) | (k_here; (with_reducible show wpAny _ _ (call (Value.ref _) _) _ _ _); (first | ((with_reducible show wpAny _ _ (call (Value.ref 353) _) _ _ _); k_dflt (first | (refine' useSg (shown_whole_tree _ _ _ ?p1) ?k1 ?k2 ?k3 ?k4 ?k5 ?kK ?kd ?ku (ha1 ?kh) ?_; walk_at "u2"; (case kh => k_mem)) | (refine' useSg (shown_dec_tree _ _ _ _ _ ?p1 ?p2 ?p3) ?k1 ?k2 ?k3 ?k4 ?k5 ?kK ?kd ?ku (ha2 ?kh ?kh2) ?_; walk_at "u2"; (case kh => k_mem); (case kh2 => k_mem); (case p2 => walk_at "up"); (case p3 => walk_at "up"))); (case p1 => walk_at "up"); (intro y9 t9 h9 tk9 hy9 F9 N9; (try (rename ∀ y : Str, sgs y = _ → NumText (sgs y) ∧ ntree (sgs y) = _ => hb9; have hb8 := hb9 _ hy9; obtain ⟨hb7, hb6⟩ := hb8)); walk_at "u3")) | ((with_reducible show wpAny _ _ (call (Value.ref 375) _) _ _ _); k_dflt (refine' useX (d_of_text _ _ _ _ _ ?p1 ?p2 ?p3 ?p4) ?k1 ?k2 ?k3 ?k4 ?k5 ?kK ?kd ?ku ?kx ?_; (case p1 => walk_at "up"); (case p2 => walk_at "up"); (case p3 => walk_at "up"); (case p4 => walk_at "up"); walk_at "u2"; (case kx => walk_at "uf")); (intro r9 v9 tl9 h9 tk9 hr9 F9 N9 l9 o9; walk_at "u3")) | ((with_reducible show wpAny _ _ (call (Value.ref 243) _) _ _ _); (rename ntree _ = Tr.dec _ _ => ht9); k_dflt (refine' useM (number_tree _ _ _ ?p1 ?p2) ?k1 ?k2 ?k3 ?k4 ?k5 ?kK ?kd ?ku ?_; (case p1 => walk_at "up"); (case p2 => walk_at "up"); walk_at "u2"); (intro r9 tl9 h9 tk9 F9 N9 l9 o9; rw [ht9] at o9; obtain ⟨D9, D8, a9, b9, c9, e9, e8, lt9⟩ := o9; subst e9; subst e8; dsimp only [List.cons_append, List.nil_append] at N9; (have l9' := fun q hq => l9 q hq (D9, _) (.head _)); (have l9b := fun q hq => l9 q hq (D8, _) (.tail _ (.head _))); clear l9; (try k_lt l9'); (try k_lt l9b); walk_at "u3")) | ((with_reducible show wpAny _ _ (call (Value.ref 243) _) _ _ _); (rename ntree _ = Tr.whole _ => ht9); k_dflt (refine' useM (number_tree _ _ _ ?p1 ?p2) ?k1 ?k2 ?k3 ?k4 ?k5 ?kK ?kd ?ku ?_; (case p1 => walk_at "up"); (case p2 => walk_at "up"); walk_at "u2"); (intro r9 tl9 h9 tk9 F9 N9 l9 o9; rw [ht9] at o9; obtain ⟨D9, a9, b9, e9, e8⟩ := o9; subst e9; subst e8; dsimp only [List.cons_append, List.nil_append] at N9; (have l9' := fun q hq => l9 q hq (D9, _) (.head _)); clear l9; (try k_lt l9'); walk_at "u3")) | ((with_reducible show wpAny _ _ (call (Value.ref 403) _) _ _ _); (rename mk _ _ _ = none => hm9); k_dflt (refine' useS (near_none _ _ _ _ _ _ () ?p1 ?p2 ?p3 ?p4 ?p5 hm9) ?k1 ?k2 ?k3 ?k4 ?k5 ?kK ?kd ?ku ?_; (case p1 => walk_at "up"); (case p2 => walk_at "up"); (case p3 => walk_at "up"); (case p4 => walk_at "up"); (case p5 => (first | decide | omega | (split <;> omega))); walk_at "u2"); (intro t9 h9 tk9 F9 N9; walk_at "u3")) | ((with_reducible show wpAny _ _ (call (Value.ref 403) _) _ _ _); (rename mk _ _ _ = some _ => hm9); k_dflt (refine' useII (near_some _ _ _ _ _ _ _ ?p1 ?p2 ?p3 ?p4 ?p5 hm9) ?k1 ?k2 ?k3 ?k4 ?k5 ?kK ?kd ?ku ?_; (case p1 => walk_at "up"); (case p2 => walk_at "up"); (case p3 => walk_at "up"); (case p4 => walk_at "up"); (case p5 => (first | decide | omega | (split <;> omega))); walk_at "u2"); (intro D9 a9 b9 h9 tk9 F9 N9 l9; (try k_lt l9); walk_at "u3")) | ((with_reducible show wpAny _ _ (call (Value.ref 417) _) _ _ _); k_dflt (first | (refine' useAB (is_back_whole _ _ _ _ ?p1 ?p2) ?k1 ?k2 ?k3 ?k4 ?k5 ?kK ?kd ?ku (ha1 ?kh) ?_; (case p2 => assumption); walk_at "u2"; (case kh => k_mem)) | (refine' useAB (is_back_dec _ _ _ _ _ _ ?p1 ?p2) ?k1 ?k2 ?k3 ?k4 ?k5 ?kK ?kd ?ku (ha2 ?kh ?kh2) ?_; (case p2 => assumption); walk_at "u2"; (case kh => k_mem); (case kh2 => k_mem))); (case p1 => assumption); (intro h9 tk9 F9 N9; walk_at "u3")) | ((with_reducible show wpAny _ _ (call (Value.ref 389) _) _ _ _); k_dflt (refine' useA (worth_dec _ _ _ _ _ _ _ _ _ _ _ ?p1 ?p2) ?k1 ?k2 ?k3 ?k4 ?k5 ?kK ?kd ?ku (ha2 ?kh ?kh2) ?kx ?_; walk_at "u2"; (case kh => k_mem); (case kh2 => k_mem); (case p1 => walk_at "up"); (case p2 => walk_at "up"); (case kx => walk_at "uf")); (intro r9 v9 tl9 h9 tk9 hr9 F9 N9 l9 o9; walk_at "u3")) | ((with_reducible show wpAny _ _ (call (Value.ref 389) _) _ _ _); k_dflt (refine' useA (worth_whole _ _ _ _ _ _ _ _ ?p1 ?p2) ?k1 ?k2 ?k3 ?k4 ?k5 ?kK ?kd ?ku (ha1 ?kh) ?kx ?_; walk_at "u2"; (case kh => k_mem); (case p1 => walk_at "up"); (case p2 => walk_at "up"); (case kx => walk_at "uf")); (intro r9 v9 tl9 h9 tk9 hr9 F9 N9 l9 o9; walk_at "u3")))) | walk_at "wk"))))
        rename Fr h7 L' _ _ => FF
        rename News h7 L' _ _ => NN
        k_dflt (refine cut_next FF (news_tail (news_part N6 NN rfl)) ?tcu ?tre)
        case' tcu =>
          replace NN := news_unrot N6 NN rfl
          (try dsimp only [List.cons_append, List.nil_append] at NN)
          rcases o6 with ⟨D9, a9, b9, e9, e8⟩ | ⟨e9, e8, hx9, hy9⟩
          · cases e8
            subst e9
            (try dsimp only [List.cons_append, List.nil_append] at NN)
            have l7a := fun q hq => l7 q hq (D5, _) (.head _)
            have l7b := fun q hq => l7 q hq (D6, _) (.tail _ (.head _))
            k_lt l7a
            k_lt l7b
            (repeat' (first | (k_here; (with_reducible show wpAny _ _ (compareOp CmpOp.Eq (Value.ref _) (Value.str _ _)) _ _ _); (refine cmp_ofEq ?_); k_dflt (refine' SeqAt.RcAt.tuple_str _ _ ?zh ?zu _ _ _ _ ?_); (case zh => exact ⟨_, News.get (by k_asm) (by k_mem), rfl, _, rfl⟩); (case zu => ktr_units)) | (k_here; (with_reducible show wpAny _ _ (eval (Expr.Lambda _ _ _ _) _) _ _ _); k_dflt (refine' kla_eval ?d0 ?_; (case d0 => exact rfl)); k_dflt (refine' lam_any ?F ?N ?T ?C ?cd ?U ?S ?tl ?cl ?_; (case F => k_asm); (case N => k_asm); (case T => k_asm); (case cd => exact rfl); (case C => kn_code); (case U => k_updF); (case S => assumption); (case tl => first | (refine List.forall_mem_cons.mpr ⟨?ma, ?mb⟩; (case ma => k_mem); (case mb => exact (by repeat' (first | with_reducible assumption | refine sub_cons ?_)))) | exact (by repeat' (first | with_reducible assumption | refine sub_cons ?_))); (case cl => exact rfl); k_whole); intro f9 c9 oc9 vs9 t9 ct9 ps9 h9 tk9 F9 N9 d9 e9 S9 l9 l8 l7 w9; (try dsimp only at N9); (try k_lt l9); (try k_lt2 l8); (try k_lt2 l7)) | (k_here; (with_reducible show wpAny _ _ (call (Value.type "int") [Value.str _ _]) _ _ _); (refine KIN.call_text (by with_reducible assumption) (by omega) ?_)) | (k_here; (with_reducible show wpAny _ _ (call (Value.ref _) _) _ _ _); (first | ((with_reducible show wpAny _ _ (call (Value.ref 353) _) _ _ _); k_dflt (first | (refine' useSg (shown_whole_tree _ _ _ ?p1) ?k1 ?k2 ?k3 ?k4 ?k5 ?kK ?kd ?ku (ha1 ?kh) ?_; walk_at "u2"; (case kh => k_mem)) | (refine' useSg (shown_dec_tree _ _ _ _ _ ?p1 ?p2 ?p3) ?k1 ?k2 ?k3 ?k4 ?k5 ?kK ?kd ?ku (ha2 ?kh ?kh2) ?_; walk_at "u2"; (case kh => k_mem); (case kh2 => k_mem); (case p2 => walk_at "up"); (case p3 => walk_at "up"))); (case p1 => walk_at "up"); (intro y9 t9 h9 tk9 hy9 F9 N9; (try (rename ∀ y : Str, sgs y = _ → NumText (sgs y) ∧ ntree (sgs y) = _ => hb9; have hb8 := hb9 _ hy9; obtain ⟨hb7, hb6⟩ := hb8)); walk_at "u3")) | ((with_reducible show wpAny _ _ (call (Value.ref 375) _) _ _ _); k_dflt (refine' useX (d_of_text _ _ _ _ _ ?p1 ?p2 ?p3 ?p4) ?k1 ?k2 ?k3 ?k4 ?k5 ?kK ?kd ?ku ?kx ?_; (case p1 => walk_at "up"); (case p2 => walk_at "up"); (case p3 => walk_at "up"); (case p4 => walk_at "up"); walk_at "u2"; (case kx => walk_at "uf")); (intro r9 v9 tl9 h9 tk9 hr9 F9 N9 l9 o9; walk_at "u3")) | ((with_reducible show wpAny _ _ (call (Value.ref 243) _) _ _ _); (rename ntree _ = Tr.dec _ _ => ht9); k_dflt (refine' useM (number_tree _ _ _ ?p1 ?p2) ?k1 ?k2 ?k3 ?k4 ?k5 ?kK ?kd ?ku ?_; (case p1 => walk_at "up"); (case p2 => walk_at "up"); walk_at "u2"); (intro r9 tl9 h9 tk9 F9 N9 l9 o9; rw [ht9] at o9; obtain ⟨D9, D8, a9, b9, c9, e9, e8, lt9⟩ := o9; subst e9; subst e8; dsimp only [List.cons_append, List.nil_append] at N9; (have l9' := fun q hq => l9 q hq (D9, _) (.head _)); (have l9b := fun q hq => l9 q hq (D8, _) (.tail _ (.head _))); clear l9; (try k_lt l9'); (try k_lt l9b); walk_at "u3")) | ((with_reducible show wpAny _ _ (call (Value.ref 243) _) _ _ _); (rename ntree _ = Tr.whole _ => ht9); k_dflt (refine' useM (number_tree _ _ _ ?p1 ?p2) ?k1 ?k2 ?k3 ?k4 ?k5 ?kK ?kd ?ku ?_; (case p1 => walk_at "up"); (case p2 => walk_at "up"); walk_at "u2"); (intro r9 tl9 h9 tk9 F9 N9 l9 o9; rw [ht9] at o9; obtain ⟨D9, a9, b9, e9, e8⟩ := o9; subst e9; subst e8; dsimp only [List.cons_append, List.nil_append] at N9; (have l9' := fun q hq => l9 q hq (D9, _) (.head _)); clear l9; (try k_lt l9'); walk_at "u3")) | ((with_reducible show wpAny _ _ (call (Value.ref 403) _) _ _ _); (rename mk _ _ _ = none => hm9); k_dflt (refine' useS (near_none _ _ _ _ _ _ () ?p1 ?p2 ?p3 ?p4 ?p5 hm9) ?k1 ?k2 ?k3 ?k4 ?k5 ?kK ?kd ?ku ?_; (case p1 => walk_at "up"); (case p2 => walk_at "up"); (case p3 => walk_at "up"); (case p4 => walk_at "up"); (case p5 => (first | decide | omega | (split <;> omega))); walk_at "u2"); (intro t9 h9 tk9 F9 N9; walk_at "u3")) | ((with_reducible show wpAny _ _ (call (Value.ref 403) _) _ _ _); (rename mk _ _ _ = some _ => hm9); k_dflt (refine' useII (near_some _ _ _ _ _ _ _ ?p1 ?p2 ?p3 ?p4 ?p5 hm9) ?k1 ?k2 ?k3 ?k4 ?k5 ?kK ?kd ?ku ?_; (case p1 => walk_at "up"); (case p2 => walk_at "up"); (case p3 => walk_at "up"); (case p4 => walk_at "up"); (case p5 => (first | decide | omega | (split <;> omega))); walk_at "u2"); (intro D9 a9 b9 h9 tk9 F9 N9 l9; (try k_lt l9); walk_at "u3")) | ((with_reducible show wpAny _ _ (call (Value.ref 417) _) _ _ _); k_dflt (first | (refine' useAB (is_back_whole _ _ _ _ ?p1 ?p2) ?k1 ?k2 ?k3 ?k4 ?k5 ?kK ?kd ?ku (ha1 ?kh) ?_; (case p2 => assumption); walk_at "u2"; (case kh => k_mem)) | (refine' useAB (is_back_dec _ _ _ _ _ _ ?p1 ?p2) ?k1 ?k2 ?k3 ?k4 ?k5 ?kK ?kd ?ku (ha2 ?kh ?kh2) ?_; (case p2 => assumption); walk_at "u2"; (case kh => k_mem); (case kh2 => k_mem))); (case p1 => assumption); (intro h9 tk9 F9 N9; walk_at "u3")) | ((with_reducible show wpAny _ _ (call (Value.ref 389) _) _ _ _); k_dflt (refine' useA (worth_dec _ _ _ _ _ _ _ _ _ _ _ ?p1 ?p2) ?k1 ?k2 ?k3 ?k4 ?k5 ?kK ?kd ?ku (ha2 ?kh ?kh2) ?kx ?_; walk_at "u2"; (case kh => k_mem); (case kh2 => k_mem); (case p1 => walk_at "up"); (case p2 => walk_at "up"); (case kx => walk_at "uf")); (intro r9 v9 tl9 h9 tk9 hr9 F9 N9 l9 o9; walk_at "u3")) | ((with_reducible show wpAny _ _ (call (Value.ref 389) _) _ _ _); k_dflt (refine' useA (worth_whole _ _ _ _ _ _ _ _ ?p1 ?p2) ?k1 ?k2 ?k3 ?k4 ?k5 ?kK ?kd ?ku (ha1 ?kh) ?kx ?_; walk_at "u2"; (case kh => k_mem); (case p1 => walk_at "up"); (case p2 => walk_at "up"); (case kx => walk_at "uf")); (intro r9 v9 tl9 h9 tk9 hr9 F9 N9 l9 o9; walk_at "u3")))) | walk_at "wk"))
            all_goals try (rename ((F.length : Nat) : Int) ≠ _ => hz; exact absurd xz.symm hz)
            exact CutN.mk (by k_asm) (by k_asm) (by repeat' (first | exact sub_refl _ | refine sub_cons ?_))
          · cases e8
            subst e9
            (try dsimp only [List.cons_append, List.nil_append] at NN hx9 hy9)
            subst hx9
            subst hy9
            have l7a := fun q hq => l7 q hq (D5, _) (.head _)
            k_lt l7a
            (repeat' (first | (k_here; (with_reducible show wpAny _ _ (compareOp CmpOp.Eq (Value.ref _) (Value.str _ _)) _ _ _); (refine cmp_ofEq ?_); k_dflt (refine' SeqAt.RcAt.tuple_str _ _ ?zh ?zu _ _ _ _ ?_); (case zh => exact ⟨_, News.get (by k_asm) (by k_mem), rfl, _, rfl⟩); (case zu => ktr_units)) | (k_here; (with_reducible show wpAny _ _ (eval (Expr.Lambda _ _ _ _) _) _ _ _); k_dflt (refine' kla_eval ?d0 ?_; (case d0 => exact rfl)); k_dflt (refine' lam_any ?F ?N ?T ?C ?cd ?U ?S ?tl ?cl ?_; (case F => k_asm); (case N => k_asm); (case T => k_asm); (case cd => exact rfl); (case C => kn_code); (case U => k_updF); (case S => assumption); (case tl => first | (refine List.forall_mem_cons.mpr ⟨?ma, ?mb⟩; (case ma => k_mem); (case mb => exact (by repeat' (first | with_reducible assumption | refine sub_cons ?_)))) | exact (by repeat' (first | with_reducible assumption | refine sub_cons ?_))); (case cl => exact rfl); k_whole); intro f9 c9 oc9 vs9 t9 ct9 ps9 h9 tk9 F9 N9 d9 e9 S9 l9 l8 l7 w9; (try dsimp only at N9); (try k_lt l9); (try k_lt2 l8); (try k_lt2 l7)) | (k_here; (with_reducible show wpAny _ _ (call (Value.type "int") [Value.str _ _]) _ _ _); (refine KIN.call_text (by with_reducible assumption) (by omega) ?_)) | (k_here; (with_reducible show wpAny _ _ (call (Value.ref _) _) _ _ _); (first | ((with_reducible show wpAny _ _ (call (Value.ref 353) _) _ _ _); k_dflt (first | (refine' useSg (shown_whole_tree _ _ _ ?p1) ?k1 ?k2 ?k3 ?k4 ?k5 ?kK ?kd ?ku (ha1 ?kh) ?_; walk_at "u2"; (case kh => k_mem)) | (refine' useSg (shown_dec_tree _ _ _ _ _ ?p1 ?p2 ?p3) ?k1 ?k2 ?k3 ?k4 ?k5 ?kK ?kd ?ku (ha2 ?kh ?kh2) ?_; walk_at "u2"; (case kh => k_mem); (case kh2 => k_mem); (case p2 => walk_at "up"); (case p3 => walk_at "up"))); (case p1 => walk_at "up"); (intro y9 t9 h9 tk9 hy9 F9 N9; (try (rename ∀ y : Str, sgs y = _ → NumText (sgs y) ∧ ntree (sgs y) = _ => hb9; have hb8 := hb9 _ hy9; obtain ⟨hb7, hb6⟩ := hb8)); walk_at "u3")) | ((with_reducible show wpAny _ _ (call (Value.ref 375) _) _ _ _); k_dflt (refine' useX (d_of_text _ _ _ _ _ ?p1 ?p2 ?p3 ?p4) ?k1 ?k2 ?k3 ?k4 ?k5 ?kK ?kd ?ku ?kx ?_; (case p1 => walk_at "up"); (case p2 => walk_at "up"); (case p3 => walk_at "up"); (case p4 => walk_at "up"); walk_at "u2"; (case kx => walk_at "uf")); (intro r9 v9 tl9 h9 tk9 hr9 F9 N9 l9 o9; walk_at "u3")) | ((with_reducible show wpAny _ _ (call (Value.ref 243) _) _ _ _); (rename ntree _ = Tr.dec _ _ => ht9); k_dflt (refine' useM (number_tree _ _ _ ?p1 ?p2) ?k1 ?k2 ?k3 ?k4 ?k5 ?kK ?kd ?ku ?_; (case p1 => walk_at "up"); (case p2 => walk_at "up"); walk_at "u2"); (intro r9 tl9 h9 tk9 F9 N9 l9 o9; rw [ht9] at o9; obtain ⟨D9, D8, a9, b9, c9, e9, e8, lt9⟩ := o9; subst e9; subst e8; dsimp only [List.cons_append, List.nil_append] at N9; (have l9' := fun q hq => l9 q hq (D9, _) (.head _)); (have l9b := fun q hq => l9 q hq (D8, _) (.tail _ (.head _))); clear l9; (try k_lt l9'); (try k_lt l9b); walk_at "u3")) | ((with_reducible show wpAny _ _ (call (Value.ref 243) _) _ _ _); (rename ntree _ = Tr.whole _ => ht9); k_dflt (refine' useM (number_tree _ _ _ ?p1 ?p2) ?k1 ?k2 ?k3 ?k4 ?k5 ?kK ?kd ?ku ?_; (case p1 => walk_at "up"); (case p2 => walk_at "up"); walk_at "u2"); (intro r9 tl9 h9 tk9 F9 N9 l9 o9; rw [ht9] at o9; obtain ⟨D9, a9, b9, e9, e8⟩ := o9; subst e9; subst e8; dsimp only [List.cons_append, List.nil_append] at N9; (have l9' := fun q hq => l9 q hq (D9, _) (.head _)); clear l9; (try k_lt l9'); walk_at "u3")) | ((with_reducible show wpAny _ _ (call (Value.ref 403) _) _ _ _); (rename mk _ _ _ = none => hm9); k_dflt (refine' useS (near_none _ _ _ _ _ _ () ?p1 ?p2 ?p3 ?p4 ?p5 hm9) ?k1 ?k2 ?k3 ?k4 ?k5 ?kK ?kd ?ku ?_; (case p1 => walk_at "up"); (case p2 => walk_at "up"); (case p3 => walk_at "up"); (case p4 => walk_at "up"); (case p5 => (first | decide | omega | (split <;> omega))); walk_at "u2"); (intro t9 h9 tk9 F9 N9; walk_at "u3")) | ((with_reducible show wpAny _ _ (call (Value.ref 403) _) _ _ _); (rename mk _ _ _ = some _ => hm9); k_dflt (refine' useII (near_some _ _ _ _ _ _ _ ?p1 ?p2 ?p3 ?p4 ?p5 hm9) ?k1 ?k2 ?k3 ?k4 ?k5 ?kK ?kd ?ku ?_; (case p1 => walk_at "up"); (case p2 => walk_at "up"); (case p3 => walk_at "up"); (case p4 => walk_at "up"); (case p5 => (first | decide | omega | (split <;> omega))); walk_at "u2"); (intro D9 a9 b9 h9 tk9 F9 N9 l9; (try k_lt l9); walk_at "u3")) | ((with_reducible show wpAny _ _ (call (Value.ref 417) _) _ _ _); k_dflt (first | (refine' useAB (is_back_whole _ _ _ _ ?p1 ?p2) ?k1 ?k2 ?k3 ?k4 ?k5 ?kK ?kd ?ku (ha1 ?kh) ?_; (case p2 => assumption); walk_at "u2"; (case kh => k_mem)) | (refine' useAB (is_back_dec _ _ _ _ _ _ ?p1 ?p2) ?k1 ?k2 ?k3 ?k4 ?k5 ?kK ?kd ?ku (ha2 ?kh ?kh2) ?_; (case p2 => assumption); walk_at "u2"; (case kh => k_mem); (case kh2 => k_mem))); (case p1 => assumption); (intro h9 tk9 F9 N9; walk_at "u3")) | ((with_reducible show wpAny _ _ (call (Value.ref 389) _) _ _ _); k_dflt (refine' useA (worth_dec _ _ _ _ _ _ _ _ _ _ _ ?p1 ?p2) ?k1 ?k2 ?k3 ?k4 ?k5 ?kK ?kd ?ku (ha2 ?kh ?kh2) ?kx ?_; walk_at "u2"; (case kh => k_mem); (case kh2 => k_mem); (case p1 => walk_at "up"); (case p2 => walk_at "up"); (case kx => walk_at "uf")); (intro r9 v9 tl9 h9 tk9 hr9 F9 N9 l9 o9; walk_at "u3")) | ((with_reducible show wpAny _ _ (call (Value.ref 389) _) _ _ _); k_dflt (refine' useA (worth_whole _ _ _ _ _ _ _ _ ?p1 ?p2) ?k1 ?k2 ?k3 ?k4 ?k5 ?kK ?kd ?ku (ha1 ?kh) ?kx ?_; walk_at "u2"; (case kh => k_mem); (case p1 => walk_at "up"); (case p2 => walk_at "up"); (case kx => walk_at "uf")); (intro r9 v9 tl9 h9 tk9 hr9 F9 N9 l9 o9; walk_at "u3")))) | walk_at "wk"))
            all_goals try (rename ((F.length : Nat) : Int) ≠ _ => hz; exact absurd xz.symm hz)
            exact CutN.mk (by k_asm) (by k_asm) (by repeat' (first | exact sub_refl _ | refine sub_cons ?_))
        case' tre =>
          intro h5 tk5 F5 N5
          clear FF NN
          (try dsimp only)
          (repeat' (first | (k_here; (with_reducible show wpAny _ _ (compareOp CmpOp.Eq (Value.ref _) (Value.str _ _)) _ _ _); (refine cmp_ofEq ?_); k_dflt (refine' SeqAt.RcAt.tuple_str _ _ ?zh ?zu _ _ _ _ ?_); (case zh => exact ⟨_, News.get (by k_asm) (by k_mem), rfl, _, rfl⟩); (case zu => ktr_units)) | (k_here; (with_reducible show wpAny _ _ (eval (Expr.Lambda _ _ _ _) _) _ _ _); k_dflt (refine' kla_eval ?d0 ?_; (case d0 => exact rfl)); k_dflt (refine' lam_any ?F ?N ?T ?C ?cd ?U ?S ?tl ?cl ?_; (case F => k_asm); (case N => k_asm); (case T => k_asm); (case cd => exact rfl); (case C => kn_code); (case U => k_updF); (case S => assumption); (case tl => first | (refine List.forall_mem_cons.mpr ⟨?ma, ?mb⟩; (case ma => k_mem); (case mb => exact (by repeat' (first | with_reducible assumption | refine sub_cons ?_)))) | exact (by repeat' (first | with_reducible assumption | refine sub_cons ?_))); (case cl => exact rfl); k_whole); intro f9 c9 oc9 vs9 t9 ct9 ps9 h9 tk9 F9 N9 d9 e9 S9 l9 l8 l7 w9; (try dsimp only at N9); (try k_lt l9); (try k_lt2 l8); (try k_lt2 l7)) | (k_here; (with_reducible show wpAny _ _ (call (Value.type "int") [Value.str _ _]) _ _ _); (refine KIN.call_text (by with_reducible assumption) (by omega) ?_)) | (k_here; (with_reducible show wpAny _ _ (call (Value.ref _) _) _ _ _); (first | ((with_reducible show wpAny _ _ (call (Value.ref 353) _) _ _ _); k_dflt (first | (refine' useSg (shown_whole_tree _ _ _ ?p1) ?k1 ?k2 ?k3 ?k4 ?k5 ?kK ?kd ?ku (ha1 ?kh) ?_; walk_at "u2"; (case kh => k_mem)) | (refine' useSg (shown_dec_tree _ _ _ _ _ ?p1 ?p2 ?p3) ?k1 ?k2 ?k3 ?k4 ?k5 ?kK ?kd ?ku (ha2 ?kh ?kh2) ?_; walk_at "u2"; (case kh => k_mem); (case kh2 => k_mem); (case p2 => walk_at "up"); (case p3 => walk_at "up"))); (case p1 => walk_at "up"); (intro y9 t9 h9 tk9 hy9 F9 N9; (try (rename ∀ y : Str, sgs y = _ → NumText (sgs y) ∧ ntree (sgs y) = _ => hb9; have hb8 := hb9 _ hy9; obtain ⟨hb7, hb6⟩ := hb8)); walk_at "u3")) | ((with_reducible show wpAny _ _ (call (Value.ref 375) _) _ _ _); k_dflt (refine' useX (d_of_text _ _ _ _ _ ?p1 ?p2 ?p3 ?p4) ?k1 ?k2 ?k3 ?k4 ?k5 ?kK ?kd ?ku ?kx ?_; (case p1 => walk_at "up"); (case p2 => walk_at "up"); (case p3 => walk_at "up"); (case p4 => walk_at "up"); walk_at "u2"; (case kx => walk_at "uf")); (intro r9 v9 tl9 h9 tk9 hr9 F9 N9 l9 o9; walk_at "u3")) | ((with_reducible show wpAny _ _ (call (Value.ref 243) _) _ _ _); (rename ntree _ = Tr.dec _ _ => ht9); k_dflt (refine' useM (number_tree _ _ _ ?p1 ?p2) ?k1 ?k2 ?k3 ?k4 ?k5 ?kK ?kd ?ku ?_; (case p1 => walk_at "up"); (case p2 => walk_at "up"); walk_at "u2"); (intro r9 tl9 h9 tk9 F9 N9 l9 o9; rw [ht9] at o9; obtain ⟨D9, D8, a9, b9, c9, e9, e8, lt9⟩ := o9; subst e9; subst e8; dsimp only [List.cons_append, List.nil_append] at N9; (have l9' := fun q hq => l9 q hq (D9, _) (.head _)); (have l9b := fun q hq => l9 q hq (D8, _) (.tail _ (.head _))); clear l9; (try k_lt l9'); (try k_lt l9b); walk_at "u3")) | ((with_reducible show wpAny _ _ (call (Value.ref 243) _) _ _ _); (rename ntree _ = Tr.whole _ => ht9); k_dflt (refine' useM (number_tree _ _ _ ?p1 ?p2) ?k1 ?k2 ?k3 ?k4 ?k5 ?kK ?kd ?ku ?_; (case p1 => walk_at "up"); (case p2 => walk_at "up"); walk_at "u2"); (intro r9 tl9 h9 tk9 F9 N9 l9 o9; rw [ht9] at o9; obtain ⟨D9, a9, b9, e9, e8⟩ := o9; subst e9; subst e8; dsimp only [List.cons_append, List.nil_append] at N9; (have l9' := fun q hq => l9 q hq (D9, _) (.head _)); clear l9; (try k_lt l9'); walk_at "u3")) | ((with_reducible show wpAny _ _ (call (Value.ref 403) _) _ _ _); (rename mk _ _ _ = none => hm9); k_dflt (refine' useS (near_none _ _ _ _ _ _ () ?p1 ?p2 ?p3 ?p4 ?p5 hm9) ?k1 ?k2 ?k3 ?k4 ?k5 ?kK ?kd ?ku ?_; (case p1 => walk_at "up"); (case p2 => walk_at "up"); (case p3 => walk_at "up"); (case p4 => walk_at "up"); (case p5 => (first | decide | omega | (split <;> omega))); walk_at "u2"); (intro t9 h9 tk9 F9 N9; walk_at "u3")) | ((with_reducible show wpAny _ _ (call (Value.ref 403) _) _ _ _); (rename mk _ _ _ = some _ => hm9); k_dflt (refine' useII (near_some _ _ _ _ _ _ _ ?p1 ?p2 ?p3 ?p4 ?p5 hm9) ?k1 ?k2 ?k3 ?k4 ?k5 ?kK ?kd ?ku ?_; (case p1 => walk_at "up"); (case p2 => walk_at "up"); (case p3 => walk_at "up"); (case p4 => walk_at "up"); (case p5 => (first | decide | omega | (split <;> omega))); walk_at "u2"); (intro D9 a9 b9 h9 tk9 F9 N9 l9; (try k_lt l9); walk_at "u3")) | ((with_reducible show wpAny _ _ (call (Value.ref 417) _) _ _ _); k_dflt (first | (refine' useAB (is_back_whole _ _ _ _ ?p1 ?p2) ?k1 ?k2 ?k3 ?k4 ?k5 ?kK ?kd ?ku (ha1 ?kh) ?_; (case p2 => assumption); walk_at "u2"; (case kh => k_mem)) | (refine' useAB (is_back_dec _ _ _ _ _ _ ?p1 ?p2) ?k1 ?k2 ?k3 ?k4 ?k5 ?kK ?kd ?ku (ha2 ?kh ?kh2) ?_; (case p2 => assumption); walk_at "u2"; (case kh => k_mem); (case kh2 => k_mem))); (case p1 => assumption); (intro h9 tk9 F9 N9; walk_at "u3")) | ((with_reducible show wpAny _ _ (call (Value.ref 389) _) _ _ _); k_dflt (refine' useA (worth_dec _ _ _ _ _ _ _ _ _ _ _ ?p1 ?p2) ?k1 ?k2 ?k3 ?k4 ?k5 ?kK ?kd ?ku (ha2 ?kh ?kh2) ?kx ?_; walk_at "u2"; (case kh => k_mem); (case kh2 => k_mem); (case p1 => walk_at "up"); (case p2 => walk_at "up"); (case kx => walk_at "uf")); (intro r9 v9 tl9 h9 tk9 hr9 F9 N9 l9 o9; walk_at "u3")) | ((with_reducible show wpAny _ _ (call (Value.ref 389) _) _ _ _); k_dflt (refine' useA (worth_whole _ _ _ _ _ _ _ _ ?p1 ?p2) ?k1 ?k2 ?k3 ?k4 ?k5 ?kK ?kd ?ku (ha1 ?kh) ?kx ?_; walk_at "u2"; (case kh => k_mem); (case p1 => walk_at "up"); (case p2 => walk_at "up"); (case kx => walk_at "uf")); (intro r9 v9 tl9 h9 tk9 hr9 F9 N9 l9 o9; walk_at "u3")))) | walk_at "wk"))
          rename TS _ _ _ _ => S2
          rename _ ∈ cd ∨ _ => wa
          rename _ ∈ _ :: cd ∨ _ => wb
          rename Fr h7 L' _ _ => FF
          rename News h7 L' _ _ => NN
          refine hQQ _ _ ?_
          (try dsimp only)
          refine close_N (news := news) S2 (KtsTurn.trans T8 T7) FF NN ?wFfh1 ?wFfh2 ?wFfh3 ?wFfin
          case wFfh1 =>
            refine List.forall_mem_cons.mpr ⟨?wFz1, ?wFz2⟩
            case wFz1 => k_mem
            refine List.forall_mem_cons.mpr ⟨?wFz3, ?wFz4⟩
            case wFz3 => k_mem
            exact (by repeat' (first | with_reducible assumption | refine sub_cons ?_))
          case wFfh2 => k_mem
          case wFfh3 => exact (by repeat' (first | exact sub_refl _ | refine sub_cons ?_))
          intro h6 T6 F6 N6 B6 X6 P6 D6
          have cc := cd_two (news := news) (P := 419) wa wb (List.forall_mem_cons.mpr ⟨(by k_mem), (by repeat' (first | exact sub_refl _ | refine sub_cons ?_))⟩) (List.forall_mem_cons.mpr ⟨(by k_mem), (by repeat' (first | exact sub_refl _ | refine sub_cons ?_))⟩)
          exact hret (.bool true) _ _ h6 _ _ T6 F6 N6 S2 cc.1 cc.2 B6 X6 P6 D6 rfl
 case hZ => delta id; exact pair_ _

set_option maxHeartbeats 16000000 in
theorem right_dec (w : World) (F B P : Str) (z : Int) (tF tB tP tg : Tok) (dg : Nat) (hR : RowNum (sgs F ++ sgs B ++ sgs P) (sgs F) (sgs B) (sgs P) z) (hbp : ¬ (sgs B = [] ∧ sgs P = [])) (hpw : PowTxt P z) (hdg : 1 ≤ dg) :
    MeetsN w 424 60 1200 423 419 (Str.ofString "_law_number_right.<locals>.<lambda>") [.str F tF, .str B tB, .str P tP, .int (dg : Int) tg] (fun r => r = .bool true) := by
 refine (?fZ : PullF _) ?pZ ?qZ ?hZ
 case fZ => exact fun _ q _ => q
 case pZ =>
  unfold MeetsN
  k_fill
  intro p loose mean mg mb dp un gd cn cs a ccd cl outer A₀ base h₀ L m news s Q E ps cd hrw B₀ F₀ X₀ N₀ S₀ hcd hne T₀ hk hd hu XB TB D₀ C₀ hret
  clear hrw
  refine wpAny_call ?_
  k_dflt (refine' code_cellsT ?k1 ?k2 ?k3 ?k4 ?k5 ?XB ?TB ?D ?kA ?kF ?kK ?k6 ?k7 ?k8 ?k9 ?kB ?kD ?_ ?c2 ?c3 ?c4; (case kA => exact rfl); (case kF => exact rfl); (case kK => exact hk); (case k1 => exact B₀); (case k2 => exact F₀); (case k3 => exact X₀); (case k4 => exact N₀); (case k5 => exact T₀); (case XB => exact XB); (case TB => exact TB); (case D => exact D₀); (case k6 => k_is); (case k7 => k_is); (case k8 => ktr_room); (case k9 => exact BindsTo.of_eq rfl); (case kB => exact rfl); (case kD => decide +kernel); (case c2 => exact rfl); (case c3 => exact rfl); (case c4 => exact rfl); k_whole; intro g' L' h' tk' cells' FG' F' N' Y' B' X' T' D' st' l1)
  have hc0 : ∀ q ∈ news, @LT.lt Nat _ q.1 L' := fun q hq => l1 q (.tail _ hq)
  have hc1 : ∀ q ∈ news, q.1 ≠ L' + 1 := fun q hq => Nat.ne_of_lt (Nat.lt_succ_of_lt (hc0 q hq))
  have hc2 : ∀ q ∈ news, q.1 ≠ L' + 1 + 1 := fun q hq => Nat.ne_of_lt (Nat.lt_succ_of_lt (Nat.lt_succ_of_lt (hc0 q hq)))
  have hc3 : ∀ q ∈ news, q.1 ≠ L' + 1 + 1 + 1 := fun q hq => Nat.ne_of_lt (Nat.lt_succ_of_lt (Nat.lt_succ_of_lt (Nat.lt_succ_of_lt (hc0 q hq))))
  k_lt l1
  obtain ⟨o1, o2, o3, hE, d1, d2, d3⟩ := PyProof.Rows.CellsAre.three Y'
  subst hE
  clear Y'
  replace d1 : o1.data = .cell none := d1
  replace d2 : o2.data = .cell none := d2
  replace d3 : o3.data = .cell (some (.int (dg : Int) tg)) := d3
  simp only [List.cons_append, List.nil_append] at N'
  try dsimp only
  try k_lift B'
  try k_fold
  refine fr_pin3 (a := Str.ofString "front") (b := Str.ofString "behind") (c := Str.ofString "power") (some (.str F tF)) (some (.str B tB)) (some (.str P tP)) F' rfl rfl rfl ?_
  clear F'
  intro m0 F'
  refine hide_QE ?_
  intro QQ EE hQQ
  obtain ⟨n, e1, c, e, DD⟩ := dec_facts hR hbp hdg
  have f1 := sgs_len F
  have f2 := sgs_len B
  have f3 := sgs_len P
  have hfew := hR.few
  have hP5 := PF.len hR
  have f4 : F.length ≤ 40 := by omega
  have f5 : B.length ≤ 40 := by omega
  have f6 : P.length ≤ 5 := by omega
  have x2 := DD.x2
  have x3 := DD.x3
  have x4 := DD.x4
  have x5 := DD.x5
  have x7 := DD.x7
  have x8 := DD.x8
  have e1z := DD.e1z
  have v0 := DD.v0
  have v1 := DD.v1
  have b1 := DD.b1
  have b2 := DD.b2
  have xn := DD.xn
  have x10 := DD.x10
  have x11 := DD.x11
  have hback := DD.hback
  (repeat' (first | ((fail_if_success (with_reducible show wpAny _ _ (eval (Expr.IfExp _ _ _ _) _) _ _ _)); (first | (k_here; (with_reducible show wpAny _ _ (compareOp CmpOp.Eq (Value.ref _) (Value.str _ _)) _ _ _); (refine cmp_ofEq ?_); k_dflt (refine' SeqAt.RcAt.tuple_str _ _ ?zh ?zu _ _ _ _ ?_); (case zh => exact ⟨_, News.get (by k_asm) (by k_mem), rfl, _, rfl⟩); (case zu => ktr_units)) | (k_here; (with_reducible show wpAny _ _ (eval (Expr.Lambda _ _ _ _) _) _ _ _); k_dflt (refine' kla_eval ?d0 ?_; (case d0 => exact rfl)); k_dflt (refine' lam_any ?F ?N ?T ?C ?cd ?U ?S ?tl ?cl ?_; (case F => k_asm); (case N => k_asm); (case T => k_asm); (case cd => exact rfl); (case C => kn_code); (case U => k_updF); (case S => assumption); (case tl => first | (refine List.forall_mem_cons.mpr ⟨?ma, ?mb⟩; (case ma => k_mem); (case mb => exact (by repeat' (first | with_reducible assumption | refine sub_cons ?_)))) | exact (by repeat' (first | with_reducible assumption | refine sub_cons ?_))); (case cl => exact rfl); k_whole); intro f9 c9 oc9 vs9 t9 ct9 ps9 h9 tk9 F9 N9 d9 e9 S9 l9 l8 l7 w9; (try dsimp only at N9); (try k_lt l9); (try k_lt2 l8); (try k_lt2 l7)) | (k_here; (with_reducible show wpAny _ _ (call (Value.type "int") [Value.str _ _]) _ _ _); (refine KIN.call_text (by with_reducible assumption) (by omega) ?_)) | (k_here; (with_reducible show wpAny _ _ (call (Value.ref _) _) _ _ _); (first | ((with_reducible show wpAny _ _ (call (Value.ref 353) _) _ _ _); k_dflt (first | (refine' useSg (shown_whole_tree _ _ _ ?p1) ?k1 ?k2 ?k3 ?k4 ?k5 ?kK ?kd ?ku (ha1 ?kh) ?_; walk_at "u2"; (case kh => k_mem)) | (refine' useSg (shown_dec_tree _ _ _ _ _ ?p1 ?p2 ?p3) ?k1 ?k2 ?k3 ?k4 ?k5 ?kK ?kd ?ku (ha2 ?kh ?kh2) ?_; walk_at "u2"; (case kh => k_mem); (case kh2 => k_mem); (case p2 => walk_at "up"); (case p3 => walk_at "up"))); (case p1 => walk_at "up"); (intro y9 t9 h9 tk9 hy9 F9 N9; (try (rename ∀ y : Str, sgs y = _ → NumText (sgs y) ∧ ntree (sgs y) = _ => hb9; have hb8 := hb9 _ hy9; obtain ⟨hb7, hb6⟩ := hb8)); walk_at "u3")) | ((with_reducible show wpAny _ _ (call (Value.ref 375) _) _ _ _); k_dflt (refine' useX (d_of_text _ _ _ _ _ ?p1 ?p2 ?p3 ?p4) ?k1 ?k2 ?k3 ?k4 ?k5 ?kK ?kd ?ku ?kx ?_; (case p1 => walk_at "up"); (case p2 => walk_at "up"); (case p3 => walk_at "up"); (case p4 => walk_at "up"); walk_at "u2"; (case kx => walk_at "uf")); (intro r9 v9 tl9 h9 tk9 hr9 F9 N9 l9 o9; walk_at "u3")) | ((with_reducible show wpAny _ _ (call (Value.ref 243) _) _ _ _); (rename ntree _ = Tr.dec _ _ => ht9); k_dflt (refine' useM (number_tree _ _ _ ?p1 ?p2) ?k1 ?k2 ?k3 ?k4 ?k5 ?kK ?kd ?ku ?_; (case p1 => walk_at "up"); (case p2 => walk_at "up"); walk_at "u2"); (intro r9 tl9 h9 tk9 F9 N9 l9 o9; rw [ht9] at o9; obtain ⟨D9, D8, a9, b9, c9, e9, e8, lt9⟩ := o9; subst e9; subst e8; dsimp only [List.cons_append, List.nil_append] at N9; (have l9' := fun q hq => l9 q hq (D9, _) (.head _)); (have l9b := fun q hq => l9 q hq (D8, _) (.tail _ (.head _))); clear l9; (try k_lt l9'); (try k_lt l9b); walk_at "u3")) | ((with_reducible show wpAny _ _ (call (Value.ref 243) _) _ _ _); (rename ntree _ = Tr.whole _ => ht9); k_dflt (refine' useM (number_tree _ _ _ ?p1 ?p2) ?k1 ?k2 ?k3 ?k4 ?k5 ?kK ?kd ?ku ?_; (case p1 => walk_at "up"); (case p2 => walk_at "up"); walk_at "u2"); (intro r9 tl9 h9 tk9 F9 N9 l9 o9; rw [ht9] at o9; obtain ⟨D9, a9, b9, e9, e8⟩ := o9; subst e9; subst e8; dsimp only [List.cons_append, List.nil_append] at N9; (have l9' := fun q hq => l9 q hq (D9, _) (.head _)); clear l9; (try k_lt l9'); walk_at "u3")) | ((with_reducible show wpAny _ _ (call (Value.ref 403) _) _ _ _); (rename mk _ _ _ = none => hm9); k_dflt (refine' useS (near_none _ _ _ _ _ _ () ?p1 ?p2 ?p3 ?p4 ?p5 hm9) ?k1 ?k2 ?k3 ?k4 ?k5 ?kK ?kd ?ku ?_; (case p1 => walk_at "up"); (case p2 => walk_at "up"); (case p3 => walk_at "up"); (case p4 => walk_at "up"); (case p5 => (first | decide | omega | (split <;> omega))); walk_at "u2"); (intro t9 h9 tk9 F9 N9; walk_at "u3")) | ((with_reducible show wpAny _ _ (call (Value.ref 403) _) _ _ _); (rename mk _ _ _ = some _ => hm9); k_dflt (refine' useII (near_some _ _ _ _ _ _ _ ?p1 ?p2 ?p3 ?p4 ?p5 hm9) ?k1 ?k2 ?k3 ?k4 ?k5 ?kK ?kd ?ku ?_; (case p1 => walk_at "up"); (case p2 => walk_at "up"); (case p3 => walk_at "up"); (case p4 => walk_at "up"); (case p5 => (first | decide | omega | (split <;> omega))); walk_at "u2"); (intro D9 a9 b9 h9 tk9 F9 N9 l9; (try k_lt l9); walk_at "u3")) | ((with_reducible show wpAny _ _ (call (Value.ref 417) _) _ _ _); k_dflt (first | (refine' useAB (is_back_whole _ _ _ _ ?p1 ?p2) ?k1 ?k2 ?k3 ?k4 ?k5 ?kK ?kd ?ku (ha1 ?kh) ?_; (case p2 => assumption); walk_at "u2"; (case kh => k_mem)) | (refine' useAB (is_back_dec _ _ _ _ _ _ ?p1 ?p2) ?k1 ?k2 ?k3 ?k4 ?k5 ?kK ?kd ?ku (ha2 ?kh ?kh2) ?_; (case p2 => assumption); walk_at "u2"; (case kh => k_mem); (case kh2 => k_mem))); (case p1 => assumption); (intro h9 tk9 F9 N9; walk_at "u3")) | ((with_reducible show wpAny _ _ (call (Value.ref 389) _) _ _ _); k_dflt (refine' useA (worth_dec _ _ _ _ _ _ _ _ _ _ _ ?p1 ?p2) ?k1 ?k2 ?k3 ?k4 ?k5 ?kK ?kd ?ku (ha2 ?kh ?kh2) ?kx ?_; walk_at "u2"; (case kh => k_mem); (case kh2 => k_mem); (case p1 => walk_at "up"); (case p2 => walk_at "up"); (case kx => walk_at "uf")); (intro r9 v9 tl9 h9 tk9 hr9 F9 N9 l9 o9; walk_at "u3")) | ((with_reducible show wpAny _ _ (call (Value.ref 389) _) _ _ _); k_dflt (refine' useA (worth_whole _ _ _ _ _ _ _ _ ?p1 ?p2) ?k1 ?k2 ?k3 ?k4 ?k5 ?kK ?kd ?ku (ha1 ?kh) ?kx ?_; walk_at "u2"; (case kh => k_mem); (case p1 => walk_at "up"); (case p2 => walk_at "up"); (case kx => walk_at "uf")); (intro r9 v9 tl9 h9 tk9 hr9 F9 N9 l9 o9; walk_at "u3")))) | walk_at "wk"))))
  rename Fr g' L' _ _ => FF
  rename News g' L' _ _ => NN
  k_dflt (refine cut_int (z := z) FF NN ?cut ?rest)
  case' cut =>
    rcases hpw with ⟨p1, rfl⟩ | ⟨p1, p2⟩
    · (repeat' (first | (k_here; (with_reducible show wpAny _ _ (compareOp CmpOp.Eq (Value.ref _) (Value.str _ _)) _ _ _); (refine cmp_ofEq ?_); k_dflt (refine' SeqAt.RcAt.tuple_str _ _ ?zh ?zu _ _ _ _ ?_); (case zh => exact ⟨_, News.get (by k_asm) (by k_mem), rfl, _, rfl⟩); (case zu => ktr_units)) | (k_here; (with_reducible show wpAny _ _ (eval (Expr.Lambda _ _ _ _) _) _ _ _); k_dflt (refine' kla_eval ?d0 ?_; (case d0 => exact rfl)); k_dflt (refine' lam_any ?F ?N ?T ?C ?cd ?U ?S ?tl ?cl ?_; (case F => k_asm); (case N => k_asm); (case T => k_asm); (case cd => exact rfl); (case C => kn_code); (case U => k_updF); (case S => assumption); (case tl => first | (refine List.forall_mem_cons.mpr ⟨?ma, ?mb⟩; (case ma => k_mem); (case mb => exact (by repeat' (first | with_reducible assumption | refine sub_cons ?_)))) | exact (by repeat' (first | with_reducible assumption | refine sub_cons ?_))); (case cl => exact rfl); k_whole); intro f9 c9 oc9 vs9 t9 ct9 ps9 h9 tk9 F9 N9 d9 e9 S9 l9 l8 l7 w9; (try dsimp only at N9); (try k_lt l9); (try k_lt2 l8); (try k_lt2 l7)) | (k_here; (with_reducible show wpAny _ _ (call (Value.type "int") [Value.str _ _]) _ _ _); (refine KIN.call_text (by with_reducible assumption) (by omega) ?_)) | (k_here; (with_reducible show wpAny _ _ (call (Value.ref _) _) _ _ _); (first | ((with_reducible show wpAny _ _ (call (Value.ref 353) _) _ _ _); k_dflt (first | (refine' useSg (shown_whole_tree _ _ _ ?p1) ?k1 ?k2 ?k3 ?k4 ?k5 ?kK ?kd ?ku (ha1 ?kh) ?_; walk_at "u2"; (case kh => k_mem)) | (refine' useSg (shown_dec_tree _ _ _ _ _ ?p1 ?p2 ?p3) ?k1 ?k2 ?k3 ?k4 ?k5 ?kK ?kd ?ku (ha2 ?kh ?kh2) ?_; walk_at "u2"; (case kh => k_mem); (case kh2 => k_mem); (case p2 => walk_at "up"); (case p3 => walk_at "up"))); (case p1 => walk_at "up"); (intro y9 t9 h9 tk9 hy9 F9 N9; (try (rename ∀ y : Str, sgs y = _ → NumText (sgs y) ∧ ntree (sgs y) = _ => hb9; have hb8 := hb9 _ hy9; obtain ⟨hb7, hb6⟩ := hb8)); walk_at "u3")) | ((with_reducible show wpAny _ _ (call (Value.ref 375) _) _ _ _); k_dflt (refine' useX (d_of_text _ _ _ _ _ ?p1 ?p2 ?p3 ?p4) ?k1 ?k2 ?k3 ?k4 ?k5 ?kK ?kd ?ku ?kx ?_; (case p1 => walk_at "up"); (case p2 => walk_at "up"); (case p3 => walk_at "up"); (case p4 => walk_at "up"); walk_at "u2"; (case kx => walk_at "uf")); (intro r9 v9 tl9 h9 tk9 hr9 F9 N9 l9 o9; walk_at "u3")) | ((with_reducible show wpAny _ _ (call (Value.ref 243) _) _ _ _); (rename ntree _ = Tr.dec _ _ => ht9); k_dflt (refine' useM (number_tree _ _ _ ?p1 ?p2) ?k1 ?k2 ?k3 ?k4 ?k5 ?kK ?kd ?ku ?_; (case p1 => walk_at "up"); (case p2 => walk_at "up"); walk_at "u2"); (intro r9 tl9 h9 tk9 F9 N9 l9 o9; rw [ht9] at o9; obtain ⟨D9, D8, a9, b9, c9, e9, e8, lt9⟩ := o9; subst e9; subst e8; dsimp only [List.cons_append, List.nil_append] at N9; (have l9' := fun q hq => l9 q hq (D9, _) (.head _)); (have l9b := fun q hq => l9 q hq (D8, _) (.tail _ (.head _))); clear l9; (try k_lt l9'); (try k_lt l9b); walk_at "u3")) | ((with_reducible show wpAny _ _ (call (Value.ref 243) _) _ _ _); (rename ntree _ = Tr.whole _ => ht9); k_dflt (refine' useM (number_tree _ _ _ ?p1 ?p2) ?k1 ?k2 ?k3 ?k4 ?k5 ?kK ?kd ?ku ?_; (case p1 => walk_at "up"); (case p2 => walk_at "up"); walk_at "u2"); (intro r9 tl9 h9 tk9 F9 N9 l9 o9; rw [ht9] at o9; obtain ⟨D9, a9, b9, e9, e8⟩ := o9; subst e9; subst e8; dsimp only [List.cons_append, List.nil_append] at N9; (have l9' := fun q hq => l9 q hq (D9, _) (.head _)); clear l9; (try k_lt l9'); walk_at "u3")) | ((with_reducible show wpAny _ _ (call (Value.ref 403) _) _ _ _); (rename mk _ _ _ = none => hm9); k_dflt (refine' useS (near_none _ _ _ _ _ _ () ?p1 ?p2 ?p3 ?p4 ?p5 hm9) ?k1 ?k2 ?k3 ?k4 ?k5 ?kK ?kd ?ku ?_; (case p1 => walk_at "up"); (case p2 => walk_at "up"); (case p3 => walk_at "up"); (case p4 => walk_at "up"); (case p5 => (first | decide | omega | (split <;> omega))); walk_at "u2"); (intro t9 h9 tk9 F9 N9; walk_at "u3")) | ((with_reducible show wpAny _ _ (call (Value.ref 403) _) _ _ _); (rename mk _ _ _ = some _ => hm9); k_dflt (refine' useII (near_some _ _ _ _ _ _ _ ?p1 ?p2 ?p3 ?p4 ?p5 hm9) ?k1 ?k2 ?k3 ?k4 ?k5 ?kK ?kd ?ku ?_; (case p1 => walk_at "up"); (case p2 => walk_at "up"); (case p3 => walk_at "up"); (case p4 => walk_at "up"); (case p5 => (first | decide | omega | (split <;> omega))); walk_at "u2"); (intro D9 a9 b9 h9 tk9 F9 N9 l9; (try k_lt l9); walk_at "u3")) | ((with_reducible show wpAny _ _ (call (Value.ref 417) _) _ _ _); k_dflt (first | (refine' useAB (is_back_whole _ _ _ _ ?p1 ?p2) ?k1 ?k2 ?k3 ?k4 ?k5 ?kK ?kd ?ku (ha1 ?kh) ?_; (case p2 => assumption); walk_at "u2"; (case kh => k_mem)) | (refine' useAB (is_back_dec _ _ _ _ _ _ ?p1 ?p2) ?k1 ?k2 ?k3 ?k4 ?k5 ?kK ?kd ?ku (ha2 ?kh ?kh2) ?_; (case p2 => assumption); walk_at "u2"; (case kh => k_mem); (case kh2 => k_mem))); (case p1 => assumption); (intro h9 tk9 F9 N9; walk_at "u3")) | ((with_reducible show wpAny _ _ (call (Value.ref 389) _) _ _ _); k_dflt (refine' useA (worth_dec _ _ _ _ _ _ _ _ _ _ _ ?p1 ?p2) ?k1 ?k2 ?k3 ?k4 ?k5 ?kK ?kd ?ku (ha2 ?kh ?kh2) ?kx ?_; walk_at "u2"; (case kh => k_mem); (case kh2 => k_mem); (case p1 => walk_at "up"); (case p2 => walk_at "up"); (case kx => walk_at "uf")); (intro r9 v9 tl9 h9 tk9 hr9 F9 N9 l9 o9; walk_at "u3")) | ((with_reducible show wpAny _ _ (call (Value.ref 389) _) _ _ _); k_dflt (refine' useA (worth_whole _ _ _ _ _ _ _ _ ?p1 ?p2) ?k1 ?k2 ?k3 ?k4 ?k5 ?kK ?kd ?ku (ha1 ?kh) ?kx ?_; walk_at "u2"; (case kh => k_mem); (case p1 => walk_at "up"); (case p2 => walk_at "up"); (case kx => walk_at "uf")); (intro r9 v9 tl9 h9 tk9 hr9 F9 N9 l9 o9; walk_at "u3")))) | walk_at "wk"))
      exact CutI.mk (by with_reducible assumption) (by with_reducible assumption) (by repeat' (first | exact sub_refl _ | refine sub_cons ?_))
    · (repeat' (first | (k_here; (with_reducible show wpAny _ _ (compareOp CmpOp.Eq (Value.ref _) (Value.str _ _)) _ _ _); (refine cmp_ofEq ?_); k_dflt (refine' SeqAt.RcAt.tuple_str _ _ ?zh ?zu _ _ _ _ ?_); (case zh => exact ⟨_, News.get (by k_asm) (by k_mem), rfl, _, rfl⟩); (case zu => ktr_units)) | (k_here; (with_reducible show wpAny _ _ (eval (Expr.Lambda _ _ _ _) _) _ _ _); k_dflt (refine' kla_eval ?d0 ?_; (case d0 => exact rfl)); k_dflt (refine' lam_any ?F ?N ?T ?C ?cd ?U ?S ?tl ?cl ?_; (case F => k_asm); (case N => k_asm); (case T => k_asm); (case cd => exact rfl); (case C => kn_code); (case U => k_updF); (case S => assumption); (case tl => first | (refine List.forall_mem_cons.mpr ⟨?ma, ?mb⟩; (case ma => k_mem); (case mb => exact (by repeat' (first | with_reducible assumption | refine sub_cons ?_)))) | exact (by repeat' (first | with_reducible assumption | refine sub_cons ?_))); (case cl => exact rfl); k_whole); intro f9 c9 oc9 vs9 t9 ct9 ps9 h9 tk9 F9 N9 d9 e9 S9 l9 l8 l7 w9; (try dsimp only at N9); (try k_lt l9); (try k_lt2 l8); (try k_lt2 l7)) | (k_here; (with_reducible show wpAny _ _ (call (Value.type "int") [Value.str _ _]) _ _ _); (refine KIN.call_text (by with_reducible assumption) (by omega) ?_)) | (k_here; (with_reducible show wpAny _ _ (call (Value.ref _) _) _ _ _); (first | ((with_reducible show wpAny _ _ (call (Value.ref 353) _) _ _ _); k_dflt (first | (refine' useSg (shown_whole_tree _ _ _ ?p1) ?k1 ?k2 ?k3 ?k4 ?k5 ?kK ?kd ?ku (ha1 ?kh) ?_; walk_at "u2"; (case kh => k_mem)) | (refine' useSg (shown_dec_tree _ _ _ _ _ ?p1 ?p2 ?p3) ?k1 ?k2 ?k3 ?k4 ?k5 ?kK ?kd ?ku (ha2 ?kh ?kh2) ?_; walk_at "u2"; (case kh => k_mem); (case kh2 => k_mem); (case p2 => walk_at "up"); (case p3 => walk_at "up"))); (case p1 => walk_at "up"); (intro y9 t9 h9 tk9 hy9 F9 N9; (try (rename ∀ y : Str, sgs y = _ → NumText (sgs y) ∧ ntree (sgs y) = _ => hb9; have hb8 := hb9 _ hy9; obtain ⟨hb7, hb6⟩ := hb8)); walk_at "u3")) | ((with_reducible show wpAny _ _ (call (Value.ref 375) _) _ _ _); k_dflt (refine' useX (d_of_text _ _ _ _ _ ?p1 ?p2 ?p3 ?p4) ?k1 ?k2 ?k3 ?k4 ?k5 ?kK ?kd ?ku ?kx ?_; (case p1 => walk_at "up"); (case p2 => walk_at "up"); (case p3 => walk_at "up"); (case p4 => walk_at "up"); walk_at "u2"; (case kx => walk_at "uf")); (intro r9 v9 tl9 h9 tk9 hr9 F9 N9 l9 o9; walk_at "u3")) | ((with_reducible show wpAny _ _ (call (Value.ref 243) _) _ _ _); (rename ntree _ = Tr.dec _ _ => ht9); k_dflt (refine' useM (number_tree _ _ _ ?p1 ?p2) ?k1 ?k2 ?k3 ?k4 ?k5 ?kK ?kd ?ku ?_; (case p1 => walk_at "up"); (case p2 => walk_at "up"); walk_at "u2"); (intro r9 tl9 h9 tk9 F9 N9 l9 o9; rw [ht9] at o9; obtain ⟨D9, D8, a9, b9, c9, e9, e8, lt9⟩ := o9; subst e9; subst e8; dsimp only [List.cons_append, List.nil_append] at N9; (have l9' := fun q hq => l9 q hq (D9, _) (.head _)); (have l9b := fun q hq => l9 q hq (D8, _) (.tail _ (.head _))); clear l9; (try k_lt l9'); (try k_lt l9b); walk_at "u3")) | ((with_reducible show wpAny _ _ (call (Value.ref 243) _) _ _ _); (rename ntree _ = Tr.whole _ => ht9); k_dflt (refine' useM (number_tree _ _ _ ?p1 ?p2) ?k1 ?k2 ?k3 ?k4 ?k5 ?kK ?kd ?ku ?_; (case p1 => walk_at "up"); (case p2 => walk_at "up"); walk_at "u2"); (intro r9 tl9 h9 tk9 F9 N9 l9 o9; rw [ht9] at o9; obtain ⟨D9, a9, b9, e9, e8⟩ := o9; subst e9; subst e8; dsimp only [List.cons_append, List.nil_append] at N9; (have l9' := fun q hq => l9 q hq (D9, _) (.head _)); clear l9; (try k_lt l9'); walk_at "u3")) | ((with_reducible show wpAny _ _ (call (Value.ref 403) _) _ _ _); (rename mk _ _ _ = none => hm9); k_dflt (refine' useS (near_none _ _ _ _ _ _ () ?p1 ?p2 ?p3 ?p4 ?p5 hm9) ?k1 ?k2 ?k3 ?k4 ?k5 ?kK ?kd ?ku ?_; (case p1 => walk_at "up"); (case p2 => walk_at "up"); (case p3 => walk_at "up"); (case p4 => walk_at "up"); (case p5 => (first | decide | omega | (split <;> omega))); walk_at "u2"); (intro t9 h9 tk9 F9 N9; walk_at "u3")) | ((with_reducible show wpAny _ _ (call (Value.ref 403) _) _ _ _); (rename mk _ _ _ = some _ => hm9); k_dflt (refine' useII (near_some _ _ _ _ _ _ _ ?p1 ?p2 ?p3 ?p4 ?p5 hm9) ?k1 ?k2 ?k3 ?k4 ?k5 ?kK ?kd ?ku ?_; (case p1 => walk_at "up"); (case p2 => walk_at "up"); (case p3 => walk_at "up"); (case p4 => walk_at "up"); (case p5 => (first | decide | omega | (split <;> omega))); walk_at "u2"); (intro D9 a9 b9 h9 tk9 F9 N9 l9; (try k_lt l9); walk_at "u3")) | ((with_reducible show wpAny _ _ (call (Value.ref 417) _) _ _ _); k_dflt (first | (refine' useAB (is_back_whole _ _ _ _ ?p1 ?p2) ?k1 ?k2 ?k3 ?k4 ?k5 ?kK ?kd ?ku (ha1 ?kh) ?_; (case p2 => assumption); walk_at "u2"; (case kh => k_mem)) | (refine' useAB (is_back_dec _ _ _ _ _ _ ?p1 ?p2) ?k1 ?k2 ?k3 ?k4 ?k5 ?kK ?kd ?ku (ha2 ?kh ?kh2) ?_; (case p2 => assumption); walk_at "u2"; (case kh => k_mem); (case kh2 => k_mem))); (case p1 => assumption); (intro h9 tk9 F9 N9; walk_at "u3")) | ((with_reducible show wpAny _ _ (call (Value.ref 389) _) _ _ _); k_dflt (refine' useA (worth_dec _ _ _ _ _ _ _ _ _ _ _ ?p1 ?p2) ?k1 ?k2 ?k3 ?k4 ?k5 ?kK ?kd ?ku (ha2 ?kh ?kh2) ?kx ?_; walk_at "u2"; (case kh => k_mem); (case kh2 => k_mem); (case p1 => walk_at "up"); (case p2 => walk_at "up"); (case kx => walk_at "uf")); (intro r9 v9 tl9 h9 tk9 hr9 F9 N9 l9 o9; walk_at "u3")) | ((with_reducible show wpAny _ _ (call (Value.ref 389) _) _ _ _); k_dflt (refine' useA (worth_whole _ _ _ _ _ _ _ _ ?p1 ?p2) ?k1 ?k2 ?k3 ?k4 ?k5 ?kK ?kd ?ku (ha1 ?kh) ?kx ?_; walk_at "u2"; (case kh => k_mem); (case p1 => walk_at "up"); (case p2 => walk_at "up"); (case kx => walk_at "uf")); (intro r9 v9 tl9 h9 tk9 hr9 F9 N9 l9 o9; walk_at "u3")))) | walk_at "wk"))
      exact CutI.mk (by with_reducible assumption) (by with_reducible assumption) (by repeat' (first | exact sub_refl _ | refine sub_cons ?_))
  case' rest =>
    intro tz h9 tk9 F9 N9
    clear FF NN
    (try dsimp only)
    cases hm : mk n e1 dg with
    | some q =>
      obtain ⟨q1, q2⟩ := q
      (repeat' (first | ((fail_if_success (with_reducible show wpAny _ _ (call (Value.ref 410) _) _ _ _)); (first | (k_here; (with_reducible show wpAny _ _ (compareOp CmpOp.Eq (Value.ref _) (Value.str _ _)) _ _ _); (refine cmp_ofEq ?_); k_dflt (refine' SeqAt.RcAt.tuple_str _ _ ?zh ?zu _ _ _ _ ?_); (case zh => exact ⟨_, News.get (by k_asm) (by k_mem), rfl, _, rfl⟩); (case zu => ktr_units)) | (k_here; (with_reducible show wpAny _ _ (eval (Expr.Lambda _ _ _ _) _) _ _ _); k_dflt (refine' kla_eval ?d0 ?_; (case d0 => exact rfl)); k_dflt (refine' lam_any ?F ?N ?T ?C ?cd ?U ?S ?tl ?cl ?_; (case F => k_asm); (case N => k_asm); (case T => k_asm); (case cd => exact rfl); (case C => kn_code); (case U => k_updF); (case S => assumption); (case tl => first | (refine List.forall_mem_cons.mpr ⟨?ma, ?mb⟩; (case ma => k_mem); (case mb => exact (by repeat' (first | with_reducible assumption | refine sub_cons ?_)))) | exact (by repeat' (first | with_reducible assumption | refine sub_cons ?_))); (case cl => exact rfl); k_whole); intro f9 c9 oc9 vs9 t9 ct9 ps9 h9 tk9 F9 N9 d9 e9 S9 l9 l8 l7 w9; (try dsimp only at N9); (try k_lt l9); (try k_lt2 l8); (try k_lt2 l7)) | (k_here; (with_reducible show wpAny _ _ (call (Value.type "int") [Value.str _ _]) _ _ _); (refine KIN.call_text (by with_reducible assumption) (by omega) ?_)) | (k_here; (with_reducible show wpAny _ _ (call (Value.ref _) _) _ _ _); (first | ((with_reducible show wpAny _ _ (call (Value.ref 353) _) _ _ _); k_dflt (first | (refine' useSg (shown_whole_tree _ _ _ ?p1) ?k1 ?k2 ?k3 ?k4 ?k5 ?kK ?kd ?ku (ha1 ?kh) ?_; walk_at "u2"; (case kh => k_mem)) | (refine' useSg (shown_dec_tree _ _ _ _ _ ?p1 ?p2 ?p3) ?k1 ?k2 ?k3 ?k4 ?k5 ?kK ?kd ?ku (ha2 ?kh ?kh2) ?_; walk_at "u2"; (case kh => k_mem); (case kh2 => k_mem); (case p2 => walk_at "up"); (case p3 => walk_at "up"))); (case p1 => walk_at "up"); (intro y9 t9 h9 tk9 hy9 F9 N9; (try (rename ∀ y : Str, sgs y = _ → NumText (sgs y) ∧ ntree (sgs y) = _ => hb9; have hb8 := hb9 _ hy9; obtain ⟨hb7, hb6⟩ := hb8)); walk_at "u3")) | ((with_reducible show wpAny _ _ (call (Value.ref 375) _) _ _ _); k_dflt (refine' useX (d_of_text _ _ _ _ _ ?p1 ?p2 ?p3 ?p4) ?k1 ?k2 ?k3 ?k4 ?k5 ?kK ?kd ?ku ?kx ?_; (case p1 => walk_at "up"); (case p2 => walk_at "up"); (case p3 => walk_at "up"); (case p4 => walk_at "up"); walk_at "u2"; (case kx => walk_at "uf")); (intro r9 v9 tl9 h9 tk9 hr9 F9 N9 l9 o9; walk_at "u3")) | ((with_reducible show wpAny _ _ (call (Value.ref 243) _) _ _ _); (rename ntree _ = Tr.dec _ _ => ht9); k_dflt (refine' useM (number_tree _ _ _ ?p1 ?p2) ?k1 ?k2 ?k3 ?k4 ?k5 ?kK ?kd ?ku ?_; (case p1 => walk_at "up"); (case p2 => walk_at "up"); walk_at "u2"); (intro r9 tl9 h9 tk9 F9 N9 l9 o9; rw [ht9] at o9; obtain ⟨D9, D8, a9, b9, c9, e9, e8, lt9⟩ := o9; subst e9; subst e8; dsimp only [List.cons_append, List.nil_append] at N9; (have l9' := fun q hq => l9 q hq (D9, _) (.head _)); (have l9b := fun q hq => l9 q hq (D8, _) (.tail _ (.head _))); clear l9; (try k_lt l9'); (try k_lt l9b); walk_at "u3")) | ((with_reducible show wpAny _ _ (call (Value.ref 243) _) _ _ _); (rename ntree _ = Tr.whole _ => ht9); k_dflt (refine' useM (number_tree _ _ _ ?p1 ?p2) ?k1 ?k2 ?k3 ?k4 ?k5 ?kK ?kd ?ku ?_; (case p1 => walk_at "up"); (case p2 => walk_at "up"); walk_at "u2"); (intro r9 tl9 h9 tk9 F9 N9 l9 o9; rw [ht9] at o9; obtain ⟨D9, a9, b9, e9, e8⟩ := o9; subst e9; subst e8; dsimp only [List.cons_append, List.nil_append] at N9; (have l9' := fun q hq => l9 q hq (D9, _) (.head _)); clear l9; (try k_lt l9'); walk_at "u3")) | ((with_reducible show wpAny _ _ (call (Value.ref 403) _) _ _ _); (rename mk _ _ _ = none => hm9); k_dflt (refine' useS (near_none _ _ _ _ _ _ () ?p1 ?p2 ?p3 ?p4 ?p5 hm9) ?k1 ?k2 ?k3 ?k4 ?k5 ?kK ?kd ?ku ?_; (case p1 => walk_at "up"); (case p2 => walk_at "up"); (case p3 => walk_at "up"); (case p4 => walk_at "up"); (case p5 => (first | decide | omega | (split <;> omega))); walk_at "u2"); (intro t9 h9 tk9 F9 N9; walk_at "u3")) | ((with_reducible show wpAny _ _ (call (Value.ref 403) _) _ _ _); (rename mk _ _ _ = some _ => hm9); k_dflt (refine' useII (near_some _ _ _ _ _ _ _ ?p1 ?p2 ?p3 ?p4 ?p5 hm9) ?k1 ?k2 ?k3 ?k4 ?k5 ?kK ?kd ?ku ?_; (case p1 => walk_at "up"); (case p2 => walk_at "up"); (case p3 => walk_at "up"); (case p4 => walk_at "up"); (case p5 => (first | decide | omega | (split <;> omega))); walk_at "u2"); (intro D9 a9 b9 h9 tk9 F9 N9 l9; (try k_lt l9); walk_at "u3")) | ((with_reducible show wpAny _ _ (call (Value.ref 417) _) _ _ _); k_dflt (first | (refine' useAB (is_back_whole _ _ _ _ ?p1 ?p2) ?k1 ?k2 ?k3 ?k4 ?k5 ?kK ?kd ?ku (ha1 ?kh) ?_; (case p2 => assumption); walk_at "u2"; (case kh => k_mem)) | (refine' useAB (is_back_dec _ _ _ _ _ _ ?p1 ?p2) ?k1 ?k2 ?k3 ?k4 ?k5 ?kK ?kd ?ku (ha2 ?kh ?kh2) ?_; (case p2 => assumption); walk_at "u2"; (case kh => k_mem); (case kh2 => k_mem))); (case p1 => assumption); (intro h9 tk9 F9 N9; walk_at "u3")) | ((with_reducible show wpAny _ _ (call (Value.ref 389) _) _ _ _); k_dflt (refine' useA (worth_dec _ _ _ _ _ _ _ _ _ _ _ ?p1 ?p2) ?k1 ?k2 ?k3 ?k4 ?k5 ?kK ?kd ?ku (ha2 ?kh ?kh2) ?kx ?_; walk_at "u2"; (case kh => k_mem); (case kh2 => k_mem); (case p1 => walk_at "up"); (case p2 => walk_at "up"); (case kx => walk_at "uf")); (intro r9 v9 tl9 h9 tk9 hr9 F9 N9 l9 o9; walk_at "u3")) | ((with_reducible show wpAny _ _ (call (Value.ref 389) _) _ _ _); k_dflt (refine' useA (worth_whole _ _ _ _ _ _ _ _ ?p1 ?p2) ?k1 ?k2 ?k3 ?k4 ?k5 ?kK ?kd ?ku (ha1 ?kh) ?kx ?_; walk_at "u2"; (case kh => k_mem); (case p1 => walk_at "up"); (case p2 => walk_at "up"); (case kx => walk_at "uf")); (intro r9 v9 tl9 h9 tk9 hr9 F9 N9 l9 o9; walk_at "u3")))) | walk_at "wk"))))
      k_dflt (refine' useT ?sak4 ?sak2 ?sak1 ?sak3 ?sak5 XB TB ?sak6 ?sakK ?sakd ?saku (law_heard w _ 20 340 _ _ _ _ _ (worth dg (.dec c e)) OutW ?saC) ?sakq)
      (case sak4 => k_asm)
      (case sak2 => k_asm)
      (case sak1 => k_asm)
      (case sak3 => k_asm)
      (case sak5 => k_asm)
      (case sak6 => k_asm)
      (case sakK => exact rfl)
      (case sakd => ktr_room)
      (case saku => ktr_units)
      case' saC =>
        unfold MeetsA
        k_fill
        intro p2 loose2 mean2 mg2 mb2 dp2 un2 gd2 cn2 cs2 a2 ccd2 cl2 outer2 A2 base2 g2 L2 m2 news2 s2 Q2 E2 hrw2 B2 F2 X2 N2 T2 hk2 hd2 hu2 hret2 hexc2
        clear hrw2
        dsimp only [List.cons_append, List.nil_append] at N2 hret2 hexc2
        walk_at "call lambda"
        (repeat' (first | (k_here; (with_reducible show wpAny _ _ (compareOp CmpOp.Eq (Value.ref _) (Value.str _ _)) _ _ _); (refine cmp_ofEq ?_); k_dflt (refine' SeqAt.RcAt.tuple_str _ _ ?zh ?zu _ _ _ _ ?_); (case zh => exact ⟨_, News.get (by k_asm) (by k_mem), rfl, _, rfl⟩); (case zu => ktr_units)) | (k_here; (with_reducible show wpAny _ _ (eval (Expr.Lambda _ _ _ _) _) _ _ _); k_dflt (refine' kla_eval ?d0 ?_; (case d0 => exact rfl)); k_dflt (refine' lam_any ?F ?N ?T ?C ?cd ?U ?S ?tl ?cl ?_; (case F => k_asm); (case N => k_asm); (case T => k_asm); (case cd => exact rfl); (case C => kn_code); (case U => k_updF); (case S => assumption); (case tl => first | (refine List.forall_mem_cons.mpr ⟨?ma, ?mb⟩; (case ma => k_mem); (case mb => exact (by repeat' (first | with_reducible assumption | refine sub_cons ?_)))) | exact (by repeat' (first | with_reducible assumption | refine sub_cons ?_))); (case cl => exact rfl); k_whole); intro f9 c9 oc9 vs9 t9 ct9 ps9 h9 tk9 F9 N9 d9 e9 S9 l9 l8 l7 w9; (try dsimp only at N9); (try k_lt l9); (try k_lt2 l8); (try k_lt2 l7)) | (k_here; (with_reducible show wpAny _ _ (call (Value.type "int") [Value.str _ _]) _ _ _); (refine KIN.call_text (by with_reducible assumption) (by omega) ?_)) | (k_here; (with_reducible show wpAny _ _ (call (Value.ref _) _) _ _ _); (first | ((with_reducible show wpAny _ _ (call (Value.ref 353) _) _ _ _); k_dflt (first | (refine' useSg (shown_whole_tree _ _ _ ?p1) ?k1 ?k2 ?k3 ?k4 ?k5 ?kK ?kd ?ku (ha1 ?kh) ?_; walk_at "u2"; (case kh => k_mem)) | (refine' useSg (shown_dec_tree _ _ _ _ _ ?p1 ?p2 ?p3) ?k1 ?k2 ?k3 ?k4 ?k5 ?kK ?kd ?ku (ha2 ?kh ?kh2) ?_; walk_at "u2"; (case kh => k_mem); (case kh2 => k_mem); (case p2 => walk_at "up"); (case p3 => walk_at "up"))); (case p1 => walk_at "up"); (intro y9 t9 h9 tk9 hy9 F9 N9; (try (rename ∀ y : Str, sgs y = _ → NumText (sgs y) ∧ ntree (sgs y) = _ => hb9; have hb8 := hb9 _ hy9; obtain ⟨hb7, hb6⟩ := hb8)); walk_at "u3")) | ((with_reducible show wpAny _ _ (call (Value.ref 375) _) _ _ _); k_dflt (refine' useX (d_of_text _ _ _ _ _ ?p1 ?p2 ?p3 ?p4) ?k1 ?k2 ?k3 ?k4 ?k5 ?kK ?kd ?ku ?kx ?_; (case p1 => walk_at "up"); (case p2 => walk_at "up"); (case p3 => walk_at "up"); (case p4 => walk_at "up"); walk_at "u2"; (case kx => walk_at "uf")); (intro r9 v9 tl9 h9 tk9 hr9 F9 N9 l9 o9; walk_at "u3")) | ((with_reducible show wpAny _ _ (call (Value.ref 243) _) _ _ _); (rename ntree _ = Tr.dec _ _ => ht9); k_dflt (refine' useM (number_tree _ _ _ ?p1 ?p2) ?k1 ?k2 ?k3 ?k4 ?k5 ?kK ?kd ?ku ?_; (case p1 => walk_at "up"); (case p2 => walk_at "up"); walk_at "u2"); (intro r9 tl9 h9 tk9 F9 N9 l9 o9; rw [ht9] at o9; obtain ⟨D9, D8, a9, b9, c9, e9, e8, lt9⟩ := o9; subst e9; subst e8; dsimp only [List.cons_append, List.nil_append] at N9; (have l9' := fun q hq => l9 q hq (D9, _) (.head _)); (have l9b := fun q hq => l9 q hq (D8, _) (.tail _ (.head _))); clear l9; (try k_lt l9'); (try k_lt l9b); walk_at "u3")) | ((with_reducible show wpAny _ _ (call (Value.ref 243) _) _ _ _); (rename ntree _ = Tr.whole _ => ht9); k_dflt (refine' useM (number_tree _ _ _ ?p1 ?p2) ?k1 ?k2 ?k3 ?k4 ?k5 ?kK ?kd ?ku ?_; (case p1 => walk_at "up"); (case p2 => walk_at "up"); walk_at "u2"); (intro r9 tl9 h9 tk9 F9 N9 l9 o9; rw [ht9] at o9; obtain ⟨D9, a9, b9, e9, e8⟩ := o9; subst e9; subst e8; dsimp only [List.cons_append, List.nil_append] at N9; (have l9' := fun q hq => l9 q hq (D9, _) (.head _)); clear l9; (try k_lt l9'); walk_at "u3")) | ((with_reducible show wpAny _ _ (call (Value.ref 403) _) _ _ _); (rename mk _ _ _ = none => hm9); k_dflt (refine' useS (near_none _ _ _ _ _ _ () ?p1 ?p2 ?p3 ?p4 ?p5 hm9) ?k1 ?k2 ?k3 ?k4 ?k5 ?kK ?kd ?ku ?_; (case p1 => walk_at "up"); (case p2 => walk_at "up"); (case p3 => walk_at "up"); (case p4 => walk_at "up"); (case p5 => (first | decide | omega | (split <;> omega))); walk_at "u2"); (intro t9 h9 tk9 F9 N9; walk_at "u3")) | ((with_reducible show wpAny _ _ (call (Value.ref 403) _) _ _ _); (rename mk _ _ _ = some _ => hm9); k_dflt (refine' useII (near_some _ _ _ _ _ _ _ ?p1 ?p2 ?p3 ?p4 ?p5 hm9) ?k1 ?k2 ?k3 ?k4 ?k5 ?kK ?kd ?ku ?_; (case p1 => walk_at "up"); (case p2 => walk_at "up"); (case p3 => walk_at "up"); (case p4 => walk_at "up"); (case p5 => (first | decide | omega | (split <;> omega))); walk_at "u2"); (intro D9 a9 b9 h9 tk9 F9 N9 l9; (try k_lt l9); walk_at "u3")) | ((with_reducible show wpAny _ _ (call (Value.ref 417) _) _ _ _); k_dflt (first | (refine' useAB (is_back_whole _ _ _ _ ?p1 ?p2) ?k1 ?k2 ?k3 ?k4 ?k5 ?kK ?kd ?ku (ha1 ?kh) ?_; (case p2 => assumption); walk_at "u2"; (case kh => k_mem)) | (refine' useAB (is_back_dec _ _ _ _ _ _ ?p1 ?p2) ?k1 ?k2 ?k3 ?k4 ?k5 ?kK ?kd ?ku (ha2 ?kh ?kh2) ?_; (case p2 => assumption); walk_at "u2"; (case kh => k_mem); (case kh2 => k_mem))); (case p1 => assumption); (intro h9 tk9 F9 N9; walk_at "u3")) | ((with_reducible show wpAny _ _ (call (Value.ref 389) _) _ _ _); k_dflt (refine' useA (worth_dec _ _ _ _ _ _ _ _ _ _ _ ?p1 ?p2) ?k1 ?k2 ?k3 ?k4 ?k5 ?kK ?kd ?ku (ha2 ?kh ?kh2) ?kx ?_; walk_at "u2"; (case kh => k_mem); (case kh2 => k_mem); (case p1 => walk_at "up"); (case p2 => walk_at "up"); (case kx => walk_at "uf")); (intro r9 v9 tl9 h9 tk9 hr9 F9 N9 l9 o9; walk_at "u3")) | ((with_reducible show wpAny _ _ (call (Value.ref 389) _) _ _ _); k_dflt (refine' useA (worth_whole _ _ _ _ _ _ _ _ ?p1 ?p2) ?k1 ?k2 ?k3 ?k4 ?k5 ?kK ?kd ?ku (ha1 ?kh) ?kx ?_; walk_at "u2"; (case kh => k_mem); (case p1 => walk_at "up"); (case p2 => walk_at "up"); (case kx => walk_at "uf")); (intro r9 v9 tl9 h9 tk9 hr9 F9 N9 l9 o9; walk_at "u3")))) | walk_at "wk"))
        exact hret2 _ (by assumption) _ _ _ _ (by k_asm) (by k_asm) (by assumption) (by assumption)
      case' sakq =>
        intro r8 tl8 h8 h8' tk8 T8 F8 N8 l8 B8 X8 P8 D8 o8
        have hm : mk n e1 dg = some (q1, q2) := by assumption
        have hw : worth dg (.dec c e) = some (.inr (q1, q2)) := congrArg (fun z : Option (Int × Int) => z.map (Sum.inr (α := Int))) (DD.xm.trans hm)
        rw [hw] at o8
        obtain ⟨Dw, aw, bw, e8, e8'⟩ := o8
        subst e8
        subst e8'
        have l8a := fun q hq => l8 q hq (Dw, _) (.head _)
        k_lt l8a
        clear B' X' T' D'
        dsimp only [List.nil_append, List.cons_append] at N8
        try k_lift B8
        (repeat' (first | ((fail_if_success (with_reducible show wpAny _ _ (exec (Stmt.If (Expr.BoolOp _ _ _) _ _ _) _) _ _ _)); (first | (k_here; (with_reducible show wpAny _ _ (compareOp CmpOp.Eq (Value.ref _) (Value.str _ _)) _ _ _); (refine cmp_ofEq ?_); k_dflt (refine' SeqAt.RcAt.tuple_str _ _ ?zh ?zu _ _ _ _ ?_); (case zh => exact ⟨_, News.get (by k_asm) (by k_mem), rfl, _, rfl⟩); (case zu => ktr_units)) | (k_here; (with_reducible show wpAny _ _ (eval (Expr.Lambda _ _ _ _) _) _ _ _); k_dflt (refine' kla_eval ?d0 ?_; (case d0 => exact rfl)); k_dflt (refine' lam_any ?F ?N ?T ?C ?cd ?U ?S ?tl ?cl ?_; (case F => k_asm); (case N => k_asm); (case T => k_asm); (case cd => exact rfl); (case C => kn_code); (case U => k_updF); (case S => assumption); (case tl => first | (refine List.forall_mem_cons.mpr ⟨?ma, ?mb⟩; (case ma => k_mem); (case mb => exact (by repeat' (first | with_reducible assumption | refine sub_cons ?_)))) | exact (by repeat' (first | with_reducible assumption | refine sub_cons ?_))); (case cl => exact rfl); k_whole); intro f9 c9 oc9 vs9 t9 ct9 ps9 h9 tk9 F9 N9 d9 e9 S9 l9 l8 l7 w9; (try dsimp only at N9); (try k_lt l9); (try k_lt2 l8); (try k_lt2 l7)) | (k_here; (with_reducible show wpAny _ _ (call (Value.type "int") [Value.str _ _]) _ _ _); (refine KIN.call_text (by with_reducible assumption) (by omega) ?_)) | (k_here; (with_reducible show wpAny _ _ (call (Value.ref _) _) _ _ _); (first | ((with_reducible show wpAny _ _ (call (Value.ref 353) _) _ _ _); k_dflt (first | (refine' useSg (shown_whole_tree _ _ _ ?p1) ?k1 ?k2 ?k3 ?k4 ?k5 ?kK ?kd ?ku (ha1 ?kh) ?_; walk_at "u2"; (case kh => k_mem)) | (refine' useSg (shown_dec_tree _ _ _ _ _ ?p1 ?p2 ?p3) ?k1 ?k2 ?k3 ?k4 ?k5 ?kK ?kd ?ku (ha2 ?kh ?kh2) ?_; walk_at "u2"; (case kh => k_mem); (case kh2 => k_mem); (case p2 => walk_at "up"); (case p3 => walk_at "up"))); (case p1 => walk_at "up"); (intro y9 t9 h9 tk9 hy9 F9 N9; (try (rename ∀ y : Str, sgs y = _ → NumText (sgs y) ∧ ntree (sgs y) = _ => hb9; have hb8 := hb9 _ hy9; obtain ⟨hb7, hb6⟩ := hb8)); walk_at "u3")) | ((with_reducible show wpAny _ _ (call (Value.ref 375) _) _ _ _); k_dflt (refine' useX (d_of_text _ _ _ _ _ ?p1 ?p2 ?p3 ?p4) ?k1 ?k2 ?k3 ?k4 ?k5 ?kK ?kd ?ku ?kx ?_; (case p1 => walk_at "up"); (case p2 => walk_at "up"); (case p3 => walk_at "up"); (case p4 => walk_at "up"); walk_at "u2"; (case kx => walk_at "uf")); (intro r9 v9 tl9 h9 tk9 hr9 F9 N9 l9 o9; walk_at "u3")) | ((with_reducible show wpAny _ _ (call (Value.ref 243) _) _ _ _); (rename ntree _ = Tr.dec _ _ => ht9); k_dflt (refine' useM (number_tree _ _ _ ?p1 ?p2) ?k1 ?k2 ?k3 ?k4 ?k5 ?kK ?kd ?ku ?_; (case p1 => walk_at "up"); (case p2 => walk_at "up"); walk_at "u2"); (intro r9 tl9 h9 tk9 F9 N9 l9 o9; rw [ht9] at o9; obtain ⟨D9, D8, a9, b9, c9, e9, e8, lt9⟩ := o9; subst e9; subst e8; dsimp only [List.cons_append, List.nil_append] at N9; (have l9' := fun q hq => l9 q hq (D9, _) (.head _)); (have l9b := fun q hq => l9 q hq (D8, _) (.tail _ (.head _))); clear l9; (try k_lt l9'); (try k_lt l9b); walk_at "u3")) | ((with_reducible show wpAny _ _ (call (Value.ref 243) _) _ _ _); (rename ntree _ = Tr.whole _ => ht9); k_dflt (refine' useM (number_tree _ _ _ ?p1 ?p2) ?k1 ?k2 ?k3 ?k4 ?k5 ?kK ?kd ?ku ?_; (case p1 => walk_at "up"); (case p2 => walk_at "up"); walk_at "u2"); (intro r9 tl9 h9 tk9 F9 N9 l9 o9; rw [ht9] at o9; obtain ⟨D9, a9, b9, e9, e8⟩ := o9; subst e9; subst e8; dsimp only [List.cons_append, List.nil_append] at N9; (have l9' := fun q hq => l9 q hq (D9, _) (.head _)); clear l9; (try k_lt l9'); walk_at "u3")) | ((with_reducible show wpAny _ _ (call (Value.ref 403) _) _ _ _); (rename mk _ _ _ = none => hm9); k_dflt (refine' useS (near_none _ _ _ _ _ _ () ?p1 ?p2 ?p3 ?p4 ?p5 hm9) ?k1 ?k2 ?k3 ?k4 ?k5 ?kK ?kd ?ku ?_; (case p1 => walk_at "up"); (case p2 => walk_at "up"); (case p3 => walk_at "up"); (case p4 => walk_at "up"); (case p5 => (first | decide | omega | (split <;> omega))); walk_at "u2"); (intro t9 h9 tk9 F9 N9; walk_at "u3")) | ((with_reducible show wpAny _ _ (call (Value.ref 403) _) _ _ _); (rename mk _ _ _ = some _ => hm9); k_dflt (refine' useII (near_some _ _ _ _ _ _ _ ?p1 ?p2 ?p3 ?p4 ?p5 hm9) ?k1 ?k2 ?k3 ?k4 ?k5 ?kK ?kd ?ku ?_; (case p1 => walk_at "up"); (case p2 => walk_at "up"); (case p3 => walk_at "up"); (case p4 => walk_at "up"); (case p5 => (first | decide | omega | (split <;> omega))); walk_at "u2"); (intro D9 a9 b9 h9 tk9 F9 N9 l9; (try k_lt l9); walk_at "u3")) | ((with_reducible show wpAny _ _ (call (Value.ref 417) _) _ _ _); k_dflt (first | (refine' useAB (is_back_whole _ _ _ _ ?p1 ?p2) ?k1 ?k2 ?k3 ?k4 ?k5 ?kK ?kd ?ku (ha1 ?kh) ?_; (case p2 => assumption); walk_at "u2"; (case kh => k_mem)) | (refine' useAB (is_back_dec _ _ _ _ _ _ ?p1 ?p2) ?k1 ?k2 ?k3 ?k4 ?k5 ?kK ?kd ?ku (ha2 ?kh ?kh2) ?_; (case p2 => assumption); walk_at "u2"; (case kh => k_mem); (case kh2 => k_mem))); (case p1 => assumption); (intro h9 tk9 F9 N9; walk_at "u3")) | ((with_reducible show wpAny _ _ (call (Value.ref 389) _) _ _ _); k_dflt (refine' useA (worth_dec _ _ _ _ _ _ _ _ _ _ _ ?p1 ?p2) ?k1 ?k2 ?k3 ?k4 ?k5 ?kK ?kd ?ku (ha2 ?kh ?kh2) ?kx ?_; walk_at "u2"; (case kh => k_mem); (case kh2 => k_mem); (case p1 => walk_at "up"); (case p2 => walk_at "up"); (case kx => walk_at "uf")); (intro r9 v9 tl9 h9 tk9 hr9 F9 N9 l9 o9; walk_at "u3")) | ((with_reducible show wpAny _ _ (call (Value.ref 389) _) _ _ _); k_dflt (refine' useA (worth_whole _ _ _ _ _ _ _ _ ?p1 ?p2) ?k1 ?k2 ?k3 ?k4 ?k5 ?kK ?kd ?ku (ha1 ?kh) ?kx ?_; walk_at "u2"; (case kh => k_mem); (case p1 => walk_at "up"); (case p2 => walk_at "up"); (case kx => walk_at "uf")); (intro r9 v9 tl9 h9 tk9 hr9 F9 N9 l9 o9; walk_at "u3")))) | walk_at "wk"))))
        rename Fr h8 L' _ _ => FF
        rename News h8 L' _ _ => NN
        k_dflt (refine cut_next FF (news_tail (news_tail NN)) ?sBcu ?sBre)
        case' sBcu =>
          by_cases hB : (B == Str.ofString "") = true
          · have hP : (P == Str.ofString "") = false := Bool.eq_false_iff.mpr fun q => hbp ⟨(beq_lit rfl).mp hB, (beq_lit rfl).mp q⟩
            (repeat' (first | (k_here; (with_reducible show wpAny _ _ (compareOp CmpOp.Eq (Value.ref _) (Value.str _ _)) _ _ _); (refine cmp_ofEq ?_); k_dflt (refine' SeqAt.RcAt.tuple_str _ _ ?zh ?zu _ _ _ _ ?_); (case zh => exact ⟨_, News.get (by k_asm) (by k_mem), rfl, _, rfl⟩); (case zu => ktr_units)) | (k_here; (with_reducible show wpAny _ _ (eval (Expr.Lambda _ _ _ _) _) _ _ _); k_dflt (refine' kla_eval ?d0 ?_; (case d0 => exact rfl)); k_dflt (refine' lam_any ?F ?N ?T ?C ?cd ?U ?S ?tl ?cl ?_; (case F => k_asm); (case N => k_asm); (case T => k_asm); (case cd => exact rfl); (case C => kn_code); (case U => k_updF); (case S => assumption); (case tl => first | (refine List.forall_mem_cons.mpr ⟨?ma, ?mb⟩; (case ma => k_mem); (case mb => exact (by repeat' (first | with_reducible assumption | refine sub_cons ?_)))) | exact (by repeat' (first | with_reducible assumption | refine sub_cons ?_))); (case cl => exact rfl); k_whole); intro f9 c9 oc9 vs9 t9 ct9 ps9 h9 tk9 F9 N9 d9 e9 S9 l9 l8 l7 w9; (try dsimp only at N9); (try k_lt l9); (try k_lt2 l8); (try k_lt2 l7)) | (k_here; (with_reducible show wpAny _ _ (call (Value.type "int") [Value.str _ _]) _ _ _); (refine KIN.call_text (by with_reducible assumption) (by omega) ?_)) | (k_here; (with_reducible show wpAny _ _ (call (Value.ref _) _) _ _ _); (first | ((with_reducible show wpAny _ _ (call (Value.ref 353) _) _ _ _); k_dflt (first | (refine' useSg (shown_whole_tree _ _ _ ?p1) ?k1 ?k2 ?k3 ?k4 ?k5 ?kK ?kd ?ku (ha1 ?kh) ?_; walk_at "u2"; (case kh => k_mem)) | (refine' useSg (shown_dec_tree _ _ _ _ _ ?p1 ?p2 ?p3) ?k1 ?k2 ?k3 ?k4 ?k5 ?kK ?kd ?ku (ha2 ?kh ?kh2) ?_; walk_at "u2"; (case kh => k_mem); (case kh2 => k_mem); (case p2 => walk_at "up"); (case p3 => walk_at "up"))); (case p1 => walk_at "up"); (intro y9 t9 h9 tk9 hy9 F9 N9; (try (rename ∀ y : Str, sgs y = _ → NumText (sgs y) ∧ ntree (sgs y) = _ => hb9; have hb8 := hb9 _ hy9; obtain ⟨hb7, hb6⟩ := hb8)); walk_at "u3")) | ((with_reducible show wpAny _ _ (call (Value.ref 375) _) _ _ _); k_dflt (refine' useX (d_of_text _ _ _ _ _ ?p1 ?p2 ?p3 ?p4) ?k1 ?k2 ?k3 ?k4 ?k5 ?kK ?kd ?ku ?kx ?_; (case p1 => walk_at "up"); (case p2 => walk_at "up"); (case p3 => walk_at "up"); (case p4 => walk_at "up"); walk_at "u2"; (case kx => walk_at "uf")); (intro r9 v9 tl9 h9 tk9 hr9 F9 N9 l9 o9; walk_at "u3")) | ((with_reducible show wpAny _ _ (call (Value.ref 243) _) _ _ _); (rename ntree _ = Tr.dec _ _ => ht9); k_dflt (refine' useM (number_tree _ _ _ ?p1 ?p2) ?k1 ?k2 ?k3 ?k4 ?k5 ?kK ?kd ?ku ?_; (case p1 => walk_at "up"); (case p2 => walk_at "up"); walk_at "u2"); (intro r9 tl9 h9 tk9 F9 N9 l9 o9; rw [ht9] at o9; obtain ⟨D9, D8, a9, b9, c9, e9, e8, lt9⟩ := o9; subst e9; subst e8; dsimp only [List.cons_append, List.nil_append] at N9; (have l9' := fun q hq => l9 q hq (D9, _) (.head _)); (have l9b := fun q hq => l9 q hq (D8, _) (.tail _ (.head _))); clear l9; (try k_lt l9'); (try k_lt l9b); walk_at "u3")) | ((with_reducible show wpAny _ _ (call (Value.ref 243) _) _ _ _); (rename ntree _ = Tr.whole _ => ht9); k_dflt (refine' useM (number_tree _ _ _ ?p1 ?p2) ?k1 ?k2 ?k3 ?k4 ?k5 ?kK ?kd ?ku ?_; (case p1 => walk_at "up"); (case p2 => walk_at "up"); walk_at "u2"); (intro r9 tl9 h9 tk9 F9 N9 l9 o9; rw [ht9] at o9; obtain ⟨D9, a9, b9, e9, e8⟩ := o9; subst e9; subst e8; dsimp only [List.cons_append, List.nil_append] at N9; (have l9' := fun q hq => l9 q hq (D9, _) (.head _)); clear l9; (try k_lt l9'); walk_at "u3")) | ((with_reducible show wpAny _ _ (call (Value.ref 403) _) _ _ _); (rename mk _ _ _ = none => hm9); k_dflt (refine' useS (near_none _ _ _ _ _ _ () ?p1 ?p2 ?p3 ?p4 ?p5 hm9) ?k1 ?k2 ?k3 ?k4 ?k5 ?kK ?kd ?ku ?_; (case p1 => walk_at "up"); (case p2 => walk_at "up"); (case p3 => walk_at "up"); (case p4 => walk_at "up"); (case p5 => (first | decide | omega | (split <;> omega))); walk_at "u2"); (intro t9 h9 tk9 F9 N9; walk_at "u3")) | ((with_reducible show wpAny _ _ (call (Value.ref 403) _) _ _ _); (rename mk _ _ _ = some _ => hm9); k_dflt (refine' useII (near_some _ _ _ _ _ _ _ ?p1 ?p2 ?p3 ?p4 ?p5 hm9) ?k1 ?k2 ?k3 ?k4 ?k5 ?kK ?kd ?ku ?_; (case p1 => walk_at "up"); (case p2 => walk_at "up"); (case p3 => walk_at "up"); (case p4 => walk_at "up"); (case p5 => (first | decide | omega | (split <;> omega))); walk_at "u2"); (intro D9 a9 b9 h9 tk9 F9 N9 l9; (try k_lt l9); walk_at "u3")) | ((with_reducible show wpAny _ _ (call (Value.ref 417) _) _ _ _); k_dflt (first | (refine' useAB (is_back_whole _ _ _ _ ?p1 ?p2) ?k1 ?k2 ?k3 ?k4 ?k5 ?kK ?kd ?ku (ha1 ?kh) ?_; (case p2 => assumption); walk_at "u2"; (case kh => k_mem)) | (refine' useAB (is_back_dec _ _ _ _ _ _ ?p1 ?p2) ?k1 ?k2 ?k3 ?k4 ?k5 ?kK ?kd ?ku (ha2 ?kh ?kh2) ?_; (case p2 => assumption); walk_at "u2"; (case kh => k_mem); (case kh2 => k_mem))); (case p1 => assumption); (intro h9 tk9 F9 N9; walk_at "u3")) | ((with_reducible show wpAny _ _ (call (Value.ref 389) _) _ _ _); k_dflt (refine' useA (worth_dec _ _ _ _ _ _ _ _ _ _ _ ?p1 ?p2) ?k1 ?k2 ?k3 ?k4 ?k5 ?kK ?kd ?ku (ha2 ?kh ?kh2) ?kx ?_; walk_at "u2"; (case kh => k_mem); (case kh2 => k_mem); (case p1 => walk_at "up"); (case p2 => walk_at "up"); (case kx => walk_at "uf")); (intro r9 v9 tl9 h9 tk9 hr9 F9 N9 l9 o9; walk_at "u3")) | ((with_reducible show wpAny _ _ (call (Value.ref 389) _) _ _ _); k_dflt (refine' useA (worth_whole _ _ _ _ _ _ _ _ ?p1 ?p2) ?k1 ?k2 ?k3 ?k4 ?k5 ?kK ?kd ?ku (ha1 ?kh) ?kx ?_; walk_at "u2"; (case kh => k_mem); (case p1 => walk_at "up"); (case p2 => walk_at "up"); (case kx => walk_at "uf")); (intro r9 v9 tl9 h9 tk9 hr9 F9 N9 l9 o9; walk_at "u3")))) | walk_at "wk"))
            exact CutN.mk (by with_reducible assumption) (by with_reducible assumption) (by repeat' (first | exact sub_refl _ | refine sub_cons ?_))
          · have hB' : (B == Str.ofString "") = false := Bool.eq_false_iff.mpr hB
            (repeat' (first | (k_here; (with_reducible show wpAny _ _ (compareOp CmpOp.Eq (Value.ref _) (Value.str _ _)) _ _ _); (refine cmp_ofEq ?_); k_dflt (refine' SeqAt.RcAt.tuple_str _ _ ?zh ?zu _ _ _ _ ?_); (case zh => exact ⟨_, News.get (by k_asm) (by k_mem), rfl, _, rfl⟩); (case zu => ktr_units)) | (k_here; (with_reducible show wpAny _ _ (eval (Expr.Lambda _ _ _ _) _) _ _ _); k_dflt (refine' kla_eval ?d0 ?_; (case d0 => exact rfl)); k_dflt (refine' lam_any ?F ?N ?T ?C ?cd ?U ?S ?tl ?cl ?_; (case F => k_asm); (case N => k_asm); (case T => k_asm); (case cd => exact rfl); (case C => kn_code); (case U => k_updF); (case S => assumption); (case tl => first | (refine List.forall_mem_cons.mpr ⟨?ma, ?mb⟩; (case ma => k_mem); (case mb => exact (by repeat' (first | with_reducible assumption | refine sub_cons ?_)))) | exact (by repeat' (first | with_reducible assumption | refine sub_cons ?_))); (case cl => exact rfl); k_whole); intro f9 c9 oc9 vs9 t9 ct9 ps9 h9 tk9 F9 N9 d9 e9 S9 l9 l8 l7 w9; (try dsimp only at N9); (try k_lt l9); (try k_lt2 l8); (try k_lt2 l7)) | (k_here; (with_reducible show wpAny _ _ (call (Value.type "int") [Value.str _ _]) _ _ _); (refine KIN.call_text (by with_reducible assumption) (by omega) ?_)) | (k_here; (with_reducible show wpAny _ _ (call (Value.ref _) _) _ _ _); (first | ((with_reducible show wpAny _ _ (call (Value.ref 353) _) _ _ _); k_dflt (first | (refine' useSg (shown_whole_tree _ _ _ ?p1) ?k1 ?k2 ?k3 ?k4 ?k5 ?kK ?kd ?ku (ha1 ?kh) ?_; walk_at "u2"; (case kh => k_mem)) | (refine' useSg (shown_dec_tree _ _ _ _ _ ?p1 ?p2 ?p3) ?k1 ?k2 ?k3 ?k4 ?k5 ?kK ?kd ?ku (ha2 ?kh ?kh2) ?_; walk_at "u2"; (case kh => k_mem); (case kh2 => k_mem); (case p2 => walk_at "up"); (case p3 => walk_at "up"))); (case p1 => walk_at "up"); (intro y9 t9 h9 tk9 hy9 F9 N9; (try (rename ∀ y : Str, sgs y = _ → NumText (sgs y) ∧ ntree (sgs y) = _ => hb9; have hb8 := hb9 _ hy9; obtain ⟨hb7, hb6⟩ := hb8)); walk_at "u3")) | ((with_reducible show wpAny _ _ (call (Value.ref 375) _) _ _ _); k_dflt (refine' useX (d_of_text _ _ _ _ _ ?p1 ?p2 ?p3 ?p4) ?k1 ?k2 ?k3 ?k4 ?k5 ?kK ?kd ?ku ?kx ?_; (case p1 => walk_at "up"); (case p2 => walk_at "up"); (case p3 => walk_at "up"); (case p4 => walk_at "up"); walk_at "u2"; (case kx => walk_at "uf")); (intro r9 v9 tl9 h9 tk9 hr9 F9 N9 l9 o9; walk_at "u3")) | ((with_reducible show wpAny _ _ (call (Value.ref 243) _) _ _ _); (rename ntree _ = Tr.dec _ _ => ht9); k_dflt (refine' useM (number_tree _ _ _ ?p1 ?p2) ?k1 ?k2 ?k3 ?k4 ?k5 ?kK ?kd ?ku ?_; (case p1 => walk_at "up"); (case p2 => walk_at "up"); walk_at "u2"); (intro r9 tl9 h9 tk9 F9 N9 l9 o9; rw [ht9] at o9; obtain ⟨D9, D8, a9, b9, c9, e9, e8, lt9⟩ := o9; subst e9; subst e8; dsimp only [List.cons_append, List.nil_append] at N9; (have l9' := fun q hq => l9 q hq (D9, _) (.head _)); (have l9b := fun q hq => l9 q hq (D8, _) (.tail _ (.head _))); clear l9; (try k_lt l9'); (try k_lt l9b); walk_at "u3")) | ((with_reducible show wpAny _ _ (call (Value.ref 243) _) _ _ _); (rename ntree _ = Tr.whole _ => ht9); k_dflt (refine' useM (number_tree _ _ _ ?p1 ?p2) ?k1 ?k2 ?k3 ?k4 ?k5 ?kK ?kd ?ku ?_; (case p1 => walk_at "up"); (case p2 => walk_at "up"); walk_at "u2"); (intro r9 tl9 h9 tk9 F9 N9 l9 o9; rw [ht9] at o9; obtain ⟨D9, a9, b9, e9, e8⟩ := o9; subst e9; subst e8; dsimp only [List.cons_append, List.nil_append] at N9; (have l9' := fun q hq => l9 q hq (D9, _) (.head _)); clear l9; (try k_lt l9'); walk_at "u3")) | ((with_reducible show wpAny _ _ (call (Value.ref 403) _) _ _ _); (rename mk _ _ _ = none => hm9); k_dflt (refine' useS (near_none _ _ _ _ _ _ () ?p1 ?p2 ?p3 ?p4 ?p5 hm9) ?k1 ?k2 ?k3 ?k4 ?k5 ?kK ?kd ?ku ?_; (case p1 => walk_at "up"); (case p2 => walk_at "up"); (case p3 => walk_at "up"); (case p4 => walk_at "up"); (case p5 => (first | decide | omega | (split <;> omega))); walk_at "u2"); (intro t9 h9 tk9 F9 N9; walk_at "u3")) | ((with_reducible show wpAny _ _ (call (Value.ref 403) _) _ _ _); (rename mk _ _ _ = some _ => hm9); k_dflt (refine' useII (near_some _ _ _ _ _ _ _ ?p1 ?p2 ?p3 ?p4 ?p5 hm9) ?k1 ?k2 ?k3 ?k4 ?k5 ?kK ?kd ?ku ?_; (case p1 => walk_at "up"); (case p2 => walk_at "up"); (case p3 => walk_at "up"); (case p4 => walk_at "up"); (case p5 => (first | decide | omega | (split <;> omega))); walk_at "u2"); (intro D9 a9 b9 h9 tk9 F9 N9 l9; (try k_lt l9); walk_at "u3")) | ((with_reducible show wpAny _ _ (call (Value.ref 417) _) _ _ _); k_dflt (first | (refine' useAB (is_back_whole _ _ _ _ ?p1 ?p2) ?k1 ?k2 ?k3 ?k4 ?k5 ?kK ?kd ?ku (ha1 ?kh) ?_; (case p2 => assumption); walk_at "u2"; (case kh => k_mem)) | (refine' useAB (is_back_dec _ _ _ _ _ _ ?p1 ?p2) ?k1 ?k2 ?k3 ?k4 ?k5 ?kK ?kd ?ku (ha2 ?kh ?kh2) ?_; (case p2 => assumption); walk_at "u2"; (case kh => k_mem); (case kh2 => k_mem))); (case p1 => assumption); (intro h9 tk9 F9 N9; walk_at "u3")) | ((with_reducible show wpAny _ _ (call (Value.ref 389) _) _ _ _); k_dflt (refine' useA (worth_dec _ _ _ _ _ _ _ _ _ _ _ ?p1 ?p2) ?k1 ?k2 ?k3 ?k4 ?k5 ?kK ?kd ?ku (ha2 ?kh ?kh2) ?kx ?_; walk_at "u2"; (case kh => k_mem); (case kh2 => k_mem); (case p1 => walk_at "up"); (case p2 => walk_at "up"); (case kx => walk_at "uf")); (intro r9 v9 tl9 h9 tk9 hr9 F9 N9 l9 o9; walk_at "u3")) | ((with_reducible show wpAny _ _ (call (Value.ref 389) _) _ _ _); k_dflt (refine' useA (worth_whole _ _ _ _ _ _ _ _ ?p1 ?p2) ?k1 ?k2 ?k3 ?k4 ?k5 ?kK ?kd ?ku (ha1 ?kh) ?kx ?_; walk_at "u2"; (case kh => k_mem); (case p1 => walk_at "up"); (case p2 => walk_at "up"); (case kx => walk_at "uf")); (intro r9 v9 tl9 h9 tk9 hr9 F9 N9 l9 o9; walk_at "u3")))) | walk_at "wk"))
            exact CutN.mk (by with_reducible assumption) (by with_reducible assumption) (by repeat' (first | exact sub_refl _ | refine sub_cons ?_))
        case' sBre =>
          intro h9 tk9 F9 N9
          clear FF NN
          (try dsimp only)
          (repeat' (first | ((fail_if_success (with_reducible show wpAny _ _ (call (Value.ref 410) _) _ _ _)); (first | (k_here; (with_reducible show wpAny _ _ (compareOp CmpOp.Eq (Value.ref _) (Value.str _ _)) _ _ _); (refine cmp_ofEq ?_); k_dflt (refine' SeqAt.RcAt.tuple_str _ _ ?zh ?zu _ _ _ _ ?_); (case zh => exact ⟨_, News.get (by k_asm) (by k_mem), rfl, _, rfl⟩); (case zu => ktr_units)) | (k_here; (with_reducible show wpAny _ _ (eval (Expr.Lambda _ _ _ _) _) _ _ _); k_dflt (refine' kla_eval ?d0 ?_; (case d0 => exact rfl)); k_dflt (refine' lam_any ?F ?N ?T ?C ?cd ?U ?S ?tl ?cl ?_; (case F => k_asm); (case N => k_asm); (case T => k_asm); (case cd => exact rfl); (case C => kn_code); (case U => k_updF); (case S => assumption); (case tl => first | (refine List.forall_mem_cons.mpr ⟨?ma, ?mb⟩; (case ma => k_mem); (case mb => exact (by repeat' (first | with_reducible assumption | refine sub_cons ?_)))) | exact (by repeat' (first | with_reducible assumption | refine sub_cons ?_))); (case cl => exact rfl); k_whole); intro f9 c9 oc9 vs9 t9 ct9 ps9 h9 tk9 F9 N9 d9 e9 S9 l9 l8 l7 w9; (try dsimp only at N9); (try k_lt l9); (try k_lt2 l8); (try k_lt2 l7)) | (k_here; (with_reducible show wpAny _ _ (call (Value.type "int") [Value.str _ _]) _ _ _); (refine KIN.call_text (by with_reducible assumption) (by omega) ?_)) | (k_here; (with_reducible show wpAny _ _ (call (Value.ref _) _) _ _ _); (first | ((with_reducible show wpAny _ _ (call (Value.ref 353) _) _ _ _); k_dflt (first | (refine' useSg (shown_whole_tree _ _ _ ?p1) ?k1 ?k2 ?k3 ?k4 ?k5 ?kK ?kd ?ku (ha1 ?kh) ?_; walk_at "u2"; (case kh => k_mem)) | (refine' useSg (shown_dec_tree _ _ _ _ _ ?p1 ?p2 ?p3) ?k1 ?k2 ?k3 ?k4 ?k5 ?kK ?kd ?ku (ha2 ?kh ?kh2) ?_; walk_at "u2"; (case kh => k_mem); (case kh2 => k_mem); (case p2 => walk_at "up"); (case p3 => walk_at "up"))); (case p1 => walk_at "up"); (intro y9 t9 h9 tk9 hy9 F9 N9; (try (rename ∀ y : Str, sgs y = _ → NumText (sgs y) ∧ ntree (sgs y) = _ => hb9; have hb8 := hb9 _ hy9; obtain ⟨hb7, hb6⟩ := hb8)); walk_at "u3")) | ((with_reducible show wpAny _ _ (call (Value.ref 375) _) _ _ _); k_dflt (refine' useX (d_of_text _ _ _ _ _ ?p1 ?p2 ?p3 ?p4) ?k1 ?k2 ?k3 ?k4 ?k5 ?kK ?kd ?ku ?kx ?_; (case p1 => walk_at "up"); (case p2 => walk_at "up"); (case p3 => walk_at "up"); (case p4 => walk_at "up"); walk_at "u2"; (case kx => walk_at "uf")); (intro r9 v9 tl9 h9 tk9 hr9 F9 N9 l9 o9; walk_at "u3")) | ((with_reducible show wpAny _ _ (call (Value.ref 243) _) _ _ _); (rename ntree _ = Tr.dec _ _ => ht9); k_dflt (refine' useM (number_tree _ _ _ ?p1 ?p2) ?k1 ?k2 ?k3 ?k4 ?k5 ?kK ?kd ?ku ?_; (case p1 => walk_at "up"); (case p2 => walk_at "up"); walk_at "u2"); (intro r9 tl9 h9 tk9 F9 N9 l9 o9; rw [ht9] at o9; obtain ⟨D9, D8, a9, b9, c9, e9, e8, lt9⟩ := o9; subst e9; subst e8; dsimp only [List.cons_append, List.nil_append] at N9; (have l9' := fun q hq => l9 q hq (D9, _) (.head _)); (have l9b := fun q hq => l9 q hq (D8, _) (.tail _ (.head _))); clear l9; (try k_lt l9'); (try k_lt l9b); walk_at "u3")) | ((with_reducible show wpAny _ _ (call (Value.ref 243) _) _ _ _); (rename ntree _ = Tr.whole _ => ht9); k_dflt (refine' useM (number_tree _ _ _ ?p1 ?p2) ?k1 ?k2 ?k3 ?k4 ?k5 ?kK ?kd ?ku ?_; (case p1 => walk_at "up"); (case p2 => walk_at "up"); walk_at "u2"); (intro r9 tl9 h9 tk9 F9 N9 l9 o9; rw [ht9] at o9; obtain ⟨D9, a9, b9, e9, e8⟩ := o9; subst e9; subst e8; dsimp only [List.cons_append, List.nil_append] at N9; (have l9' := fun q hq => l9 q hq (D9, _) (.head _)); clear l9; (try k_lt l9'); walk_at "u3")) | ((with_reducible show wpAny _ _ (call (Value.ref 403) _) _ _ _); (rename mk _ _ _ = none => hm9); k_dflt (refine' useS (near_none _ _ _ _ _ _ () ?p1 ?p2 ?p3 ?p4 ?p5 hm9) ?k1 ?k2 ?k3 ?k4 ?k5 ?kK ?kd ?ku ?_; (case p1 => walk_at "up"); (case p2 => walk_at "up"); (case p3 => walk_at "up"); (case p4 => walk_at "up"); (case p5 => (first | decide | omega | (split <;> omega))); walk_at "u2"); (intro t9 h9 tk9 F9 N9; walk_at "u3")) | ((with_reducible show wpAny _ _ (call (Value.ref 403) _) _ _ _); (rename mk _ _ _ = some _ => hm9); k_dflt (refine' useII (near_some _ _ _ _ _ _ _ ?p1 ?p2 ?p3 ?p4 ?p5 hm9) ?k1 ?k2 ?k3 ?k4 ?k5 ?kK ?kd ?ku ?_; (case p1 => walk_at "up"); (case p2 => walk_at "up"); (case p3 => walk_at "up"); (case p4 => walk_at "up"); (case p5 => (first | decide | omega | (split <;> omega))); walk_at "u2"); (intro D9 a9 b9 h9 tk9 F9 N9 l9; (try k_lt l9); walk_at "u3")) | ((with_reducible show wpAny _ _ (call (Value.ref 417) _) _ _ _); k_dflt (first | (refine' useAB (is_back_whole _ _ _ _ ?p1 ?p2) ?k1 ?k2 ?k3 ?k4 ?k5 ?kK ?kd ?ku (ha1 ?kh) ?_; (case p2 => assumption); walk_at "u2"; (case kh => k_mem)) | (refine' useAB (is_back_dec _ _ _ _ _ _ ?p1 ?p2) ?k1 ?k2 ?k3 ?k4 ?k5 ?kK ?kd ?ku (ha2 ?kh ?kh2) ?_; (case p2 => assumption); walk_at "u2"; (case kh => k_mem); (case kh2 => k_mem))); (case p1 => assumption); (intro h9 tk9 F9 N9; walk_at "u3")) | ((with_reducible show wpAny _ _ (call (Value.ref 389) _) _ _ _); k_dflt (refine' useA (worth_dec _ _ _ _ _ _ _ _ _ _ _ ?p1 ?p2) ?k1 ?k2 ?k3 ?k4 ?k5 ?kK ?kd ?ku (ha2 ?kh ?kh2) ?kx ?_; walk_at "u2"; (case kh => k_mem); (case kh2 => k_mem); (case p1 => walk_at "up"); (case p2 => walk_at "up"); (case kx => walk_at "uf")); (intro r9 v9 tl9 h9 tk9 hr9 F9 N9 l9 o9; walk_at "u3")) | ((with_reducible show wpAny _ _ (call (Value.ref 389) _) _ _ _); k_dflt (refine' useA (worth_whole _ _ _ _ _ _ _ _ ?p1 ?p2) ?k1 ?k2 ?k3 ?k4 ?k5 ?kK ?kd ?ku (ha1 ?kh) ?kx ?_; walk_at "u2"; (case kh => k_mem); (case p1 => walk_at "up"); (case p2 => walk_at "up"); (case kx => walk_at "uf")); (intro r9 v9 tl9 h9 tk9 hr9 F9 N9 l9 o9; walk_at "u3")))) | walk_at "wk"))))
          k_dflt (refine' useT ?sbk4 ?sbk2 ?sbk1 ?sbk3 ?sbk5 XB TB ?sbk6 ?sbkK ?sbkd ?sbku (law_heard w _ 20 340 _ _ _ _ _ (told (numN (sgs (F ++ B ++ P))) ((powerAt (sgs (F ++ B ++ P)) (numA (sgs (F ++ B ++ P)))).1 - (numP (sgs (F ++ B ++ P)) : Nat)) dg) (fun r => OutDT r.1 r.2 ((powerAt (sgs (F ++ B ++ P)) (numA (sgs (F ++ B ++ P)))).2 : Nat)) ?sbC) ?sbkq)
          (case sbk4 => k_asm)
          (case sbk2 => k_asm)
          (case sbk1 => k_asm)
          (case sbk3 => k_asm)
          (case sbk5 => k_asm)
          (case sbk6 => k_asm)
          (case sbkK => exact rfl)
          (case sbkd => ktr_room)
          (case sbku => ktr_units)
          case' sbC =>
            unfold MeetsA
            k_fill
            intro p2 loose2 mean2 mg2 mb2 dp2 un2 gd2 cn2 cs2 a2 ccd2 cl2 outer2 A2 base2 g2 L2 m2 news2 s2 Q2 E2 hrw2 B2 F2 X2 N2 T2 hk2 hd2 hu2 hret2 hexc2
            clear hrw2
            dsimp only [List.cons_append, List.nil_append] at N2 hret2 hexc2
            walk_at "call lambda"
            (repeat' (first | (k_here; (with_reducible show wpAny _ _ (compareOp CmpOp.Eq (Value.ref _) (Value.str _ _)) _ _ _); (refine cmp_ofEq ?_); k_dflt (refine' SeqAt.RcAt.tuple_str _ _ ?zh ?zu _ _ _ _ ?_); (case zh => exact ⟨_, News.get (by k_asm) (by k_mem), rfl, _, rfl⟩); (case zu => ktr_units)) | (k_here; (with_reducible show wpAny _ _ (eval (Expr.Lambda _ _ _ _) _) _ _ _); k_dflt (refine' kla_eval ?d0 ?_; (case d0 => exact rfl)); k_dflt (refine' lam_any ?F ?N ?T ?C ?cd ?U ?S ?tl ?cl ?_; (case F => k_asm); (case N => k_asm); (case T => k_asm); (case cd => exact rfl); (case C => kn_code); (case U => k_updF); (case S => assumption); (case tl => first | (refine List.forall_mem_cons.mpr ⟨?ma, ?mb⟩; (case ma => k_mem); (case mb => exact (by repeat' (first | with_reducible assumption | refine sub_cons ?_)))) | exact (by repeat' (first | with_reducible assumption | refine sub_cons ?_))); (case cl => exact rfl); k_whole); intro f9 c9 oc9 vs9 t9 ct9 ps9 h9 tk9 F9 N9 d9 e9 S9 l9 l8 l7 w9; (try dsimp only at N9); (try k_lt l9); (try k_lt2 l8); (try k_lt2 l7)) | (k_here; (with_reducible show wpAny _ _ (call (Value.type "int") [Value.str _ _]) _ _ _); (refine KIN.call_text (by with_reducible assumption) (by omega) ?_)) | (k_here; (with_reducible show wpAny _ _ (call (Value.ref _) _) _ _ _); (first | ((with_reducible show wpAny _ _ (call (Value.ref 353) _) _ _ _); k_dflt (first | (refine' useSg (shown_whole_tree _ _ _ ?p1) ?k1 ?k2 ?k3 ?k4 ?k5 ?kK ?kd ?ku (ha1 ?kh) ?_; walk_at "u2"; (case kh => k_mem)) | (refine' useSg (shown_dec_tree _ _ _ _ _ ?p1 ?p2 ?p3) ?k1 ?k2 ?k3 ?k4 ?k5 ?kK ?kd ?ku (ha2 ?kh ?kh2) ?_; walk_at "u2"; (case kh => k_mem); (case kh2 => k_mem); (case p2 => walk_at "up"); (case p3 => walk_at "up"))); (case p1 => walk_at "up"); (intro y9 t9 h9 tk9 hy9 F9 N9; (try (rename ∀ y : Str, sgs y = _ → NumText (sgs y) ∧ ntree (sgs y) = _ => hb9; have hb8 := hb9 _ hy9; obtain ⟨hb7, hb6⟩ := hb8)); walk_at "u3")) | ((with_reducible show wpAny _ _ (call (Value.ref 375) _) _ _ _); k_dflt (refine' useX (d_of_text _ _ _ _ _ ?p1 ?p2 ?p3 ?p4) ?k1 ?k2 ?k3 ?k4 ?k5 ?kK ?kd ?ku ?kx ?_; (case p1 => walk_at "up"); (case p2 => walk_at "up"); (case p3 => walk_at "up"); (case p4 => walk_at "up"); walk_at "u2"; (case kx => walk_at "uf")); (intro r9 v9 tl9 h9 tk9 hr9 F9 N9 l9 o9; walk_at "u3")) | ((with_reducible show wpAny _ _ (call (Value.ref 243) _) _ _ _); (rename ntree _ = Tr.dec _ _ => ht9); k_dflt (refine' useM (number_tree _ _ _ ?p1 ?p2) ?k1 ?k2 ?k3 ?k4 ?k5 ?kK ?kd ?ku ?_; (case p1 => walk_at "up"); (case p2 => walk_at "up"); walk_at "u2"); (intro r9 tl9 h9 tk9 F9 N9 l9 o9; rw [ht9] at o9; obtain ⟨D9, D8, a9, b9, c9, e9, e8, lt9⟩ := o9; subst e9; subst e8; dsimp only [List.cons_append, List.nil_append] at N9; (have l9' := fun q hq => l9 q hq (D9, _) (.head _)); (have l9b := fun q hq => l9 q hq (D8, _) (.tail _ (.head _))); clear l9; (try k_lt l9'); (try k_lt l9b); walk_at "u3")) | ((with_reducible show wpAny _ _ (call (Value.ref 243) _) _ _ _); (rename ntree _ = Tr.whole _ => ht9); k_dflt (refine' useM (number_tree _ _ _ ?p1 ?p2) ?k1 ?k2 ?k3 ?k4 ?k5 ?kK ?kd ?ku ?_; (case p1 => walk_at "up"); (case p2 => walk_at "up"); walk_at "u2"); (intro r9 tl9 h9 tk9 F9 N9 l9 o9; rw [ht9] at o9; obtain ⟨D9, a9, b9, e9, e8⟩ := o9; subst e9; subst e8; dsimp only [List.cons_append, List.nil_append] at N9; (have l9' := fun q hq => l9 q hq (D9, _) (.head _)); clear l9; (try k_lt l9'); walk_at "u3")) | ((with_reducible show wpAny _ _ (call (Value.ref 403) _) _ _ _); (rename mk _ _ _ = none => hm9); k_dflt (refine' useS (near_none _ _ _ _ _ _ () ?p1 ?p2 ?p3 ?p4 ?p5 hm9) ?k1 ?k2 ?k3 ?k4 ?k5 ?kK ?kd ?ku ?_; (case p1 => walk_at "up"); (case p2 => walk_at "up"); (case p3 => walk_at "up"); (case p4 => walk_at "up"); (case p5 => (first | decide | omega | (split <;> omega))); walk_at "u2"); (intro t9 h9 tk9 F9 N9; walk_at "u3")) | ((with_reducible show wpAny _ _ (call (Value.ref 403) _) _ _ _); (rename mk _ _ _ = some _ => hm9); k_dflt (refine' useII (near_some _ _ _ _ _ _ _ ?p1 ?p2 ?p3 ?p4 ?p5 hm9) ?k1 ?k2 ?k3 ?k4 ?k5 ?kK ?kd ?ku ?_; (case p1 => walk_at "up"); (case p2 => walk_at "up"); (case p3 => walk_at "up"); (case p4 => walk_at "up"); (case p5 => (first | decide | omega | (split <;> omega))); walk_at "u2"); (intro D9 a9 b9 h9 tk9 F9 N9 l9; (try k_lt l9); walk_at "u3")) | ((with_reducible show wpAny _ _ (call (Value.ref 417) _) _ _ _); k_dflt (first | (refine' useAB (is_back_whole _ _ _ _ ?p1 ?p2) ?k1 ?k2 ?k3 ?k4 ?k5 ?kK ?kd ?ku (ha1 ?kh) ?_; (case p2 => assumption); walk_at "u2"; (case kh => k_mem)) | (refine' useAB (is_back_dec _ _ _ _ _ _ ?p1 ?p2) ?k1 ?k2 ?k3 ?k4 ?k5 ?kK ?kd ?ku (ha2 ?kh ?kh2) ?_; (case p2 => assumption); walk_at "u2"; (case kh => k_mem); (case kh2 => k_mem))); (case p1 => assumption); (intro h9 tk9 F9 N9; walk_at "u3")) | ((with_reducible show wpAny _ _ (call (Value.ref 389) _) _ _ _); k_dflt (refine' useA (worth_dec _ _ _ _ _ _ _ _ _ _ _ ?p1 ?p2) ?k1 ?k2 ?k3 ?k4 ?k5 ?kK ?kd ?ku (ha2 ?kh ?kh2) ?kx ?_; walk_at "u2"; (case kh => k_mem); (case kh2 => k_mem); (case p1 => walk_at "up"); (case p2 => walk_at "up"); (case kx => walk_at "uf")); (intro r9 v9 tl9 h9 tk9 hr9 F9 N9 l9 o9; walk_at "u3")) | ((with_reducible show wpAny _ _ (call (Value.ref 389) _) _ _ _); k_dflt (refine' useA (worth_whole _ _ _ _ _ _ _ _ ?p1 ?p2) ?k1 ?k2 ?k3 ?k4 ?k5 ?kK ?kd ?ku (ha1 ?kh) ?kx ?_; walk_at "u2"; (case kh => k_mem); (case p1 => walk_at "up"); (case p2 => walk_at "up"); (case kx => walk_at "uf")); (intro r9 v9 tl9 h9 tk9 hr9 F9 N9 l9 o9; walk_at "u3")))) | walk_at "wk"))
            exact hret2 _ (by assumption) _ _ _ _ (by k_asm) (by k_asm) (by assumption) (by assumption)
          case' sbkq =>
            rename News _ _ _ _ => N6
            intro r7 tl7 h7 h7' tk7 T7 F7 N7 l7 B7 X7 P7 D7 o7
            rw [DD.xt, show mk n e1 dg = some (q1, q2) by assumption] at o7
            obtain ⟨D5, D6, a5, tl5, e5, e6, o6⟩ := o7
            subst e5
            subst e6
            clear B8 X8 P8 D8
            (try dsimp only [List.cons_append, List.nil_append] at N7)
            replace N7 := news_rot N7
            (try dsimp only [List.cons_append, List.nil_append] at N7)
            try k_lift B7
            (repeat' (first | ((fail_if_success (with_reducible show wpAny _ _ (exec (Stmt.If (Expr.Compare _ _ _ _) _ _ _) _) _ _ _)); (first | (k_here; (with_reducible show wpAny _ _ (compareOp CmpOp.Eq (Value.ref _) (Value.str _ _)) _ _ _); (refine cmp_ofEq ?_); k_dflt (refine' SeqAt.RcAt.tuple_str _ _ ?zh ?zu _ _ _ _ ?_); (case zh => exact ⟨_, News.get (by k_asm) (by k_mem), rfl, _, rfl⟩); (case zu => ktr_units)) | (k_here; (with_reducible show wpAny _ _ (eval (Expr.Lambda _ _ _ _) _) _ _ _); k_dflt (refine' kla_eval ?d0 ?_; (case d0 => exact rfl)); k_dflt (refine' lam_any ?F ?N ?T ?C ?cd ?U ?S ?tl ?cl ?_; (case F => k_asm); (case N => k_asm); (case T => k_asm); (case cd => exact rfl); (case C => kn_code); (case U => k_updF); (case S => assumption); (case tl => first | (refine List.forall_mem_cons.mpr ⟨?ma, ?mb⟩; (case ma => k_mem); (case mb => exact (by repeat' (first | with_reducible assumption | refine sub_cons ?_)))) | exact (by repeat' (first | with_reducible assumption | refine sub_cons ?_))); (case cl => exact rfl); k_whole); intro f9 c9 oc9 vs9 t9 ct9 ps9 h9 tk9 F9 N9 d9 e9 S9 l9 l8 l7 w9; (try dsimp only at N9); (try k_lt l9); (try k_lt2 l8); (try k_lt2 l7)) | (k_here; (with_reducible show wpAny _ _ (call (Value.type "int") [Value.str _ _]) _ _ _); (refine KIN.call_text (by with_reducible assumption) (by omega) ?_)) | (k_here; (with_reducible show wpAny _ _ (call (Value.ref _) _) _ _ _); (first | ((with_reducible show wpAny _ _ (call (Value.ref 353) _) _ _ _); k_dflt (first | (refine' useSg (shown_whole_tree _ _ _ ?p1) ?k1 ?k2 ?k3 ?k4 ?k5 ?kK ?kd ?ku (ha1 ?kh) ?_; walk_at "u2"; (case kh => k_mem)) | (refine' useSg (shown_dec_tree _ _ _ _ _ ?p1 ?p2 ?p3) ?k1 ?k2 ?k3 ?k4 ?k5 ?kK ?kd ?ku (ha2 ?kh ?kh2) ?_; walk_at "u2"; (case kh => k_mem); (case kh2 => k_mem); (case p2 => walk_at "up"); (case p3 => walk_at "up"))); (case p1 => walk_at "up"); (intro y9 t9 h9 tk9 hy9 F9 N9; (try (rename ∀ y : Str, sgs y = _ → NumText (sgs y) ∧ ntree (sgs y) = _ => hb9; have hb8 := hb9 _ hy9; obtain ⟨hb7, hb6⟩ := hb8)); walk_at "u3")) | ((with_reducible show wpAny _ _ (call (Value.ref 375) _) _ _ _); k_dflt (refine' useX (d_of_text _ _ _ _ _ ?p1 ?p2 ?p3 ?p4) ?k1 ?k2 ?k3 ?k4 ?k5 ?kK ?kd ?ku ?kx ?_; (case p1 => walk_at "up"); (case p2 => walk_at "up"); (case p3 => walk_at "up"); (case p4 => walk_at "up"); walk_at "u2"; (case kx => walk_at "uf")); (intro r9 v9 tl9 h9 tk9 hr9 F9 N9 l9 o9; walk_at "u3")) | ((with_reducible show wpAny _ _ (call (Value.ref 243) _) _ _ _); (rename ntree _ = Tr.dec _ _ => ht9); k_dflt (refine' useM (number_tree _ _ _ ?p1 ?p2) ?k1 ?k2 ?k3 ?k4 ?k5 ?kK ?kd ?ku ?_; (case p1 => walk_at "up"); (case p2 => walk_at "up"); walk_at "u2"); (intro r9 tl9 h9 tk9 F9 N9 l9 o9; rw [ht9] at o9; obtain ⟨D9, D8, a9, b9, c9, e9, e8, lt9⟩ := o9; subst e9; subst e8; dsimp only [List.cons_append, List.nil_append] at N9; (have l9' := fun q hq => l9 q hq (D9, _) (.head _)); (have l9b := fun q hq => l9 q hq (D8, _) (.tail _ (.head _))); clear l9; (try k_lt l9'); (try k_lt l9b); walk_at "u3")) | ((with_reducible show wpAny _ _ (call (Value.ref 243) _) _ _ _); (rename ntree _ = Tr.whole _ => ht9); k_dflt (refine' useM (number_tree _ _ _ ?p1 ?p2) ?k1 ?k2 ?k3 ?k4 ?k5 ?kK ?kd ?ku ?_; (case p1 => walk_at "up"); (case p2 => walk_at "up"); walk_at "u2"); (intro r9 tl9 h9 tk9 F9 N9 l9 o9; rw [ht9] at o9; obtain ⟨D9, a9, b9, e9, e8⟩ := o9; subst e9; subst e8; dsimp only [List.cons_append, List.nil_append] at N9; (have l9' := fun q hq => l9 q hq (D9, _) (.head _)); clear l9; (try k_lt l9'); walk_at "u3")) | ((with_reducible show wpAny _ _ (call (Value.ref 403) _) _ _ _); (rename mk _ _ _ = none => hm9); k_dflt (refine' useS (near_none _ _ _ _ _ _ () ?p1 ?p2 ?p3 ?p4 ?p5 hm9) ?k1 ?k2 ?k3 ?k4 ?k5 ?kK ?kd ?ku ?_; (case p1 => walk_at "up"); (case p2 => walk_at "up"); (case p3 => walk_at "up"); (case p4 => walk_at "up"); (case p5 => (first | decide | omega | (split <;> omega))); walk_at "u2"); (intro t9 h9 tk9 F9 N9; walk_at "u3")) | ((with_reducible show wpAny _ _ (call (Value.ref 403) _) _ _ _); (rename mk _ _ _ = some _ => hm9); k_dflt (refine' useII (near_some _ _ _ _ _ _ _ ?p1 ?p2 ?p3 ?p4 ?p5 hm9) ?k1 ?k2 ?k3 ?k4 ?k5 ?kK ?kd ?ku ?_; (case p1 => walk_at "up"); (case p2 => walk_at "up"); (case p3 => walk_at "up"); (case p4 => walk_at "up"); (case p5 => (first | decide | omega | (split <;> omega))); walk_at "u2"); (intro D9 a9 b9 h9 tk9 F9 N9 l9; (try k_lt l9); walk_at "u3")) | ((with_reducible show wpAny _ _ (call (Value.ref 417) _) _ _ _); k_dflt (first | (refine' useAB (is_back_whole _ _ _ _ ?p1 ?p2) ?k1 ?k2 ?k3 ?k4 ?k5 ?kK ?kd ?ku (ha1 ?kh) ?_; (case p2 => assumption); walk_at "u2"; (case kh => k_mem)) | (refine' useAB (is_back_dec _ _ _ _ _ _ ?p1 ?p2) ?k1 ?k2 ?k3 ?k4 ?k5 ?kK ?kd ?ku (ha2 ?kh ?kh2) ?_; (case p2 => assumption); walk_at "u2"; (case kh => k_mem); (case kh2 => k_mem))); (case p1 => assumption); (intro h9 tk9 F9 N9; walk_at "u3")) | ((with_reducible show wpAny _ _ (call (Value.ref 389) _) _ _ _); k_dflt (refine' useA (worth_dec _ _ _ _ _ _ _ _ _ _ _ ?p1 ?p2) ?k1 ?k2 ?k3 ?k4 ?k5 ?kK ?kd ?ku (ha2 ?kh ?kh2) ?kx ?_; walk_at "u2"; (case kh => k_mem); (case kh2 => k_mem); (case p1 => walk_at "up"); (case p2 => walk_at "up"); (case kx => walk_at "uf")); (intro r9 v9 tl9 h9 tk9 hr9 F9 N9 l9 o9; walk_at "u3")) | ((with_reducible show wpAny _ _ (call (Value.ref 389) _) _ _ _); k_dflt (refine' useA (worth_whole _ _ _ _ _ _ _ _ ?p1 ?p2) ?k1 ?k2 ?k3 ?k4 ?k5 ?kK ?kd ?ku (ha1 ?kh) ?kx ?_; walk_at "u2"; (case kh => k_mem); (case p1 => walk_at "up"); (case p2 => walk_at "up"); (case kx => walk_at "uf")); (intro r9 v9 tl9 h9 tk9 hr9 F9 N9 l9 o9; walk_at "u3")))) | walk_at "wk"))))
            rename Fr h7 L' _ _ => FF
            rename News h7 L' _ _ => NN
            k_dflt (refine cut_next FF (news_tail (news_part N6 NN rfl)) ?dscu ?dsre)
            case' dscu =>
              replace NN := news_unrot N6 NN rfl
              (try dsimp only [List.cons_append, List.nil_append] at NN)
              rcases o6 with ⟨D9, a9, b9, e9, e8⟩ | ⟨e9, e8, hx9, hy9⟩
              · cases e8
                subst e9
                (try dsimp only [List.cons_append, List.nil_append] at NN)
                have l7a := fun q hq => l7 q hq (D5, _) (.head _)
                have l7b := fun q hq => l7 q hq (D6, _) (.tail _ (.head _))
                k_lt l7a
                k_lt l7b
                (repeat' (first | (k_here; (with_reducible show wpAny _ _ (compareOp CmpOp.Eq (Value.ref _) (Value.str _ _)) _ _ _); (refine cmp_ofEq ?_); k_dflt (refine' SeqAt.RcAt.tuple_str _ _ ?zh ?zu _ _ _ _ ?_); (case zh => exact ⟨_, News.get (by k_asm) (by k_mem), rfl, _, rfl⟩); (case zu => ktr_units)) | (k_here; (with_reducible show wpAny _ _ (eval (Expr.Lambda _ _ _ _) _) _ _ _); k_dflt (refine' kla_eval ?d0 ?_; (case d0 => exact rfl)); k_dflt (refine' lam_any ?F ?N ?T ?C ?cd ?U ?S ?tl ?cl ?_; (case F => k_asm); (case N => k_asm); (case T => k_asm); (case cd => exact rfl); (case C => kn_code); (case U => k_updF); (case S => assumption); (case tl => first | (refine List.forall_mem_cons.mpr ⟨?ma, ?mb⟩; (case ma => k_mem); (case mb => exact (by repeat' (first | with_reducible assumption | refine sub_cons ?_)))) | exact (by repeat' (first | with_reducible assumption | refine sub_cons ?_))); (case cl => exact rfl); k_whole); intro f9 c9 oc9 vs9 t9 ct9 ps9 h9 tk9 F9 N9 d9 e9 S9 l9 l8 l7 w9; (try dsimp only at N9); (try k_lt l9); (try k_lt2 l8); (try k_lt2 l7)) | (k_here; (with_reducible show wpAny _ _ (call (Value.type "int") [Value.str _ _]) _ _ _); (refine KIN.call_text (by with_reducible assumption) (by omega) ?_)) | (k_here; (with_reducible show wpAny _ _ (call (Value.ref _) _) _ _ _); (first | ((with_reducible show wpAny _ _ (call (Value.ref 353) _) _ _ _); k_dflt (first | (refine' useSg (shown_whole_tree _ _ _ ?p1) ?k1 ?k2 ?k3 ?k4 ?k5 ?kK ?kd ?ku (ha1 ?kh) ?_; walk_at "u2"; (case kh => k_mem)) | (refine' useSg (shown_dec_tree _ _ _ _ _ ?p1 ?p2 ?p3) ?k1 ?k2 ?k3 ?k4 ?k5 ?kK ?kd ?ku (ha2 ?kh ?kh2) ?_; walk_at "u2"; (case kh => k_mem); (case kh2 => k_mem); (case p2 => walk_at "up"); (case p3 => walk_at "up"))); (case p1 => walk_at "up"); (intro y9 t9 h9 tk9 hy9 F9 N9; (try (rename ∀ y : Str, sgs y = _ → NumText (sgs y) ∧ ntree (sgs y) = _ => hb9; have hb8 := hb9 _ hy9; obtain ⟨hb7, hb6⟩ := hb8)); walk_at "u3")) | ((with_reducible show wpAny _ _ (call (Value.ref 375) _) _ _ _); k_dflt (refine' useX (d_of_text _ _ _ _ _ ?p1 ?p2 ?p3 ?p4) ?k1 ?k2 ?k3 ?k4 ?k5 ?kK ?kd ?ku ?kx ?_; (case p1 => walk_at "up"); (case p2 => walk_at "up"); (case p3 => walk_at "up"); (case p4 => walk_at "up"); walk_at "u2"; (case kx => walk_at "uf")); (intro r9 v9 tl9 h9 tk9 hr9 F9 N9 l9 o9; walk_at "u3")) | ((with_reducible show wpAny _ _ (call (Value.ref 243) _) _ _ _); (rename ntree _ = Tr.dec _ _ => ht9); k_dflt (refine' useM (number_tree _ _ _ ?p1 ?p2) ?k1 ?k2 ?k3 ?k4 ?k5 ?kK ?kd ?ku ?_; (case p1 => walk_at "up"); (case p2 => walk_at "up"); walk_at "u2"); (intro r9 tl9 h9 tk9 F9 N9 l9 o9; rw [ht9] at o9; obtain ⟨D9, D8, a9, b9, c9, e9, e8, lt9⟩ := o9; subst e9; subst e8; dsimp only [List.cons_append, List.nil_append] at N9; (have l9' := fun q hq => l9 q hq (D9, _) (.head _)); (have l9b := fun q hq => l9 q hq (D8, _) (.tail _ (.head _))); clear l9; (try k_lt l9'); (try k_lt l9b); walk_at "u3")) | ((with_reducible show wpAny _ _ (call (Value.ref 243) _) _ _ _); (rename ntree _ = Tr.whole _ => ht9); k_dflt (refine' useM (number_tree _ _ _ ?p1 ?p2) ?k1 ?k2 ?k3 ?k4 ?k5 ?kK ?kd ?ku ?_; (case p1 => walk_at "up"); (case p2 => walk_at "up"); walk_at "u2"); (intro r9 tl9 h9 tk9 F9 N9 l9 o9; rw [ht9] at o9; obtain ⟨D9, a9, b9, e9, e8⟩ := o9; subst e9; subst e8; dsimp only [List.cons_append, List.nil_append] at N9; (have l9' := fun q hq => l9 q hq (D9, _) (.head _)); clear l9; (try k_lt l9'); walk_at "u3")) | ((with_reducible show wpAny _ _ (call (Value.ref 403) _) _ _ _); (rename mk _ _ _ = none => hm9); k_dflt (refine' useS (near_none _ _ _ _ _ _ () ?p1 ?p2 ?p3 ?p4 ?p5 hm9) ?k1 ?k2 ?k3 ?k4 ?k5 ?kK ?kd ?ku ?_; (case p1 => walk_at "up"); (case p2 => walk_at "up"); (case p3 => walk_at "up"); (case p4 => walk_at "up"); (case p5 => (first | decide | omega | (split <;> omega))); walk_at "u2"); (intro t9 h9 tk9 F9 N9; walk_at "u3")) | ((with_reducible show wpAny _ _ (call (Value.ref 403) _) _ _ _); (rename mk _ _ _ = some _ => hm9); k_dflt (refine' useII (near_some _ _ _ _ _ _ _ ?p1 ?p2 ?p3 ?p4 ?p5 hm9) ?k1 ?k2 ?k3 ?k4 ?k5 ?kK ?kd ?ku ?_; (case p1 => walk_at "up"); (case p2 => walk_at "up"); (case p3 => walk_at "up"); (case p4 => walk_at "up"); (case p5 => (first | decide | omega | (split <;> omega))); walk_at "u2"); (intro D9 a9 b9 h9 tk9 F9 N9 l9; (try k_lt l9); walk_at "u3")) | ((with_reducible show wpAny _ _ (call (Value.ref 417) _) _ _ _); k_dflt (first | (refine' useAB (is_back_whole _ _ _ _ ?p1 ?p2) ?k1 ?k2 ?k3 ?k4 ?k5 ?kK ?kd ?ku (ha1 ?kh) ?_; (case p2 => assumption); walk_at "u2"; (case kh => k_mem)) | (refine' useAB (is_back_dec _ _ _ _ _ _ ?p1 ?p2) ?k1 ?k2 ?k3 ?k4 ?k5 ?kK ?kd ?ku (ha2 ?kh ?kh2) ?_; (case p2 => assumption); walk_at "u2"; (case kh => k_mem); (case kh2 => k_mem))); (case p1 => assumption); (intro h9 tk9 F9 N9; walk_at "u3")) | ((with_reducible show wpAny _ _ (call (Value.ref 389) _) _ _ _); k_dflt (refine' useA (worth_dec _ _ _ _ _ _ _ _ _ _ _ ?p1 ?p2) ?k1 ?k2 ?k3 ?k4 ?k5 ?kK ?kd ?ku (ha2 ?kh ?kh2) ?kx ?_; walk_at "u2"; (case kh => k_mem); (case kh2 => k_mem); (case p1 => walk_at "up"); (case p2 => walk_at "up"); (case kx => walk_at "uf")); (intro r9 v9 tl9 h9 tk9 hr9 F9 N9 l9 o9; walk_at "u3")) | ((with_reducible show wpAny _ _ (call (Value.ref 389) _) _ _ _); k_dflt (refine' useA (worth_whole _ _ _ _ _ _ _ _ ?p1 ?p2) ?k1 ?k2 ?k3 ?k4 ?k5 ?kK ?kd ?ku (ha1 ?kh) ?kx ?_; walk_at "u2"; (case kh => k_mem); (case p1 => walk_at "up"); (case p2 => walk_at "up"); (case kx => walk_at "uf")); (intro r9 v9 tl9 h9 tk9 hr9 F9 N9 l9 o9; walk_at "u3")))) | walk_at "wk"))
                all_goals try (rename (((powerAt _ _).2 : Nat) : Int) ≠ _ => hz; exact absurd DD.xz.symm hz)
                exact CutN.mk (by k_asm) (by k_asm) (by repeat' (first | exact sub_refl _ | refine sub_cons ?_))
              · cases e8
                subst e9
                (try dsimp only [List.cons_append, List.nil_append] at NN hx9 hy9)
                subst hx9
                subst hy9
                have l7a := fun q hq => l7 q hq (D5, _) (.head _)
                k_lt l7a
                (repeat' (first | (k_here; (with_reducible show wpAny _ _ (compareOp CmpOp.Eq (Value.ref _) (Value.str _ _)) _ _ _); (refine cmp_ofEq ?_); k_dflt (refine' SeqAt.RcAt.tuple_str _ _ ?zh ?zu _ _ _ _ ?_); (case zh => exact ⟨_, News.get (by k_asm) (by k_mem), rfl, _, rfl⟩); (case zu => ktr_units)) | (k_here; (with_reducible show wpAny _ _ (eval (Expr.Lambda _ _ _ _) _) _ _ _); k_dflt (refine' kla_eval ?d0 ?_; (case d0 => exact rfl)); k_dflt (refine' lam_any ?F ?N ?T ?C ?cd ?U ?S ?tl ?cl ?_; (case F => k_asm); (case N => k_asm); (case T => k_asm); (case cd => exact rfl); (case C => kn_code); (case U => k_updF); (case S => assumption); (case tl => first | (refine List.forall_mem_cons.mpr ⟨?ma, ?mb⟩; (case ma => k_mem); (case mb => exact (by repeat' (first | with_reducible assumption | refine sub_cons ?_)))) | exact (by repeat' (first | with_reducible assumption | refine sub_cons ?_))); (case cl => exact rfl); k_whole); intro f9 c9 oc9 vs9 t9 ct9 ps9 h9 tk9 F9 N9 d9 e9 S9 l9 l8 l7 w9; (try dsimp only at N9); (try k_lt l9); (try k_lt2 l8); (try k_lt2 l7)) | (k_here; (with_reducible show wpAny _ _ (call (Value.type "int") [Value.str _ _]) _ _ _); (refine KIN.call_text (by with_reducible assumption) (by omega) ?_)) | (k_here; (with_reducible show wpAny _ _ (call (Value.ref _) _) _ _ _); (first | ((with_reducible show wpAny _ _ (call (Value.ref 353) _) _ _ _); k_dflt (first | (refine' useSg (shown_whole_tree _ _ _ ?p1) ?k1 ?k2 ?k3 ?k4 ?k5 ?kK ?kd ?ku (ha1 ?kh) ?_; walk_at "u2"; (case kh => k_mem)) | (refine' useSg (shown_dec_tree _ _ _ _ _ ?p1 ?p2 ?p3) ?k1 ?k2 ?k3 ?k4 ?k5 ?kK ?kd ?ku (ha2 ?kh ?kh2) ?_; walk_at "u2"; (case kh => k_mem); (case kh2 => k_mem); (case p2 => walk_at "up"); (case p3 => walk_at "up"))); (case p1 => walk_at "up"); (intro y9 t9 h9 tk9 hy9 F9 N9; (try (rename ∀ y : Str, sgs y = _ → NumText (sgs y) ∧ ntree (sgs y) = _ => hb9; have hb8 := hb9 _ hy9; obtain ⟨hb7, hb6⟩ := hb8)); walk_at "u3")) | ((with_reducible show wpAny _ _ (call (Value.ref 375) _) _ _ _); k_dflt (refine' useX (d_of_text _ _ _ _ _ ?p1 ?p2 ?p3 ?p4) ?k1 ?k2 ?k3 ?k4 ?k5 ?kK ?kd ?ku ?kx ?_; (case p1 => walk_at "up"); (case p2 => walk_at "up"); (case p3 => walk_at "up"); (case p4 => walk_at "up"); walk_at "u2"; (case kx => walk_at "uf")); (intro r9 v9 tl9 h9 tk9 hr9 F9 N9 l9 o9; walk_at "u3")) | ((with_reducible show wpAny _ _ (call (Value.ref 243) _) _ _ _); (rename ntree _ = Tr.dec _ _ => ht9); k_dflt (refine' useM (number_tree _ _ _ ?p1 ?p2) ?k1 ?k2 ?k3 ?k4 ?k5 ?kK ?kd ?ku ?_; (case p1 => walk_at "up"); (case p2 => walk_at "up"); walk_at "u2"); (intro r9 tl9 h9 tk9 F9 N9 l9 o9; rw [ht9] at o9; obtain ⟨D9, D8, a9, b9, c9, e9, e8, lt9⟩ := o9; subst e9; subst e8; dsimp only [List.cons_append, List.nil_append] at N9; (have l9' := fun q hq => l9 q hq (D9, _) (.head _)); (have l9b := fun q hq => l9 q hq (D8, _) (.tail _ (.head _))); clear l9; (try k_lt l9'); (try k_lt l9b); walk_at "u3")) | ((with_reducible show wpAny _ _ (call (Value.ref 243) _) _ _ _); (rename ntree _ = Tr.whole _ => ht9); k_dflt (refine' useM (number_tree _ _ _ ?p1 ?p2) ?k1 ?k2 ?k3 ?k4 ?k5 ?kK ?kd ?ku ?_; (case p1 => walk_at "up"); (case p2 => walk_at "up"); walk_at "u2"); (intro r9 tl9 h9 tk9 F9 N9 l9 o9; rw [ht9] at o9; obtain ⟨D9, a9, b9, e9, e8⟩ := o9; subst e9; subst e8; dsimp only [List.cons_append, List.nil_append] at N9; (have l9' := fun q hq => l9 q hq (D9, _) (.head _)); clear l9; (try k_lt l9'); walk_at "u3")) | ((with_reducible show wpAny _ _ (call (Value.ref 403) _) _ _ _); (rename mk _ _ _ = none => hm9); k_dflt (refine' useS (near_none _ _ _ _ _ _ () ?p1 ?p2 ?p3 ?p4 ?p5 hm9) ?k1 ?k2 ?k3 ?k4 ?k5 ?kK ?kd ?ku ?_; (case p1 => walk_at "up"); (case p2 => walk_at "up"); (case p3 => walk_at "up"); (case p4 => walk_at "up"); (case p5 => (first | decide | omega | (split <;> omega))); walk_at "u2"); (intro t9 h9 tk9 F9 N9; walk_at "u3")) | ((with_reducible show wpAny _ _ (call (Value.ref 403) _) _ _ _); (rename mk _ _ _ = some _ => hm9); k_dflt (refine' useII (near_some _ _ _ _ _ _ _ ?p1 ?p2 ?p3 ?p4 ?p5 hm9) ?k1 ?k2 ?k3 ?k4 ?k5 ?kK ?kd ?ku ?_; (case p1 => walk_at "up"); (case p2 => walk_at "up"); (case p3 => walk_at "up"); (case p4 => walk_at "up"); (case p5 => (first | decide | omega | (split <;> omega))); walk_at "u2"); (intro D9 a9 b9 h9 tk9 F9 N9 l9; (try k_lt l9); walk_at "u3")) | ((with_reducible show wpAny _ _ (call (Value.ref 417) _) _ _ _); k_dflt (first | (refine' useAB (is_back_whole _ _ _ _ ?p1 ?p2) ?k1 ?k2 ?k3 ?k4 ?k5 ?kK ?kd ?ku (ha1 ?kh) ?_; (case p2 => assumption); walk_at "u2"; (case kh => k_mem)) | (refine' useAB (is_back_dec _ _ _ _ _ _ ?p1 ?p2) ?k1 ?k2 ?k3 ?k4 ?k5 ?kK ?kd ?ku (ha2 ?kh ?kh2) ?_; (case p2 => assumption); walk_at "u2"; (case kh => k_mem); (case kh2 => k_mem))); (case p1 => assumption); (intro h9 tk9 F9 N9; walk_at "u3")) | ((with_reducible show wpAny _ _ (call (Value.ref 389) _) _ _ _); k_dflt (refine' useA (worth_dec _ _ _ _ _ _ _ _ _ _ _ ?p1 ?p2) ?k1 ?k2 ?k3 ?k4 ?k5 ?kK ?kd ?ku (ha2 ?kh ?kh2) ?kx ?_; walk_at "u2"; (case kh => k_mem); (case kh2 => k_mem); (case p1 => walk_at "up"); (case p2 => walk_at "up"); (case kx => walk_at "uf")); (intro r9 v9 tl9 h9 tk9 hr9 F9 N9 l9 o9; walk_at "u3")) | ((with_reducible show wpAny _ _ (call (Value.ref 389) _) _ _ _); k_dflt (refine' useA (worth_whole _ _ _ _ _ _ _ _ ?p1 ?p2) ?k1 ?k2 ?k3 ?k4 ?k5 ?kK ?kd ?ku (ha1 ?kh) ?kx ?_; walk_at "u2"; (case kh => k_mem); (case p1 => walk_at "up"); (case p2 => walk_at "up"); (case kx => walk_at "uf")); (intro r9 v9 tl9 h9 tk9 hr9 F9 N9 l9 o9; walk_at "u3")))) | walk_at "wk"))
                all_goals try (rename (((powerAt _ _).2 : Nat) : Int) ≠ _ => hz; exact absurd DD.xz.symm hz)
                exact CutN.mk (by k_asm) (by k_asm) (by repeat' (first | exact sub_refl _ | refine sub_cons ?_))
            case' dsre =>
              intro h5 tk5 F5 N5
              clear FF NN
              (try dsimp only)
              (repeat' (first | (k_here; (with_reducible show wpAny _ _ (compareOp CmpOp.Eq (Value.ref _) (Value.str _ _)) _ _ _); (refine cmp_ofEq ?_); k_dflt (refine' SeqAt.RcAt.tuple_str _ _ ?zh ?zu _ _ _ _ ?_); (case zh => exact ⟨_, News.get (by k_asm) (by k_mem), rfl, _, rfl⟩); (case zu => ktr_units)) | (k_here; (with_reducible show wpAny _ _ (eval (Expr.Lambda _ _ _ _) _) _ _ _); k_dflt (refine' kla_eval ?d0 ?_; (case d0 => exact rfl)); k_dflt (refine' lam_any ?F ?N ?T ?C ?cd ?U ?S ?tl ?cl ?_; (case F => k_asm); (case N => k_asm); (case T => k_asm); (case cd => exact rfl); (case C => kn_code); (case U => k_updF); (case S => assumption); (case tl => first | (refine List.forall_mem_cons.mpr ⟨?ma, ?mb⟩; (case ma => k_mem); (case mb => exact (by repeat' (first | with_reducible assumption | refine sub_cons ?_)))) | exact (by repeat' (first | with_reducible assumption | refine sub_cons ?_))); (case cl => exact rfl); k_whole); intro f9 c9 oc9 vs9 t9 ct9 ps9 h9 tk9 F9 N9 d9 e9 S9 l9 l8 l7 w9; (try dsimp only at N9); (try k_lt l9); (try k_lt2 l8); (try k_lt2 l7)) | (k_here; (with_reducible show wpAny _ _ (call (Value.type "int") [Value.str _ _]) _ _ _); (refine KIN.call_text (by with_reducible assumption) (by omega) ?_)) | (k_here; (with_reducible show wpAny _ _ (call (Value.ref _) _) _ _ _); (first | ((with_reducible show wpAny _ _ (call (Value.ref 353) _) _ _ _); k_dflt (first | (refine' useSg (shown_whole_tree _ _ _ ?p1) ?k1 ?k2 ?k3 ?k4 ?k5 ?kK ?kd ?ku (ha1 ?kh) ?_; walk_at "u2"; (case kh => k_mem)) | (refine' useSg (shown_dec_tree _ _ _ _ _ ?p1 ?p2 ?p3) ?k1 ?k2 ?k3 ?k4 ?k5 ?kK ?kd ?ku (ha2 ?kh ?kh2) ?_; walk_at "u2"; (case kh => k_mem); (case kh2 => k_mem); (case p2 => walk_at "up"); (case p3 => walk_at "up"))); (case p1 => walk_at "up"); (intro y9 t9 h9 tk9 hy9 F9 N9; (try (rename ∀ y : Str, sgs y = _ → NumText (sgs y) ∧ ntree (sgs y) = _ => hb9; have hb8 := hb9 _ hy9; obtain ⟨hb7, hb6⟩ := hb8)); walk_at "u3")) | ((with_reducible show wpAny _ _ (call (Value.ref 375) _) _ _ _); k_dflt (refine' useX (d_of_text _ _ _ _ _ ?p1 ?p2 ?p3 ?p4) ?k1 ?k2 ?k3 ?k4 ?k5 ?kK ?kd ?ku ?kx ?_; (case p1 => walk_at "up"); (case p2 => walk_at "up"); (case p3 => walk_at "up"); (case p4 => walk_at "up"); walk_at "u2"; (case kx => walk_at "uf")); (intro r9 v9 tl9 h9 tk9 hr9 F9 N9 l9 o9; walk_at "u3")) | ((with_reducible show wpAny _ _ (call (Value.ref 243) _) _ _ _); (rename ntree _ = Tr.dec _ _ => ht9); k_dflt (refine' useM (number_tree _ _ _ ?p1 ?p2) ?k1 ?k2 ?k3 ?k4 ?k5 ?kK ?kd ?ku ?_; (case p1 => walk_at "up"); (case p2 => walk_at "up"); walk_at "u2"); (intro r9 tl9 h9 tk9 F9 N9 l9 o9; rw [ht9] at o9; obtain ⟨D9, D8, a9, b9, c9, e9, e8, lt9⟩ := o9; subst e9; subst e8; dsimp only [List.cons_append, List.nil_append] at N9; (have l9' := fun q hq => l9 q hq (D9, _) (.head _)); (have l9b := fun q hq => l9 q hq (D8, _) (.tail _ (.head _))); clear l9; (try k_lt l9'); (try k_lt l9b); walk_at "u3")) | ((with_reducible show wpAny _ _ (call (Value.ref 243) _) _ _ _); (rename ntree _ = Tr.whole _ => ht9); k_dflt (refine' useM (number_tree _ _ _ ?p1 ?p2) ?k1 ?k2 ?k3 ?k4 ?k5 ?kK ?kd ?ku ?_; (case p1 => walk_at "up"); (case p2 => walk_at "up"); walk_at "u2"); (intro r9 tl9 h9 tk9 F9 N9 l9 o9; rw [ht9] at o9; obtain ⟨D9, a9, b9, e9, e8⟩ := o9; subst e9; subst e8; dsimp only [List.cons_append, List.nil_append] at N9; (have l9' := fun q hq => l9 q hq (D9, _) (.head _)); clear l9; (try k_lt l9'); walk_at "u3")) | ((with_reducible show wpAny _ _ (call (Value.ref 403) _) _ _ _); (rename mk _ _ _ = none => hm9); k_dflt (refine' useS (near_none _ _ _ _ _ _ () ?p1 ?p2 ?p3 ?p4 ?p5 hm9) ?k1 ?k2 ?k3 ?k4 ?k5 ?kK ?kd ?ku ?_; (case p1 => walk_at "up"); (case p2 => walk_at "up"); (case p3 => walk_at "up"); (case p4 => walk_at "up"); (case p5 => (first | decide | omega | (split <;> omega))); walk_at "u2"); (intro t9 h9 tk9 F9 N9; walk_at "u3")) | ((with_reducible show wpAny _ _ (call (Value.ref 403) _) _ _ _); (rename mk _ _ _ = some _ => hm9); k_dflt (refine' useII (near_some _ _ _ _ _ _ _ ?p1 ?p2 ?p3 ?p4 ?p5 hm9) ?k1 ?k2 ?k3 ?k4 ?k5 ?kK ?kd ?ku ?_; (case p1 => walk_at "up"); (case p2 => walk_at "up"); (case p3 => walk_at "up"); (case p4 => walk_at "up"); (case p5 => (first | decide | omega | (split <;> omega))); walk_at "u2"); (intro D9 a9 b9 h9 tk9 F9 N9 l9; (try k_lt l9); walk_at "u3")) | ((with_reducible show wpAny _ _ (call (Value.ref 417) _) _ _ _); k_dflt (first | (refine' useAB (is_back_whole _ _ _ _ ?p1 ?p2) ?k1 ?k2 ?k3 ?k4 ?k5 ?kK ?kd ?ku (ha1 ?kh) ?_; (case p2 => assumption); walk_at "u2"; (case kh => k_mem)) | (refine' useAB (is_back_dec _ _ _ _ _ _ ?p1 ?p2) ?k1 ?k2 ?k3 ?k4 ?k5 ?kK ?kd ?ku (ha2 ?kh ?kh2) ?_; (case p2 => assumption); walk_at "u2"; (case kh => k_mem); (case kh2 => k_mem))); (case p1 => assumption); (intro h9 tk9 F9 N9; walk_at "u3")) | ((with_reducible show wpAny _ _ (call (Value.ref 389) _) _ _ _); k_dflt (refine' useA (worth_dec _ _ _ _ _ _ _ _ _ _ _ ?p1 ?p2) ?k1 ?k2 ?k3 ?k4 ?k5 ?kK ?kd ?ku (ha2 ?kh ?kh2) ?kx ?_; walk_at "u2"; (case kh => k_mem); (case kh2 => k_mem); (case p1 => walk_at "up"); (case p2 => walk_at "up"); (case kx => walk_at "uf")); (intro r9 v9 tl9 h9 tk9 hr9 F9 N9 l9 o9; walk_at "u3")) | ((with_reducible show wpAny _ _ (call (Value.ref 389) _) _ _ _); k_dflt (refine' useA (worth_whole _ _ _ _ _ _ _ _ ?p1 ?p2) ?k1 ?k2 ?k3 ?k4 ?k5 ?kK ?kd ?ku (ha1 ?kh) ?kx ?_; walk_at "u2"; (case kh => k_mem); (case p1 => walk_at "up"); (case p2 => walk_at "up"); (case kx => walk_at "uf")); (intro r9 v9 tl9 h9 tk9 hr9 F9 N9 l9 o9; walk_at "u3")))) | walk_at "wk"))
              rename TS _ _ _ _ => S2
              rename _ ∈ cd ∨ _ => wa
              rename _ ∈ _ :: cd ∨ _ => wb
              rename Fr h7 L' _ _ => FF
              rename News h7 L' _ _ => NN
              refine hQQ _ _ ?_
              (try dsimp only)
              refine close_N (news := news) S2 (KtsTurn.trans T8 T7) FF NN ?dAfh1 ?dAfh2 ?dAfh3 ?dAfin
              case dAfh1 =>
                refine List.forall_mem_cons.mpr ⟨?dAz1, ?dAz2⟩
                case dAz1 => k_mem
                refine List.forall_mem_cons.mpr ⟨?dAz3, ?dAz4⟩
                case dAz3 => k_mem
                exact (by repeat' (first | with_reducible assumption | refine sub_cons ?_))
              case dAfh2 => k_mem
              case dAfh3 => exact (by repeat' (first | exact sub_refl _ | refine sub_cons ?_))
              intro h6 T6 F6 N6 B6 X6 P6 D6
              have cc := cd_two (news := news) (P := 419) wa wb (List.forall_mem_cons.mpr ⟨(by k_mem), (by repeat' (first | exact sub_refl _ | refine sub_cons ?_))⟩) (List.forall_mem_cons.mpr ⟨(by k_mem), (by repeat' (first | exact sub_refl _ | refine sub_cons ?_))⟩)
              exact hret (.bool true) _ _ h6 _ _ T6 F6 N6 S2 cc.1 cc.2 B6 X6 P6 D6 rfl
    | none =>
      (repeat' (first | ((fail_if_success (with_reducible show wpAny _ _ (call (Value.ref 410) _) _ _ _)); (first | (k_here; (with_reducible show wpAny _ _ (compareOp CmpOp.Eq (Value.ref _) (Value.str _ _)) _ _ _); (refine cmp_ofEq ?_); k_dflt (refine' SeqAt.RcAt.tuple_str _ _ ?zh ?zu _ _ _ _ ?_); (case zh => exact ⟨_, News.get (by k_asm) (by k_mem), rfl, _, rfl⟩); (case zu => ktr_units)) | (k_here; (with_reducible show wpAny _ _ (eval (Expr.Lambda _ _ _ _) _) _ _ _); k_dflt (refine' kla_eval ?d0 ?_; (case d0 => exact rfl)); k_dflt (refine' lam_any ?F ?N ?T ?C ?cd ?U ?S ?tl ?cl ?_; (case F => k_asm); (case N => k_asm); (case T => k_asm); (case cd => exact rfl); (case C => kn_code); (case U => k_updF); (case S => assumption); (case tl => first | (refine List.forall_mem_cons.mpr ⟨?ma, ?mb⟩; (case ma => k_mem); (case mb => exact (by repeat' (first | with_reducible assumption | refine sub_cons ?_)))) | exact (by repeat' (first | with_reducible assumption | refine sub_cons ?_))); (case cl => exact rfl); k_whole); intro f9 c9 oc9 vs9 t9 ct9 ps9 h9 tk9 F9 N9 d9 e9 S9 l9 l8 l7 w9; (try dsimp only at N9); (try k_lt l9); (try k_lt2 l8); (try k_lt2 l7)) | (k_here; (with_reducible show wpAny _ _ (call (Value.type "int") [Value.str _ _]) _ _ _); (refine KIN.call_text (by with_reducible assumption) (by omega) ?_)) | (k_here; (with_reducible show wpAny _ _ (call (Value.ref _) _) _ _ _); (first | ((with_reducible show wpAny _ _ (call (Value.ref 353) _) _ _ _); k_dflt (first | (refine' useSg (shown_whole_tree _ _ _ ?p1) ?k1 ?k2 ?k3 ?k4 ?k5 ?kK ?kd ?ku (ha1 ?kh) ?_; walk_at "u2"; (case kh => k_mem)) | (refine' useSg (shown_dec_tree _ _ _ _ _ ?p1 ?p2 ?p3) ?k1 ?k2 ?k3 ?k4 ?k5 ?kK ?kd ?ku (ha2 ?kh ?kh2) ?_; walk_at "u2"; (case kh => k_mem); (case kh2 => k_mem); (case p2 => walk_at "up"); (case p3 => walk_at "up"))); (case p1 => walk_at "up"); (intro y9 t9 h9 tk9 hy9 F9 N9; (try (rename ∀ y : Str, sgs y = _ → NumText (sgs y) ∧ ntree (sgs y) = _ => hb9; have hb8 := hb9 _ hy9; obtain ⟨hb7, hb6⟩ := hb8)); walk_at "u3")) | ((with_reducible show wpAny _ _ (call (Value.ref 375) _) _ _ _); k_dflt (refine' useX (d_of_text _ _ _ _ _ ?p1 ?p2 ?p3 ?p4) ?k1 ?k2 ?k3 ?k4 ?k5 ?kK ?kd ?ku ?kx ?_; (case p1 => walk_at "up"); (case p2 => walk_at "up"); (case p3 => walk_at "up"); (case p4 => walk_at "up"); walk_at "u2"; (case kx => walk_at "uf")); (intro r9 v9 tl9 h9 tk9 hr9 F9 N9 l9 o9; walk_at "u3")) | ((with_reducible show wpAny _ _ (call (Value.ref 243) _) _ _ _); (rename ntree _ = Tr.dec _ _ => ht9); k_dflt (refine' useM (number_tree _ _ _ ?p1 ?p2) ?k1 ?k2 ?k3 ?k4 ?k5 ?kK ?kd ?ku ?_; (case p1 => walk_at "up"); (case p2 => walk_at "up"); walk_at "u2"); (intro r9 tl9 h9 tk9 F9 N9 l9 o9; rw [ht9] at o9; obtain ⟨D9, D8, a9, b9, c9, e9, e8, lt9⟩ := o9; subst e9; subst e8; dsimp only [List.cons_append, List.nil_append] at N9; (have l9' := fun q hq => l9 q hq (D9, _) (.head _)); (have l9b := fun q hq => l9 q hq (D8, _) (.tail _ (.head _))); clear l9; (try k_lt l9'); (try k_lt l9b); walk_at "u3")) | ((with_reducible show wpAny _ _ (call (Value.ref 243) _) _ _ _); (rename ntree _ = Tr.whole _ => ht9); k_dflt (refine' useM (number_tree _ _ _ ?p1 ?p2) ?k1 ?k2 ?k3 ?k4 ?k5 ?kK ?kd ?ku ?_; (case p1 => walk_at "up"); (case p2 => walk_at "up"); walk_at "u2"); (intro r9 tl9 h9 tk9 F9 N9 l9 o9; rw [ht9] at o9; obtain ⟨D9, a9, b9, e9, e8⟩ := o9; subst e9; subst e8; dsimp only [List.cons_append, List.nil_append] at N9; (have l9' := fun q hq => l9 q hq (D9, _) (.head _)); clear l9; (try k_lt l9'); walk_at "u3")) | ((with_reducible show wpAny _ _ (call (Value.ref 403) _) _ _ _); (rename mk _ _ _ = none => hm9); k_dflt (refine' useS (near_none _ _ _ _ _ _ () ?p1 ?p2 ?p3 ?p4 ?p5 hm9) ?k1 ?k2 ?k3 ?k4 ?k5 ?kK ?kd ?ku ?_; (case p1 => walk_at "up"); (case p2 => walk_at "up"); (case p3 => walk_at "up"); (case p4 => walk_at "up"); (case p5 => (first | decide | omega | (split <;> omega))); walk_at "u2"); (intro t9 h9 tk9 F9 N9; walk_at "u3")) | ((with_reducible show wpAny _ _ (call (Value.ref 403) _) _ _ _); (rename mk _ _ _ = some _ => hm9); k_dflt (refine' useII (near_some _ _ _ _ _ _ _ ?p1 ?p2 ?p3 ?p4 ?p5 hm9) ?k1 ?k2 ?k3 ?k4 ?k5 ?kK ?kd ?ku ?_; (case p1 => walk_at "up"); (case p2 => walk_at "up"); (case p3 => walk_at "up"); (case p4 => walk_at "up"); (case p5 => (first | decide | omega | (split <;> omega))); walk_at "u2"); (intro D9 a9 b9 h9 tk9 F9 N9 l9; (try k_lt l9); walk_at "u3")) | ((with_reducible show wpAny _ _ (call (Value.ref 417) _) _ _ _); k_dflt (first | (refine' useAB (is_back_whole _ _ _ _ ?p1 ?p2) ?k1 ?k2 ?k3 ?k4 ?k5 ?kK ?kd ?ku (ha1 ?kh) ?_; (case p2 => assumption); walk_at "u2"; (case kh => k_mem)) | (refine' useAB (is_back_dec _ _ _ _ _ _ ?p1 ?p2) ?k1 ?k2 ?k3 ?k4 ?k5 ?kK ?kd ?ku (ha2 ?kh ?kh2) ?_; (case p2 => assumption); walk_at "u2"; (case kh => k_mem); (case kh2 => k_mem))); (case p1 => assumption); (intro h9 tk9 F9 N9; walk_at "u3")) | ((with_reducible show wpAny _ _ (call (Value.ref 389) _) _ _ _); k_dflt (refine' useA (worth_dec _ _ _ _ _ _ _ _ _ _ _ ?p1 ?p2) ?k1 ?k2 ?k3 ?k4 ?k5 ?kK ?kd ?ku (ha2 ?kh ?kh2) ?kx ?_; walk_at "u2"; (case kh => k_mem); (case kh2 => k_mem); (case p1 => walk_at "up"); (case p2 => walk_at "up"); (case kx => walk_at "uf")); (intro r9 v9 tl9 h9 tk9 hr9 F9 N9 l9 o9; walk_at "u3")) | ((with_reducible show wpAny _ _ (call (Value.ref 389) _) _ _ _); k_dflt (refine' useA (worth_whole _ _ _ _ _ _ _ _ ?p1 ?p2) ?k1 ?k2 ?k3 ?k4 ?k5 ?kK ?kd ?ku (ha1 ?kh) ?kx ?_; walk_at "u2"; (case kh => k_mem); (case p1 => walk_at "up"); (case p2 => walk_at "up"); (case kx => walk_at "uf")); (intro r9 v9 tl9 h9 tk9 hr9 F9 N9 l9 o9; walk_at "u3")))) | walk_at "wk"))))
      k_dflt (refine' useT ?nak4 ?nak2 ?nak1 ?nak3 ?nak5 XB TB ?nak6 ?nakK ?nakd ?naku (law_heard w _ 20 340 _ _ _ _ _ (worth dg (.dec c e)) OutW ?naC) ?nakq)
      (case nak4 => k_asm)
      (case nak2 => k_asm)
      (case nak1 => k_asm)
      (case nak3 => k_asm)
      (case nak5 => k_asm)
      (case nak6 => k_asm)
      (case nakK => exact rfl)
      (case nakd => ktr_room)
      (case naku => ktr_units)
      case' naC =>
        unfold MeetsA
        k_fill
        intro p2 loose2 mean2 mg2 mb2 dp2 un2 gd2 cn2 cs2 a2 ccd2 cl2 outer2 A2 base2 g2 L2 m2 news2 s2 Q2 E2 hrw2 B2 F2 X2 N2 T2 hk2 hd2 hu2 hret2 hexc2
        clear hrw2
        dsimp only [List.cons_append, List.nil_append] at N2 hret2 hexc2
        walk_at "call lambda"
        (repeat' (first | (k_here; (with_reducible show wpAny _ _ (compareOp CmpOp.Eq (Value.ref _) (Value.str _ _)) _ _ _); (refine cmp_ofEq ?_); k_dflt (refine' SeqAt.RcAt.tuple_str _ _ ?zh ?zu _ _ _ _ ?_); (case zh => exact ⟨_, News.get (by k_asm) (by k_mem), rfl, _, rfl⟩); (case zu => ktr_units)) | (k_here; (with_reducible show wpAny _ _ (eval (Expr.Lambda _ _ _ _) _) _ _ _); k_dflt (refine' kla_eval ?d0 ?_; (case d0 => exact rfl)); k_dflt (refine' lam_any ?F ?N ?T ?C ?cd ?U ?S ?tl ?cl ?_; (case F => k_asm); (case N => k_asm); (case T => k_asm); (case cd => exact rfl); (case C => kn_code); (case U => k_updF); (case S => assumption); (case tl => first | (refine List.forall_mem_cons.mpr ⟨?ma, ?mb⟩; (case ma => k_mem); (case mb => exact (by repeat' (first | with_reducible assumption | refine sub_cons ?_)))) | exact (by repeat' (first | with_reducible assumption | refine sub_cons ?_))); (case cl => exact rfl); k_whole); intro f9 c9 oc9 vs9 t9 ct9 ps9 h9 tk9 F9 N9 d9 e9 S9 l9 l8 l7 w9; (try dsimp only at N9); (try k_lt l9); (try k_lt2 l8); (try k_lt2 l7)) | (k_here; (with_reducible show wpAny _ _ (call (Value.type "int") [Value.str _ _]) _ _ _); (refine KIN.call_text (by with_reducible assumption) (by omega) ?_)) | (k_here; (with_reducible show wpAny _ _ (call (Value.ref _) _) _ _ _); (first | ((with_reducible show wpAny _ _ (call (Value.ref 353) _) _ _ _); k_dflt (first | (refine' useSg (shown_whole_tree _ _ _ ?p1) ?k1 ?k2 ?k3 ?k4 ?k5 ?kK ?kd ?ku (ha1 ?kh) ?_; walk_at "u2"; (case kh => k_mem)) | (refine' useSg (shown_dec_tree _ _ _ _ _ ?p1 ?p2 ?p3) ?k1 ?k2 ?k3 ?k4 ?k5 ?kK ?kd ?ku (ha2 ?kh ?kh2) ?_; walk_at "u2"; (case kh => k_mem); (case kh2 => k_mem); (case p2 => walk_at "up"); (case p3 => walk_at "up"))); (case p1 => walk_at "up"); (intro y9 t9 h9 tk9 hy9 F9 N9; (try (rename ∀ y : Str, sgs y = _ → NumText (sgs y) ∧ ntree (sgs y) = _ => hb9; have hb8 := hb9 _ hy9; obtain ⟨hb7, hb6⟩ := hb8)); walk_at "u3")) | ((with_reducible show wpAny _ _ (call (Value.ref 375) _) _ _ _); k_dflt (refine' useX (d_of_text _ _ _ _ _ ?p1 ?p2 ?p3 ?p4) ?k1 ?k2 ?k3 ?k4 ?k5 ?kK ?kd ?ku ?kx ?_; (case p1 => walk_at "up"); (case p2 => walk_at "up"); (case p3 => walk_at "up"); (case p4 => walk_at "up"); walk_at "u2"; (case kx => walk_at "uf")); (intro r9 v9 tl9 h9 tk9 hr9 F9 N9 l9 o9; walk_at "u3")) | ((with_reducible show wpAny _ _ (call (Value.ref 243) _) _ _ _); (rename ntree _ = Tr.dec _ _ => ht9); k_dflt (refine' useM (number_tree _ _ _ ?p1 ?p2) ?k1 ?k2 ?k3 ?k4 ?k5 ?kK ?kd ?ku ?_; (case p1 => walk_at "up"); (case p2 => walk_at "up"); walk_at "u2"); (intro r9 tl9 h9 tk9 F9 N9 l9 o9; rw [ht9] at o9; obtain ⟨D9, D8, a9, b9, c9, e9, e8, lt9⟩ := o9; subst e9; subst e8; dsimp only [List.cons_append, List.nil_append] at N9; (have l9' := fun q hq => l9 q hq (D9, _) (.head _)); (have l9b := fun q hq => l9 q hq (D8, _) (.tail _ (.head _))); clear l9; (try k_lt l9'); (try k_lt l9b); walk_at "u3")) | ((with_reducible show wpAny _ _ (call (Value.ref 243) _) _ _ _); (rename ntree _ = Tr.whole _ => ht9); k_dflt (refine' useM (number_tree _ _ _ ?p1 ?p2) ?k1 ?k2 ?k3 ?k4 ?k5 ?kK ?kd ?ku ?_; (case p1 => walk_at "up"); (case p2 => walk_at "up"); walk_at "u2"); (intro r9 tl9 h9 tk9 F9 N9 l9 o9; rw [ht9] at o9; obtain ⟨D9, a9, b9, e9, e8⟩ := o9; subst e9; subst e8; dsimp only [List.cons_append, List.nil_append] at N9; (have l9' := fun q hq => l9 q hq (D9, _) (.head _)); clear l9; (try k_lt l9'); walk_at "u3")) | ((with_reducible show wpAny _ _ (call (Value.ref 403) _) _ _ _); (rename mk _ _ _ = none => hm9); k_dflt (refine' useS (near_none _ _ _ _ _ _ () ?p1 ?p2 ?p3 ?p4 ?p5 hm9) ?k1 ?k2 ?k3 ?k4 ?k5 ?kK ?kd ?ku ?_; (case p1 => walk_at "up"); (case p2 => walk_at "up"); (case p3 => walk_at "up"); (case p4 => walk_at "up"); (case p5 => (first | decide | omega | (split <;> omega))); walk_at "u2"); (intro t9 h9 tk9 F9 N9; walk_at "u3")) | ((with_reducible show wpAny _ _ (call (Value.ref 403) _) _ _ _); (rename mk _ _ _ = some _ => hm9); k_dflt (refine' useII (near_some _ _ _ _ _ _ _ ?p1 ?p2 ?p3 ?p4 ?p5 hm9) ?k1 ?k2 ?k3 ?k4 ?k5 ?kK ?kd ?ku ?_; (case p1 => walk_at "up"); (case p2 => walk_at "up"); (case p3 => walk_at "up"); (case p4 => walk_at "up"); (case p5 => (first | decide | omega | (split <;> omega))); walk_at "u2"); (intro D9 a9 b9 h9 tk9 F9 N9 l9; (try k_lt l9); walk_at "u3")) | ((with_reducible show wpAny _ _ (call (Value.ref 417) _) _ _ _); k_dflt (first | (refine' useAB (is_back_whole _ _ _ _ ?p1 ?p2) ?k1 ?k2 ?k3 ?k4 ?k5 ?kK ?kd ?ku (ha1 ?kh) ?_; (case p2 => assumption); walk_at "u2"; (case kh => k_mem)) | (refine' useAB (is_back_dec _ _ _ _ _ _ ?p1 ?p2) ?k1 ?k2 ?k3 ?k4 ?k5 ?kK ?kd ?ku (ha2 ?kh ?kh2) ?_; (case p2 => assumption); walk_at "u2"; (case kh => k_mem); (case kh2 => k_mem))); (case p1 => assumption); (intro h9 tk9 F9 N9; walk_at "u3")) | ((with_reducible show wpAny _ _ (call (Value.ref 389) _) _ _ _); k_dflt (refine' useA (worth_dec _ _ _ _ _ _ _ _ _ _ _ ?p1 ?p2) ?k1 ?k2 ?k3 ?k4 ?k5 ?kK ?kd ?ku (ha2 ?kh ?kh2) ?kx ?_; walk_at "u2"; (case kh => k_mem); (case kh2 => k_mem); (case p1 => walk_at "up"); (case p2 => walk_at "up"); (case kx => walk_at "uf")); (intro r9 v9 tl9 h9 tk9 hr9 F9 N9 l9 o9; walk_at "u3")) | ((with_reducible show wpAny _ _ (call (Value.ref 389) _) _ _ _); k_dflt (refine' useA (worth_whole _ _ _ _ _ _ _ _ ?p1 ?p2) ?k1 ?k2 ?k3 ?k4 ?k5 ?kK ?kd ?ku (ha1 ?kh) ?kx ?_; walk_at "u2"; (case kh => k_mem); (case p1 => walk_at "up"); (case p2 => walk_at "up"); (case kx => walk_at "uf")); (intro r9 v9 tl9 h9 tk9 hr9 F9 N9 l9 o9; walk_at "u3")))) | walk_at "wk"))
        exact hret2 _ (by assumption) _ _ _ _ (by k_asm) (by k_asm) (by assumption) (by assumption)
      case' nakq =>
        intro r8 tl8 h8 h8' tk8 T8 F8 N8 l8 B8 X8 P8 D8 o8
        have hm : mk n e1 dg = none := by assumption
        have hw : worth dg (.dec c e) = none := congrArg (fun z : Option (Int × Int) => z.map (Sum.inr (α := Int))) (DD.xm.trans hm)
        rw [hw] at o8
        obtain ⟨e8, t8, e8'⟩ := o8
        subst e8
        subst e8'
        clear B' X' T' D'
        dsimp only [List.nil_append, List.cons_append] at N8
        try k_lift B8
        (repeat' (first | ((fail_if_success (with_reducible show wpAny _ _ (exec (Stmt.If (Expr.BoolOp _ _ _) _ _ _) _) _ _ _)); (first | (k_here; (with_reducible show wpAny _ _ (compareOp CmpOp.Eq (Value.ref _) (Value.str _ _)) _ _ _); (refine cmp_ofEq ?_); k_dflt (refine' SeqAt.RcAt.tuple_str _ _ ?zh ?zu _ _ _ _ ?_); (case zh => exact ⟨_, News.get (by k_asm) (by k_mem), rfl, _, rfl⟩); (case zu => ktr_units)) | (k_here; (with_reducible show wpAny _ _ (eval (Expr.Lambda _ _ _ _) _) _ _ _); k_dflt (refine' kla_eval ?d0 ?_; (case d0 => exact rfl)); k_dflt (refine' lam_any ?F ?N ?T ?C ?cd ?U ?S ?tl ?cl ?_; (case F => k_asm); (case N => k_asm); (case T => k_asm); (case cd => exact rfl); (case C => kn_code); (case U => k_updF); (case S => assumption); (case tl => first | (refine List.forall_mem_cons.mpr ⟨?ma, ?mb⟩; (case ma => k_mem); (case mb => exact (by repeat' (first | with_reducible assumption | refine sub_cons ?_)))) | exact (by repeat' (first | with_reducible assumption | refine sub_cons ?_))); (case cl => exact rfl); k_whole); intro f9 c9 oc9 vs9 t9 ct9 ps9 h9 tk9 F9 N9 d9 e9 S9 l9 l8 l7 w9; (try dsimp only at N9); (try k_lt l9); (try k_lt2 l8); (try k_lt2 l7)) | (k_here; (with_reducible show wpAny _ _ (call (Value.type "int") [Value.str _ _]) _ _ _); (refine KIN.call_text (by with_reducible assumption) (by omega) ?_)) | (k_here; (with_reducible show wpAny _ _ (call (Value.ref _) _) _ _ _); (first | ((with_reducible show wpAny _ _ (call (Value.ref 353) _) _ _ _); k_dflt (first | (refine' useSg (shown_whole_tree _ _ _ ?p1) ?k1 ?k2 ?k3 ?k4 ?k5 ?kK ?kd ?ku (ha1 ?kh) ?_; walk_at "u2"; (case kh => k_mem)) | (refine' useSg (shown_dec_tree _ _ _ _ _ ?p1 ?p2 ?p3) ?k1 ?k2 ?k3 ?k4 ?k5 ?kK ?kd ?ku (ha2 ?kh ?kh2) ?_; walk_at "u2"; (case kh => k_mem); (case kh2 => k_mem); (case p2 => walk_at "up"); (case p3 => walk_at "up"))); (case p1 => walk_at "up"); (intro y9 t9 h9 tk9 hy9 F9 N9; (try (rename ∀ y : Str, sgs y = _ → NumText (sgs y) ∧ ntree (sgs y) = _ => hb9; have hb8 := hb9 _ hy9; obtain ⟨hb7, hb6⟩ := hb8)); walk_at "u3")) | ((with_reducible show wpAny _ _ (call (Value.ref 375) _) _ _ _); k_dflt (refine' useX (d_of_text _ _ _ _ _ ?p1 ?p2 ?p3 ?p4) ?k1 ?k2 ?k3 ?k4 ?k5 ?kK ?kd ?ku ?kx ?_; (case p1 => walk_at "up"); (case p2 => walk_at "up"); (case p3 => walk_at "up"); (case p4 => walk_at "up"); walk_at "u2"; (case kx => walk_at "uf")); (intro r9 v9 tl9 h9 tk9 hr9 F9 N9 l9 o9; walk_at "u3")) | ((with_reducible show wpAny _ _ (call (Value.ref 243) _) _ _ _); (rename ntree _ = Tr.dec _ _ => ht9); k_dflt (refine' useM (number_tree _ _ _ ?p1 ?p2) ?k1 ?k2 ?k3 ?k4 ?k5 ?kK ?kd ?ku ?_; (case p1 => walk_at "up"); (case p2 => walk_at "up"); walk_at "u2"); (intro r9 tl9 h9 tk9 F9 N9 l9 o9; rw [ht9] at o9; obtain ⟨D9, D8, a9, b9, c9, e9, e8, lt9⟩ := o9; subst e9; subst e8; dsimp only [List.cons_append, List.nil_append] at N9; (have l9' := fun q hq => l9 q hq (D9, _) (.head _)); (have l9b := fun q hq => l9 q hq (D8, _) (.tail _ (.head _))); clear l9; (try k_lt l9'); (try k_lt l9b); walk_at "u3")) | ((with_reducible show wpAny _ _ (call (Value.ref 243) _) _ _ _); (rename ntree _ = Tr.whole _ => ht9); k_dflt (refine' useM (number_tree _ _ _ ?p1 ?p2) ?k1 ?k2 ?k3 ?k4 ?k5 ?kK ?kd ?ku ?_; (case p1 => walk_at "up"); (case p2 => walk_at "up"); walk_at "u2"); (intro r9 tl9 h9 tk9 F9 N9 l9 o9; rw [ht9] at o9; obtain ⟨D9, a9, b9, e9, e8⟩ := o9; subst e9; subst e8; dsimp only [List.cons_append, List.nil_append] at N9; (have l9' := fun q hq => l9 q hq (D9, _) (.head _)); clear l9; (try k_lt l9'); walk_at "u3")) | ((with_reducible show wpAny _ _ (call (Value.ref 403) _) _ _ _); (rename mk _ _ _ = none => hm9); k_dflt (refine' useS (near_none _ _ _ _ _ _ () ?p1 ?p2 ?p3 ?p4 ?p5 hm9) ?k1 ?k2 ?k3 ?k4 ?k5 ?kK ?kd ?ku ?_; (case p1 => walk_at "up"); (case p2 => walk_at "up"); (case p3 => walk_at "up"); (case p4 => walk_at "up"); (case p5 => (first | decide | omega | (split <;> omega))); walk_at "u2"); (intro t9 h9 tk9 F9 N9; walk_at "u3")) | ((with_reducible show wpAny _ _ (call (Value.ref 403) _) _ _ _); (rename mk _ _ _ = some _ => hm9); k_dflt (refine' useII (near_some _ _ _ _ _ _ _ ?p1 ?p2 ?p3 ?p4 ?p5 hm9) ?k1 ?k2 ?k3 ?k4 ?k5 ?kK ?kd ?ku ?_; (case p1 => walk_at "up"); (case p2 => walk_at "up"); (case p3 => walk_at "up"); (case p4 => walk_at "up"); (case p5 => (first | decide | omega | (split <;> omega))); walk_at "u2"); (intro D9 a9 b9 h9 tk9 F9 N9 l9; (try k_lt l9); walk_at "u3")) | ((with_reducible show wpAny _ _ (call (Value.ref 417) _) _ _ _); k_dflt (first | (refine' useAB (is_back_whole _ _ _ _ ?p1 ?p2) ?k1 ?k2 ?k3 ?k4 ?k5 ?kK ?kd ?ku (ha1 ?kh) ?_; (case p2 => assumption); walk_at "u2"; (case kh => k_mem)) | (refine' useAB (is_back_dec _ _ _ _ _ _ ?p1 ?p2) ?k1 ?k2 ?k3 ?k4 ?k5 ?kK ?kd ?ku (ha2 ?kh ?kh2) ?_; (case p2 => assumption); walk_at "u2"; (case kh => k_mem); (case kh2 => k_mem))); (case p1 => assumption); (intro h9 tk9 F9 N9; walk_at "u3")) | ((with_reducible show wpAny _ _ (call (Value.ref 389) _) _ _ _); k_dflt (refine' useA (worth_dec _ _ _ _ _ _ _ _ _ _ _ ?p1 ?p2) ?k1 ?k2 ?k3 ?k4 ?k5 ?kK ?kd ?ku (ha2 ?kh ?kh2) ?kx ?_; walk_at "u2"; (case kh => k_mem); (case kh2 => k_mem); (case p1 => walk_at "up"); (case p2 => walk_at "up"); (case kx => walk_at "uf")); (intro r9 v9 tl9 h9 tk9 hr9 F9 N9 l9 o9; walk_at "u3")) | ((with_reducible show wpAny _ _ (call (Value.ref 389) _) _ _ _); k_dflt (refine' useA (worth_whole _ _ _ _ _ _ _ _ ?p1 ?p2) ?k1 ?k2 ?k3 ?k4 ?k5 ?kK ?kd ?ku (ha1 ?kh) ?kx ?_; walk_at "u2"; (case kh => k_mem); (case p1 => walk_at "up"); (case p2 => walk_at "up"); (case kx => walk_at "uf")); (intro r9 v9 tl9 h9 tk9 hr9 F9 N9 l9 o9; walk_at "u3")))) | walk_at "wk"))))
        rename Fr h8 L' _ _ => FF
        rename News h8 L' _ _ => NN
        k_dflt (refine cut_next FF (news_tail NN) ?nBcu ?nBre)
        case' nBcu =>
          by_cases hB : (B == Str.ofString "") = true
          · have hP : (P == Str.ofString "") = false := Bool.eq_false_iff.mpr fun q => hbp ⟨(beq_lit rfl).mp hB, (beq_lit rfl).mp q⟩
            (repeat' (first | (k_here; (with_reducible show wpAny _ _ (compareOp CmpOp.Eq (Value.ref _) (Value.str _ _)) _ _ _); (refine cmp_ofEq ?_); k_dflt (refine' SeqAt.RcAt.tuple_str _ _ ?zh ?zu _ _ _ _ ?_); (case zh => exact ⟨_, News.get (by k_asm) (by k_mem), rfl, _, rfl⟩); (case zu => ktr_units)) | (k_here; (with_reducible show wpAny _ _ (eval (Expr.Lambda _ _ _ _) _) _ _ _); k_dflt (refine' kla_eval ?d0 ?_; (case d0 => exact rfl)); k_dflt (refine' lam_any ?F ?N ?T ?C ?cd ?U ?S ?tl ?cl ?_; (case F => k_asm); (case N => k_asm); (case T => k_asm); (case cd => exact rfl); (case C => kn_code); (case U => k_updF); (case S => assumption); (case tl => first | (refine List.forall_mem_cons.mpr ⟨?ma, ?mb⟩; (case ma => k_mem); (case mb => exact (by repeat' (first | with_reducible assumption | refine sub_cons ?_)))) | exact (by repeat' (first | with_reducible assumption | refine sub_cons ?_))); (case cl => exact rfl); k_whole); intro f9 c9 oc9 vs9 t9 ct9 ps9 h9 tk9 F9 N9 d9 e9 S9 l9 l8 l7 w9; (try dsimp only at N9); (try k_lt l9); (try k_lt2 l8); (try k_lt2 l7)) | (k_here; (with_reducible show wpAny _ _ (call (Value.type "int") [Value.str _ _]) _ _ _); (refine KIN.call_text (by with_reducible assumption) (by omega) ?_)) | (k_here; (with_reducible show wpAny _ _ (call (Value.ref _) _) _ _ _); (first | ((with_reducible show wpAny _ _ (call (Value.ref 353) _) _ _ _); k_dflt (first | (refine' useSg (shown_whole_tree _ _ _ ?p1) ?k1 ?k2 ?k3 ?k4 ?k5 ?kK ?kd ?ku (ha1 ?kh) ?_; walk_at "u2"; (case kh => k_mem)) | (refine' useSg (shown_dec_tree _ _ _ _ _ ?p1 ?p2 ?p3) ?k1 ?k2 ?k3 ?k4 ?k5 ?kK ?kd ?ku (ha2 ?kh ?kh2) ?_; walk_at "u2"; (case kh => k_mem); (case kh2 => k_mem); (case p2 => walk_at "up"); (case p3 => walk_at "up"))); (case p1 => walk_at "up"); (intro y9 t9 h9 tk9 hy9 F9 N9; (try (rename ∀ y : Str, sgs y = _ → NumText (sgs y) ∧ ntree (sgs y) = _ => hb9; have hb8 := hb9 _ hy9; obtain ⟨hb7, hb6⟩ := hb8)); walk_at "u3")) | ((with_reducible show wpAny _ _ (call (Value.ref 375) _) _ _ _); k_dflt (refine' useX (d_of_text _ _ _ _ _ ?p1 ?p2 ?p3 ?p4) ?k1 ?k2 ?k3 ?k4 ?k5 ?kK ?kd ?ku ?kx ?_; (case p1 => walk_at "up"); (case p2 => walk_at "up"); (case p3 => walk_at "up"); (case p4 => walk_at "up"); walk_at "u2"; (case kx => walk_at "uf")); (intro r9 v9 tl9 h9 tk9 hr9 F9 N9 l9 o9; walk_at "u3")) | ((with_reducible show wpAny _ _ (call (Value.ref 243) _) _ _ _); (rename ntree _ = Tr.dec _ _ => ht9); k_dflt (refine' useM (number_tree _ _ _ ?p1 ?p2) ?k1 ?k2 ?k3 ?k4 ?k5 ?kK ?kd ?ku ?_; (case p1 => walk_at "up"); (case p2 => walk_at "up"); walk_at "u2"); (intro r9 tl9 h9 tk9 F9 N9 l9 o9; rw [ht9] at o9; obtain ⟨D9, D8, a9, b9, c9, e9, e8, lt9⟩ := o9; subst e9; subst e8; dsimp only [List.cons_append, List.nil_append] at N9; (have l9' := fun q hq => l9 q hq (D9, _) (.head _)); (have l9b := fun q hq => l9 q hq (D8, _) (.tail _ (.head _))); clear l9; (try k_lt l9'); (try k_lt l9b); walk_at "u3")) | ((with_reducible show wpAny _ _ (call (Value.ref 243) _) _ _ _); (rename ntree _ = Tr.whole _ => ht9); k_dflt (refine' useM (number_tree _ _ _ ?p1 ?p2) ?k1 ?k2 ?k3 ?k4 ?k5 ?kK ?kd ?ku ?_; (case p1 => walk_at "up"); (case p2 => walk_at "up"); walk_at "u2"); (intro r9 tl9 h9 tk9 F9 N9 l9 o9; rw [ht9] at o9; obtain ⟨D9, a9, b9, e9, e8⟩ := o9; subst e9; subst e8; dsimp only [List.cons_append, List.nil_append] at N9; (have l9' := fun q hq => l9 q hq (D9, _) (.head _)); clear l9; (try k_lt l9'); walk_at "u3")) | ((with_reducible show wpAny _ _ (call (Value.ref 403) _) _ _ _); (rename mk _ _ _ = none => hm9); k_dflt (refine' useS (near_none _ _ _ _ _ _ () ?p1 ?p2 ?p3 ?p4 ?p5 hm9) ?k1 ?k2 ?k3 ?k4 ?k5 ?kK ?kd ?ku ?_; (case p1 => walk_at "up"); (case p2 => walk_at "up"); (case p3 => walk_at "up"); (case p4 => walk_at "up"); (case p5 => (first | decide | omega | (split <;> omega))); walk_at "u2"); (intro t9 h9 tk9 F9 N9; walk_at "u3")) | ((with_reducible show wpAny _ _ (call (Value.ref 403) _) _ _ _); (rename mk _ _ _ = some _ => hm9); k_dflt (refine' useII (near_some _ _ _ _ _ _ _ ?p1 ?p2 ?p3 ?p4 ?p5 hm9) ?k1 ?k2 ?k3 ?k4 ?k5 ?kK ?kd ?ku ?_; (case p1 => walk_at "up"); (case p2 => walk_at "up"); (case p3 => walk_at "up"); (case p4 => walk_at "up"); (case p5 => (first | decide | omega | (split <;> omega))); walk_at "u2"); (intro D9 a9 b9 h9 tk9 F9 N9 l9; (try k_lt l9); walk_at "u3")) | ((with_reducible show wpAny _ _ (call (Value.ref 417) _) _ _ _); k_dflt (first | (refine' useAB (is_back_whole _ _ _ _ ?p1 ?p2) ?k1 ?k2 ?k3 ?k4 ?k5 ?kK ?kd ?ku (ha1 ?kh) ?_; (case p2 => assumption); walk_at "u2"; (case kh => k_mem)) | (refine' useAB (is_back_dec _ _ _ _ _ _ ?p1 ?p2) ?k1 ?k2 ?k3 ?k4 ?k5 ?kK ?kd ?ku (ha2 ?kh ?kh2) ?_; (case p2 => assumption); walk_at "u2"; (case kh => k_mem); (case kh2 => k_mem))); (case p1 => assumption); (intro h9 tk9 F9 N9; walk_at "u3")) | ((with_reducible show wpAny _ _ (call (Value.ref 389) _) _ _ _); k_dflt (refine' useA (worth_dec _ _ _ _ _ _ _ _ _ _ _ ?p1 ?p2) ?k1 ?k2 ?k3 ?k4 ?k5 ?kK ?kd ?ku (ha2 ?kh ?kh2) ?kx ?_; walk_at "u2"; (case kh => k_mem); (case kh2 => k_mem); (case p1 => walk_at "up"); (case p2 => walk_at "up"); (case kx => walk_at "uf")); (intro r9 v9 tl9 h9 tk9 hr9 F9 N9 l9 o9; walk_at "u3")) | ((with_reducible show wpAny _ _ (call (Value.ref 389) _) _ _ _); k_dflt (refine' useA (worth_whole _ _ _ _ _ _ _ _ ?p1 ?p2) ?k1 ?k2 ?k3 ?k4 ?k5 ?kK ?kd ?ku (ha1 ?kh) ?kx ?_; walk_at "u2"; (case kh => k_mem); (case p1 => walk_at "up"); (case p2 => walk_at "up"); (case kx => walk_at "uf")); (intro r9 v9 tl9 h9 tk9 hr9 F9 N9 l9 o9; walk_at "u3")))) | walk_at "wk"))
            exact CutN.mk (by with_reducible assumption) (by with_reducible assumption) (by repeat' (first | exact sub_refl _ | refine sub_cons ?_))
          · have hB' : (B == Str.ofString "") = false := Bool.eq_false_iff.mpr hB
            (repeat' (first | (k_here; (with_reducible show wpAny _ _ (compareOp CmpOp.Eq (Value.ref _) (Value.str _ _)) _ _ _); (refine cmp_ofEq ?_); k_dflt (refine' SeqAt.RcAt.tuple_str _ _ ?zh ?zu _ _ _ _ ?_); (case zh => exact ⟨_, News.get (by k_asm) (by k_mem), rfl, _, rfl⟩); (case zu => ktr_units)) | (k_here; (with_reducible show wpAny _ _ (eval (Expr.Lambda _ _ _ _) _) _ _ _); k_dflt (refine' kla_eval ?d0 ?_; (case d0 => exact rfl)); k_dflt (refine' lam_any ?F ?N ?T ?C ?cd ?U ?S ?tl ?cl ?_; (case F => k_asm); (case N => k_asm); (case T => k_asm); (case cd => exact rfl); (case C => kn_code); (case U => k_updF); (case S => assumption); (case tl => first | (refine List.forall_mem_cons.mpr ⟨?ma, ?mb⟩; (case ma => k_mem); (case mb => exact (by repeat' (first | with_reducible assumption | refine sub_cons ?_)))) | exact (by repeat' (first | with_reducible assumption | refine sub_cons ?_))); (case cl => exact rfl); k_whole); intro f9 c9 oc9 vs9 t9 ct9 ps9 h9 tk9 F9 N9 d9 e9 S9 l9 l8 l7 w9; (try dsimp only at N9); (try k_lt l9); (try k_lt2 l8); (try k_lt2 l7)) | (k_here; (with_reducible show wpAny _ _ (call (Value.type "int") [Value.str _ _]) _ _ _); (refine KIN.call_text (by with_reducible assumption) (by omega) ?_)) | (k_here; (with_reducible show wpAny _ _ (call (Value.ref _) _) _ _ _); (first | ((with_reducible show wpAny _ _ (call (Value.ref 353) _) _ _ _); k_dflt (first | (refine' useSg (shown_whole_tree _ _ _ ?p1) ?k1 ?k2 ?k3 ?k4 ?k5 ?kK ?kd ?ku (ha1 ?kh) ?_; walk_at "u2"; (case kh => k_mem)) | (refine' useSg (shown_dec_tree _ _ _ _ _ ?p1 ?p2 ?p3) ?k1 ?k2 ?k3 ?k4 ?k5 ?kK ?kd ?ku (ha2 ?kh ?kh2) ?_; walk_at "u2"; (case kh => k_mem); (case kh2 => k_mem); (case p2 => walk_at "up"); (case p3 => walk_at "up"))); (case p1 => walk_at "up"); (intro y9 t9 h9 tk9 hy9 F9 N9; (try (rename ∀ y : Str, sgs y = _ → NumText (sgs y) ∧ ntree (sgs y) = _ => hb9; have hb8 := hb9 _ hy9; obtain ⟨hb7, hb6⟩ := hb8)); walk_at "u3")) | ((with_reducible show wpAny _ _ (call (Value.ref 375) _) _ _ _); k_dflt (refine' useX (d_of_text _ _ _ _ _ ?p1 ?p2 ?p3 ?p4) ?k1 ?k2 ?k3 ?k4 ?k5 ?kK ?kd ?ku ?kx ?_; (case p1 => walk_at "up"); (case p2 => walk_at "up"); (case p3 => walk_at "up"); (case p4 => walk_at "up"); walk_at "u2"; (case kx => walk_at "uf")); (intro r9 v9 tl9 h9 tk9 hr9 F9 N9 l9 o9; walk_at "u3")) | ((with_reducible show wpAny _ _ (call (Value.ref 243) _) _ _ _); (rename ntree _ = Tr.dec _ _ => ht9); k_dflt (refine' useM (number_tree _ _ _ ?p1 ?p2) ?k1 ?k2 ?k3 ?k4 ?k5 ?kK ?kd ?ku ?_; (case p1 => walk_at "up"); (case p2 => walk_at "up"); walk_at "u2"); (intro r9 tl9 h9 tk9 F9 N9 l9 o9; rw [ht9] at o9; obtain ⟨D9, D8, a9, b9, c9, e9, e8, lt9⟩ := o9; subst e9; subst e8; dsimp only [List.cons_append, List.nil_append] at N9; (have l9' := fun q hq => l9 q hq (D9, _) (.head _)); (have l9b := fun q hq => l9 q hq (D8, _) (.tail _ (.head _))); clear l9; (try k_lt l9'); (try k_lt l9b); walk_at "u3")) | ((with_reducible show wpAny _ _ (call (Value.ref 243) _) _ _ _); (rename ntree _ = Tr.whole _ => ht9); k_dflt (refine' useM (number_tree _ _ _ ?p1 ?p2) ?k1 ?k2 ?k3 ?k4 ?k5 ?kK ?kd ?ku ?_; (case p1 => walk_at "up"); (case p2 => walk_at "up"); walk_at "u2"); (intro r9 tl9 h9 tk9 F9 N9 l9 o9; rw [ht9] at o9; obtain ⟨D9, a9, b9, e9, e8⟩ := o9; subst e9; subst e8; dsimp only [List.cons_append, List.nil_append] at N9; (have l9' := fun q hq => l9 q hq (D9, _) (.head _)); clear l9; (try k_lt l9'); walk_at "u3")) | ((with_reducible show wpAny _ _ (call (Value.ref 403) _) _ _ _); (rename mk _ _ _ = none => hm9); k_dflt (refine' useS (near_none _ _ _ _ _ _ () ?p1 ?p2 ?p3 ?p4 ?p5 hm9) ?k1 ?k2 ?k3 ?k4 ?k5 ?kK ?kd ?ku ?_; (case p1 => walk_at "up"); (case p2 => walk_at "up"); (case p3 => walk_at "up"); (case p4 => walk_at "up"); (case p5 => (first | decide | omega | (split <;> omega))); walk_at "u2"); (intro t9 h9 tk9 F9 N9; walk_at "u3")) | ((with_reducible show wpAny _ _ (call (Value.ref 403) _) _ _ _); (rename mk _ _ _ = some _ => hm9); k_dflt (refine' useII (near_some _ _ _ _ _ _ _ ?p1 ?p2 ?p3 ?p4 ?p5 hm9) ?k1 ?k2 ?k3 ?k4 ?k5 ?kK ?kd ?ku ?_; (case p1 => walk_at "up"); (case p2 => walk_at "up"); (case p3 => walk_at "up"); (case p4 => walk_at "up"); (case p5 => (first | decide | omega | (split <;> omega))); walk_at "u2"); (intro D9 a9 b9 h9 tk9 F9 N9 l9; (try k_lt l9); walk_at "u3")) | ((with_reducible show wpAny _ _ (call (Value.ref 417) _) _ _ _); k_dflt (first | (refine' useAB (is_back_whole _ _ _ _ ?p1 ?p2) ?k1 ?k2 ?k3 ?k4 ?k5 ?kK ?kd ?ku (ha1 ?kh) ?_; (case p2 => assumption); walk_at "u2"; (case kh => k_mem)) | (refine' useAB (is_back_dec _ _ _ _ _ _ ?p1 ?p2) ?k1 ?k2 ?k3 ?k4 ?k5 ?kK ?kd ?ku (ha2 ?kh ?kh2) ?_; (case p2 => assumption); walk_at "u2"; (case kh => k_mem); (case kh2 => k_mem))); (case p1 => assumption); (intro h9 tk9 F9 N9; walk_at "u3")) | ((with_reducible show wpAny _ _ (call (Value.ref 389) _) _ _ _); k_dflt (refine' useA (worth_dec _ _ _ _ _ _ _ _ _ _ _ ?p1 ?p2) ?k1 ?k2 ?k3 ?k4 ?k5 ?kK ?kd ?ku (ha2 ?kh ?kh2) ?kx ?_; walk_at "u2"; (case kh => k_mem); (case kh2 => k_mem); (case p1 => walk_at "up"); (case p2 => walk_at "up"); (case kx => walk_at "uf")); (intro r9 v9 tl9 h9 tk9 hr9 F9 N9 l9 o9; walk_at "u3")) | ((with_reducible show wpAny _ _ (call (Value.ref 389) _) _ _ _); k_dflt (refine' useA (worth_whole _ _ _ _ _ _ _ _ ?p1 ?p2) ?k1 ?k2 ?k3 ?k4 ?k5 ?kK ?kd ?ku (ha1 ?kh) ?kx ?_; walk_at "u2"; (case kh => k_mem); (case p1 => walk_at "up"); (case p2 => walk_at "up"); (case kx => walk_at "uf")); (intro r9 v9 tl9 h9 tk9 hr9 F9 N9 l9 o9; walk_at "u3")))) | walk_at "wk"))
            exact CutN.mk (by with_reducible assumption) (by with_reducible assumption) (by repeat' (first | exact sub_refl _ | refine sub_cons ?_))
        case' nBre =>
          intro h9 tk9 F9 N9
          clear FF NN
          (try dsimp only)
          (repeat' (first | ((fail_if_success (with_reducible show wpAny _ _ (call (Value.ref 410) _) _ _ _)); (first | (k_here; (with_reducible show wpAny _ _ (compareOp CmpOp.Eq (Value.ref _) (Value.str _ _)) _ _ _); (refine cmp_ofEq ?_); k_dflt (refine' SeqAt.RcAt.tuple_str _ _ ?zh ?zu _ _ _ _ ?_); (case zh => exact ⟨_, News.get (by k_asm) (by k_mem), rfl, _, rfl⟩); (case zu => ktr_units)) | (k_here; (with_reducible show wpAny _ _ (eval (Expr.Lambda _ _ _ _) _) _ _ _); k_dflt (refine' kla_eval ?d0 ?_; (case d0 => exact rfl)); k_dflt (refine' lam_any ?F ?N ?T ?C ?cd ?U ?S ?tl ?cl ?_; (case F => k_asm); (case N => k_asm); (case T => k_asm); (case cd => exact rfl); (case C => kn_code); (case U => k_updF); (case S => assumption); (case tl => first | (refine List.forall_mem_cons.mpr ⟨?ma, ?mb⟩; (case ma => k_mem); (case mb => exact (by repeat' (first | with_reducible assumption | refine sub_cons ?_)))) | exact (by repeat' (first | with_reducible assumption | refine sub_cons ?_))); (case cl => exact rfl); k_whole); intro f9 c9 oc9 vs9 t9 ct9 ps9 h9 tk9 F9 N9 d9 e9 S9 l9 l8 l7 w9; (try dsimp only at N9); (try k_lt l9); (try k_lt2 l8); (try k_lt2 l7)) | (k_here; (with_reducible show wpAny _ _ (call (Value.type "int") [Value.str _ _]) _ _ _); (refine KIN.call_text (by with_reducible assumption) (by omega) ?_)) | (k_here; (with_reducible show wpAny _ _ (call (Value.ref _) _) _ _ _); (first | ((with_reducible show wpAny _ _ (call (Value.ref 353) _) _ _ _); k_dflt (first | (refine' useSg (shown_whole_tree _ _ _ ?p1) ?k1 ?k2 ?k3 ?k4 ?k5 ?kK ?kd ?ku (ha1 ?kh) ?_; walk_at "u2"; (case kh => k_mem)) | (refine' useSg (shown_dec_tree _ _ _ _ _ ?p1 ?p2 ?p3) ?k1 ?k2 ?k3 ?k4 ?k5 ?kK ?kd ?ku (ha2 ?kh ?kh2) ?_; walk_at "u2"; (case kh => k_mem); (case kh2 => k_mem); (case p2 => walk_at "up"); (case p3 => walk_at "up"))); (case p1 => walk_at "up"); (intro y9 t9 h9 tk9 hy9 F9 N9; (try (rename ∀ y : Str, sgs y = _ → NumText (sgs y) ∧ ntree (sgs y) = _ => hb9; have hb8 := hb9 _ hy9; obtain ⟨hb7, hb6⟩ := hb8)); walk_at "u3")) | ((with_reducible show wpAny _ _ (call (Value.ref 375) _) _ _ _); k_dflt (refine' useX (d_of_text _ _ _ _ _ ?p1 ?p2 ?p3 ?p4) ?k1 ?k2 ?k3 ?k4 ?k5 ?kK ?kd ?ku ?kx ?_; (case p1 => walk_at "up"); (case p2 => walk_at "up"); (case p3 => walk_at "up"); (case p4 => walk_at "up"); walk_at "u2"; (case kx => walk_at "uf")); (intro r9 v9 tl9 h9 tk9 hr9 F9 N9 l9 o9; walk_at "u3")) | ((with_reducible show wpAny _ _ (call (Value.ref 243) _) _ _ _); (rename ntree _ = Tr.dec _ _ => ht9); k_dflt (refine' useM (number_tree _ _ _ ?p1 ?p2) ?k1 ?k2 ?k3 ?k4 ?k5 ?kK ?kd ?ku ?_; (case p1 => walk_at "up"); (case p2 => walk_at "up"); walk_at "u2"); (intro r9 tl9 h9 tk9 F9 N9 l9 o9; rw [ht9] at o9; obtain ⟨D9, D8, a9, b9, c9, e9, e8, lt9⟩ := o9; subst e9; subst e8; dsimp only [List.cons_append, List.nil_append] at N9; (have l9' := fun q hq => l9 q hq (D9, _) (.head _)); (have l9b := fun q hq => l9 q hq (D8, _) (.tail _ (.head _))); clear l9; (try k_lt l9'); (try k_lt l9b); walk_at "u3")) | ((with_reducible show wpAny _ _ (call (Value.ref 243) _) _ _ _); (rename ntree _ = Tr.whole _ => ht9); k_dflt (refine' useM (number_tree _ _ _ ?p1 ?p2) ?k1 ?k2 ?k3 ?k4 ?k5 ?kK ?kd ?ku ?_; (case p1 => walk_at "up"); (case p2 => walk_at "up"); walk_at "u2"); (intro r9 tl9 h9 tk9 F9 N9 l9 o9; rw [ht9] at o9; obtain ⟨D9, a9, b9, e9, e8⟩ := o9; subst e9; subst e8; dsimp only [List.cons_append, List.nil_append] at N9; (have l9' := fun q hq => l9 q hq (D9, _) (.head _)); clear l9; (try k_lt l9'); walk_at "u3")) | ((with_reducible show wpAny _ _ (call (Value.ref 403) _) _ _ _); (rename mk _ _ _ = none => hm9); k_dflt (refine' useS (near_none _ _ _ _ _ _ () ?p1 ?p2 ?p3 ?p4 ?p5 hm9) ?k1 ?k2 ?k3 ?k4 ?k5 ?kK ?kd ?ku ?_; (case p1 => walk_at "up"); (case p2 => walk_at "up"); (case p3 => walk_at "up"); (case p4 => walk_at "up"); (case p5 => (first | decide | omega | (split <;> omega))); walk_at "u2"); (intro t9 h9 tk9 F9 N9; walk_at "u3")) | ((with_reducible show wpAny _ _ (call (Value.ref 403) _) _ _ _); (rename mk _ _ _ = some _ => hm9); k_dflt (refine' useII (near_some _ _ _ _ _ _ _ ?p1 ?p2 ?p3 ?p4 ?p5 hm9) ?k1 ?k2 ?k3 ?k4 ?k5 ?kK ?kd ?ku ?_; (case p1 => walk_at "up"); (case p2 => walk_at "up"); (case p3 => walk_at "up"); (case p4 => walk_at "up"); (case p5 => (first | decide | omega | (split <;> omega))); walk_at "u2"); (intro D9 a9 b9 h9 tk9 F9 N9 l9; (try k_lt l9); walk_at "u3")) | ((with_reducible show wpAny _ _ (call (Value.ref 417) _) _ _ _); k_dflt (first | (refine' useAB (is_back_whole _ _ _ _ ?p1 ?p2) ?k1 ?k2 ?k3 ?k4 ?k5 ?kK ?kd ?ku (ha1 ?kh) ?_; (case p2 => assumption); walk_at "u2"; (case kh => k_mem)) | (refine' useAB (is_back_dec _ _ _ _ _ _ ?p1 ?p2) ?k1 ?k2 ?k3 ?k4 ?k5 ?kK ?kd ?ku (ha2 ?kh ?kh2) ?_; (case p2 => assumption); walk_at "u2"; (case kh => k_mem); (case kh2 => k_mem))); (case p1 => assumption); (intro h9 tk9 F9 N9; walk_at "u3")) | ((with_reducible show wpAny _ _ (call (Value.ref 389) _) _ _ _); k_dflt (refine' useA (worth_dec _ _ _ _ _ _ _ _ _ _ _ ?p1 ?p2) ?k1 ?k2 ?k3 ?k4 ?k5 ?kK ?kd ?ku (ha2 ?kh ?kh2) ?kx ?_; walk_at "u2"; (case kh => k_mem); (case kh2 => k_mem); (case p1 => walk_at "up"); (case p2 => walk_at "up"); (case kx => walk_at "uf")); (intro r9 v9 tl9 h9 tk9 hr9 F9 N9 l9 o9; walk_at "u3")) | ((with_reducible show wpAny _ _ (call (Value.ref 389) _) _ _ _); k_dflt (refine' useA (worth_whole _ _ _ _ _ _ _ _ ?p1 ?p2) ?k1 ?k2 ?k3 ?k4 ?k5 ?kK ?kd ?ku (ha1 ?kh) ?kx ?_; walk_at "u2"; (case kh => k_mem); (case p1 => walk_at "up"); (case p2 => walk_at "up"); (case kx => walk_at "uf")); (intro r9 v9 tl9 h9 tk9 hr9 F9 N9 l9 o9; walk_at "u3")))) | walk_at "wk"))))
          k_dflt (refine' useT ?nbk4 ?nbk2 ?nbk1 ?nbk3 ?nbk5 XB TB ?nbk6 ?nbkK ?nbkd ?nbku (law_heard w _ 20 340 _ _ _ _ _ (told (numN (sgs (F ++ B ++ P))) ((powerAt (sgs (F ++ B ++ P)) (numA (sgs (F ++ B ++ P)))).1 - (numP (sgs (F ++ B ++ P)) : Nat)) dg) (fun r => OutDT r.1 r.2 ((powerAt (sgs (F ++ B ++ P)) (numA (sgs (F ++ B ++ P)))).2 : Nat)) ?nbC) ?nbkq)
          (case nbk4 => k_asm)
          (case nbk2 => k_asm)
          (case nbk1 => k_asm)
          (case nbk3 => k_asm)
          (case nbk5 => k_asm)
          (case nbk6 => k_asm)
          (case nbkK => exact rfl)
          (case nbkd => ktr_room)
          (case nbku => ktr_units)
          case' nbC =>
            unfold MeetsA
            k_fill
            intro p2 loose2 mean2 mg2 mb2 dp2 un2 gd2 cn2 cs2 a2 ccd2 cl2 outer2 A2 base2 g2 L2 m2 news2 s2 Q2 E2 hrw2 B2 F2 X2 N2 T2 hk2 hd2 hu2 hret2 hexc2
            clear hrw2
            dsimp only [List.cons_append, List.nil_append] at N2 hret2 hexc2
            walk_at "call lambda"
            (repeat' (first | (k_here; (with_reducible show wpAny _ _ (compareOp CmpOp.Eq (Value.ref _) (Value.str _ _)) _ _ _); (refine cmp_ofEq ?_); k_dflt (refine' SeqAt.RcAt.tuple_str _ _ ?zh ?zu _ _ _ _ ?_); (case zh => exact ⟨_, News.get (by k_asm) (by k_mem), rfl, _, rfl⟩); (case zu => ktr_units)) | (k_here; (with_reducible show wpAny _ _ (eval (Expr.Lambda _ _ _ _) _) _ _ _); k_dflt (refine' kla_eval ?d0 ?_; (case d0 => exact rfl)); k_dflt (refine' lam_any ?F ?N ?T ?C ?cd ?U ?S ?tl ?cl ?_; (case F => k_asm); (case N => k_asm); (case T => k_asm); (case cd => exact rfl); (case C => kn_code); (case U => k_updF); (case S => assumption); (case tl => first | (refine List.forall_mem_cons.mpr ⟨?ma, ?mb⟩; (case ma => k_mem); (case mb => exact (by repeat' (first | with_reducible assumption | refine sub_cons ?_)))) | exact (by repeat' (first | with_reducible assumption | refine sub_cons ?_))); (case cl => exact rfl); k_whole); intro f9 c9 oc9 vs9 t9 ct9 ps9 h9 tk9 F9 N9 d9 e9 S9 l9 l8 l7 w9; (try dsimp only at N9); (try k_lt l9); (try k_lt2 l8); (try k_lt2 l7)) | (k_here; (with_reducible show wpAny _ _ (call (Value.type "int") [Value.str _ _]) _ _ _); (refine KIN.call_text (by with_reducible assumption) (by omega) ?_)) | (k_here; (with_reducible show wpAny _ _ (call (Value.ref _) _) _ _ _); (first | ((with_reducible show wpAny _ _ (call (Value.ref 353) _) _ _ _); k_dflt (first | (refine' useSg (shown_whole_tree _ _ _ ?p1) ?k1 ?k2 ?k3 ?k4 ?k5 ?kK ?kd ?ku (ha1 ?kh) ?_; walk_at "u2"; (case kh => k_mem)) | (refine' useSg (shown_dec_tree _ _ _ _ _ ?p1 ?p2 ?p3) ?k1 ?k2 ?k3 ?k4 ?k5 ?kK ?kd ?ku (ha2 ?kh ?kh2) ?_; walk_at "u2"; (case kh => k_mem); (case kh2 => k_mem); (case p2 => walk_at "up"); (case p3 => walk_at "up"))); (case p1 => walk_at "up"); (intro y9 t9 h9 tk9 hy9 F9 N9; (try (rename ∀ y : Str, sgs y = _ → NumText (sgs y) ∧ ntree (sgs y) = _ => hb9; have hb8 := hb9 _ hy9; obtain ⟨hb7, hb6⟩ := hb8)); walk_at "u3")) | ((with_reducible show wpAny _ _ (call (Value.ref 375) _) _ _ _); k_dflt (refine' useX (d_of_text _ _ _ _ _ ?p1 ?p2 ?p3 ?p4) ?k1 ?k2 ?k3 ?k4 ?k5 ?kK ?kd ?ku ?kx ?_; (case p1 => walk_at "up"); (case p2 => walk_at "up"); (case p3 => walk_at "up"); (case p4 => walk_at "up"); walk_at "u2"; (case kx => walk_at "uf")); (intro r9 v9 tl9 h9 tk9 hr9 F9 N9 l9 o9; walk_at "u3")) | ((with_reducible show wpAny _ _ (call (Value.ref 243) _) _ _ _); (rename ntree _ = Tr.dec _ _ => ht9); k_dflt (refine' useM (number_tree _ _ _ ?p1 ?p2) ?k1 ?k2 ?k3 ?k4 ?k5 ?kK ?kd ?ku ?_; (case p1 => walk_at "up"); (case p2 => walk_at "up"); walk_at "u2"); (intro r9 tl9 h9 tk9 F9 N9 l9 o9; rw [ht9] at o9; obtain ⟨D9, D8, a9, b9, c9, e9, e8, lt9⟩ := o9; subst e9; subst e8; dsimp only [List.cons_append, List.nil_append] at N9; (have l9' := fun q hq => l9 q hq (D9, _) (.head _)); (have l9b := fun q hq => l9 q hq (D8, _) (.tail _ (.head _))); clear l9; (try k_lt l9'); (try k_lt l9b); walk_at "u3")) | ((with_reducible show wpAny _ _ (call (Value.ref 243) _) _ _ _); (rename ntree _ = Tr.whole _ => ht9); k_dflt (refine' useM (number_tree _ _ _ ?p1 ?p2) ?k1 ?k2 ?k3 ?k4 ?k5 ?kK ?kd ?ku ?_; (case p1 => walk_at "up"); (case p2 => walk_at "up"); walk_at "u2"); (intro r9 tl9 h9 tk9 F9 N9 l9 o9; rw [ht9] at o9; obtain ⟨D9, a9, b9, e9, e8⟩ := o9; subst e9; subst e8; dsimp only [List.cons_append, List.nil_append] at N9; (have l9' := fun q hq => l9 q hq (D9, _) (.head _)); clear l9; (try k_lt l9'); walk_at "u3")) | ((with_reducible show wpAny _ _ (call (Value.ref 403) _) _ _ _); (rename mk _ _ _ = none => hm9); k_dflt (refine' useS (near_none _ _ _ _ _ _ () ?p1 ?p2 ?p3 ?p4 ?p5 hm9) ?k1 ?k2 ?k3 ?k4 ?k5 ?kK ?kd ?ku ?_; (case p1 => walk_at "up"); (case p2 => walk_at "up"); (case p3 => walk_at "up"); (case p4 => walk_at "up"); (case p5 => (first | decide | omega | (split <;> omega))); walk_at "u2"); (intro t9 h9 tk9 F9 N9; walk_at "u3")) | ((with_reducible show wpAny _ _ (call (Value.ref 403) _) _ _ _); (rename mk _ _ _ = some _ => hm9); k_dflt (refine' useII (near_some _ _ _ _ _ _ _ ?p1 ?p2 ?p3 ?p4 ?p5 hm9) ?k1 ?k2 ?k3 ?k4 ?k5 ?kK ?kd ?ku ?_; (case p1 => walk_at "up"); (case p2 => walk_at "up"); (case p3 => walk_at "up"); (case p4 => walk_at "up"); (case p5 => (first | decide | omega | (split <;> omega))); walk_at "u2"); (intro D9 a9 b9 h9 tk9 F9 N9 l9; (try k_lt l9); walk_at "u3")) | ((with_reducible show wpAny _ _ (call (Value.ref 417) _) _ _ _); k_dflt (first | (refine' useAB (is_back_whole _ _ _ _ ?p1 ?p2) ?k1 ?k2 ?k3 ?k4 ?k5 ?kK ?kd ?ku (ha1 ?kh) ?_; (case p2 => assumption); walk_at "u2"; (case kh => k_mem)) | (refine' useAB (is_back_dec _ _ _ _ _ _ ?p1 ?p2) ?k1 ?k2 ?k3 ?k4 ?k5 ?kK ?kd ?ku (ha2 ?kh ?kh2) ?_; (case p2 => assumption); walk_at "u2"; (case kh => k_mem); (case kh2 => k_mem))); (case p1 => assumption); (intro h9 tk9 F9 N9; walk_at "u3")) | ((with_reducible show wpAny _ _ (call (Value.ref 389) _) _ _ _); k_dflt (refine' useA (worth_dec _ _ _ _ _ _ _ _ _ _ _ ?p1 ?p2) ?k1 ?k2 ?k3 ?k4 ?k5 ?kK ?kd ?ku (ha2 ?kh ?kh2) ?kx ?_; walk_at "u2"; (case kh => k_mem); (case kh2 => k_mem); (case p1 => walk_at "up"); (case p2 => walk_at "up"); (case kx => walk_at "uf")); (intro r9 v9 tl9 h9 tk9 hr9 F9 N9 l9 o9; walk_at "u3")) | ((with_reducible show wpAny _ _ (call (Value.ref 389) _) _ _ _); k_dflt (refine' useA (worth_whole _ _ _ _ _ _ _ _ ?p1 ?p2) ?k1 ?k2 ?k3 ?k4 ?k5 ?kK ?kd ?ku (ha1 ?kh) ?kx ?_; walk_at "u2"; (case kh => k_mem); (case p1 => walk_at "up"); (case p2 => walk_at "up"); (case kx => walk_at "uf")); (intro r9 v9 tl9 h9 tk9 hr9 F9 N9 l9 o9; walk_at "u3")))) | walk_at "wk"))
            exact hret2 _ (by assumption) _ _ _ _ (by k_asm) (by k_asm) (by assumption) (by assumption)
          case' nbkq =>
            intro r7 tl7 h7 h7' tk7 T7 F7 N7 l7 B7 X7 P7 D7 o7
            rw [DD.xt, show mk n e1 dg = none by assumption] at o7
            obtain ⟨e5, t7, e6⟩ := o7
            subst e5
            subst e6
            clear B8 X8 P8 D8
            dsimp only [List.cons_append, List.nil_append] at N7
            try k_lift B7
            (repeat' (first | (k_here; (with_reducible show wpAny _ _ (compareOp CmpOp.Eq (Value.ref _) (Value.str _ _)) _ _ _); (refine cmp_ofEq ?_); k_dflt (refine' SeqAt.RcAt.tuple_str _ _ ?zh ?zu _ _ _ _ ?_); (case zh => exact ⟨_, News.get (by k_asm) (by k_mem), rfl, _, rfl⟩); (case zu => ktr_units)) | (k_here; (with_reducible show wpAny _ _ (eval (Expr.Lambda _ _ _ _) _) _ _ _); k_dflt (refine' kla_eval ?d0 ?_; (case d0 => exact rfl)); k_dflt (refine' lam_any ?F ?N ?T ?C ?cd ?U ?S ?tl ?cl ?_; (case F => k_asm); (case N => k_asm); (case T => k_asm); (case cd => exact rfl); (case C => kn_code); (case U => k_updF); (case S => assumption); (case tl => first | (refine List.forall_mem_cons.mpr ⟨?ma, ?mb⟩; (case ma => k_mem); (case mb => exact (by repeat' (first | with_reducible assumption | refine sub_cons ?_)))) | exact (by repeat' (first | with_reducible assumption | refine sub_cons ?_))); (case cl => exact rfl); k_whole); intro f9 c9 oc9 vs9 t9 ct9 ps9 h9 tk9 F9 N9 d9 e9 S9 l9 l8 l7 w9; (try dsimp only at N9); (try k_lt l9); (try k_lt2 l8); (try k_lt2 l7)) | (k_here; (with_reducible show wpAny _ _ (call (Value.type "int") [Value.str _ _]) _ _ _); (refine KIN.call_text (by with_reducible assumption) (by omega) ?_)) | (k_here; (with_reducible show wpAny _ _ (call (Value.ref _) _) _ _ _); (first | ((with_reducible show wpAny _ _ (call (Value.ref 353) _) _ _ _); k_dflt (first | (refine' useSg (shown_whole_tree _ _ _ ?p1) ?k1 ?k2 ?k3 ?k4 ?k5 ?kK ?kd ?ku (ha1 ?kh) ?_; walk_at "u2"; (case kh => k_mem)) | (refine' useSg (shown_dec_tree _ _ _ _ _ ?p1 ?p2 ?p3) ?k1 ?k2 ?k3 ?k4 ?k5 ?kK ?kd ?ku (ha2 ?kh ?kh2) ?_; walk_at "u2"; (case kh => k_mem); (case kh2 => k_mem); (case p2 => walk_at "up"); (case p3 => walk_at "up"))); (case p1 => walk_at "up"); (intro y9 t9 h9 tk9 hy9 F9 N9; (try (rename ∀ y : Str, sgs y = _ → NumText (sgs y) ∧ ntree (sgs y) = _ => hb9; have hb8 := hb9 _ hy9; obtain ⟨hb7, hb6⟩ := hb8)); walk_at "u3")) | ((with_reducible show wpAny _ _ (call (Value.ref 375) _) _ _ _); k_dflt (refine' useX (d_of_text _ _ _ _ _ ?p1 ?p2 ?p3 ?p4) ?k1 ?k2 ?k3 ?k4 ?k5 ?kK ?kd ?ku ?kx ?_; (case p1 => walk_at "up"); (case p2 => walk_at "up"); (case p3 => walk_at "up"); (case p4 => walk_at "up"); walk_at "u2"; (case kx => walk_at "uf")); (intro r9 v9 tl9 h9 tk9 hr9 F9 N9 l9 o9; walk_at "u3")) | ((with_reducible show wpAny _ _ (call (Value.ref 243) _) _ _ _); (rename ntree _ = Tr.dec _ _ => ht9); k_dflt (refine' useM (number_tree _ _ _ ?p1 ?p2) ?k1 ?k2 ?k3 ?k4 ?k5 ?kK ?kd ?ku ?_; (case p1 => walk_at "up"); (case p2 => walk_at "up"); walk_at "u2"); (intro r9 tl9 h9 tk9 F9 N9 l9 o9; rw [ht9] at o9; obtain ⟨D9, D8, a9, b9, c9, e9, e8, lt9⟩ := o9; subst e9; subst e8; dsimp only [List.cons_append, List.nil_append] at N9; (have l9' := fun q hq => l9 q hq (D9, _) (.head _)); (have l9b := fun q hq => l9 q hq (D8, _) (.tail _ (.head _))); clear l9; (try k_lt l9'); (try k_lt l9b); walk_at "u3")) | ((with_reducible show wpAny _ _ (call (Value.ref 243) _) _ _ _); (rename ntree _ = Tr.whole _ => ht9); k_dflt (refine' useM (number_tree _ _ _ ?p1 ?p2) ?k1 ?k2 ?k3 ?k4 ?k5 ?kK ?kd ?ku ?_; (case p1 => walk_at "up"); (case p2 => walk_at "up"); walk_at "u2"); (intro r9 tl9 h9 tk9 F9 N9 l9 o9; rw [ht9] at o9; obtain ⟨D9, a9, b9, e9, e8⟩ := o9; subst e9; subst e8; dsimp only [List.cons_append, List.nil_append] at N9; (have l9' := fun q hq => l9 q hq (D9, _) (.head _)); clear l9; (try k_lt l9'); walk_at "u3")) | ((with_reducible show wpAny _ _ (call (Value.ref 403) _) _ _ _); (rename mk _ _ _ = none => hm9); k_dflt (refine' useS (near_none _ _ _ _ _ _ () ?p1 ?p2 ?p3 ?p4 ?p5 hm9) ?k1 ?k2 ?k3 ?k4 ?k5 ?kK ?kd ?ku ?_; (case p1 => walk_at "up"); (case p2 => walk_at "up"); (case p3 => walk_at "up"); (case p4 => walk_at "up"); (case p5 => (first | decide | omega | (split <;> omega))); walk_at "u2"); (intro t9 h9 tk9 F9 N9; walk_at "u3")) | ((with_reducible show wpAny _ _ (call (Value.ref 403) _) _ _ _); (rename mk _ _ _ = some _ => hm9); k_dflt (refine' useII (near_some _ _ _ _ _ _ _ ?p1 ?p2 ?p3 ?p4 ?p5 hm9) ?k1 ?k2 ?k3 ?k4 ?k5 ?kK ?kd ?ku ?_; (case p1 => walk_at "up"); (case p2 => walk_at "up"); (case p3 => walk_at "up"); (case p4 => walk_at "up"); (case p5 => (first | decide | omega | (split <;> omega))); walk_at "u2"); (intro D9 a9 b9 h9 tk9 F9 N9 l9; (try k_lt l9); walk_at "u3")) | ((with_reducible show wpAny _ _ (call (Value.ref 417) _) _ _ _); k_dflt (first | (refine' useAB (is_back_whole _ _ _ _ ?p1 ?p2) ?k1 ?k2 ?k3 ?k4 ?k5 ?kK ?kd ?ku (ha1 ?kh) ?_; (case p2 => assumption); walk_at "u2"; (case kh => k_mem)) | (refine' useAB (is_back_dec _ _ _ _ _ _ ?p1 ?p2) ?k1 ?k2 ?k3 ?k4 ?k5 ?kK ?kd ?ku (ha2 ?kh ?kh2) ?_; (case p2 => assumption); walk_at "u2"; (case kh => k_mem); (case kh2 => k_mem))); (case p1 => assumption); (intro h9 tk9 F9 N9; walk_at "u3")) | ((with_reducible show wpAny _ _ (call (Value.ref 389) _) _ _ _); k_dflt (refine' useA (worth_dec _ _ _ _ _ _ _ _ _ _ _ ?p1 ?p2) ?k1 ?k2 ?k3 ?k4 ?k5 ?kK ?kd ?ku (ha2 ?kh ?kh2) ?kx ?_; walk_at "u2"; (case kh => k_mem); (case kh2 => k_mem); (case p1 => walk_at "up"); (case p2 => walk_at "up"); (case kx => walk_at "uf")); (intro r9 v9 tl9 h9 tk9 hr9 F9 N9 l9 o9; walk_at "u3")) | ((with_reducible show wpAny _ _ (call (Value.ref 389) _) _ _ _); k_dflt (refine' useA (worth_whole _ _ _ _ _ _ _ _ ?p1 ?p2) ?k1 ?k2 ?k3 ?k4 ?k5 ?kK ?kd ?ku (ha1 ?kh) ?kx ?_; walk_at "u2"; (case kh => k_mem); (case p1 => walk_at "up"); (case p2 => walk_at "up"); (case kx => walk_at "uf")); (intro r9 v9 tl9 h9 tk9 hr9 F9 N9 l9 o9; walk_at "u3")))) | walk_at "wk"))
            rename TS _ _ _ _ => S2
            rename _ ∈ cd ∨ _ => wa
            rename _ ∈ _ :: cd ∨ _ => wb
            rename Fr h7 L' _ _ => FF
            rename News h7 L' _ _ => NN
            refine hQQ _ _ ?_
            (try dsimp only)
            refine close_N (news := news) S2 (KtsTurn.trans T8 T7) FF NN ?dCfh1 ?dCfh2 ?dCfh3 ?dCfin
            case dCfh1 =>
              refine List.forall_mem_cons.mpr ⟨?dCz1, ?dCz2⟩
              case dCz1 => k_mem
              refine List.forall_mem_cons.mpr ⟨?dCz3, ?dCz4⟩
              case dCz3 => k_mem
              exact (by repeat' (first | with_reducible assumption | refine sub_cons ?_))
            case dCfh2 => k_mem
            case dCfh3 => exact (by repeat' (first | exact sub_refl _ | refine sub_cons ?_))
            intro h6 T6 F6 N6 B6 X6 P6 D6
            have cc := cd_two (news := news) (P := 419) wa wb (List.forall_mem_cons.mpr ⟨(by k_mem), (by repeat' (first | exact sub_refl _ | refine sub_cons ?_))⟩) (List.forall_mem_cons.mpr ⟨(by k_mem), (by repeat' (first | exact sub_refl _ | refine sub_cons ?_))⟩)
            exact hret (.bool true) _ _ h6 _ _ T6 F6 N6 S2 cc.1 cc.2 B6 X6 P6 D6 rfl
 case hZ => delta id; exact pair_ _


noncomputable def OutSip (D0 : Addr) (i many : Int) (r : Value) (ob : Obj) (tl : Led) : Prop := tl = [] ∧ ∃ (k : Int) (t u : Tok) (n : Nat), r = .int k t ∧ 0 ≤ k ∧ k < many ∧ ob = W.listOf #[.ref D0, .int (i + 1) u] n
set_option maxHeartbeats 4000000 in
theorem sipped (w : World) (M D0 : Addr) (i many : Int) (ys : List Value) (ks : List Int) (t u : Tok) (n : Nat) (hi : 0 ≤ i) (hi2 : i ≤ 1000) (hm : 1 ≤ many) (hm2 : many ≤ 20) (hy : IntsAre ys ks) (hl : ys.length = ks.length) (hl2 : ks.length ≤ 30) (hlt : @LT.lt Nat _ D0 M) :
    MeetsU w 396 3 40 [.ref M, .int many u] M (W.listOf #[.ref D0, .int i t] n) [(D0, LCg.lst ys)] (OutSip D0 i many) := by
 refine (?fZ : PullF _) ?pZ ?qZ ?hZ
 case fZ => exact fun _ q _ => q
 case pZ =>
  unfold MeetsU
  k_fill
  intro p loose mean mg mb dp un gd cn cs a ccd cl outer A₀ base h₀ L m news s Q E hrw B F X N hne T hk hd hu hret
  clear hrw
  dsimp only [List.cons_append, List.nil_append] at N hret
  refine wpAny_call ?_
  k_dflt cell_enter
  (repeat' (first | walk_at "wk"))
  all_goals exact hret _ _ [] _ _ (by k_asm) (by k_asm) (fun _ _ _ h => nomatch h) ⟨rfl, _, _, _, _, rfl, Int.fmod_nonneg_of_pos _ (by omega), Int.fmod_lt_of_pos _ (by omega), rfl⟩
 case hZ => delta id; exact pair_ _
-- MACROS
-- END

/-! _law_number_right of any row's number -/
theorem right_any (w : World) (F B P : Str) (z : Int) (tF tB tP tg : Tok) (dg : Nat) (hR : RowNum (sgs F ++ sgs B ++ sgs P) (sgs F) (sgs B) (sgs P) z) (hpw : PowTxt P z) (hdg : 1 ≤ dg) :
    MeetsN w 424 60 1200 423 419 (Str.ofString "_law_number_right.<locals>.<lambda>") [.str F tF, .str B tB, .str P tP, .int (dg : Int) tg] (fun r => r = .bool true) := by
  by_cases h : sgs B = [] ∧ sgs P = []
  · obtain ⟨h1, h2⟩ := h
    have hz : z = 0 := by
      have := hR.p
      rw [h2] at this
      rcases this with ⟨_, q⟩ | ⟨q, _⟩ | ⟨_, _, q, _⟩
      · exact q
      · cases q
      · cases q
    subst hz
    rw [h1, h2, List.append_nil, List.append_nil] at hR
    have e1 : B = Str.ofString "" := str_eq (by rw [h1]; rfl)
    have e2 : P = Str.ofString "" := str_eq (by rw [h2]; rfl)
    subst e1 e2
    exact right_whole w F tF tB tP tg dg hR hdg
  · exact right_dec w F B P z tF tB tP tg dg hR h hpw hdg
section
variable {w : World} {f : Addr} {d u : Nat} {c P : Addr} {qual : Str} {vs : List Value} {Out : Value → Prop} {g : Obj → Led} {ps : Array Value} {cd : Led} {p : Program} {loose : List Str} {mean : ExcName → Option Value} {mg mb : Str → Option Value} {dp un : Nat} {gd : Option (List Code)} {cn : Str} {cs : Scope} {a : Addr} {ccd : Value} {cl : List (Str × Addr)} {outer : List Env} {A₀ : Around} {base h₀ : Heap} {L : Addr} {m : Str → Option Value} {news : Led} {s : Shared} {Q E : Value → Shared → Prop}
theorem useN (C : MeetsN w f d u c P qual vs Out) (N : News h₀ L s.heap news) (F : Fr h₀ L s.heap m) (B : Below A₀ base outer h₀) (X : (Mine.K w.params).In h₀) (T : Top p loose mean mg mb h₀) (XB : (Mine.K w.params).In base) (TB : Top p loose mean mg mb base) (D : KtsDicts (outer.filterMap (·.frame)) h₀)
    (CH : CodeHd base c P) (hk : cs.kind = .function) (hd : dp + d < recursionLimit) (hu : un + u < cLine) (U : UpdF P (tabObj ps) news g) (S : TS P qual ps cd) (hcd : ∀ q ∈ cd, q ∈ news) (hcdP : ∀ q ∈ cd, q.1 ≠ P)
    (k : ∀ r cd' ps' h₀' h' tk', KtsTurn (outer.filterMap (·.frame)) h₀ h₀' → Fr h₀' L h' m → News h₀' L h' (g (tabObj ps') ++ cd') → TS P qual ps' cd' → (∀ x ∈ cd', x ∈ cd ∨ ∀ q ∈ news, q.1 ≠ P → q.1 < x.1) → (∀ x ∈ cd', x.1 ≠ P) → Below A₀ base outer h₀' → (Mine.K w.params).In h₀' → Top p loose mean mg mb h₀' → KtsDicts (outer.filterMap (·.frame)) h₀' → Out r → Q r { s with heap := h', toks := tk' }) :
    wpAny (model prg w) (ktrTop dp un gd cn cs L a ccd cl outer) (call (.ref f) vs) Q E s := by
  obtain ⟨pre, post, hn, hg, h1, h2⟩ := U.split
  refine C p loose mean mg mb dp un gd cn cs a ccd cl outer A₀ base h₀ L m (pre ++ post) s Q E ps cd rfl B F X (fun q hq => ?_) S (fun q hq => ?_) (fun q hq => ?_) T hk hd hu XB TB D CH fun r cd' ps' h₀' h' tk' T' F' N' S' l l' B' X' P' D' o => k r cd' ps' h₀' h' tk' T' F' (fun q hq => ?_) S' (fun x hx => ?_) (fun x hx => ?_) B' X' P' D' o
  · rw [hn] at N
    rcases List.mem_cons.mp hq with rfl | hq
    · exact N _ (List.mem_append_right _ (.head _))
    rcases List.mem_append.mp hq with hq | hq
    · exact N _ (List.mem_append_left _ hq)
    · exact N _ (List.mem_append_right _ (.tail _ hq))
  · have z := hcd q hq
    rw [hn] at z
    rcases List.mem_append.mp z with z | z
    · exact List.mem_append_left _ z
    rcases List.mem_cons.mp z with z | z
    · exact absurd (by rw [z]) (hcdP q hq)
    · exact List.mem_append_right _ z
  · rcases List.mem_append.mp hq with hq | hq
    · exact h1 _ hq
    · exact h2 _ hq
  · refine N' _ ?_
    rcases List.mem_append.mp hq with hq | hq
    · rw [hg] at hq
      rcases List.mem_append.mp hq with hq | hq
      · exact List.mem_append_right _ (.tail _ (List.mem_append_left _ hq))
      rcases List.mem_cons.mp hq with rfl | hq
      · exact List.mem_append_right _ (.head _)
      · exact List.mem_append_right _ (.tail _ (List.mem_append_right _ hq))
    · exact List.mem_append_left _ hq
  · rcases l x hx with z | z
    · exact .inl z
    · refine .inr fun q hq hP => z q ?_
      rw [hn] at hq
      rcases List.mem_append.mp hq with hq | hq
      · exact List.mem_append_left _ hq
      rcases List.mem_cons.mp hq with rfl | hq
      · exact absurd rfl hP
      · exact List.mem_append_right _ hq
  · rcases l' x hx with z | z
    · exact hcdP x z
    · exact fun e => absurd z (by rw [e]; exact Nat.lt_irrefl _)
end

/-! _law_by_six -/
noncomputable def MeetsB (w : World) (f : Addr) (d u : Nat) (c P : Addr) (qual : Str) (vs : List Value) (Out : Value → Led → Prop) : Prop :=
  ∀ (p : Program) (loose : List Str) (mean : ExcName → Option Value) (mg mb : Str → Option Value) (dp un : Nat) (gd : Option (List Code)) (cn : Str) (cs : Scope) (a : Addr) (ccd : Value) (cl : List (Str × Addr)) (outer : List Env) (A₀ : Around) (base h₀ : Heap) (L : Addr) (m : Str → Option Value) (news : Led) (s : Shared) (Q E : Value → Shared → Prop) (ps : Array Value) (cd : Led),
    PySem.Challenge.rw_pf0014_01 = PySem.Challenge.rw_pf0014_01 →
    Below A₀ base outer h₀ → Fr h₀ L s.heap m → (Mine.K w.params).In h₀ → News h₀ L s.heap ((P, tabObj ps) :: news) → TS P qual ps cd → (∀ q ∈ cd, q ∈ news) → (∀ q ∈ news, q.1 ≠ P) → Top p loose mean mg mb h₀ → cs.kind = .function → dp + d < recursionLimit → un + u < cLine →
    (Mine.K w.params).In base → Top p loose mean mg mb base → KtsDicts (outer.filterMap (·.frame)) h₀ → CodeHd base c P →
    (∀ r tl cd' ps' h₀' h' tk', KtsTurn (outer.filterMap (·.frame)) h₀ h₀' → Fr h₀' L h' m → News h₀' L h' (tl ++ (cd' ++ (P, tabObj ps') :: news)) → TS P qual ps' cd' → (∀ p ∈ cd', p ∈ cd ∨ ∀ q ∈ news, q.1 < p.1) → (∀ p ∈ cd', p ∈ cd ∨ P < p.1) → (∀ q ∈ (P, tabObj ps) :: news, ∀ p ∈ tl, q.1 < p.1) → Below A₀ base outer h₀' → (Mine.K w.params).In h₀' → Top p loose mean mg mb h₀' → KtsDicts (outer.filterMap (·.frame)) h₀' → Out r tl → Q r { s with heap := h', toks := tk' }) →
    wpAny (model prg w) (ktrTop dp un gd cn cs L a ccd cl outer) (call (.ref f) vs) Q E s
theorem close_B {K : Frag} {env : Env} {A₀ : Around} {base : Heap} {outer : List Env} {p : Program} {loose : List Str} {mean : ExcName → Option Value} {mg mb : Str → Option Value} {h₀ : Heap} {L : Addr} {m : Str → Option Value} {g g' : Heap} {L' : Addr} {m' : Str → Option Value} {R : Result → Shared → Prop} {v : Value} {s' : Shared} {P : Addr} {qual : Str} {ps : Array Value} {cd l news tl : Led}
    (_S : TS P qual ps cd) (T : KtsTurn ((env :: outer).filterMap (·.frame)) g g') (F : Fr g' L' s'.heap m') (N : News g' L' s'.heap (tl ++ l)) (h1 : ∀ q ∈ cd, q ∈ l) (h2 : (P, tabObj ps) ∈ l) (h3 : ∀ q ∈ news, q ∈ l)
    (k : ∀ h₀', KtsTurn (outer.filterMap (·.frame)) h₀ h₀' → Fr h₀' L s'.heap m → News h₀' L s'.heap (tl ++ (cd ++ (P, tabObj ps) :: news)) → Below A₀ base outer h₀' → K.In h₀' → Top p loose mean mg mb h₀' → KtsDicts (outer.filterMap (·.frame)) h₀' → R (.ok (.ret v)) s') :
    LeaveT K env A₀ base outer p loose mean mg mb h₀ L m g R v s' :=
  ⟨g', L', m', _, T, F, news_sub N (fun q hq => by
    rcases List.mem_append.mp hq with hq | hq
    · exact List.mem_append_left _ hq
    refine List.mem_append_right _ ?_
    rcases List.mem_append.mp hq with hq | hq
    · exact h1 q hq
    rcases List.mem_cons.mp hq with rfl | hq
    · exact h2
    · exact h3 q hq), k⟩
theorem app_sub {tl l l' : Led} (h : ∀ q ∈ l, q ∈ l') : ∀ q ∈ tl ++ l, q ∈ tl ++ l' := fun q hq => (List.mem_append.mp hq).elim (List.mem_append_left _) fun z => List.mem_append_right _ (h q z)
theorem ord_sub {tl l l' : Led} (h : ∀ q ∈ l', ∀ p ∈ tl, q.1 < p.1) (hs : ∀ q ∈ l, q ∈ l') : ∀ q ∈ l, ∀ p ∈ tl, q.1 < p.1 := fun q hq => h q (hs q hq)
theorem ord_tab {tl l' news : Led} {P : Addr} {o o' : Obj} (h : ∀ q ∈ l', ∀ p ∈ tl, q.1 < p.1) (hm : (P, o') ∈ l') (hs : ∀ q ∈ news, q ∈ l') : ∀ q ∈ (P, o) :: news, ∀ p ∈ tl, q.1 < p.1 := fun q hq p hp => by
  rcases List.mem_cons.mp hq with rfl | hq
  · exact h _ hm p hp
  · exact h q (hs q hq) p hp
theorem cd_one {cd news lA : Led} {ca P : Addr} {oa oA : Obj} (wa : (ca, oa) ∈ cd ∨ ∀ q ∈ lA, q.1 < ca) (hA : ∀ q ∈ (P, oA) :: news, q ∈ lA) :
    (∀ p ∈ (ca, oa) :: cd, p ∈ cd ∨ ∀ q ∈ news, q.1 < p.1) ∧ (∀ p ∈ (ca, oa) :: cd, p ∈ cd ∨ P < p.1) := by
  refine ⟨fun p hp => ?_, fun p hp => ?_⟩
  · rcases List.mem_cons.mp hp with rfl | hp
    · rcases wa with h | h
      · exact .inl h
      · exact .inr fun q hq => h q (hA q (.tail _ hq))
    · exact .inl hp
  · rcases List.mem_cons.mp hp with rfl | hp
    · rcases wa with h | h
      · exact .inl h
      · exact .inr (h _ (hA _ (.head _)))
    · exact .inl hp
set_option maxHeartbeats 8000000 in
theorem by_six (w : World) (x : Str) (t : Tok) (c : Nat) (e : Int) (hx : x.length ≤ 60) (hpo : PowOk (sgs x)) (ht9 : ntree (sgs x) = .dec c e) (v1 : c < 10 ^ 150) :
    MeetsB w 431 60 1200 430 426 (Str.ofString "_law_by_six.<locals>.<lambda>") [.str x t] (OutH (worth 6 (.dec c e)) OutW (Str.ofString "OV")) := by
 refine (?fZ : PullF _) ?pZ ?qZ ?hZ
 case fZ => exact fun _ q _ => q
 case pZ =>
  unfold MeetsB
  k_fill
  intro p loose mean mg mb dp un gd cn cs a ccd cl outer A₀ base h₀ L m news s Q E ps cd hrw B₀ F₀ X₀ N₀ S₀ hcd hne T₀ hk hd hu XB TB D₀ C₀ hret
  clear hrw
  refine wpAny_call ?_
  k_dflt (refine' code_cellsT ?k1 ?k2 ?k3 ?k4 ?k5 ?XB ?TB ?D ?kA ?kF ?kK ?k6 ?k7 ?k8 ?k9 ?kB ?kD ?_ ?c2 ?c3 ?c4; (case kA => exact rfl); (case kF => exact rfl); (case kK => exact hk); (case k1 => exact B₀); (case k2 => exact F₀); (case k3 => exact X₀); (case k4 => exact N₀); (case k5 => exact T₀); (case XB => exact XB); (case TB => exact TB); (case D => exact D₀); (case k6 => k_is); (case k7 => k_is); (case k8 => ktr_room); (case k9 => exact BindsTo.of_eq rfl); (case kB => exact rfl); (case kD => decide +kernel); (case c2 => exact rfl); (case c3 => exact rfl); (case c4 => exact rfl); k_whole; intro g' L' h' tk' cells' FG' F' N' Y' B' X' T' D' st' l1)
  have hc0 : ∀ q ∈ news, @LT.lt Nat _ q.1 L' := fun q hq => l1 q (.tail _ hq)
  have hc1 : ∀ q ∈ news, q.1 ≠ L' + 1 := fun q hq => Nat.ne_of_lt (Nat.lt_succ_of_lt (hc0 q hq))
  k_lt l1
  obtain ⟨o1, hE, d1⟩ := PyProof.Rows.CellsAre.one Y'
  subst hE
  clear Y'
  replace d1 : o1.data = .cell (some (.str x t)) := d1
  simp only [List.cons_append, List.nil_append] at N'
  try dsimp only
  try k_lift B'
  try k_fold
  (repeat' (first | ((fail_if_success (with_reducible show wpAny _ _ (call (Value.ref 410) _) _ _ _)); (first | (k_here; (with_reducible show wpAny _ _ (compareOp CmpOp.Eq (Value.ref _) (Value.str _ _)) _ _ _); (refine cmp_ofEq ?_); k_dflt (refine' SeqAt.RcAt.tuple_str _ _ ?zh ?zu _ _ _ _ ?_); (case zh => exact ⟨_, News.get (by k_asm) (by k_mem), rfl, _, rfl⟩); (case zu => ktr_units)) | (k_here; (with_reducible show wpAny _ _ (eval (Expr.Lambda _ _ _ _) _) _ _ _); k_dflt (refine' kla_eval ?d0 ?_; (case d0 => exact rfl)); k_dflt (refine' lam_any ?F ?N ?T ?C ?cd ?U ?S ?tl ?cl ?_; (case F => k_asm); (case N => k_asm); (case T => k_asm); (case cd => exact rfl); (case C => kn_code); (case U => k_updF); (case S => assumption); (case tl => first | (refine List.forall_mem_cons.mpr ⟨?ma, ?mb⟩; (case ma => k_mem); (case mb => exact (by repeat' (first | with_reducible assumption | refine sub_cons ?_)))) | exact (by repeat' (first | with_reducible assumption | refine sub_cons ?_))); (case cl => exact rfl); k_whole); intro f9 c9 oc9 vs9 t9 ct9 ps9 h9 tk9 F9 N9 d9 e9 S9 l9 l8 l7 w9; (try dsimp only at N9); (try k_lt l9); (try k_lt2 l8); (try k_lt2 l7)) | (k_here; (with_reducible show wpAny _ _ (call (Value.ref _) _) _ _ _); (first | ((with_reducible show wpAny _ _ (call (Value.ref 243) _) _ _ _); (rename ntree _ = Tr.dec _ _ => ht9); k_dflt (refine' useM (number_tree _ _ _ ?p1 ?p2) ?k1 ?k2 ?k3 ?k4 ?k5 ?kK ?kd ?ku ?_; (case p1 => walk_at "up"); (case p2 => walk_at "up"); walk_at "u2"); (intro r9 tl9 h9 tk9 F9 N9 l9 o9; rw [ht9] at o9; obtain ⟨D9, D8, a9, b9, c9, e9, e8, lt9⟩ := o9; subst e9; subst e8; dsimp only [List.cons_append, List.nil_append] at N9; (have l9' := fun q hq => l9 q hq (D9, _) (.head _)); (have l9b := fun q hq => l9 q hq (D8, _) (.tail _ (.head _))); clear l9; (try k_lt l9'); (try k_lt l9b); walk_at "u3")) | ((with_reducible show wpAny _ _ (call (Value.ref 243) _) _ _ _); (rename ntree _ = Tr.whole _ => ht9); k_dflt (refine' useM (number_tree _ _ _ ?p1 ?p2) ?k1 ?k2 ?k3 ?k4 ?k5 ?kK ?kd ?ku ?_; (case p1 => walk_at "up"); (case p2 => walk_at "up"); walk_at "u2"); (intro r9 tl9 h9 tk9 F9 N9 l9 o9; rw [ht9] at o9; obtain ⟨D9, a9, b9, e9, e8⟩ := o9; subst e9; subst e8; dsimp only [List.cons_append, List.nil_append] at N9; (have l9' := fun q hq => l9 q hq (D9, _) (.head _)); clear l9; (try k_lt l9'); walk_at "u3")) | ((with_reducible show wpAny _ _ (call (Value.ref 389) _) _ _ _); k_dflt (refine' useA (worth_dec _ _ _ _ _ _ _ _ _ _ _ ?p1 ?p2) ?k1 ?k2 ?k3 ?k4 ?k5 ?kK ?kd ?ku (ha2 ?kh ?kh2) ?kx ?_; walk_at "u2"; (case kh => k_mem); (case kh2 => k_mem); (case p1 => walk_at "up"); (case p2 => walk_at "up"); (case kx => walk_at "uf")); (intro r9 v9 tl9 h9 tk9 hr9 F9 N9 l9 o9; walk_at "u3")) | ((with_reducible show wpAny _ _ (call (Value.ref 389) _) _ _ _); k_dflt (refine' useA (worth_whole _ _ _ _ _ _ _ _ ?p1 ?p2) ?k1 ?k2 ?k3 ?k4 ?k5 ?kK ?kd ?ku (ha1 ?kh) ?kx ?_; walk_at "u2"; (case kh => k_mem); (case p1 => walk_at "up"); (case p2 => walk_at "up"); (case kx => walk_at "uf")); (intro r9 v9 tl9 h9 tk9 hr9 F9 N9 l9 o9; walk_at "u3")))) | walk_at "wk"))))
  k_dflt (refine' useT ?ak4 ?ak2 ?ak1 ?ak3 ?ak5 XB TB ?ak6 ?akK ?akd ?aku (law_heard w _ 20 340 _ _ _ _ _ (worth 6 (.dec c e)) OutW ?aC) ?akq)
  (case ak4 => k_asm)
  (case ak2 => k_asm)
  (case ak1 => k_asm)
  (case ak3 => k_asm)
  (case ak5 => k_asm)
  (case ak6 => k_asm)
  (case akK => exact rfl)
  (case akd => ktr_room)
  (case aku => ktr_units)
  case' aC =>
    unfold MeetsA
    k_fill
    intro p2 loose2 mean2 mg2 mb2 dp2 un2 gd2 cn2 cs2 a2 ccd2 cl2 outer2 A2 base2 g2 L2 m2 news2 s2 Q2 E2 hrw2 B2 F2 X2 N2 T2 hk2 hd2 hu2 hret2 hexc2
    clear hrw2
    dsimp only [List.cons_append, List.nil_append] at N2 hret2 hexc2
    walk_at "call lambda"
    (repeat' (first | (k_here; (with_reducible show wpAny _ _ (compareOp CmpOp.Eq (Value.ref _) (Value.str _ _)) _ _ _); (refine cmp_ofEq ?_); k_dflt (refine' SeqAt.RcAt.tuple_str _ _ ?zh ?zu _ _ _ _ ?_); (case zh => exact ⟨_, News.get (by k_asm) (by k_mem), rfl, _, rfl⟩); (case zu => ktr_units)) | (k_here; (with_reducible show wpAny _ _ (eval (Expr.Lambda _ _ _ _) _) _ _ _); k_dflt (refine' kla_eval ?d0 ?_; (case d0 => exact rfl)); k_dflt (refine' lam_any ?F ?N ?T ?C ?cd ?U ?S ?tl ?cl ?_; (case F => k_asm); (case N => k_asm); (case T => k_asm); (case cd => exact rfl); (case C => kn_code); (case U => k_updF); (case S => assumption); (case tl => first | (refine List.forall_mem_cons.mpr ⟨?ma, ?mb⟩; (case ma => k_mem); (case mb => exact (by repeat' (first | with_reducible assumption | refine sub_cons ?_)))) | exact (by repeat' (first | with_reducible assumption | refine sub_cons ?_))); (case cl => exact rfl); k_whole); intro f9 c9 oc9 vs9 t9 ct9 ps9 h9 tk9 F9 N9 d9 e9 S9 l9 l8 l7 w9; (try dsimp only at N9); (try k_lt l9); (try k_lt2 l8); (try k_lt2 l7)) | (k_here; (with_reducible show wpAny _ _ (call (Value.ref _) _) _ _ _); (first | ((with_reducible show wpAny _ _ (call (Value.ref 243) _) _ _ _); (rename ntree _ = Tr.dec _ _ => ht9); k_dflt (refine' useM (number_tree _ _ _ ?p1 ?p2) ?k1 ?k2 ?k3 ?k4 ?k5 ?kK ?kd ?ku ?_; (case p1 => walk_at "up"); (case p2 => walk_at "up"); walk_at "u2"); (intro r9 tl9 h9 tk9 F9 N9 l9 o9; rw [ht9] at o9; obtain ⟨D9, D8, a9, b9, c9, e9, e8, lt9⟩ := o9; subst e9; subst e8; dsimp only [List.cons_append, List.nil_append] at N9; (have l9' := fun q hq => l9 q hq (D9, _) (.head _)); (have l9b := fun q hq => l9 q hq (D8, _) (.tail _ (.head _))); clear l9; (try k_lt l9'); (try k_lt l9b); walk_at "u3")) | ((with_reducible show wpAny _ _ (call (Value.ref 243) _) _ _ _); (rename ntree _ = Tr.whole _ => ht9); k_dflt (refine' useM (number_tree _ _ _ ?p1 ?p2) ?k1 ?k2 ?k3 ?k4 ?k5 ?kK ?kd ?ku ?_; (case p1 => walk_at "up"); (case p2 => walk_at "up"); walk_at "u2"); (intro r9 tl9 h9 tk9 F9 N9 l9 o9; rw [ht9] at o9; obtain ⟨D9, a9, b9, e9, e8⟩ := o9; subst e9; subst e8; dsimp only [List.cons_append, List.nil_append] at N9; (have l9' := fun q hq => l9 q hq (D9, _) (.head _)); clear l9; (try k_lt l9'); walk_at "u3")) | ((with_reducible show wpAny _ _ (call (Value.ref 389) _) _ _ _); k_dflt (refine' useA (worth_dec _ _ _ _ _ _ _ _ _ _ _ ?p1 ?p2) ?k1 ?k2 ?k3 ?k4 ?k5 ?kK ?kd ?ku (ha2 ?kh ?kh2) ?kx ?_; walk_at "u2"; (case kh => k_mem); (case kh2 => k_mem); (case p1 => walk_at "up"); (case p2 => walk_at "up"); (case kx => walk_at "uf")); (intro r9 v9 tl9 h9 tk9 hr9 F9 N9 l9 o9; walk_at "u3")) | ((with_reducible show wpAny _ _ (call (Value.ref 389) _) _ _ _); k_dflt (refine' useA (worth_whole _ _ _ _ _ _ _ _ ?p1 ?p2) ?k1 ?k2 ?k3 ?k4 ?k5 ?kK ?kd ?ku (ha1 ?kh) ?kx ?_; walk_at "u2"; (case kh => k_mem); (case p1 => walk_at "up"); (case p2 => walk_at "up"); (case kx => walk_at "uf")); (intro r9 v9 tl9 h9 tk9 hr9 F9 N9 l9 o9; walk_at "u3")))) | walk_at "wk"))
    rename News g2 L2 _ _ => NN
    rename OutW _ _ _ => oW
    rename worth 6 _ = some _ => hr
    rename ∀ q : Addr × Obj, q ∈ _ → ∀ p : Addr × Obj, p ∈ _ → _ => lw
    exact hret2 _ hr _ _ _ _ (by k_asm) (news_sub NN (app_sub (by repeat' (first | exact sub_refl _ | refine sub_cons ?_)))) (ord_sub lw (by repeat' (first | exact sub_refl _ | refine sub_cons ?_))) oW
  case' akq =>
    intro r8 tl8 h8 h8' tk8 T8 F8 N8 l8 B8 X8 P8 D8 o8
    clear B' X' T' D'
    try k_lift B8
    (repeat' (first | (k_here; (with_reducible show wpAny _ _ (compareOp CmpOp.Eq (Value.ref _) (Value.str _ _)) _ _ _); (refine cmp_ofEq ?_); k_dflt (refine' SeqAt.RcAt.tuple_str _ _ ?zh ?zu _ _ _ _ ?_); (case zh => exact ⟨_, News.get (by k_asm) (by k_mem), rfl, _, rfl⟩); (case zu => ktr_units)) | (k_here; (with_reducible show wpAny _ _ (eval (Expr.Lambda _ _ _ _) _) _ _ _); k_dflt (refine' kla_eval ?d0 ?_; (case d0 => exact rfl)); k_dflt (refine' lam_any ?F ?N ?T ?C ?cd ?U ?S ?tl ?cl ?_; (case F => k_asm); (case N => k_asm); (case T => k_asm); (case cd => exact rfl); (case C => kn_code); (case U => k_updF); (case S => assumption); (case tl => first | (refine List.forall_mem_cons.mpr ⟨?ma, ?mb⟩; (case ma => k_mem); (case mb => exact (by repeat' (first | with_reducible assumption | refine sub_cons ?_)))) | exact (by repeat' (first | with_reducible assumption | refine sub_cons ?_))); (case cl => exact rfl); k_whole); intro f9 c9 oc9 vs9 t9 ct9 ps9 h9 tk9 F9 N9 d9 e9 S9 l9 l8 l7 w9; (try dsimp only at N9); (try k_lt l9); (try k_lt2 l8); (try k_lt2 l7)) | (k_here; (with_reducible show wpAny _ _ (call (Value.ref _) _) _ _ _); (first | ((with_reducible show wpAny _ _ (call (Value.ref 243) _) _ _ _); (rename ntree _ = Tr.dec _ _ => ht9); k_dflt (refine' useM (number_tree _ _ _ ?p1 ?p2) ?k1 ?k2 ?k3 ?k4 ?k5 ?kK ?kd ?ku ?_; (case p1 => walk_at "up"); (case p2 => walk_at "up"); walk_at "u2"); (intro r9 tl9 h9 tk9 F9 N9 l9 o9; rw [ht9] at o9; obtain ⟨D9, D8, a9, b9, c9, e9, e8, lt9⟩ := o9; subst e9; subst e8; dsimp only [List.cons_append, List.nil_append] at N9; (have l9' := fun q hq => l9 q hq (D9, _) (.head _)); (have l9b := fun q hq => l9 q hq (D8, _) (.tail _ (.head _))); clear l9; (try k_lt l9'); (try k_lt l9b); walk_at "u3")) | ((with_reducible show wpAny _ _ (call (Value.ref 243) _) _ _ _); (rename ntree _ = Tr.whole _ => ht9); k_dflt (refine' useM (number_tree _ _ _ ?p1 ?p2) ?k1 ?k2 ?k3 ?k4 ?k5 ?kK ?kd ?ku ?_; (case p1 => walk_at "up"); (case p2 => walk_at "up"); walk_at "u2"); (intro r9 tl9 h9 tk9 F9 N9 l9 o9; rw [ht9] at o9; obtain ⟨D9, a9, b9, e9, e8⟩ := o9; subst e9; subst e8; dsimp only [List.cons_append, List.nil_append] at N9; (have l9' := fun q hq => l9 q hq (D9, _) (.head _)); clear l9; (try k_lt l9'); walk_at "u3")) | ((with_reducible show wpAny _ _ (call (Value.ref 389) _) _ _ _); k_dflt (refine' useA (worth_dec _ _ _ _ _ _ _ _ _ _ _ ?p1 ?p2) ?k1 ?k2 ?k3 ?k4 ?k5 ?kK ?kd ?ku (ha2 ?kh ?kh2) ?kx ?_; walk_at "u2"; (case kh => k_mem); (case kh2 => k_mem); (case p1 => walk_at "up"); (case p2 => walk_at "up"); (case kx => walk_at "uf")); (intro r9 v9 tl9 h9 tk9 hr9 F9 N9 l9 o9; walk_at "u3")) | ((with_reducible show wpAny _ _ (call (Value.ref 389) _) _ _ _); k_dflt (refine' useA (worth_whole _ _ _ _ _ _ _ _ ?p1 ?p2) ?k1 ?k2 ?k3 ?k4 ?k5 ?kK ?kd ?ku (ha1 ?kh) ?kx ?_; walk_at "u2"; (case kh => k_mem); (case p1 => walk_at "up"); (case p2 => walk_at "up"); (case kx => walk_at "uf")); (intro r9 v9 tl9 h9 tk9 hr9 F9 N9 l9 o9; walk_at "u3")))) | walk_at "wk"))
    rename TS _ _ _ _ => S2
    rename _ ∈ cd ∨ _ => wa
    refine close_B (news := news) (tl := tl8) S2 T8 F8 N8 ?fh1 ?fh2 ?fh3 ?fin
    case fh1 =>
      refine List.forall_mem_cons.mpr ⟨?zz1, ?zz2⟩
      case zz1 => k_mem
      exact (by repeat' (first | with_reducible assumption | refine sub_cons ?_))
    case fh2 => k_mem
    case fh3 => exact (by repeat' (first | exact sub_refl _ | refine sub_cons ?_))
    intro h6 T6 F6 N6 B6 X6 P6 D6
    have cc := cd_one (news := news) (P := 426) wa (List.forall_mem_cons.mpr ⟨(by k_mem), (by repeat' (first | exact sub_refl _ | refine sub_cons ?_))⟩)
    exact hret _ tl8 _ _ h6 _ _ T6 F6 N6 S2 cc.1 cc.2 (ord_tab l8 (by k_mem) (by repeat' (first | exact sub_refl _ | refine sub_cons ?_))) B6 X6 P6 D6 o8
 case hZ => delta id; exact pair_ _

/-! the law's menus -/
noncomputable def frontOk (x : Str) : Bool := (sgs x).all isD && !(sgs x).isEmpty && (decide ((sgs x).length ≤ 9) || decide ((sgs x).length = 40))
noncomputable def tailOk (x : Str) : Bool := (sgs x).all isD && decide ((sgs x).length ≤ 4)
noncomputable def PowIs (x : Str) : Prop := ∃ z : Int, PF (sgs x) z ∧ PowTxt x z
theorem all_dig {l : List Nat} (h : l.all isD = true) : Dig l := List.all_eq_true.mp h
theorem pow_e {x : Str} (S D : List Nat) (z : Int) (h : sgs x = 69 :: (S ++ D)) (hd : D.all isD = true) (hn : D ≠ []) (hl : D.length ≤ 3) (hs : (S = [] ∧ z = (val D : Nat)) ∨ (S = [43] ∧ z = (val D : Nat)) ∨ (S = [45] ∧ z = -(val D : Nat)))
    (h1 : ([Str.ofString "", Str.ofString "!"].any fun y => y == x) = false) (h2 : PySem.intText? (Txt.slice x (some 1) none) = some z) : PowIs x :=
  ⟨z, .inr (.inr ⟨S, D, h, all_dig hd, hn, hl, hs⟩), .inr ⟨h1, h2⟩⟩
theorem pow_Em99 : PowIs (Str.ofString "E-99") := pow_e [45] [57, 57] (-99) (by decide) (by decide) (by decide) (by decide) (by decide) (by decide +kernel) (by decide +kernel)
theorem pow_Em100 : PowIs (Str.ofString "E-100") := pow_e [45] [49, 48, 48] (-100) (by decide) (by decide) (by decide) (by decide) (by decide) (by decide +kernel) (by decide +kernel)
theorem pow_Em101 : PowIs (Str.ofString "E-101") := pow_e [45] [49, 48, 49] (-101) (by decide) (by decide) (by decide) (by decide) (by decide) (by decide +kernel) (by decide +kernel)
theorem pow_Em98 : PowIs (Str.ofString "E-98") := pow_e [45] [57, 56] (-98) (by decide) (by decide) (by decide) (by decide) (by decide) (by decide +kernel) (by decide +kernel)
theorem pow_E99 : PowIs (Str.ofString "E99") := pow_e [] [57, 57] (99) (by decide) (by decide) (by decide) (by decide) (by decide) (by decide +kernel) (by decide +kernel)
theorem pow_Ep98 : PowIs (Str.ofString "E+98") := pow_e [43] [57, 56] (98) (by decide) (by decide) (by decide) (by decide) (by decide) (by decide +kernel) (by decide +kernel)
theorem pow_E100 : PowIs (Str.ofString "E100") := pow_e [] [49, 48, 48] (100) (by decide) (by decide) (by decide) (by decide) (by decide) (by decide +kernel) (by decide +kernel)
theorem pow_E5 : PowIs (Str.ofString "E5") := pow_e [] [53] (5) (by decide) (by decide) (by decide) (by decide) (by decide) (by decide +kernel) (by decide +kernel)
theorem pow_Em999 : PowIs (Str.ofString "E-999") := pow_e [45] [57, 57, 57] (-999) (by decide) (by decide) (by decide) (by decide) (by decide) (by decide +kernel) (by decide +kernel)
theorem pow_E999 : PowIs (Str.ofString "E999") := pow_e [] [57, 57, 57] (999) (by decide) (by decide) (by decide) (by decide) (by decide) (by decide +kernel) (by decide +kernel)
theorem pow_Em7 : PowIs (Str.ofString "E-7") := pow_e [45] [55] (-7) (by decide) (by decide) (by decide) (by decide) (by decide) (by decide +kernel) (by decide +kernel)
theorem pow_nil : PowIs (Str.ofString "") := ⟨0, .inl ⟨by decide, rfl⟩, .inl ⟨by decide +kernel, rfl⟩⟩
theorem pow_bang : PowIs (Str.ofString "!") := ⟨0, .inr (.inl ⟨by decide, rfl⟩), .inl ⟨by decide +kernel, rfl⟩⟩
theorem front_7 : frontOk (Txt.mul (Str.ofString "7") 40) = true := by decide +kernel
theorem pow_all (t0 t1 t2 t3 t4 t5 t6 t7 t8 t9 t10 t11 t12 : Tok) : ∀ v ∈ ([.str (Str.ofString "") t0, .str (Str.ofString "E-99") t1, .str (Str.ofString "E-100") t2, .str (Str.ofString "E-101") t3, .str (Str.ofString "E-98") t4, .str (Str.ofString "E99") t5, .str (Str.ofString "E+98") t6, .str (Str.ofString "E100") t7, .str (Str.ofString "E5") t8, .str (Str.ofString "E-999") t9, .str (Str.ofString "E999") t10, .str (Str.ofString "!") t11, .str (Str.ofString "E-7") t12] : List Value), ∃ x t, v = Value.str x t ∧ PowIs x :=
  List.forall_mem_cons.mpr ⟨⟨_, _, rfl, pow_nil⟩, List.forall_mem_cons.mpr ⟨⟨_, _, rfl, pow_Em99⟩, List.forall_mem_cons.mpr ⟨⟨_, _, rfl, pow_Em100⟩, List.forall_mem_cons.mpr ⟨⟨_, _, rfl, pow_Em101⟩, List.forall_mem_cons.mpr ⟨⟨_, _, rfl, pow_Em98⟩, List.forall_mem_cons.mpr ⟨⟨_, _, rfl, pow_E99⟩, List.forall_mem_cons.mpr ⟨⟨_, _, rfl, pow_Ep98⟩, List.forall_mem_cons.mpr ⟨⟨_, _, rfl, pow_E100⟩, List.forall_mem_cons.mpr ⟨⟨_, _, rfl, pow_E5⟩, List.forall_mem_cons.mpr ⟨⟨_, _, rfl, pow_Em999⟩, List.forall_mem_cons.mpr ⟨⟨_, _, rfl, pow_E999⟩, List.forall_mem_cons.mpr ⟨⟨_, _, rfl, pow_bang⟩, List.forall_mem_cons.mpr ⟨⟨_, _, rfl, pow_Em7⟩, List.forall_mem_nil _⟩⟩⟩⟩⟩⟩⟩⟩⟩⟩⟩⟩⟩
theorem front_all (t0 t1 t2 t3 t4 t5 t6 t7 t8 : Tok) : ∀ v ∈ ([.str (Str.ofString "9") t0, .str (Str.ofString "0") t1, .str (Str.ofString "1") t2, .str (Str.ofString "40") t3, .str (Str.ofString "99") t4, .str (Str.ofString "32767") t5, .str (Str.ofString "32768") t6, .str (Str.ofString "123456789") t7, .str (Str.ofString "7777777777777777777777777777777777777777") t8] : List Value), ∃ x t, v = Value.str x t ∧ frontOk x = true :=
  List.forall_mem_cons.mpr ⟨⟨_, _, rfl, by decide +kernel⟩, List.forall_mem_cons.mpr ⟨⟨_, _, rfl, by decide +kernel⟩, List.forall_mem_cons.mpr ⟨⟨_, _, rfl, by decide +kernel⟩, List.forall_mem_cons.mpr ⟨⟨_, _, rfl, by decide +kernel⟩, List.forall_mem_cons.mpr ⟨⟨_, _, rfl, by decide +kernel⟩, List.forall_mem_cons.mpr ⟨⟨_, _, rfl, by decide +kernel⟩, List.forall_mem_cons.mpr ⟨⟨_, _, rfl, by decide +kernel⟩, List.forall_mem_cons.mpr ⟨⟨_, _, rfl, by decide +kernel⟩, List.forall_mem_cons.mpr ⟨⟨_, _, rfl, by decide +kernel⟩, List.forall_mem_nil _⟩⟩⟩⟩⟩⟩⟩⟩⟩
theorem tail_all (t0 t1 t2 t3 t4 t5 t6 t7 : Tok) : ∀ v ∈ ([.str (Str.ofString "") t0, .str (Str.ofString "4") t1, .str (Str.ofString "5") t2, .str (Str.ofString "50") t3, .str (Str.ofString "51") t4, .str (Str.ofString "6") t5, .str (Str.ofString "0005") t6, .str (Str.ofString "500") t7] : List Value), ∃ x t, v = Value.str x t ∧ tailOk x = true :=
  List.forall_mem_cons.mpr ⟨⟨_, _, rfl, by decide +kernel⟩, List.forall_mem_cons.mpr ⟨⟨_, _, rfl, by decide +kernel⟩, List.forall_mem_cons.mpr ⟨⟨_, _, rfl, by decide +kernel⟩, List.forall_mem_cons.mpr ⟨⟨_, _, rfl, by decide +kernel⟩, List.forall_mem_cons.mpr ⟨⟨_, _, rfl, by decide +kernel⟩, List.forall_mem_cons.mpr ⟨⟨_, _, rfl, by decide +kernel⟩, List.forall_mem_cons.mpr ⟨⟨_, _, rfl, by decide +kernel⟩, List.forall_mem_cons.mpr ⟨⟨_, _, rfl, by decide +kernel⟩, List.forall_mem_nil _⟩⟩⟩⟩⟩⟩⟩⟩
theorem front_len {x : Str} (h : frontOk x = true) : x.length ≤ 40 := by
  unfold frontOk at h
  simp only [Bool.and_eq_true, Bool.or_eq_true, decide_eq_true_eq, Bool.not_eq_true', List.isEmpty_eq_false_iff] at h
  have := sgs_len x
  omega
theorem tail_len {x : Str} (h : tailOk x = true) : x.length ≤ 4 := by
  unfold tailOk at h
  simp only [Bool.and_eq_true, decide_eq_true_eq] at h
  have := sgs_len x
  omega
theorem nines {k : Int} (h0 : 0 ≤ k) (h1 : k < 12) : (sgs (Txt.mul (Str.ofString "9") k)).all isD = true ∧ (sgs (Txt.mul (Str.ofString "9") k)).length ≤ 11 := by
  obtain ⟨n, rfl⟩ := Int.eq_ofNat_of_zero_le h0
  have : n < 12 := by omega
  have key : ∀ n : Nat, n < 12 → (sgs (Txt.mul (Str.ofString "9") (n : Int))).all isD = true ∧ (sgs (Txt.mul (Str.ofString "9") (n : Int))).length ≤ 11 := by decide +kernel
  exact key n this
/-- a row's number out of the menus -/
theorem row_of {F P : Str} (hF : frontOk F = true) {z : Int} (hP : PF (sgs P) z) : RowNum (sgs F ++ sgs (Str.ofString "") ++ sgs P) (sgs F) (sgs (Str.ofString "")) (sgs P) z := by
  unfold frontOk at hF
  simp only [Bool.and_eq_true, Bool.or_eq_true, decide_eq_true_eq, Bool.not_eq_true', List.isEmpty_eq_false_iff] at hF
  exact ⟨rfl, all_dig hF.1.1, hF.1.2, .inl rfl, hP, by
    rw [show sgs (Str.ofString "") = [] from rfl, List.length_nil]
    omega⟩
theorem row_of2 {F P Y : Str} {k : Int} (hF : frontOk F = true) (hF9 : F.length < 40) (h0 : 0 ≤ k) (h1 : k < 12) (hY : tailOk Y = true) {z : Int} (hP : PF (sgs P) z) :
    RowNum (sgs F ++ sgs (Str.ofString "." ++ Txt.mul (Str.ofString "9") k ++ Y) ++ sgs P) (sgs F) (sgs (Str.ofString "." ++ Txt.mul (Str.ofString "9") k ++ Y)) (sgs P) z := by
  unfold frontOk at hF
  unfold tailOk at hY
  simp only [Bool.and_eq_true, Bool.or_eq_true, decide_eq_true_eq, Bool.not_eq_true', List.isEmpty_eq_false_iff] at hF hY
  have hn := nines h0 h1
  have e : sgs (Str.ofString "." ++ Txt.mul (Str.ofString "9") k ++ Y) = 46 :: (sgs (Txt.mul (Str.ofString "9") k) ++ sgs Y) := by
    rw [sgs_cat, sgs_cat, lit_dot]
    rfl
  have hf := sgs_len F
  refine ⟨rfl, all_dig hF.1.1, hF.1.2, .inr ⟨_, e, (all_dig hn.1).append (all_dig hY.1)⟩, hP, ?_⟩
  rw [e]
  simp only [List.length_cons, List.length_append]
  omega
theorem m1 : mk 99999999 (-107) 6 = some (1, -99) := by decide +kernel
theorem m2 : mk 99999949 (-107) 6 = some (0, 0) := by decide +kernel
theorem m3 : mk 9999995 93 6 = none := by decide +kernel
theorem m4 : mk 1 100 6 = none := by decide +kernel
section
variable {prog : Program} {w : World} {A : Around} {E : Value → Shared → Prop} {s : Shared}
theorem pick {value slice : PySem.Expr} {l : Addr} {vs : List Value} {k : Int} {u : Tok} {Q : Value → Shared → Prop} (P : Str → Prop)
    (hl : s.heap.IsList l vs.toArray) (h0 : 0 ≤ k) (hk : k < (vs.length : Nat)) (hb : vs.length ≤ 100) (hall : ∀ v ∈ vs, ∃ x t, v = Value.str x t ∧ P x) (h : ∀ x t, P x → Q (.str x t) s)
    (hs : subscripted slice false (.ref l) (.int k u) = operate [.ref l, .int k u] (getItem (.ref l) (.int k u)) := by with_unfolding_all rfl) :
    wpAny (model prog w) A (subscriptTail value slice (.ref l) (.int k u)) Q E s := by
  have hlt : k.toNat < vs.length := by omega
  obtain ⟨x, t, hv, hp⟩ := hall _ (List.getElem_mem hlt)
  have hx : vs[k.toNat]? = some (.str x t) := by rw [List.getElem?_eq_getElem hlt, hv]
  exact tail_any hl.typeIs slot_list_getitem.lookup (wpAny_getItem_list hl h0 (by omega) (by simpa using hx) (h x t hp)) hs
end

section
variable {w : World} {f : Addr} {d u : Nat} {c P : Addr} {qual : Str} {vs : List Value} {Out : Value → Led → Prop} {g : Obj → Led} {ps : Array Value} {cd : Led} {p : Program} {loose : List Str} {mean : ExcName → Option Value} {mg mb : Str → Option Value} {dp un : Nat} {gd : Option (List Code)} {cn : Str} {cs : Scope} {a : Addr} {ccd : Value} {cl : List (Str × Addr)} {outer : List Env} {A₀ : Around} {base h₀ : Heap} {L : Addr} {m : Str → Option Value} {news : Led} {s : Shared} {Q E : Value → Shared → Prop}
theorem useB6 (C : MeetsB w f d u c P qual vs Out) (N : News h₀ L s.heap news) (F : Fr h₀ L s.heap m) (B : Below A₀ base outer h₀) (X : (Mine.K w.params).In h₀) (T : Top p loose mean mg mb h₀) (XB : (Mine.K w.params).In base) (TB : Top p loose mean mg mb base) (D : KtsDicts (outer.filterMap (·.frame)) h₀)
    (CH : CodeHd base c P) (hk : cs.kind = .function) (hd : dp + d < recursionLimit) (hu : un + u < cLine) (U : UpdF P (tabObj ps) news g) (S : TS P qual ps cd) (hcd : ∀ q ∈ cd, q ∈ news) (hcdP : ∀ q ∈ cd, q.1 ≠ P)
    (k : ∀ r tl cd' ps' h₀' h' tk', KtsTurn (outer.filterMap (·.frame)) h₀ h₀' → Fr h₀' L h' m → News h₀' L h' (tl ++ (g (tabObj ps') ++ cd')) → TS P qual ps' cd' → (∀ x ∈ cd', x ∈ cd ∨ ∀ q ∈ news, q.1 ≠ P → q.1 < x.1) → (∀ x ∈ cd', x.1 ≠ P) → (∀ q ∈ news, ∀ x ∈ tl, q.1 < x.1) → Below A₀ base outer h₀' → (Mine.K w.params).In h₀' → Top p loose mean mg mb h₀' → KtsDicts (outer.filterMap (·.frame)) h₀' → Out r tl → Q r { s with heap := h', toks := tk' }) :
    wpAny (model prg w) (ktrTop dp un gd cn cs L a ccd cl outer) (call (.ref f) vs) Q E s := by
  obtain ⟨pre, post, hn, hg, h1, h2⟩ := U.split
  refine C p loose mean mg mb dp un gd cn cs a ccd cl outer A₀ base h₀ L m (pre ++ post) s Q E ps cd rfl B F X (fun q hq => ?_) S (fun q hq => ?_) (fun q hq => ?_) T hk hd hu XB TB D CH fun r tl cd' ps' h₀' h' tk' T' F' N' S' l l' lt' B' X' P' D' o => k r tl cd' ps' h₀' h' tk' T' F' (fun q hq => ?_) S' (fun x hx => ?_) (fun x hx => ?_) (fun q hq => ?_) B' X' P' D' o
  · rw [hn] at N
    rcases List.mem_cons.mp hq with rfl | hq
    · exact N _ (List.mem_append_right _ (.head _))
    rcases List.mem_append.mp hq with hq | hq
    · exact N _ (List.mem_append_left _ hq)
    · exact N _ (List.mem_append_right _ (.tail _ hq))
  · have z := hcd q hq
    rw [hn] at z
    rcases List.mem_append.mp z with z | z
    · exact List.mem_append_left _ z
    rcases List.mem_cons.mp z with z | z
    · exact absurd (by rw [z]) (hcdP q hq)
    · exact List.mem_append_right _ z
  · rcases List.mem_append.mp hq with hq | hq
    · exact h1 _ hq
    · exact h2 _ hq
  · refine N' _ ?_
    rcases List.mem_append.mp hq with hq | hq
    · exact List.mem_append_left _ hq
    refine List.mem_append_right _ ?_
    rcases List.mem_append.mp hq with hq | hq
    · rw [hg] at hq
      rcases List.mem_append.mp hq with hq | hq
      · exact List.mem_append_right _ (.tail _ (List.mem_append_left _ hq))
      rcases List.mem_cons.mp hq with rfl | hq
      · exact List.mem_append_right _ (.head _)
      · exact List.mem_append_right _ (.tail _ (List.mem_append_right _ hq))
    · exact List.mem_append_left _ hq
  · rcases l x hx with z | z
    · exact .inl z
    · refine .inr fun q hq hP => z q ?_
      rw [hn] at hq
      rcases List.mem_append.mp hq with hq | hq
      · exact List.mem_append_left _ hq
      rcases List.mem_cons.mp hq with rfl | hq
      · exact absurd rfl hP
      · exact List.mem_append_right _ hq
  · rcases l' x hx with z | z
    · exact hcdP x z
    · exact fun e => absurd z (by rw [e]; exact Nat.lt_irrefl _)
  · refine lt' q ?_
    rw [hn] at hq
    rcases List.mem_append.mp hq with hq | hq
    · exact .tail _ (List.mem_append_left _ hq)
    rcases List.mem_cons.mp hq with rfl | hq
    · exact .head _
    · exact .tail _ (List.mem_append_right _ hq)
end

/-! the four known numbers, by six figures -/
noncomputable abbrev qSix : Str := Str.ofString "_law_by_six.<locals>.<lambda>"
theorem known_of (w : World) {t : Tok} {x : Str} {F B P : List Nat} {z e0 : Int} {n : Nat} {r : Option (Int × Int)} (hR : RowNum (sgs x) F B P z) (hbp : ¬ (B = [] ∧ P = [])) (hv : val (F ++ B.drop 1) = n) (he : z - ((B.length - 1 : Nat) : Int) = e0) (hm : mk n e0 6 = r) (hx : x.length ≤ 60) (hn : n < 10 ^ 100) :
    MeetsB w 431 60 1200 430 426 qSix [.str x t] (OutH (r.map (Sum.inr : Int × Int → Wt)) OutW (Str.ofString "OV")) := by
  have h := hR.dec hbp
  rw [hv, he] at h
  have hb : (exactly n e0).1 < 10 ^ 150 := by
    by_cases h0 : n = 0
    · rw [h0, show exactly 0 e0 = (0, 0) from if_pos rfl]
      decide
    · exact Nat.lt_trans (Nat.lt_of_le_of_lt (exactly_le n e0 h0) hn) (by decide +kernel)
  have hw : worth 6 (.dec (exactly n e0).1 (exactly n e0).2) = r.map (Sum.inr : Int × Int → Wt) := by
    show (mk _ _ 6).map _ = _
    rw [mk_exactly (by decide), hm]
  have C := by_six w x t _ _ hx hR.num.powok h hb
  rw [hw] at C
  exact C
theorem known_1 (w : World) (t : Tok) : MeetsB w 431 60 1200 430 426 qSix [.str (Str.ofString "9.9999999E-100") t] (OutII 1 (-99)) :=
  known_of w (F := [57]) (B := 46 :: [57, 57, 57, 57, 57, 57, 57]) (P := 69 :: ([45] ++ [49, 48, 48])) (z := -100) ⟨by decide +kernel, all_dig (by decide), by decide, .inr ⟨_, rfl, all_dig (by decide)⟩, .inr (.inr ⟨_, _, rfl, all_dig (by decide), by decide, by decide, .inr (.inr ⟨rfl, by decide +kernel⟩)⟩), by decide⟩ (by decide) (by decide +kernel) (by decide) m1 (by decide +kernel) (by decide +kernel)
theorem known_2 (w : World) (t : Tok) : MeetsB w 431 60 1200 430 426 qSix [.str (Str.ofString "9.9999949E-100") t] (OutII 0 0) :=
  known_of w (F := [57]) (B := 46 :: [57, 57, 57, 57, 57, 52, 57]) (P := 69 :: ([45] ++ [49, 48, 48])) (z := -100) ⟨by decide +kernel, all_dig (by decide), by decide, .inr ⟨_, rfl, all_dig (by decide)⟩, .inr (.inr ⟨_, _, rfl, all_dig (by decide), by decide, by decide, .inr (.inr ⟨rfl, by decide +kernel⟩)⟩), by decide⟩ (by decide) (by decide +kernel) (by decide) m2 (by decide +kernel) (by decide +kernel)
theorem known_3 (w : World) (t : Tok) : MeetsB w 431 60 1200 430 426 qSix [.str (Str.ofString "9.999995E99") t] (OutS (Str.ofString "OV")) :=
  known_of w (F := [57]) (B := 46 :: [57, 57, 57, 57, 57, 53]) (P := 69 :: ([] ++ [57, 57])) (z := 99) ⟨by decide +kernel, all_dig (by decide), by decide, .inr ⟨_, rfl, all_dig (by decide)⟩, .inr (.inr ⟨_, _, rfl, all_dig (by decide), by decide, by decide, .inl ⟨rfl, by decide +kernel⟩⟩), by decide⟩ (by decide) (by decide +kernel) (by decide) m3 (by decide +kernel) (by decide +kernel)
theorem known_4 (w : World) (t : Tok) : MeetsB w 431 60 1200 430 426 qSix [.str (Str.ofString "1E100") t] (OutS (Str.ofString "OV")) :=
  known_of w (F := [49]) (B := []) (P := 69 :: ([] ++ [49, 48, 48])) (z := 100) ⟨by decide +kernel, all_dig (by decide), by decide, .inl rfl, .inr (.inr ⟨_, _, rfl, all_dig (by decide), by decide, by decide, .inl ⟨rfl, by decide +kernel⟩⟩), by decide⟩ (by decide) (by decide +kernel) (by decide) m4 (by decide +kernel) (by decide +kernel)

/-! the law's own cut: the text behind the front -/
theorem map_skip {m1 : Str → Option Value} {v : Option Value} {a b : Str} (h : b ≠ a) : (fun y => if y = a then v else m1 y) = fun y => if y = a then v else if y = b then m1 b else m1 y := by
  funext y
  by_cases h1 : y = a
  · rw [if_pos h1, if_pos h1]
  · rw [if_neg h1, if_neg h1]
    by_cases h2 : y = b
    · rw [if_pos h2, h2]
    · rw [if_neg h2]
theorem map_take {m1 : Str → Option Value} {v v0 u : Option Value} {a b : Str} : (fun y => if y = a then v else if y = b then u else if y = a then v0 else m1 y) = fun y => if y = a then v else if y = b then u else m1 y := by
  funext y
  by_cases h1 : y = a
  · rw [if_pos h1, if_pos h1]
  · rw [if_neg h1, if_neg h1, if_neg h1]
section
variable {Mo : Model} {A : Around} {E : Value → Shared → Prop} {s : Shared} {g : Heap} {L : Addr} {m1 : Str → Option Value} {news : Led} {gg : Obj → Led}
noncomputable def CutB (F P : Str) (z : Int) (D0 : Addr) (i0 : Int) (s : Shared) (g : Heap) (L : Addr) (m1 : Str → Option Value) (gg : Obj → Led) (f : Flow) (s' : Shared) : Prop :=
  f = .next ∧ ∃ (B : Str) (t : Tok) (nn : Option Value) (i : Int) (u : Tok) (n : Nat) (h' : Heap) (tk' : Nat), s' = { s with heap := h', toks := tk' } ∧ Fr g L h' (fun y => if y = Str.ofString "behind" then some (.str B t) else if y = Str.ofString "nines" then nn else m1 y) ∧
    News g L h' (gg (W.listOf #[.ref D0, .int i u] n)) ∧ 0 ≤ i ∧ i ≤ i0 + 3 ∧ RowNum (sgs F ++ sgs B ++ sgs P) (sgs F) (sgs B) (sgs P) z
theorem CutB.mk {F P : Str} {z : Int} {D0 : Addr} {i0 : Int} {B : Str} {t : Tok} {nn : Option Value} {i : Int} {u : Tok} {n : Nat} {h' : Heap} {tk' : Nat} {m' : Str → Option Value} {news' : Led} (FF : Fr g L h' m') (NN : News g L h' news') (hR : RowNum (sgs F ++ sgs B ++ sgs P) (sgs F) (sgs B) (sgs P) z)
    (hm : m' = fun y => if y = Str.ofString "behind" then some (.str B t) else if y = Str.ofString "nines" then nn else m1 y) (hs : ∀ q ∈ gg (W.listOf #[.ref D0, .int i u] n), q ∈ news') (h0 : 0 ≤ i) (h1 : i ≤ i0 + 3) : CutB F P z D0 i0 s g L m1 gg .next { s with heap := h', toks := tk' } :=
  ⟨rfl, B, t, nn, i, u, n, h', tk', rfl, hm ▸ FF, fun q hq => NN q (hs q hq), h0, h1, hR⟩
theorem cut_b {tree : Sem Flow} {Q : Flow → Shared → Prop} {F P : Str} {z : Int} {D0 M : Addr} {i0 : Int} {u0 t0 : Tok} {n0 : Nat} (_f : frontOk F = true) (_p : PF (sgs P) z) (_F : Fr g L s.heap (fun y => if y = Str.ofString "behind" then some (.str (Str.ofString "") t0) else m1 y)) (_M : m1 (Str.ofString "mug") = some (.ref M)) (_N : News g L s.heap news) (_U : UpdF M (W.listOf #[.ref D0, .int i0 u0] n0) news gg)
    (h1 : wpAny Mo A tree (CutB F P z D0 i0 s g L m1 gg) E s)
    (h2 : ∀ B t nn i u n h' tk', Fr g L h' (fun y => if y = Str.ofString "behind" then some (.str B t) else if y = Str.ofString "nines" then nn else m1 y) → News g L h' (gg (W.listOf #[.ref D0, .int i u] n)) → 0 ≤ i → i ≤ i0 + 3 → RowNum (sgs F ++ sgs B ++ sgs P) (sgs F) (sgs B) (sgs P) z → Q .next { s with heap := h', toks := tk' }) : wpAny Mo A tree Q E s :=
  wpAny_mono h1 (fun _ _ ⟨e, B, t, nn, i, u, n, h', tk', es, F', N', i1, i2, r⟩ => by subst e es; exact h2 B t nn i u n h' tk' F' N' i1 i2 r) fun _ _ x => x
theorem cd_off {cd cd' news : Led} {P a : Addr} {o : Obj} (h : ∀ x ∈ cd', x ∈ cd ∨ ∀ q ∈ news, q.1 ≠ P → q.1 < x.1) (hc : ∀ x ∈ cd, x.1 ≠ a) (hm : (a, o) ∈ news) (hne : a ≠ P) : ∀ x ∈ cd', x.1 ≠ a := fun x hx => by
  rcases h x hx with z | z
  · exact hc x z
  · exact fun e => absurd (z _ hm hne) (by rw [e]; exact Nat.lt_irrefl _)
end
theorem cd_offs {cd cd' news : Led} {P : Addr} (h : ∀ x ∈ cd', x ∈ cd ∨ ∀ q ∈ news, q.1 ≠ P → q.1 < x.1) (hc : ∀ q ∈ news, q.1 ≠ P → ∀ x ∈ cd, x.1 ≠ q.1) : ∀ q ∈ news, q.1 ≠ P → ∀ x ∈ cd', x.1 ≠ q.1 := fun q hq hP x hx => by
  rcases h x hx with z | z
  · exact hc q hq hP x z
  · exact fun e => absurd (z q hq hP) (by rw [e]; exact Nat.lt_irrefl _)
theorem right_int (w : World) (F B P : Str) (z : Int) (tF tB tP tg : Tok) (dg : Int) (hR : RowNum (sgs F ++ sgs B ++ sgs P) (sgs F) (sgs B) (sgs P) z) (hpw : PowTxt P z) (hdg : 1 ≤ dg) :
    MeetsN w 424 60 1200 423 419 (Str.ofString "_law_number_right.<locals>.<lambda>") [.str F tF, .str B tB, .str P tP, .int dg tg] (fun r => r = .bool true) := by
  obtain ⟨n, rfl⟩ := Int.eq_ofNat_of_zero_le (show 0 ≤ dg by omega)
  exact right_any w F B P z tF tB tP tg n hR hpw (by omega)

/-! with no frame below, the ground that turned is the ground -/
section
variable {w : World} {f : Addr} {d u : Nat} {c P : Addr} {qual : Str} {vs : List Value} {g : Obj → Led} {ps : Array Value} {cd : Led} {p : Program} {loose : List Str} {mean : ExcName → Option Value} {mg mb : Str → Option Value} {dp un : Nat} {gd : Option (List Code)} {cn : Str} {cs : Scope} {a : Addr} {ccd : Value} {cl : List (Str × Addr)} {A₀ : Around} {base h₀ h₁ h : Heap} {L : Addr} {m : Str → Option Value} {news : Led} {s : Shared} {Q E : Value → Shared → Prop}
theorem turn_fr (T : KtsTurn [] h₀ h₁) (F : Fr h₁ L h m) : Fr h₀ L h m :=
  ⟨F.ns, fun b o e => F.keep b o (T.other b o e (fun q => nomatch q)), by rw [← T.size]; exact F.above⟩
theorem turn_news (T : KtsTurn [] h₀ h₁) (N : News h₁ L h news) : News h₀ L h news := fun q hq => ⟨(N q hq).1, (N q hq).2.1, by
  cases e : h₀.get? q.1 with
  | none => rfl
  | some o =>
    have := (N q hq).2.2
    rw [T.other _ _ e (fun q => nomatch q)] at this
    cases this⟩
theorem useN0 {Out : Value → Prop} (C : MeetsN w f d u c P qual vs Out) (N : News h₀ L s.heap news) (F : Fr h₀ L s.heap m) (B : Below A₀ base [] h₀) (X : (Mine.K w.params).In h₀) (T : Top p loose mean mg mb h₀) (XB : (Mine.K w.params).In base) (TB : Top p loose mean mg mb base)
    (CH : CodeHd base c P) (hk : cs.kind = .function) (hd : dp + d < recursionLimit) (hu : un + u < cLine) (U : UpdF P (tabObj ps) news g) (S : TS P qual ps cd) (hcd : ∀ q ∈ cd, q ∈ news) (hcdP : ∀ q ∈ cd, q.1 ≠ P)
    (k : ∀ r cd' ps' h' tk', Fr h₀ L h' m → News h₀ L h' (g (tabObj ps') ++ cd') → TS P qual ps' cd' → (∀ x ∈ cd', x ∈ cd ∨ ∀ q ∈ news, q.1 ≠ P → q.1 < x.1) → (∀ x ∈ cd', x.1 ≠ P) → Out r → Q r { s with heap := h', toks := tk' }) :
    wpAny (model prg w) (ktrTop dp un gd cn cs L a ccd cl []) (call (.ref f) vs) Q E s :=
  useN C N F B X T XB TB (fun _ h => nomatch h) CH hk hd hu U S hcd hcdP fun r cd' ps' _ h' tk' T' F' N' S' l l' _ _ _ _ o => k r cd' ps' h' tk' (turn_fr T' F') (turn_news T' N') S' l l' o
theorem useB0 {Out : Value → Led → Prop} (C : MeetsB w f d u c P qual vs Out) (N : News h₀ L s.heap news) (F : Fr h₀ L s.heap m) (B : Below A₀ base [] h₀) (X : (Mine.K w.params).In h₀) (T : Top p loose mean mg mb h₀) (XB : (Mine.K w.params).In base) (TB : Top p loose mean mg mb base)
    (CH : CodeHd base c P) (hk : cs.kind = .function) (hd : dp + d < recursionLimit) (hu : un + u < cLine) (U : UpdF P (tabObj ps) news g) (S : TS P qual ps cd) (hcd : ∀ q ∈ cd, q ∈ news) (hcdP : ∀ q ∈ cd, q.1 ≠ P)
    (k : ∀ r tl cd' ps' h' tk', Fr h₀ L h' m → News h₀ L h' (tl ++ (g (tabObj ps') ++ cd')) → TS P qual ps' cd' → (∀ x ∈ cd', x ∈ cd ∨ ∀ q ∈ news, q.1 ≠ P → q.1 < x.1) → (∀ x ∈ cd', x.1 ≠ P) → (∀ q ∈ news, ∀ x ∈ tl, q.1 < x.1) → Out r tl → Q r { s with heap := h', toks := tk' }) :
    wpAny (model prg w) (ktrTop dp un gd cn cs L a ccd cl []) (call (.ref f) vs) Q E s :=
  useB6 C N F B X T XB TB (fun _ h => nomatch h) CH hk hd hu U S hcd hcdP fun r tl cd' ps' _ h' tk' T' F' N' S' l l' lt _ _ _ _ o => k r tl cd' ps' h' tk' (turn_fr T' F') (turn_news T' N') S' l l' lt o
theorem unr_end {I : Addr} {it : Obj} {x y : Addr × Obj} {R : (Str → Option Value) → List (Addr × Obj) → Prop} {tk : Nat} (F : Fr h₀ L h m) (N : News h₀ L h (x :: y :: (I, it) :: news)) (off : ∀ p ∈ news, p.1 ≠ I) (r : R m news) : UnrEnd h₀ L s I it R { s with heap := h, toks := tk } :=
  UnrEnd.intro F N news (fun _ hp => .tail _ (.tail _ hp)) off r
theorem unrw_end {I : Addr} {it : Obj} {all : Led} {keep : Led} {R : (Str → Option Value) → List (Addr × Obj) → Prop} {tk : Nat} (F : Fr h₀ L h m) (N : News h₀ L h all) (hI : (I, it) ∈ all) (sub : ∀ p ∈ news, p ∈ all) (off : ∀ p ∈ news, p.1 ≠ I) (hk : SubL keep news) (r : R m news) :
    UnrEndW h₀ L s [(I, it)] (fun m' n' => SubL keep n' ∧ R m' n') { s with heap := h, toks := tk } :=
  ⟨h, tk, m, news, rfl, F, fun p hp => by
    rcases List.mem_append.mp hp with hp | hp
    · rw [List.mem_singleton.mp hp]
      exact N _ hI
    · exact N p (sub p hp), fun p hp q hq => by
    rw [List.mem_singleton.mp hq]
    exact off p hp, hk, r⟩
theorem unrw_1 {I : Addr} {it : Obj} {x : Addr × Obj} {keep : Led} {R : (Str → Option Value) → List (Addr × Obj) → Prop} {tk : Nat} (F : Fr h₀ L h m) (N : News h₀ L h (x :: (I, it) :: news)) (off : ∀ p ∈ news, p.1 ≠ I) (hk : SubL keep news) (r : R m news) :
    UnrEndW h₀ L s [(I, it)] (fun m' n' => SubL keep n' ∧ R m' n') { s with heap := h, toks := tk } := unrw_end F N (.tail _ (.head _)) (fun _ hp => .tail _ (.tail _ hp)) off hk r
theorem unrw_0 {I : Addr} {it : Obj} {keep : Led} {R : (Str → Option Value) → List (Addr × Obj) → Prop} {tk : Nat} (F : Fr h₀ L h m) (N : News h₀ L h ((I, it) :: news)) (off : ∀ p ∈ news, p.1 ≠ I) (hk : SubL keep news) (r : R m news) :
    UnrEndW h₀ L s [(I, it)] (fun m' n' => SubL keep n' ∧ R m' n') { s with heap := h, toks := tk } := unrw_end F N (.head _) (fun _ hp => .tail _ hp) off hk r
end
theorem law_end {cl : Str → Option Addr} {mean : ExcName → Option Value} {args : List WData} {s₁ s' : Shared} (hk : ∀ b o, s₁.heap.get? b = some o → s'.heap.get? b = some o) (hos : s'.os = s₁.os) (hg : s'.gens = #[]) : GoodW PySem.Challenge.rw_pf0014_01.row.claim cl mean args s₁ (.ok (.ret (.bool true))) s' :=
  ⟨.inl ⟨_, .bool true, [], rfl, fun _ => rfl, .bool true, by with_unfolding_all rfl, fun _ => ⟨List.nodup_nil, fun _ h => nomatch h⟩⟩, hk, hos, hg⟩

/-! one turn of the law's loop, walked once, used twice -/
noncomputable def TurnS (s₁ : Shared) (g : Heap) (L I M D S : Addr) (it lo so : Obj) (b : Int) (s' : Shared) : Prop :=
  ∃ (m : Str → Option Value) (i : Int) (u : Tok) (n : Nat) (ps : Array Value) (cd : Led) (h' : Heap) (tk' : Nat), s' = { s₁ with heap := h', toks := tk' } ∧ m (Str.ofString "mug") = some (.ref M) ∧ Fr g L h' m ∧
    News g L h' ((I, it) :: (M, W.listOf #[.ref D, .int i u] n) :: (D, lo) :: (S, so) :: (426, tabObj #[]) :: (419, tabObj ps) :: cd) ∧ TS 419 (Str.ofString "_law_number_right.<locals>.<lambda>") ps cd ∧ (∀ x ∈ cd, x.1 ≠ 419) ∧ (∀ x ∈ cd, x.1 ≠ I) ∧ (∀ x ∈ cd, x.1 ≠ M) ∧ 0 ≤ i ∧ i ≤ b
noncomputable def TurnF (P : Shared → Prop) (f : Flow) (s' : Shared) : Prop := f = .next ∧ P s'
section
variable {s₁ : Shared} {g : Heap} {L I M D S : Addr} {it lo so : Obj} {b : Int}
theorem TurnS.mk {m : Str → Option Value} {i : Int} {u : Tok} {n : Nat} {ps : Array Value} {cd : Led} {h' : Heap} {tk' : Nat} (F : Fr g L h' m) (N : News g L h' ((I, it) :: (M, W.listOf #[.ref D, .int i u] n) :: (D, lo) :: (S, so) :: (426, tabObj #[]) :: (419, tabObj ps) :: cd))
    (hm : m (Str.ofString "mug") = some (.ref M)) (T : TS 419 (Str.ofString "_law_number_right.<locals>.<lambda>") ps cd) (o1 : ∀ x ∈ cd, x.1 ≠ 419) (o2 : ∀ x ∈ cd, x.1 ≠ I) (o3 : ∀ x ∈ cd, x.1 ≠ M) (h0 : 0 ≤ i) (h1 : i ≤ b) : TurnS s₁ g L I M D S it lo so b { s₁ with heap := h', toks := tk' } :=
  ⟨m, i, u, n, ps, cd, h', tk', rfl, hm, F, N, T, o1, o2, o3, h0, h1⟩
variable {Mo : Model} {A : Around} {E : Value → Shared → Prop} {tree : Sem Flow} {Q : Flow → Shared → Prop} {s : Shared}
theorem fixF {g : Heap} {L L' : Addr} {h h' : Heap} {m m' : Str → Option Value} (_F : Fr g L h m) (F : Fr g L' h' m') (e : L' = L) : Fr g L h' m' := e ▸ F
theorem fixN {g : Heap} {L L' : Addr} {h h' : Heap} {m : Str → Option Value} {l : Led} (_F : Fr g L h m) (N : News g L' h' l) (e : L' = L) : News g L h' l := e ▸ N
theorem turn_next {P : Shared → Prop} (t : wpAny Mo A tree (TurnF P) E s) (k : ∀ s', P s' → Q .next s') : wpAny Mo A tree Q E s :=
  wpAny_mono t (fun _ s' ⟨e, p⟩ => by subst e; exact k s' p) fun _ _ x => x
theorem turn_both (b0 : Int) (hb : b0 ≤ 20) (h : TurnS s₁ g L I M D S it lo so b0 s)
    (main : ∀ it b s, b ≤ 20 → TurnS s₁ g L I M D S it lo so b s → wpAny Mo A tree (TurnF (TurnS s₁ g L I M D S it lo so (b + 6))) E s)
    (k : (∀ it b s, b ≤ 20 → TurnS s₁ g L I M D S it lo so b s → wpAny Mo A tree (TurnF (TurnS s₁ g L I M D S it lo so (b + 6))) E s) → ∀ s', TurnS s₁ g L I M D S it lo so (b0 + 6) s' → Q .next s') : wpAny Mo A tree Q E s :=
  turn_next (main it b0 s hb h) (k main)
end

-- MACROS
-- END
theorem law_holds.tw11463670642173560981 : True := trivial
theorem law_holds.tw9423440377400516374 : True := trivial
theorem law_holds.tw1341266762083198811 : True := trivial
theorem law_holds.tw11803358882649189518 : True := trivial
theorem law_holds.tw15191720212996534143 : True := trivial
theorem law_holds.tw18326849912455186884 : True := trivial
theorem law_holds.tw881140697980615281 : True := trivial
theorem law_holds.tw17899081815984039989 : True := trivial
theorem law_holds.tw8634839017697508684 : True := trivial
theorem law_holds.tw14497384708736915567 : True := trivial
theorem law_holds.tw15732109348078318572 : True := trivial
theorem law_holds.tw14051398506283589457 : True := trivial
theorem law_holds.tw16947615914383616782 : True := trivial
theorem law_holds.tw3912811242725288453 : True := trivial
theorem law_holds.tw3046938939346580660 : True := trivial
theorem law_holds.tw7604666192120794032 : True := trivial
theorem law_holds.tw11625900857008200698 : True := trivial
theorem law_holds.tw15472126771306010800 : True := trivial
theorem law_holds.tw7120836010843673076 : True := trivial
theorem law_holds.tw14498155544194170393 : True := trivial
theorem law_holds.tw15333956030411951890 : True := trivial
theorem law_holds.tw14774650325386425613 : True := trivial
theorem law_holds.tw14892801356780361778 : True := trivial
theorem law_holds.tw17974257514489008736 : True := trivial
theorem law_holds.tw1819975233463548508 : True := trivial
theorem law_holds.tw4515466672771955728 : True := trivial
theorem law_holds.tw15274831704391544125 : True := trivial
theorem law_holds.tw8549365171731915398 : True := trivial
theorem law_holds.tw1622690429015379626 : True := trivial
theorem law_holds.tw15150646450996357022 : True := trivial
theorem law_holds.tw10983241140555628109 : True := trivial
theorem law_holds.tw2644310842459337959 : True := trivial
theorem law_holds.tw4030767218360268280 : True := trivial
theorem law_holds.tw11633083819707477107 : True := trivial
theorem law_holds.tw15448297888555860652 : True := trivial
theorem law_holds.tw18269650602155537469 : True := trivial
theorem law_holds.tw8570087061310353148 : True := trivial
theorem law_holds.tw10108825076125807744 : True := trivial
theorem law_holds.tw8285764192309689115 : True := trivial
theorem law_holds.tw2143268655074302082 : True := trivial
theorem law_holds.tw15162217921772873613 : True := trivial
theorem law_holds.tw2856731137302751260 : True := trivial
theorem law_holds.tw13271733227525717574 : True := trivial
theorem law_holds.tw10958410103948607464 : True := trivial
theorem law_holds.tw12835091436910803158 : True := trivial
theorem law_holds.tw13250372474279835810 : True := trivial
theorem law_holds.tw16805829885119392726 : True := trivial
theorem law_holds.tw8785698371604719795 : True := trivial
theorem law_holds.tw5731563423909890137 : True := trivial
theorem law_holds.tw14510135558408284934 : True := trivial
theorem law_holds.tw14789792462180790578 : True := trivial
theorem law_holds.tw5640673133297012132 : True := trivial
theorem law_holds.tw3974387499553966400 : True := trivial
theorem law_holds.tw14385925486924208373 : True := trivial
theorem law_holds.tw18340598423539479173 : True := trivial
theorem law_holds.tw10812634152524527747 : True := trivial
theorem law_holds.tw2346498722261716173 : True := trivial
theorem law_holds.tw17684373550441277504 : True := trivial
theorem law_holds.tw8040771413219435098 : True := trivial
theorem law_holds.tw2322801206320994539 : True := trivial
theorem law_holds.tw16978406815995349258 : True := trivial
theorem law_holds.tw16009327648451700120 : True := trivial
theorem law_holds.tw6265907326580845545 : True := trivial
theorem law_holds.tw12977093529070104392 : True := trivial
theorem law_holds.tw10465528174321978529 : True := trivial
theorem law_holds.tw17253903310271361901 : True := trivial
theorem law_holds.tw5887144690679024014 : True := trivial
theorem law_holds.tw1767730674963353768 : True := trivial
theorem law_holds.tw4889031023730116350 : True := trivial
theorem law_holds.tw11484002064277903863 : True := trivial
theorem law_holds.tw5455921660152230842 : True := trivial
theorem law_holds.tw17344370184833688806 : True := trivial
theorem law_holds.tw17295586203589526084 : True := trivial
theorem law_holds.tw1989176631692091739 : True := trivial
theorem law_holds.tw12831907817818079685 : True := trivial
theorem law_holds.tw17713402740875732926 : True := trivial
theorem law_holds.tw15802469936163623734 : True := trivial
theorem law_holds.tw15544829507116839252 : True := trivial
theorem law_holds.tw4464252984393422682 : True := trivial
theorem law_holds.tw11017292853192552079 : True := trivial
theorem law_holds.tw5125778097945113979 : True := trivial
theorem law_holds.tw6896717019858035522 : True := trivial
theorem law_holds.tw4439653461905209652 : True := trivial
theorem law_holds.tw13780023080261437657 : True := trivial
theorem law_holds.tw2124134355350193313 : True := trivial
theorem law_holds.tw11946022803392826334 : True := trivial
theorem law_holds.tw1928719863018725356 : True := trivial
theorem law_holds.tw3682559726232862161 : True := trivial
theorem law_holds.tw13766487248619392586 : True := trivial
theorem law_holds.tw3158129796062787159 : True := trivial
theorem law_holds.tw9069877914133315304 : True := trivial
theorem law_holds.tw4062642472163429464 : True := trivial
theorem law_holds.tw17923851452625207687 : True := trivial
theorem law_holds.tw9889521400790421688 : True := trivial
theorem law_holds.tw6369717087994863962 : True := trivial
theorem law_holds.tw4650772019235666517 : True := trivial
theorem law_holds.tw8191475993861738794 : True := trivial
theorem law_holds.tw1377309892636839040 : True := trivial
theorem law_holds.tw16020798645402251202 : True := trivial
theorem law_holds.tw18261290160731607033 : True := trivial
theorem law_holds.tw2006301483956418059 : True := trivial
theorem law_holds.tw13956741780833797525 : True := trivial
theorem law_holds.tw16098122237329998606 : True := trivial
theorem law_holds.tw14983226153234331074 : True := trivial
theorem law_holds.tw8330938851228082562 : True := trivial
theorem law_holds.tw6917612134910634699 : True := trivial
theorem law_holds.tw4370086069003782432 : True := trivial
theorem law_holds.tw2643271747718453845 : True := trivial
theorem law_holds.tw11101566854682643479 : True := trivial
theorem law_holds.tw3910120701321347557 : True := trivial
theorem law_holds.tw1414043511812021011 : True := trivial
theorem law_holds.tw3494445600050047599 : True := trivial
theorem law_holds.tw5451054884063135654 : True := trivial
theorem law_holds.tw11133525997344109421 : True := trivial
theorem law_holds.tw6723812968561706957 : True := trivial
theorem law_holds.tw16461882675039125421 : True := trivial
theorem law_holds.tw9510796693705445280 : True := trivial
theorem law_holds.tw6727219029552735585 : True := trivial
theorem law_holds.tw4441770287765753910 : True := trivial
theorem law_holds.tw10024239376800412576 : True := trivial
theorem law_holds.tw15293083901398250104 : True := trivial
theorem law_holds.tw7304591109411159013 : True := trivial
theorem law_holds.tw12687621791434340054 : True := trivial
theorem law_holds.tw12115171985352901274 : True := trivial
theorem law_holds.tw15883345262158282383 : True := trivial
theorem law_holds.tw2078624436916829710 : True := trivial
theorem law_holds.tw11846676642670509255 : True := trivial
theorem law_holds.tw10516828495840041881 : True := trivial
theorem law_holds.tw12780804625047726367 : True := trivial
theorem law_holds.tw2557128651999224082 : True := trivial
theorem law_holds.tw15617896438947887921 : True := trivial
theorem law_holds.tw3438298445031660282 : True := trivial
theorem law_holds.tw498061464947678834 : True := trivial
theorem law_holds.tw576407869801174206 : True := trivial
theorem law_holds.tw14390095281932903014 : True := trivial
theorem law_holds.tw10368410895845634921 : True := trivial
theorem law_holds.tw9682718004065560343 : True := trivial
theorem law_holds.tw2558664710541493025 : True := trivial
theorem law_holds.tw12296726922439171297 : True := trivial
theorem law_holds.tw17274716441693411508 : True := trivial
theorem law_holds.tw8720880381367431298 : True := trivial
theorem law_holds.tw3850404396616230974 : True := trivial
theorem law_holds.tw9992725586745946429 : True := trivial
theorem law_holds.tw16273140198857503625 : True := trivial
theorem law_holds.tw1762888911704233025 : True := trivial
theorem law_holds.tw2503670479209048990 : True := trivial
theorem law_holds.tw2269544990204364226 : True := trivial
theorem law_holds.tw3956099054510807996 : True := trivial
theorem law_holds.tw607667584577438428 : True := trivial
theorem law_holds.tw18135211599370774712 : True := trivial
theorem law_holds.tw519298541982818421 : True := trivial
theorem law_holds.tw15014403891855920072 : True := trivial
theorem law_holds.tw12001326760864702757 : True := trivial
theorem law_holds.tw784011647948385275 : True := trivial
theorem law_holds.tw302768837105346163 : True := trivial
theorem law_holds.tw7769649832755249146 : True := trivial
theorem law_holds.tw18234560199702728603 : True := trivial
theorem law_holds.tw13703302256926191282 : True := trivial
theorem law_holds.tw12134408205421670959 : True := trivial
theorem law_holds.tw123295346585929383 : True := trivial
theorem law_holds.tw14081814398400468925 : True := trivial
theorem law_holds.tw8984712037535005518 : True := trivial
theorem law_holds.tw17709450091139059752 : True := trivial
theorem law_holds.tw13709617746848070560 : True := trivial
theorem law_holds.tw1670043908289496885 : True := trivial
theorem law_holds.tw2387193687640843687 : True := trivial
theorem law_holds.tw8909828626151137519 : True := trivial
theorem law_holds.tw7696488724909661519 : True := trivial
theorem law_holds.tw5769158387606399586 : True := trivial
theorem law_holds.tw5112083995522966620 : True := trivial
theorem law_holds.tw10362271348294423435 : True := trivial
theorem law_holds.tw10028117763298573888 : True := trivial
theorem law_holds.tw1905533677188600702 : True := trivial
theorem law_holds.tw1973129929022764952 : True := trivial
theorem law_holds.tw8553002610548859549 : True := trivial
theorem law_holds.tw12116493165278983582 : True := trivial
theorem law_holds.tw11881114122080957857 : True := trivial
theorem law_holds.tw16873799427995575018 : True := trivial
theorem law_holds.tw3756308257209627903 : True := trivial
theorem law_holds.tw11100686419730198450 : True := trivial
theorem law_holds.tw14822640431511872941 : True := trivial
theorem law_holds.tw8970147916757833333 : True := trivial
theorem law_holds.tw6776455111828631412 : True := trivial
theorem law_holds.tw10348105795364475437 : True := trivial
theorem law_holds.tw15527639110640922598 : True := trivial
theorem law_holds.tw5643085508250407593 : True := trivial
theorem law_holds.tw1689763614830377041 : True := trivial
theorem law_holds.tw8069584337474932285 : True := trivial
theorem law_holds.tw981846192996546977 : True := trivial
theorem law_holds.tw11544315989524547432 : True := trivial
theorem law_holds.tw7810010154342571744 : True := trivial
theorem law_holds.tw1035469204868569938 : True := trivial
theorem law_holds.tw17966231746923989484 : True := trivial
theorem law_holds.tw14883556706271630602 : True := trivial
theorem law_holds.tw10609929442622069884 : True := trivial
theorem law_holds.tw5858263632927829637 : True := trivial
theorem law_holds.tw11781800970755023335 : True := trivial
theorem law_holds.tw2578278018795888234 : True := trivial
theorem law_holds.tw3049941959672503198 : True := trivial
theorem law_holds.tw5506821171919863439 : True := trivial
theorem law_holds.tw13402424001964919149 : True := trivial
theorem law_holds.tw5274592661964301406 : True := trivial
theorem law_holds.tw12303009252429188658 : True := trivial
theorem law_holds.tw440325148559900515 : True := trivial
theorem law_holds.tw12038593971548452464 : True := trivial
theorem law_holds.tw6159533029260741167 : True := trivial
theorem law_holds.tw15352839923633478061 : True := trivial
theorem law_holds.tw545109181885906688 : True := trivial
theorem law_holds.tw2907507879108658156 : True := trivial
theorem law_holds.tw14326059299131336239 : True := trivial
theorem law_holds.tw3253568177066640346 : True := trivial
theorem law_holds.tw9207643191828677137 : True := trivial
theorem law_holds.tw16814784418094084021 : True := trivial
theorem law_holds.tw9015865553290912870 : True := trivial
theorem law_holds.tw7566432030715092817 : True := trivial
theorem law_holds.tw11924911360389889469 : True := trivial
theorem law_holds.tw11126432536435168541 : True := trivial
theorem law_holds.tw14872900085578418628 : True := trivial
theorem law_holds.tw179590077315354965 : True := trivial
theorem law_holds.tw11223184984439025696 : True := trivial
theorem law_holds.tw2136269947727277649 : True := trivial
theorem law_holds.tw8854015012368427407 : True := trivial
theorem law_holds.tw3035144380315620824 : True := trivial
theorem law_holds.tw2090888555730037645 : True := trivial
theorem law_holds.tw8666519363043736892 : True := trivial
theorem law_holds.tw745255978533919091 : True := trivial
theorem law_holds.tw6719018230134327050 : True := trivial
theorem law_holds.tw10242277825702978295 : True := trivial
theorem law_holds.tw13190408463805328480 : True := trivial
theorem law_holds.tw3426384778480675251 : True := trivial
theorem law_holds.tw3307954989432871184 : True := trivial
theorem law_holds.tw18113906227735052554 : True := trivial
theorem law_holds.tw13431030151845061361 : True := trivial
theorem law_holds.tw3033269912633744064 : True := trivial
theorem law_holds.tw6317479115527610633 : True := trivial
theorem law_holds.tw13650905803964671038 : True := trivial
theorem law_holds.tw602461330855297101 : True := trivial
theorem law_holds.tw16470317323979864763 : True := trivial
theorem law_holds.tw4614512636035447770 : True := trivial
theorem law_holds.tw11677100312832694166 : True := trivial
theorem law_holds.tw17942709131360195518 : True := trivial
theorem law_holds.tw5920216800500632969 : True := trivial
theorem law_holds.tw3896150654470677357 : True := trivial
theorem law_holds.tw12622292602297523153 : True := trivial
theorem law_holds.tw13397297893571687751 : True := trivial
theorem law_holds.tw8857742495270377987 : True := trivial
theorem law_holds.tw10442559174759676424 : True := trivial
theorem law_holds.tw9634471323475708679 : True := trivial
theorem law_holds.tw15607887362523206001 : True := trivial
theorem law_holds.tw17253691774821329096 : True := trivial
theorem law_holds.tw4593294709026258786 : True := trivial
theorem law_holds.tw8417186165934385351 : True := trivial
theorem law_holds.tw16760957895259694429 : True := trivial
theorem law_holds.tw9779807473162285230 : True := trivial
theorem law_holds.tw2295933128562542503 : True := trivial
theorem law_holds.tw14746732674962391887 : True := trivial
theorem law_holds.tw4916342969005030805 : True := trivial
theorem law_holds.tw3882201998751590657 : True := trivial
theorem law_holds.tw2618386414584295968 : True := trivial
theorem law_holds.tw9552830710289189752 : True := trivial
theorem law_holds.tw16099233806120587224 : True := trivial
theorem law_holds.tw3850334171643177529 : True := trivial
theorem law_holds.tw13740979821971591459 : True := trivial
theorem law_holds.tw12889673554181485818 : True := trivial
theorem law_holds.tw2102315897755806987 : True := trivial
theorem law_holds.tw3253820488102484341 : True := trivial
theorem law_holds.tw8032111799605200803 : True := trivial
theorem law_holds.tw5523756206651706831 : True := trivial
theorem law_holds.tw8186115780064531000 : True := trivial
theorem law_holds.tw4818577856007422655 : True := trivial
theorem law_holds.tw3742325753681652743 : True := trivial
theorem law_holds.tw14828999820898988419 : True := trivial
theorem law_holds.tw4037582482628031876 : True := trivial
theorem law_holds.tw4329158554759489670 : True := trivial
theorem law_holds.tw76197970712880732 : True := trivial
theorem law_holds.tw676263390381983339 : True := trivial
theorem law_holds.tw5364902710198789758 : True := trivial
theorem law_holds.tw12456547296908542839 : True := trivial
theorem law_holds.tw12223724995276690173 : True := trivial
theorem law_holds.tw3756957479349018193 : True := trivial
theorem law_holds.tw631266038723830076 : True := trivial
theorem law_holds.tw4992725456586698614 : True := trivial
theorem law_holds.tw7185456241796803578 : True := trivial
theorem law_holds.tw1096898596823417342 : True := trivial
theorem law_holds.tw724200737284857819 : True := trivial
theorem law_holds.tw11098625913536864229 : True := trivial
theorem law_holds.tw14354538779393863138 : True := trivial
theorem law_holds.tw907578622648922086 : True := trivial
theorem law_holds.tw1335265377702380343 : True := trivial
theorem law_holds.tw9657736130196760233 : True := trivial
theorem law_holds.tw7221428835167493151 : True := trivial
theorem law_holds.tw14377833709258309704 : True := trivial
theorem law_holds.tw16720094985154256693 : True := trivial
theorem law_holds.tw12342728606916771844 : True := trivial
theorem law_holds.tw9288214680346807717 : True := trivial
theorem law_holds.tw1685627985566243432 : True := trivial
theorem law_holds.tw3955097671198598788 : True := trivial
theorem law_holds.tw7495221243884187115 : True := trivial
theorem law_holds.tw10296202853966499060 : True := trivial
theorem law_holds.tw8652346329174877282 : True := trivial
theorem law_holds.tw13882729330811710610 : True := trivial
theorem law_holds.tw12167708702281630187 : True := trivial
theorem law_holds.tw13301187468288870568 : True := trivial
theorem law_holds.tw17993387198741990920 : True := trivial
theorem law_holds.tw447027507633508388 : True := trivial
theorem law_holds.tw14991590004735058009 : True := trivial
theorem law_holds.tw7820799176418779761 : True := trivial
theorem law_holds.tw10261083809925404198 : True := trivial
theorem law_holds.tw14904137174637212347 : True := trivial
theorem law_holds.tw6333624483447246961 : True := trivial
theorem law_holds.tw11026575858783421537 : True := trivial
theorem law_holds.tw7636989558263936852 : True := trivial
theorem law_holds.tw15829985883664642994 : True := trivial
theorem law_holds.tw16651969177761221846 : True := trivial
theorem law_holds.tw4503035019201841076 : True := trivial
theorem law_holds.tw2842810181116790245 : True := trivial
theorem law_holds.tw11690447701083486646 : True := trivial
theorem law_holds.tw6709271908398517637 : True := trivial
theorem law_holds.tw16836969012518115619 : True := trivial
theorem law_holds.tw17911580528928914924 : True := trivial
theorem law_holds.tw11097158420108258118 : True := trivial
theorem law_holds.tw14571795756577361901 : True := trivial
theorem law_holds.tw7472407996622490835 : True := trivial
theorem law_holds.tw15661869461025623997 : True := trivial
theorem law_holds.tw11609493526922420660 : True := trivial
theorem law_holds.tw10007947361888340627 : True := trivial
theorem law_holds.tw12476058986133298565 : True := trivial
theorem law_holds.tw8249079356659094474 : True := trivial
theorem law_holds.tw16893121556090616931 : True := trivial
theorem law_holds.tw4146061822495498468 : True := trivial
theorem law_holds.tw11289095316329951393 : True := trivial
theorem law_holds.tw15609566024721092083 : True := trivial
theorem law_holds.tw18203989763732354715 : True := trivial
theorem law_holds.tw10817052189556005596 : True := trivial
theorem law_holds.tw13220211186989608806 : True := trivial
theorem law_holds.tw16406091861079842607 : True := trivial
theorem law_holds.tw10666784280354678857 : True := trivial
theorem law_holds.tw10143922819780533295 : True := trivial
theorem law_holds.tw9229837888307970544 : True := trivial
theorem law_holds.tw4273555757443719353 : True := trivial
theorem law_holds.tw6499956759230125245 : True := trivial
theorem law_holds.tw16563099163409725306 : True := trivial
theorem law_holds.tw4509470221608676476 : True := trivial
theorem law_holds.tw2887050238494874643 : True := trivial
theorem law_holds.tw13958071646730322851 : True := trivial
theorem law_holds.tw12732824653754844360 : True := trivial
theorem law_holds.tw16883458599210261866 : True := trivial
theorem law_holds.tw14160533322030094474 : True := trivial
theorem law_holds.tw7288167275597904205 : True := trivial
theorem law_holds.tw8176227357466254829 : True := trivial
theorem law_holds.tw3943428198234077543 : True := trivial
theorem law_holds.tw1909877003179415225 : True := trivial
theorem law_holds.tw11470271118054631628 : True := trivial
theorem law_holds.tw7311554392007033315 : True := trivial
theorem law_holds.tw9875236377963488844 : True := trivial
theorem law_holds.tw13800757232730249582 : True := trivial
theorem law_holds.tw15272395603832836080 : True := trivial
theorem law_holds.tw14925382992726071281 : True := trivial
theorem law_holds.tw4072507727158212662 : True := trivial
theorem law_holds.tw16614716721108272449 : True := trivial
theorem law_holds.tw14289194402921355359 : True := trivial
theorem law_holds.tw13381368364815097289 : True := trivial
theorem law_holds.tw2269349572991927816 : True := trivial
theorem law_holds.tw4781243967656130014 : True := trivial
theorem law_holds.tw6564709946809587534 : True := trivial
theorem law_holds.tw1791086108937442324 : True := trivial
theorem law_holds.tw10701458514688185333 : True := trivial
theorem law_holds.tw1186782194237197914 : True := trivial
theorem law_holds.tw14621789764659903892 : True := trivial
theorem law_holds.tw699380112222796084 : True := trivial
theorem law_holds.tw7910590604623066228 : True := trivial
theorem law_holds.tw9337360582833242297 : True := trivial
theorem law_holds.tw8472228645029834797 : True := trivial
theorem law_holds.tw13392613628428298086 : True := trivial
theorem law_holds.tw16381176275627223697 : True := trivial
theorem law_holds.tw3533179863133810384 : True := trivial
theorem law_holds.tw14997073306097389879 : True := trivial
theorem law_holds.tw18006792725990754497 : True := trivial
theorem law_holds.tw17598101756349436640 : True := trivial
theorem law_holds.tw11097350217990362986 : True := trivial
theorem law_holds.tw2055734563569237896 : True := trivial
theorem law_holds.tw6765152471904792315 : True := trivial
theorem law_holds.tw14335913921861858828 : True := trivial
theorem law_holds.tw13478230802861573701 : True := trivial
theorem law_holds.tw2446358144275080391 : True := trivial
theorem law_holds.tw4323815956820902445 : True := trivial
theorem law_holds.tw8835965917227929528 : True := trivial
theorem law_holds.tw17416681370126159840 : True := trivial
theorem law_holds.tw1496123403401453975 : True := trivial
theorem law_holds.tw9788070467888695262 : True := trivial
theorem law_holds.tw18221428039690301666 : True := trivial
theorem law_holds.tw12459966957829302596 : True := trivial
theorem law_holds.tw10968802771074238664 : True := trivial
theorem law_holds.tw8957123355933967898 : True := trivial
theorem law_holds.tw6934448944433832347 : True := trivial
theorem law_holds.tw653560878884961445 : True := trivial
theorem law_holds.tw17027635718292003107 : True := trivial
theorem law_holds.tw12972484678754428990 : True := trivial
set_option Elab.async true in
set_option maxHeartbeats 16000000 in
theorem law_holds : PySem.Challenge.rw_pf0014_01.Holds := by
  w_on
  refine law_red fun said => ?_
  k_head
  (case hw => w_witness2)
  k_go0
  (all_goals try k_fold)
  refine (let QQ := _; (?_ : wpAny _ _ _ QQ _ _))
  refine (let EE := _; (?_ : wpAny _ _ _ _ EE _))
  rename Frag.In _ _ => X7
  have X8 : (Mine.K _).In _ := X7
  clear X7
  revert X8
  k_fill
  intro X8
  (repeat' (first | ((fail_if_success (with_reducible show wpAny _ _ (execs [_, _, _, _, _, _, _] _) _ _ _)); (first | (k_here; (with_reducible show wpAny _ _ (call (Value.builtin "len") [Value.str _ _]) _ _ _); (refine SBL.len (by omega) ?_)) | (k_here; (with_reducible show wpAny _ _ (subscriptTail _ _ (Value.ref _) (Value.int _ _)) _ _ _); k_dflt (refine' pick _ ?zl ?z0 ?zk ?zb ?za ?_ ?zs); (case zl => k_dflt (exact News.isList (by k_asm) (by k_mem))); (case za => first | (with_reducible exact front_all _ _ _ _ _ _ _ _ _) | (with_reducible exact tail_all _ _ _ _ _ _ _ _) | (with_reducible exact pow_all _ _ _ _ _ _ _ _ _ _ _ _ _)); (case z0 => omega); (case zk => k_dflt ((try simp only [List.length_cons, List.length_nil]); omega)); (case zb => k_dflt (exact Nat.le_of_ble_eq_true rfl)); (case zs => with_unfolding_all rfl); intro x9 t9 p9; (first | (have q9 := tail_len p9) | (have q9 := front_len p9) | skip); (rename News _ _ _ _ => N8p); (replace N8p := news_tail N8p)) | (k_here; (with_reducible show wpAny _ _ (compareOp CmpOp.Eq (Value.ref _) (Value.str _ _)) _ _ _); (refine cmp_ofEq ?_); k_dflt (refine' SeqAt.RcAt.tuple_str _ _ ?zh ?zu _ _ _ _ ?_); (case zh => exact ⟨_, News.get (by k_asm) (by k_mem), rfl, _, rfl⟩); (case zu => ktr_units)) | (k_here; (with_reducible show wpAny _ _ (call (Value.ref _) _) _ _ _); (first | ((with_reducible show wpAny _ _ (call (Value.ref 396) _) _ _ _); k_dflt (refine' useU (sipped _ _ _ _ _ _ _ _ _ _ ?q1 ?q2 ?q3 ?q4 ?q5 ?q6 ?q7 ?q8) ?k1 ?k2 ?k3 ?k4 ?k5 ?kK ?kd ?ku ?kU ?kh ?_; (case k1 => k_asm); (case k2 => k_asm); (case k3 => k_asm); (case k4 => k_asm); (case k5 => k_asm); (case kK => first | exact rfl | assumption); (case kd => ktr_room); (case ku => ktr_units); (case kU => k_updF); (case kh => exact (by repeat' (first | exact List.forall_mem_nil _ | refine List.forall_mem_cons.mpr ⟨by k_mem, ?_⟩))); (case q1 => walk_at "up"); (case q2 => walk_at "up"); (case q3 => walk_at "up"); (case q4 => walk_at "up"); (case q5 => k_asm); (case q6 => k_asm); (case q7 => walk_at "up"); (case q8 => (try dsimp only); omega); k_whole); (intro r9 ob9 tl9 h9 tk9 F9 N9 l9 o9; k_dflt (obtain ⟨e9, z9, t9, u9, n9, e8, g9, g8, e7⟩ := o9; subst e9; subst e8; subst e7; dsimp only [List.cons_append, List.nil_append] at N9); clear l9; walk_at "u3")))) | walk_at "wk"))))
  rename Shared.gens _ = #[] => hgY
  rename IntsAre _ (List.map _ _) => hys
  rename _ = (List.map _ (List.take 30 _)).length => hyl
  rename (List.take 30 _).length = min 30 _ => hyc
  have hyl2 : (List.map (fun k' : Int => if k' < 0 then -k' else k') (List.take 30 ‹List Int›)).length ≤ 30 := by rw [List.length_map, hyc]; exact Nat.min_le_left _ _
  (repeat' (first | ((fail_if_success (with_reducible show wpAny _ _ (execs [_, _, _, _, _, _, _] _) _ _ _)); (first | (k_here; (with_reducible show wpAny _ _ (call (Value.builtin "len") [Value.str _ _]) _ _ _); (refine SBL.len (by omega) ?_)) | (k_here; (with_reducible show wpAny _ _ (subscriptTail _ _ (Value.ref _) (Value.int _ _)) _ _ _); k_dflt (refine' pick _ ?zl ?z0 ?zk ?zb ?za ?_ ?zs); (case zl => k_dflt (exact News.isList (by k_asm) (by k_mem))); (case za => first | (with_reducible exact front_all _ _ _ _ _ _ _ _ _) | (with_reducible exact tail_all _ _ _ _ _ _ _ _) | (with_reducible exact pow_all _ _ _ _ _ _ _ _ _ _ _ _ _)); (case z0 => omega); (case zk => k_dflt ((try simp only [List.length_cons, List.length_nil]); omega)); (case zb => k_dflt (exact Nat.le_of_ble_eq_true rfl)); (case zs => with_unfolding_all rfl); intro x9 t9 p9; (first | (have q9 := tail_len p9) | (have q9 := front_len p9) | skip); (rename News _ _ _ _ => N8p); (replace N8p := news_tail N8p)) | (k_here; (with_reducible show wpAny _ _ (compareOp CmpOp.Eq (Value.ref _) (Value.str _ _)) _ _ _); (refine cmp_ofEq ?_); k_dflt (refine' SeqAt.RcAt.tuple_str _ _ ?zh ?zu _ _ _ _ ?_); (case zh => exact ⟨_, News.get (by k_asm) (by k_mem), rfl, _, rfl⟩); (case zu => ktr_units)) | (k_here; (with_reducible show wpAny _ _ (call (Value.ref _) _) _ _ _); (first | ((with_reducible show wpAny _ _ (call (Value.ref 396) _) _ _ _); k_dflt (refine' useU (sipped _ _ _ _ _ _ _ _ _ _ ?q1 ?q2 ?q3 ?q4 ?q5 ?q6 ?q7 ?q8) ?k1 ?k2 ?k3 ?k4 ?k5 ?kK ?kd ?ku ?kU ?kh ?_; (case k1 => k_asm); (case k2 => k_asm); (case k3 => k_asm); (case k4 => k_asm); (case k5 => k_asm); (case kK => first | exact rfl | assumption); (case kd => ktr_room); (case ku => ktr_units); (case kU => k_updF); (case kh => exact (by repeat' (first | exact List.forall_mem_nil _ | refine List.forall_mem_cons.mpr ⟨by k_mem, ?_⟩))); (case q1 => walk_at "up"); (case q2 => walk_at "up"); (case q3 => walk_at "up"); (case q4 => walk_at "up"); (case q5 => k_asm); (case q6 => k_asm); (case q7 => walk_at "up"); (case q8 => (try dsimp only); omega); k_whole); (intro r9 ob9 tl9 h9 tk9 F9 N9 l9 o9; k_dflt (obtain ⟨e9, z9, t9, u9, n9, e8, g9, g8, e7⟩ := o9; subst e9; subst e8; subst e7; dsimp only [List.cons_append, List.nil_append] at N9); clear l9; walk_at "u3")))) | walk_at "wk"))))
  rename Fr _ _ _ _ => F0
  rename News _ _ _ _ => N0
  revert F0 N0
  rename Fr _ _ _ _ => F9
  intro F0 N0
  replace F0 := fixF F9 F0 rfl
  replace N0 := fixN F9 N0 rfl
  clear F9
  refine turn_both 0 (by decide) (TurnS.mk F0 N0 ?p0 (TS.nil : TS 419 _ #[] []) (fun _ h => nomatch h) (fun _ h => nomatch h) (fun _ h => nomatch h) ?p1 ?p2) ?main ?kk
  (case p0 => exact rfl)
  (case p1 => exact Int.le_refl _)
  (case p2 => exact Int.le_refl _)
  case main =>
    clear F0 N0
    intro it bT sT hbT hT
    obtain ⟨mT, iT, uT, nT, psT, cdT, hpT, tkT, rfl, hmT, FT, NT, ST, oP, oI, oM, hi0, hi1⟩ := hT
    rw [map_pin hmT] at FT
    try dsimp only
    refine (let Q3 := _; (?_ : wpAny _ _ _ Q3 _ _))
    (repeat' (first | ((fail_if_success (with_reducible show wpAny _ _ (exec (Stmt.If (Expr.BoolOp _ _ _) _ _ _) _) _ _ _)); (first | (k_here; (with_reducible show wpAny _ _ (call (Value.builtin "len") [Value.str _ _]) _ _ _); (refine SBL.len (by omega) ?_)) | (k_here; (with_reducible show wpAny _ _ (subscriptTail _ _ (Value.ref _) (Value.int _ _)) _ _ _); k_dflt (refine' pick _ ?zl ?z0 ?zk ?zb ?za ?_ ?zs); (case zl => k_dflt (exact News.isList (by k_asm) (by k_mem))); (case za => first | (with_reducible exact front_all _ _ _ _ _ _ _ _ _) | (with_reducible exact tail_all _ _ _ _ _ _ _ _) | (with_reducible exact pow_all _ _ _ _ _ _ _ _ _ _ _ _ _)); (case z0 => omega); (case zk => k_dflt ((try simp only [List.length_cons, List.length_nil]); omega)); (case zb => k_dflt (exact Nat.le_of_ble_eq_true rfl)); (case zs => with_unfolding_all rfl); intro x9 t9 p9; (first | (have q9 := tail_len p9) | (have q9 := front_len p9) | skip); (rename News _ _ _ _ => N8p); (replace N8p := news_tail N8p)) | (k_here; (with_reducible show wpAny _ _ (compareOp CmpOp.Eq (Value.ref _) (Value.str _ _)) _ _ _); (refine cmp_ofEq ?_); k_dflt (refine' SeqAt.RcAt.tuple_str _ _ ?zh ?zu _ _ _ _ ?_); (case zh => exact ⟨_, News.get (by k_asm) (by k_mem), rfl, _, rfl⟩); (case zu => ktr_units)) | (k_here; (with_reducible show wpAny _ _ (call (Value.ref _) _) _ _ _); (first | ((with_reducible show wpAny _ _ (call (Value.ref 396) _) _ _ _); k_dflt (refine' useU (sipped _ _ _ _ _ _ _ _ _ _ ?q1 ?q2 ?q3 ?q4 ?q5 ?q6 ?q7 ?q8) ?k1 ?k2 ?k3 ?k4 ?k5 ?kK ?kd ?ku ?kU ?kh ?_; (case k1 => k_asm); (case k2 => k_asm); (case k3 => k_asm); (case k4 => k_asm); (case k5 => k_asm); (case kK => first | exact rfl | assumption); (case kd => ktr_room); (case ku => ktr_units); (case kU => k_updF); (case kh => exact (by repeat' (first | exact List.forall_mem_nil _ | refine List.forall_mem_cons.mpr ⟨by k_mem, ?_⟩))); (case q1 => walk_at "up"); (case q2 => walk_at "up"); (case q3 => walk_at "up"); (case q4 => walk_at "up"); (case q5 => k_asm); (case q6 => k_asm); (case q7 => walk_at "up"); (case q8 => (try dsimp only); omega); k_whole); (intro r9 ob9 tl9 h9 tk9 F9 N9 l9 o9; k_dflt (obtain ⟨e9, z9, t9, u9, n9, e8, g9, g8, e7⟩ := o9; subst e9; subst e8; subst e7; dsimp only [List.cons_append, List.nil_append] at N9); clear l9; walk_at "u3")))) | walk_at "wk"))))
    rename frontOk _ = true => hfra
    rename Str.length _ ≤ 40 => hfla
    rename Fr _ _ _ _ => FFa
    rename PowIs _ => hpia
    obtain ⟨z8a, hpfa, hpta⟩ := hpia
    rename News _ _ _ _ => NNa
    refine' cut_b hfra hpfa ?abF ?abM ?abN ?abU ?ab1 ?ab2
    (case abF => exact FFa)
    (case abM => exact rfl)
    (case abN => exact NNa)
    (case abU => k_updF)
    case ab1 =>
      (repeat' (first | (k_here; (with_reducible show wpAny _ _ (call (Value.builtin "len") [Value.str _ _]) _ _ _); (refine SBL.len (by omega) ?_)) | (k_here; (with_reducible show wpAny _ _ (subscriptTail _ _ (Value.ref _) (Value.int _ _)) _ _ _); k_dflt (refine' pick _ ?zl ?z0 ?zk ?zb ?za ?_ ?zs); (case zl => k_dflt (exact News.isList (by k_asm) (by k_mem))); (case za => first | (with_reducible exact front_all _ _ _ _ _ _ _ _ _) | (with_reducible exact tail_all _ _ _ _ _ _ _ _) | (with_reducible exact pow_all _ _ _ _ _ _ _ _ _ _ _ _ _)); (case z0 => omega); (case zk => k_dflt ((try simp only [List.length_cons, List.length_nil]); omega)); (case zb => k_dflt (exact Nat.le_of_ble_eq_true rfl)); (case zs => with_unfolding_all rfl); intro x9 t9 p9; (first | (have q9 := tail_len p9) | (have q9 := front_len p9) | skip); (rename News _ _ _ _ => N8p); (replace N8p := news_tail N8p)) | (k_here; (with_reducible show wpAny _ _ (compareOp CmpOp.Eq (Value.ref _) (Value.str _ _)) _ _ _); (refine cmp_ofEq ?_); k_dflt (refine' SeqAt.RcAt.tuple_str _ _ ?zh ?zu _ _ _ _ ?_); (case zh => exact ⟨_, News.get (by k_asm) (by k_mem), rfl, _, rfl⟩); (case zu => ktr_units)) | (k_here; (with_reducible show wpAny _ _ (call (Value.ref _) _) _ _ _); (first | ((with_reducible show wpAny _ _ (call (Value.ref 396) _) _ _ _); k_dflt (refine' useU (sipped _ _ _ _ _ _ _ _ _ _ ?q1 ?q2 ?q3 ?q4 ?q5 ?q6 ?q7 ?q8) ?k1 ?k2 ?k3 ?k4 ?k5 ?kK ?kd ?ku ?kU ?kh ?_; (case k1 => k_asm); (case k2 => k_asm); (case k3 => k_asm); (case k4 => k_asm); (case k5 => k_asm); (case kK => first | exact rfl | assumption); (case kd => ktr_room); (case ku => ktr_units); (case kU => k_updF); (case kh => exact (by repeat' (first | exact List.forall_mem_nil _ | refine List.forall_mem_cons.mpr ⟨by k_mem, ?_⟩))); (case q1 => walk_at "up"); (case q2 => walk_at "up"); (case q3 => walk_at "up"); (case q4 => walk_at "up"); (case q5 => k_asm); (case q6 => k_asm); (case q7 => walk_at "up"); (case q8 => (try dsimp only); omega); k_whole); (intro r9 ob9 tl9 h9 tk9 F9 N9 l9 o9; k_dflt (obtain ⟨e9, z9, t9, u9, n9, e8, g9, g8, e7⟩ := o9; subst e9; subst e8; subst e7; dsimp only [List.cons_append, List.nil_append] at N9); clear l9; walk_at "u3")))) | walk_at "wk"))
      all_goals (first
        | (rename tailOk _ = true => hYa; refine' CutB.mk ?acF ?acN (row_of2 hfra ?ac1 ?ac2 ?ac3 hYa hpfa) ?acm ?acs ?ac5 ?ac6; (case ac1 => omega); (case acF => k_asm); (case acN => k_asm); (case acm => with_reducible exact map_take); (case ac2 => with_reducible assumption); (case ac3 => with_reducible assumption); (case acs => exact (by repeat' (first | exact sub_refl _ | refine sub_cons ?_))); (case ac5 => omega); (case ac6 => omega))
        | (refine' CutB.mk ?acF ?acN (row_of hfra hpfa) ?acm ?acs ?ac5 ?ac6; (case acF => k_asm); (case acN => k_asm); (case acm => exact map_skip (a := Str.ofString "behind") (b := Str.ofString "nines") (by decide +kernel)); (case acs => exact (by repeat' (first | exact sub_refl _ | refine sub_cons ?_))); (case ac5 => omega); (case ac6 => omega)))
    case ab2 =>
      clear FFa NNa
      intro B8a t8a nn8a i8a u8a n8a h8a tk8a FFa NNa hi8a hj8a hRa
      try dsimp only at NNa
      try dsimp only
      (repeat' (first | ((fail_if_success (with_reducible show wpAny _ _ (call (Value.ref 424) _) _ _ _)); (first | (k_here; (with_reducible show wpAny _ _ (call (Value.builtin "len") [Value.str _ _]) _ _ _); (refine SBL.len (by omega) ?_)) | (k_here; (with_reducible show wpAny _ _ (subscriptTail _ _ (Value.ref _) (Value.int _ _)) _ _ _); k_dflt (refine' pick _ ?zl ?z0 ?zk ?zb ?za ?_ ?zs); (case zl => k_dflt (exact News.isList (by k_asm) (by k_mem))); (case za => first | (with_reducible exact front_all _ _ _ _ _ _ _ _ _) | (with_reducible exact tail_all _ _ _ _ _ _ _ _) | (with_reducible exact pow_all _ _ _ _ _ _ _ _ _ _ _ _ _)); (case z0 => omega); (case zk => k_dflt ((try simp only [List.length_cons, List.length_nil]); omega)); (case zb => k_dflt (exact Nat.le_of_ble_eq_true rfl)); (case zs => with_unfolding_all rfl); intro x9 t9 p9; (first | (have q9 := tail_len p9) | (have q9 := front_len p9) | skip); (rename News _ _ _ _ => N8p); (replace N8p := news_tail N8p)) | (k_here; (with_reducible show wpAny _ _ (compareOp CmpOp.Eq (Value.ref _) (Value.str _ _)) _ _ _); (refine cmp_ofEq ?_); k_dflt (refine' SeqAt.RcAt.tuple_str _ _ ?zh ?zu _ _ _ _ ?_); (case zh => exact ⟨_, News.get (by k_asm) (by k_mem), rfl, _, rfl⟩); (case zu => ktr_units)) | (k_here; (with_reducible show wpAny _ _ (call (Value.ref _) _) _ _ _); (first | ((with_reducible show wpAny _ _ (call (Value.ref 396) _) _ _ _); k_dflt (refine' useU (sipped _ _ _ _ _ _ _ _ _ _ ?q1 ?q2 ?q3 ?q4 ?q5 ?q6 ?q7 ?q8) ?k1 ?k2 ?k3 ?k4 ?k5 ?kK ?kd ?ku ?kU ?kh ?_; (case k1 => k_asm); (case k2 => k_asm); (case k3 => k_asm); (case k4 => k_asm); (case k5 => k_asm); (case kK => first | exact rfl | assumption); (case kd => ktr_room); (case ku => ktr_units); (case kU => k_updF); (case kh => exact (by repeat' (first | exact List.forall_mem_nil _ | refine List.forall_mem_cons.mpr ⟨by k_mem, ?_⟩))); (case q1 => walk_at "up"); (case q2 => walk_at "up"); (case q3 => walk_at "up"); (case q4 => walk_at "up"); (case q5 => k_asm); (case q6 => k_asm); (case q7 => walk_at "up"); (case q8 => (try dsimp only); omega); k_whole); (intro r9 ob9 tl9 h9 tk9 F9 N9 l9 o9; k_dflt (obtain ⟨e9, z9, t9, u9, n9, e8, g9, g8, e7⟩ := o9; subst e9; subst e8; subst e7; dsimp only [List.cons_append, List.nil_append] at N9); clear l9; walk_at "u3")))) | walk_at "wk"))))
      k_dflt (refine' useN0 (right_int _ _ _ _ _ _ _ _ _ _ hRa hpta ?aqp) ?aqN ?aqF ?aqB ?aqX ?aqT ?aqXB ?aqTB ?aqCH ?aqk ?aqd ?aqu ?aqU ?aqS ?aqh ?aqP ?aqq)
      (case aqp => omega)
      (case aqN => k_asm)
      (case aqF => k_asm)
      (case aqB => k_asm)
      (case aqX => k_asm)
      (case aqT => k_asm)
      (case aqXB => assumption)
      (case aqTB => assumption)
      (case aqCH => assumption)
      (case aqk => exact rfl)
      (case aqd => ktr_room)
      (case aqu => ktr_units)
      (case aqU => k_updF)
      (case aqS => exact ST)
      (case aqh => exact (by repeat' (first | exact sub_refl _ | refine sub_cons ?_)))
      (case aqP => exact oP)
      case aqq =>
        intro r9 cda psa h9a tka FAa NAa SAa lAa lBa oAa
        replace oAa : r9 = .bool true := oAa
        subst oAa
        dsimp only [List.cons_append, List.nil_append] at NAa
        (repeat' (first | ((fail_if_success (with_reducible show wpAny _ _ (TurnF _ _ _) _ _ _)); (first | (k_here; (with_reducible show wpAny _ _ (call (Value.builtin "len") [Value.str _ _]) _ _ _); (refine SBL.len (by omega) ?_)) | (k_here; (with_reducible show wpAny _ _ (subscriptTail _ _ (Value.ref _) (Value.int _ _)) _ _ _); k_dflt (refine' pick _ ?zl ?z0 ?zk ?zb ?za ?_ ?zs); (case zl => k_dflt (exact News.isList (by k_asm) (by k_mem))); (case za => first | (with_reducible exact front_all _ _ _ _ _ _ _ _ _) | (with_reducible exact tail_all _ _ _ _ _ _ _ _) | (with_reducible exact pow_all _ _ _ _ _ _ _ _ _ _ _ _ _)); (case z0 => omega); (case zk => k_dflt ((try simp only [List.length_cons, List.length_nil]); omega)); (case zb => k_dflt (exact Nat.le_of_ble_eq_true rfl)); (case zs => with_unfolding_all rfl); intro x9 t9 p9; (first | (have q9 := tail_len p9) | (have q9 := front_len p9) | skip); (rename News _ _ _ _ => N8p); (replace N8p := news_tail N8p)) | (k_here; (with_reducible show wpAny _ _ (compareOp CmpOp.Eq (Value.ref _) (Value.str _ _)) _ _ _); (refine cmp_ofEq ?_); k_dflt (refine' SeqAt.RcAt.tuple_str _ _ ?zh ?zu _ _ _ _ ?_); (case zh => exact ⟨_, News.get (by k_asm) (by k_mem), rfl, _, rfl⟩); (case zu => ktr_units)) | (k_here; (with_reducible show wpAny _ _ (call (Value.ref _) _) _ _ _); (first | ((with_reducible show wpAny _ _ (call (Value.ref 396) _) _ _ _); k_dflt (refine' useU (sipped _ _ _ _ _ _ _ _ _ _ ?q1 ?q2 ?q3 ?q4 ?q5 ?q6 ?q7 ?q8) ?k1 ?k2 ?k3 ?k4 ?k5 ?kK ?kd ?ku ?kU ?kh ?_; (case k1 => k_asm); (case k2 => k_asm); (case k3 => k_asm); (case k4 => k_asm); (case k5 => k_asm); (case kK => first | exact rfl | assumption); (case kd => ktr_room); (case ku => ktr_units); (case kU => k_updF); (case kh => exact (by repeat' (first | exact List.forall_mem_nil _ | refine List.forall_mem_cons.mpr ⟨by k_mem, ?_⟩))); (case q1 => walk_at "up"); (case q2 => walk_at "up"); (case q3 => walk_at "up"); (case q4 => walk_at "up"); (case q5 => k_asm); (case q6 => k_asm); (case q7 => walk_at "up"); (case q8 => (try dsimp only); omega); k_whole); (intro r9 ob9 tl9 h9 tk9 F9 N9 l9 o9; k_dflt (obtain ⟨e9, z9, t9, u9, n9, e8, g9, g8, e7⟩ := o9; subst e9; subst e8; subst e7; dsimp only [List.cons_append, List.nil_append] at N9); clear l9; walk_at "u3")))) | walk_at "wk"))))
        refine ⟨rfl, TurnS.mk (u := u8a) (n := n8a) FAa (news_sub NAa ?fN) ?fm SAa lBa (cd_off lAa oI (.head _) (Nat.ne_of_gt (by omega))) (cd_off lAa oM (.tail _ (.head _)) (Nat.ne_of_gt (by omega))) (by omega) (by omega)⟩
        case fN =>
          refine List.forall_mem_cons.mpr ⟨(by k_mem), ?_⟩
          refine List.forall_mem_cons.mpr ⟨(by k_mem), ?_⟩
          refine List.forall_mem_cons.mpr ⟨(by k_mem), ?_⟩
          refine List.forall_mem_cons.mpr ⟨(by k_mem), ?_⟩
          refine List.forall_mem_cons.mpr ⟨(by k_mem), ?_⟩
          refine List.forall_mem_cons.mpr ⟨(by k_mem), ?_⟩
          exact fun q hq => .tail _ (.tail _ (.tail _ (.tail _ (.tail _ (.tail _ (List.mem_append_right _ hq))))))
        case fm => exact rfl

  case kk =>
    clear F0 N0
    intro turn sT hT
    obtain ⟨mT, iT, uT, nT, psT, cdT, hpT, tkT, rfl, hmT, FT, NT, ST, oP, oI, oM, hi0, hi1⟩ := hT
    try dsimp only
    (repeat' (first | ((fail_if_success (with_reducible show UnrEnd _ _ _ _ _ _ _)); (first | (k_here; (with_reducible show wpAny _ _ (call (Value.builtin "len") [Value.str _ _]) _ _ _); (refine SBL.len (by omega) ?_)) | (k_here; (with_reducible show wpAny _ _ (subscriptTail _ _ (Value.ref _) (Value.int _ _)) _ _ _); k_dflt (refine' pick _ ?zl ?z0 ?zk ?zb ?za ?_ ?zs); (case zl => k_dflt (exact News.isList (by k_asm) (by k_mem))); (case za => first | (with_reducible exact front_all _ _ _ _ _ _ _ _ _) | (with_reducible exact tail_all _ _ _ _ _ _ _ _) | (with_reducible exact pow_all _ _ _ _ _ _ _ _ _ _ _ _ _)); (case z0 => omega); (case zk => k_dflt ((try simp only [List.length_cons, List.length_nil]); omega)); (case zb => k_dflt (exact Nat.le_of_ble_eq_true rfl)); (case zs => with_unfolding_all rfl); intro x9 t9 p9; (first | (have q9 := tail_len p9) | (have q9 := front_len p9) | skip); (rename News _ _ _ _ => N8p); (replace N8p := news_tail N8p)) | (k_here; (with_reducible show wpAny _ _ (compareOp CmpOp.Eq (Value.ref _) (Value.str _ _)) _ _ _); (refine cmp_ofEq ?_); k_dflt (refine' SeqAt.RcAt.tuple_str _ _ ?zh ?zu _ _ _ _ ?_); (case zh => exact ⟨_, News.get (by k_asm) (by k_mem), rfl, _, rfl⟩); (case zu => ktr_units)) | (k_here; (with_reducible show wpAny _ _ (call (Value.ref _) _) _ _ _); (first | ((with_reducible show wpAny _ _ (call (Value.ref 396) _) _ _ _); k_dflt (refine' useU (sipped _ _ _ _ _ _ _ _ _ _ ?q1 ?q2 ?q3 ?q4 ?q5 ?q6 ?q7 ?q8) ?k1 ?k2 ?k3 ?k4 ?k5 ?kK ?kd ?ku ?kU ?kh ?_; (case k1 => k_asm); (case k2 => k_asm); (case k3 => k_asm); (case k4 => k_asm); (case k5 => k_asm); (case kK => first | exact rfl | assumption); (case kd => ktr_room); (case ku => ktr_units); (case kU => k_updF); (case kh => exact (by repeat' (first | exact List.forall_mem_nil _ | refine List.forall_mem_cons.mpr ⟨by k_mem, ?_⟩))); (case q1 => walk_at "up"); (case q2 => walk_at "up"); (case q3 => walk_at "up"); (case q4 => walk_at "up"); (case q5 => k_asm); (case q6 => k_asm); (case q7 => walk_at "up"); (case q8 => (try dsimp only); omega); k_whole); (intro r9 ob9 tl9 h9 tk9 F9 N9 l9 o9; k_dflt (obtain ⟨e9, z9, t9, u9, n9, e8, g9, g8, e7⟩ := o9; subst e9; subst e8; subst e7; dsimp only [List.cons_append, List.nil_append] at N9); clear l9; walk_at "u3")))) | walk_at "wk"))))
    refine UnrEnd.intro FT NT _ (fun _ hp => hp) ?aoff ?ar
    case aoff =>
      refine List.forall_mem_cons.mpr ⟨Nat.ne_of_lt (by (try dsimp only); omega), ?_⟩
      refine List.forall_mem_cons.mpr ⟨Nat.ne_of_lt (by (try dsimp only); omega), ?_⟩
      refine List.forall_mem_cons.mpr ⟨Nat.ne_of_lt (by (try dsimp only); omega), ?_⟩
      refine List.forall_mem_cons.mpr ⟨Nat.ne_of_lt (by (try dsimp only); omega), ?_⟩
      refine List.forall_mem_cons.mpr ⟨Nat.ne_of_lt (by (try dsimp only); omega), ?_⟩
      exact oI
    case ar =>
      clear FT NT
      (repeat' (first | ((fail_if_success (with_reducible show wpAny _ _ (execs [_, _, _, _, _, _, _] _) _ _ _)); (first | (k_here; (with_reducible show wpAny _ _ (call (Value.builtin "len") [Value.str _ _]) _ _ _); (refine SBL.len (by omega) ?_)) | (k_here; (with_reducible show wpAny _ _ (subscriptTail _ _ (Value.ref _) (Value.int _ _)) _ _ _); k_dflt (refine' pick _ ?zl ?z0 ?zk ?zb ?za ?_ ?zs); (case zl => k_dflt (exact News.isList (by k_asm) (by k_mem))); (case za => first | (with_reducible exact front_all _ _ _ _ _ _ _ _ _) | (with_reducible exact tail_all _ _ _ _ _ _ _ _) | (with_reducible exact pow_all _ _ _ _ _ _ _ _ _ _ _ _ _)); (case z0 => omega); (case zk => k_dflt ((try simp only [List.length_cons, List.length_nil]); omega)); (case zb => k_dflt (exact Nat.le_of_ble_eq_true rfl)); (case zs => with_unfolding_all rfl); intro x9 t9 p9; (first | (have q9 := tail_len p9) | (have q9 := front_len p9) | skip); (rename News _ _ _ _ => N8p); (replace N8p := news_tail N8p)) | (k_here; (with_reducible show wpAny _ _ (compareOp CmpOp.Eq (Value.ref _) (Value.str _ _)) _ _ _); (refine cmp_ofEq ?_); k_dflt (refine' SeqAt.RcAt.tuple_str _ _ ?zh ?zu _ _ _ _ ?_); (case zh => exact ⟨_, News.get (by k_asm) (by k_mem), rfl, _, rfl⟩); (case zu => ktr_units)) | (k_here; (with_reducible show wpAny _ _ (call (Value.ref _) _) _ _ _); (first | ((with_reducible show wpAny _ _ (call (Value.ref 396) _) _ _ _); k_dflt (refine' useU (sipped _ _ _ _ _ _ _ _ _ _ ?q1 ?q2 ?q3 ?q4 ?q5 ?q6 ?q7 ?q8) ?k1 ?k2 ?k3 ?k4 ?k5 ?kK ?kd ?ku ?kU ?kh ?_; (case k1 => k_asm); (case k2 => k_asm); (case k3 => k_asm); (case k4 => k_asm); (case k5 => k_asm); (case kK => first | exact rfl | assumption); (case kd => ktr_room); (case ku => ktr_units); (case kU => k_updF); (case kh => exact (by repeat' (first | exact List.forall_mem_nil _ | refine List.forall_mem_cons.mpr ⟨by k_mem, ?_⟩))); (case q1 => walk_at "up"); (case q2 => walk_at "up"); (case q3 => walk_at "up"); (case q4 => walk_at "up"); (case q5 => k_asm); (case q6 => k_asm); (case q7 => walk_at "up"); (case q8 => (try dsimp only); omega); k_whole); (intro r9 ob9 tl9 h9 tk9 F9 N9 l9 o9; k_dflt (obtain ⟨e9, z9, t9, u9, n9, e8, g9, g8, e7⟩ := o9; subst e9; subst e8; subst e7; dsimp only [List.cons_append, List.nil_append] at N9); clear l9; walk_at "u3")))) | walk_at "wk"))))
      rename Fr _ _ _ _ => F2
      rename News _ _ _ _ => N2
      refine turn_next (turn _ 6 _ (by decide) (TurnS.mk F2 N2 ((if_neg (by decide)).trans hmT) ST oP oI oM hi0 (by omega))) ?k2
      clear F2 N2 turn ST oP oI oM hmT hi0 hi1
      intro s2 hT2
      obtain ⟨m2, i2, u2, n2, ps2, cd2, hp2, tk2, rfl, hm2, FAb, NAb, SAb, oP2, oI2, oM2, hj0, hj1⟩ := hT2
      clear SAb oP2 oI2 oM2 hj0 hj1
      try dsimp only
      (repeat' (first | ((fail_if_success (with_reducible show UnrEnd _ _ _ _ _ _ _)); (first | (k_here; (with_reducible show wpAny _ _ (call (Value.builtin "len") [Value.str _ _]) _ _ _); (refine SBL.len (by omega) ?_)) | (k_here; (with_reducible show wpAny _ _ (subscriptTail _ _ (Value.ref _) (Value.int _ _)) _ _ _); k_dflt (refine' pick _ ?zl ?z0 ?zk ?zb ?za ?_ ?zs); (case zl => k_dflt (exact News.isList (by k_asm) (by k_mem))); (case za => first | (with_reducible exact front_all _ _ _ _ _ _ _ _ _) | (with_reducible exact tail_all _ _ _ _ _ _ _ _) | (with_reducible exact pow_all _ _ _ _ _ _ _ _ _ _ _ _ _)); (case z0 => omega); (case zk => k_dflt ((try simp only [List.length_cons, List.length_nil]); omega)); (case zb => k_dflt (exact Nat.le_of_ble_eq_true rfl)); (case zs => with_unfolding_all rfl); intro x9 t9 p9; (first | (have q9 := tail_len p9) | (have q9 := front_len p9) | skip); (rename News _ _ _ _ => N8p); (replace N8p := news_tail N8p)) | (k_here; (with_reducible show wpAny _ _ (compareOp CmpOp.Eq (Value.ref _) (Value.str _ _)) _ _ _); (refine cmp_ofEq ?_); k_dflt (refine' SeqAt.RcAt.tuple_str _ _ ?zh ?zu _ _ _ _ ?_); (case zh => exact ⟨_, News.get (by k_asm) (by k_mem), rfl, _, rfl⟩); (case zu => ktr_units)) | (k_here; (with_reducible show wpAny _ _ (call (Value.ref _) _) _ _ _); (first | ((with_reducible show wpAny _ _ (call (Value.ref 396) _) _ _ _); k_dflt (refine' useU (sipped _ _ _ _ _ _ _ _ _ _ ?q1 ?q2 ?q3 ?q4 ?q5 ?q6 ?q7 ?q8) ?k1 ?k2 ?k3 ?k4 ?k5 ?kK ?kd ?ku ?kU ?kh ?_; (case k1 => k_asm); (case k2 => k_asm); (case k3 => k_asm); (case k4 => k_asm); (case k5 => k_asm); (case kK => first | exact rfl | assumption); (case kd => ktr_room); (case ku => ktr_units); (case kU => k_updF); (case kh => exact (by repeat' (first | exact List.forall_mem_nil _ | refine List.forall_mem_cons.mpr ⟨by k_mem, ?_⟩))); (case q1 => walk_at "up"); (case q2 => walk_at "up"); (case q3 => walk_at "up"); (case q4 => walk_at "up"); (case q5 => k_asm); (case q6 => k_asm); (case q7 => walk_at "up"); (case q8 => (try dsimp only); omega); k_whole); (intro r9 ob9 tl9 h9 tk9 F9 N9 l9 o9; k_dflt (obtain ⟨e9, z9, t9, u9, n9, e8, g9, g8, e7⟩ := o9; subst e9; subst e8; subst e7; dsimp only [List.cons_append, List.nil_append] at N9); clear l9; walk_at "u3")))) | walk_at "wk"))))
      refine UnrEnd.intro FAb NAb [(426, tabObj #[]), (419, tabObj ps2)] (by repeat' (first | exact List.forall_mem_nil _ | refine List.forall_mem_cons.mpr ⟨by k_mem, ?_⟩)) ?boff ?br
      case boff =>
        refine List.forall_mem_cons.mpr ⟨Nat.ne_of_lt (by (try dsimp only); omega), ?_⟩
        refine List.forall_mem_cons.mpr ⟨Nat.ne_of_lt (by (try dsimp only); omega), ?_⟩
        exact List.forall_mem_nil _
      case br =>
        clear FAb NAb
        (repeat' (first | ((fail_if_success (with_reducible show wpAny _ _ (call (Value.ref 431) _) _ _ _)); (first | (k_here; (with_reducible show wpAny _ _ (call (Value.builtin "len") [Value.str _ _]) _ _ _); (refine SBL.len (by omega) ?_)) | (k_here; (with_reducible show wpAny _ _ (subscriptTail _ _ (Value.ref _) (Value.int _ _)) _ _ _); k_dflt (refine' pick _ ?zl ?z0 ?zk ?zb ?za ?_ ?zs); (case zl => k_dflt (exact News.isList (by k_asm) (by k_mem))); (case za => first | (with_reducible exact front_all _ _ _ _ _ _ _ _ _) | (with_reducible exact tail_all _ _ _ _ _ _ _ _) | (with_reducible exact pow_all _ _ _ _ _ _ _ _ _ _ _ _ _)); (case z0 => omega); (case zk => k_dflt ((try simp only [List.length_cons, List.length_nil]); omega)); (case zb => k_dflt (exact Nat.le_of_ble_eq_true rfl)); (case zs => with_unfolding_all rfl); intro x9 t9 p9; (first | (have q9 := tail_len p9) | (have q9 := front_len p9) | skip); (rename News _ _ _ _ => N8p); (replace N8p := news_tail N8p)) | (k_here; (with_reducible show wpAny _ _ (compareOp CmpOp.Eq (Value.ref _) (Value.str _ _)) _ _ _); (refine cmp_ofEq ?_); k_dflt (refine' SeqAt.RcAt.tuple_str _ _ ?zh ?zu _ _ _ _ ?_); (case zh => exact ⟨_, News.get (by k_asm) (by k_mem), rfl, _, rfl⟩); (case zu => ktr_units)) | (k_here; (with_reducible show wpAny _ _ (call (Value.ref _) _) _ _ _); (first | ((with_reducible show wpAny _ _ (call (Value.ref 396) _) _ _ _); k_dflt (refine' useU (sipped _ _ _ _ _ _ _ _ _ _ ?q1 ?q2 ?q3 ?q4 ?q5 ?q6 ?q7 ?q8) ?k1 ?k2 ?k3 ?k4 ?k5 ?kK ?kd ?ku ?kU ?kh ?_; (case k1 => k_asm); (case k2 => k_asm); (case k3 => k_asm); (case k4 => k_asm); (case k5 => k_asm); (case kK => first | exact rfl | assumption); (case kd => ktr_room); (case ku => ktr_units); (case kU => k_updF); (case kh => exact (by repeat' (first | exact List.forall_mem_nil _ | refine List.forall_mem_cons.mpr ⟨by k_mem, ?_⟩))); (case q1 => walk_at "up"); (case q2 => walk_at "up"); (case q3 => walk_at "up"); (case q4 => walk_at "up"); (case q5 => k_asm); (case q6 => k_asm); (case q7 => walk_at "up"); (case q8 => (try dsimp only); omega); k_whole); (intro r9 ob9 tl9 h9 tk9 F9 N9 l9 o9; k_dflt (obtain ⟨e9, z9, t9, u9, n9, e8, g9, g8, e7⟩ := o9; subst e9; subst e8; subst e7; dsimp only [List.cons_append, List.nil_append] at N9); clear l9; walk_at "u3")))) | walk_at "wk"))))
        k_dflt (refine' useB0 (known_1 _ _) ?k1qN ?k1qF ?k1qB ?k1qX ?k1qT ?k1qXB ?k1qTB ?k1qCH ?k1qk ?k1qd ?k1qu ?k1qU ?k1qS ?k1qh ?k1qP ?k1qq)
        (case k1qN => k_asm)
        (case k1qF => k_asm)
        (case k1qB => k_asm)
        (case k1qX => k_asm)
        (case k1qT => k_asm)
        (case k1qXB => assumption)
        (case k1qTB => assumption)
        (case k1qCH => assumption)
        (case k1qk => exact rfl)
        (case k1qd => ktr_room)
        (case k1qu => ktr_units)
        (case k1qU => k_updF)
        (case k1qS => exact (TS.nil : TS 426 _ #[] []))
        (case k1qh => exact fun _ h => nomatch h)
        (case k1qP => exact fun _ h => nomatch h)
        case k1qq =>
          intro r9 tlk1 cMk1 psk1 hk1 tkk1 Fk1 Nk1 Sk1 lk1 gk1 mk1 ok1
          obtain ⟨Dk1, ak1, bk1, xk1, yk1⟩ := ok1
          subst xk1 yk1
          dsimp only [List.cons_append, List.nil_append] at Nk1
          have ek1 := cd_off lk1 (fun _ h => nomatch h) (.head _) (Nat.ne_of_gt (by (try dsimp only); omega))
          have SMk1 := Sk1
          have eMk1 := ek1
          have gMk1 := gk1
          clear Sk1 ek1 gk1 lk1 mk1

          (repeat' (first | ((fail_if_success (with_reducible show UnrEndW _ _ _ _ _ _ _)); (first | (k_here; (with_reducible show wpAny _ _ (call (Value.builtin "len") [Value.str _ _]) _ _ _); (refine SBL.len (by omega) ?_)) | (k_here; (with_reducible show wpAny _ _ (subscriptTail _ _ (Value.ref _) (Value.int _ _)) _ _ _); k_dflt (refine' pick _ ?zl ?z0 ?zk ?zb ?za ?_ ?zs); (case zl => k_dflt (exact News.isList (by k_asm) (by k_mem))); (case za => first | (with_reducible exact front_all _ _ _ _ _ _ _ _ _) | (with_reducible exact tail_all _ _ _ _ _ _ _ _) | (with_reducible exact pow_all _ _ _ _ _ _ _ _ _ _ _ _ _)); (case z0 => omega); (case zk => k_dflt ((try simp only [List.length_cons, List.length_nil]); omega)); (case zb => k_dflt (exact Nat.le_of_ble_eq_true rfl)); (case zs => with_unfolding_all rfl); intro x9 t9 p9; (first | (have q9 := tail_len p9) | (have q9 := front_len p9) | skip); (rename News _ _ _ _ => N8p); (replace N8p := news_tail N8p)) | (k_here; (with_reducible show wpAny _ _ (compareOp CmpOp.Eq (Value.ref _) (Value.str _ _)) _ _ _); (refine cmp_ofEq ?_); k_dflt (refine' SeqAt.RcAt.tuple_str _ _ ?zh ?zu _ _ _ _ ?_); (case zh => exact ⟨_, News.get (by k_asm) (by k_mem), rfl, _, rfl⟩); (case zu => ktr_units)) | (k_here; (with_reducible show wpAny _ _ (call (Value.ref _) _) _ _ _); (first | ((with_reducible show wpAny _ _ (call (Value.ref 396) _) _ _ _); k_dflt (refine' useU (sipped _ _ _ _ _ _ _ _ _ _ ?q1 ?q2 ?q3 ?q4 ?q5 ?q6 ?q7 ?q8) ?k1 ?k2 ?k3 ?k4 ?k5 ?kK ?kd ?ku ?kU ?kh ?_; (case k1 => k_asm); (case k2 => k_asm); (case k3 => k_asm); (case k4 => k_asm); (case k5 => k_asm); (case kK => first | exact rfl | assumption); (case kd => ktr_room); (case ku => ktr_units); (case kU => k_updF); (case kh => exact (by repeat' (first | exact List.forall_mem_nil _ | refine List.forall_mem_cons.mpr ⟨by k_mem, ?_⟩))); (case q1 => walk_at "up"); (case q2 => walk_at "up"); (case q3 => walk_at "up"); (case q4 => walk_at "up"); (case q5 => k_asm); (case q6 => k_asm); (case q7 => walk_at "up"); (case q8 => (try dsimp only); omega); k_whole); (intro r9 ob9 tl9 h9 tk9 F9 N9 l9 o9; k_dflt (obtain ⟨e9, z9, t9, u9, n9, e8, g9, g8, e7⟩ := o9; subst e9; subst e8; subst e7; dsimp only [List.cons_append, List.nil_append] at N9); clear l9; walk_at "u3")))) | walk_at "wk"))))
          rename Fr _ _ _ _ => FZk1
          rename News _ _ _ _ => NZk1
          refine unrw_1 FZk1 NZk1 ?k1off ?k1hk ?k1r
          case k1off =>
            refine List.forall_mem_cons.mpr ⟨Nat.ne_of_lt (by (try dsimp only); omega), ?_⟩
            refine List.forall_mem_cons.mpr ⟨Nat.ne_of_lt (by (try dsimp only); omega), ?_⟩
            refine List.forall_mem_cons.mpr ⟨Nat.ne_of_lt (by (try dsimp only); omega), ?_⟩
            refine List.forall_mem_cons.mpr ⟨Nat.ne_of_lt (by (try dsimp only); omega), ?_⟩
            refine List.forall_mem_cons.mpr ⟨Nat.ne_of_lt (by (try dsimp only); omega), ?_⟩
            refine List.forall_mem_cons.mpr ⟨Nat.ne_of_lt (by (try dsimp only); omega), ?_⟩
            refine List.forall_mem_cons.mpr ⟨Nat.ne_of_lt (by (try dsimp only); omega), ?_⟩
            refine List.forall_mem_cons.mpr ⟨Nat.ne_of_lt (by (try dsimp only); omega), ?_⟩
            refine List.forall_mem_cons.mpr ⟨Nat.ne_of_lt (by (try dsimp only); omega), ?_⟩
            exact eMk1
          case k1hk => k_subL
          case k1r =>
            try clear Fk1 Nk1
            clear FZk1 NZk1
            (repeat' (first | ((fail_if_success (with_reducible show wpAny _ _ (call (Value.ref 431) _) _ _ _)); (first | (k_here; (with_reducible show wpAny _ _ (call (Value.builtin "len") [Value.str _ _]) _ _ _); (refine SBL.len (by omega) ?_)) | (k_here; (with_reducible show wpAny _ _ (subscriptTail _ _ (Value.ref _) (Value.int _ _)) _ _ _); k_dflt (refine' pick _ ?zl ?z0 ?zk ?zb ?za ?_ ?zs); (case zl => k_dflt (exact News.isList (by k_asm) (by k_mem))); (case za => first | (with_reducible exact front_all _ _ _ _ _ _ _ _ _) | (with_reducible exact tail_all _ _ _ _ _ _ _ _) | (with_reducible exact pow_all _ _ _ _ _ _ _ _ _ _ _ _ _)); (case z0 => omega); (case zk => k_dflt ((try simp only [List.length_cons, List.length_nil]); omega)); (case zb => k_dflt (exact Nat.le_of_ble_eq_true rfl)); (case zs => with_unfolding_all rfl); intro x9 t9 p9; (first | (have q9 := tail_len p9) | (have q9 := front_len p9) | skip); (rename News _ _ _ _ => N8p); (replace N8p := news_tail N8p)) | (k_here; (with_reducible show wpAny _ _ (compareOp CmpOp.Eq (Value.ref _) (Value.str _ _)) _ _ _); (refine cmp_ofEq ?_); k_dflt (refine' SeqAt.RcAt.tuple_str _ _ ?zh ?zu _ _ _ _ ?_); (case zh => exact ⟨_, News.get (by k_asm) (by k_mem), rfl, _, rfl⟩); (case zu => ktr_units)) | (k_here; (with_reducible show wpAny _ _ (call (Value.ref _) _) _ _ _); (first | ((with_reducible show wpAny _ _ (call (Value.ref 396) _) _ _ _); k_dflt (refine' useU (sipped _ _ _ _ _ _ _ _ _ _ ?q1 ?q2 ?q3 ?q4 ?q5 ?q6 ?q7 ?q8) ?k1 ?k2 ?k3 ?k4 ?k5 ?kK ?kd ?ku ?kU ?kh ?_; (case k1 => k_asm); (case k2 => k_asm); (case k3 => k_asm); (case k4 => k_asm); (case k5 => k_asm); (case kK => first | exact rfl | assumption); (case kd => ktr_room); (case ku => ktr_units); (case kU => k_updF); (case kh => exact (by repeat' (first | exact List.forall_mem_nil _ | refine List.forall_mem_cons.mpr ⟨by k_mem, ?_⟩))); (case q1 => walk_at "up"); (case q2 => walk_at "up"); (case q3 => walk_at "up"); (case q4 => walk_at "up"); (case q5 => k_asm); (case q6 => k_asm); (case q7 => walk_at "up"); (case q8 => (try dsimp only); omega); k_whole); (intro r9 ob9 tl9 h9 tk9 F9 N9 l9 o9; k_dflt (obtain ⟨e9, z9, t9, u9, n9, e8, g9, g8, e7⟩ := o9; subst e9; subst e8; subst e7; dsimp only [List.cons_append, List.nil_append] at N9); clear l9; walk_at "u3")))) | walk_at "wk"))))
            k_dflt (refine' useB0 (known_2 _ _) ?k2qN ?k2qF ?k2qB ?k2qX ?k2qT ?k2qXB ?k2qTB ?k2qCH ?k2qk ?k2qd ?k2qu ?k2qU ?k2qS ?k2qh ?k2qP ?k2qq)
            (case k2qN => k_asm)
            (case k2qF => k_asm)
            (case k2qB => k_asm)
            (case k2qX => k_asm)
            (case k2qT => k_asm)
            (case k2qXB => assumption)
            (case k2qTB => assumption)
            (case k2qCH => assumption)
            (case k2qk => exact rfl)
            (case k2qd => ktr_room)
            (case k2qu => ktr_units)
            (case k2qU => k_updF)
            (case k2qS => exact SMk1)
            (case k2qh => exact (by repeat' (first | exact sub_refl _ | refine sub_cons ?_)))
            (case k2qP => exact gMk1)
            case k2qq =>
              intro r9 tlk2 cdk2 psk2 hk2 tkk2 Fk2 Nk2 Sk2 lk2 gk2 mk2 ok2
              obtain ⟨Dk2, ak2, bk2, xk2, yk2⟩ := ok2
              subst xk2 yk2
              dsimp only [List.cons_append, List.nil_append] at Nk2
              have ek2 := cd_off lk2 eMk1 (.head _) (Nat.ne_of_gt (by (try dsimp only); omega))
              have SMk2 : TS 426 _ psk2 (cMk1 ++ cdk2) := Sk2.mono (fun q hq => List.mem_append_right _ hq)
              have eMk2 : ∀ x ∈ cMk1 ++ cdk2, x.1 ≠ _ := List.forall_mem_append.mpr ⟨eMk1, ek2⟩
              have gMk2 : ∀ x ∈ cMk1 ++ cdk2, x.1 ≠ 426 := List.forall_mem_append.mpr ⟨gMk1, gk2⟩
              generalize cMk1 ++ cdk2 = cMk2 at Nk2 SMk2 eMk2 gMk2
              clear SMk1 eMk1 gMk1
              clear Sk2 ek2 gk2 lk2 mk2

              (repeat' (first | ((fail_if_success (with_reducible show UnrEndW _ _ _ _ _ _ _)); (first | (k_here; (with_reducible show wpAny _ _ (call (Value.builtin "len") [Value.str _ _]) _ _ _); (refine SBL.len (by omega) ?_)) | (k_here; (with_reducible show wpAny _ _ (subscriptTail _ _ (Value.ref _) (Value.int _ _)) _ _ _); k_dflt (refine' pick _ ?zl ?z0 ?zk ?zb ?za ?_ ?zs); (case zl => k_dflt (exact News.isList (by k_asm) (by k_mem))); (case za => first | (with_reducible exact front_all _ _ _ _ _ _ _ _ _) | (with_reducible exact tail_all _ _ _ _ _ _ _ _) | (with_reducible exact pow_all _ _ _ _ _ _ _ _ _ _ _ _ _)); (case z0 => omega); (case zk => k_dflt ((try simp only [List.length_cons, List.length_nil]); omega)); (case zb => k_dflt (exact Nat.le_of_ble_eq_true rfl)); (case zs => with_unfolding_all rfl); intro x9 t9 p9; (first | (have q9 := tail_len p9) | (have q9 := front_len p9) | skip); (rename News _ _ _ _ => N8p); (replace N8p := news_tail N8p)) | (k_here; (with_reducible show wpAny _ _ (compareOp CmpOp.Eq (Value.ref _) (Value.str _ _)) _ _ _); (refine cmp_ofEq ?_); k_dflt (refine' SeqAt.RcAt.tuple_str _ _ ?zh ?zu _ _ _ _ ?_); (case zh => exact ⟨_, News.get (by k_asm) (by k_mem), rfl, _, rfl⟩); (case zu => ktr_units)) | (k_here; (with_reducible show wpAny _ _ (call (Value.ref _) _) _ _ _); (first | ((with_reducible show wpAny _ _ (call (Value.ref 396) _) _ _ _); k_dflt (refine' useU (sipped _ _ _ _ _ _ _ _ _ _ ?q1 ?q2 ?q3 ?q4 ?q5 ?q6 ?q7 ?q8) ?k1 ?k2 ?k3 ?k4 ?k5 ?kK ?kd ?ku ?kU ?kh ?_; (case k1 => k_asm); (case k2 => k_asm); (case k3 => k_asm); (case k4 => k_asm); (case k5 => k_asm); (case kK => first | exact rfl | assumption); (case kd => ktr_room); (case ku => ktr_units); (case kU => k_updF); (case kh => exact (by repeat' (first | exact List.forall_mem_nil _ | refine List.forall_mem_cons.mpr ⟨by k_mem, ?_⟩))); (case q1 => walk_at "up"); (case q2 => walk_at "up"); (case q3 => walk_at "up"); (case q4 => walk_at "up"); (case q5 => k_asm); (case q6 => k_asm); (case q7 => walk_at "up"); (case q8 => (try dsimp only); omega); k_whole); (intro r9 ob9 tl9 h9 tk9 F9 N9 l9 o9; k_dflt (obtain ⟨e9, z9, t9, u9, n9, e8, g9, g8, e7⟩ := o9; subst e9; subst e8; subst e7; dsimp only [List.cons_append, List.nil_append] at N9); clear l9; walk_at "u3")))) | walk_at "wk"))))
              rename Fr _ _ _ _ => FZk2
              rename News _ _ _ _ => NZk2
              refine unrw_1 FZk2 NZk2 ?k2off ?k2hk ?k2r
              case k2off =>
                refine List.forall_mem_cons.mpr ⟨Nat.ne_of_lt (by (try dsimp only); omega), ?_⟩
                refine List.forall_mem_cons.mpr ⟨Nat.ne_of_lt (by (try dsimp only); omega), ?_⟩
                refine List.forall_mem_cons.mpr ⟨Nat.ne_of_lt (by (try dsimp only); omega), ?_⟩
                refine List.forall_mem_cons.mpr ⟨Nat.ne_of_lt (by (try dsimp only); omega), ?_⟩
                refine List.forall_mem_cons.mpr ⟨Nat.ne_of_lt (by (try dsimp only); omega), ?_⟩
                refine List.forall_mem_cons.mpr ⟨Nat.ne_of_lt (by (try dsimp only); omega), ?_⟩
                refine List.forall_mem_cons.mpr ⟨Nat.ne_of_lt (by (try dsimp only); omega), ?_⟩
                refine List.forall_mem_cons.mpr ⟨Nat.ne_of_lt (by (try dsimp only); omega), ?_⟩
                refine List.forall_mem_cons.mpr ⟨Nat.ne_of_lt (by (try dsimp only); omega), ?_⟩
                exact eMk2
              case k2hk => k_subL
              case k2r =>
                try clear Fk2 Nk2
                clear FZk2 NZk2
                (repeat' (first | ((fail_if_success (with_reducible show wpAny _ _ (call (Value.ref 431) _) _ _ _)); (first | (k_here; (with_reducible show wpAny _ _ (call (Value.builtin "len") [Value.str _ _]) _ _ _); (refine SBL.len (by omega) ?_)) | (k_here; (with_reducible show wpAny _ _ (subscriptTail _ _ (Value.ref _) (Value.int _ _)) _ _ _); k_dflt (refine' pick _ ?zl ?z0 ?zk ?zb ?za ?_ ?zs); (case zl => k_dflt (exact News.isList (by k_asm) (by k_mem))); (case za => first | (with_reducible exact front_all _ _ _ _ _ _ _ _ _) | (with_reducible exact tail_all _ _ _ _ _ _ _ _) | (with_reducible exact pow_all _ _ _ _ _ _ _ _ _ _ _ _ _)); (case z0 => omega); (case zk => k_dflt ((try simp only [List.length_cons, List.length_nil]); omega)); (case zb => k_dflt (exact Nat.le_of_ble_eq_true rfl)); (case zs => with_unfolding_all rfl); intro x9 t9 p9; (first | (have q9 := tail_len p9) | (have q9 := front_len p9) | skip); (rename News _ _ _ _ => N8p); (replace N8p := news_tail N8p)) | (k_here; (with_reducible show wpAny _ _ (compareOp CmpOp.Eq (Value.ref _) (Value.str _ _)) _ _ _); (refine cmp_ofEq ?_); k_dflt (refine' SeqAt.RcAt.tuple_str _ _ ?zh ?zu _ _ _ _ ?_); (case zh => exact ⟨_, News.get (by k_asm) (by k_mem), rfl, _, rfl⟩); (case zu => ktr_units)) | (k_here; (with_reducible show wpAny _ _ (call (Value.ref _) _) _ _ _); (first | ((with_reducible show wpAny _ _ (call (Value.ref 396) _) _ _ _); k_dflt (refine' useU (sipped _ _ _ _ _ _ _ _ _ _ ?q1 ?q2 ?q3 ?q4 ?q5 ?q6 ?q7 ?q8) ?k1 ?k2 ?k3 ?k4 ?k5 ?kK ?kd ?ku ?kU ?kh ?_; (case k1 => k_asm); (case k2 => k_asm); (case k3 => k_asm); (case k4 => k_asm); (case k5 => k_asm); (case kK => first | exact rfl | assumption); (case kd => ktr_room); (case ku => ktr_units); (case kU => k_updF); (case kh => exact (by repeat' (first | exact List.forall_mem_nil _ | refine List.forall_mem_cons.mpr ⟨by k_mem, ?_⟩))); (case q1 => walk_at "up"); (case q2 => walk_at "up"); (case q3 => walk_at "up"); (case q4 => walk_at "up"); (case q5 => k_asm); (case q6 => k_asm); (case q7 => walk_at "up"); (case q8 => (try dsimp only); omega); k_whole); (intro r9 ob9 tl9 h9 tk9 F9 N9 l9 o9; k_dflt (obtain ⟨e9, z9, t9, u9, n9, e8, g9, g8, e7⟩ := o9; subst e9; subst e8; subst e7; dsimp only [List.cons_append, List.nil_append] at N9); clear l9; walk_at "u3")))) | walk_at "wk"))))
                k_dflt (refine' useB0 (known_3 _ _) ?k3qN ?k3qF ?k3qB ?k3qX ?k3qT ?k3qXB ?k3qTB ?k3qCH ?k3qk ?k3qd ?k3qu ?k3qU ?k3qS ?k3qh ?k3qP ?k3qq)
                (case k3qN => k_asm)
                (case k3qF => k_asm)
                (case k3qB => k_asm)
                (case k3qX => k_asm)
                (case k3qT => k_asm)
                (case k3qXB => assumption)
                (case k3qTB => assumption)
                (case k3qCH => assumption)
                (case k3qk => exact rfl)
                (case k3qd => ktr_room)
                (case k3qu => ktr_units)
                (case k3qU => k_updF)
                (case k3qS => exact SMk2)
                (case k3qh => exact (by repeat' (first | exact sub_refl _ | refine sub_cons ?_)))
                (case k3qP => exact gMk2)
                case k3qq =>
                  intro r9 tlk3 cdk3 psk3 hk3 tkk3 Fk3 Nk3 Sk3 lk3 gk3 mk3 ok3
                  obtain ⟨xk3, ak3, yk3⟩ := ok3
                  subst xk3 yk3
                  dsimp only [List.cons_append, List.nil_append] at Nk3
                  have ek3 := cd_off lk3 eMk2 (.head _) (Nat.ne_of_gt (by (try dsimp only); omega))
                  have SMk3 : TS 426 _ psk3 (cMk2 ++ cdk3) := Sk3.mono (fun q hq => List.mem_append_right _ hq)
                  have eMk3 : ∀ x ∈ cMk2 ++ cdk3, x.1 ≠ _ := List.forall_mem_append.mpr ⟨eMk2, ek3⟩
                  have gMk3 : ∀ x ∈ cMk2 ++ cdk3, x.1 ≠ 426 := List.forall_mem_append.mpr ⟨gMk2, gk3⟩
                  generalize cMk2 ++ cdk3 = cMk3 at Nk3 SMk3 eMk3 gMk3
                  clear SMk2 eMk2 gMk2
                  clear Sk3 ek3 gk3 lk3 mk3

                  (repeat' (first | ((fail_if_success (with_reducible show UnrEndW _ _ _ _ _ _ _)); (first | (k_here; (with_reducible show wpAny _ _ (call (Value.builtin "len") [Value.str _ _]) _ _ _); (refine SBL.len (by omega) ?_)) | (k_here; (with_reducible show wpAny _ _ (subscriptTail _ _ (Value.ref _) (Value.int _ _)) _ _ _); k_dflt (refine' pick _ ?zl ?z0 ?zk ?zb ?za ?_ ?zs); (case zl => k_dflt (exact News.isList (by k_asm) (by k_mem))); (case za => first | (with_reducible exact front_all _ _ _ _ _ _ _ _ _) | (with_reducible exact tail_all _ _ _ _ _ _ _ _) | (with_reducible exact pow_all _ _ _ _ _ _ _ _ _ _ _ _ _)); (case z0 => omega); (case zk => k_dflt ((try simp only [List.length_cons, List.length_nil]); omega)); (case zb => k_dflt (exact Nat.le_of_ble_eq_true rfl)); (case zs => with_unfolding_all rfl); intro x9 t9 p9; (first | (have q9 := tail_len p9) | (have q9 := front_len p9) | skip); (rename News _ _ _ _ => N8p); (replace N8p := news_tail N8p)) | (k_here; (with_reducible show wpAny _ _ (compareOp CmpOp.Eq (Value.ref _) (Value.str _ _)) _ _ _); (refine cmp_ofEq ?_); k_dflt (refine' SeqAt.RcAt.tuple_str _ _ ?zh ?zu _ _ _ _ ?_); (case zh => exact ⟨_, News.get (by k_asm) (by k_mem), rfl, _, rfl⟩); (case zu => ktr_units)) | (k_here; (with_reducible show wpAny _ _ (call (Value.ref _) _) _ _ _); (first | ((with_reducible show wpAny _ _ (call (Value.ref 396) _) _ _ _); k_dflt (refine' useU (sipped _ _ _ _ _ _ _ _ _ _ ?q1 ?q2 ?q3 ?q4 ?q5 ?q6 ?q7 ?q8) ?k1 ?k2 ?k3 ?k4 ?k5 ?kK ?kd ?ku ?kU ?kh ?_; (case k1 => k_asm); (case k2 => k_asm); (case k3 => k_asm); (case k4 => k_asm); (case k5 => k_asm); (case kK => first | exact rfl | assumption); (case kd => ktr_room); (case ku => ktr_units); (case kU => k_updF); (case kh => exact (by repeat' (first | exact List.forall_mem_nil _ | refine List.forall_mem_cons.mpr ⟨by k_mem, ?_⟩))); (case q1 => walk_at "up"); (case q2 => walk_at "up"); (case q3 => walk_at "up"); (case q4 => walk_at "up"); (case q5 => k_asm); (case q6 => k_asm); (case q7 => walk_at "up"); (case q8 => (try dsimp only); omega); k_whole); (intro r9 ob9 tl9 h9 tk9 F9 N9 l9 o9; k_dflt (obtain ⟨e9, z9, t9, u9, n9, e8, g9, g8, e7⟩ := o9; subst e9; subst e8; subst e7; dsimp only [List.cons_append, List.nil_append] at N9); clear l9; walk_at "u3")))) | walk_at "wk"))))
                  rename Fr _ _ _ _ => FZk3
                  rename News _ _ _ _ => NZk3
                  refine unrw_0 FZk3 NZk3 ?k3off ?k3hk ?k3r
                  case k3off =>
                    refine List.forall_mem_cons.mpr ⟨Nat.ne_of_lt (by (try dsimp only); omega), ?_⟩
                    refine List.forall_mem_cons.mpr ⟨Nat.ne_of_lt (by (try dsimp only); omega), ?_⟩
                    refine List.forall_mem_cons.mpr ⟨Nat.ne_of_lt (by (try dsimp only); omega), ?_⟩
                    refine List.forall_mem_cons.mpr ⟨Nat.ne_of_lt (by (try dsimp only); omega), ?_⟩
                    refine List.forall_mem_cons.mpr ⟨Nat.ne_of_lt (by (try dsimp only); omega), ?_⟩
                    refine List.forall_mem_cons.mpr ⟨Nat.ne_of_lt (by (try dsimp only); omega), ?_⟩
                    refine List.forall_mem_cons.mpr ⟨Nat.ne_of_lt (by (try dsimp only); omega), ?_⟩
                    refine List.forall_mem_cons.mpr ⟨Nat.ne_of_lt (by (try dsimp only); omega), ?_⟩
                    refine List.forall_mem_cons.mpr ⟨Nat.ne_of_lt (by (try dsimp only); omega), ?_⟩
                    exact eMk3
                  case k3hk => k_subL
                  case k3r =>
                    try clear Fk3 Nk3
                    clear FZk3 NZk3
                    (repeat' (first | ((fail_if_success (with_reducible show wpAny _ _ (call (Value.ref 431) _) _ _ _)); (first | (k_here; (with_reducible show wpAny _ _ (call (Value.builtin "len") [Value.str _ _]) _ _ _); (refine SBL.len (by omega) ?_)) | (k_here; (with_reducible show wpAny _ _ (subscriptTail _ _ (Value.ref _) (Value.int _ _)) _ _ _); k_dflt (refine' pick _ ?zl ?z0 ?zk ?zb ?za ?_ ?zs); (case zl => k_dflt (exact News.isList (by k_asm) (by k_mem))); (case za => first | (with_reducible exact front_all _ _ _ _ _ _ _ _ _) | (with_reducible exact tail_all _ _ _ _ _ _ _ _) | (with_reducible exact pow_all _ _ _ _ _ _ _ _ _ _ _ _ _)); (case z0 => omega); (case zk => k_dflt ((try simp only [List.length_cons, List.length_nil]); omega)); (case zb => k_dflt (exact Nat.le_of_ble_eq_true rfl)); (case zs => with_unfolding_all rfl); intro x9 t9 p9; (first | (have q9 := tail_len p9) | (have q9 := front_len p9) | skip); (rename News _ _ _ _ => N8p); (replace N8p := news_tail N8p)) | (k_here; (with_reducible show wpAny _ _ (compareOp CmpOp.Eq (Value.ref _) (Value.str _ _)) _ _ _); (refine cmp_ofEq ?_); k_dflt (refine' SeqAt.RcAt.tuple_str _ _ ?zh ?zu _ _ _ _ ?_); (case zh => exact ⟨_, News.get (by k_asm) (by k_mem), rfl, _, rfl⟩); (case zu => ktr_units)) | (k_here; (with_reducible show wpAny _ _ (call (Value.ref _) _) _ _ _); (first | ((with_reducible show wpAny _ _ (call (Value.ref 396) _) _ _ _); k_dflt (refine' useU (sipped _ _ _ _ _ _ _ _ _ _ ?q1 ?q2 ?q3 ?q4 ?q5 ?q6 ?q7 ?q8) ?k1 ?k2 ?k3 ?k4 ?k5 ?kK ?kd ?ku ?kU ?kh ?_; (case k1 => k_asm); (case k2 => k_asm); (case k3 => k_asm); (case k4 => k_asm); (case k5 => k_asm); (case kK => first | exact rfl | assumption); (case kd => ktr_room); (case ku => ktr_units); (case kU => k_updF); (case kh => exact (by repeat' (first | exact List.forall_mem_nil _ | refine List.forall_mem_cons.mpr ⟨by k_mem, ?_⟩))); (case q1 => walk_at "up"); (case q2 => walk_at "up"); (case q3 => walk_at "up"); (case q4 => walk_at "up"); (case q5 => k_asm); (case q6 => k_asm); (case q7 => walk_at "up"); (case q8 => (try dsimp only); omega); k_whole); (intro r9 ob9 tl9 h9 tk9 F9 N9 l9 o9; k_dflt (obtain ⟨e9, z9, t9, u9, n9, e8, g9, g8, e7⟩ := o9; subst e9; subst e8; subst e7; dsimp only [List.cons_append, List.nil_append] at N9); clear l9; walk_at "u3")))) | walk_at "wk"))))
                    k_dflt (refine' useB0 (known_4 _ _) ?k4qN ?k4qF ?k4qB ?k4qX ?k4qT ?k4qXB ?k4qTB ?k4qCH ?k4qk ?k4qd ?k4qu ?k4qU ?k4qS ?k4qh ?k4qP ?k4qq)
                    (case k4qN => k_asm)
                    (case k4qF => k_asm)
                    (case k4qB => k_asm)
                    (case k4qX => k_asm)
                    (case k4qT => k_asm)
                    (case k4qXB => assumption)
                    (case k4qTB => assumption)
                    (case k4qCH => assumption)
                    (case k4qk => exact rfl)
                    (case k4qd => ktr_room)
                    (case k4qu => ktr_units)
                    (case k4qU => k_updF)
                    (case k4qS => exact SMk3)
                    (case k4qh => exact (by repeat' (first | exact sub_refl _ | refine sub_cons ?_)))
                    (case k4qP => exact gMk3)
                    case k4qq =>
                      intro r9 tlk4 cdk4 psk4 hk4 tkk4 Fk4 Nk4 Sk4 lk4 gk4 mk4 ok4
                      obtain ⟨xk4, ak4, yk4⟩ := ok4
                      subst xk4 yk4
                      dsimp only [List.cons_append, List.nil_append] at Nk4
                      have ek4 := cd_off lk4 eMk3 (.head _) (Nat.ne_of_gt (by (try dsimp only); omega))
                      have SMk4 : TS 426 _ psk4 (cMk3 ++ cdk4) := Sk4.mono (fun q hq => List.mem_append_right _ hq)
                      have eMk4 : ∀ x ∈ cMk3 ++ cdk4, x.1 ≠ _ := List.forall_mem_append.mpr ⟨eMk3, ek4⟩
                      have gMk4 : ∀ x ∈ cMk3 ++ cdk4, x.1 ≠ 426 := List.forall_mem_append.mpr ⟨gMk3, gk4⟩
                      generalize cMk3 ++ cdk4 = cMk4 at Nk4 SMk4 eMk4 gMk4
                      clear SMk3 eMk3 gMk3
                      clear Sk4 ek4 gk4 lk4 mk4

                      (repeat' (first | ((fail_if_success (with_reducible show UnrEndW _ _ _ _ _ _ _)); (first | (k_here; (with_reducible show wpAny _ _ (call (Value.builtin "len") [Value.str _ _]) _ _ _); (refine SBL.len (by omega) ?_)) | (k_here; (with_reducible show wpAny _ _ (subscriptTail _ _ (Value.ref _) (Value.int _ _)) _ _ _); k_dflt (refine' pick _ ?zl ?z0 ?zk ?zb ?za ?_ ?zs); (case zl => k_dflt (exact News.isList (by k_asm) (by k_mem))); (case za => first | (with_reducible exact front_all _ _ _ _ _ _ _ _ _) | (with_reducible exact tail_all _ _ _ _ _ _ _ _) | (with_reducible exact pow_all _ _ _ _ _ _ _ _ _ _ _ _ _)); (case z0 => omega); (case zk => k_dflt ((try simp only [List.length_cons, List.length_nil]); omega)); (case zb => k_dflt (exact Nat.le_of_ble_eq_true rfl)); (case zs => with_unfolding_all rfl); intro x9 t9 p9; (first | (have q9 := tail_len p9) | (have q9 := front_len p9) | skip); (rename News _ _ _ _ => N8p); (replace N8p := news_tail N8p)) | (k_here; (with_reducible show wpAny _ _ (compareOp CmpOp.Eq (Value.ref _) (Value.str _ _)) _ _ _); (refine cmp_ofEq ?_); k_dflt (refine' SeqAt.RcAt.tuple_str _ _ ?zh ?zu _ _ _ _ ?_); (case zh => exact ⟨_, News.get (by k_asm) (by k_mem), rfl, _, rfl⟩); (case zu => ktr_units)) | (k_here; (with_reducible show wpAny _ _ (call (Value.ref _) _) _ _ _); (first | ((with_reducible show wpAny _ _ (call (Value.ref 396) _) _ _ _); k_dflt (refine' useU (sipped _ _ _ _ _ _ _ _ _ _ ?q1 ?q2 ?q3 ?q4 ?q5 ?q6 ?q7 ?q8) ?k1 ?k2 ?k3 ?k4 ?k5 ?kK ?kd ?ku ?kU ?kh ?_; (case k1 => k_asm); (case k2 => k_asm); (case k3 => k_asm); (case k4 => k_asm); (case k5 => k_asm); (case kK => first | exact rfl | assumption); (case kd => ktr_room); (case ku => ktr_units); (case kU => k_updF); (case kh => exact (by repeat' (first | exact List.forall_mem_nil _ | refine List.forall_mem_cons.mpr ⟨by k_mem, ?_⟩))); (case q1 => walk_at "up"); (case q2 => walk_at "up"); (case q3 => walk_at "up"); (case q4 => walk_at "up"); (case q5 => k_asm); (case q6 => k_asm); (case q7 => walk_at "up"); (case q8 => (try dsimp only); omega); k_whole); (intro r9 ob9 tl9 h9 tk9 F9 N9 l9 o9; k_dflt (obtain ⟨e9, z9, t9, u9, n9, e8, g9, g8, e7⟩ := o9; subst e9; subst e8; subst e7; dsimp only [List.cons_append, List.nil_append] at N9); clear l9; walk_at "u3")))) | walk_at "wk"))))
                      rename Fr _ _ _ _ => FZk4
                      rename News _ _ _ _ => NZk4
                      refine unrw_0 FZk4 NZk4 ?k4off ?k4hk ?k4r
                      case k4off =>
                        refine List.forall_mem_cons.mpr ⟨Nat.ne_of_lt (by (try dsimp only); omega), ?_⟩
                        refine List.forall_mem_cons.mpr ⟨Nat.ne_of_lt (by (try dsimp only); omega), ?_⟩
                        refine List.forall_mem_cons.mpr ⟨Nat.ne_of_lt (by (try dsimp only); omega), ?_⟩
                        refine List.forall_mem_cons.mpr ⟨Nat.ne_of_lt (by (try dsimp only); omega), ?_⟩
                        refine List.forall_mem_cons.mpr ⟨Nat.ne_of_lt (by (try dsimp only); omega), ?_⟩
                        refine List.forall_mem_cons.mpr ⟨Nat.ne_of_lt (by (try dsimp only); omega), ?_⟩
                        refine List.forall_mem_cons.mpr ⟨Nat.ne_of_lt (by (try dsimp only); omega), ?_⟩
                        refine List.forall_mem_cons.mpr ⟨Nat.ne_of_lt (by (try dsimp only); omega), ?_⟩
                        refine List.forall_mem_cons.mpr ⟨Nat.ne_of_lt (by (try dsimp only); omega), ?_⟩
                        exact eMk4
                      case k4hk => k_subL
                      case k4r =>
                        try clear Fk4 Nk4
                        clear FZk4 NZk4
                        (repeat' (first | ((fail_if_success (with_reducible show wpAny _ _ (exec (Stmt.Return _ _) _) _ _ _)); (first | (k_here; (with_reducible show wpAny _ _ (call (Value.builtin "len") [Value.str _ _]) _ _ _); (refine SBL.len (by omega) ?_)) | (k_here; (with_reducible show wpAny _ _ (subscriptTail _ _ (Value.ref _) (Value.int _ _)) _ _ _); k_dflt (refine' pick _ ?zl ?z0 ?zk ?zb ?za ?_ ?zs); (case zl => k_dflt (exact News.isList (by k_asm) (by k_mem))); (case za => first | (with_reducible exact front_all _ _ _ _ _ _ _ _ _) | (with_reducible exact tail_all _ _ _ _ _ _ _ _) | (with_reducible exact pow_all _ _ _ _ _ _ _ _ _ _ _ _ _)); (case z0 => omega); (case zk => k_dflt ((try simp only [List.length_cons, List.length_nil]); omega)); (case zb => k_dflt (exact Nat.le_of_ble_eq_true rfl)); (case zs => with_unfolding_all rfl); intro x9 t9 p9; (first | (have q9 := tail_len p9) | (have q9 := front_len p9) | skip); (rename News _ _ _ _ => N8p); (replace N8p := news_tail N8p)) | (k_here; (with_reducible show wpAny _ _ (compareOp CmpOp.Eq (Value.ref _) (Value.str _ _)) _ _ _); (refine cmp_ofEq ?_); k_dflt (refine' SeqAt.RcAt.tuple_str _ _ ?zh ?zu _ _ _ _ ?_); (case zh => exact ⟨_, News.get (by k_asm) (by k_mem), rfl, _, rfl⟩); (case zu => ktr_units)) | (k_here; (with_reducible show wpAny _ _ (call (Value.ref _) _) _ _ _); (first | ((with_reducible show wpAny _ _ (call (Value.ref 396) _) _ _ _); k_dflt (refine' useU (sipped _ _ _ _ _ _ _ _ _ _ ?q1 ?q2 ?q3 ?q4 ?q5 ?q6 ?q7 ?q8) ?k1 ?k2 ?k3 ?k4 ?k5 ?kK ?kd ?ku ?kU ?kh ?_; (case k1 => k_asm); (case k2 => k_asm); (case k3 => k_asm); (case k4 => k_asm); (case k5 => k_asm); (case kK => first | exact rfl | assumption); (case kd => ktr_room); (case ku => ktr_units); (case kU => k_updF); (case kh => exact (by repeat' (first | exact List.forall_mem_nil _ | refine List.forall_mem_cons.mpr ⟨by k_mem, ?_⟩))); (case q1 => walk_at "up"); (case q2 => walk_at "up"); (case q3 => walk_at "up"); (case q4 => walk_at "up"); (case q5 => k_asm); (case q6 => k_asm); (case q7 => walk_at "up"); (case q8 => (try dsimp only); omega); k_whole); (intro r9 ob9 tl9 h9 tk9 F9 N9 l9 o9; k_dflt (obtain ⟨e9, z9, t9, u9, n9, e8, g9, g8, e7⟩ := o9; subst e9; subst e8; subst e7; dsimp only [List.cons_append, List.nil_append] at N9); clear l9; walk_at "u3")))) | walk_at "wk"))))
                        walk1
                        walk1
                        rename Fr _ _ _ _ => FY
                        (try (repeat' (first | (fail_if_success (with_reducible show (PySem.W.GoodW _ _ _ _ _ _ _ ∧ _)); walk_at "wk"))))
                        refine And.intro (law_end (fun b o e => FY.keep b o e) rfl hgY) ?gr
                        case gr => walk_at "GrownAll"

end Mine
theorem PySem.Challenge.cw_pf0014_01_holds : PySem.Challenge.rw_pf0014_01.Holds := by
  exact Mine.law_holds

