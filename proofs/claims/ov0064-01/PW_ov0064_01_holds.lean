import PyProof.Rows.All
import Wide.All
import OpenK.AllK
import Wide.FinOn
import PySem.Challenge.RW_ov0064_01
open PySem PySem.W PyProof.Rows
set_option Elab.async false
set_option maxRecDepth 100000
set_option maxHeartbeats 8000000
set_option linter.unusedVariables false
set_option compiler.extract_closed false
namespace Lx
section
set_option maxRecDepth 1000000
set_option maxHeartbeats 0
@[reducible] noncomputable def hdS {a : Stmt} {r l : List Stmt} (_ : l = a :: r) : Stmt := a
@[reducible] noncomputable def tlS {a : Stmt} {r l : List Stmt} (_ : l = a :: r) : List Stmt := r
@[reducible] noncomputable def fnP {s : Stmt} {n : Str} {p : Arguments} {b : List Stmt} {d : List PySem.Expr} {t : Option PySem.Expr} {u : List TypeParam} {c : Scope} {v : Option Scope} {x : Str} {y : Pos} (_ : s = Stmt.FunctionDef n p b d t u c v x y) : Arguments := p
@[reducible] noncomputable def fnB {s : Stmt} {n : Str} {p : Arguments} {b : List Stmt} {d : List PySem.Expr} {t : Option PySem.Expr} {u : List TypeParam} {c : Scope} {v : Option Scope} {x : Str} {y : Pos} (_ : s = Stmt.FunctionDef n p b d t u c v x y) : List Stmt := b
@[reducible] noncomputable def fnS {s : Stmt} {n : Str} {p : Arguments} {b : List Stmt} {d : List PySem.Expr} {t : Option PySem.Expr} {u : List TypeParam} {c : Scope} {v : Option Scope} {x : Str} {y : Pos} (_ : s = Stmt.FunctionDef n p b d t u c v x y) : Scope := c
@[reducible] noncomputable def clB {s : Stmt} {n : Str} {p : List PySem.Expr} {k : List Keyword} {b : List Stmt} {d : List PySem.Expr} {u : List TypeParam} {c : Scope} {v : Option Scope} {x : Str} {z : List Str} {y : Pos} (_ : s = Stmt.ClassDef n p k b d u c v x z y) : List Stmt := b
noncomputable abbrev tops0 : List Stmt := PySem.Challenge.rw_ov0064_01.row.toRowW.1.main.body
noncomputable abbrev tops1 : List Stmt := tlS (l := tops0) rfl
noncomputable abbrev tops2 : List Stmt := tlS (l := tops1) rfl
noncomputable abbrev tops3 : List Stmt := tlS (l := tops2) rfl
noncomputable abbrev tops4 : List Stmt := tlS (l := tops3) rfl
noncomputable abbrev tops5 : List Stmt := tlS (l := tops4) rfl
noncomputable abbrev tops6 : List Stmt := tlS (l := tops5) rfl
noncomputable abbrev tops7 : List Stmt := tlS (l := tops6) rfl
noncomputable abbrev tops8 : List Stmt := tlS (l := tops7) rfl
noncomputable abbrev tops9 : List Stmt := tlS (l := tops8) rfl
noncomputable abbrev tops10 : List Stmt := tlS (l := tops9) rfl
noncomputable abbrev tops11 : List Stmt := tlS (l := tops10) rfl
noncomputable abbrev tops12 : List Stmt := tlS (l := tops11) rfl
noncomputable abbrev tops13 : List Stmt := tlS (l := tops12) rfl
noncomputable abbrev tops14 : List Stmt := tlS (l := tops13) rfl
noncomputable abbrev tops15 : List Stmt := tlS (l := tops14) rfl
noncomputable abbrev tops16 : List Stmt := tlS (l := tops15) rfl
noncomputable abbrev tops17 : List Stmt := tlS (l := tops16) rfl
noncomputable abbrev tops18 : List Stmt := tlS (l := tops17) rfl
noncomputable abbrev tops19 : List Stmt := tlS (l := tops18) rfl
noncomputable abbrev tops20 : List Stmt := tlS (l := tops19) rfl
noncomputable abbrev tops21 : List Stmt := tlS (l := tops20) rfl
noncomputable abbrev tops22 : List Stmt := tlS (l := tops21) rfl
noncomputable abbrev tops23 : List Stmt := tlS (l := tops22) rfl
noncomputable abbrev tops24 : List Stmt := tlS (l := tops23) rfl
noncomputable abbrev tops25 : List Stmt := tlS (l := tops24) rfl
noncomputable abbrev tops26 : List Stmt := tlS (l := tops25) rfl
noncomputable abbrev tops27 : List Stmt := tlS (l := tops26) rfl
noncomputable abbrev tops28 : List Stmt := tlS (l := tops27) rfl
noncomputable abbrev top0 : Stmt := hdS (l := tops0) rfl
noncomputable abbrev top1 : Stmt := hdS (l := tops1) rfl
noncomputable abbrev top2 : Stmt := hdS (l := tops2) rfl
noncomputable abbrev top3 : Stmt := hdS (l := tops3) rfl
noncomputable abbrev top4 : Stmt := hdS (l := tops4) rfl
noncomputable abbrev top5 : Stmt := hdS (l := tops5) rfl
noncomputable abbrev top6 : Stmt := hdS (l := tops6) rfl
noncomputable abbrev top7 : Stmt := hdS (l := tops7) rfl
noncomputable abbrev top8 : Stmt := hdS (l := tops8) rfl
noncomputable abbrev top9 : Stmt := hdS (l := tops9) rfl
noncomputable abbrev top10 : Stmt := hdS (l := tops10) rfl
noncomputable abbrev top11 : Stmt := hdS (l := tops11) rfl
noncomputable abbrev top12 : Stmt := hdS (l := tops12) rfl
noncomputable abbrev top13 : Stmt := hdS (l := tops13) rfl
noncomputable abbrev top14 : Stmt := hdS (l := tops14) rfl
noncomputable abbrev top15 : Stmt := hdS (l := tops15) rfl
noncomputable abbrev top16 : Stmt := hdS (l := tops16) rfl
noncomputable abbrev top17 : Stmt := hdS (l := tops17) rfl
noncomputable abbrev top18 : Stmt := hdS (l := tops18) rfl
noncomputable abbrev top19 : Stmt := hdS (l := tops19) rfl
noncomputable abbrev top20 : Stmt := hdS (l := tops20) rfl
noncomputable abbrev top21 : Stmt := hdS (l := tops21) rfl
noncomputable abbrev top22 : Stmt := hdS (l := tops22) rfl
noncomputable abbrev top23 : Stmt := hdS (l := tops23) rfl
noncomputable abbrev top24 : Stmt := hdS (l := tops24) rfl
noncomputable abbrev top25 : Stmt := hdS (l := tops25) rfl
noncomputable abbrev top26 : Stmt := hdS (l := tops26) rfl
noncomputable abbrev top27 : Stmt := hdS (l := tops27) rfl
noncomputable abbrev top28 : Stmt := hdS (l := tops28) rfl
noncomputable abbrev clReadError0 : List Stmt := clB (s := top3) rfl
noncomputable abbrev stReadError0 : Stmt := hdS (l := clReadError0) rfl
noncomputable abbrev clVector0 : List Stmt := clB (s := top5) rfl
noncomputable abbrev stVector0 : Stmt := hdS (l := clVector0) rfl
noncomputable abbrev clVector1 : List Stmt := tlS (l := clVector0) rfl
noncomputable abbrev stVector1 : Stmt := hdS (l := clVector1) rfl
noncomputable abbrev clToken0 : List Stmt := clB (s := top11) rfl
noncomputable abbrev stToken0 : Stmt := hdS (l := clToken0) rfl
noncomputable abbrev clLexer0 : List Stmt := clB (s := top19) rfl
noncomputable abbrev stLexer0 : Stmt := hdS (l := clLexer0) rfl
noncomputable abbrev clLexer1 : List Stmt := tlS (l := clLexer0) rfl
noncomputable abbrev stLexer1 : Stmt := hdS (l := clLexer1) rfl
noncomputable abbrev clLexer2 : List Stmt := tlS (l := clLexer1) rfl
noncomputable abbrev stLexer2 : Stmt := hdS (l := clLexer2) rfl
noncomputable abbrev clLexer3 : List Stmt := tlS (l := clLexer2) rfl
noncomputable abbrev stLexer3 : Stmt := hdS (l := clLexer3) rfl
noncomputable abbrev clLexer4 : List Stmt := tlS (l := clLexer3) rfl
noncomputable abbrev stLexer4 : Stmt := hdS (l := clLexer4) rfl
noncomputable abbrev clLexer5 : List Stmt := tlS (l := clLexer4) rfl
noncomputable abbrev stLexer5 : Stmt := hdS (l := clLexer5) rfl
noncomputable abbrev clLexer6 : List Stmt := tlS (l := clLexer5) rfl
noncomputable abbrev stLexer6 : Stmt := hdS (l := clLexer6) rfl
noncomputable abbrev clLexer7 : List Stmt := tlS (l := clLexer6) rfl
noncomputable abbrev stLexer7 : Stmt := hdS (l := clLexer7) rfl
noncomputable abbrev clLexer8 : List Stmt := tlS (l := clLexer7) rfl
noncomputable abbrev stLexer8 : Stmt := hdS (l := clLexer8) rfl
noncomputable abbrev clLexer9 : List Stmt := tlS (l := clLexer8) rfl
noncomputable abbrev stLexer9 : Stmt := hdS (l := clLexer9) rfl
noncomputable abbrev clLexer10 : List Stmt := tlS (l := clLexer9) rfl
noncomputable abbrev stLexer10 : Stmt := hdS (l := clLexer10) rfl
noncomputable abbrev clLexer11 : List Stmt := tlS (l := clLexer10) rfl
noncomputable abbrev stLexer11 : Stmt := hdS (l := clLexer11) rfl
noncomputable abbrev clLexer12 : List Stmt := tlS (l := clLexer11) rfl
noncomputable abbrev stLexer12 : Stmt := hdS (l := clLexer12) rfl
noncomputable abbrev clLexer13 : List Stmt := tlS (l := clLexer12) rfl
noncomputable abbrev stLexer13 : Stmt := hdS (l := clLexer13) rfl
noncomputable abbrev clLexer14 : List Stmt := tlS (l := clLexer13) rfl
noncomputable abbrev stLexer14 : Stmt := hdS (l := clLexer14) rfl
noncomputable abbrev clLexer15 : List Stmt := tlS (l := clLexer14) rfl
noncomputable abbrev stLexer15 : Stmt := hdS (l := clLexer15) rfl
noncomputable abbrev clLexer16 : List Stmt := tlS (l := clLexer15) rfl
noncomputable abbrev stLexer16 : Stmt := hdS (l := clLexer16) rfl
noncomputable abbrev lp_wall : Arguments := fnP (s := top0) rfl
noncomputable abbrev lb_wall : List Stmt := fnB (s := top0) rfl
noncomputable abbrev ls_wall : Scope := fnS (s := top0) rfl
noncomputable abbrev lp_whole : Arguments := fnP (s := top6) rfl
noncomputable abbrev lb_whole : List Stmt := fnB (s := top6) rfl
noncomputable abbrev ls_whole : Scope := fnS (s := top6) rfl
noncomputable abbrev lp_number : Arguments := fnP (s := top7) rfl
noncomputable abbrev lb_number : List Stmt := fnB (s := top7) rfl
noncomputable abbrev ls_number : Scope := fnS (s := top7) rfl
noncomputable abbrev lp_keywords : Arguments := fnP (s := top12) rfl
noncomputable abbrev lb_keywords : List Stmt := fnB (s := top12) rfl
noncomputable abbrev ls_keywords : Scope := fnS (s := top12) rfl
noncomputable abbrev lp_is_letter : Arguments := fnP (s := top13) rfl
noncomputable abbrev lb_is_letter : List Stmt := fnB (s := top13) rfl
noncomputable abbrev ls_is_letter : Scope := fnS (s := top13) rfl
noncomputable abbrev lp_is_digit : Arguments := fnP (s := top14) rfl
noncomputable abbrev lb_is_digit : List Stmt := fnB (s := top14) rfl
noncomputable abbrev ls_is_digit : Scope := fnS (s := top14) rfl
noncomputable abbrev lp_is_name_char : Arguments := fnP (s := top15) rfl
noncomputable abbrev lb_is_name_char : List Stmt := fnB (s := top15) rfl
noncomputable abbrev ls_is_name_char : Scope := fnS (s := top15) rfl
noncomputable abbrev lp_hex_value : Arguments := fnP (s := top16) rfl
noncomputable abbrev lb_hex_value : List Stmt := fnB (s := top16) rfl
noncomputable abbrev ls_hex_value : Scope := fnS (s := top16) rfl
noncomputable abbrev lp_simple_escape : Arguments := fnP (s := top17) rfl
noncomputable abbrev lb_simple_escape : List Stmt := fnB (s := top17) rfl
noncomputable abbrev ls_simple_escape : Scope := fnS (s := top17) rfl
noncomputable abbrev lp_digits_value : Arguments := fnP (s := top18) rfl
noncomputable abbrev lb_digits_value : List Stmt := fnB (s := top18) rfl
noncomputable abbrev ls_digits_value : Scope := fnS (s := top18) rfl
noncomputable abbrev lp_law_heap : Arguments := fnP (s := top21) rfl
noncomputable abbrev lb_law_heap : List Stmt := fnB (s := top21) rfl
noncomputable abbrev ls_law_heap : Scope := fnS (s := top21) rfl
noncomputable abbrev lp_law_stone : Arguments := fnP (s := top22) rfl
noncomputable abbrev lb_law_stone : List Stmt := fnB (s := top22) rfl
noncomputable abbrev ls_law_stone : Scope := fnS (s := top22) rfl
noncomputable abbrev lp_law_text : Arguments := fnP (s := top23) rfl
noncomputable abbrev lb_law_text : List Stmt := fnB (s := top23) rfl
noncomputable abbrev ls_law_text : Scope := fnS (s := top23) rfl
noncomputable abbrev lp_law_read : Arguments := fnP (s := top24) rfl
noncomputable abbrev lb_law_read : List Stmt := fnB (s := top24) rfl
noncomputable abbrev ls_law_read : Scope := fnS (s := top24) rfl
noncomputable abbrev lp_law_layout : Arguments := fnP (s := top25) rfl
noncomputable abbrev lb_law_layout : List Stmt := fnB (s := top25) rfl
noncomputable abbrev ls_law_layout : Scope := fnS (s := top25) rfl
noncomputable abbrev lp_law_value : Arguments := fnP (s := top26) rfl
noncomputable abbrev lb_law_value : List Stmt := fnB (s := top26) rfl
noncomputable abbrev ls_law_value : Scope := fnS (s := top26) rfl
noncomputable abbrev lp_law_shown : Arguments := fnP (s := top27) rfl
noncomputable abbrev lb_law_shown : List Stmt := fnB (s := top27) rfl
noncomputable abbrev ls_law_shown : Scope := fnS (s := top27) rfl
noncomputable abbrev lp_law : Arguments := fnP (s := top28) rfl
noncomputable abbrev lb_law : List Stmt := fnB (s := top28) rfl
noncomputable abbrev ls_law : Scope := fnS (s := top28) rfl
noncomputable abbrev lp_ReadError_init : Arguments := fnP (s := stReadError0) rfl
noncomputable abbrev lb_ReadError_init : List Stmt := fnB (s := stReadError0) rfl
noncomputable abbrev ls_ReadError_init : Scope := fnS (s := stReadError0) rfl
noncomputable abbrev lp_Vector_init : Arguments := fnP (s := stVector0) rfl
noncomputable abbrev lb_Vector_init : List Stmt := fnB (s := stVector0) rfl
noncomputable abbrev ls_Vector_init : Scope := fnS (s := stVector0) rfl
noncomputable abbrev lp_Vector_copy : Arguments := fnP (s := stVector1) rfl
noncomputable abbrev lb_Vector_copy : List Stmt := fnB (s := stVector1) rfl
noncomputable abbrev ls_Vector_copy : Scope := fnS (s := stVector1) rfl
noncomputable abbrev lp_Token_init : Arguments := fnP (s := stToken0) rfl
noncomputable abbrev lb_Token_init : List Stmt := fnB (s := stToken0) rfl
noncomputable abbrev ls_Token_init : Scope := fnS (s := stToken0) rfl
noncomputable abbrev lp_Lexer_init : Arguments := fnP (s := stLexer0) rfl
noncomputable abbrev lb_Lexer_init : List Stmt := fnB (s := stLexer0) rfl
noncomputable abbrev ls_Lexer_init : Scope := fnS (s := stLexer0) rfl
noncomputable abbrev lp_Lexer_char : Arguments := fnP (s := stLexer1) rfl
noncomputable abbrev lb_Lexer_char : List Stmt := fnB (s := stLexer1) rfl
noncomputable abbrev ls_Lexer_char : Scope := fnS (s := stLexer1) rfl
noncomputable abbrev lp_Lexer_token : Arguments := fnP (s := stLexer2) rfl
noncomputable abbrev lb_Lexer_token : List Stmt := fnB (s := stLexer2) rfl
noncomputable abbrev ls_Lexer_token : Scope := fnS (s := stLexer2) rfl
noncomputable abbrev lp_Lexer_next_token : Arguments := fnP (s := stLexer3) rfl
noncomputable abbrev lb_Lexer_next_token : List Stmt := fnB (s := stLexer3) rfl
noncomputable abbrev ls_Lexer_next_token : Scope := fnS (s := stLexer3) rfl
noncomputable abbrev lp_Lexer_skip : Arguments := fnP (s := stLexer4) rfl
noncomputable abbrev lb_Lexer_skip : List Stmt := fnB (s := stLexer4) rfl
noncomputable abbrev ls_Lexer_skip : Scope := fnS (s := stLexer4) rfl
noncomputable abbrev lp_Lexer_word : Arguments := fnP (s := stLexer5) rfl
noncomputable abbrev lb_Lexer_word : List Stmt := fnB (s := stLexer5) rfl
noncomputable abbrev ls_Lexer_word : Scope := fnS (s := stLexer5) rfl
noncomputable abbrev lp_Lexer_percent : Arguments := fnP (s := stLexer6) rfl
noncomputable abbrev lb_Lexer_percent : List Stmt := fnB (s := stLexer6) rfl
noncomputable abbrev ls_Lexer_percent : Scope := fnS (s := stLexer6) rfl
noncomputable abbrev lp_Lexer_operator : Arguments := fnP (s := stLexer7) rfl
noncomputable abbrev lb_Lexer_operator : List Stmt := fnB (s := stLexer7) rfl
noncomputable abbrev ls_Lexer_operator : Scope := fnS (s := stLexer7) rfl
noncomputable abbrev lp_Lexer_digits_end : Arguments := fnP (s := stLexer8) rfl
noncomputable abbrev lb_Lexer_digits_end : List Stmt := fnB (s := stLexer8) rfl
noncomputable abbrev ls_Lexer_digits_end : Scope := fnS (s := stLexer8) rfl
noncomputable abbrev lp_Lexer_numeral : Arguments := fnP (s := stLexer9) rfl
noncomputable abbrev lb_Lexer_numeral : List Stmt := fnB (s := stLexer9) rfl
noncomputable abbrev ls_Lexer_numeral : Scope := fnS (s := stLexer9) rfl
noncomputable abbrev lp_Lexer_exponent : Arguments := fnP (s := stLexer10) rfl
noncomputable abbrev lb_Lexer_exponent : List Stmt := fnB (s := stLexer10) rfl
noncomputable abbrev ls_Lexer_exponent : Scope := fnS (s := stLexer10) rfl
noncomputable abbrev lp_Lexer_hexadecimal : Arguments := fnP (s := stLexer11) rfl
noncomputable abbrev lb_Lexer_hexadecimal : List Stmt := fnB (s := stLexer11) rfl
noncomputable abbrev ls_Lexer_hexadecimal : Scope := fnS (s := stLexer11) rfl
noncomputable abbrev lp_Lexer_number_token : Arguments := fnP (s := stLexer12) rfl
noncomputable abbrev lb_Lexer_number_token : List Stmt := fnB (s := stLexer12) rfl
noncomputable abbrev ls_Lexer_number_token : Scope := fnS (s := stLexer12) rfl
noncomputable abbrev lp_Lexer_quoted : Arguments := fnP (s := stLexer13) rfl
noncomputable abbrev lb_Lexer_quoted : List Stmt := fnB (s := stLexer13) rfl
noncomputable abbrev ls_Lexer_quoted : Scope := fnS (s := stLexer13) rfl
noncomputable abbrev lp_Lexer_escape : Arguments := fnP (s := stLexer14) rfl
noncomputable abbrev lb_Lexer_escape : List Stmt := fnB (s := stLexer14) rfl
noncomputable abbrev ls_Lexer_escape : Scope := fnS (s := stLexer14) rfl
noncomputable abbrev lp_Lexer_coded : Arguments := fnP (s := stLexer15) rfl
noncomputable abbrev lb_Lexer_coded : List Stmt := fnB (s := stLexer15) rfl
noncomputable abbrev ls_Lexer_coded : Scope := fnS (s := stLexer15) rfl
noncomputable abbrev lp_Lexer_raw_string : Arguments := fnP (s := stLexer16) rfl
noncomputable abbrev lb_Lexer_raw_string : List Stmt := fnB (s := stLexer16) rfl
noncomputable abbrev ls_Lexer_raw_string : Scope := fnS (s := stLexer16) rfl
noncomputable def hd.heap_39 : Params → Frag := fun P =>
  (nat_lit 2,
      { cls := Value.none,
        data :=
          PySem.Data.dict
            #[{ hash := PyData.keyHash P (Str.ofString "type.__subclasses__.Exception.0"), key := Value.str (Str.ofString "type.__subclasses__.Exception.0") 212,
                val := Value.int 31 0 },
              { hash := PyData.keyHash P (Str.ofString "type.__subclasses__.Exception.n"), key := Value.str (Str.ofString "type.__subclasses__.Exception.n") 213,
                val := Value.int 1 0 }]
            2 }) ::
    (nat_lit 3,
      { cls := Value.type "dict",
        data :=
          PySem.Data.dict
            #[{ hash := PyData.keyHash P (Str.ofString "__name__"), key := Value.str (Str.ofString "__name__") 165,
                val := Value.str (Str.ofString "law_ov0064_01") 606 },
              { hash := PyData.keyHash P (Str.ofString "__doc__"), key := Value.str (Str.ofString "__doc__") 166, val := Value.none },
              { hash := PyData.keyHash P (Str.ofString "__package__"), key := Value.str (Str.ofString "__package__") 167, val := Value.none },
              { hash := PyData.keyHash P (Str.ofString "__loader__"), key := Value.str (Str.ofString "__loader__") 168,
                val := Value.builtin "__main__.__loader__#opaque" },
              { hash := PyData.keyHash P (Str.ofString "__spec__"), key := Value.str (Str.ofString "__spec__") 169, val := Value.none },
              { hash := PyData.keyHash P (Str.ofString "__annotations__"), key := Value.str (Str.ofString "__annotations__") 170, val := Value.ref 6 },
              { hash := PyData.keyHash P (Str.ofString "__builtins__"), key := Value.str (Str.ofString "__builtins__") 171, val := Value.ref 4 },
              { hash := PyData.keyHash P (Str.ofString "__file__"), key := Value.str (Str.ofString "__file__") 173,
                val := Value.str (Str.ofString "/claim/cut.py") 172 },
              { hash := PyData.keyHash P (Str.ofString "__cached__"), key := Value.str (Str.ofString "__cached__") 174, val := Value.none },
              { hash := PyData.keyHash P (Str.ofString "_wall"), key := Value.str (Str.ofString "_wall") 193, val := Value.ref 21 },
              { hash := PyData.keyHash P (Str.ofString "CoveError"), key := Value.str (Str.ofString "CoveError") 215, val := Value.ref 31 },
              { hash := PyData.keyHash P (Str.ofString "ReadError"), key := Value.str (Str.ofString "ReadError") 242, val := Value.ref 51 },
              { hash := PyData.keyHash P (Str.ofString "Vector"), key := Value.str (Str.ofString "Vector") 286, val := Value.ref 78 },
              { hash := PyData.keyHash P (Str.ofString "whole"), key := Value.str (Str.ofString "whole") 293, val := Value.ref 89 },
              { hash := PyData.keyHash P (Str.ofString "number"), key := Value.str (Str.ofString "number") 304, val := Value.ref 97 },
              { hash := PyData.keyHash P (Str.ofString "MOST_EXPONENT"), key := Value.str (Str.ofString "MOST_EXPONENT") 308, val := Value.int 4096 307 },
              { hash := PyData.keyHash P (Str.ofString "MOST_INTEGER"), key := Value.str (Str.ofString "MOST_INTEGER") 310, val := Value.int 2147483647 309 },
              { hash := PyData.keyHash P (Str.ofString "Token"), key := Value.str (Str.ofString "Token") 345, val := Value.ref 114 },
              { hash := PyData.keyHash P (Str.ofString "keywords"), key := Value.str (Str.ofString "keywords") 351, val := Value.ref 125 },
              { hash := PyData.keyHash P (Str.ofString "is_letter"), key := Value.str (Str.ofString "is_letter") 358, val := Value.ref 132 },
              { hash := PyData.keyHash P (Str.ofString "is_digit"), key := Value.str (Str.ofString "is_digit") 365, val := Value.ref 139 },
              { hash := PyData.keyHash P (Str.ofString "is_name_char"), key := Value.str (Str.ofString "is_name_char") 372, val := Value.ref 146 },
              { hash := PyData.keyHash P (Str.ofString "hex_value"), key := Value.str (Str.ofString "hex_value") 379, val := Value.ref 153 },
              { hash := PyData.keyHash P (Str.ofString "simple_escape"), key := Value.str (Str.ofString "simple_escape") 387, val := Value.ref 160 },
              { hash := PyData.keyHash P (Str.ofString "digits_value"), key := Value.str (Str.ofString "digits_value") 396, val := Value.ref 167 },
              { hash := PyData.keyHash P (Str.ofString "Lexer"), key := Value.str (Str.ofString "Lexer") 605, val := Value.ref 297 },
              { hash := PyData.keyHash P (Str.ofString "_law_heap"), key := Value.str (Str.ofString "_law_heap") 617, val := Value.ref 308 },
              { hash := PyData.keyHash P (Str.ofString "_law_stone"), key := Value.str (Str.ofString "_law_stone") 625, val := Value.ref 315 },
              { hash := PyData.keyHash P (Str.ofString "_law_text"), key := Value.str (Str.ofString "_law_text") 634, val := Value.ref 322 },
              { hash := PyData.keyHash P (Str.ofString "_law_read"), key := Value.str (Str.ofString "_law_read") 648, val := Value.ref 329 },
              { hash := PyData.keyHash P (Str.ofString "_law_layout"), key := Value.str (Str.ofString "_law_layout") 657, val := Value.ref 336 },
              { hash := PyData.keyHash P (Str.ofString "_law_value"), key := Value.str (Str.ofString "_law_value") 664, val := Value.ref 343 },
              { hash := PyData.keyHash P (Str.ofString "_law_shown"), key := Value.str (Str.ofString "_law_shown") 671, val := Value.ref 350 },
              { hash := PyData.keyHash P (Str.ofString "law"), key := Value.str (Str.ofString "law") 677, val := Value.ref 355 }]
            34 }) ::
    (nat_lit 15, { cls := Value.type "tuple", data := PySem.Data.seq #[] }) ::
    (nat_lit 17, { cls := Value.type "tuple", data := PySem.Data.seq #[Value.str (Str.ofString "k") 190] }) ::
    (nat_lit 18, { cls := Value.type "tuple", data := PySem.Data.seq #[] }) ::
    (nat_lit 20,
      { cls := Value.type "code",
        data :=
          PySem.Data.fields
            #[Value.str (Str.ofString "_wall") 187, Value.str (Str.ofString "_wall") 188, Value.str (Str.ofString "/claim/cut.py") 189, Value.int 1 0,
              Value.int 1 0, Value.int 0 0, Value.int 0 0, Value.int 3 0, Value.ref 15, Value.bool true, Value.int 181 0, Value.ref 16,
              Value.none, Value.ref 17, Value.ref 18, Value.ref 19, Value.int 191 0, Value.int 1 0, Value.str (Str.ofString "/claim/cut.py") 192] }) ::
    (nat_lit 21,
      { cls := Value.type "function",
        data :=
          PySem.Data.func
            { name := Str.ofString "_wall", qualname := Str.ofString "_wall",
              params :=
                lp_wall,
              body :=
                PySem.FuncBody.stmts
                  lb_wall,
              scope := ls_wall, globals := 3, closure := [],
              defaults := Value.none, kwdefaults := Value.none, pyModule := Value.str (Str.ofString "__main__") 164, code := Value.ref 20 } }) ::
    (nat_lit 22, { cls := Value.type "tuple", data := PySem.Data.seq #[Value.type "Exception"] }) ::
    (nat_lit 29, { cls := Value.type "tuple", data := PySem.Data.seq #[] }) ::
    (nat_lit 30,
      { cls := Value.type "dict",
        data :=
          PySem.Data.dict
            #[{ hash := PyData.keyHash P (Str.ofString "__module__"), key := Value.str (Str.ofString "__module__") 203,
                val := Value.str (Str.ofString "vectorcove.errors") 194 },
              { hash := PyData.keyHash P (Str.ofString "__firstlineno__"), key := Value.str (Str.ofString "__firstlineno__") 207, val := Value.int 5 206 },
              { hash := PyData.keyHash P (Str.ofString "__static_attributes__"), key := Value.str (Str.ofString "__static_attributes__") 208, val := Value.ref 29 },
              { hash := PyData.keyHash P (Str.ofString "__weakref__"), key := Value.str (Str.ofString "__weakref__") 210, val := Value.ref 32 },
              { hash := PyData.keyHash P (Str.ofString "__doc__"), key := Value.str (Str.ofString "__doc__") 211, val := Value.none }]
            3 }) ::
    (nat_lit 31,
      { cls := Value.type "type",
        data :=
          PySem.Data.cls
            { name := Str.ofString "CoveError", bases := [Value.type "Exception"],
              mro := [Value.ref 31, Value.type "Exception", Value.type "BaseException", Value.type "object"], ns := 30, qualname := Str.ofString "CoveError",
              subclasses := [Value.ref 51] },
        slots :=
          #[some (Value.ref 22), none, some (Value.str (Str.ofString "CoveError") 196), some (Value.str (Str.ofString "CoveError") 204),
            some (Value.builtin "Exception.__new__"), some (Value.bool true)] }) ::
    (nat_lit 32,
      { cls := Value.type "getset_descriptor",
        data := PySem.Data.fields #[Value.str (Str.ofString "__weakref__") 209, Value.ref 31, Value.builtin "ExceptionGroup.__weakref__", Value.none] }) ::
    (nat_lit 35, { cls := Value.type "tuple", data := PySem.Data.seq #[Value.ref 31] }) ::
    (nat_lit 42, { cls := Value.type "tuple", data := PySem.Data.seq #[] }) ::
    (nat_lit 44,
      { cls := Value.type "tuple",
        data := PySem.Data.seq #[Value.str (Str.ofString "self") 231, Value.str (Str.ofString "kind") 232, Value.str (Str.ofString "at") 233] }) ::
    (nat_lit 45, { cls := Value.type "tuple", data := PySem.Data.seq #[] }) ::
    (nat_lit 47,
      { cls := Value.type "code",
        data :=
          PySem.Data.fields
            #[Value.str (Str.ofString "__init__") 228, Value.str (Str.ofString "ReadError.__init__") 229, Value.str (Str.ofString "/claim/cut.py") 230,
              Value.int 9 0, Value.int 3 0, Value.int 0 0, Value.int 0 0, Value.int 3 0, Value.ref 42, Value.bool true, Value.int 181 0,
              Value.ref 43, Value.none, Value.ref 44, Value.ref 45, Value.ref 46, Value.int 234 0, Value.int 9 0,
              Value.str (Str.ofString "/claim/cut.py") 235] }) ::
    (nat_lit 48,
      { cls := Value.type "function",
        data :=
          PySem.Data.func
            { name := Str.ofString "__init__", qualname := Str.ofString "ReadError.__init__",
              params :=
                lp_ReadError_init,
              body :=
                PySem.FuncBody.stmts
                  lb_ReadError_init,
              scope :=
                ls_ReadError_init,
              globals := 3, closure := [], defaults := Value.none, kwdefaults := Value.none, pyModule := Value.str (Str.ofString "vectorcove.errors") 194,
              code := Value.ref 47 } }) ::
    (nat_lit 49, { cls := Value.type "tuple", data := PySem.Data.seq #[Value.str (Str.ofString "at") 237, Value.str (Str.ofString "kind") 238] }) ::
    (nat_lit 50,
      { cls := Value.type "dict",
        data :=
          PySem.Data.dict
            #[{ hash := PyData.keyHash P (Str.ofString "__module__"), key := Value.str (Str.ofString "__module__") 223,
                val := Value.str (Str.ofString "vectorcove.errors") 194 },
              { hash := PyData.keyHash P (Str.ofString "__firstlineno__"), key := Value.str (Str.ofString "__firstlineno__") 227, val := Value.int 7 226 },
              { hash := PyData.keyHash P (Str.ofString "__init__"), key := Value.str (Str.ofString "__init__") 236, val := Value.ref 48 },
              { hash := PyData.keyHash P (Str.ofString "__static_attributes__"), key := Value.str (Str.ofString "__static_attributes__") 239, val := Value.ref 49 },
              { hash := PyData.keyHash P (Str.ofString "__doc__"), key := Value.str (Str.ofString "__doc__") 240, val := Value.none }]
            2 }) ::
    (nat_lit 51,
      { cls := Value.type "type",
        data :=
          PySem.Data.cls
            { name := Str.ofString "ReadError", bases := [Value.ref 31],
              mro := [Value.ref 51, Value.ref 31, Value.type "Exception", Value.type "BaseException", Value.type "object"], ns := 50,
              qualname := Str.ofString "ReadError" },
        slots :=
          #[some (Value.ref 35), none, some (Value.str (Str.ofString "ReadError") 216), some (Value.str (Str.ofString "ReadError") 224),
            some (Value.builtin "Exception.__new__"), some (Value.bool true)] }) ::
    (nat_lit 61, { cls := Value.type "tuple", data := PySem.Data.seq #[Value.none] }) ::
    (nat_lit 62, { cls := Value.type "tuple", data := PySem.Data.seq #[] }) ::
    (nat_lit 64,
      { cls := Value.type "tuple",
        data :=
          PySem.Data.seq
            #[Value.str (Str.ofString "self") 260, Value.str (Str.ofString "kind") 261, Value.str (Str.ofString "items") 262,
              Value.str (Str.ofString "attrs") 263] }) ::
    (nat_lit 65, { cls := Value.type "tuple", data := PySem.Data.seq #[] }) ::
    (nat_lit 67,
      { cls := Value.type "code",
        data :=
          PySem.Data.fields
            #[Value.str (Str.ofString "__init__") 257, Value.str (Str.ofString "Vector.__init__") 258, Value.str (Str.ofString "/claim/cut.py") 259,
              Value.int 15 0, Value.int 4 0, Value.int 0 0, Value.int 0 0, Value.int 3 0, Value.ref 62, Value.bool true, Value.int 181 0,
              Value.ref 63, Value.none, Value.ref 64, Value.ref 65, Value.ref 66, Value.int 264 0, Value.int 15 0,
              Value.str (Str.ofString "/claim/cut.py") 265] }) ::
    (nat_lit 68,
      { cls := Value.type "function",
        data :=
          PySem.Data.func
            { name := Str.ofString "__init__", qualname := Str.ofString "Vector.__init__",
              params :=
                lp_Vector_init,
              body :=
                PySem.FuncBody.stmts
                  lb_Vector_init,
              scope :=
                ls_Vector_init,
              globals := 3, closure := [], defaults := Value.ref 61, kwdefaults := Value.none, pyModule := Value.str (Str.ofString "vectorcove.values") 243,
              code := Value.ref 67 } }) ::
    (nat_lit 69, { cls := Value.type "tuple", data := PySem.Data.seq #[] }) ::
    (nat_lit 71, { cls := Value.type "tuple", data := PySem.Data.seq #[Value.str (Str.ofString "self") 270] }) ::
    (nat_lit 72, { cls := Value.type "tuple", data := PySem.Data.seq #[] }) ::
    (nat_lit 74,
      { cls := Value.type "code",
        data :=
          PySem.Data.fields
            #[Value.str (Str.ofString "copy") 267, Value.str (Str.ofString "Vector.copy") 268, Value.str (Str.ofString "/claim/cut.py") 269, Value.int 22 0,
              Value.int 1 0, Value.int 0 0, Value.int 0 0, Value.int 3 0, Value.ref 69, Value.bool true, Value.int 181 0, Value.ref 70,
              Value.none, Value.ref 71, Value.ref 72, Value.ref 73, Value.int 271 0, Value.int 22 0, Value.str (Str.ofString "/claim/cut.py") 272] }) ::
    (nat_lit 75,
      { cls := Value.type "function",
        data :=
          PySem.Data.func
            { name := Str.ofString "copy", qualname := Str.ofString "Vector.copy",
              params :=
                lp_Vector_copy,
              body :=
                PySem.FuncBody.stmts
                  lb_Vector_copy,
              scope :=
                ls_Vector_copy,
              globals := 3, closure := [], defaults := Value.none, kwdefaults := Value.none, pyModule := Value.str (Str.ofString "vectorcove.values") 243,
              code := Value.ref 74 } }) ::
    (nat_lit 76,
      { cls := Value.type "tuple",
        data :=
          PySem.Data.seq
            #[Value.str (Str.ofString "attrs") 274, Value.str (Str.ofString "items") 275, Value.str (Str.ofString "kind") 276,
              Value.str (Str.ofString "loose") 277, Value.str (Str.ofString "shared") 278] }) ::
    (nat_lit 77,
      { cls := Value.type "dict",
        data :=
          PySem.Data.dict
            #[{ hash := PyData.keyHash P (Str.ofString "__module__"), key := Value.str (Str.ofString "__module__") 252,
                val := Value.str (Str.ofString "vectorcove.values") 243 },
              { hash := PyData.keyHash P (Str.ofString "__firstlineno__"), key := Value.str (Str.ofString "__firstlineno__") 256, val := Value.int 13 255 },
              { hash := PyData.keyHash P (Str.ofString "__init__"), key := Value.str (Str.ofString "__init__") 266, val := Value.ref 68 },
              { hash := PyData.keyHash P (Str.ofString "copy"), key := Value.str (Str.ofString "copy") 273, val := Value.ref 75 },
              { hash := PyData.keyHash P (Str.ofString "__static_attributes__"), key := Value.str (Str.ofString "__static_attributes__") 279, val := Value.ref 76 },
              { hash := PyData.keyHash P (Str.ofString "__dict__"), key := Value.str (Str.ofString "__dict__") 281, val := Value.ref 79 },
              { hash := PyData.keyHash P (Str.ofString "__weakref__"), key := Value.str (Str.ofString "__weakref__") 283, val := Value.ref 80 },
              { hash := PyData.keyHash P (Str.ofString "__doc__"), key := Value.str (Str.ofString "__doc__") 284, val := Value.none }]
            4 }) ::
    (nat_lit 78,
      { cls := Value.type "type",
        data :=
          PySem.Data.cls
            { name := Str.ofString "Vector", bases := [Value.type "object"], mro := [Value.ref 78, Value.type "object"], ns := 77, qualname := Str.ofString "Vector" },
        slots :=
          #[none, none, some (Value.str (Str.ofString "Vector") 245), some (Value.str (Str.ofString "Vector") 253), some (Value.builtin "object.__new__"),
            some (Value.bool true)] }) ::
    (nat_lit 79,
      { cls := Value.type "getset_descriptor",
        data := PySem.Data.fields #[Value.str (Str.ofString "__dict__") 280, Value.ref 78, Value.builtin "function.__dict__", Value.builtin "function.__dict__#set"] }) ::
    (nat_lit 80,
      { cls := Value.type "getset_descriptor",
        data := PySem.Data.fields #[Value.str (Str.ofString "__weakref__") 282, Value.ref 78, Value.builtin "ExceptionGroup.__weakref__", Value.none] }) ::
    (nat_lit 83, { cls := Value.type "tuple", data := PySem.Data.seq #[] }) ::
    (nat_lit 85, { cls := Value.type "tuple", data := PySem.Data.seq #[Value.str (Str.ofString "n") 290] }) ::
    (nat_lit 86, { cls := Value.type "tuple", data := PySem.Data.seq #[] }) ::
    (nat_lit 88,
      { cls := Value.type "code",
        data :=
          PySem.Data.fields
            #[Value.str (Str.ofString "whole") 287, Value.str (Str.ofString "whole") 288, Value.str (Str.ofString "/claim/cut.py") 289, Value.int 24 0,
              Value.int 1 0, Value.int 0 0, Value.int 0 0, Value.int 3 0, Value.ref 83, Value.bool true, Value.int 181 0, Value.ref 84,
              Value.none, Value.ref 85, Value.ref 86, Value.ref 87, Value.int 291 0, Value.int 24 0, Value.str (Str.ofString "/claim/cut.py") 292] }) ::
    (nat_lit 89,
      { cls := Value.type "function",
        data :=
          PySem.Data.func
            { name := Str.ofString "whole", qualname := Str.ofString "whole",
              params :=
                lp_whole,
              body :=
                PySem.FuncBody.stmts
                  lb_whole,
              scope :=
                ls_whole,
              globals := 3, closure := [], defaults := Value.none, kwdefaults := Value.none, pyModule := Value.str (Str.ofString "vectorcove.values") 243,
              code := Value.ref 88 } }) ::
    (nat_lit 90, { cls := Value.type "tuple", data := PySem.Data.seq #[Value.int 1 294] }) ::
    (nat_lit 91, { cls := Value.type "tuple", data := PySem.Data.seq #[] }) ::
    (nat_lit 93,
      { cls := Value.type "tuple",
        data :=
          PySem.Data.seq
            #[Value.str (Str.ofString "n") 298, Value.str (Str.ofString "d") 299, Value.str (Str.ofString "a") 300,
              Value.str (Str.ofString "b") 301] }) ::
    (nat_lit 94, { cls := Value.type "tuple", data := PySem.Data.seq #[] }) ::
    (nat_lit 96,
      { cls := Value.type "code",
        data :=
          PySem.Data.fields
            #[Value.str (Str.ofString "number") 295, Value.str (Str.ofString "number") 296, Value.str (Str.ofString "/claim/cut.py") 297, Value.int 26 0,
              Value.int 2 0, Value.int 0 0, Value.int 0 0, Value.int 3 0, Value.ref 91, Value.bool true, Value.int 181 0, Value.ref 92,
              Value.none, Value.ref 93, Value.ref 94, Value.ref 95, Value.int 302 0, Value.int 26 0, Value.str (Str.ofString "/claim/cut.py") 303] }) ::
    (nat_lit 97,
      { cls := Value.type "function",
        data :=
          PySem.Data.func
            { name := Str.ofString "number", qualname := Str.ofString "number",
              params :=
                lp_number,
              body :=
                PySem.FuncBody.stmts
                  lb_number,
              scope :=
                ls_number,
              globals := 3, closure := [], defaults := Value.ref 90, kwdefaults := Value.none, pyModule := Value.str (Str.ofString "vectorcove.values") 243,
              code := Value.ref 96 } }) ::
    (nat_lit 105, { cls := Value.type "tuple", data := PySem.Data.seq #[] }) ::
    (nat_lit 107,
      { cls := Value.type "tuple",
        data :=
          PySem.Data.seq
            #[Value.str (Str.ofString "self") 326, Value.str (Str.ofString "kind") 327, Value.str (Str.ofString "value") 328,
              Value.str (Str.ofString "at") 329, Value.str (Str.ofString "newline") 330] }) ::
    (nat_lit 108, { cls := Value.type "tuple", data := PySem.Data.seq #[] }) ::
    (nat_lit 110,
      { cls := Value.type "code",
        data :=
          PySem.Data.fields
            #[Value.str (Str.ofString "__init__") 323, Value.str (Str.ofString "Token.__init__") 324, Value.str (Str.ofString "/claim/cut.py") 325,
              Value.int 37 0, Value.int 5 0, Value.int 0 0, Value.int 0 0, Value.int 3 0, Value.ref 105, Value.bool true, Value.int 181 0,
              Value.ref 106, Value.none, Value.ref 107, Value.ref 108, Value.ref 109, Value.int 331 0, Value.int 37 0,
              Value.str (Str.ofString "/claim/cut.py") 332] }) ::
    (nat_lit 111,
      { cls := Value.type "function",
        data :=
          PySem.Data.func
            { name := Str.ofString "__init__", qualname := Str.ofString "Token.__init__",
              params :=
                lp_Token_init,
              body :=
                PySem.FuncBody.stmts
                  lb_Token_init,
              scope :=
                ls_Token_init,
              globals := 3, closure := [], defaults := Value.none, kwdefaults := Value.none, pyModule := Value.str (Str.ofString "vectorcove.tokens") 305,
              code := Value.ref 110 } }) ::
    (nat_lit 112,
      { cls := Value.type "tuple",
        data :=
          PySem.Data.seq
            #[Value.str (Str.ofString "at") 334, Value.str (Str.ofString "kind") 335, Value.str (Str.ofString "newline") 336,
              Value.str (Str.ofString "value") 337] }) ::
    (nat_lit 113,
      { cls := Value.type "dict",
        data :=
          PySem.Data.dict
            #[{ hash := PyData.keyHash P (Str.ofString "__module__"), key := Value.str (Str.ofString "__module__") 318,
                val := Value.str (Str.ofString "vectorcove.tokens") 305 },
              { hash := PyData.keyHash P (Str.ofString "__firstlineno__"), key := Value.str (Str.ofString "__firstlineno__") 322, val := Value.int 35 321 },
              { hash := PyData.keyHash P (Str.ofString "__init__"), key := Value.str (Str.ofString "__init__") 333, val := Value.ref 111 },
              { hash := PyData.keyHash P (Str.ofString "__static_attributes__"), key := Value.str (Str.ofString "__static_attributes__") 338, val := Value.ref 112 },
              { hash := PyData.keyHash P (Str.ofString "__dict__"), key := Value.str (Str.ofString "__dict__") 340, val := Value.ref 115 },
              { hash := PyData.keyHash P (Str.ofString "__weakref__"), key := Value.str (Str.ofString "__weakref__") 342, val := Value.ref 116 },
              { hash := PyData.keyHash P (Str.ofString "__doc__"), key := Value.str (Str.ofString "__doc__") 343, val := Value.none }]
            4 }) ::
    (nat_lit 114,
      { cls := Value.type "type",
        data :=
          PySem.Data.cls
            { name := Str.ofString "Token", bases := [Value.type "object"], mro := [Value.ref 114, Value.type "object"], ns := 113, qualname := Str.ofString "Token" },
        slots :=
          #[none, none, some (Value.str (Str.ofString "Token") 311), some (Value.str (Str.ofString "Token") 319), some (Value.builtin "object.__new__"),
            some (Value.bool true)] }) ::
    (nat_lit 115,
      { cls := Value.type "getset_descriptor",
        data := PySem.Data.fields #[Value.str (Str.ofString "__dict__") 339, Value.ref 114, Value.builtin "function.__dict__", Value.builtin "function.__dict__#set"] }) ::
    (nat_lit 116,
      { cls := Value.type "getset_descriptor",
        data := PySem.Data.fields #[Value.str (Str.ofString "__weakref__") 341, Value.ref 114, Value.builtin "ExceptionGroup.__weakref__", Value.none] }) ::
    (nat_lit 119, { cls := Value.type "tuple", data := PySem.Data.seq #[] }) ::
    (nat_lit 121, { cls := Value.type "tuple", data := PySem.Data.seq #[] }) ::
    (nat_lit 122, { cls := Value.type "tuple", data := PySem.Data.seq #[] }) ::
    (nat_lit 124,
      { cls := Value.type "code",
        data :=
          PySem.Data.fields
            #[Value.str (Str.ofString "keywords") 346, Value.str (Str.ofString "keywords") 347, Value.str (Str.ofString "/claim/cut.py") 348, Value.int 42 0,
              Value.int 0 0, Value.int 0 0, Value.int 0 0, Value.int 3 0, Value.ref 119, Value.bool true, Value.int 181 0, Value.ref 120,
              Value.none, Value.ref 121, Value.ref 122, Value.ref 123, Value.int 349 0, Value.int 42 0,
              Value.str (Str.ofString "/claim/cut.py") 350] }) ::
    (nat_lit 125,
      { cls := Value.type "function",
        data :=
          PySem.Data.func
            { name := Str.ofString "keywords", qualname := Str.ofString "keywords",
              params := lp_keywords,
              body :=
                PySem.FuncBody.stmts
                  lb_keywords,
              scope := ls_keywords, globals := 3, closure := [], defaults := Value.none,
              kwdefaults := Value.none, pyModule := Value.str (Str.ofString "vectorcove.tokens") 305, code := Value.ref 124 } }) ::
    (nat_lit 126, { cls := Value.type "tuple", data := PySem.Data.seq #[] }) ::
    (nat_lit 128, { cls := Value.type "tuple", data := PySem.Data.seq #[Value.str (Str.ofString "char") 355] }) ::
    (nat_lit 129, { cls := Value.type "tuple", data := PySem.Data.seq #[] }) ::
    (nat_lit 131,
      { cls := Value.type "code",
        data :=
          PySem.Data.fields
            #[Value.str (Str.ofString "is_letter") 352, Value.str (Str.ofString "is_letter") 353, Value.str (Str.ofString "/claim/cut.py") 354,
              Value.int 44 0, Value.int 1 0, Value.int 0 0, Value.int 0 0, Value.int 3 0, Value.ref 126, Value.bool true, Value.int 181 0,
              Value.ref 127, Value.none, Value.ref 128, Value.ref 129, Value.ref 130, Value.int 356 0, Value.int 44 0,
              Value.str (Str.ofString "/claim/cut.py") 357] }) ::
    (nat_lit 132,
      { cls := Value.type "function",
        data :=
          PySem.Data.func
            { name := Str.ofString "is_letter", qualname := Str.ofString "is_letter",
              params :=
                lp_is_letter,
              body :=
                PySem.FuncBody.stmts
                  lb_is_letter,
              scope := ls_is_letter, globals := 3, closure := [],
              defaults := Value.none, kwdefaults := Value.none, pyModule := Value.str (Str.ofString "vectorcove.tokens") 305, code := Value.ref 131 } }) ::
    (nat_lit 133, { cls := Value.type "tuple", data := PySem.Data.seq #[] }) ::
    (nat_lit 135, { cls := Value.type "tuple", data := PySem.Data.seq #[Value.str (Str.ofString "char") 362] }) ::
    (nat_lit 136, { cls := Value.type "tuple", data := PySem.Data.seq #[] }) ::
    (nat_lit 138,
      { cls := Value.type "code",
        data :=
          PySem.Data.fields
            #[Value.str (Str.ofString "is_digit") 359, Value.str (Str.ofString "is_digit") 360, Value.str (Str.ofString "/claim/cut.py") 361, Value.int 46 0,
              Value.int 1 0, Value.int 0 0, Value.int 0 0, Value.int 3 0, Value.ref 133, Value.bool true, Value.int 181 0, Value.ref 134,
              Value.none, Value.ref 135, Value.ref 136, Value.ref 137, Value.int 363 0, Value.int 46 0,
              Value.str (Str.ofString "/claim/cut.py") 364] }) ::
    (nat_lit 139,
      { cls := Value.type "function",
        data :=
          PySem.Data.func
            { name := Str.ofString "is_digit", qualname := Str.ofString "is_digit",
              params :=
                lp_is_digit,
              body :=
                PySem.FuncBody.stmts
                  lb_is_digit,
              scope := ls_is_digit, globals := 3, closure := [],
              defaults := Value.none, kwdefaults := Value.none, pyModule := Value.str (Str.ofString "vectorcove.tokens") 305, code := Value.ref 138 } }) ::
    (nat_lit 140, { cls := Value.type "tuple", data := PySem.Data.seq #[] }) ::
    (nat_lit 142, { cls := Value.type "tuple", data := PySem.Data.seq #[Value.str (Str.ofString "char") 369] }) ::
    (nat_lit 143, { cls := Value.type "tuple", data := PySem.Data.seq #[] }) ::
    (nat_lit 145,
      { cls := Value.type "code",
        data :=
          PySem.Data.fields
            #[Value.str (Str.ofString "is_name_char") 366, Value.str (Str.ofString "is_name_char") 367, Value.str (Str.ofString "/claim/cut.py") 368,
              Value.int 48 0, Value.int 1 0, Value.int 0 0, Value.int 0 0, Value.int 3 0, Value.ref 140, Value.bool true, Value.int 181 0,
              Value.ref 141, Value.none, Value.ref 142, Value.ref 143, Value.ref 144, Value.int 370 0, Value.int 48 0,
              Value.str (Str.ofString "/claim/cut.py") 371] }) ::
    (nat_lit 146,
      { cls := Value.type "function",
        data :=
          PySem.Data.func
            { name := Str.ofString "is_name_char", qualname := Str.ofString "is_name_char",
              params :=
                lp_is_name_char,
              body :=
                PySem.FuncBody.stmts
                  lb_is_name_char,
              scope :=
                ls_is_name_char,
              globals := 3, closure := [], defaults := Value.none, kwdefaults := Value.none, pyModule := Value.str (Str.ofString "vectorcove.tokens") 305,
              code := Value.ref 145 } }) ::
    (nat_lit 147, { cls := Value.type "tuple", data := PySem.Data.seq #[] }) ::
    (nat_lit 149, { cls := Value.type "tuple", data := PySem.Data.seq #[Value.str (Str.ofString "char") 376] }) ::
    (nat_lit 150, { cls := Value.type "tuple", data := PySem.Data.seq #[] }) ::
    (nat_lit 152,
      { cls := Value.type "code",
        data :=
          PySem.Data.fields
            #[Value.str (Str.ofString "hex_value") 373, Value.str (Str.ofString "hex_value") 374, Value.str (Str.ofString "/claim/cut.py") 375,
              Value.int 50 0, Value.int 1 0, Value.int 0 0, Value.int 0 0, Value.int 3 0, Value.ref 147, Value.bool true, Value.int 181 0,
              Value.ref 148, Value.none, Value.ref 149, Value.ref 150, Value.ref 151, Value.int 377 0, Value.int 50 0,
              Value.str (Str.ofString "/claim/cut.py") 378] }) ::
    (nat_lit 153,
      { cls := Value.type "function",
        data :=
          PySem.Data.func
            { name := Str.ofString "hex_value", qualname := Str.ofString "hex_value",
              params :=
                lp_hex_value,
              body :=
                PySem.FuncBody.stmts
                  lb_hex_value,
              scope := ls_hex_value, globals := 3, closure := [],
              defaults := Value.none, kwdefaults := Value.none, pyModule := Value.str (Str.ofString "vectorcove.tokens") 305, code := Value.ref 152 } }) ::
    (nat_lit 154, { cls := Value.type "tuple", data := PySem.Data.seq #[] }) ::
    (nat_lit 156, { cls := Value.type "tuple", data := PySem.Data.seq #[Value.str (Str.ofString "char") 383, Value.str (Str.ofString "place") 384] }) ::
    (nat_lit 157, { cls := Value.type "tuple", data := PySem.Data.seq #[] }) ::
    (nat_lit 159,
      { cls := Value.type "code",
        data :=
          PySem.Data.fields
            #[Value.str (Str.ofString "simple_escape") 380, Value.str (Str.ofString "simple_escape") 381, Value.str (Str.ofString "/claim/cut.py") 382,
              Value.int 54 0, Value.int 1 0, Value.int 0 0, Value.int 0 0, Value.int 3 0, Value.ref 154, Value.bool true, Value.int 181 0,
              Value.ref 155, Value.none, Value.ref 156, Value.ref 157, Value.ref 158, Value.int 385 0, Value.int 54 0,
              Value.str (Str.ofString "/claim/cut.py") 386] }) ::
    (nat_lit 160,
      { cls := Value.type "function",
        data :=
          PySem.Data.func
            { name := Str.ofString "simple_escape", qualname := Str.ofString "simple_escape",
              params :=
                lp_simple_escape,
              body :=
                PySem.FuncBody.stmts
                  lb_simple_escape,
              scope :=
                ls_simple_escape,
              globals := 3, closure := [], defaults := Value.none, kwdefaults := Value.none, pyModule := Value.str (Str.ofString "vectorcove.tokens") 305,
              code := Value.ref 159 } }) ::
    (nat_lit 161, { cls := Value.type "tuple", data := PySem.Data.seq #[] }) ::
    (nat_lit 163,
      { cls := Value.type "tuple",
        data := PySem.Data.seq #[Value.str (Str.ofString "text") 391, Value.str (Str.ofString "value") 392, Value.str (Str.ofString "digit") 393] }) ::
    (nat_lit 164, { cls := Value.type "tuple", data := PySem.Data.seq #[] }) ::
    (nat_lit 166,
      { cls := Value.type "code",
        data :=
          PySem.Data.fields
            #[Value.str (Str.ofString "digits_value") 388, Value.str (Str.ofString "digits_value") 389, Value.str (Str.ofString "/claim/cut.py") 390,
              Value.int 61 0, Value.int 1 0, Value.int 0 0, Value.int 0 0, Value.int 3 0, Value.ref 161, Value.bool true, Value.int 181 0,
              Value.ref 162, Value.none, Value.ref 163, Value.ref 164, Value.ref 165, Value.int 394 0, Value.int 61 0,
              Value.str (Str.ofString "/claim/cut.py") 395] }) ::
    (nat_lit 167,
      { cls := Value.type "function",
        data :=
          PySem.Data.func
            { name := Str.ofString "digits_value", qualname := Str.ofString "digits_value",
              params :=
                lp_digits_value,
              body :=
                PySem.FuncBody.stmts
                  lb_digits_value,
              scope :=
                ls_digits_value,
              globals := 3, closure := [], defaults := Value.none, kwdefaults := Value.none, pyModule := Value.str (Str.ofString "vectorcove.tokens") 305,
              code := Value.ref 166 } }) ::
    (nat_lit 175, { cls := Value.type "tuple", data := PySem.Data.seq #[Value.int 0 409] }) ::
    (nat_lit 176, { cls := Value.type "tuple", data := PySem.Data.seq #[] }) ::
    (nat_lit 178,
      { cls := Value.type "tuple",
        data := PySem.Data.seq #[Value.str (Str.ofString "self") 413, Value.str (Str.ofString "text") 414, Value.str (Str.ofString "at") 415] }) ::
    (nat_lit 179, { cls := Value.type "tuple", data := PySem.Data.seq #[] }) ::
    (nat_lit 181,
      { cls := Value.type "code",
        data :=
          PySem.Data.fields
            #[Value.str (Str.ofString "__init__") 410, Value.str (Str.ofString "Lexer.__init__") 411, Value.str (Str.ofString "/claim/cut.py") 412,
              Value.int 68 0, Value.int 3 0, Value.int 0 0, Value.int 0 0, Value.int 3 0, Value.ref 176, Value.bool true, Value.int 181 0,
              Value.ref 177, Value.none, Value.ref 178, Value.ref 179, Value.ref 180, Value.int 416 0, Value.int 68 0,
              Value.str (Str.ofString "/claim/cut.py") 417] }) ::
    (nat_lit 182,
      { cls := Value.type "function",
        data :=
          PySem.Data.func
            { name := Str.ofString "__init__", qualname := Str.ofString "Lexer.__init__",
              params :=
                lp_Lexer_init,
              body :=
                PySem.FuncBody.stmts
                  lb_Lexer_init,
              scope :=
                ls_Lexer_init,
              globals := 3, closure := [], defaults := Value.ref 175, kwdefaults := Value.none, pyModule := Value.str (Str.ofString "vectorcove.tokens") 305,
              code := Value.ref 181 } }) ::
    (nat_lit 183, { cls := Value.type "tuple", data := PySem.Data.seq #[] }) ::
    (nat_lit 185, { cls := Value.type "tuple", data := PySem.Data.seq #[Value.str (Str.ofString "self") 422, Value.str (Str.ofString "index") 423] }) ::
    (nat_lit 186, { cls := Value.type "tuple", data := PySem.Data.seq #[] }) ::
    (nat_lit 188,
      { cls := Value.type "code",
        data :=
          PySem.Data.fields
            #[Value.str (Str.ofString "char") 419, Value.str (Str.ofString "Lexer.char") 420, Value.str (Str.ofString "/claim/cut.py") 421, Value.int 74 0,
              Value.int 2 0, Value.int 0 0, Value.int 0 0, Value.int 3 0, Value.ref 183, Value.bool true, Value.int 181 0, Value.ref 184,
              Value.none, Value.ref 185, Value.ref 186, Value.ref 187, Value.int 424 0, Value.int 74 0,
              Value.str (Str.ofString "/claim/cut.py") 425] }) ::
    (nat_lit 189,
      { cls := Value.type "function",
        data :=
          PySem.Data.func
            { name := Str.ofString "char", qualname := Str.ofString "Lexer.char",
              params :=
                lp_Lexer_char,
              body :=
                PySem.FuncBody.stmts
                  lb_Lexer_char,
              scope :=
                ls_Lexer_char,
              globals := 3, closure := [], defaults := Value.none, kwdefaults := Value.none, pyModule := Value.str (Str.ofString "vectorcove.tokens") 305,
              code := Value.ref 188 } }) ::
    (nat_lit 190, { cls := Value.type "tuple", data := PySem.Data.seq #[] }) ::
    (nat_lit 192,
      { cls := Value.type "tuple",
        data :=
          PySem.Data.seq
            #[Value.str (Str.ofString "self") 430, Value.str (Str.ofString "kind") 431, Value.str (Str.ofString "value") 432,
              Value.str (Str.ofString "at") 433, Value.str (Str.ofString "end") 434] }) ::
    (nat_lit 193, { cls := Value.type "tuple", data := PySem.Data.seq #[] }) ::
    (nat_lit 195,
      { cls := Value.type "code",
        data :=
          PySem.Data.fields
            #[Value.str (Str.ofString "token") 427, Value.str (Str.ofString "Lexer.token") 428, Value.str (Str.ofString "/claim/cut.py") 429, Value.int 77 0,
              Value.int 5 0, Value.int 0 0, Value.int 0 0, Value.int 3 0, Value.ref 190, Value.bool true, Value.int 181 0, Value.ref 191,
              Value.none, Value.ref 192, Value.ref 193, Value.ref 194, Value.int 435 0, Value.int 77 0,
              Value.str (Str.ofString "/claim/cut.py") 436] }) ::
    (nat_lit 196,
      { cls := Value.type "function",
        data :=
          PySem.Data.func
            { name := Str.ofString "token", qualname := Str.ofString "Lexer.token",
              params :=
                lp_Lexer_token,
              body :=
                PySem.FuncBody.stmts
                  lb_Lexer_token,
              scope :=
                ls_Lexer_token,
              globals := 3, closure := [], defaults := Value.none, kwdefaults := Value.none, pyModule := Value.str (Str.ofString "vectorcove.tokens") 305,
              code := Value.ref 195 } }) ::
    (nat_lit 197, { cls := Value.type "tuple", data := PySem.Data.seq #[] }) ::
    (nat_lit 199,
      { cls := Value.type "tuple",
        data :=
          PySem.Data.seq
            #[Value.str (Str.ofString "self") 441, Value.str (Str.ofString "at") 442, Value.str (Str.ofString "char") 443,
              Value.str (Str.ofString "value") 444, Value.str (Str.ofString "end") 445] }) ::
    (nat_lit 200, { cls := Value.type "tuple", data := PySem.Data.seq #[] }) ::
    (nat_lit 202,
      { cls := Value.type "code",
        data :=
          PySem.Data.fields
            #[Value.str (Str.ofString "next_token") 438, Value.str (Str.ofString "Lexer.next_token") 439, Value.str (Str.ofString "/claim/cut.py") 440,
              Value.int 81 0, Value.int 1 0, Value.int 0 0, Value.int 0 0, Value.int 3 0, Value.ref 197, Value.bool true, Value.int 181 0,
              Value.ref 198, Value.none, Value.ref 199, Value.ref 200, Value.ref 201, Value.int 446 0, Value.int 81 0,
              Value.str (Str.ofString "/claim/cut.py") 447] }) ::
    (nat_lit 203,
      { cls := Value.type "function",
        data :=
          PySem.Data.func
            { name := Str.ofString "next_token", qualname := Str.ofString "Lexer.next_token",
              params :=
                lp_Lexer_next_token,
              body :=
                PySem.FuncBody.stmts
                  lb_Lexer_next_token,
              scope :=
                ls_Lexer_next_token,
              globals := 3, closure := [], defaults := Value.none, kwdefaults := Value.none, pyModule := Value.str (Str.ofString "vectorcove.tokens") 305,
              code := Value.ref 202 } }) ::
    (nat_lit 204, { cls := Value.type "tuple", data := PySem.Data.seq #[] }) ::
    (nat_lit 206, { cls := Value.type "tuple", data := PySem.Data.seq #[Value.str (Str.ofString "self") 452, Value.str (Str.ofString "char") 453] }) ::
    (nat_lit 207, { cls := Value.type "tuple", data := PySem.Data.seq #[] }) ::
    (nat_lit 209,
      { cls := Value.type "code",
        data :=
          PySem.Data.fields
            #[Value.str (Str.ofString "skip") 449, Value.str (Str.ofString "Lexer.skip") 450, Value.str (Str.ofString "/claim/cut.py") 451, Value.int 105 0,
              Value.int 1 0, Value.int 0 0, Value.int 0 0, Value.int 3 0, Value.ref 204, Value.bool true, Value.int 181 0, Value.ref 205,
              Value.none, Value.ref 206, Value.ref 207, Value.ref 208, Value.int 454 0, Value.int 105 0,
              Value.str (Str.ofString "/claim/cut.py") 455] }) ::
    (nat_lit 210,
      { cls := Value.type "function",
        data :=
          PySem.Data.func
            { name := Str.ofString "skip", qualname := Str.ofString "Lexer.skip",
              params :=
                lp_Lexer_skip,
              body :=
                PySem.FuncBody.stmts
                  lb_Lexer_skip,
              scope :=
                ls_Lexer_skip,
              globals := 3, closure := [], defaults := Value.none, kwdefaults := Value.none, pyModule := Value.str (Str.ofString "vectorcove.tokens") 305,
              code := Value.ref 209 } }) ::
    (nat_lit 211, { cls := Value.type "tuple", data := PySem.Data.seq #[] }) ::
    (nat_lit 213,
      { cls := Value.type "tuple",
        data :=
          PySem.Data.seq
            #[Value.str (Str.ofString "self") 460, Value.str (Str.ofString "at") 461, Value.str (Str.ofString "end") 462,
              Value.str (Str.ofString "text") 463] }) ::
    (nat_lit 214, { cls := Value.type "tuple", data := PySem.Data.seq #[] }) ::
    (nat_lit 216,
      { cls := Value.type "code",
        data :=
          PySem.Data.fields
            #[Value.str (Str.ofString "word") 457, Value.str (Str.ofString "Lexer.word") 458, Value.str (Str.ofString "/claim/cut.py") 459, Value.int 118 0,
              Value.int 2 0, Value.int 0 0, Value.int 0 0, Value.int 3 0, Value.ref 211, Value.bool true, Value.int 181 0, Value.ref 212,
              Value.none, Value.ref 213, Value.ref 214, Value.ref 215, Value.int 464 0, Value.int 118 0,
              Value.str (Str.ofString "/claim/cut.py") 465] }) ::
    (nat_lit 217,
      { cls := Value.type "function",
        data :=
          PySem.Data.func
            { name := Str.ofString "word", qualname := Str.ofString "Lexer.word",
              params :=
                lp_Lexer_word,
              body :=
                PySem.FuncBody.stmts
                  lb_Lexer_word,
              scope :=
                ls_Lexer_word,
              globals := 3, closure := [], defaults := Value.none, kwdefaults := Value.none, pyModule := Value.str (Str.ofString "vectorcove.tokens") 305,
              code := Value.ref 216 } }) ::
    (nat_lit 218, { cls := Value.type "tuple", data := PySem.Data.seq #[] }) ::
    (nat_lit 220,
      { cls := Value.type "tuple",
        data := PySem.Data.seq #[Value.str (Str.ofString "self") 470, Value.str (Str.ofString "at") 471, Value.str (Str.ofString "end") 472] }) ::
    (nat_lit 221, { cls := Value.type "tuple", data := PySem.Data.seq #[] }) ::
    (nat_lit 223,
      { cls := Value.type "code",
        data :=
          PySem.Data.fields
            #[Value.str (Str.ofString "percent") 467, Value.str (Str.ofString "Lexer.percent") 468, Value.str (Str.ofString "/claim/cut.py") 469,
              Value.int 127 0, Value.int 2 0, Value.int 0 0, Value.int 0 0, Value.int 3 0, Value.ref 218, Value.bool true, Value.int 181 0,
              Value.ref 219, Value.none, Value.ref 220, Value.ref 221, Value.ref 222, Value.int 473 0, Value.int 127 0,
              Value.str (Str.ofString "/claim/cut.py") 474] }) ::
    (nat_lit 224,
      { cls := Value.type "function",
        data :=
          PySem.Data.func
            { name := Str.ofString "percent", qualname := Str.ofString "Lexer.percent",
              params :=
                lp_Lexer_percent,
              body :=
                PySem.FuncBody.stmts
                  lb_Lexer_percent,
              scope :=
                ls_Lexer_percent,
              globals := 3, closure := [], defaults := Value.none, kwdefaults := Value.none, pyModule := Value.str (Str.ofString "vectorcove.tokens") 305,
              code := Value.ref 223 } }) ::
    (nat_lit 225, { cls := Value.type "tuple", data := PySem.Data.seq #[] }) ::
    (nat_lit 227,
      { cls := Value.type "tuple",
        data := PySem.Data.seq #[Value.str (Str.ofString "self") 479, Value.str (Str.ofString "at") 480, Value.str (Str.ofString "text") 481] }) ::
    (nat_lit 228, { cls := Value.type "tuple", data := PySem.Data.seq #[] }) ::
    (nat_lit 230,
      { cls := Value.type "code",
        data :=
          PySem.Data.fields
            #[Value.str (Str.ofString "operator") 476, Value.str (Str.ofString "Lexer.operator") 477, Value.str (Str.ofString "/claim/cut.py") 478,
              Value.int 135 0, Value.int 2 0, Value.int 0 0, Value.int 0 0, Value.int 3 0, Value.ref 225, Value.bool true, Value.int 181 0,
              Value.ref 226, Value.none, Value.ref 227, Value.ref 228, Value.ref 229, Value.int 482 0, Value.int 135 0,
              Value.str (Str.ofString "/claim/cut.py") 483] }) ::
    (nat_lit 231,
      { cls := Value.type "function",
        data :=
          PySem.Data.func
            { name := Str.ofString "operator", qualname := Str.ofString "Lexer.operator",
              params :=
                lp_Lexer_operator,
              body :=
                PySem.FuncBody.stmts
                  lb_Lexer_operator,
              scope :=
                ls_Lexer_operator,
              globals := 3, closure := [], defaults := Value.none, kwdefaults := Value.none, pyModule := Value.str (Str.ofString "vectorcove.tokens") 305,
              code := Value.ref 230 } }) ::
    (nat_lit 232, { cls := Value.type "tuple", data := PySem.Data.seq #[] }) ::
    (nat_lit 234, { cls := Value.type "tuple", data := PySem.Data.seq #[Value.str (Str.ofString "self") 488, Value.str (Str.ofString "index") 489] }) ::
    (nat_lit 235, { cls := Value.type "tuple", data := PySem.Data.seq #[] }) ::
    (nat_lit 237,
      { cls := Value.type "code",
        data :=
          PySem.Data.fields
            #[Value.str (Str.ofString "digits_end") 485, Value.str (Str.ofString "Lexer.digits_end") 486, Value.str (Str.ofString "/claim/cut.py") 487,
              Value.int 147 0, Value.int 2 0, Value.int 0 0, Value.int 0 0, Value.int 3 0, Value.ref 232, Value.bool true, Value.int 181 0,
              Value.ref 233, Value.none, Value.ref 234, Value.ref 235, Value.ref 236, Value.int 490 0, Value.int 147 0,
              Value.str (Str.ofString "/claim/cut.py") 491] }) ::
    (nat_lit 238,
      { cls := Value.type "function",
        data :=
          PySem.Data.func
            { name := Str.ofString "digits_end", qualname := Str.ofString "Lexer.digits_end",
              params :=
                lp_Lexer_digits_end,
              body :=
                PySem.FuncBody.stmts
                  lb_Lexer_digits_end,
              scope :=
                ls_Lexer_digits_end,
              globals := 3, closure := [], defaults := Value.none, kwdefaults := Value.none, pyModule := Value.str (Str.ofString "vectorcove.tokens") 305,
              code := Value.ref 237 } }) ::
    (nat_lit 239, { cls := Value.type "tuple", data := PySem.Data.seq #[] }) ::
    (nat_lit 241,
      { cls := Value.type "tuple",
        data :=
          PySem.Data.seq
            #[Value.str (Str.ofString "self") 496, Value.str (Str.ofString "at") 497, Value.str (Str.ofString "end") 498,
              Value.str (Str.ofString "digits") 499, Value.str (Str.ofString "scale") 500, Value.str (Str.ofString "begin") 501,
              Value.str (Str.ofString "power") 502, Value.str (Str.ofString "top") 503] }) ::
    (nat_lit 242, { cls := Value.type "tuple", data := PySem.Data.seq #[] }) ::
    (nat_lit 244,
      { cls := Value.type "code",
        data :=
          PySem.Data.fields
            #[Value.str (Str.ofString "numeral") 493, Value.str (Str.ofString "Lexer.numeral") 494, Value.str (Str.ofString "/claim/cut.py") 495,
              Value.int 152 0, Value.int 2 0, Value.int 0 0, Value.int 0 0, Value.int 3 0, Value.ref 239, Value.bool true, Value.int 181 0,
              Value.ref 240, Value.none, Value.ref 241, Value.ref 242, Value.ref 243, Value.int 504 0, Value.int 152 0,
              Value.str (Str.ofString "/claim/cut.py") 505] }) ::
    (nat_lit 245,
      { cls := Value.type "function",
        data :=
          PySem.Data.func
            { name := Str.ofString "numeral", qualname := Str.ofString "Lexer.numeral",
              params :=
                lp_Lexer_numeral,
              body :=
                PySem.FuncBody.stmts
                  lb_Lexer_numeral,
              scope :=
                ls_Lexer_numeral,
              globals := 3, closure := [], defaults := Value.none, kwdefaults := Value.none, pyModule := Value.str (Str.ofString "vectorcove.tokens") 305,
              code := Value.ref 244 } }) ::
    (nat_lit 246, { cls := Value.type "tuple", data := PySem.Data.seq #[] }) ::
    (nat_lit 248,
      { cls := Value.type "tuple",
        data :=
          PySem.Data.seq
            #[Value.str (Str.ofString "self") 510, Value.str (Str.ofString "at") 511, Value.str (Str.ofString "index") 512,
              Value.str (Str.ofString "minus") 513, Value.str (Str.ofString "end") 514, Value.str (Str.ofString "digits") 515] }) ::
    (nat_lit 249, { cls := Value.type "tuple", data := PySem.Data.seq #[] }) ::
    (nat_lit 251,
      { cls := Value.type "code",
        data :=
          PySem.Data.fields
            #[Value.str (Str.ofString "exponent") 507, Value.str (Str.ofString "Lexer.exponent") 508, Value.str (Str.ofString "/claim/cut.py") 509,
              Value.int 171 0, Value.int 3 0, Value.int 0 0, Value.int 0 0, Value.int 3 0, Value.ref 246, Value.bool true, Value.int 181 0,
              Value.ref 247, Value.none, Value.ref 248, Value.ref 249, Value.ref 250, Value.int 516 0, Value.int 171 0,
              Value.str (Str.ofString "/claim/cut.py") 517] }) ::
    (nat_lit 252,
      { cls := Value.type "function",
        data :=
          PySem.Data.func
            { name := Str.ofString "exponent", qualname := Str.ofString "Lexer.exponent",
              params :=
                lp_Lexer_exponent,
              body :=
                PySem.FuncBody.stmts
                  lb_Lexer_exponent,
              scope :=
                ls_Lexer_exponent,
              globals := 3, closure := [], defaults := Value.none, kwdefaults := Value.none, pyModule := Value.str (Str.ofString "vectorcove.tokens") 305,
              code := Value.ref 251 } }) ::
    (nat_lit 253, { cls := Value.type "tuple", data := PySem.Data.seq #[] }) ::
    (nat_lit 255,
      { cls := Value.type "tuple",
        data :=
          PySem.Data.seq
            #[Value.str (Str.ofString "self") 522, Value.str (Str.ofString "at") 523, Value.str (Str.ofString "value") 524,
              Value.str (Str.ofString "end") 525] }) ::
    (nat_lit 256, { cls := Value.type "tuple", data := PySem.Data.seq #[] }) ::
    (nat_lit 258,
      { cls := Value.type "code",
        data :=
          PySem.Data.fields
            #[Value.str (Str.ofString "hexadecimal") 519, Value.str (Str.ofString "Lexer.hexadecimal") 520, Value.str (Str.ofString "/claim/cut.py") 521,
              Value.int 183 0, Value.int 2 0, Value.int 0 0, Value.int 0 0, Value.int 3 0, Value.ref 253, Value.bool true, Value.int 181 0,
              Value.ref 254, Value.none, Value.ref 255, Value.ref 256, Value.ref 257, Value.int 526 0, Value.int 183 0,
              Value.str (Str.ofString "/claim/cut.py") 527] }) ::
    (nat_lit 259,
      { cls := Value.type "function",
        data :=
          PySem.Data.func
            { name := Str.ofString "hexadecimal", qualname := Str.ofString "Lexer.hexadecimal",
              params :=
                lp_Lexer_hexadecimal,
              body :=
                PySem.FuncBody.stmts
                  lb_Lexer_hexadecimal,
              scope :=
                ls_Lexer_hexadecimal,
              globals := 3, closure := [], defaults := Value.none, kwdefaults := Value.none, pyModule := Value.str (Str.ofString "vectorcove.tokens") 305,
              code := Value.ref 258 } }) ::
    (nat_lit 260, { cls := Value.type "tuple", data := PySem.Data.seq #[] }) ::
    (nat_lit 262,
      { cls := Value.type "tuple",
        data :=
          PySem.Data.seq
            #[Value.str (Str.ofString "self") 532, Value.str (Str.ofString "n") 533, Value.str (Str.ofString "d") 534,
              Value.str (Str.ofString "at") 535, Value.str (Str.ofString "end") 536] }) ::
    (nat_lit 263, { cls := Value.type "tuple", data := PySem.Data.seq #[] }) ::
    (nat_lit 265,
      { cls := Value.type "code",
        data :=
          PySem.Data.fields
            #[Value.str (Str.ofString "number_token") 529, Value.str (Str.ofString "Lexer.number_token") 530, Value.str (Str.ofString "/claim/cut.py") 531,
              Value.int 193 0, Value.int 5 0, Value.int 0 0, Value.int 0 0, Value.int 3 0, Value.ref 260, Value.bool true, Value.int 181 0,
              Value.ref 261, Value.none, Value.ref 262, Value.ref 263, Value.ref 264, Value.int 537 0, Value.int 193 0,
              Value.str (Str.ofString "/claim/cut.py") 538] }) ::
    (nat_lit 266,
      { cls := Value.type "function",
        data :=
          PySem.Data.func
            { name := Str.ofString "number_token", qualname := Str.ofString "Lexer.number_token",
              params :=
                lp_Lexer_number_token,
              body :=
                PySem.FuncBody.stmts
                  lb_Lexer_number_token,
              scope :=
                ls_Lexer_number_token,
              globals := 3, closure := [], defaults := Value.none, kwdefaults := Value.none, pyModule := Value.str (Str.ofString "vectorcove.tokens") 305,
              code := Value.ref 265 } }) ::
    (nat_lit 267, { cls := Value.type "tuple", data := PySem.Data.seq #[] }) ::
    (nat_lit 269,
      { cls := Value.type "tuple",
        data :=
          PySem.Data.seq
            #[Value.str (Str.ofString "self") 543, Value.str (Str.ofString "at") 544, Value.str (Str.ofString "quote") 545,
              Value.str (Str.ofString "chars") 546, Value.str (Str.ofString "index") 547, Value.str (Str.ofString "char") 548] }) ::
    (nat_lit 270, { cls := Value.type "tuple", data := PySem.Data.seq #[] }) ::
    (nat_lit 272,
      { cls := Value.type "code",
        data :=
          PySem.Data.fields
            #[Value.str (Str.ofString "quoted") 540, Value.str (Str.ofString "Lexer.quoted") 541, Value.str (Str.ofString "/claim/cut.py") 542,
              Value.int 202 0, Value.int 2 0, Value.int 0 0, Value.int 0 0, Value.int 3 0, Value.ref 267, Value.bool true, Value.int 181 0,
              Value.ref 268, Value.none, Value.ref 269, Value.ref 270, Value.ref 271, Value.int 549 0, Value.int 202 0,
              Value.str (Str.ofString "/claim/cut.py") 550] }) ::
    (nat_lit 273,
      { cls := Value.type "function",
        data :=
          PySem.Data.func
            { name := Str.ofString "quoted", qualname := Str.ofString "Lexer.quoted",
              params :=
                lp_Lexer_quoted,
              body :=
                PySem.FuncBody.stmts
                  lb_Lexer_quoted,
              scope :=
                ls_Lexer_quoted,
              globals := 3, closure := [], defaults := Value.none, kwdefaults := Value.none, pyModule := Value.str (Str.ofString "vectorcove.tokens") 305,
              code := Value.ref 272 } }) ::
    (nat_lit 274, { cls := Value.type "tuple", data := PySem.Data.seq #[] }) ::
    (nat_lit 276,
      { cls := Value.type "tuple",
        data :=
          PySem.Data.seq
            #[Value.str (Str.ofString "self") 555, Value.str (Str.ofString "at") 556, Value.str (Str.ofString "char") 557,
              Value.str (Str.ofString "simple") 558, Value.str (Str.ofString "most") 559, Value.str (Str.ofString "found") 560,
              Value.str (Str.ofString "end") 561] }) ::
    (nat_lit 277, { cls := Value.type "tuple", data := PySem.Data.seq #[] }) ::
    (nat_lit 279,
      { cls := Value.type "code",
        data :=
          PySem.Data.fields
            #[Value.str (Str.ofString "escape") 552, Value.str (Str.ofString "Lexer.escape") 553, Value.str (Str.ofString "/claim/cut.py") 554,
              Value.int 219 0, Value.int 2 0, Value.int 0 0, Value.int 0 0, Value.int 3 0, Value.ref 274, Value.bool true, Value.int 181 0,
              Value.ref 275, Value.none, Value.ref 276, Value.ref 277, Value.ref 278, Value.int 562 0, Value.int 219 0,
              Value.str (Str.ofString "/claim/cut.py") 563] }) ::
    (nat_lit 280,
      { cls := Value.type "function",
        data :=
          PySem.Data.func
            { name := Str.ofString "escape", qualname := Str.ofString "Lexer.escape",
              params :=
                lp_Lexer_escape,
              body :=
                PySem.FuncBody.stmts
                  lb_Lexer_escape,
              scope :=
                ls_Lexer_escape,
              globals := 3, closure := [], defaults := Value.none, kwdefaults := Value.none, pyModule := Value.str (Str.ofString "vectorcove.tokens") 305,
              code := Value.ref 279 } }) ::
    (nat_lit 281, { cls := Value.type "tuple", data := PySem.Data.seq #[] }) ::
    (nat_lit 283,
      { cls := Value.type "tuple",
        data :=
          PySem.Data.seq
            #[Value.str (Str.ofString "self") 568, Value.str (Str.ofString "at") 569, Value.str (Str.ofString "begin") 570,
              Value.str (Str.ofString "base") 571, Value.str (Str.ofString "most") 572, Value.str (Str.ofString "value") 573,
              Value.str (Str.ofString "index") 574, Value.str (Str.ofString "digit") 575, Value.str (Str.ofString "surrogate") 576] }) ::
    (nat_lit 284, { cls := Value.type "tuple", data := PySem.Data.seq #[] }) ::
    (nat_lit 286,
      { cls := Value.type "code",
        data :=
          PySem.Data.fields
            #[Value.str (Str.ofString "coded") 565, Value.str (Str.ofString "Lexer.coded") 566, Value.str (Str.ofString "/claim/cut.py") 567, Value.int 242 0,
              Value.int 5 0, Value.int 0 0, Value.int 0 0, Value.int 3 0, Value.ref 281, Value.bool true, Value.int 181 0, Value.ref 282,
              Value.none, Value.ref 283, Value.ref 284, Value.ref 285, Value.int 577 0, Value.int 242 0,
              Value.str (Str.ofString "/claim/cut.py") 578] }) ::
    (nat_lit 287,
      { cls := Value.type "function",
        data :=
          PySem.Data.func
            { name := Str.ofString "coded", qualname := Str.ofString "Lexer.coded",
              params :=
                lp_Lexer_coded,
              body :=
                PySem.FuncBody.stmts
                  lb_Lexer_coded,
              scope :=
                ls_Lexer_coded,
              globals := 3, closure := [], defaults := Value.none, kwdefaults := Value.none, pyModule := Value.str (Str.ofString "vectorcove.tokens") 305,
              code := Value.ref 286 } }) ::
    (nat_lit 288, { cls := Value.type "tuple", data := PySem.Data.seq #[] }) ::
    (nat_lit 290,
      { cls := Value.type "tuple",
        data :=
          PySem.Data.seq
            #[Value.str (Str.ofString "self") 583, Value.str (Str.ofString "at") 584, Value.str (Str.ofString "quote") 585,
              Value.str (Str.ofString "index") 586, Value.str (Str.ofString "dashes") 587, Value.str (Str.ofString "opened") 588,
              Value.str (Str.ofString "closing") 589, Value.str (Str.ofString "end") 590] }) ::
    (nat_lit 291, { cls := Value.type "tuple", data := PySem.Data.seq #[] }) ::
    (nat_lit 293,
      { cls := Value.type "code",
        data :=
          PySem.Data.fields
            #[Value.str (Str.ofString "raw_string") 580, Value.str (Str.ofString "Lexer.raw_string") 581, Value.str (Str.ofString "/claim/cut.py") 582,
              Value.int 256 0, Value.int 2 0, Value.int 0 0, Value.int 0 0, Value.int 3 0, Value.ref 288, Value.bool true, Value.int 181 0,
              Value.ref 289, Value.none, Value.ref 290, Value.ref 291, Value.ref 292, Value.int 591 0, Value.int 256 0,
              Value.str (Str.ofString "/claim/cut.py") 592] }) ::
    (nat_lit 294,
      { cls := Value.type "function",
        data :=
          PySem.Data.func
            { name := Str.ofString "raw_string", qualname := Str.ofString "Lexer.raw_string",
              params :=
                lp_Lexer_raw_string,
              body :=
                PySem.FuncBody.stmts
                  lb_Lexer_raw_string,
              scope :=
                ls_Lexer_raw_string,
              globals := 3, closure := [], defaults := Value.none, kwdefaults := Value.none, pyModule := Value.str (Str.ofString "vectorcove.tokens") 305,
              code := Value.ref 293 } }) ::
    (nat_lit 295,
      { cls := Value.type "tuple",
        data :=
          PySem.Data.seq
            #[Value.str (Str.ofString "at") 594, Value.str (Str.ofString "keys") 595, Value.str (Str.ofString "newline") 596,
              Value.str (Str.ofString "text") 597] }) ::
    (nat_lit 296,
      { cls := Value.type "dict",
        data :=
          PySem.Data.dict
            #[{ hash := PyData.keyHash P (Str.ofString "__module__"), key := Value.str (Str.ofString "__module__") 404,
                val := Value.str (Str.ofString "vectorcove.tokens") 305 },
              { hash := PyData.keyHash P (Str.ofString "__firstlineno__"), key := Value.str (Str.ofString "__firstlineno__") 408, val := Value.int 66 407 },
              { hash := PyData.keyHash P (Str.ofString "__init__"), key := Value.str (Str.ofString "__init__") 418, val := Value.ref 182 },
              { hash := PyData.keyHash P (Str.ofString "char"), key := Value.str (Str.ofString "char") 426, val := Value.ref 189 },
              { hash := PyData.keyHash P (Str.ofString "token"), key := Value.str (Str.ofString "token") 437, val := Value.ref 196 },
              { hash := PyData.keyHash P (Str.ofString "next_token"), key := Value.str (Str.ofString "next_token") 448, val := Value.ref 203 },
              { hash := PyData.keyHash P (Str.ofString "skip"), key := Value.str (Str.ofString "skip") 456, val := Value.ref 210 },
              { hash := PyData.keyHash P (Str.ofString "word"), key := Value.str (Str.ofString "word") 466, val := Value.ref 217 },
              { hash := PyData.keyHash P (Str.ofString "percent"), key := Value.str (Str.ofString "percent") 475, val := Value.ref 224 },
              { hash := PyData.keyHash P (Str.ofString "operator"), key := Value.str (Str.ofString "operator") 484, val := Value.ref 231 },
              { hash := PyData.keyHash P (Str.ofString "digits_end"), key := Value.str (Str.ofString "digits_end") 492, val := Value.ref 238 },
              { hash := PyData.keyHash P (Str.ofString "numeral"), key := Value.str (Str.ofString "numeral") 506, val := Value.ref 245 },
              { hash := PyData.keyHash P (Str.ofString "exponent"), key := Value.str (Str.ofString "exponent") 518, val := Value.ref 252 },
              { hash := PyData.keyHash P (Str.ofString "hexadecimal"), key := Value.str (Str.ofString "hexadecimal") 528, val := Value.ref 259 },
              { hash := PyData.keyHash P (Str.ofString "number_token"), key := Value.str (Str.ofString "number_token") 539, val := Value.ref 266 },
              { hash := PyData.keyHash P (Str.ofString "quoted"), key := Value.str (Str.ofString "quoted") 551, val := Value.ref 273 },
              { hash := PyData.keyHash P (Str.ofString "escape"), key := Value.str (Str.ofString "escape") 564, val := Value.ref 280 },
              { hash := PyData.keyHash P (Str.ofString "coded"), key := Value.str (Str.ofString "coded") 579, val := Value.ref 287 },
              { hash := PyData.keyHash P (Str.ofString "raw_string"), key := Value.str (Str.ofString "raw_string") 593, val := Value.ref 294 },
              { hash := PyData.keyHash P (Str.ofString "__static_attributes__"), key := Value.str (Str.ofString "__static_attributes__") 598, val := Value.ref 295 },
              { hash := PyData.keyHash P (Str.ofString "__dict__"), key := Value.str (Str.ofString "__dict__") 600, val := Value.ref 298 },
              { hash := PyData.keyHash P (Str.ofString "__weakref__"), key := Value.str (Str.ofString "__weakref__") 602, val := Value.ref 299 },
              { hash := PyData.keyHash P (Str.ofString "__doc__"), key := Value.str (Str.ofString "__doc__") 603, val := Value.none }]
            4 }) ::
    (nat_lit 297,
      { cls := Value.type "type",
        data :=
          PySem.Data.cls
            { name := Str.ofString "Lexer", bases := [Value.type "object"], mro := [Value.ref 297, Value.type "object"], ns := 296, qualname := Str.ofString "Lexer" },
        slots :=
          #[none, none, some (Value.str (Str.ofString "Lexer") 397), some (Value.str (Str.ofString "Lexer") 405), some (Value.builtin "object.__new__"),
            some (Value.bool true)] }) ::
    (nat_lit 298,
      { cls := Value.type "getset_descriptor",
        data := PySem.Data.fields #[Value.str (Str.ofString "__dict__") 599, Value.ref 297, Value.builtin "function.__dict__", Value.builtin "function.__dict__#set"] }) ::
    (nat_lit 299,
      { cls := Value.type "getset_descriptor",
        data := PySem.Data.fields #[Value.str (Str.ofString "__weakref__") 601, Value.ref 297, Value.builtin "ExceptionGroup.__weakref__", Value.none] }) ::
    (nat_lit 302, { cls := Value.type "tuple", data := PySem.Data.seq #[] }) ::
    (nat_lit 304,
      { cls := Value.type "tuple",
        data :=
          PySem.Data.seq
            #[Value.str (Str.ofString "script") 611, Value.str (Str.ofString "stones") 612, Value.str (Str.ofString "one") 613,
              Value.str (Str.ofString "left") 614] }) ::
    (nat_lit 305, { cls := Value.type "tuple", data := PySem.Data.seq #[] }) ::
    (nat_lit 307,
      { cls := Value.type "code",
        data :=
          PySem.Data.fields
            #[Value.str (Str.ofString "_law_heap") 608, Value.str (Str.ofString "_law_heap") 609, Value.str (Str.ofString "/claim/cut.py") 610,
              Value.int 271 0, Value.int 1 0, Value.int 0 0, Value.int 0 0, Value.int 3 0, Value.ref 302, Value.bool true, Value.int 181 0,
              Value.ref 303, Value.none, Value.ref 304, Value.ref 305, Value.ref 306, Value.int 615 0, Value.int 271 0,
              Value.str (Str.ofString "/claim/cut.py") 616] }) ::
    (nat_lit 308,
      { cls := Value.type "function",
        data :=
          PySem.Data.func
            { name := Str.ofString "_law_heap", qualname := Str.ofString "_law_heap",
              params :=
                lp_law_heap,
              body :=
                PySem.FuncBody.stmts
                  lb_law_heap,
              scope :=
                ls_law_heap,
              globals := 3, closure := [], defaults := Value.none, kwdefaults := Value.none, pyModule := Value.str (Str.ofString "law_ov0064_01") 606,
              code := Value.ref 307 } }) ::
    (nat_lit 309, { cls := Value.type "tuple", data := PySem.Data.seq #[] }) ::
    (nat_lit 311, { cls := Value.type "tuple", data := PySem.Data.seq #[Value.str (Str.ofString "stones") 621, Value.str (Str.ofString "most") 622] }) ::
    (nat_lit 312, { cls := Value.type "tuple", data := PySem.Data.seq #[] }) ::
    (nat_lit 314,
      { cls := Value.type "code",
        data :=
          PySem.Data.fields
            #[Value.str (Str.ofString "_law_stone") 618, Value.str (Str.ofString "_law_stone") 619, Value.str (Str.ofString "/claim/cut.py") 620,
              Value.int 281 0, Value.int 2 0, Value.int 0 0, Value.int 0 0, Value.int 3 0, Value.ref 309, Value.bool true, Value.int 181 0,
              Value.ref 310, Value.none, Value.ref 311, Value.ref 312, Value.ref 313, Value.int 623 0, Value.int 281 0,
              Value.str (Str.ofString "/claim/cut.py") 624] }) ::
    (nat_lit 315,
      { cls := Value.type "function",
        data :=
          PySem.Data.func
            { name := Str.ofString "_law_stone", qualname := Str.ofString "_law_stone",
              params :=
                lp_law_stone,
              body :=
                PySem.FuncBody.stmts
                  lb_law_stone,
              scope :=
                ls_law_stone,
              globals := 3, closure := [], defaults := Value.none, kwdefaults := Value.none, pyModule := Value.str (Str.ofString "law_ov0064_01") 606,
              code := Value.ref 314 } }) ::
    (nat_lit 316, { cls := Value.type "tuple", data := PySem.Data.seq #[] }) ::
    (nat_lit 318,
      { cls := Value.type "tuple",
        data := PySem.Data.seq #[Value.str (Str.ofString "stones") 629, Value.str (Str.ofString "made") 630, Value.str (Str.ofString "step") 631] }) ::
    (nat_lit 319, { cls := Value.type "tuple", data := PySem.Data.seq #[] }) ::
    (nat_lit 321,
      { cls := Value.type "code",
        data :=
          PySem.Data.fields
            #[Value.str (Str.ofString "_law_text") 626, Value.str (Str.ofString "_law_text") 627, Value.str (Str.ofString "/claim/cut.py") 628,
              Value.int 283 0, Value.int 1 0, Value.int 0 0, Value.int 0 0, Value.int 3 0, Value.ref 316, Value.bool true, Value.int 181 0,
              Value.ref 317, Value.none, Value.ref 318, Value.ref 319, Value.ref 320, Value.int 632 0, Value.int 283 0,
              Value.str (Str.ofString "/claim/cut.py") 633] }) ::
    (nat_lit 322,
      { cls := Value.type "function",
        data :=
          PySem.Data.func
            { name := Str.ofString "_law_text", qualname := Str.ofString "_law_text",
              params :=
                lp_law_text,
              body :=
                PySem.FuncBody.stmts
                  lb_law_text,
              scope :=
                ls_law_text,
              globals := 3, closure := [], defaults := Value.none, kwdefaults := Value.none, pyModule := Value.str (Str.ofString "law_ov0064_01") 606,
              code := Value.ref 321 } }) ::
    (nat_lit 323, { cls := Value.type "tuple", data := PySem.Data.seq #[] }) ::
    (nat_lit 325,
      { cls := Value.type "tuple",
        data :=
          PySem.Data.seq
            #[Value.str (Str.ofString "text_x") 638, Value.str (Str.ofString "at") 639, Value.str (Str.ofString "lexer") 640,
              Value.str (Str.ofString "found") 641, Value.str (Str.ofString "fault") 642, Value.str (Str.ofString "step") 643,
              Value.str (Str.ofString "token") 644, Value.str (Str.ofString "error") 645] }) ::
    (nat_lit 326, { cls := Value.type "tuple", data := PySem.Data.seq #[] }) ::
    (nat_lit 328,
      { cls := Value.type "code",
        data :=
          PySem.Data.fields
            #[Value.str (Str.ofString "_law_read") 635, Value.str (Str.ofString "_law_read") 636, Value.str (Str.ofString "/claim/cut.py") 637,
              Value.int 288 0, Value.int 2 0, Value.int 0 0, Value.int 0 0, Value.int 3 0, Value.ref 323, Value.bool true, Value.int 181 0,
              Value.ref 324, Value.none, Value.ref 325, Value.ref 326, Value.ref 327, Value.int 646 0, Value.int 288 0,
              Value.str (Str.ofString "/claim/cut.py") 647] }) ::
    (nat_lit 329,
      { cls := Value.type "function",
        data :=
          PySem.Data.func
            { name := Str.ofString "_law_read", qualname := Str.ofString "_law_read",
              params :=
                lp_law_read,
              body :=
                PySem.FuncBody.stmts
                  lb_law_read,
              scope :=
                ls_law_read,
              globals := 3, closure := [], defaults := Value.none, kwdefaults := Value.none, pyModule := Value.str (Str.ofString "law_ov0064_01") 606,
              code := Value.ref 328 } }) ::
    (nat_lit 330, { cls := Value.type "tuple", data := PySem.Data.seq #[] }) ::
    (nat_lit 332,
      { cls := Value.type "tuple",
        data := PySem.Data.seq #[Value.str (Str.ofString "gap") 652, Value.str (Str.ofString "remark") 653, Value.str (Str.ofString "char") 654] }) ::
    (nat_lit 333, { cls := Value.type "tuple", data := PySem.Data.seq #[] }) ::
    (nat_lit 335,
      { cls := Value.type "code",
        data :=
          PySem.Data.fields
            #[Value.str (Str.ofString "_law_layout") 649, Value.str (Str.ofString "_law_layout") 650, Value.str (Str.ofString "/claim/cut.py") 651,
              Value.int 301 0, Value.int 1 0, Value.int 0 0, Value.int 0 0, Value.int 3 0, Value.ref 330, Value.bool true, Value.int 181 0,
              Value.ref 331, Value.none, Value.ref 332, Value.ref 333, Value.ref 334, Value.int 655 0, Value.int 301 0,
              Value.str (Str.ofString "/claim/cut.py") 656] }) ::
    (nat_lit 336,
      { cls := Value.type "function",
        data :=
          PySem.Data.func
            { name := Str.ofString "_law_layout", qualname := Str.ofString "_law_layout",
              params :=
                lp_law_layout,
              body :=
                PySem.FuncBody.stmts
                  lb_law_layout,
              scope :=
                ls_law_layout,
              globals := 3, closure := [], defaults := Value.none, kwdefaults := Value.none, pyModule := Value.str (Str.ofString "law_ov0064_01") 606,
              code := Value.ref 335 } }) ::
    (nat_lit 337, { cls := Value.type "tuple", data := PySem.Data.seq #[] }) ::
    (nat_lit 339, { cls := Value.type "tuple", data := PySem.Data.seq #[Value.str (Str.ofString "token") 661] }) ::
    (nat_lit 340, { cls := Value.type "tuple", data := PySem.Data.seq #[] }) ::
    (nat_lit 342,
      { cls := Value.type "code",
        data :=
          PySem.Data.fields
            #[Value.str (Str.ofString "_law_value") 658, Value.str (Str.ofString "_law_value") 659, Value.str (Str.ofString "/claim/cut.py") 660,
              Value.int 311 0, Value.int 1 0, Value.int 0 0, Value.int 0 0, Value.int 3 0, Value.ref 337, Value.bool true, Value.int 181 0,
              Value.ref 338, Value.none, Value.ref 339, Value.ref 340, Value.ref 341, Value.int 662 0, Value.int 311 0,
              Value.str (Str.ofString "/claim/cut.py") 663] }) ::
    (nat_lit 343,
      { cls := Value.type "function",
        data :=
          PySem.Data.func
            { name := Str.ofString "_law_value", qualname := Str.ofString "_law_value",
              params :=
                lp_law_value,
              body :=
                PySem.FuncBody.stmts
                  lb_law_value,
              scope :=
                ls_law_value,
              globals := 3, closure := [], defaults := Value.none, kwdefaults := Value.none, pyModule := Value.str (Str.ofString "law_ov0064_01") 606,
              code := Value.ref 342 } }) ::
    (nat_lit 344, { cls := Value.type "tuple", data := PySem.Data.seq #[] }) ::
    (nat_lit 346, { cls := Value.type "tuple", data := PySem.Data.seq #[Value.str (Str.ofString "token") 668] }) ::
    (nat_lit 347, { cls := Value.type "tuple", data := PySem.Data.seq #[] }) ::
    (nat_lit 349,
      { cls := Value.type "code",
        data :=
          PySem.Data.fields
            #[Value.str (Str.ofString "_law_shown") 665, Value.str (Str.ofString "_law_shown") 666, Value.str (Str.ofString "/claim/cut.py") 667,
              Value.int 315 0, Value.int 1 0, Value.int 0 0, Value.int 0 0, Value.int 3 0, Value.ref 344, Value.bool true, Value.int 181 0,
              Value.ref 345, Value.none, Value.ref 346, Value.ref 347, Value.ref 348, Value.int 669 0, Value.int 315 0,
              Value.str (Str.ofString "/claim/cut.py") 670] }) ::
    (nat_lit 350,
      { cls := Value.type "function",
        data :=
          PySem.Data.func
            { name := Str.ofString "_law_shown", qualname := Str.ofString "_law_shown",
              params :=
                lp_law_shown,
              body :=
                PySem.FuncBody.stmts
                  lb_law_shown,
              scope :=
                ls_law_shown,
              globals := 3, closure := [], defaults := Value.none, kwdefaults := Value.none, pyModule := Value.str (Str.ofString "law_ov0064_01") 606,
              code := Value.ref 349 } }) ::
    (nat_lit 351, { cls := Value.type "tuple", data := PySem.Data.seq #[] }) ::
    (nat_lit 354,
      { cls := Value.type "code",
        data :=
          PySem.Data.fields
            #[Value.str (Str.ofString "law") 672, Value.str (Str.ofString "law") 673, Value.str (Str.ofString "/claim/cut.py") 674, Value.int 317 0,
              Value.int 1 0, Value.int 0 0, Value.int 0 0, Value.int 3 0, Value.ref 351, Value.bool true, Value.int 181 0, Value.ref 352,
              Value.none, Value.none, Value.none, Value.ref 353, Value.int 675 0, Value.int 317 0, Value.str (Str.ofString "/claim/cut.py") 676] }) ::
    (nat_lit 355,
      { cls := Value.type "function",
        data :=
          PySem.Data.func
            { name := Str.ofString "law", qualname := Str.ofString "law",
              params :=
                lp_law,
              body :=
                PySem.FuncBody.stmts
                  lb_law,
              scope :=
                ls_law,
              globals := 3, closure := [], defaults := Value.none, kwdefaults := Value.none, pyModule := Value.str (Str.ofString "law_ov0064_01") 606,
              code := Value.ref 354 } }) ::
    []
noncomputable def hd.view_39 : Program := { PySem.Challenge.rw_ov0064_01.row.toRowW.1 with main := { PySem.Challenge.rw_ov0064_01.row.toRowW.1.main with body := [top0, top2, top3, top5, top6, top9, top10, top11, top12, top13, top14, top15, top16, top17, top18, top19, top21, top22, top23, top24, top25, top26, top27, top28] } }
noncomputable def hdAs : List Nat := [2, 3, 15, 17, 18, 20, 21, 22, 29, 30, 31, 32, 35, 42, 44, 45, 47, 48, 49, 50, 51, 61, 62, 64, 65, 67, 68, 69, 71, 72, 74, 75, 76, 77, 78, 79, 80, 83, 85, 86, 88, 89, 90, 91, 93, 94, 96, 97, 105, 107, 108, 110, 111, 112, 113, 114, 115, 116, 119, 121, 122, 124, 125, 126, 128, 129, 131, 132, 133, 135, 136, 138, 139, 140, 142, 143, 145, 146, 147, 149, 150, 152, 153, 154, 156, 157, 159, 160, 161, 163, 164, 166, 167, 175, 176, 178, 179, 181, 182, 183, 185, 186, 188, 189, 190, 192, 193, 195, 196, 197, 199, 200, 202, 203, 204, 206, 207, 209, 210, 211, 213, 214, 216, 217, 218, 220, 221, 223, 224, 225, 227, 228, 230, 231, 232, 234, 235, 237, 238, 239, 241, 242, 244, 245, 246, 248, 249, 251, 252, 253, 255, 256, 258, 259, 260, 262, 263, 265, 266, 267, 269, 270, 272, 273, 274, 276, 277, 279, 280, 281, 283, 284, 286, 287, 288, 290, 291, 293, 294, 295, 296, 297, 298, 299, 302, 304, 305, 307, 308, 309, 311, 312, 314, 315, 316, 318, 319, 321, 322, 323, 325, 326, 328, 329, 330, 332, 333, 335, 336, 337, 339, 340, 342, 343, 344, 346, 347, 349, 350, 351, 354, 355]
theorem hdAs_eq : ∀ P, hdAs = (hd.heap_39 P).map (·.1) := fun _ => by kernel_rfl
noncomputable abbrev hdH : Hook := kHook hd.heap_39 hdAs hdAs_eq
@[reducible] noncomputable def defD {x : Option (DefRec × List (Str × PySem.Expr))} {d : DefRec} {k : List (Str × PySem.Expr)} (_ : x = some (d, k)) : DefRec := d
@[reducible] noncomputable def defK {x : Option (DefRec × List (Str × PySem.Expr))} {d : DefRec} {k : List (Str × PySem.Expr)} (_ : x = some (d, k)) : List (Str × PySem.Expr) := k
noncomputable abbrev lawD : DefRec := defD (x := defOf hd.view_39 (Str.ofString "law")) rfl
noncomputable abbrev lawK : List (Str × PySem.Expr) := defK (x := defOf hd.view_39 (Str.ofString "law")) rfl
noncomputable def pickO (l : List (Nat × Obj)) (n : Nat) : Obj := List.rec (motive := fun _ => Obj) default (fun p _ ih => Bool.rec (motive := fun _ => Obj) ih p.2 (Nat.beq n p.1)) l
noncomputable def rest0 : Params → List (Nat × Obj) := fun P => 
  (nat_lit 11, { cls := Value.type "tuple", data := PySem.Data.seq #[] }) ::
  (nat_lit 12, { cls := Value.none, data := PySem.Data.fields #[Value.int (.ofNat (nat_lit 1)) (nat_lit 0), Value.int (.ofNat (nat_lit 0)) (nat_lit 0), Value.ref (nat_lit 20), Value.int (.ofNat (nat_lit 5)) (nat_lit 0), Value.int (.ofNat (nat_lit 0)) (nat_lit 0), Value.ref (nat_lit 27), Value.int (.ofNat (nat_lit 7)) (nat_lit 0), Value.int (.ofNat (nat_lit 0)) (nat_lit 0), Value.ref (nat_lit 40), Value.int (.ofNat (nat_lit 13)) (nat_lit 0), Value.int (.ofNat (nat_lit 0)) (nat_lit 0), Value.ref (nat_lit 59), Value.int (.ofNat (nat_lit 24)) (nat_lit 0), Value.int (.ofNat (nat_lit 0)) (nat_lit 0), Value.ref (nat_lit 88), Value.int (.ofNat (nat_lit 26)) (nat_lit 0), Value.int (.ofNat (nat_lit 0)) (nat_lit 0), Value.ref (nat_lit 96), Value.int (.ofNat (nat_lit 35)) (nat_lit 0), Value.int (.ofNat (nat_lit 0)) (nat_lit 0), Value.ref (nat_lit 103), Value.int (.ofNat (nat_lit 42)) (nat_lit 0), Value.int (.ofNat (nat_lit 0)) (nat_lit 0), Value.ref (nat_lit 124), Value.int (.ofNat (nat_lit 44)) (nat_lit 0), Value.int (.ofNat (nat_lit 0)) (nat_lit 0), Value.ref (nat_lit 131), Value.int (.ofNat (nat_lit 46)) (nat_lit 0), Value.int (.ofNat (nat_lit 0)) (nat_lit 0), Value.ref (nat_lit 138), Value.int (.ofNat (nat_lit 48)) (nat_lit 0), Value.int (.ofNat (nat_lit 0)) (nat_lit 0), Value.ref (nat_lit 145), Value.int (.ofNat (nat_lit 50)) (nat_lit 0), Value.int (.ofNat (nat_lit 0)) (nat_lit 0), Value.ref (nat_lit 152), Value.int (.ofNat (nat_lit 54)) (nat_lit 0), Value.int (.ofNat (nat_lit 0)) (nat_lit 0), Value.ref (nat_lit 159), Value.int (.ofNat (nat_lit 61)) (nat_lit 0), Value.int (.ofNat (nat_lit 0)) (nat_lit 0), Value.ref (nat_lit 166), Value.int (.ofNat (nat_lit 66)) (nat_lit 0), Value.int (.ofNat (nat_lit 0)) (nat_lit 0), Value.ref (nat_lit 173), Value.int (.ofNat (nat_lit 271)) (nat_lit 0), Value.int (.ofNat (nat_lit 0)) (nat_lit 0), Value.ref (nat_lit 307), Value.int (.ofNat (nat_lit 281)) (nat_lit 0), Value.int (.ofNat (nat_lit 0)) (nat_lit 0), Value.ref (nat_lit 314), Value.int (.ofNat (nat_lit 283)) (nat_lit 0), Value.int (.ofNat (nat_lit 0)) (nat_lit 0), Value.ref (nat_lit 321), Value.int (.ofNat (nat_lit 288)) (nat_lit 0), Value.int (.ofNat (nat_lit 0)) (nat_lit 0), Value.ref (nat_lit 328), Value.int (.ofNat (nat_lit 301)) (nat_lit 0), Value.int (.ofNat (nat_lit 0)) (nat_lit 0), Value.ref (nat_lit 335), Value.int (.ofNat (nat_lit 311)) (nat_lit 0), Value.int (.ofNat (nat_lit 0)) (nat_lit 0), Value.ref (nat_lit 342), Value.int (.ofNat (nat_lit 315)) (nat_lit 0), Value.int (.ofNat (nat_lit 0)) (nat_lit 0), Value.ref (nat_lit 349), Value.int (.ofNat (nat_lit 317)) (nat_lit 0), Value.int (.ofNat (nat_lit 0)) (nat_lit 0), Value.ref (nat_lit 354)] }) ::
  (nat_lit 13, { cls := Value.type "code", data := PySem.Data.fields #[Value.str (Str.ofString "<module>") (nat_lit 182), Value.str (Str.ofString "<module>") (nat_lit 183), Value.str (Str.ofString "/claim/cut.py") (nat_lit 184), Value.int (.ofNat (nat_lit 1)) (nat_lit 0), Value.int (.ofNat (nat_lit 0)) (nat_lit 0), Value.int (.ofNat (nat_lit 0)) (nat_lit 0), Value.int (.ofNat (nat_lit 0)) (nat_lit 0), Value.int (.ofNat (nat_lit 0)) (nat_lit 0), Value.ref (nat_lit 11), Value.bool Bool.false, Value.int (.ofNat (nat_lit 181)) (nat_lit 0), Value.ref (nat_lit 12), Value.none, Value.none, Value.none, Value.none, Value.int (.ofNat (nat_lit 185)) (nat_lit 0), Value.int (.ofNat (nat_lit 1)) (nat_lit 0), Value.str (Str.ofString "/claim/cut.py") (nat_lit 186)] }) ::
  (nat_lit 14, { cls := Value.type "frame", slots := #[some (Value.ref (nat_lit 13)), some (Value.ref (nat_lit 3)), some (Value.ref (nat_lit 3)), none, some (Value.str (Str.ofString "__main__") (nat_lit 164)), none, some (Value.ref (nat_lit 0))] }) ::
  (nat_lit 16, { cls := Value.none, data := PySem.Data.fields #[] }) ::
  (nat_lit 19, { cls := Value.none, data := PySem.Data.func { name := Str.ofString "_wall", qualname := Str.ofString "_wall", params := lp_wall, body := PySem.FuncBody.stmts lb_wall, scope := ls_wall, globals := 0, closure := [], defaults := Value.none, kwdefaults := Value.none } }) ::
  (nat_lit 23, { cls := Value.type "builtin_function_or_method", data := PySem.Data.fields #[Value.builtin "type.__prepare__", Value.type "type"] }) ::
  (nat_lit 24, { cls := Value.type "dict", data := PySem.Data.dict #[{ hash := PyData.keyHash P (Str.ofString "__module__"), key := Value.str (Str.ofString "__module__") (nat_lit 203), val := Value.str (Str.ofString "vectorcove.errors") (nat_lit 194) }, { hash := PyData.keyHash P (Str.ofString "__qualname__"), key := Value.str (Str.ofString "__qualname__") (nat_lit 205), val := Value.str (Str.ofString "CoveError") (nat_lit 204) }, { hash := PyData.keyHash P (Str.ofString "__firstlineno__"), key := Value.str (Str.ofString "__firstlineno__") (nat_lit 207), val := Value.int (.ofNat (nat_lit 5)) (nat_lit 206) }, { hash := PyData.keyHash P (Str.ofString "__static_attributes__"), key := Value.str (Str.ofString "__static_attributes__") (nat_lit 208), val := Value.ref (nat_lit 29) }] 4 }) ::
  (nat_lit 25, { cls := Value.type "tuple", data := PySem.Data.seq #[] }) ::
  (nat_lit 26, { cls := Value.none, data := PySem.Data.fields #[] }) ::
  (nat_lit 27, { cls := Value.type "code", data := PySem.Data.fields #[Value.str (Str.ofString "CoveError") (nat_lit 198), Value.str (Str.ofString "CoveError") (nat_lit 199), Value.str (Str.ofString "/claim/cut.py") (nat_lit 200), Value.int (.ofNat (nat_lit 5)) (nat_lit 0), Value.int (.ofNat (nat_lit 0)) (nat_lit 0), Value.int (.ofNat (nat_lit 0)) (nat_lit 0), Value.int (.ofNat (nat_lit 0)) (nat_lit 0), Value.int (.ofNat (nat_lit 0)) (nat_lit 0), Value.ref (nat_lit 25), Value.bool Bool.false, Value.int (.ofNat (nat_lit 181)) (nat_lit 0), Value.ref (nat_lit 26), Value.none, Value.none, Value.none, Value.none, Value.int (.ofNat (nat_lit 201)) (nat_lit 0), Value.int (.ofNat (nat_lit 5)) (nat_lit 0), Value.str (Str.ofString "/claim/cut.py") (nat_lit 202)] }) ::
  (nat_lit 28, { cls := Value.type "frame", slots := #[some (Value.ref (nat_lit 27)), some (Value.ref (nat_lit 3)), some (Value.ref (nat_lit 24)), none, some (Value.str (Str.ofString "vectorcove.errors") (nat_lit 194)), none, some (Value.ref (nat_lit 0))] }) ::
  (nat_lit 33, { cls := Value.type "super", data := PySem.Data.fields #[Value.ref (nat_lit 31), Value.ref (nat_lit 31), Value.ref (nat_lit 31)] }) ::
  (nat_lit 34, { cls := Value.type "builtin_function_or_method", data := PySem.Data.fields #[Value.builtin "object.__init_subclass__", Value.ref (nat_lit 31)] }) ::
  (nat_lit 36, { cls := Value.type "builtin_function_or_method", data := PySem.Data.fields #[Value.builtin "type.__prepare__", Value.type "type"] }) ::
  (nat_lit 37, { cls := Value.type "dict", data := PySem.Data.dict #[{ hash := PyData.keyHash P (Str.ofString "__module__"), key := Value.str (Str.ofString "__module__") (nat_lit 223), val := Value.str (Str.ofString "vectorcove.errors") (nat_lit 194) }, { hash := PyData.keyHash P (Str.ofString "__qualname__"), key := Value.str (Str.ofString "__qualname__") (nat_lit 225), val := Value.str (Str.ofString "ReadError") (nat_lit 224) }, { hash := PyData.keyHash P (Str.ofString "__firstlineno__"), key := Value.str (Str.ofString "__firstlineno__") (nat_lit 227), val := Value.int (.ofNat (nat_lit 7)) (nat_lit 226) }, { hash := PyData.keyHash P (Str.ofString "__init__"), key := Value.str (Str.ofString "__init__") (nat_lit 236), val := Value.ref (nat_lit 48) }, { hash := PyData.keyHash P (Str.ofString "__static_attributes__"), key := Value.str (Str.ofString "__static_attributes__") (nat_lit 239), val := Value.ref (nat_lit 49) }] 5 }) ::
  (nat_lit 38, { cls := Value.type "tuple", data := PySem.Data.seq #[] }) ::
  (nat_lit 39, { cls := Value.none, data := PySem.Data.fields #[Value.int (.ofNat (nat_lit 9)) (nat_lit 0), Value.int (.ofNat (nat_lit 4)) (nat_lit 0), Value.ref (nat_lit 47)] }) ::
  (nat_lit 40, { cls := Value.type "code", data := PySem.Data.fields #[Value.str (Str.ofString "ReadError") (nat_lit 218), Value.str (Str.ofString "ReadError") (nat_lit 219), Value.str (Str.ofString "/claim/cut.py") (nat_lit 220), Value.int (.ofNat (nat_lit 7)) (nat_lit 0), Value.int (.ofNat (nat_lit 0)) (nat_lit 0), Value.int (.ofNat (nat_lit 0)) (nat_lit 0), Value.int (.ofNat (nat_lit 0)) (nat_lit 0), Value.int (.ofNat (nat_lit 0)) (nat_lit 0), Value.ref (nat_lit 38), Value.bool Bool.false, Value.int (.ofNat (nat_lit 181)) (nat_lit 0), Value.ref (nat_lit 39), Value.none, Value.none, Value.none, Value.none, Value.int (.ofNat (nat_lit 221)) (nat_lit 0), Value.int (.ofNat (nat_lit 7)) (nat_lit 0), Value.str (Str.ofString "/claim/cut.py") (nat_lit 222)] }) ::
  (nat_lit 41, { cls := Value.type "frame", slots := #[some (Value.ref (nat_lit 40)), some (Value.ref (nat_lit 3)), some (Value.ref (nat_lit 37)), none, some (Value.str (Str.ofString "vectorcove.errors") (nat_lit 194)), none, some (Value.ref (nat_lit 0))] }) ::
  (nat_lit 43, { cls := Value.none, data := PySem.Data.fields #[] }) ::
  (nat_lit 46, { cls := Value.none, data := PySem.Data.func { name := Str.ofString "__init__", qualname := Str.ofString "ReadError.__init__", params := lp_ReadError_init, body := PySem.FuncBody.stmts lb_ReadError_init, scope := ls_ReadError_init, globals := 0, closure := [], defaults := Value.none, kwdefaults := Value.none } }) ::
  (nat_lit 52, { cls := Value.type "super", data := PySem.Data.fields #[Value.ref (nat_lit 51), Value.ref (nat_lit 51), Value.ref (nat_lit 51)] }) ::
  (nat_lit 53, { cls := Value.type "builtin_function_or_method", data := PySem.Data.fields #[Value.builtin "object.__init_subclass__", Value.ref (nat_lit 51)] }) ::
  (nat_lit 54, { cls := Value.type "tuple", data := PySem.Data.seq #[] }) ::
  (nat_lit 55, { cls := Value.type "builtin_function_or_method", data := PySem.Data.fields #[Value.builtin "type.__prepare__", Value.type "type"] }) ::
  (nat_lit 56, { cls := Value.type "dict", data := PySem.Data.dict #[{ hash := PyData.keyHash P (Str.ofString "__module__"), key := Value.str (Str.ofString "__module__") (nat_lit 252), val := Value.str (Str.ofString "vectorcove.values") (nat_lit 243) }, { hash := PyData.keyHash P (Str.ofString "__qualname__"), key := Value.str (Str.ofString "__qualname__") (nat_lit 254), val := Value.str (Str.ofString "Vector") (nat_lit 253) }, { hash := PyData.keyHash P (Str.ofString "__firstlineno__"), key := Value.str (Str.ofString "__firstlineno__") (nat_lit 256), val := Value.int (.ofNat (nat_lit 13)) (nat_lit 255) }, { hash := PyData.keyHash P (Str.ofString "__init__"), key := Value.str (Str.ofString "__init__") (nat_lit 266), val := Value.ref (nat_lit 68) }, { hash := PyData.keyHash P (Str.ofString "copy"), key := Value.str (Str.ofString "copy") (nat_lit 273), val := Value.ref (nat_lit 75) }, { hash := PyData.keyHash P (Str.ofString "__static_attributes__"), key := Value.str (Str.ofString "__static_attributes__") (nat_lit 279), val := Value.ref (nat_lit 76) }] 6 }) ::
  (nat_lit 57, { cls := Value.type "tuple", data := PySem.Data.seq #[] }) ::
  (nat_lit 58, { cls := Value.none, data := PySem.Data.fields #[Value.int (.ofNat (nat_lit 15)) (nat_lit 0), Value.int (.ofNat (nat_lit 4)) (nat_lit 0), Value.ref (nat_lit 67), Value.int (.ofNat (nat_lit 22)) (nat_lit 0), Value.int (.ofNat (nat_lit 4)) (nat_lit 0), Value.ref (nat_lit 74)] }) ::
  (nat_lit 59, { cls := Value.type "code", data := PySem.Data.fields #[Value.str (Str.ofString "Vector") (nat_lit 247), Value.str (Str.ofString "Vector") (nat_lit 248), Value.str (Str.ofString "/claim/cut.py") (nat_lit 249), Value.int (.ofNat (nat_lit 13)) (nat_lit 0), Value.int (.ofNat (nat_lit 0)) (nat_lit 0), Value.int (.ofNat (nat_lit 0)) (nat_lit 0), Value.int (.ofNat (nat_lit 0)) (nat_lit 0), Value.int (.ofNat (nat_lit 0)) (nat_lit 0), Value.ref (nat_lit 57), Value.bool Bool.false, Value.int (.ofNat (nat_lit 181)) (nat_lit 0), Value.ref (nat_lit 58), Value.none, Value.none, Value.none, Value.none, Value.int (.ofNat (nat_lit 250)) (nat_lit 0), Value.int (.ofNat (nat_lit 13)) (nat_lit 0), Value.str (Str.ofString "/claim/cut.py") (nat_lit 251)] }) ::
  (nat_lit 60, { cls := Value.type "frame", slots := #[some (Value.ref (nat_lit 59)), some (Value.ref (nat_lit 3)), some (Value.ref (nat_lit 56)), none, some (Value.str (Str.ofString "vectorcove.values") (nat_lit 243)), none, some (Value.ref (nat_lit 0))] }) ::
  (nat_lit 63, { cls := Value.none, data := PySem.Data.fields #[] }) ::
  (nat_lit 66, { cls := Value.none, data := PySem.Data.func { name := Str.ofString "__init__", qualname := Str.ofString "Vector.__init__", params := lp_Vector_init, body := PySem.FuncBody.stmts lb_Vector_init, scope := ls_Vector_init, globals := 0, closure := [], defaults := Value.none, kwdefaults := Value.none } }) ::
  (nat_lit 70, { cls := Value.none, data := PySem.Data.fields #[] }) ::
  (nat_lit 73, { cls := Value.none, data := PySem.Data.func { name := Str.ofString "copy", qualname := Str.ofString "Vector.copy", params := lp_Vector_copy, body := PySem.FuncBody.stmts lb_Vector_copy, scope := ls_Vector_copy, globals := 0, closure := [], defaults := Value.none, kwdefaults := Value.none } }) ::
  (nat_lit 81, { cls := Value.type "super", data := PySem.Data.fields #[Value.ref (nat_lit 78), Value.ref (nat_lit 78), Value.ref (nat_lit 78)] }) ::
  (nat_lit 82, { cls := Value.type "builtin_function_or_method", data := PySem.Data.fields #[Value.builtin "object.__init_subclass__", Value.ref (nat_lit 78)] }) ::
  (nat_lit 84, { cls := Value.none, data := PySem.Data.fields #[] }) ::
  (nat_lit 87, { cls := Value.none, data := PySem.Data.func { name := Str.ofString "whole", qualname := Str.ofString "whole", params := lp_whole, body := PySem.FuncBody.stmts lb_whole, scope := ls_whole, globals := 0, closure := [], defaults := Value.none, kwdefaults := Value.none } }) ::
  (nat_lit 92, { cls := Value.none, data := PySem.Data.fields #[] }) ::
  (nat_lit 95, { cls := Value.none, data := PySem.Data.func { name := Str.ofString "number", qualname := Str.ofString "number", params := lp_number, body := PySem.FuncBody.stmts lb_number, scope := ls_number, globals := 0, closure := [], defaults := Value.none, kwdefaults := Value.none } }) ::
  (nat_lit 98, { cls := Value.type "tuple", data := PySem.Data.seq #[] }) ::
  (nat_lit 99, { cls := Value.type "builtin_function_or_method", data := PySem.Data.fields #[Value.builtin "type.__prepare__", Value.type "type"] }) ::
  (nat_lit 100, { cls := Value.type "dict", data := PySem.Data.dict #[{ hash := PyData.keyHash P (Str.ofString "__module__"), key := Value.str (Str.ofString "__module__") (nat_lit 318), val := Value.str (Str.ofString "vectorcove.tokens") (nat_lit 305) }, { hash := PyData.keyHash P (Str.ofString "__qualname__"), key := Value.str (Str.ofString "__qualname__") (nat_lit 320), val := Value.str (Str.ofString "Token") (nat_lit 319) }, { hash := PyData.keyHash P (Str.ofString "__firstlineno__"), key := Value.str (Str.ofString "__firstlineno__") (nat_lit 322), val := Value.int (.ofNat (nat_lit 35)) (nat_lit 321) }, { hash := PyData.keyHash P (Str.ofString "__init__"), key := Value.str (Str.ofString "__init__") (nat_lit 333), val := Value.ref (nat_lit 111) }, { hash := PyData.keyHash P (Str.ofString "__static_attributes__"), key := Value.str (Str.ofString "__static_attributes__") (nat_lit 338), val := Value.ref (nat_lit 112) }] 5 }) ::
  (nat_lit 101, { cls := Value.type "tuple", data := PySem.Data.seq #[] }) ::
  (nat_lit 102, { cls := Value.none, data := PySem.Data.fields #[Value.int (.ofNat (nat_lit 37)) (nat_lit 0), Value.int (.ofNat (nat_lit 4)) (nat_lit 0), Value.ref (nat_lit 110)] }) ::
  (nat_lit 103, { cls := Value.type "code", data := PySem.Data.fields #[Value.str (Str.ofString "Token") (nat_lit 313), Value.str (Str.ofString "Token") (nat_lit 314), Value.str (Str.ofString "/claim/cut.py") (nat_lit 315), Value.int (.ofNat (nat_lit 35)) (nat_lit 0), Value.int (.ofNat (nat_lit 0)) (nat_lit 0), Value.int (.ofNat (nat_lit 0)) (nat_lit 0), Value.int (.ofNat (nat_lit 0)) (nat_lit 0), Value.int (.ofNat (nat_lit 0)) (nat_lit 0), Value.ref (nat_lit 101), Value.bool Bool.false, Value.int (.ofNat (nat_lit 181)) (nat_lit 0), Value.ref (nat_lit 102), Value.none, Value.none, Value.none, Value.none, Value.int (.ofNat (nat_lit 316)) (nat_lit 0), Value.int (.ofNat (nat_lit 35)) (nat_lit 0), Value.str (Str.ofString "/claim/cut.py") (nat_lit 317)] }) ::
  (nat_lit 104, { cls := Value.type "frame", slots := #[some (Value.ref (nat_lit 103)), some (Value.ref (nat_lit 3)), some (Value.ref (nat_lit 100)), none, some (Value.str (Str.ofString "vectorcove.tokens") (nat_lit 305)), none, some (Value.ref (nat_lit 0))] }) ::
  (nat_lit 106, { cls := Value.none, data := PySem.Data.fields #[] }) ::
  (nat_lit 109, { cls := Value.none, data := PySem.Data.func { name := Str.ofString "__init__", qualname := Str.ofString "Token.__init__", params := lp_Token_init, body := PySem.FuncBody.stmts lb_Token_init, scope := ls_Token_init, globals := 0, closure := [], defaults := Value.none, kwdefaults := Value.none } }) ::
  (nat_lit 117, { cls := Value.type "super", data := PySem.Data.fields #[Value.ref (nat_lit 114), Value.ref (nat_lit 114), Value.ref (nat_lit 114)] }) ::
  (nat_lit 118, { cls := Value.type "builtin_function_or_method", data := PySem.Data.fields #[Value.builtin "object.__init_subclass__", Value.ref (nat_lit 114)] }) ::
  (nat_lit 120, { cls := Value.none, data := PySem.Data.fields #[] }) ::
  (nat_lit 123, { cls := Value.none, data := PySem.Data.func { name := Str.ofString "keywords", qualname := Str.ofString "keywords", params := lp_keywords, body := PySem.FuncBody.stmts lb_keywords, scope := ls_keywords, globals := 0, closure := [], defaults := Value.none, kwdefaults := Value.none } }) ::
  (nat_lit 127, { cls := Value.none, data := PySem.Data.fields #[] }) ::
  (nat_lit 130, { cls := Value.none, data := PySem.Data.func { name := Str.ofString "is_letter", qualname := Str.ofString "is_letter", params := lp_is_letter, body := PySem.FuncBody.stmts lb_is_letter, scope := ls_is_letter, globals := 0, closure := [], defaults := Value.none, kwdefaults := Value.none } }) ::
  (nat_lit 134, { cls := Value.none, data := PySem.Data.fields #[] }) ::
  (nat_lit 137, { cls := Value.none, data := PySem.Data.func { name := Str.ofString "is_digit", qualname := Str.ofString "is_digit", params := lp_is_digit, body := PySem.FuncBody.stmts lb_is_digit, scope := ls_is_digit, globals := 0, closure := [], defaults := Value.none, kwdefaults := Value.none } }) ::
  (nat_lit 141, { cls := Value.none, data := PySem.Data.fields #[] }) ::
  (nat_lit 144, { cls := Value.none, data := PySem.Data.func { name := Str.ofString "is_name_char", qualname := Str.ofString "is_name_char", params := lp_is_name_char, body := PySem.FuncBody.stmts lb_is_name_char, scope := ls_is_name_char, globals := 0, closure := [], defaults := Value.none, kwdefaults := Value.none } }) ::
  (nat_lit 148, { cls := Value.none, data := PySem.Data.fields #[] }) ::
  (nat_lit 151, { cls := Value.none, data := PySem.Data.func { name := Str.ofString "hex_value", qualname := Str.ofString "hex_value", params := lp_hex_value, body := PySem.FuncBody.stmts lb_hex_value, scope := ls_hex_value, globals := 0, closure := [], defaults := Value.none, kwdefaults := Value.none } }) ::
  (nat_lit 155, { cls := Value.none, data := PySem.Data.fields #[] }) ::
  (nat_lit 158, { cls := Value.none, data := PySem.Data.func { name := Str.ofString "simple_escape", qualname := Str.ofString "simple_escape", params := lp_simple_escape, body := PySem.FuncBody.stmts lb_simple_escape, scope := ls_simple_escape, globals := 0, closure := [], defaults := Value.none, kwdefaults := Value.none } }) ::
  (nat_lit 162, { cls := Value.none, data := PySem.Data.fields #[] }) ::
  (nat_lit 165, { cls := Value.none, data := PySem.Data.func { name := Str.ofString "digits_value", qualname := Str.ofString "digits_value", params := lp_digits_value, body := PySem.FuncBody.stmts lb_digits_value, scope := ls_digits_value, globals := 0, closure := [], defaults := Value.none, kwdefaults := Value.none } }) ::
  (nat_lit 168, { cls := Value.type "tuple", data := PySem.Data.seq #[] }) ::
  (nat_lit 169, { cls := Value.type "builtin_function_or_method", data := PySem.Data.fields #[Value.builtin "type.__prepare__", Value.type "type"] }) ::
  (nat_lit 170, { cls := Value.type "dict", data := PySem.Data.dict #[{ hash := PyData.keyHash P (Str.ofString "__module__"), key := Value.str (Str.ofString "__module__") (nat_lit 404), val := Value.str (Str.ofString "vectorcove.tokens") (nat_lit 305) }, { hash := PyData.keyHash P (Str.ofString "__qualname__"), key := Value.str (Str.ofString "__qualname__") (nat_lit 406), val := Value.str (Str.ofString "Lexer") (nat_lit 405) }, { hash := PyData.keyHash P (Str.ofString "__firstlineno__"), key := Value.str (Str.ofString "__firstlineno__") (nat_lit 408), val := Value.int (.ofNat (nat_lit 66)) (nat_lit 407) }, { hash := PyData.keyHash P (Str.ofString "__init__"), key := Value.str (Str.ofString "__init__") (nat_lit 418), val := Value.ref (nat_lit 182) }, { hash := PyData.keyHash P (Str.ofString "char"), key := Value.str (Str.ofString "char") (nat_lit 426), val := Value.ref (nat_lit 189) }, { hash := PyData.keyHash P (Str.ofString "token"), key := Value.str (Str.ofString "token") (nat_lit 437), val := Value.ref (nat_lit 196) }, { hash := PyData.keyHash P (Str.ofString "next_token"), key := Value.str (Str.ofString "next_token") (nat_lit 448), val := Value.ref (nat_lit 203) }, { hash := PyData.keyHash P (Str.ofString "skip"), key := Value.str (Str.ofString "skip") (nat_lit 456), val := Value.ref (nat_lit 210) }, { hash := PyData.keyHash P (Str.ofString "word"), key := Value.str (Str.ofString "word") (nat_lit 466), val := Value.ref (nat_lit 217) }, { hash := PyData.keyHash P (Str.ofString "percent"), key := Value.str (Str.ofString "percent") (nat_lit 475), val := Value.ref (nat_lit 224) }, { hash := PyData.keyHash P (Str.ofString "operator"), key := Value.str (Str.ofString "operator") (nat_lit 484), val := Value.ref (nat_lit 231) }, { hash := PyData.keyHash P (Str.ofString "digits_end"), key := Value.str (Str.ofString "digits_end") (nat_lit 492), val := Value.ref (nat_lit 238) }, { hash := PyData.keyHash P (Str.ofString "numeral"), key := Value.str (Str.ofString "numeral") (nat_lit 506), val := Value.ref (nat_lit 245) }, { hash := PyData.keyHash P (Str.ofString "exponent"), key := Value.str (Str.ofString "exponent") (nat_lit 518), val := Value.ref (nat_lit 252) }, { hash := PyData.keyHash P (Str.ofString "hexadecimal"), key := Value.str (Str.ofString "hexadecimal") (nat_lit 528), val := Value.ref (nat_lit 259) }, { hash := PyData.keyHash P (Str.ofString "number_token"), key := Value.str (Str.ofString "number_token") (nat_lit 539), val := Value.ref (nat_lit 266) }, { hash := PyData.keyHash P (Str.ofString "quoted"), key := Value.str (Str.ofString "quoted") (nat_lit 551), val := Value.ref (nat_lit 273) }, { hash := PyData.keyHash P (Str.ofString "escape"), key := Value.str (Str.ofString "escape") (nat_lit 564), val := Value.ref (nat_lit 280) }, { hash := PyData.keyHash P (Str.ofString "coded"), key := Value.str (Str.ofString "coded") (nat_lit 579), val := Value.ref (nat_lit 287) }, { hash := PyData.keyHash P (Str.ofString "raw_string"), key := Value.str (Str.ofString "raw_string") (nat_lit 593), val := Value.ref (nat_lit 294) }, { hash := PyData.keyHash P (Str.ofString "__static_attributes__"), key := Value.str (Str.ofString "__static_attributes__") (nat_lit 598), val := Value.ref (nat_lit 295) }] 21 }) ::
  (nat_lit 171, { cls := Value.type "tuple", data := PySem.Data.seq #[] }) ::
  (nat_lit 172, { cls := Value.none, data := PySem.Data.fields #[Value.int (.ofNat (nat_lit 68)) (nat_lit 0), Value.int (.ofNat (nat_lit 4)) (nat_lit 0), Value.ref (nat_lit 181), Value.int (.ofNat (nat_lit 74)) (nat_lit 0), Value.int (.ofNat (nat_lit 4)) (nat_lit 0), Value.ref (nat_lit 188), Value.int (.ofNat (nat_lit 77)) (nat_lit 0), Value.int (.ofNat (nat_lit 4)) (nat_lit 0), Value.ref (nat_lit 195), Value.int (.ofNat (nat_lit 81)) (nat_lit 0), Value.int (.ofNat (nat_lit 4)) (nat_lit 0), Value.ref (nat_lit 202), Value.int (.ofNat (nat_lit 105)) (nat_lit 0), Value.int (.ofNat (nat_lit 4)) (nat_lit 0), Value.ref (nat_lit 209), Value.int (.ofNat (nat_lit 118)) (nat_lit 0), Value.int (.ofNat (nat_lit 4)) (nat_lit 0), Value.ref (nat_lit 216), Value.int (.ofNat (nat_lit 127)) (nat_lit 0), Value.int (.ofNat (nat_lit 4)) (nat_lit 0), Value.ref (nat_lit 223), Value.int (.ofNat (nat_lit 135)) (nat_lit 0), Value.int (.ofNat (nat_lit 4)) (nat_lit 0), Value.ref (nat_lit 230), Value.int (.ofNat (nat_lit 147)) (nat_lit 0), Value.int (.ofNat (nat_lit 4)) (nat_lit 0), Value.ref (nat_lit 237), Value.int (.ofNat (nat_lit 152)) (nat_lit 0), Value.int (.ofNat (nat_lit 4)) (nat_lit 0), Value.ref (nat_lit 244), Value.int (.ofNat (nat_lit 171)) (nat_lit 0), Value.int (.ofNat (nat_lit 4)) (nat_lit 0), Value.ref (nat_lit 251), Value.int (.ofNat (nat_lit 183)) (nat_lit 0), Value.int (.ofNat (nat_lit 4)) (nat_lit 0), Value.ref (nat_lit 258), Value.int (.ofNat (nat_lit 193)) (nat_lit 0), Value.int (.ofNat (nat_lit 4)) (nat_lit 0), Value.ref (nat_lit 265), Value.int (.ofNat (nat_lit 202)) (nat_lit 0), Value.int (.ofNat (nat_lit 4)) (nat_lit 0), Value.ref (nat_lit 272), Value.int (.ofNat (nat_lit 219)) (nat_lit 0), Value.int (.ofNat (nat_lit 4)) (nat_lit 0), Value.ref (nat_lit 279), Value.int (.ofNat (nat_lit 242)) (nat_lit 0), Value.int (.ofNat (nat_lit 4)) (nat_lit 0), Value.ref (nat_lit 286), Value.int (.ofNat (nat_lit 256)) (nat_lit 0), Value.int (.ofNat (nat_lit 4)) (nat_lit 0), Value.ref (nat_lit 293)] }) ::
  (nat_lit 173, { cls := Value.type "code", data := PySem.Data.fields #[Value.str (Str.ofString "Lexer") (nat_lit 399), Value.str (Str.ofString "Lexer") (nat_lit 400), Value.str (Str.ofString "/claim/cut.py") (nat_lit 401), Value.int (.ofNat (nat_lit 66)) (nat_lit 0), Value.int (.ofNat (nat_lit 0)) (nat_lit 0), Value.int (.ofNat (nat_lit 0)) (nat_lit 0), Value.int (.ofNat (nat_lit 0)) (nat_lit 0), Value.int (.ofNat (nat_lit 0)) (nat_lit 0), Value.ref (nat_lit 171), Value.bool Bool.false, Value.int (.ofNat (nat_lit 181)) (nat_lit 0), Value.ref (nat_lit 172), Value.none, Value.none, Value.none, Value.none, Value.int (.ofNat (nat_lit 402)) (nat_lit 0), Value.int (.ofNat (nat_lit 66)) (nat_lit 0), Value.str (Str.ofString "/claim/cut.py") (nat_lit 403)] }) ::
  (nat_lit 174, { cls := Value.type "frame", slots := #[some (Value.ref (nat_lit 173)), some (Value.ref (nat_lit 3)), some (Value.ref (nat_lit 170)), none, some (Value.str (Str.ofString "vectorcove.tokens") (nat_lit 305)), none, some (Value.ref (nat_lit 0))] }) ::
  (nat_lit 177, { cls := Value.none, data := PySem.Data.fields #[] }) ::
  (nat_lit 180, { cls := Value.none, data := PySem.Data.func { name := Str.ofString "__init__", qualname := Str.ofString "Lexer.__init__", params := lp_Lexer_init, body := PySem.FuncBody.stmts lb_Lexer_init, scope := ls_Lexer_init, globals := 0, closure := [], defaults := Value.none, kwdefaults := Value.none } }) ::
  (nat_lit 184, { cls := Value.none, data := PySem.Data.fields #[] }) ::
  (nat_lit 187, { cls := Value.none, data := PySem.Data.func { name := Str.ofString "char", qualname := Str.ofString "Lexer.char", params := lp_Lexer_char, body := PySem.FuncBody.stmts lb_Lexer_char, scope := ls_Lexer_char, globals := 0, closure := [], defaults := Value.none, kwdefaults := Value.none } }) ::
  (nat_lit 191, { cls := Value.none, data := PySem.Data.fields #[] }) ::
  (nat_lit 194, { cls := Value.none, data := PySem.Data.func { name := Str.ofString "token", qualname := Str.ofString "Lexer.token", params := lp_Lexer_token, body := PySem.FuncBody.stmts lb_Lexer_token, scope := ls_Lexer_token, globals := 0, closure := [], defaults := Value.none, kwdefaults := Value.none } }) ::
  (nat_lit 198, { cls := Value.none, data := PySem.Data.fields #[] }) ::
  (nat_lit 201, { cls := Value.none, data := PySem.Data.func { name := Str.ofString "next_token", qualname := Str.ofString "Lexer.next_token", params := lp_Lexer_next_token, body := PySem.FuncBody.stmts lb_Lexer_next_token, scope := ls_Lexer_next_token, globals := 0, closure := [], defaults := Value.none, kwdefaults := Value.none } }) ::
  (nat_lit 205, { cls := Value.none, data := PySem.Data.fields #[] }) ::
  (nat_lit 208, { cls := Value.none, data := PySem.Data.func { name := Str.ofString "skip", qualname := Str.ofString "Lexer.skip", params := lp_Lexer_skip, body := PySem.FuncBody.stmts lb_Lexer_skip, scope := ls_Lexer_skip, globals := 0, closure := [], defaults := Value.none, kwdefaults := Value.none } }) ::
  (nat_lit 212, { cls := Value.none, data := PySem.Data.fields #[] }) ::
  (nat_lit 215, { cls := Value.none, data := PySem.Data.func { name := Str.ofString "word", qualname := Str.ofString "Lexer.word", params := lp_Lexer_word, body := PySem.FuncBody.stmts lb_Lexer_word, scope := ls_Lexer_word, globals := 0, closure := [], defaults := Value.none, kwdefaults := Value.none } }) ::
  (nat_lit 219, { cls := Value.none, data := PySem.Data.fields #[] }) ::
  (nat_lit 222, { cls := Value.none, data := PySem.Data.func { name := Str.ofString "percent", qualname := Str.ofString "Lexer.percent", params := lp_Lexer_percent, body := PySem.FuncBody.stmts lb_Lexer_percent, scope := ls_Lexer_percent, globals := 0, closure := [], defaults := Value.none, kwdefaults := Value.none } }) ::
  (nat_lit 226, { cls := Value.none, data := PySem.Data.fields #[] }) ::
  (nat_lit 229, { cls := Value.none, data := PySem.Data.func { name := Str.ofString "operator", qualname := Str.ofString "Lexer.operator", params := lp_Lexer_operator, body := PySem.FuncBody.stmts lb_Lexer_operator, scope := ls_Lexer_operator, globals := 0, closure := [], defaults := Value.none, kwdefaults := Value.none } }) ::
  (nat_lit 233, { cls := Value.none, data := PySem.Data.fields #[] }) ::
  (nat_lit 236, { cls := Value.none, data := PySem.Data.func { name := Str.ofString "digits_end", qualname := Str.ofString "Lexer.digits_end", params := lp_Lexer_digits_end, body := PySem.FuncBody.stmts lb_Lexer_digits_end, scope := ls_Lexer_digits_end, globals := 0, closure := [], defaults := Value.none, kwdefaults := Value.none } }) ::
  (nat_lit 240, { cls := Value.none, data := PySem.Data.fields #[] }) ::
  (nat_lit 243, { cls := Value.none, data := PySem.Data.func { name := Str.ofString "numeral", qualname := Str.ofString "Lexer.numeral", params := lp_Lexer_numeral, body := PySem.FuncBody.stmts lb_Lexer_numeral, scope := ls_Lexer_numeral, globals := 0, closure := [], defaults := Value.none, kwdefaults := Value.none } }) ::
  (nat_lit 247, { cls := Value.none, data := PySem.Data.fields #[] }) ::
  (nat_lit 250, { cls := Value.none, data := PySem.Data.func { name := Str.ofString "exponent", qualname := Str.ofString "Lexer.exponent", params := lp_Lexer_exponent, body := PySem.FuncBody.stmts lb_Lexer_exponent, scope := ls_Lexer_exponent, globals := 0, closure := [], defaults := Value.none, kwdefaults := Value.none } }) ::
  (nat_lit 254, { cls := Value.none, data := PySem.Data.fields #[] }) ::
  (nat_lit 257, { cls := Value.none, data := PySem.Data.func { name := Str.ofString "hexadecimal", qualname := Str.ofString "Lexer.hexadecimal", params := lp_Lexer_hexadecimal, body := PySem.FuncBody.stmts lb_Lexer_hexadecimal, scope := ls_Lexer_hexadecimal, globals := 0, closure := [], defaults := Value.none, kwdefaults := Value.none } }) ::
  (nat_lit 261, { cls := Value.none, data := PySem.Data.fields #[] }) ::
  (nat_lit 264, { cls := Value.none, data := PySem.Data.func { name := Str.ofString "number_token", qualname := Str.ofString "Lexer.number_token", params := lp_Lexer_number_token, body := PySem.FuncBody.stmts lb_Lexer_number_token, scope := ls_Lexer_number_token, globals := 0, closure := [], defaults := Value.none, kwdefaults := Value.none } }) ::
  (nat_lit 268, { cls := Value.none, data := PySem.Data.fields #[] }) ::
  (nat_lit 271, { cls := Value.none, data := PySem.Data.func { name := Str.ofString "quoted", qualname := Str.ofString "Lexer.quoted", params := lp_Lexer_quoted, body := PySem.FuncBody.stmts lb_Lexer_quoted, scope := ls_Lexer_quoted, globals := 0, closure := [], defaults := Value.none, kwdefaults := Value.none } }) ::
  (nat_lit 275, { cls := Value.none, data := PySem.Data.fields #[] }) ::
  (nat_lit 278, { cls := Value.none, data := PySem.Data.func { name := Str.ofString "escape", qualname := Str.ofString "Lexer.escape", params := lp_Lexer_escape, body := PySem.FuncBody.stmts lb_Lexer_escape, scope := ls_Lexer_escape, globals := 0, closure := [], defaults := Value.none, kwdefaults := Value.none } }) ::
  (nat_lit 282, { cls := Value.none, data := PySem.Data.fields #[] }) ::
  (nat_lit 285, { cls := Value.none, data := PySem.Data.func { name := Str.ofString "coded", qualname := Str.ofString "Lexer.coded", params := lp_Lexer_coded, body := PySem.FuncBody.stmts lb_Lexer_coded, scope := ls_Lexer_coded, globals := 0, closure := [], defaults := Value.none, kwdefaults := Value.none } }) ::
  (nat_lit 289, { cls := Value.none, data := PySem.Data.fields #[] }) ::
  (nat_lit 292, { cls := Value.none, data := PySem.Data.func { name := Str.ofString "raw_string", qualname := Str.ofString "Lexer.raw_string", params := lp_Lexer_raw_string, body := PySem.FuncBody.stmts lb_Lexer_raw_string, scope := ls_Lexer_raw_string, globals := 0, closure := [], defaults := Value.none, kwdefaults := Value.none } }) ::
  (nat_lit 300, { cls := Value.type "super", data := PySem.Data.fields #[Value.ref (nat_lit 297), Value.ref (nat_lit 297), Value.ref (nat_lit 297)] }) ::
  (nat_lit 301, { cls := Value.type "builtin_function_or_method", data := PySem.Data.fields #[Value.builtin "object.__init_subclass__", Value.ref (nat_lit 297)] }) ::
  (nat_lit 303, { cls := Value.none, data := PySem.Data.fields #[] }) ::
  (nat_lit 306, { cls := Value.none, data := PySem.Data.func { name := Str.ofString "_law_heap", qualname := Str.ofString "_law_heap", params := lp_law_heap, body := PySem.FuncBody.stmts lb_law_heap, scope := ls_law_heap, globals := 0, closure := [], defaults := Value.none, kwdefaults := Value.none } }) ::
  (nat_lit 310, { cls := Value.none, data := PySem.Data.fields #[] }) ::
  (nat_lit 313, { cls := Value.none, data := PySem.Data.func { name := Str.ofString "_law_stone", qualname := Str.ofString "_law_stone", params := lp_law_stone, body := PySem.FuncBody.stmts lb_law_stone, scope := ls_law_stone, globals := 0, closure := [], defaults := Value.none, kwdefaults := Value.none } }) ::
  (nat_lit 317, { cls := Value.none, data := PySem.Data.fields #[] }) ::
  (nat_lit 320, { cls := Value.none, data := PySem.Data.func { name := Str.ofString "_law_text", qualname := Str.ofString "_law_text", params := lp_law_text, body := PySem.FuncBody.stmts lb_law_text, scope := ls_law_text, globals := 0, closure := [], defaults := Value.none, kwdefaults := Value.none } }) ::
  (nat_lit 324, { cls := Value.none, data := PySem.Data.fields #[] }) ::
  (nat_lit 327, { cls := Value.none, data := PySem.Data.func { name := Str.ofString "_law_read", qualname := Str.ofString "_law_read", params := lp_law_read, body := PySem.FuncBody.stmts lb_law_read, scope := ls_law_read, globals := 0, closure := [], defaults := Value.none, kwdefaults := Value.none } }) ::
  (nat_lit 331, { cls := Value.none, data := PySem.Data.fields #[] }) ::
  (nat_lit 334, { cls := Value.none, data := PySem.Data.func { name := Str.ofString "_law_layout", qualname := Str.ofString "_law_layout", params := lp_law_layout, body := PySem.FuncBody.stmts lb_law_layout, scope := ls_law_layout, globals := 0, closure := [], defaults := Value.none, kwdefaults := Value.none } }) ::
  (nat_lit 338, { cls := Value.none, data := PySem.Data.fields #[] }) ::
  (nat_lit 341, { cls := Value.none, data := PySem.Data.func { name := Str.ofString "_law_value", qualname := Str.ofString "_law_value", params := lp_law_value, body := PySem.FuncBody.stmts lb_law_value, scope := ls_law_value, globals := 0, closure := [], defaults := Value.none, kwdefaults := Value.none } }) ::
  (nat_lit 345, { cls := Value.none, data := PySem.Data.fields #[] }) ::
  (nat_lit 348, { cls := Value.none, data := PySem.Data.func { name := Str.ofString "_law_shown", qualname := Str.ofString "_law_shown", params := lp_law_shown, body := PySem.FuncBody.stmts lb_law_shown, scope := ls_law_shown, globals := 0, closure := [], defaults := Value.none, kwdefaults := Value.none } }) ::
  (nat_lit 352, { cls := Value.none, data := PySem.Data.fields #[] }) ::
  (nat_lit 353, { cls := Value.none, data := PySem.Data.func { name := Str.ofString "law", qualname := Str.ofString "law", params := lp_law, body := PySem.FuncBody.stmts lb_law, scope := ls_law, globals := 0, closure := [], defaults := Value.none, kwdefaults := Value.none } }) ::
  []
noncomputable def hO (P : Params) (n : Nat) : Obj := pickO (hd.heap_39 P) n
noncomputable def rO (P : Params) (n : Nat) : Obj := pickO (rest0 P) n
noncomputable def ns0 (P : Params) : Obj := hO P (nat_lit 3)
noncomputable def cn0 (P : Params) : Obj := rO P (nat_lit 12)
noncomputable abbrev prg : Program := PySem.Challenge.rw_ov0064_01.row.toRowW.1
noncomputable def env0 : Env := { scope := prg.main.scope, locals := mainNs, globals := mainNs, cells := [], code := .ref 13, frame := some 14 }
noncomputable abbrev bdy : List Stmt := behindTheImports prg
noncomputable abbrev cd0 : Code := .body bdy env0
noncomputable abbrev ps0 : Pos := ⟨0, 0, 0, 0⟩
noncomputable abbrev B0 : List Frame := [topFrame ps0]
noncomputable def ann0 : Option Value := some (.ref 6)
noncomputable def cnpre (P : Params) : Obj := { cls := Value.none, data := PySem.Data.fields #[] }
noncomputable def ns18 (P : Params) : Obj := { cls := Value.type "dict", data := PySem.Data.dict #[{ hash := PyData.keyHash P (Str.ofString "__name__"), key := Value.str (Str.ofString "__name__") (nat_lit 165), val := Value.str (Str.ofString "vectorcove.tokens") (nat_lit 305) }, { hash := PyData.keyHash P (Str.ofString "__doc__"), key := Value.str (Str.ofString "__doc__") (nat_lit 166), val := Value.none }, { hash := PyData.keyHash P (Str.ofString "__package__"), key := Value.str (Str.ofString "__package__") (nat_lit 167), val := Value.none }, { hash := PyData.keyHash P (Str.ofString "__loader__"), key := Value.str (Str.ofString "__loader__") (nat_lit 168), val := Value.builtin "__main__.__loader__#opaque" }, { hash := PyData.keyHash P (Str.ofString "__spec__"), key := Value.str (Str.ofString "__spec__") (nat_lit 169), val := Value.none }, { hash := PyData.keyHash P (Str.ofString "__annotations__"), key := Value.str (Str.ofString "__annotations__") (nat_lit 170), val := Value.ref (nat_lit 6) }, { hash := PyData.keyHash P (Str.ofString "__builtins__"), key := Value.str (Str.ofString "__builtins__") (nat_lit 171), val := Value.ref (nat_lit 4) }, { hash := PyData.keyHash P (Str.ofString "__file__"), key := Value.str (Str.ofString "__file__") (nat_lit 173), val := Value.str (Str.ofString "/claim/cut.py") (nat_lit 172) }, { hash := PyData.keyHash P (Str.ofString "__cached__"), key := Value.str (Str.ofString "__cached__") (nat_lit 174), val := Value.none }, { hash := PyData.keyHash P (Str.ofString "_wall"), key := Value.str (Str.ofString "_wall") (nat_lit 193), val := Value.ref (nat_lit 21) }, { hash := PyData.keyHash P (Str.ofString "CoveError"), key := Value.str (Str.ofString "CoveError") (nat_lit 215), val := Value.ref (nat_lit 31) }, { hash := PyData.keyHash P (Str.ofString "ReadError"), key := Value.str (Str.ofString "ReadError") (nat_lit 242), val := Value.ref (nat_lit 51) }, { hash := PyData.keyHash P (Str.ofString "Vector"), key := Value.str (Str.ofString "Vector") (nat_lit 286), val := Value.ref (nat_lit 78) }, { hash := PyData.keyHash P (Str.ofString "whole"), key := Value.str (Str.ofString "whole") (nat_lit 293), val := Value.ref (nat_lit 89) }, { hash := PyData.keyHash P (Str.ofString "number"), key := Value.str (Str.ofString "number") (nat_lit 304), val := Value.ref (nat_lit 97) }, { hash := PyData.keyHash P (Str.ofString "MOST_EXPONENT"), key := Value.str (Str.ofString "MOST_EXPONENT") (nat_lit 308), val := Value.int (.ofNat (nat_lit 4096)) (nat_lit 307) }, { hash := PyData.keyHash P (Str.ofString "MOST_INTEGER"), key := Value.str (Str.ofString "MOST_INTEGER") (nat_lit 310), val := Value.int (.ofNat (nat_lit 2147483647)) (nat_lit 309) }, { hash := PyData.keyHash P (Str.ofString "Token"), key := Value.str (Str.ofString "Token") (nat_lit 345), val := Value.ref (nat_lit 114) }, { hash := PyData.keyHash P (Str.ofString "keywords"), key := Value.str (Str.ofString "keywords") (nat_lit 351), val := Value.ref (nat_lit 125) }, { hash := PyData.keyHash P (Str.ofString "is_letter"), key := Value.str (Str.ofString "is_letter") (nat_lit 358), val := Value.ref (nat_lit 132) }, { hash := PyData.keyHash P (Str.ofString "is_digit"), key := Value.str (Str.ofString "is_digit") (nat_lit 365), val := Value.ref (nat_lit 139) }, { hash := PyData.keyHash P (Str.ofString "is_name_char"), key := Value.str (Str.ofString "is_name_char") (nat_lit 372), val := Value.ref (nat_lit 146) }, { hash := PyData.keyHash P (Str.ofString "hex_value"), key := Value.str (Str.ofString "hex_value") (nat_lit 379), val := Value.ref (nat_lit 153) }, { hash := PyData.keyHash P (Str.ofString "simple_escape"), key := Value.str (Str.ofString "simple_escape") (nat_lit 387), val := Value.ref (nat_lit 160) }, { hash := PyData.keyHash P (Str.ofString "digits_value"), key := Value.str (Str.ofString "digits_value") (nat_lit 396), val := Value.ref (nat_lit 167) }] 25 }
noncomputable def cn18 (P : Params) : Obj := { cls := Value.none, data := PySem.Data.fields #[Value.int (.ofNat (nat_lit 1)) (nat_lit 0), Value.int (.ofNat (nat_lit 0)) (nat_lit 0), Value.ref (nat_lit 20), Value.int (.ofNat (nat_lit 5)) (nat_lit 0), Value.int (.ofNat (nat_lit 0)) (nat_lit 0), Value.ref (nat_lit 27), Value.int (.ofNat (nat_lit 7)) (nat_lit 0), Value.int (.ofNat (nat_lit 0)) (nat_lit 0), Value.ref (nat_lit 40), Value.int (.ofNat (nat_lit 13)) (nat_lit 0), Value.int (.ofNat (nat_lit 0)) (nat_lit 0), Value.ref (nat_lit 59), Value.int (.ofNat (nat_lit 24)) (nat_lit 0), Value.int (.ofNat (nat_lit 0)) (nat_lit 0), Value.ref (nat_lit 88), Value.int (.ofNat (nat_lit 26)) (nat_lit 0), Value.int (.ofNat (nat_lit 0)) (nat_lit 0), Value.ref (nat_lit 96), Value.int (.ofNat (nat_lit 35)) (nat_lit 0), Value.int (.ofNat (nat_lit 0)) (nat_lit 0), Value.ref (nat_lit 103), Value.int (.ofNat (nat_lit 42)) (nat_lit 0), Value.int (.ofNat (nat_lit 0)) (nat_lit 0), Value.ref (nat_lit 124), Value.int (.ofNat (nat_lit 44)) (nat_lit 0), Value.int (.ofNat (nat_lit 0)) (nat_lit 0), Value.ref (nat_lit 131), Value.int (.ofNat (nat_lit 46)) (nat_lit 0), Value.int (.ofNat (nat_lit 0)) (nat_lit 0), Value.ref (nat_lit 138), Value.int (.ofNat (nat_lit 48)) (nat_lit 0), Value.int (.ofNat (nat_lit 0)) (nat_lit 0), Value.ref (nat_lit 145), Value.int (.ofNat (nat_lit 50)) (nat_lit 0), Value.int (.ofNat (nat_lit 0)) (nat_lit 0), Value.ref (nat_lit 152), Value.int (.ofNat (nat_lit 54)) (nat_lit 0), Value.int (.ofNat (nat_lit 0)) (nat_lit 0), Value.ref (nat_lit 159), Value.int (.ofNat (nat_lit 61)) (nat_lit 0), Value.int (.ofNat (nat_lit 0)) (nat_lit 0), Value.ref (nat_lit 166)] }
noncomputable def tr_pre (P : Params) : BT := (BT.node (boot_o_0 P) (BT.node (boot_o_1 P) (BT.node (boot_o_3 P) (BT.node (boot_o_7 P) BT.nil BT.nil) (BT.node (rO P (nat_lit 11)) BT.nil BT.nil)) (BT.node (boot_o_5 P) (BT.node (boot_o_9 P) BT.nil BT.nil) (BT.node (rO P (nat_lit 13)) BT.nil BT.nil))) (BT.node (boot_o_2 P) (BT.node (boot_o_4 P) (BT.node (boot_o_8 P) BT.nil BT.nil) (BT.node (cnpre P) BT.nil BT.nil)) (BT.node (boot_o_6 P) (BT.node (boot_o_10 P) BT.nil BT.nil) (BT.node (rO P (nat_lit 14)) BT.nil BT.nil))))
noncomputable def st_pre (w : World) (os : OsState) : SharedT := ⟨tr_pre w.params, nat_lit 15, (boot_heap w.params).life, #[], boot_drawn, nat_lit 187, os⟩
noncomputable def tr_18 (P : Params) : BT := (BT.node (boot_o_0 P) (BT.node (boot_o_1 P) (BT.node (ns18 P) (BT.node (boot_o_7 P) (BT.node (hO P (nat_lit 15)) (BT.node (hO P (nat_lit 31)) (BT.node (rO P (nat_lit 63)) (BT.node (rO P (nat_lit 127)) BT.nil BT.nil) BT.nil) (BT.node (rO P (nat_lit 95)) (BT.node (hO P (nat_lit 159)) BT.nil BT.nil) BT.nil)) (BT.node (hO P (nat_lit 47)) (BT.node (hO P (nat_lit 79)) (BT.node (hO P (nat_lit 143)) BT.nil BT.nil) BT.nil) (BT.node (hO P (nat_lit 111)) BT.nil BT.nil))) (BT.node (rO P (nat_lit 23)) (BT.node (rO P (nat_lit 39)) (BT.node (hO P (nat_lit 71)) (BT.node (hO P (nat_lit 135)) BT.nil BT.nil) BT.nil) (BT.node (rO P (nat_lit 103)) (BT.node (hO P (nat_lit 167)) BT.nil BT.nil) BT.nil)) (BT.node (rO P (nat_lit 55)) (BT.node (rO P (nat_lit 87)) (BT.node (rO P (nat_lit 151)) BT.nil BT.nil) BT.nil) (BT.node (hO P (nat_lit 119)) BT.nil BT.nil)))) (BT.node (rO P (nat_lit 11)) (BT.node (rO P (nat_lit 19)) (BT.node (hO P (nat_lit 35)) (BT.node (hO P (nat_lit 67)) (BT.node (hO P (nat_lit 131)) BT.nil BT.nil) BT.nil) (BT.node (rO P (nat_lit 99)) (BT.node (hO P (nat_lit 163)) BT.nil BT.nil) BT.nil)) (BT.node (hO P (nat_lit 51)) (BT.node (hO P (nat_lit 83)) (BT.node (hO P (nat_lit 147)) BT.nil BT.nil) BT.nil) (BT.node (hO P (nat_lit 115)) BT.nil BT.nil))) (BT.node (rO P (nat_lit 27)) (BT.node (rO P (nat_lit 43)) (BT.node (hO P (nat_lit 75)) (BT.node (hO P (nat_lit 139)) BT.nil BT.nil) BT.nil) (BT.node (hO P (nat_lit 107)) BT.nil BT.nil)) (BT.node (rO P (nat_lit 59)) (BT.node (hO P (nat_lit 91)) (BT.node (rO P (nat_lit 155)) BT.nil BT.nil) BT.nil) (BT.node (rO P (nat_lit 123)) BT.nil BT.nil))))) (BT.node (boot_o_5 P) (BT.node (boot_o_9 P) (BT.node (hO P (nat_lit 17)) (BT.node (rO P (nat_lit 33)) (BT.node (hO P (nat_lit 65)) (BT.node (hO P (nat_lit 129)) BT.nil BT.nil) BT.nil) (BT.node (hO P (nat_lit 97)) (BT.node (hO P (nat_lit 161)) BT.nil BT.nil) BT.nil)) (BT.node (hO P (nat_lit 49)) (BT.node (rO P (nat_lit 81)) (BT.node (hO P (nat_lit 145)) BT.nil BT.nil) BT.nil) (BT.node (hO P (nat_lit 113)) BT.nil BT.nil))) (BT.node (rO P (nat_lit 25)) (BT.node (rO P (nat_lit 41)) (BT.node (rO P (nat_lit 73)) (BT.node (rO P (nat_lit 137)) BT.nil BT.nil) BT.nil) (BT.node (hO P (nat_lit 105)) BT.nil BT.nil)) (BT.node (rO P (nat_lit 57)) (BT.node (hO P (nat_lit 89)) (BT.node (hO P (nat_lit 153)) BT.nil BT.nil) BT.nil) (BT.node (hO P (nat_lit 121)) BT.nil BT.nil)))) (BT.node (rO P (nat_lit 13)) (BT.node (hO P (nat_lit 21)) (BT.node (rO P (nat_lit 37)) (BT.node (hO P (nat_lit 69)) (BT.node (hO P (nat_lit 133)) BT.nil BT.nil) BT.nil) (BT.node (rO P (nat_lit 101)) (BT.node (rO P (nat_lit 165)) BT.nil BT.nil) BT.nil)) (BT.node (rO P (nat_lit 53)) (BT.node (hO P (nat_lit 85)) (BT.node (hO P (nat_lit 149)) BT.nil BT.nil) BT.nil) (BT.node (rO P (nat_lit 117)) BT.nil BT.nil))) (BT.node (hO P (nat_lit 29)) (BT.node (hO P (nat_lit 45)) (BT.node (hO P (nat_lit 77)) (BT.node (rO P (nat_lit 141)) BT.nil BT.nil) BT.nil) (BT.node (rO P (nat_lit 109)) BT.nil BT.nil)) (BT.node (hO P (nat_lit 61)) (BT.node (hO P (nat_lit 93)) (BT.node (hO P (nat_lit 157)) BT.nil BT.nil) BT.nil) (BT.node (hO P (nat_lit 125)) BT.nil BT.nil)))))) (BT.node (hO P (nat_lit 2)) (BT.node (boot_o_4 P) (BT.node (boot_o_8 P) (BT.node (rO P (nat_lit 16)) (BT.node (hO P (nat_lit 32)) (BT.node (hO P (nat_lit 64)) (BT.node (hO P (nat_lit 128)) BT.nil BT.nil) BT.nil) (BT.node (hO P (nat_lit 96)) (BT.node (hO P (nat_lit 160)) BT.nil BT.nil) BT.nil)) (BT.node (hO P (nat_lit 48)) (BT.node (hO P (nat_lit 80)) (BT.node (rO P (nat_lit 144)) BT.nil BT.nil) BT.nil) (BT.node (hO P (nat_lit 112)) BT.nil BT.nil))) (BT.node (rO P (nat_lit 24)) (BT.node (rO P (nat_lit 40)) (BT.node (hO P (nat_lit 72)) (BT.node (hO P (nat_lit 136)) BT.nil BT.nil) BT.nil) (BT.node (rO P (nat_lit 104)) BT.nil BT.nil)) (BT.node (rO P (nat_lit 56)) (BT.node (hO P (nat_lit 88)) (BT.node (hO P (nat_lit 152)) BT.nil BT.nil) BT.nil) (BT.node (rO P (nat_lit 120)) BT.nil BT.nil)))) (BT.node (cn18 P) (BT.node (hO P (nat_lit 20)) (BT.node (rO P (nat_lit 36)) (BT.node (hO P (nat_lit 68)) (BT.node (hO P (nat_lit 132)) BT.nil BT.nil) BT.nil) (BT.node (rO P (nat_lit 100)) (BT.node (hO P (nat_lit 164)) BT.nil BT.nil) BT.nil)) (BT.node (rO P (nat_lit 52)) (BT.node (rO P (nat_lit 84)) (BT.node (rO P (nat_lit 148)) BT.nil BT.nil) BT.nil) (BT.node (hO P (nat_lit 116)) BT.nil BT.nil))) (BT.node (rO P (nat_lit 28)) (BT.node (hO P (nat_lit 44)) (BT.node (hO P (nat_lit 76)) (BT.node (hO P (nat_lit 140)) BT.nil BT.nil) BT.nil) (BT.node (hO P (nat_lit 108)) BT.nil BT.nil)) (BT.node (rO P (nat_lit 60)) (BT.node (rO P (nat_lit 92)) (BT.node (hO P (nat_lit 156)) BT.nil BT.nil) BT.nil) (BT.node (hO P (nat_lit 124)) BT.nil BT.nil))))) (BT.node (boot_o_6 P) (BT.node (boot_o_10 P) (BT.node (hO P (nat_lit 18)) (BT.node (rO P (nat_lit 34)) (BT.node (rO P (nat_lit 66)) (BT.node (rO P (nat_lit 130)) BT.nil BT.nil) BT.nil) (BT.node (rO P (nat_lit 98)) (BT.node (rO P (nat_lit 162)) BT.nil BT.nil) BT.nil)) (BT.node (hO P (nat_lit 50)) (BT.node (rO P (nat_lit 82)) (BT.node (hO P (nat_lit 146)) BT.nil BT.nil) BT.nil) (BT.node (hO P (nat_lit 114)) BT.nil BT.nil))) (BT.node (rO P (nat_lit 26)) (BT.node (hO P (nat_lit 42)) (BT.node (hO P (nat_lit 74)) (BT.node (hO P (nat_lit 138)) BT.nil BT.nil) BT.nil) (BT.node (rO P (nat_lit 106)) BT.nil BT.nil)) (BT.node (rO P (nat_lit 58)) (BT.node (hO P (nat_lit 90)) (BT.node (hO P (nat_lit 154)) BT.nil BT.nil) BT.nil) (BT.node (hO P (nat_lit 122)) BT.nil BT.nil)))) (BT.node (rO P (nat_lit 14)) (BT.node (hO P (nat_lit 22)) (BT.node (rO P (nat_lit 38)) (BT.node (rO P (nat_lit 70)) (BT.node (rO P (nat_lit 134)) BT.nil BT.nil) BT.nil) (BT.node (rO P (nat_lit 102)) (BT.node (hO P (nat_lit 166)) BT.nil BT.nil) BT.nil)) (BT.node (rO P (nat_lit 54)) (BT.node (hO P (nat_lit 86)) (BT.node (hO P (nat_lit 150)) BT.nil BT.nil) BT.nil) (BT.node (rO P (nat_lit 118)) BT.nil BT.nil))) (BT.node (hO P (nat_lit 30)) (BT.node (rO P (nat_lit 46)) (BT.node (hO P (nat_lit 78)) (BT.node (hO P (nat_lit 142)) BT.nil BT.nil) BT.nil) (BT.node (hO P (nat_lit 110)) BT.nil BT.nil)) (BT.node (hO P (nat_lit 62)) (BT.node (hO P (nat_lit 94)) (BT.node (rO P (nat_lit 158)) BT.nil BT.nil) BT.nil) (BT.node (hO P (nat_lit 126)) BT.nil BT.nil)))))))
noncomputable def st_18 (w : World) (os : OsState) : SharedT := ⟨tr_18 w.params, nat_lit 168, (boot_heap w.params).life, #[], boot_drawn, nat_lit 397, os⟩
noncomputable def tr_28 (P : Params) : BT := (BT.node (boot_o_0 P) (BT.node (boot_o_1 P) (BT.node (ns0 P) (BT.node (boot_o_7 P) (BT.node (hO P (nat_lit 15)) (BT.node (hO P (nat_lit 31)) (BT.node (rO P (nat_lit 63)) (BT.node (rO P (nat_lit 127)) (BT.node (hO P (nat_lit 255)) BT.nil BT.nil) BT.nil) (BT.node (rO P (nat_lit 191)) (BT.node (hO P (nat_lit 319)) BT.nil BT.nil) BT.nil)) (BT.node (rO P (nat_lit 95)) (BT.node (hO P (nat_lit 159)) (BT.node (hO P (nat_lit 287)) BT.nil BT.nil) BT.nil) (BT.node (hO P (nat_lit 223)) (BT.node (hO P (nat_lit 351)) BT.nil BT.nil) BT.nil))) (BT.node (hO P (nat_lit 47)) (BT.node (hO P (nat_lit 79)) (BT.node (hO P (nat_lit 143)) (BT.node (rO P (nat_lit 271)) BT.nil BT.nil) BT.nil) (BT.node (hO P (nat_lit 207)) (BT.node (hO P (nat_lit 335)) BT.nil BT.nil) BT.nil)) (BT.node (hO P (nat_lit 111)) (BT.node (hO P (nat_lit 175)) (BT.node (rO P (nat_lit 303)) BT.nil BT.nil) BT.nil) (BT.node (hO P (nat_lit 239)) BT.nil BT.nil)))) (BT.node (rO P (nat_lit 23)) (BT.node (rO P (nat_lit 39)) (BT.node (hO P (nat_lit 71)) (BT.node (hO P (nat_lit 135)) (BT.node (hO P (nat_lit 263)) BT.nil BT.nil) BT.nil) (BT.node (hO P (nat_lit 199)) (BT.node (rO P (nat_lit 327)) BT.nil BT.nil) BT.nil)) (BT.node (rO P (nat_lit 103)) (BT.node (hO P (nat_lit 167)) (BT.node (hO P (nat_lit 295)) BT.nil BT.nil) BT.nil) (BT.node (hO P (nat_lit 231)) BT.nil BT.nil))) (BT.node (rO P (nat_lit 55)) (BT.node (rO P (nat_lit 87)) (BT.node (rO P (nat_lit 151)) (BT.node (hO P (nat_lit 279)) BT.nil BT.nil) BT.nil) (BT.node (rO P (nat_lit 215)) (BT.node (hO P (nat_lit 343)) BT.nil BT.nil) BT.nil)) (BT.node (hO P (nat_lit 119)) (BT.node (hO P (nat_lit 183)) (BT.node (hO P (nat_lit 311)) BT.nil BT.nil) BT.nil) (BT.node (rO P (nat_lit 247)) BT.nil BT.nil))))) (BT.node (rO P (nat_lit 11)) (BT.node (rO P (nat_lit 19)) (BT.node (hO P (nat_lit 35)) (BT.node (hO P (nat_lit 67)) (BT.node (hO P (nat_lit 131)) (BT.node (hO P (nat_lit 259)) BT.nil BT.nil) BT.nil) (BT.node (hO P (nat_lit 195)) (BT.node (hO P (nat_lit 323)) BT.nil BT.nil) BT.nil)) (BT.node (rO P (nat_lit 99)) (BT.node (hO P (nat_lit 163)) (BT.node (hO P (nat_lit 291)) BT.nil BT.nil) BT.nil) (BT.node (hO P (nat_lit 227)) (BT.node (hO P (nat_lit 355)) BT.nil BT.nil) BT.nil))) (BT.node (hO P (nat_lit 51)) (BT.node (hO P (nat_lit 83)) (BT.node (hO P (nat_lit 147)) (BT.node (rO P (nat_lit 275)) BT.nil BT.nil) BT.nil) (BT.node (hO P (nat_lit 211)) (BT.node (hO P (nat_lit 339)) BT.nil BT.nil) BT.nil)) (BT.node (hO P (nat_lit 115)) (BT.node (hO P (nat_lit 179)) (BT.node (hO P (nat_lit 307)) BT.nil BT.nil) BT.nil) (BT.node (rO P (nat_lit 243)) BT.nil BT.nil)))) (BT.node (rO P (nat_lit 27)) (BT.node (rO P (nat_lit 43)) (BT.node (hO P (nat_lit 75)) (BT.node (hO P (nat_lit 139)) (BT.node (hO P (nat_lit 267)) BT.nil BT.nil) BT.nil) (BT.node (hO P (nat_lit 203)) (BT.node (rO P (nat_lit 331)) BT.nil BT.nil) BT.nil)) (BT.node (hO P (nat_lit 107)) (BT.node (rO P (nat_lit 171)) (BT.node (hO P (nat_lit 299)) BT.nil BT.nil) BT.nil) (BT.node (hO P (nat_lit 235)) BT.nil BT.nil))) (BT.node (rO P (nat_lit 59)) (BT.node (hO P (nat_lit 91)) (BT.node (rO P (nat_lit 155)) (BT.node (hO P (nat_lit 283)) BT.nil BT.nil) BT.nil) (BT.node (rO P (nat_lit 219)) (BT.node (hO P (nat_lit 347)) BT.nil BT.nil) BT.nil)) (BT.node (rO P (nat_lit 123)) (BT.node (rO P (nat_lit 187)) (BT.node (hO P (nat_lit 315)) BT.nil BT.nil) BT.nil) (BT.node (hO P (nat_lit 251)) BT.nil BT.nil)))))) (BT.node (boot_o_5 P) (BT.node (boot_o_9 P) (BT.node (hO P (nat_lit 17)) (BT.node (rO P (nat_lit 33)) (BT.node (hO P (nat_lit 65)) (BT.node (hO P (nat_lit 129)) (BT.node (rO P (nat_lit 257)) BT.nil BT.nil) BT.nil) (BT.node (hO P (nat_lit 193)) (BT.node (hO P (nat_lit 321)) BT.nil BT.nil) BT.nil)) (BT.node (hO P (nat_lit 97)) (BT.node (hO P (nat_lit 161)) (BT.node (rO P (nat_lit 289)) BT.nil BT.nil) BT.nil) (BT.node (hO P (nat_lit 225)) (BT.node (rO P (nat_lit 353)) BT.nil BT.nil) BT.nil))) (BT.node (hO P (nat_lit 49)) (BT.node (rO P (nat_lit 81)) (BT.node (hO P (nat_lit 145)) (BT.node (hO P (nat_lit 273)) BT.nil BT.nil) BT.nil) (BT.node (hO P (nat_lit 209)) (BT.node (hO P (nat_lit 337)) BT.nil BT.nil) BT.nil)) (BT.node (hO P (nat_lit 113)) (BT.node (rO P (nat_lit 177)) (BT.node (hO P (nat_lit 305)) BT.nil BT.nil) BT.nil) (BT.node (hO P (nat_lit 241)) BT.nil BT.nil)))) (BT.node (rO P (nat_lit 25)) (BT.node (rO P (nat_lit 41)) (BT.node (rO P (nat_lit 73)) (BT.node (rO P (nat_lit 137)) (BT.node (hO P (nat_lit 265)) BT.nil BT.nil) BT.nil) (BT.node (rO P (nat_lit 201)) (BT.node (hO P (nat_lit 329)) BT.nil BT.nil) BT.nil)) (BT.node (hO P (nat_lit 105)) (BT.node (rO P (nat_lit 169)) (BT.node (hO P (nat_lit 297)) BT.nil BT.nil) BT.nil) (BT.node (rO P (nat_lit 233)) BT.nil BT.nil))) (BT.node (rO P (nat_lit 57)) (BT.node (hO P (nat_lit 89)) (BT.node (hO P (nat_lit 153)) (BT.node (hO P (nat_lit 281)) BT.nil BT.nil) BT.nil) (BT.node (hO P (nat_lit 217)) (BT.node (rO P (nat_lit 345)) BT.nil BT.nil) BT.nil)) (BT.node (hO P (nat_lit 121)) (BT.node (hO P (nat_lit 185)) (BT.node (rO P (nat_lit 313)) BT.nil BT.nil) BT.nil) (BT.node (hO P (nat_lit 249)) BT.nil BT.nil))))) (BT.node (rO P (nat_lit 13)) (BT.node (hO P (nat_lit 21)) (BT.node (rO P (nat_lit 37)) (BT.node (hO P (nat_lit 69)) (BT.node (hO P (nat_lit 133)) (BT.node (rO P (nat_lit 261)) BT.nil BT.nil) BT.nil) (BT.node (hO P (nat_lit 197)) (BT.node (hO P (nat_lit 325)) BT.nil BT.nil) BT.nil)) (BT.node (rO P (nat_lit 101)) (BT.node (rO P (nat_lit 165)) (BT.node (hO P (nat_lit 293)) BT.nil BT.nil) BT.nil) (BT.node (rO P (nat_lit 229)) BT.nil BT.nil))) (BT.node (rO P (nat_lit 53)) (BT.node (hO P (nat_lit 85)) (BT.node (hO P (nat_lit 149)) (BT.node (hO P (nat_lit 277)) BT.nil BT.nil) BT.nil) (BT.node (hO P (nat_lit 213)) (BT.node (rO P (nat_lit 341)) BT.nil BT.nil) BT.nil)) (BT.node (rO P (nat_lit 117)) (BT.node (hO P (nat_lit 181)) (BT.node (hO P (nat_lit 309)) BT.nil BT.nil) BT.nil) (BT.node (hO P (nat_lit 245)) BT.nil BT.nil)))) (BT.node (hO P (nat_lit 29)) (BT.node (hO P (nat_lit 45)) (BT.node (hO P (nat_lit 77)) (BT.node (rO P (nat_lit 141)) (BT.node (hO P (nat_lit 269)) BT.nil BT.nil) BT.nil) (BT.node (rO P (nat_lit 205)) (BT.node (hO P (nat_lit 333)) BT.nil BT.nil) BT.nil)) (BT.node (rO P (nat_lit 109)) (BT.node (rO P (nat_lit 173)) (BT.node (rO P (nat_lit 301)) BT.nil BT.nil) BT.nil) (BT.node (hO P (nat_lit 237)) BT.nil BT.nil))) (BT.node (hO P (nat_lit 61)) (BT.node (hO P (nat_lit 93)) (BT.node (hO P (nat_lit 157)) (BT.node (rO P (nat_lit 285)) BT.nil BT.nil) BT.nil) (BT.node (hO P (nat_lit 221)) (BT.node (hO P (nat_lit 349)) BT.nil BT.nil) BT.nil)) (BT.node (hO P (nat_lit 125)) (BT.node (hO P (nat_lit 189)) (BT.node (rO P (nat_lit 317)) BT.nil BT.nil) BT.nil) (BT.node (hO P (nat_lit 253)) BT.nil BT.nil))))))) (BT.node (hO P (nat_lit 2)) (BT.node (boot_o_4 P) (BT.node (boot_o_8 P) (BT.node (rO P (nat_lit 16)) (BT.node (hO P (nat_lit 32)) (BT.node (hO P (nat_lit 64)) (BT.node (hO P (nat_lit 128)) (BT.node (hO P (nat_lit 256)) BT.nil BT.nil) BT.nil) (BT.node (hO P (nat_lit 192)) (BT.node (rO P (nat_lit 320)) BT.nil BT.nil) BT.nil)) (BT.node (hO P (nat_lit 96)) (BT.node (hO P (nat_lit 160)) (BT.node (hO P (nat_lit 288)) BT.nil BT.nil) BT.nil) (BT.node (hO P (nat_lit 224)) (BT.node (rO P (nat_lit 352)) BT.nil BT.nil) BT.nil))) (BT.node (hO P (nat_lit 48)) (BT.node (hO P (nat_lit 80)) (BT.node (rO P (nat_lit 144)) (BT.node (hO P (nat_lit 272)) BT.nil BT.nil) BT.nil) (BT.node (rO P (nat_lit 208)) (BT.node (hO P (nat_lit 336)) BT.nil BT.nil) BT.nil)) (BT.node (hO P (nat_lit 112)) (BT.node (hO P (nat_lit 176)) (BT.node (hO P (nat_lit 304)) BT.nil BT.nil) BT.nil) (BT.node (rO P (nat_lit 240)) BT.nil BT.nil)))) (BT.node (rO P (nat_lit 24)) (BT.node (rO P (nat_lit 40)) (BT.node (hO P (nat_lit 72)) (BT.node (hO P (nat_lit 136)) (BT.node (rO P (nat_lit 264)) BT.nil BT.nil) BT.nil) (BT.node (hO P (nat_lit 200)) (BT.node (hO P (nat_lit 328)) BT.nil BT.nil) BT.nil)) (BT.node (rO P (nat_lit 104)) (BT.node (rO P (nat_lit 168)) (BT.node (hO P (nat_lit 296)) BT.nil BT.nil) BT.nil) (BT.node (hO P (nat_lit 232)) BT.nil BT.nil))) (BT.node (rO P (nat_lit 56)) (BT.node (hO P (nat_lit 88)) (BT.node (hO P (nat_lit 152)) (BT.node (hO P (nat_lit 280)) BT.nil BT.nil) BT.nil) (BT.node (hO P (nat_lit 216)) (BT.node (hO P (nat_lit 344)) BT.nil BT.nil) BT.nil)) (BT.node (rO P (nat_lit 120)) (BT.node (rO P (nat_lit 184)) (BT.node (hO P (nat_lit 312)) BT.nil BT.nil) BT.nil) (BT.node (hO P (nat_lit 248)) BT.nil BT.nil))))) (BT.node (cn0 P) (BT.node (hO P (nat_lit 20)) (BT.node (rO P (nat_lit 36)) (BT.node (hO P (nat_lit 68)) (BT.node (hO P (nat_lit 132)) (BT.node (hO P (nat_lit 260)) BT.nil BT.nil) BT.nil) (BT.node (hO P (nat_lit 196)) (BT.node (rO P (nat_lit 324)) BT.nil BT.nil) BT.nil)) (BT.node (rO P (nat_lit 100)) (BT.node (hO P (nat_lit 164)) (BT.node (rO P (nat_lit 292)) BT.nil BT.nil) BT.nil) (BT.node (hO P (nat_lit 228)) BT.nil BT.nil))) (BT.node (rO P (nat_lit 52)) (BT.node (rO P (nat_lit 84)) (BT.node (rO P (nat_lit 148)) (BT.node (hO P (nat_lit 276)) BT.nil BT.nil) BT.nil) (BT.node (rO P (nat_lit 212)) (BT.node (hO P (nat_lit 340)) BT.nil BT.nil) BT.nil)) (BT.node (hO P (nat_lit 116)) (BT.node (rO P (nat_lit 180)) (BT.node (hO P (nat_lit 308)) BT.nil BT.nil) BT.nil) (BT.node (hO P (nat_lit 244)) BT.nil BT.nil)))) (BT.node (rO P (nat_lit 28)) (BT.node (hO P (nat_lit 44)) (BT.node (hO P (nat_lit 76)) (BT.node (hO P (nat_lit 140)) (BT.node (rO P (nat_lit 268)) BT.nil BT.nil) BT.nil) (BT.node (hO P (nat_lit 204)) (BT.node (hO P (nat_lit 332)) BT.nil BT.nil) BT.nil)) (BT.node (hO P (nat_lit 108)) (BT.node (rO P (nat_lit 172)) (BT.node (rO P (nat_lit 300)) BT.nil BT.nil) BT.nil) (BT.node (rO P (nat_lit 236)) BT.nil BT.nil))) (BT.node (rO P (nat_lit 60)) (BT.node (rO P (nat_lit 92)) (BT.node (hO P (nat_lit 156)) (BT.node (hO P (nat_lit 284)) BT.nil BT.nil) BT.nil) (BT.node (hO P (nat_lit 220)) (BT.node (rO P (nat_lit 348)) BT.nil BT.nil) BT.nil)) (BT.node (hO P (nat_lit 124)) (BT.node (hO P (nat_lit 188)) (BT.node (hO P (nat_lit 316)) BT.nil BT.nil) BT.nil) (BT.node (hO P (nat_lit 252)) BT.nil BT.nil)))))) (BT.node (boot_o_6 P) (BT.node (boot_o_10 P) (BT.node (hO P (nat_lit 18)) (BT.node (rO P (nat_lit 34)) (BT.node (rO P (nat_lit 66)) (BT.node (rO P (nat_lit 130)) (BT.node (hO P (nat_lit 258)) BT.nil BT.nil) BT.nil) (BT.node (rO P (nat_lit 194)) (BT.node (hO P (nat_lit 322)) BT.nil BT.nil) BT.nil)) (BT.node (rO P (nat_lit 98)) (BT.node (rO P (nat_lit 162)) (BT.node (hO P (nat_lit 290)) BT.nil BT.nil) BT.nil) (BT.node (rO P (nat_lit 226)) (BT.node (hO P (nat_lit 354)) BT.nil BT.nil) BT.nil))) (BT.node (hO P (nat_lit 50)) (BT.node (rO P (nat_lit 82)) (BT.node (hO P (nat_lit 146)) (BT.node (hO P (nat_lit 274)) BT.nil BT.nil) BT.nil) (BT.node (hO P (nat_lit 210)) (BT.node (rO P (nat_lit 338)) BT.nil BT.nil) BT.nil)) (BT.node (hO P (nat_lit 114)) (BT.node (hO P (nat_lit 178)) (BT.node (rO P (nat_lit 306)) BT.nil BT.nil) BT.nil) (BT.node (hO P (nat_lit 242)) BT.nil BT.nil)))) (BT.node (rO P (nat_lit 26)) (BT.node (hO P (nat_lit 42)) (BT.node (hO P (nat_lit 74)) (BT.node (hO P (nat_lit 138)) (BT.node (hO P (nat_lit 266)) BT.nil BT.nil) BT.nil) (BT.node (hO P (nat_lit 202)) (BT.node (hO P (nat_lit 330)) BT.nil BT.nil) BT.nil)) (BT.node (rO P (nat_lit 106)) (BT.node (rO P (nat_lit 170)) (BT.node (hO P (nat_lit 298)) BT.nil BT.nil) BT.nil) (BT.node (hO P (nat_lit 234)) BT.nil BT.nil))) (BT.node (rO P (nat_lit 58)) (BT.node (hO P (nat_lit 90)) (BT.node (hO P (nat_lit 154)) (BT.node (rO P (nat_lit 282)) BT.nil BT.nil) BT.nil) (BT.node (hO P (nat_lit 218)) (BT.node (hO P (nat_lit 346)) BT.nil BT.nil) BT.nil)) (BT.node (hO P (nat_lit 122)) (BT.node (hO P (nat_lit 186)) (BT.node (hO P (nat_lit 314)) BT.nil BT.nil) BT.nil) (BT.node (rO P (nat_lit 250)) BT.nil BT.nil))))) (BT.node (rO P (nat_lit 14)) (BT.node (hO P (nat_lit 22)) (BT.node (rO P (nat_lit 38)) (BT.node (rO P (nat_lit 70)) (BT.node (rO P (nat_lit 134)) (BT.node (hO P (nat_lit 262)) BT.nil BT.nil) BT.nil) (BT.node (rO P (nat_lit 198)) (BT.node (hO P (nat_lit 326)) BT.nil BT.nil) BT.nil)) (BT.node (rO P (nat_lit 102)) (BT.node (hO P (nat_lit 166)) (BT.node (hO P (nat_lit 294)) BT.nil BT.nil) BT.nil) (BT.node (hO P (nat_lit 230)) BT.nil BT.nil))) (BT.node (rO P (nat_lit 54)) (BT.node (hO P (nat_lit 86)) (BT.node (hO P (nat_lit 150)) (BT.node (rO P (nat_lit 278)) BT.nil BT.nil) BT.nil) (BT.node (hO P (nat_lit 214)) (BT.node (hO P (nat_lit 342)) BT.nil BT.nil) BT.nil)) (BT.node (rO P (nat_lit 118)) (BT.node (hO P (nat_lit 182)) (BT.node (rO P (nat_lit 310)) BT.nil BT.nil) BT.nil) (BT.node (hO P (nat_lit 246)) BT.nil BT.nil)))) (BT.node (hO P (nat_lit 30)) (BT.node (rO P (nat_lit 46)) (BT.node (hO P (nat_lit 78)) (BT.node (hO P (nat_lit 142)) (BT.node (hO P (nat_lit 270)) BT.nil BT.nil) BT.nil) (BT.node (hO P (nat_lit 206)) (BT.node (rO P (nat_lit 334)) BT.nil BT.nil) BT.nil)) (BT.node (hO P (nat_lit 110)) (BT.node (rO P (nat_lit 174)) (BT.node (hO P (nat_lit 302)) BT.nil BT.nil) BT.nil) (BT.node (hO P (nat_lit 238)) BT.nil BT.nil))) (BT.node (hO P (nat_lit 62)) (BT.node (hO P (nat_lit 94)) (BT.node (rO P (nat_lit 158)) (BT.node (hO P (nat_lit 286)) BT.nil BT.nil) BT.nil) (BT.node (rO P (nat_lit 222)) (BT.node (hO P (nat_lit 350)) BT.nil BT.nil) BT.nil)) (BT.node (hO P (nat_lit 126)) (BT.node (hO P (nat_lit 190)) (BT.node (hO P (nat_lit 318)) BT.nil BT.nil) BT.nil) (BT.node (rO P (nat_lit 254)) BT.nil BT.nil))))))))
noncomputable def st_28 (w : World) (os : OsState) : SharedT := ⟨tr_28 w.params, nat_lit 356, (boot_heap w.params).life, #[], boot_drawn, nat_lit 678, os⟩
theorem pc_open (w : World) : (fencedOpening treeTable prg w 4752).map (fun s => (s.heap, s.gens, s.drawn, s.toks)) = some (boot_heap w.params, Array.mk [], boot_drawn, boot_toks) := by kernel_rfl
theorem pc_size (w : World) : ((boot_heap w.params).isNs mainGlobals && (Array.mk [] : Array GenState).size == 0, (boot_heap w.params).objs.size, (boot_heap w.params).nsMap mainGlobals "__annotations__") = (true, 11, ann0) := by kernel_rfl
theorem pc_pre (w : World) (os : OsState) : topGo treeTable prg w 11 ann0 12 ⟨boot_heap w.params, Array.mk [], boot_drawn, boot_toks, os⟩ (topStub prg) = some ((st_pre w os).abs, ⟨denote treeTable cd0, cd0, ps0, B0⟩) := by kernel_rfl
theorem pc_blk (w : World) (os : OsState) : segRun treeTable prg w 11 ann0 1 1 (st_pre w os).abs (blockOf bdy env0 cd0 ps0 B0) = some (.next, (st_pre w os).abs, cd0, ps0) := by kernel_rfl
theorem pc_18 (w : World) (os : OsState) : segRunT treeTable prg w 11 ann0 1 1274 (st_pre w os) (piecesOf [top0, top1, top2, top3, top4, top5, top6, top7, top8, top9, top10, top11, top12, top13, top14, top15, top16, top17, top18] env0 cd0 ⟨0, 0, 0, 0⟩ B0) = some (.next, st_18 w os, cd0, ⟨61, 0, 65, 16⟩) := by kernel_rfl
theorem pc_28 (w : World) (os : OsState) : segRunT treeTable prg w 11 ann0 1 1041 (st_18 w os) (piecesOf [top19, top20, top21, top22, top23, top24, top25, top26, top27, top28] env0 cd0 ⟨61, 0, 65, 16⟩ B0) = some (.next, st_28 w os, cd0, ⟨317, 0, 350, 15⟩) := by kernel_rfl
theorem pc_fin (w : World) (os : OsState) : topRun treeTable prg w 11 ann0 2 (st_28 w os).abs ⟨doneF .next, cd0, ⟨317, 0, 350, 15⟩, B0⟩ = some (st_28 w os).abs := by kernel_rfl
theorem bdy_eq : bdy = [top0, top1, top2, top3, top4, top5, top6, top7, top8, top9, top10, top11, top12, top13, top14, top15, top16, top17, top18] ++ ([top19, top20, top21, top22, top23, top24, top25, top26, top27, top28] ++ []) := by kernel_rfl
theorem pc_run (w : World) (os : OsState) : topRun treeTable prg w 11 ann0 2330 ⟨boot_heap w.params, Array.mk [], boot_drawn, boot_toks, os⟩ (topStub prg) = some (st_28 w os).abs := by
  have k := piece_nil (env := env0) (pc_fin w os)
  have k := piece_app (segRun_of (pc_28 w os)) k
  have k := piece_app (segRun_of (pc_18 w os)) k
  rw [← bdy_eq] at k
  exact go_top (pc_pre w os) (piece_block (pc_blk w os) k)
noncomputable abbrev hdX : Shared → Bool := fun s => xlAt hd.view_39 [] s && recOk (RowW.records PySem.Challenge.rw_ov0064_01.row.toRowW) s
noncomputable def heap1 (P : Params) : Heap := absHeap (tr_28 P) (nat_lit 356) (boot_heap P).life
theorem lk_1 (w : World) (os : OsState) : (staticsOk (importedModules prg.main.body) (boot_heap w.params) (heap1 w.params) && namesBound prg (heap1 w.params) && gensDone ⟨heap1 w.params, #[], boot_drawn, nat_lit 678, os⟩ && laidKept (boot_heap w.params) (heap1 w.params)) = true := by kernel_rfl
theorem lk_2 (w : World) (os : OsState) : openSeen hd.view_39 [Str.ofString "number"] (importedModules prg.main.body) hdX true ⟨heap1 w.params, #[], boot_drawn, nat_lit 678, os⟩ = openGood hd.view_39 [Str.ofString "number"] := by kernel_rfl
theorem lk_3 (w : World) (os : OsState) : Hook.obs hdH ⟨heap1 w.params, #[], boot_drawn, nat_lit 678, os⟩ = Hook.val hdH w := by kernel_rfl
theorem hd_left : LeftO PySem.Challenge.rw_ov0064_01.row.toRowW.1 hd.view_39 [Str.ofString "number"] hdX (Hook.obs hdH) (Hook.val hdH) 4752 :=
  LeftO.of_pieces (H₁ := heap1) (d₁ := boot_drawn) (k₁ := nat_lit 678) (gs₁ := #[]) pc_open pc_size (fun w os => pc_run w os) (by decide) fun w => funext fun os => Prod.ext (lk_1 w os) (Prod.ext (lk_2 w os) (lk_3 w os))
theorem ws : (PySem.Challenge.rw_ov0064_01).wellSaid = true := by
  unfold OpenLaw.wellSaid OpenRow.wellSaid OpenRow.partSaid looksOpen
  repeat' (with_reducible refine look_both ?_ ?_)
  all_goals decide +kernel
theorem hd (call : WalkO hd.view_39 [Str.ofString "number"] (XL hd.view_39 []) (kHook hd.heap_39 hdAs hdAs_eq).says PySem.Challenge.rw_ov0064_01.row.toRowW lawD lawK fun f vs => PySem.call f vs) : PySem.Challenge.rw_ov0064_01.Holds := by
  refine holds_law ws fun said => ?_
  refine holds_open (q := hd.view_39) (loose := [Str.ofString "number"]) (Xt := fun s => xlAt hd.view_39 [] s && recOk (RowW.records PySem.Challenge.rw_ov0064_01.row.toRowW) s) (XP := XL hd.view_39 []) (Yf := Hook.obs hdH) (Ya := Hook.val hdH) (YP := Hook.says hdH) (N := 4752) ?hl (Hook.of hdH) (Hook.keeps hdH) (fun s e => xl_of s (Bool.and_eq_true_iff.mp e).1) XL.keeps (by rfl) (by rfl) (by rfl) (fun s e => recFacts_of (Bool.and_eq_true_iff.mp e).2) (by rfl) (by first | assumption | decide +kernel) (by decide +kernel) ⟨rfl, rfl, rfl, rfl, rfl, by decide +kernel⟩ ?hw call
  case hw => w_witness2
  case hl => exact hd_left
end
local macro_rules | `(tactic| k_room) => `(tactic| ((try simp only [depth_mark, depth_under_make, depth_under_kw, depth_in1, depth_deeper, depth_caller]); (try dsimp only [ktrTop, recursionLimit]); omega))
local macro_rules | `(tactic| k_mem) => `(tactic| assumption)
local macro_rules | `(tactic| k_all) => `(tactic| assumption)
local macro_rules | `(tactic| walk_at $s:str) => `(tactic| k_extra $s)
local macro_rules | `(tactic| k_qdec) => `(tactic| decide +kernel)
section
noncomputable abbrev Spec (w : World) (loose : List Str) (mean : ExcName → Option Value) (mg mb : Str → Option Value) (f : Addr) (vs : List Value) (need : Nat) (news : List (Addr × Obj)) (R : Heap → Addr → (Str → Option Value) → Shared → (Value → Shared → Prop) → Prop) (Er : Heap → List Env → Heap → Addr → (Str → Option Value) → Shared → (Value → Shared → Prop) → Prop) : Prop :=
  ∀ {dp un : Nat} {gd : Option (List Code)} {cn : Str} {cs : Scope} {a : Addr} {ccd : Value} {cl : List (Str × Addr)} {outer : List Env} {A₀ : Around} {base h₀ : Heap} {L : Addr} {m : Str → Option Value} {s : Shared} {Q E : Value → Shared → Prop},
    Below A₀ base outer h₀ → Fr h₀ L s.heap m → (hd.heap_39 w.params).In h₀ → News h₀ L s.heap news → Top hd.view_39 loose mean mg mb h₀ → cs.kind = .function →
    dp + need < 800 → un + 8 * need < 9900 → R h₀ L m s Q → Er base (envX cn cs L a ccd cl :: outer) h₀ L m s E →
      wpAny (model PySem.Challenge.rw_ov0064_01.row.prog w) (ktrTop dp un gd cn cs L a ccd cl outer) (call (.ref f) vs) Q E s
theorem Spec_sub {w : World} {loose : List Str} {mean : ExcName → Option Value} {mg mb : Str → Option Value} {f : Addr} {vs : List Value} {need : Nat} {news news' : List (Addr × Obj)} {R : Heap → Addr → (Str → Option Value) → Shared → (Value → Shared → Prop) → Prop} {Er : Heap → List Env → Heap → Addr → (Str → Option Value) → Shared → (Value → Shared → Prop) → Prop}
    (h : Spec w loose mean mg mb f vs need news R Er) (hs : ∀ p ∈ news, p ∈ news') : Spec w loose mean mg mb f vs need news' R Er := by
  intro dp un gd cn cs a ccd cl outer A₀ base h₀ L m s Q E B F X N T hk hdp hu hret he
  exact h B F X (fun p hp => N p (hs p hp)) T hk hdp hu hret he
/-- it gives back a value that stands apart from the heap, and the ledger stays -/
noncomputable abbrev Gives (news : List (Addr × Obj)) (v : Tok → Value) : Heap → Addr → (Str → Option Value) → Shared → (Value → Shared → Prop) → Prop :=
  fun h₀ L m s Q => ∀ (t : Tok) (h' : Heap) (tk' : Nat), Fr h₀ L h' m → News h₀ L h' news → Q (v t) { s with heap := h', toks := tk' }
noncomputable abbrev NoErr : Heap → List Env → Heap → Addr → (Str → Option Value) → Shared → (Value → Shared → Prop) → Prop := fun _ _ _ _ _ _ _ => True

/-- shut against unfolding: by recursion on a measure -/
noncomputable def cutL (n : Nat) (tx : Str) (i j : Int) : Str := if n = 0 then Txt.slice tx (some i) (some j) else cutL (n - 1) tx i j
termination_by n
noncomputable def subS (tx : Str) (i j : Int) : Str := cutL 0 tx i j
theorem subS_def (tx : Str) (i j : Int) : subS tx i j = Txt.slice tx (some i) (some j) := by
  unfold subS
  rw [cutL, if_pos rfl]
noncomputable def chr (tx : Str) (i : Int) : Str := cutL 0 tx i (i + 1)
theorem chr_def (tx : Str) (i : Int) : chr tx i = Txt.slice tx (some i) (some (i + 1)) := by
  unfold chr
  rw [cutL, if_pos rfl]
theorem slice_subS {prog : Program} {w : World} {A : Around} {E : Value → Shared → Prop} {s : Shared} {value slice : PySem.Expr} {x : Str} {t : Tok} {h₀ : Heap} {L : Addr} {m : Str → Option Value} {news : List (Addr × Obj)} {Q : Value → Shared → Prop} {i j : Int} {ui uj : Tok}
    (hF : Fr h₀ L s.heap m) (hN : News h₀ L s.heap news) (h : ∀ h' t' k, Fr h₀ L h' m → News h₀ L h' news → (subS x i j).length ≤ x.length → Q (.str (subS x i j) t') { s with heap := h', toks := k })
    (hs : subscripted slice false (.str x t) (.ref s.heap.objs.size) = operate [.ref s.heap.objs.size, .str x t] (getItem (.str x t) (.ref s.heap.objs.size)))
    (ht : ∀ r, letTemporaryGo value (.str x t) r = pure ()) (hsz : x.length ≤ PySem.sizeLine) :
    wpAny (PySem.model prog w) A (subscriptTail value slice (.str x t) (.ref s.heap.objs.size)) Q E { s with heap := s.heap.push { cls := .type "slice", data := .fields #[.int i ui, .int j uj, .none] } } :=
  slice_strN_ss_len hF hN (fun h' t' k a b c => by
    rw [← subS_def] at c ⊢
    exact h h' t' k a b c) hs ht hsz
structure LexK where
  x : Addr
  dx : Addr
  kt : Addr
  ta : Tok
  tb : Tok
  tc : Tok
  td : Tok
  tt : Tok
noncomputable abbrev lexD (P : Params) (k : LexK) (tx : Str) (at_ : Int) (tv : Tok) (nl : Bool) : Obj :=
  dictOf [⟨PyData.keyHash P (Str.ofString "text"), .str (Str.ofString "text") k.ta, .str tx k.tt⟩, ⟨PyData.keyHash P (Str.ofString "at"), .str (Str.ofString "at") k.tb, .int at_ tv⟩, ⟨PyData.keyHash P (Str.ofString "newline"), .str (Str.ofString "newline") k.tc, .bool nl⟩, ⟨PyData.keyHash P (Str.ofString "keys"), .str (Str.ofString "keys") k.td, .ref k.kt⟩] 4

noncomputable def leS (a b : Str) : Bool := !decide (b.cps.toList < a.cps.toList)
noncomputable def isDigitS (c : Str) : Bool := leS (Str.ofString "0") c && leS c (Str.ofString "9")
noncomputable def isLetterS (c : Str) : Bool := (leS (Str.ofString "a") c && leS c (Str.ofString "z")) || (leS (Str.ofString "A") c && leS c (Str.ofString "Z"))
noncomputable def isNameS (c : Str) : Bool := isLetterS c || isDigitS c || c == Str.ofString "." || c == Str.ofString "_"
noncomputable def hexV (c : Str) : Int := if (c == Str.ofString "") = true then -1 else Txt.find (Str.ofString "0123456789abcdef") (Txt.lower c)
noncomputable def scanF (p : Str → Bool) (tx : Str) : Nat → Int → Int
  | 0, i => i
  | n + 1, i => if p (chr tx i) then scanF p tx n (i + 1) else i
/-- shut against unfolding: by recursion on a measure -/
noncomputable def scanL (n : Nat) (p : Str → Bool) (tx : Str) (i : Int) : Int := if n = 0 then scanF p tx (tx.length + 1 - i.toNat) i else scanL (n - 1) p tx i
termination_by n
noncomputable def scan (p : Str → Bool) (tx : Str) (i : Int) : Int := scanL 0 p tx i
theorem scan_def (p : Str → Bool) (tx : Str) (i : Int) : scan p tx i = scanF p tx (tx.length + 1 - i.toNat) i := by
  unfold scan
  rw [scanL, if_pos rfl]
/-- the walk's own halt: the goal behind it is taken by hand -/
noncomputable def Halt (P : Prop) : Prop := P
theorem Halt.mk {P : Prop} (h : Halt P) : P := h
structure TokK where
  t : Addr
  dt : Addr
  ka : Tok
  kb : Tok
  kc : Tok
  kd : Tok
  va : Tok
  vc : Tok
noncomputable abbrev tokD (P : Params) (c : TokK) (kind : Str) (v : Value) (at_ : Int) (nl : Bool) : Obj :=
  dictOf [⟨PyData.keyHash P (Str.ofString "kind"), .str (Str.ofString "kind") c.ka, .str kind c.va⟩, ⟨PyData.keyHash P (Str.ofString "value"), .str (Str.ofString "value") c.kb, v⟩, ⟨PyData.keyHash P (Str.ofString "at"), .str (Str.ofString "at") c.kc, .int at_ c.vc⟩, ⟨PyData.keyHash P (Str.ofString "newline"), .str (Str.ofString "newline") c.kd, .bool nl⟩] 4
noncomputable abbrev keysT (q : Nat → Tok) : Obj := { cls := .type "tuple", data := .seq #[.str (Str.ofString "if") (q 0), .str (Str.ofString "else") (q 1), .str (Str.ofString "repeat") (q 2), .str (Str.ofString "while") (q 3), .str (Str.ofString "function") (q 4), .str (Str.ofString "for") (q 5), .str (Str.ofString "next") (q 6), .str (Str.ofString "break") (q 7), .str (Str.ofString "in") (q 8), .str (Str.ofString "TRUE") (q 9), .str (Str.ofString "FALSE") (q 10), .str (Str.ofString "NULL") (q 11), .str (Str.ofString "Inf") (q 12), .str (Str.ofString "NaN") (q 13), .str (Str.ofString "NA") (q 14), .str (Str.ofString "NA_integer_") (q 15), .str (Str.ofString "NA_real_") (q 16), .str (Str.ofString "NA_character_") (q 17)] }
/-- a token is given back: its record, its fields, the lexer's record turned -/
noncomputable abbrev GivesTok (P : Params) (k : LexK) (tx kind : Str) (v : Value) (at_ en : Int) (nl : Bool) (rest : List (Addr × Obj)) : Heap → Addr → (Str → Option Value) → Shared → (Value → Shared → Prop) → Prop :=
  fun h₀ L m s Q => ∀ (c : TokK) (te : Tok) (h' : Heap) (tk' : Nat), Fr h₀ L h' m → News h₀ L h' ((c.t, instObj 114 c.dt) :: (c.dt, tokD P c kind v at_ nl) :: (k.dx, lexD P k tx en te nl) :: rest) → c.t ≠ k.dx → c.dt ≠ k.dx → Q (.ref c.t) { s with heap := h', toks := tk' }
structure ExcK where
  ka : Tok
  kb : Tok
  va : Tok
  vb : Tok
noncomputable abbrev excD (P : Params) (c : ExcK) (kind : Str) (at_ : Int) : Obj :=
  dictOf [⟨PyData.keyHash P (Str.ofString "kind"), .str (Str.ofString "kind") c.ka, .str kind c.va⟩, ⟨PyData.keyHash P (Str.ofString "at"), .str (Str.ofString "at") c.kb, .int at_ c.vb⟩] 2
structure VecK where
  v : Addr
  dv : Addr
  l : Addr
  tp : Addr
  ka : Tok
  kb : Tok
  kc : Tok
  kd : Tok
  ke : Tok
  va : Tok
  vn : Tok
  vd : Tok
  nl : Nat
noncomputable abbrev vecD (P : Params) (c : VecK) (kind : Str) : Obj :=
  dictOf [⟨PyData.keyHash P (Str.ofString "kind"), .str (Str.ofString "kind") c.ka, .str kind c.va⟩, ⟨PyData.keyHash P (Str.ofString "items"), .str (Str.ofString "items") c.kb, .ref c.l⟩, ⟨PyData.keyHash P (Str.ofString "attrs"), .str (Str.ofString "attrs") c.kc, .none⟩, ⟨PyData.keyHash P (Str.ofString "shared"), .str (Str.ofString "shared") c.kd, .bool false⟩, ⟨PyData.keyHash P (Str.ofString "loose"), .str (Str.ofString "loose") c.ke, .bool false⟩] 5
/-- a double: its record, its fields, its list of one pair -/
noncomputable abbrev dblO (P : Params) (c : VecK) (n d : Int) : List (Addr × Obj) :=
  [(c.v, instObj 78 c.dv), (c.dv, vecD P c (Str.ofString "double")), (c.l, PySem.W.listOf #[.ref c.tp] c.nl), (c.tp, { cls := .type "tuple", data := .seq #[.int n c.vn, .int d c.vd] })]
/-- an integer: its record, its fields, its list of one int -/
noncomputable abbrev intO (P : Params) (c : VecK) (n : Int) : List (Addr × Obj) :=
  [(c.v, instObj 78 c.dv), (c.dv, vecD P c (Str.ofString "integer")), (c.l, PySem.W.listOf #[.int n c.vn] c.nl)]
/-- what a token's value may be: a text, a whole number, a double as a fraction -/
inductive TV where
  | str (x : Str)
  | int (n : Int)
  | dbl (n d : Int)
noncomputable def ValIs (P : Params) (tv : TV) (v : Value) (add : List (Addr × Obj)) : Prop := match tv with
  | .str x => add = [] ∧ ∃ t, v = .str x t
  | .int n => ∃ c, v = .ref (VecK.v c) ∧ add = intO P c n
  | .dbl n d => ∃ c, v = .ref (VecK.v c) ∧ add = dblO P c n d
/-- a token is given back, its value's own objects too -/
noncomputable abbrev GivesVal (P : Params) (k : LexK) (tx kind : Str) (tv : TV) (at_ en : Int) (nl : Bool) (rest : List (Addr × Obj)) : Heap → Addr → (Str → Option Value) → Shared → (Value → Shared → Prop) → Prop :=
  fun h₀ L m s Q => ∀ (v : Value) (add : List (Addr × Obj)), ValIs P tv v add → (∀ p ∈ add, p.1 ≠ k.dx) → GivesTok P k tx kind v at_ en nl (add ++ rest) h₀ L m s Q
end
section
theorem slice_gen {x : Str} {i j : Int} (h0 : 0 ≤ i) (h1 : i ≤ j) : Txt.slice x (some i) (some j) = ⟨((x.cps.toList.drop i.toNat).take (j - i).toNat).toArray⟩ := by
  have hl : x.length = x.cps.toList.length := by simp [Str.length]
  have hj0 := Int.le_trans h0 h1
  have hL : (0 : Int) ≤ x.length := Int.natCast_nonneg _
  have e : Txt.slice x (some i) (some j) = Txt.slice x (some (min i x.length)) (some (min j x.length)) := by
    unfold Txt.slice Builtin.Str.strSliceIndices
    simp only [show (1 : Int) > 0 by decide, if_true, if_neg (Int.not_lt.mpr h0), if_neg (Int.not_lt.mpr hj0), if_neg (Int.not_lt.mpr (Int.le_min.mpr ⟨h0, hL⟩)), if_neg (Int.not_lt.mpr (Int.le_min.mpr ⟨hj0, hL⟩)), Int.min_assoc, Int.min_self]
  rw [e, beq_iff_eq.mp (slice_closes (x := x) (i := min i x.length) (j := min j x.length) ⟨Int.le_min.mpr ⟨h0, hL⟩, Int.le_min.mpr ⟨Int.le_trans (Int.min_le_left _ _) h1, Int.min_le_right _ _⟩, hl ▸ Int.min_le_right _ _⟩)]
  congr 2
  obtain ⟨a, rfl⟩ := Int.eq_ofNat_of_zero_le h0
  obtain ⟨b, rfl⟩ := Int.eq_ofNat_of_zero_le hj0
  by_cases hi : a ≤ x.length
  · rw [Int.min_eq_left (Int.ofNat_le.mpr hi)]
    by_cases hj : b ≤ x.length
    · rw [Int.min_eq_left (Int.ofNat_le.mpr hj)]
    · have hj' := Nat.le_of_lt (Nat.lt_of_not_le hj)
      rw [Int.min_eq_right (Int.ofNat_le.mpr hj')]
      rw [Int.toNat_sub, Int.toNat_sub, Int.toNat_natCast, List.take_of_length_le (by rw [List.length_drop, hl]; exact Nat.le_refl _), List.take_of_length_le (by rw [List.length_drop, ← hl]; exact Nat.sub_le_sub_right hj' _)]
  · have hi' := Nat.le_of_lt (Nat.lt_of_not_le hi)
    rw [Int.min_eq_right (Int.ofNat_le.mpr hi'), Int.min_eq_right (Int.ofNat_le.mpr (Nat.le_trans hi' (Int.ofNat_le.mp h1)))]
    rw [Int.toNat_natCast, Int.toNat_natCast, List.drop_of_length_le (Nat.le_of_eq hl.symm), List.drop_of_length_le (hl ▸ hi')]
    simp
noncomputable def nilS : Str := ⟨#[]⟩
noncomputable def chO (o : Option Nat) : Str := match o with
  | some c => ⟨#[c]⟩
  | none => nilS
theorem chr_eq {tx : Str} {i : Int} (h : 0 ≤ i) : chr tx i = chO tx.cps.toList[i.toNat]? := by
  rw [chr_def]
  rw [slice_gen h (by omega), show (i + 1 - i).toNat = 1 by omega]
  cases hc : tx.cps.toList[i.toNat]? with
  | none =>
    rw [List.drop_of_length_le (List.getElem?_eq_none_iff.mp hc)]
    rfl
  | some c =>
    obtain ⟨hl, he⟩ := List.getElem?_eq_some_iff.mp hc
    rw [List.drop_eq_getElem_cons hl, he]
    rfl
theorem chr_out {tx : Str} {i : Int} (h0 : 0 ≤ i) (h : (tx.length : Int) ≤ i) : chr tx i = nilS := by
  rw [chr_eq h0, List.getElem?_eq_none (by simp [Str.length] at h ⊢; omega)]
  rfl
theorem chr_len {tx : Str} {i : Int} (h : 0 ≤ i) : (chr tx i).length ≤ 1 := by
  rw [chr_eq h]
  cases tx.cps.toList[i.toNat]? with
  | none => exact Nat.zero_le _
  | some c => exact Nat.le_refl _
theorem in_lt {p : Str → Bool} {tx : Str} {i : Int} (hp : p nilS = false) (h0 : 0 ≤ i) (h : p (chr tx i) = true) : i < tx.length := by
  apply Int.lt_of_not_ge
  intro hge
  rw [chr_out h0 hge, hp] at h
  cases h
theorem scanF_more {p : Str → Bool} {tx : Str} (hp : p nilS = false) : ∀ (n : Nat) (i : Int), 0 ≤ i → tx.length < n + i.toNat → scanF p tx (n + 1) i = scanF p tx n i
  | 0, i, h0, hn => by
    unfold scanF
    rw [chr_out h0 (by omega), hp]
    rfl
  | n + 1, i, h0, hn => by
    show (if p (chr tx i) then scanF p tx (n + 1) (i + 1) else i) = (if p (chr tx i) then scanF p tx n (i + 1) else i)
    rw [scanF_more hp n (i + 1) (by omega) (by omega)]
theorem scan_step {p : Str → Bool} {tx : Str} {i : Int} (hp : p nilS = false) (h0 : 0 ≤ i) (h : p (chr tx i) = true) : scan p tx (i + 1) = scan p tx i := by
  have hl := in_lt hp h0 h
  rw [scan_def, scan_def]
  obtain ⟨a, rfl⟩ := Int.eq_ofNat_of_zero_le h0
  have hl' : a ≤ tx.length := Nat.le_of_lt (Int.ofNat_lt.mp hl)
  have e : ((a : Int) + 1).toNat = a + 1 := rfl
  rw [e, Int.toNat_natCast, Nat.add_sub_add_right, Nat.succ_sub hl']
  show _ = (if p (chr tx a) then scanF p tx (tx.length - a) (a + 1) else a)
  rw [if_pos h]
theorem scan_stop {p : Str → Bool} {tx : Str} {i : Int} (h : p (chr tx i) = false) : scan p tx i = i := by
  rw [scan_def]
  cases tx.length + 1 - i.toNat with
  | zero => rfl
  | succ n => unfold scanF; rw [h]; rfl
theorem isDigitS_nil : isDigitS nilS = false := by decide +kernel
theorem isNameS_nil : isNameS nilS = false := by decide +kernel
/-- a turn of a scanning loop -/
theorem scan_turn {p : Str → Bool} {tx : Str} {i e : Int} (hp : p nilS = false) (h0 : 0 ≤ i) (h1 : i ≤ e) (h2 : scan p tx e = scan p tx i) (h : p (chr tx e) = true) : i ≤ e + 1 ∧ scan p tx (e + 1) = scan p tx i :=
  ⟨by omega, (scan_step hp (by omega) h).trans h2⟩
theorem scan_less {p : Str → Bool} {tx : Str} {i e : Int} (hp : p nilS = false) (h0 : 0 ≤ i) (h1 : i ≤ e) (h : p (chr tx e) = true) : ((tx.length : Int) + 1 - (e + 1)).toNat < ((tx.length : Int) + 1 - e).toNat := by
  have := in_lt hp (by omega) h
  omega
theorem scan_end {p : Str → Bool} {tx : Str} {i e : Int} (h2 : scan p tx e = scan p tx i) (h : p (chr tx e) = false) : e = scan p tx i := by
  rw [← h2, scan_stop h]
theorem scan_ge {p : Str → Bool} {tx : Str} {i : Int} : i ≤ scan p tx i := by
  rw [scan_def]
  have all : ∀ (n : Nat) (i : Int), i ≤ scanF p tx n i := by
    intro n
    induction n with
    | zero => intro i; exact Int.le_refl _
    | succ n ih =>
      intro i
      unfold scanF
      split
      · have := ih (i + 1); omega
      · exact Int.le_refl _
  exact all _ _
noncomputable def remP (c : Str) : Bool := !([Str.ofString "", Str.ofString "\n"].any (· == c))
noncomputable def blankP (c : Str) : Bool := !(Builtin.Str.occurrences (Str.ofString " \t\r\x0c") c 0 (Str.ofString " \t\r\x0c").length 1).isEmpty
noncomputable def skipF (tx : Str) : Nat → Int → Bool → Int × Bool
  | 0, i, b => (i, b)
  | n + 1, i, b =>
    if chr tx i == Str.ofString "\n" then skipF tx n (i + 1) true
    else if chr tx i == Str.ofString "#" then skipF tx n (scan remP tx (i + 1)) b
    else if chr tx i == Str.ofString "" || !blankP (chr tx i) then (i, b)
    else skipF tx n (i + 1) b
noncomputable def skipE (tx : Str) (i : Int) (b : Bool) : Int × Bool := skipF tx (tx.length + 1 - i.toNat) i b
theorem remP_nil : remP nilS = false := by decide +kernel
theorem eqS_nil_nl : (nilS == Str.ofString "\n") = false := by decide +kernel
theorem eqS_nil_sharp : (nilS == Str.ofString "#") = false := by decide +kernel
theorem eqS_nil_nil : (nilS == Str.ofString "") = true := by decide +kernel
theorem skipF_more (tx : Str) : ∀ (n : Nat) (a : Int) (b : Bool), 0 ≤ a → tx.length < n + a.toNat → skipF tx (n + 1) a b = skipF tx n a b
  | 0, a, b, h0, hn => by
    unfold skipF
    rw [chr_out h0 (by omega), eqS_nil_nl, eqS_nil_sharp, eqS_nil_nil]
    rfl
  | n + 1, a, b, h0, hn => by
    have hs : a + 1 ≤ scan remP tx (a + 1) := scan_ge
    rw [skipF, skipF_more tx n (a + 1) true (by omega) (by omega), skipF_more tx n (a + 1) b (by omega) (by omega), skipF_more tx n (scan remP tx (a + 1)) b (by omega) (by omega)]
    conv => rhs; rw [skipF]
theorem skipF_enough (tx : Str) (n : Nat) (a : Int) (b : Bool) (h0 : 0 ≤ a) (hn : tx.length < n + a.toNat) : skipF tx n a b = skipE tx a b := by
  unfold skipE
  have all : ∀ j : Nat, skipF tx (tx.length + 1 - a.toNat + j) a b = skipF tx (tx.length + 1 - a.toNat) a b := by
    intro j
    induction j with
    | zero => rfl
    | succ j ih => rw [← Nat.add_assoc, skipF_more tx _ a b h0 (by omega), ih]
  have := all (n - (tx.length + 1 - a.toNat))
  rwa [show tx.length + 1 - a.toNat + (n - (tx.length + 1 - a.toNat)) = n by omega] at this
theorem skipE_eq (tx : Str) (a : Int) (b : Bool) (h0 : 0 ≤ a) : skipE tx a b = if chr tx a == Str.ofString "\n" then skipE tx (a + 1) true
    else if chr tx a == Str.ofString "#" then skipE tx (scan remP tx (a + 1)) b
    else if chr tx a == Str.ofString "" || !blankP (chr tx a) then (a, b)
    else skipE tx (a + 1) b := by
  have hs : a + 1 ≤ scan remP tx (a + 1) := scan_ge
  rw [← skipF_enough tx (tx.length + 1 + 1) a b h0 (by omega), skipF, skipF_enough tx _ (a + 1) true (by omega) (by omega), skipF_enough tx _ (a + 1) b (by omega) (by omega), skipF_enough tx _ (scan remP tx (a + 1)) b (by omega) (by omega)]
theorem skip_nl {tx : Str} {a : Int} {b : Bool} {G : Int × Bool} (h0 : 0 ≤ a) (hG : skipE tx a b = G) (h : (chr tx a == Str.ofString "\n") = true) : 0 ≤ a + 1 ∧ skipE tx (a + 1) true = G := by
  rw [skipE_eq tx a b h0, if_pos h] at hG
  exact ⟨by omega, hG⟩
theorem skip_rem {tx : Str} {a a' : Int} {b : Bool} {G : Int × Bool} (h0 : 0 ≤ a) (hG : skipE tx a b = G) (h : (chr tx a == Str.ofString "\n") = false) (h2 : (chr tx a == Str.ofString "#") = true)
    (h3 : a ≤ a') (h4 : scan remP tx (a' + 1) = scan remP tx (a + 1)) (h5 : ([Str.ofString "", Str.ofString "\n"].any fun x => x == chr tx (a' + 1)) = true) : 0 ≤ a' + 1 ∧ skipE tx (a' + 1) b = G := by
  have e : a' + 1 = scan remP tx (a + 1) := scan_end h4 (by unfold remP; rw [h5]; rfl)
  rw [skipE_eq tx a b h0, if_neg (by rw [h]; decide), if_pos h2] at hG
  rw [e]
  exact ⟨by omega, hG⟩
theorem skip_in {tx : Str} {a a' : Int} (h0 : 0 ≤ a) (h3 : a ≤ a') (h4 : scan remP tx (a' + 1) = scan remP tx (a + 1)) (h5 : ([Str.ofString "", Str.ofString "\n"].any fun x => x == chr tx (a' + 1)) = false) : a ≤ a' + 1 ∧ scan remP tx (a' + 1 + 1) = scan remP tx (a + 1) :=
  ⟨by omega, (scan_step remP_nil (by omega) (by unfold remP; rw [h5]; rfl)).trans h4⟩
theorem skip_in_less {tx : Str} {a a' : Int} (h0 : 0 ≤ a) (h3 : a ≤ a') (h5 : ([Str.ofString "", Str.ofString "\n"].any fun x => x == chr tx (a' + 1)) = false) : ((tx.length : Int) + 1 - (a' + 1)).toNat < ((tx.length : Int) + 1 - a').toNat := by
  have := in_lt (tx := tx) (i := a' + 1) remP_nil (by omega) (by unfold remP; rw [h5]; rfl)
  omega
theorem skip_blank {tx : Str} {a : Int} {b : Bool} {G : Int × Bool} (h0 : 0 ≤ a) (hG : skipE tx a b = G) (h : (chr tx a == Str.ofString "\n") = false) (h2 : (chr tx a == Str.ofString "#") = false) (h3 : (chr tx a == Str.ofString "") = false)
    (h4 : (Builtin.Str.occurrences (Str.ofString " \t\r\x0c") (chr tx a) 0 (Str.ofString " \t\r\x0c").length 1).isEmpty = false) : 0 ≤ a + 1 ∧ skipE tx (a + 1) b = G := by
  rw [skipE_eq tx a b h0, if_neg (by rw [h]; decide), if_neg (by rw [h2]; decide), if_neg (by rw [h3]; unfold blankP; rw [h4]; decide)] at hG
  exact ⟨by omega, hG⟩
theorem skip_end1 {tx : Str} {a : Int} {b : Bool} {G : Int × Bool} (h0 : 0 ≤ a) (hG : skipE tx a b = G) (h : (chr tx a == Str.ofString "\n") = false) (h2 : (chr tx a == Str.ofString "#") = false) (h3 : (chr tx a == Str.ofString "") = true) : G = (a, b) := by
  rw [skipE_eq tx a b h0, if_neg (by rw [h]; decide), if_neg (by rw [h2]; decide), if_pos (by rw [h3]; rfl)] at hG
  exact hG.symm
theorem skip_end2 {tx : Str} {a : Int} {b : Bool} {G : Int × Bool} (h0 : 0 ≤ a) (hG : skipE tx a b = G) (h : (chr tx a == Str.ofString "\n") = false) (h2 : (chr tx a == Str.ofString "#") = false)
    (h4 : (Builtin.Str.occurrences (Str.ofString " \t\r\x0c") (chr tx a) 0 (Str.ofString " \t\r\x0c").length 1).isEmpty = true) : G = (a, b) := by
  rw [skipE_eq tx a b h0, if_neg (by rw [h]; decide), if_neg (by rw [h2]; decide), if_pos (by unfold blankP; rw [h4]; simp)] at hG
  exact hG.symm
theorem in_lt_eq {tx x : Str} {a : Int} (hx : (nilS == x) = false) (h0 : 0 ≤ a) (h : (chr tx a == x) = true) : a < tx.length := in_lt (p := fun c => c == x) hx h0 h
theorem in_lt_ne {tx : Str} {a : Int} (h0 : 0 ≤ a) (h : (chr tx a == Str.ofString "") = false) : a < tx.length := by
  refine in_lt (p := fun c => !(c == Str.ofString "")) (by decide +kernel) h0 ?_
  show (!(chr tx a == Str.ofString "")) = true
  rw [h]; rfl
theorem less1 {tx : Str} {a : Int} (h : a < tx.length) : ((tx.length : Int) + 1 - (a + 1)).toNat < ((tx.length : Int) + 1 - a).toNat := by omega
theorem less2 {tx : Str} {a a' : Int} (h : a < tx.length) (h' : a ≤ a') : ((tx.length : Int) + 1 - (a' + 1)).toNat < ((tx.length : Int) + 1 - a).toNat := by omega
noncomputable def pctP (c : Str) : Bool := !(c == Str.ofString "%") && remP c
theorem pctP_nil : pctP nilS = false := by decide +kernel
theorem pctP_of {c : Str} (h1 : (c != Str.ofString "%") = true) (h2 : ([Str.ofString "", Str.ofString "\n"].any fun x => x == c) = false) : pctP c = true := by
  unfold pctP remP
  rw [h2]
  rw [show (c == Str.ofString "%") = false from by simpa using h1]
  rfl
theorem pct_turn {tx : Str} {i e : Int} (h0 : 0 ≤ i) (h1 : i + 1 ≤ e) (h2 : scan pctP tx e = scan pctP tx (i + 1)) (h3 : (chr tx e != Str.ofString "%") = true) (h4 : ([Str.ofString "", Str.ofString "\n"].any fun x => x == chr tx e) = false) : i + 1 ≤ e + 1 ∧ scan pctP tx (e + 1) = scan pctP tx (i + 1) :=
  scan_turn pctP_nil (by omega) h1 h2 (pctP_of h3 h4)
theorem pct_less {tx : Str} {i e : Int} (h0 : 0 ≤ i) (h1 : i + 1 ≤ e) (h3 : (chr tx e != Str.ofString "%") = true) (h4 : ([Str.ofString "", Str.ofString "\n"].any fun x => x == chr tx e) = false) : ((tx.length : Int) + 1 - (e + 1)).toNat < ((tx.length : Int) + 1 - e).toNat :=
  scan_less (i := i + 1) pctP_nil (by omega) h1 (pctP_of h3 h4)
theorem pctP_bad {c : Str} (h2 : ([Str.ofString "", Str.ofString "\n"].any fun x => x == c) = true) : pctP c = false := by
  unfold pctP remP
  rw [h2]
  simp
theorem pctP_end {c : Str} (h1 : (c != Str.ofString "%") = false) : pctP c = false := by
  unfold pctP
  rw [show (c == Str.ofString "%") = true from by simpa using h1]
  rfl
noncomputable def op3 : List Str := [Str.ofString "<<-", Str.ofString "->>", Str.ofString ":::"]
noncomputable def op2 : List Str := [Str.ofString "<<-", Str.ofString "->>", Str.ofString ":::", Str.ofString "<-", Str.ofString "->", Str.ofString "|>", Str.ofString "<=", Str.ofString ">=", Str.ofString "==", Str.ofString "!=", Str.ofString "&&", Str.ofString "||", Str.ofString "::", Str.ofString "[[", Str.ofString "**"]
noncomputable def opC : Str := Str.ofString "+-*/^<>=!&|~?:$@(){}[],;\\"
noncomputable def inS (x c : Str) : Bool := !(Builtin.Str.occurrences x c 0 x.length 1).isEmpty
noncomputable def opL (tx : Str) (i : Int) : Str := if (op3.any fun x => x == subS tx i (i + 3)) = true then subS tx i (i + 3) else subS tx i (i + 2)
noncomputable def opT (tx : Str) (i : Int) : Option Str := if (op2.any fun x => x == opL tx i) = true then some (opL tx i) else if inS opC (chr tx i) = true then some (chr tx i) else none
noncomputable def opV (t : Str) : Str := if (t == Str.ofString "**") = true then Str.ofString "^" else t
noncomputable def opE (i : Int) (t : Str) : Int := if (t == Str.ofString "**") = true then i + 2 else i + t.length
theorem opL_t {tx : Str} {i : Int} (h3 : (op3.any fun x => x == subS tx i (i + 3)) = true) : opL tx i = subS tx i (i + 3) := if_pos h3
theorem opL_f {tx : Str} {i : Int} (h3 : (op3.any fun x => x == subS tx i (i + 3)) = false) : opL tx i = subS tx i (i + 2) := if_neg (Bool.eq_false_iff.mp h3)
theorem inS_t {x c : Str} (h : (Builtin.Str.occurrences x c 0 x.length 1).isEmpty = false) : inS x c = true := by unfold inS; rw [h]; rfl
theorem inS_f {x c : Str} (h : (Builtin.Str.occurrences x c 0 x.length 1).isEmpty = true) : inS x c = false := by unfold inS; rw [h]; rfl
theorem op_a {tx : Str} {i : Int} (h3 : (op3.any fun x => x == subS tx i (i + 3)) = true) (h2 : (op2.any fun x => x == subS tx i (i + 3)) = true) : opT tx i = some (subS tx i (i + 3)) := by
  unfold opT; rw [opL_t h3, if_pos h2]
theorem op_c {tx : Str} {i : Int} (h3 : (op3.any fun x => x == subS tx i (i + 3)) = false) (h2 : (op2.any fun x => x == subS tx i (i + 2)) = true) : opT tx i = some (subS tx i (i + 2)) := by
  unfold opT; rw [opL_f h3, if_pos h2]
theorem op_b {tx : Str} {i : Int} (h3 : (op3.any fun x => x == subS tx i (i + 3)) = true) (h2 : (op2.any fun x => x == subS tx i (i + 3)) = false) (hc : (Builtin.Str.occurrences opC (chr tx i) 0 opC.length 1).isEmpty = false) : opT tx i = some (chr tx i) := by
  unfold opT; rw [opL_t h3, if_neg (Bool.eq_false_iff.mp h2), if_pos (inS_t hc)]
theorem op_bn {tx : Str} {i : Int} (h3 : (op3.any fun x => x == subS tx i (i + 3)) = true) (h2 : (op2.any fun x => x == subS tx i (i + 3)) = false) (hc : (Builtin.Str.occurrences opC (chr tx i) 0 opC.length 1).isEmpty = true) : opT tx i = none := by
  unfold opT; rw [opL_t h3, if_neg (Bool.eq_false_iff.mp h2), if_neg (Bool.eq_false_iff.mp (inS_f hc))]
theorem op_d {tx : Str} {i : Int} (h3 : (op3.any fun x => x == subS tx i (i + 3)) = false) (h2 : (op2.any fun x => x == subS tx i (i + 2)) = false) (hc : (Builtin.Str.occurrences opC (chr tx i) 0 opC.length 1).isEmpty = false) : opT tx i = some (chr tx i) := by
  unfold opT; rw [opL_f h3, if_neg (Bool.eq_false_iff.mp h2), if_pos (inS_t hc)]
theorem op_dn {tx : Str} {i : Int} (h3 : (op3.any fun x => x == subS tx i (i + 3)) = false) (h2 : (op2.any fun x => x == subS tx i (i + 2)) = false) (hc : (Builtin.Str.occurrences opC (chr tx i) 0 opC.length 1).isEmpty = true) : opT tx i = none := by
  unfold opT; rw [opL_f h3, if_neg (Bool.eq_false_iff.mp h2), if_neg (Bool.eq_false_iff.mp (inS_f hc))]
theorem opV_t {o : Str} (h : (o == Str.ofString "**") = true) : opV o = Str.ofString "^" := if_pos h
theorem opV_f {o : Str} (h : (o == Str.ofString "**") = false) : opV o = o := if_neg (by rw [h]; decide)
theorem opE_t {o : Str} {i : Int} (h : (o == Str.ofString "**") = true) : opE i o = i + 2 := if_pos h
theorem opE_f {o : Str} {i : Int} (h : (o == Str.ofString "**") = false) : opE i o = i + o.length := if_neg (by rw [h]; decide)
noncomputable def dvalL (l : List Int) : Int := l.foldl (fun (a : Int) (c : Int) => a * 10 + c - 48) 0
noncomputable def dval (x : Str) : Int := dvalL (KStt.codes x)
theorem dval_turn {l : List Int} {v : Int} {c : Int} (h : v = dvalL l) : v * 10 + c - 48 = dvalL (l ++ [c]) := by
  unfold dvalL
  rw [List.foldl_append, h]
  rfl
theorem dval_nil : (0 : Int) = dvalL [] := rfl
noncomputable def expS (tx : Str) (i : Int) : Int := if (chr tx i == Str.ofString "-") = true then i + 1 else if (chr tx i == Str.ofString "+") = true then i + 1 else i
theorem gcd_start {n d : Int} (h0 : 0 ≤ n) (hd : 1 ≤ d) : 0 ≤ (if n < 0 then -n else n) ∧ 0 ≤ d ∧ Int.gcd (if n < 0 then -n else n) d = Int.gcd n d := by
  rw [if_neg (by omega)]
  exact ⟨h0, by omega, rfl⟩
theorem gcd_turn {a b : Int} {g : Nat} (ha : 0 ≤ a) (hb : 0 ≤ b) (h : Int.gcd a b = g) (hp : 0 < b) : 0 ≤ b ∧ 0 ≤ a.fmod b ∧ Int.gcd b (a.fmod b) = g := by
  refine ⟨hb, Int.fmod_nonneg_of_pos a hp, ?_⟩
  rw [← h, Int.fmod_eq_emod_of_nonneg a hb, Int.gcd_comm a b]
  have h1 : a = b * (a / b) + a % b := by have := Int.mul_ediv_add_emod a b; omega
  conv => rhs; rw [h1]
  rw [Int.add_comm]
  simp
theorem gcd_less {a b : Int} (hp : 0 < b) : (a.fmod b).toNat < b.toNat := by
  have h1 := Int.fmod_nonneg_of_pos a hp
  have h2 := Int.fmod_lt_of_pos a hp
  omega
theorem gcd_end {a b n d : Int} (ha : 0 ≤ a) (hb : 0 ≤ b) (h : Int.gcd a b = Int.gcd n d) (hp : ¬ 0 < b) : a = (Int.gcd n d : Int) := by
  have : b = 0 := by omega
  subst this
  rw [Int.gcd_zero_right] at h
  omega
theorem gcd_ne {a b n d : Int} (hd : 1 ≤ d) (ha : 0 ≤ a) (hb : 0 ≤ b) (h : Int.gcd a b = Int.gcd n d) (hp : ¬ 0 < b) : a ≠ 0 := by
  rw [gcd_end ha hb h hp]
  have : Int.gcd n d ≠ 0 := fun q => by
    have := (Int.gcd_eq_zero_iff.mp q).2
    omega
  omega
noncomputable def dblN (n d : Int) : Int := n.fdiv (Int.gcd n d)
noncomputable def dblD (n d : Int) : Int := d.fdiv (Int.gcd n d)
noncomputable def expJ (tx : Str) (j : Int) : Int := if (chr tx j == Str.ofString "-") = true then j + 1 else if (chr tx j == Str.ofString "+") = true then j + 1 else j
noncomputable def expG (tx : Str) (j : Int) : Str := Txt.lstripChars (subS tx (expJ tx j) (scan isDigitS tx (expJ tx j))) (Str.ofString "0")
noncomputable def expV (tx : Str) (j : Int) : Int := if (chr tx j == Str.ofString "-") = true then 0 - dval (expG tx j) else dval (expG tx j)
noncomputable def expR (tx : Str) (j : Int) : Option (Int × Int) := if scan isDigitS tx (expJ tx j) = expJ tx j ∨ 4 < ((expG tx j).length : Int) ∨ 4096 < dval (expG tx j) then none else some (expV tx j, scan isDigitS tx (expJ tx j))
theorem expJ_m {tx : Str} {j : Int} (h : (chr tx j == Str.ofString "-") = true) : expJ tx j = j + 1 := if_pos h
theorem expJ_p {tx : Str} {j : Int} (h : (chr tx j == Str.ofString "-") = false) (h2 : (chr tx j == Str.ofString "+") = true) : expJ tx j = j + 1 := by
  unfold expJ; rw [if_neg (Bool.eq_false_iff.mp h), if_pos h2]
theorem expJ_0 {tx : Str} {j : Int} (h : (chr tx j == Str.ofString "-") = false) (h2 : (chr tx j == Str.ofString "+") = false) : expJ tx j = j := by
  unfold expJ; rw [if_neg (Bool.eq_false_iff.mp h), if_neg (Bool.eq_false_iff.mp h2)]
theorem exp_bad {tx : Str} {j j' : Int} (hs : expJ tx j = j') (h : scan isDigitS tx j' = j' ∨ 4 < ((Txt.lstripChars (subS tx j' (scan isDigitS tx j')) (Str.ofString "0")).length : Int) ∨ 4096 < dval (Txt.lstripChars (subS tx j' (scan isDigitS tx j')) (Str.ofString "0"))) : expR tx j = none := by
  subst hs; exact if_pos h
theorem exp_ok {tx : Str} {j j' : Int} (hs : expJ tx j = j') (h1 : scan isDigitS tx j' ≠ j') (h2 : ¬ 4 < ((Txt.lstripChars (subS tx j' (scan isDigitS tx j')) (Str.ofString "0")).length : Int)) (h3 : ¬ 4096 < dval (Txt.lstripChars (subS tx j' (scan isDigitS tx j')) (Str.ofString "0"))) :
    expR tx j = some (if (chr tx j == Str.ofString "-") = true then 0 - dval (Txt.lstripChars (subS tx j' (scan isDigitS tx j')) (Str.ofString "0")) else dval (Txt.lstripChars (subS tx j' (scan isDigitS tx j')) (Str.ofString "0")), scan isDigitS tx j') := by
  subst hs
  exact if_neg (fun q => q.elim h1 fun q => q.elim h2 h3)
noncomputable def hexP (c : Str) : Bool := decide (0 ≤ hexV c)
noncomputable def hexF (tx : Str) : Nat → Int → Int → Int
  | 0, _, v => v
  | n + 1, i, v => if hexP (chr tx i) then hexF tx n (i + 1) (v * 16 + hexV (chr tx i)) else v
noncomputable def hexA (tx : Str) (i v : Int) : Int := hexF tx (tx.length + 1 - i.toNat) i v
theorem hexP_nil : hexP nilS = false := by decide +kernel
theorem hexA_step {tx : Str} {i v : Int} (h0 : 0 ≤ i) (h : hexP (chr tx i) = true) : hexA tx (i + 1) (v * 16 + hexV (chr tx i)) = hexA tx i v := by
  have hl := in_lt hexP_nil h0 h
  unfold hexA
  rw [show tx.length + 1 - i.toNat = (tx.length + 1 - (i + 1).toNat) + 1 by omega]
  conv => rhs; rw [hexF]
  rw [if_pos h]
theorem hexA_stop {tx : Str} {i v : Int} (h : hexP (chr tx i) = false) : hexA tx i v = v := by
  unfold hexA
  cases tx.length + 1 - i.toNat with
  | zero => rfl
  | succ n => unfold hexF; rw [h]; rfl
theorem hex_turn {tx : Str} {i e v : Int} (h0 : 0 ≤ i) (h1 : i + 2 ≤ e) (h2 : scan hexP tx e = scan hexP tx (i + 2)) (h3 : hexA tx e v = hexA tx (i + 2) 0) (h : 0 ≤ hexV (chr tx e)) :
    i + 2 ≤ e + 1 ∧ scan hexP tx (e + 1) = scan hexP tx (i + 2) ∧ hexA tx (e + 1) (v * 16 + hexV (chr tx e)) = hexA tx (i + 2) 0 :=
  have hp : hexP (chr tx e) = true := decide_eq_true h
  ⟨by omega, (scan_step hexP_nil (by omega) hp).trans h2, (hexA_step (by omega) hp).trans h3⟩
theorem hex_turn' {tx : Str} {i e v : Int} (h0 : 0 ≤ i) (h1 : i + 2 ≤ e) (hv : 0 ≤ v) (h2 : scan hexP tx e = scan hexP tx (i + 2)) (h3 : hexA tx e v = hexA tx (i + 2) 0) (h : hexV (chr tx e) ≥ 0) :
    i + 2 ≤ e + 1 ∧ 0 ≤ v * 16 + hexV (chr tx e) ∧ scan hexP tx (e + 1) = scan hexP tx (i + 2) ∧ hexA tx (e + 1) (v * 16 + hexV (chr tx e)) = hexA tx (i + 2) 0 :=
  have q := hex_turn h0 h1 h2 h3 h
  ⟨q.1, by omega, q.2⟩
theorem hex_less {tx : Str} {i e : Int} (h0 : 0 ≤ i) (h1 : i + 2 ≤ e) (h : 0 ≤ hexV (chr tx e)) : ((tx.length : Int) + 1 - (e + 1)).toNat < ((tx.length : Int) + 1 - e).toNat :=
  less1 (in_lt (p := hexP) hexP_nil (by omega) (decide_eq_true h))
theorem hex_end {tx : Str} {i e v : Int} (h2 : scan hexP tx e = scan hexP tx (i + 2)) (h3 : hexA tx e v = hexA tx (i + 2) 0) (h : ¬ 0 ≤ hexV (chr tx e)) : e = scan hexP tx (i + 2) ∧ v = hexA tx (i + 2) 0 := by
  have hp : hexP (chr tx e) = false := decide_eq_false h
  exact ⟨scan_end h2 hp, by rw [← h3, hexA_stop hp]⟩
noncomputable def numR (tx : Str) (n d e : Int) : Option (TV × Int) :=
  if (chr tx e == Str.ofString "i") = true then none
  else if (chr tx e == Str.ofString "L") = true then (if n.fmod d = 0 ∧ n.fdiv d ≤ 2147483647 then some (.int (n.fdiv d), e + 1) else some (.dbl (dblN n d) (dblD n d), e + 1))
  else some (.dbl (dblN n d) (dblD n d), e)
end
section
theorem leS1 {a b : Nat} : leS ⟨#[a]⟩ ⟨#[b]⟩ = decide (a ≤ b) := by
  unfold leS
  have : (([b] : List Nat) < [a]) ↔ b < a := by
    constructor
    · intro h
      cases h with
      | rel h => exact h
      | cons h => cases h
    · intro h
      exact List.Lex.rel h
  by_cases h : b < a
  · rw [decide_eq_true (this.mpr h), decide_eq_false (by omega)]; rfl
  · rw [decide_eq_false (fun q => h (this.mp q)), decide_eq_true (by omega)]; rfl
theorem isDigit1 {a : Nat} : isDigitS ⟨#[a]⟩ = (decide (48 ≤ a) && decide (a ≤ 57)) := by
  unfold isDigitS
  rw [show Str.ofString "0" = ⟨#[48]⟩ from by decide +kernel, show Str.ofString "9" = ⟨#[57]⟩ from by decide +kernel, leS1, leS1]
theorem scan_le1 {p : Str → Bool} {tx : Str} {i : Int} (hp : p nilS = false) (h0 : 0 ≤ i) {b : Int} (hi : i ≤ b) (hb : (tx.length : Int) ≤ b) : scan p tx i ≤ b := by
  rw [scan_def]
  have all : ∀ (n : Nat) (i : Int), 0 ≤ i → i ≤ b → scanF p tx n i ≤ b := by
    intro n
    induction n with
    | zero => intro i _ h; exact h
    | succ n ih =>
      intro i h0 h
      unfold scanF
      split
      · rename_i hc
        have := in_lt hp h0 hc
        exact ih _ (by omega) (by omega)
      · exact h
  exact all _ _ h0 hi
theorem scan_le {p : Str → Bool} {tx : Str} {i : Int} (hp : p nilS = false) (h0 : 0 ≤ i) (hi : i ≤ tx.length) : scan p tx i ≤ tx.length := scan_le1 hp h0 hi (Int.le_refl _)
theorem scan_all {p : Str → Bool} {tx : Str} {i : Int} : ∀ j, i ≤ j → j < scan p tx i → p (chr tx j) = true := by
  rw [scan_def]
  have all : ∀ (n : Nat) (i j : Int), i ≤ j → j < scanF p tx n i → p (chr tx j) = true := by
    intro n
    induction n with
    | zero => intro i j h1 h2; unfold scanF at h2; omega
    | succ n ih =>
      intro i j h1 h2
      unfold scanF at h2
      split at h2
      · rename_i hc
        by_cases hj : j = i
        · subst hj; exact hc
        · exact ih _ j (by omega) h2
      · omega
  exact all _ _
/-- a text of figures -/
noncomputable def NumOk (x : Str) : Prop := ∀ c ∈ x.cps.toList, 48 ≤ c ∧ c ≤ 57
theorem subS_list {tx : Str} {i j : Int} (h0 : 0 ≤ i) (h1 : i ≤ j) : (subS tx i j).cps.toList = (tx.cps.toList.drop i.toNat).take (j - i).toNat := by
  rw [subS_def]
  rw [slice_gen h0 h1]
theorem mem_subS {tx : Str} {i j : Int} (h0 : 0 ≤ i) (h1 : i ≤ j) {c : Nat} (h : c ∈ (subS tx i j).cps.toList) : ∃ q, i ≤ q ∧ q < j ∧ chr tx q = ⟨#[c]⟩ := by
  rw [subS_list h0 h1] at h
  obtain ⟨a, rfl⟩ := Int.eq_ofNat_of_zero_le h0
  obtain ⟨b, rfl⟩ := Int.eq_ofNat_of_zero_le (Int.le_trans h0 h1)
  rw [Int.toNat_natCast, Int.toNat_sub] at h
  obtain ⟨n, hn, he⟩ := List.mem_iff_getElem.mp h
  rw [List.getElem_take, List.getElem_drop] at he
  rw [List.length_take, List.length_drop] at hn
  obtain ⟨n1, n2⟩ := Nat.lt_min.mp hn
  have n3 : a + n < b := Nat.add_lt_of_lt_sub' n1
  refine ⟨((a + n : Nat) : Int), Int.ofNat_le.mpr (Nat.le_add_right _ _), Int.ofNat_lt.mpr n3, ?_⟩
  rw [chr_eq (Int.natCast_nonneg _), Int.toNat_natCast, List.getElem?_eq_getElem (Nat.add_lt_of_lt_sub' n2), he]
  rfl
theorem numOk_sub {tx : Str} {i : Int} (h0 : 0 ≤ i) : NumOk (subS tx i (scan isDigitS tx i)) := by
  intro c hc
  obtain ⟨q, q1, q2, q3⟩ := mem_subS h0 scan_ge hc
  have := scan_all q q1 q2
  rw [q3, isDigit1] at this
  simp only [Bool.and_eq_true, decide_eq_true_eq] at this
  exact this
theorem numOk_app {x y : Str} (h1 : NumOk x) (h2 : NumOk y) : NumOk (x ++ y) := by
  intro c hc
  have : (x ++ y).cps.toList = x.cps.toList ++ y.cps.toList := by
    show (x.cps ++ y.cps).toList = _
    simp
  rw [this] at hc
  rcases List.mem_append.mp hc with hc | hc
  · exact h1 c hc
  · exact h2 c hc
theorem dvalL_bound : ∀ (l : List Int) (a : Int), (∀ c ∈ l, 48 ≤ c ∧ c ≤ 57) → 0 ≤ a → 0 ≤ l.foldl (fun (a : Int) (c : Int) => a * 10 + c - 48) a ∧ l.foldl (fun (a : Int) (c : Int) => a * 10 + c - 48) a < (a + 1) * 10 ^ l.length := by
  intro l
  induction l with
  | nil => intro a _ h; simp only [List.foldl_nil, List.length_nil]; omega
  | cons c l ih =>
    intro a h h0
    have hc := h c (.head _)
    obtain ⟨i1, i2⟩ := ih (a * 10 + c - 48) (fun q hq => h q (.tail _ hq)) (by omega)
    refine ⟨i1, Int.lt_of_lt_of_le i2 ?_⟩
    rw [List.length_cons, Int.pow_succ, Int.mul_comm (10 ^ l.length) 10, ← Int.mul_assoc]
    exact Int.mul_le_mul_of_nonneg_right (by omega) (Int.pow_nonneg (by omega))
theorem dval_codes {x : Str} (h : NumOk x) : ∀ c ∈ KStt.codes x, (48 : Int) ≤ c ∧ c ≤ 57 := by
  intro c hc
  unfold KStt.codes at hc
  obtain ⟨q, hq, rfl⟩ := List.mem_map.mp hc
  have := h q hq
  omega
theorem dval_nonneg {x : Str} (h : NumOk x) : 0 ≤ dval x := (dvalL_bound (KStt.codes x) 0 (dval_codes h) (by omega)).1
theorem dval_lt {x : Str} (h : NumOk x) : dval x < 10 ^ x.length := by
  have := (dvalL_bound (KStt.codes x) 0 (dval_codes h) (by omega)).2
  have hl : (KStt.codes x).length = x.length := by unfold KStt.codes; simp [Str.length]
  rw [hl] at this
  unfold dval dvalL
  simpa using this
theorem bits_le {a : Int} {n : Nat} (h : a.natAbs < 2 ^ n) : Builtin.Int.intBits a ≤ n := by
  unfold Builtin.Int.intBits
  split
  · omega
  · rename_i h0
    have h0' : a.natAbs ≠ 0 := by simpa using h0
    have := (Nat.log2_lt h0').mpr h
    omega
theorem ten_lt (n : Nat) : 10 ^ n ≤ 2 ^ (4 * n) := by
  rw [Nat.pow_mul]
  exact Nat.pow_le_pow_left (by decide) n
theorem pow_abs (n : Nat) : ((10 : Int) ^ n).natAbs = 10 ^ n := by
  rw [Int.natAbs_pow]; rfl
theorem mul_ok_gen {a : Int} {n m : Nat} (h0 : 0 ≤ a) (h1 : a < 10 ^ n) (hn : n ≤ 5000) (hm : m ≤ 10000) : PySem.IntMulOk a ((10 : Int) ^ m) := by
  refine PySem.IntMulOk.of_bits (Nat.le_trans (bits_le (n := 4 * n) ?_) (by omega)) (Nat.le_trans (bits_le (n := 4 * m + 1) ?_) (by omega))
  · have h5 : (((10 : Nat) ^ n : Nat) : Int) = (10 : Int) ^ n := by rw [Int.natCast_pow]; rfl
    rw [← h5] at h1
    have : a.natAbs < 10 ^ n := by omega
    exact Nat.lt_of_lt_of_le this (ten_lt n)
  · rw [pow_abs]
    exact Nat.lt_of_le_of_lt (ten_lt m) (Nat.pow_lt_pow_right (by decide) (Nat.lt_succ_self _))
theorem mul_ok_num {x : Str} {z : Int} (h : NumOk x) (hl : x.length ≤ 5000) (hz : z ≤ 10000) : PySem.IntMulOk (dval x) ((10 : Int) ^ z.toNat) :=
  mul_ok_gen (dval_nonneg h) (dval_lt h) hl (by omega)
theorem sub_len {tx : Str} {i j : Int} (h0 : 0 ≤ i) (h1 : i ≤ j) : ((subS tx i j).length : Int) ≤ j - i := by
  have : (subS tx i j).length = (subS tx i j).cps.toList.length := by simp [Str.length]
  rw [this, subS_list h0 h1, List.length_take]
  omega
theorem mem_lstrip {x y : Str} {c : Nat} (hc : c ∈ (Txt.lstripChars x y).cps.toList) : c ∈ x.cps.toList := by
  unfold Txt.lstripChars at hc
  rw [PyProof.Rows.stripBy_eq] at hc
  unfold Builtin.Str.strSub at hc
  obtain ⟨z, hz, he⟩ := Array.mem_iff_getElem.mp (Array.mem_toList_iff.mp hc)
  rw [Array.getElem_extract] at he
  exact Array.mem_toList_iff.mpr (he ▸ Array.getElem_mem _)
theorem expR_bound {tx : Str} {j v e : Int} (h : expR tx j = some (v, e)) (hj : 0 ≤ j) : -4096 ≤ v ∧ v ≤ 4096 ∧ 0 ≤ e := by
  unfold expR at h
  split at h
  · cases h
  · rename_i q
    cases h
    have hJ : j ≤ expJ tx j := by unfold expJ; (repeat' split) <;> omega
    have h3 : NumOk (expG tx j) := by
      intro c hc
      have hq : NumOk (subS tx (expJ tx j) (scan isDigitS tx (expJ tx j))) := numOk_sub (by omega)
      refine hq c ?_
      unfold expG at hc
      exact mem_lstrip hc
    have h1 := dval_nonneg h3
    have h2 : ¬ 4096 < dval (expG tx j) := fun z => q (Or.inr (Or.inr z))
    have h4 : expJ tx j ≤ scan isDigitS tx (expJ tx j) := scan_ge
    unfold expV
    split <;> omega
theorem ten_pos (n : Nat) : (1 : Int) ≤ 10 ^ n := by
  have : (0 : Int) < 10 ^ n := Int.pow_pos (by decide)
  omega
end
section
set_option linter.unusedSimpArgs false
section
variable {w : World} {loose : List Str} {mean : ExcName → Option Value} {mg mb : Str → Option Value}
theorem s_is_digit {c : Str} {t : Tok} {news : List (Addr × Obj)} : Spec w loose mean mg mb 139 [.str c t] 1 news (Gives news fun _ => .bool (isDigitS c)) NoErr := by
  unfold Spec Gives NoErr
  k_fill
  k_with_none
  (k_with "subscriptTail" => (k_here; (with_reducible show wpAny _ _ (subscriptTail _ (Expr.Slice (some _) (some _) none _) (Value.str _ _) (Value.ref _)) _ _ _); (with_reducible rename Fr _ _ _ _ => F'); (with_reducible rename News _ _ _ _ => N'); (refine slice_strN_ss (hsz := ?hsz) (s := ⟨_, _, _, _, _⟩) F' N' ?_); (case hsz => (rw [sizeLine_eq]; omega)); intro _ _ _ _ _))
  (k_with "call builtin:str.lower" => (k_here; (with_reducible show wpAny _ _ (call (Value.builtin "str.lower") [Value.str _ _]) _ _ _); (refine SCL.lower (by omega) ?_); intro _))
  intro dp un gd cn cs a ccd cl outer A₀ base h₀ L m s Q E B F X N T hk hd hu hret _
  refine wpAny_call ?_
  k_dflt (refine' code_def ?k1 ?k2 ?k3 ?k4 ?k5 ?kA ?kF ?kK ?k6 ?k7 ?k8 ?k9 ?kB ?_ ?c2 ?c3 ?c4 ?c5; (case kA => exact rfl); (case kF => exact rfl); (case kK => first | exact rfl | assumption); (case k1 => k_asm); (case k2 => k_asm); (case k3 => k_asm); (case k4 => k_asm); (case k5 => k_asm); (case k6 => k_is); (case k7 => k_is); (case k8 => k_room); (case k9 => first | exact BindsTo.of_eq rfl | exact binds_K (by k_in) rfl (by k_is) rfl rfl rfl | fail "k_enter: no rule for these arguments"); (case c5 => decide); (case kB => exact locs rfl); (case c2 => exact rfl); (case c3 => exact rfl); (case c4 => exact rfl); k_whole; intro _ _ _ _ _ _ BZ _ _; (try dsimp only); (try k_lift BZ); (try k_fold))
  k_steps
  all_goals (rename_i hc kF kN kT kX; refine' (show ∀ b, b = isDigitS c → Q (.bool b) _ from fun b e => e ▸ hret 0 _ _ kF kN) _ ?_; simp [isDigitS, leS, hc])
theorem s_char {k : LexK} {tx : Str} {at_ i : Int} {tv t : Tok} {nl : Bool} {news : List (Addr × Obj)} (hx : (k.x, instObj 297 k.dx) ∈ news) (hdd : (k.dx, lexD w.params k tx at_ tv nl) ∈ news) (hlen : tx.length ≤ 1000) : Spec w loose mean mg mb 189 [.ref k.x, .int i t] 1 news (Gives news fun t => .str (chr tx i) t) NoErr := by
  unfold Spec Gives NoErr
  k_fill
  k_with_none
  (k_with "subscriptTail" => (k_here; (with_reducible show wpAny _ _ (subscriptTail _ (Expr.Slice (some _) (some _) none _) (Value.str _ _) (Value.ref _)) _ _ _); (with_reducible rename Fr _ _ _ _ => F'); (with_reducible rename News _ _ _ _ => N'); (refine slice_strN_ss (hsz := ?hsz) (s := ⟨_, _, _, _, _⟩) F' N' ?_); (case hsz => (rw [sizeLine_eq]; omega)); intro _ _ _ _ _))
  (k_with "call builtin:str.lower" => (k_here; (with_reducible show wpAny _ _ (call (Value.builtin "str.lower") [Value.str _ _]) _ _ _); (refine SCL.lower (by omega) ?_); intro _))
  intro dp un gd cn cs a ccd cl outer A₀ base h₀ L m s Q E B F X N T hk hd hu hret _
  refine wpAny_call ?_
  k_dflt (refine' code_def ?k1 ?k2 ?k3 ?k4 ?k5 ?kA ?kF ?kK ?k6 ?k7 ?k8 ?k9 ?kB ?_ ?c2 ?c3 ?c4 ?c5; (case kA => exact rfl); (case kF => exact rfl); (case kK => first | exact rfl | assumption); (case k1 => k_asm); (case k2 => k_asm); (case k3 => k_asm); (case k4 => k_asm); (case k5 => k_asm); (case k6 => k_is); (case k7 => k_is); (case k8 => k_room); (case k9 => first | exact BindsTo.of_eq rfl | exact binds_K (by k_in) rfl (by k_is) rfl rfl rfl | fail "k_enter: no rule for these arguments"); (case c5 => decide); (case kB => exact locs rfl); (case c2 => exact rfl); (case c3 => exact rfl); (case c4 => exact rfl); k_whole; intro _ _ _ _ _ _ BZ _ _; (try dsimp only); (try k_lift BZ); (try k_fold))
  k_steps
  rename_i kF kN kT kX
  simp only [chr_def] at hret
  exact hret _ _ _ kF kN
theorem s_is_letter {c : Str} {t : Tok} {news : List (Addr × Obj)} : Spec w loose mean mg mb 132 [.str c t] 1 news (Gives news fun _ => .bool (isLetterS c)) NoErr := by
  unfold Spec Gives NoErr
  k_fill
  k_with_none
  (k_with "subscriptTail" => (k_here; (with_reducible show wpAny _ _ (subscriptTail _ (Expr.Slice (some _) (some _) none _) (Value.str _ _) (Value.ref _)) _ _ _); (with_reducible rename Fr _ _ _ _ => F'); (with_reducible rename News _ _ _ _ => N'); (refine slice_strN_ss (hsz := ?hsz) (s := ⟨_, _, _, _, _⟩) F' N' ?_); (case hsz => (rw [sizeLine_eq]; omega)); intro _ _ _ _ _))
  (k_with "call builtin:str.lower" => (k_here; (with_reducible show wpAny _ _ (call (Value.builtin "str.lower") [Value.str _ _]) _ _ _); (refine SCL.lower (by omega) ?_); intro _))
  intro dp un gd cn cs a ccd cl outer A₀ base h₀ L m s Q E B F X N T hk hd hu hret _
  refine wpAny_call ?_
  k_dflt (refine' code_def ?k1 ?k2 ?k3 ?k4 ?k5 ?kA ?kF ?kK ?k6 ?k7 ?k8 ?k9 ?kB ?_ ?c2 ?c3 ?c4 ?c5; (case kA => exact rfl); (case kF => exact rfl); (case kK => first | exact rfl | assumption); (case k1 => k_asm); (case k2 => k_asm); (case k3 => k_asm); (case k4 => k_asm); (case k5 => k_asm); (case k6 => k_is); (case k7 => k_is); (case k8 => k_room); (case k9 => first | exact BindsTo.of_eq rfl | exact binds_K (by k_in) rfl (by k_is) rfl rfl rfl | fail "k_enter: no rule for these arguments"); (case c5 => decide); (case kB => exact locs rfl); (case c2 => exact rfl); (case c3 => exact rfl); (case c4 => exact rfl); k_whole; intro _ _ _ _ _ _ BZ _ _; (try dsimp only); (try k_lift BZ); (try k_fold))
  k_steps
  all_goals (have kF := (by assumption : Fr h₀ L _ m); have kN := (by assumption : News h₀ L _ news); refine' (show ∀ b, b = isLetterS c → Q (.bool b) _ from fun b e => e ▸ hret 0 _ _ kF kN) _ ?_; (unfold isLetterS leS; simp only [*, decide_true, decide_false, not_false_eq_true, not_true_eq_false, Bool.not_true, Bool.not_false, Bool.true_and, Bool.and_true, Bool.false_and, Bool.and_false, Bool.or_true, Bool.true_or, Bool.false_or, Bool.or_false]))
theorem s_hex_value {c : Str} {t : Tok} {news : List (Addr × Obj)} (hc : c.length ≤ 1) : Spec w loose mean mg mb 153 [.str c t] 1 news (Gives news fun t => .int (hexV c) t) NoErr := by
  unfold Spec Gives NoErr
  k_fill
  k_with_none
  (k_with "subscriptTail" => (k_here; (with_reducible show wpAny _ _ (subscriptTail _ (Expr.Slice (some _) (some _) none _) (Value.str _ _) (Value.ref _)) _ _ _); (with_reducible rename Fr _ _ _ _ => F'); (with_reducible rename News _ _ _ _ => N'); (refine slice_strN_ss (hsz := ?hsz) (s := ⟨_, _, _, _, _⟩) F' N' ?_); (case hsz => (rw [sizeLine_eq]; omega)); intro _ _ _ _ _))
  (k_with "call builtin:str.lower" => (k_here; (with_reducible show wpAny _ _ (call (Value.builtin "str.lower") [Value.str _ _]) _ _ _); (refine SCL.lower (by omega) ?_); intro _))
  intro dp un gd cn cs a ccd cl outer A₀ base h₀ L m s Q E B F X N T hk hd hu hret _
  refine wpAny_call ?_
  k_dflt (refine' code_def ?k1 ?k2 ?k3 ?k4 ?k5 ?kA ?kF ?kK ?k6 ?k7 ?k8 ?k9 ?kB ?_ ?c2 ?c3 ?c4 ?c5; (case kA => exact rfl); (case kF => exact rfl); (case kK => first | exact rfl | assumption); (case k1 => k_asm); (case k2 => k_asm); (case k3 => k_asm); (case k4 => k_asm); (case k5 => k_asm); (case k6 => k_is); (case k7 => k_is); (case k8 => k_room); (case k9 => first | exact BindsTo.of_eq rfl | exact binds_K (by k_in) rfl (by k_is) rfl rfl rfl | fail "k_enter: no rule for these arguments"); (case c5 => decide); (case kB => exact locs rfl); (case c2 => exact rfl); (case c3 => exact rfl); (case c4 => exact rfl); k_whole; intro _ _ _ _ _ _ BZ _ _; (try dsimp only); (try k_lift BZ); (try k_fold))
  k_steps
  · rename_i hb kF kN kT kX
    refine' (show ∀ x, x = hexV c → Q (.int x _) _ from fun b e => e ▸ hret _ _ _ kF kN) _ ?_
    unfold hexV; rw [if_pos hb]
  · rename_i hb _ kF kN kT kX
    refine' (show ∀ x, x = hexV c → Q (.int x _) _ from fun b e => e ▸ hret _ _ _ kF kN) _ ?_
    unfold hexV; rw [if_neg (by rw [hb]; decide)]
end
section
variable {w : World} {loose : List Str} {mean : ExcName → Option Value} {mg mb : Str → Option Value}
theorem s_is_name_char {c : Str} {t : Tok} {news : List (Addr × Obj)} : Spec w loose mean mg mb 146 [.str c t] 2 news (Gives news fun _ => .bool (isNameS c)) NoErr := by
  unfold Spec Gives NoErr
  k_fill
  k_with_none
  (k_with "subscriptTail" => (k_here; (with_reducible show wpAny _ _ (subscriptTail _ (Expr.Slice (some _) (some _) none _) (Value.str _ _) (Value.ref _)) _ _ _); (with_reducible rename Fr _ _ _ _ => F'); (with_reducible rename News _ _ _ _ => N'); (refine slice_strN_ss (hsz := ?hsz) (s := ⟨_, _, _, _, _⟩) F' N' ?_); (case hsz => (rw [sizeLine_eq]; omega)); intro _ _ _ _ _))
  (k_with "call builtin:str.lower" => (k_here; (with_reducible show wpAny _ _ (call (Value.builtin "str.lower") [Value.str _ _]) _ _ _); (refine SCL.lower (by omega) ?_); intro _))
  (k_with "call ref" => (k_here; (with_reducible show wpAny _ _ (call (Value.ref 139) _) _ _ _); (with_unfolding_all refine' s_is_digit  ?k1 ?k2 ?k3 ?k4 ?k5 ?kK ?kd ?ku ?_ ?ke);  (case k1 => k_asm); (case k2 => k_asm); (case k3 => k_asm); (case k4 => k_asm); (case k5 => k_asm); (case kK => first | exact rfl | assumption); (case kd => k_room); (case ku => ((try simp only [units_in1, units_deeper, Around.mark_units, units_caller]); (try dsimp only [ktrTop]); omega)); (case ke => exact trivial); k_whole; intro t9 h9 tk9 F9 N9; (try k_sweep); (try dsimp only); (try k_fold)))
  (k_with "call ref" => (k_here; (with_reducible show wpAny _ _ (call (Value.ref 132) _) _ _ _); (with_unfolding_all refine' s_is_letter  ?k1 ?k2 ?k3 ?k4 ?k5 ?kK ?kd ?ku ?_ ?ke);  (case k1 => k_asm); (case k2 => k_asm); (case k3 => k_asm); (case k4 => k_asm); (case k5 => k_asm); (case kK => first | exact rfl | assumption); (case kd => k_room); (case ku => ((try simp only [units_in1, units_deeper, Around.mark_units, units_caller]); (try dsimp only [ktrTop]); omega)); (case ke => exact trivial); k_whole; intro t9 h9 tk9 F9 N9; (try k_sweep); (try dsimp only); (try k_fold)))
  intro dp un gd cn cs a ccd cl outer A₀ base h₀ L m s Q E B F X N T hk hd hu hret _
  refine wpAny_call ?_
  k_dflt (refine' code_def ?k1 ?k2 ?k3 ?k4 ?k5 ?kA ?kF ?kK ?k6 ?k7 ?k8 ?k9 ?kB ?_ ?c2 ?c3 ?c4 ?c5; (case kA => exact rfl); (case kF => exact rfl); (case kK => first | exact rfl | assumption); (case k1 => k_asm); (case k2 => k_asm); (case k3 => k_asm); (case k4 => k_asm); (case k5 => k_asm); (case k6 => k_is); (case k7 => k_is); (case k8 => k_room); (case k9 => first | exact BindsTo.of_eq rfl | exact binds_K (by k_in) rfl (by k_is) rfl rfl rfl | fail "k_enter: no rule for these arguments"); (case c5 => decide); (case kB => exact locs rfl); (case c2 => exact rfl); (case c3 => exact rfl); (case c4 => exact rfl); k_whole; intro _ _ _ _ _ _ BZ _ _; (try dsimp only); (try k_lift BZ); (try k_fold))
  k_steps
  all_goals (have kF := (by assumption : Fr h₀ L _ m); have kN := (by assumption : News h₀ L _ news); refine' (show ∀ b, b = isNameS c → Q (.bool b) _ from fun b e => e ▸ hret 0 _ _ kF kN) _ ?_; (unfold isNameS; simp only [*, Bool.true_or, Bool.or_true, Bool.false_or]))
end
end
section
section
variable {w : World} {loose : List Str} {mean : ExcName → Option Value} {mg mb : Str → Option Value}
theorem s_token {k : LexK} {tx kind : Str} {v : Value} {at_ at0 en : Int} {tv t1 t2 t3 : Tok} {nl : Bool} {rest : List (Addr × Obj)} (hx : (k.x, instObj 297 k.dx) ∈ rest) (hne : ∀ p ∈ rest, p.1 ≠ k.dx) (hv : handedIn v = true) :
    Spec w loose mean mg mb 196 [.ref k.x, .str kind t1, v, .int at_ t2, .int en t3] 4 ((k.dx, lexD w.params k tx at0 tv nl) :: rest) (GivesTok w.params k tx kind v at_ en nl rest) NoErr := by
  unfold Spec GivesTok NoErr
  k_fill
  k_with_none
  intro dp un gd cn cs a ccd cl outer A₀ base h₀ L m s Q E B F X N T hk hd hu hret _
  refine wpAny_call ?_
  k_dflt (refine' code_def ?k1 ?k2 ?k3 ?k4 ?k5 ?kA ?kF ?kK ?k6 ?k7 ?k8 ?k9 ?kB ?_ ?c2 ?c3 ?c4 ?c5; (case kA => exact rfl); (case kF => exact rfl); (case kK => first | exact rfl | assumption); (case k1 => k_asm); (case k2 => k_asm); (case k3 => k_asm); (case k4 => k_asm); (case k5 => k_asm); (case k6 => k_is); (case k7 => k_is); (case k8 => k_room); (case k9 => first | exact BindsTo.of_eq rfl | exact binds_K (by k_in) rfl (by k_is) rfl rfl rfl | fail "k_enter: no rule for these arguments"); (case c5 => decide); (case kB => exact locs rfl); (case c2 => exact rfl); (case c3 => exact rfl); (case c4 => exact rfl); k_whole; intro _ _ _ _ _ _ BZ _ _; (try dsimp only); (try k_lift BZ); (try k_fold))
  k_steps
  exact hret ⟨_, _, _, _, _, _, _, _⟩ _ _ _ (by assumption) (by assumption) (by k_ne) (by k_ne)
theorem s_tokenS {k : LexK} {tx kind : Str} {v : Value} {at_ at0 en : Int} {tv t1 t2 t3 : Tok} {nl : Bool} {rest news : List (Addr × Obj)} (hx : (k.x, instObj 297 k.dx) ∈ rest) (hne : ∀ p ∈ rest, p.1 ≠ k.dx) (hv : handedIn v = true) (hs : ∀ p ∈ (k.dx, lexD w.params k tx at0 tv nl) :: rest, p ∈ news) :
    Spec w loose mean mg mb 196 [.ref k.x, .str kind t1, v, .int at_ t2, .int en t3] 4 news (GivesTok w.params k tx kind v at_ en nl rest) NoErr := by
  intro dp un gd cn cs a ccd cl outer A₀ base h₀ L m s Q E B F X N T hk hdp hu hret he
  exact s_token (at0 := at0) (tv := tv) hx hne hv B F X (fun p hp => N p (hs p hp)) T hk hdp hu hret he
theorem s_tokenV {k : LexK} {tx kind : Str} {v : Value} {at_ at0 en : Int} {tv t1 t2 t3 : Tok} {nl : Bool} {rest add : List (Addr × Obj)} (hx : (k.x, instObj 297 k.dx) ∈ rest) (hne : ∀ p ∈ rest, p.1 ≠ k.dx) (hv : handedIn v = true) (ha : ∀ q ∈ (k.dx, lexD w.params k tx at0 tv nl) :: rest, ∀ p ∈ add, p.1 ≠ q.1) :
    Spec w loose mean mg mb 196 [.ref k.x, .str kind t1, v, .int at_ t2, .int en t3] 4 (add ++ ((k.dx, lexD w.params k tx at0 tv nl) :: rest)) (GivesTok w.params k tx kind v at_ en nl (add ++ rest)) NoErr := by
  refine s_tokenS (at0 := at0) (tv := tv) (List.mem_append.mpr (.inr hx)) (fun p hp => ?_) hv (fun p hp => ?_)
  · rcases List.mem_append.mp hp with hp | hp
    · exact ha _ (.head _) p hp
    · exact hne p hp
  · rcases List.mem_cons.mp hp with rfl | hp
    · exact List.mem_append.mpr (.inr (.head _))
    · rcases List.mem_append.mp hp with hp | hp
      · exact List.mem_append.mpr (.inl hp)
      · exact List.mem_append.mpr (.inr (.tail _ hp))
end
end
section
section
variable {w : World} {loose : List Str} {mean : ExcName → Option Value} {mg mb : Str → Option Value}
theorem s_digits_end {k : LexK} {tx : Str} {at_ i : Int} {tv t : Tok} {nl : Bool} {news : List (Addr × Obj)} (hx : (k.x, instObj 297 k.dx) ∈ news) (hdd : (k.dx, lexD w.params k tx at_ tv nl) ∈ news) (hlen : tx.length ≤ 1000) (h0 : 0 ≤ i) : Spec w loose mean mg mb 238 [.ref k.x, .int i t] 2 news (Gives news fun t => .int (scan isDigitS tx i) t) NoErr := by
  unfold Spec Gives NoErr
  k_fill
  k_with_none
  (k_with "call ref" => (k_here; (with_reducible show wpAny _ _ (call (Value.ref 139) _) _ _ _); (with_unfolding_all refine' s_is_digit  ?k1 ?k2 ?k3 ?k4 ?k5 ?kK ?kd ?ku ?_ ?ke);  (case k1 => k_asm); (case k2 => k_asm); (case k3 => k_asm); (case k4 => k_asm); (case k5 => k_asm); (case kK => first | exact rfl | assumption); (case kd => k_room); (case ku => ((try simp only [units_in1, units_deeper, Around.mark_units, units_caller]); (try dsimp only [ktrTop]); omega)); (case ke => exact trivial); k_whole; intro t9 h9 tk9 F9 N9; (try k_sweep); (try dsimp only); (try k_fold)))
  (k_with "call ref" => (k_here; (with_reducible show wpAny _ _ (call (Value.ref 132) _) _ _ _); (with_unfolding_all refine' s_is_letter  ?k1 ?k2 ?k3 ?k4 ?k5 ?kK ?kd ?ku ?_ ?ke);  (case k1 => k_asm); (case k2 => k_asm); (case k3 => k_asm); (case k4 => k_asm); (case k5 => k_asm); (case kK => first | exact rfl | assumption); (case kd => k_room); (case ku => ((try simp only [units_in1, units_deeper, Around.mark_units, units_caller]); (try dsimp only [ktrTop]); omega)); (case ke => exact trivial); k_whole; intro t9 h9 tk9 F9 N9; (try k_sweep); (try dsimp only); (try k_fold)))
  (k_with "call ref" => (k_here; (with_reducible show wpAny _ _ (call (Value.ref 189) _) _ _ _); (with_unfolding_all refine' s_char ?q0 ?q1 ?q2 ?k1 ?k2 ?k3 ?k4 ?k5 ?kK ?kd ?ku ?_ ?ke); (case q0 => k_mem); (case q1 => k_mem); (case q2 => omega); (case k1 => k_asm); (case k2 => k_asm); (case k3 => k_asm); (case k4 => k_asm); (case k5 => k_asm); (case kK => first | exact rfl | assumption); (case kd => k_room); (case ku => ((try simp only [units_in1, units_deeper, Around.mark_units, units_caller]); (try dsimp only [ktrTop]); omega)); (case ke => exact trivial); k_whole; intro t9 h9 tk9 F9 N9; (try k_sweep); (try dsimp only); (try k_fold)))
  intro dp un gd cn cs a ccd cl outer A₀ base h₀ L m s Q E B F X N T hk hd hu hret _
  refine wpAny_call ?_
  k_dflt (refine' code_def ?k1 ?k2 ?k3 ?k4 ?k5 ?kA ?kF ?kK ?k6 ?k7 ?k8 ?k9 ?kB ?_ ?c2 ?c3 ?c4 ?c5; (case kA => exact rfl); (case kF => exact rfl); (case kK => first | exact rfl | assumption); (case k1 => k_asm); (case k2 => k_asm); (case k3 => k_asm); (case k4 => k_asm); (case k5 => k_asm); (case k6 => k_is); (case k7 => k_is); (case k8 => k_room); (case k9 => first | exact BindsTo.of_eq rfl | exact binds_K (by k_in) rfl (by k_is) rfl rfl rfl | fail "k_enter: no rule for these arguments"); (case c5 => decide); (case kB => exact locs rfl); (case c2 => exact rfl); (case c3 => exact rfl); (case c4 => exact rfl); k_whole; intro _ _ _ _ _ _ BZ _ _; (try dsimp only); (try k_lift BZ); (try k_fold))
  (k_with "exec While Call cons nil" => k_while (fun _ e => i ≤ e ∧ scan isDigitS tx e = scan isDigitS tx i) (fun _ e => ((tx.length : Int) + 1 - e).toNat) "index")
  (k_with "state" => first | exact ⟨Int.le_refl _, rfl⟩ | exact scan_turn isDigitS_nil h0 (by assumption) (by assumption) (by assumption))
  (k_with "measure" => exact scan_less isDigitS_nil h0 (by assumption) (by assumption))
  k_steps
  rename_i hb kF kN kT kX
  rw [scan_end (by assumption) hb]
  exact hret _ _ _ kF kN
end
end
section
section
variable {w : World} {loose : List Str} {mean : ExcName → Option Value} {mg mb : Str → Option Value}
noncomputable def keyL : List Str := [Str.ofString "if", Str.ofString "else", Str.ofString "repeat", Str.ofString "while", Str.ofString "function", Str.ofString "for", Str.ofString "next", Str.ofString "break", Str.ofString "in", Str.ofString "TRUE", Str.ofString "FALSE", Str.ofString "NULL", Str.ofString "Inf", Str.ofString "NaN", Str.ofString "NA", Str.ofString "NA_integer_", Str.ofString "NA_real_", Str.ofString "NA_character_"]
noncomputable def wordK (tx : Str) (i : Int) : Str := if (keyL.any (· == subS tx i (scan isNameS tx i))) = true then Str.ofString "key" else Str.ofString "id"
theorem s_word {k : LexK} {tx : Str} {at_ i : Int} {tv t : Tok} {nl : Bool} {q : Nat → Tok} {rest : List (Addr × Obj)} (hx : (k.x, instObj 297 k.dx) ∈ rest) (hkt : (k.kt, keysT q) ∈ rest) (hne : ∀ p ∈ rest, p.1 ≠ k.dx) (hlen : tx.length ≤ 1000) (h0 : 0 ≤ i) :
    Spec w loose mean mg mb 217 [.ref k.x, .int i t] 6 ((k.dx, lexD w.params k tx at_ tv nl) :: rest) (fun h₀ L m s Q => ∀ tw, GivesTok w.params k tx (wordK tx i) (.str (subS tx i (scan isNameS tx i)) tw) i (scan isNameS tx i) nl rest h₀ L m s Q) NoErr := by
  unfold Spec GivesTok NoErr
  k_fill
  k_with_none
  (k_with "call ref" => (k_here; (with_reducible show wpAny _ _ (call (Value.ref 146) _) _ _ _); k_dflt ((with_unfolding_all refine' s_is_name_char  ?k1 ?k2 ?k3 ?k4 ?k5 ?kK ?kd ?ku ?_ ?ke); (case k1 => k_asm); (case k2 => k_asm); (case k3 => k_asm); (case k4 => k_asm); (case k5 => k_asm);  (case kK => first | exact rfl | assumption); (case kd => k_room); (case ku => ((try simp only [units_in1, units_deeper, Around.mark_units, units_caller]); (try dsimp only [ktrTop]); omega)); (case ke => exact trivial); k_whole; intro t9 h9 tk9 F9 N9; (try k_sweep); (try dsimp only); (try k_fold))))
  (k_with "call ref" => (k_here; (with_reducible show wpAny _ _ (call (Value.ref 189) _) _ _ _); k_dflt ((with_unfolding_all refine' s_char ?q0 ?q1 ?q2 ?k1 ?k2 ?k3 ?k4 ?k5 ?kK ?kd ?ku ?_ ?ke); (case k1 => k_asm); (case k2 => k_asm); (case k3 => k_asm); (case k4 => k_asm); (case k5 => k_asm); (case q0 => k_mem); (case q1 => k_mem); (case q2 => omega); (case kK => first | exact rfl | assumption); (case kd => k_room); (case ku => ((try simp only [units_in1, units_deeper, Around.mark_units, units_caller]); (try dsimp only [ktrTop]); omega)); (case ke => exact trivial); k_whole; intro t9 h9 tk9 F9 N9; (try k_sweep); (try dsimp only); (try k_fold))))
  (k_with "call ref" => (k_here; (with_reducible show wpAny _ _ (call (Value.ref 196) _) _ _ _); k_dflt ((with_unfolding_all refine' s_tokenS ?q0 ?q1 ?q2 ?q3 ?k1 ?k2 ?k3 ?k4 ?k5 ?kK ?kd ?ku ?_ ?ke); (case k1 => k_asm); (case k2 => k_asm); (case k3 => k_asm); (case k4 => k_asm); (case k5 => k_asm); (case q0 => assumption); (case q1 => k_all); (case q2 => first | assumption | k_handed); (case q3 => (refine List.forall_mem_cons.mpr ⟨?qa, ?qb⟩; (case qa => k_mem); (case qb => (intro p9 hp9; first | exact hp9 | exact .tail _ hp9 | exact .tail _ (.tail _ hp9) | exact .tail _ (.tail _ (.tail _ hp9)) | exact .tail _ (.tail _ (.tail _ (.tail _ hp9))))))); (case kK => first | exact rfl | assumption); (case kd => k_room); (case ku => ((try simp only [units_in1, units_deeper, Around.mark_units, units_caller]); (try dsimp only [ktrTop]); omega)); (case ke => exact trivial); k_whole; intro c9 t9 h9 tk9 F9 N9 ne1 ne2; (try k_sweep); (try dsimp only); (try k_fold))))
  (k_with "subscriptTail Name Slice str ref" => (k_here; (with_reducible show wpAny _ _ (subscriptTail _ (Expr.Slice (some _) (some _) none _) (Value.str _ _) (Value.ref _)) _ _ _); (with_reducible rename Fr _ _ _ _ => F'); (with_reducible rename News _ _ _ _ => N'); (refine slice_subS (hs := by with_unfolding_all rfl) (ht := by intro _; with_unfolding_all rfl) (hsz := ?hsz) (s := ⟨_, _, _, _, _⟩) F' N' ?_); (case hsz => (rw [PySem.sizeLine_eq]; omega)); intro _ _ _ _ _ _))
  (k_with "compareOp In str ref" => (k_here; (with_reducible show wpAny _ _ (compareOp CmpOp.In (Value.str _ _) (Value.ref _)) _ _ _); (with_unfolding_all refine' in_tuple_strs ?k1 ?k2 ?_; (case k1 => exact News.isTup (by k_asm) (by k_mem)); (case k2 => kde_strs); k_whole)))
  intro dp un gd cn cs a ccd cl outer A₀ base h₀ L m s Q E B F X N T hk hd hu hret _
  refine wpAny_call ?_
  k_dflt (refine' code_def ?k1 ?k2 ?k3 ?k4 ?k5 ?kA ?kF ?kK ?k6 ?k7 ?k8 ?k9 ?kB ?_ ?c2 ?c3 ?c4 ?c5; (case kA => exact rfl); (case kF => exact rfl); (case kK => first | exact rfl | assumption); (case k1 => k_asm); (case k2 => k_asm); (case k3 => k_asm); (case k4 => k_asm); (case k5 => k_asm); (case k6 => k_is); (case k7 => k_is); (case k8 => k_room); (case k9 => first | exact BindsTo.of_eq rfl | exact binds_K (by k_in) rfl (by k_is) rfl rfl rfl | fail "k_enter: no rule for these arguments"); (case c5 => decide); (case kB => exact locs rfl); (case c2 => exact rfl); (case c3 => exact rfl); (case c4 => exact rfl); k_whole; intro _ _ _ _ _ _ BZ _ _; (try dsimp only); (try k_lift BZ); (try k_fold))
  (k_with "exec While Call cons nil" => k_while (fun _ e => i ≤ e ∧ scan isNameS tx e = scan isNameS tx i) (fun _ e => ((tx.length : Int) + 1 - e).toNat) "end")
  (k_with "state" => first | exact ⟨Int.le_refl _, rfl⟩ | exact scan_turn isNameS_nil h0 (by assumption) (by assumption) (by assumption))
  (k_with "measure" => exact scan_less isNameS_nil h0 (by assumption) (by assumption))
  k_steps
  · have e9 := scan_end (by assumption : scan isNameS tx _ = scan isNameS tx i) (by assumption)
    subst e9
    rw [show wordK tx i = Str.ofString "key" from if_pos (by assumption)] at hret
    exact hret _ _ _ _ _ (by assumption) (by assumption) (by assumption) (by assumption)
  · have e9 := scan_end (by assumption : scan isNameS tx _ = scan isNameS tx i) (by assumption)
    subst e9
    rw [show wordK tx i = Str.ofString "id" from if_neg (Bool.eq_false_iff.mp (by assumption))] at hret
    exact hret _ _ _ _ _ (by assumption) (by assumption) (by assumption) (by assumption)
end
end
section
section
open PySem.Calls
theorem dict_mapFields (f : Array Value → Array Value) (o : Obj) : (Obj.mapFields f o).dict = o.dict := by
  obtain ⟨c, d, dt, sl⟩ := o
  cases dt <;> rfl
/-- the exception's own dict is still its own -/
noncomputable def DictIs (h : Heap) (e dx : Addr) : Prop := ∃ oe, h.get? e = some oe ∧ oe.dict = some dx
variable {M : Model} {A : Around} {E : Value → Shared → Prop} {s : Shared}
theorem entryX {base : Heap} {env : Env} {outer : List Env} {L e dx : Addr} {oe : Obj} {vs : Array Value} {head a0 : Value} {hadNext : Bool} {Q : Unit → Shared → Prop}
    (hfr : A.frames = some (env :: outer)) (hl : s.heap.FunFrames base (env :: outer)) (hf : env.frame = some L)
    (he : s.heap.get? e = some oe) (hkb : base.StaysIn s.heap) (hen : base.get? e = none) (hd : oe.data = .fields vs) (hsz : 1 < vs.size) (h0 : vs[0]? = some a0) (hdx : oe.dict = some dx)
    (h : ∀ h', Heap.NotedW base (env :: outer) e oe.cls a0 (rawInt L) s.heap h' → DictIs h' e dx → Q () { s with heap := h' }) :
    wpAny M A (do let a ← frameOf env; let pl ← entryPlaceOf L hadNext; let b ← EntryCells.newEntry head a .none (rawInt L) .none pl; setField (.ref e) 1 b) Q E s := by
  have hene : e ∉ (env :: outer).filterMap (·.frame) := fun hm => by
    obtain ⟨_, o, ho, hnf⟩ := hl.mem hm
    rw [he] at ho; injection ho with ho; subst ho; exact hnf vs hd
  refine wpAny_bind (wpAny_frameOf_fun hfr hl hf fun h₁ hs₁ => ?_)
  refine wpAny_bind (wpAny_entryPlaceOf fun pl hpl => ?_)
  unfold EntryCells.newEntry newFields
  refine wpAny_bind (wpAny_newObj_type ?_ (hpl.sizeOk5 _ _ _ _ _))
  have he₁ : h₁.get? e = some oe := (hs₁.2.1 e hene).trans he
  have kb₁ : base.StaysIn h₁ := fun b o hbo => (hs₁.2.1 b fun hm => by rw [(hl.mem hm).1] at hbo; cases hbo).trans (hkb b o hbo)
  generalize hob : ({ cls := .type "traceback", dict := none, data := .fields ([head, .ref L, .none, rawInt L, .none] ++ (if pl.isEmpty then List.replicate 6 Value.none else pl)).toArray } : Obj) = ob
  have hobf : ob.isFreed = false := by rw [← hob]; rfl
  have hobd : ob.data = .fields ([head, .ref L, .none, rawInt L, .none] ++ (if pl.isEmpty then List.replicate 6 Value.none else pl)).toArray := by rw [← hob]
  have he₂ := Heap.get?_push_of_some (h := h₁) ob he₁
  refine wpAny_setField he₂ hd hsz ?_
  have hTe : h₁.objs.size ≠ e := Nat.ne_of_gt (Heap.lt_size he₁)
  have hd₃ := Obj.data_mapFields hd (·.setIfInBounds 1 (Value.ref h₁.objs.size))
  have he₃ := Heap.get?_update_self (Obj.mapFields (·.setIfInBounds 1 (Value.ref h₁.objs.size))) he₂ (Obj.isFreed_of_fields hd₃)
  have hT₃ := (Heap.get?_update_other (h₁.push ob) (Obj.mapFields (·.setIfInBounds 1 (Value.ref h₁.objs.size))) (Ne.symm hTe)).trans (Heap.get?_push_size h₁ hobf)
  have keep : ∀ b o, b ≠ e → h₁.get? b = some o → ((h₁.push ob).update e (Obj.mapFields (·.setIfInBounds 1 (Value.ref h₁.objs.size)))).get? b = some o := fun b o hbe hb => by
    rw [Heap.get?_update_other _ _ (Ne.symm hbe)]
    exact Heap.get?_push_of_some _ hb
  have noRecord : ∀ b o, s.heap.get? b = some o → (∀ vs, o.data ≠ .fields vs) → b ≠ e := fun b o hb hnf q => by
    rw [q, he] at hb; injection hb with hb; subst hb; exact hnf vs hd
  refine h _ ⟨fun b o hbo => keep b o (fun q => by rw [q, hen] at hbo; cases hbo) (kb₁ b o hbo), hl.of_keeps fun b o hb hnf => ?_, ?_, fun b o hb hnf => ?_⟩ ⟨_, he₃, (dict_mapFields _ _).trans hdx⟩
  · obtain ⟨sl, hs⟩ := hs₁.2.2 b o hb
    exact ⟨_, keep b _ (noRecord b o hb hnf) hs, rfl⟩
  · exact ⟨_, _, h₁.objs.size, _, _, he₃, ⟨Obj.cls_mapFields _ _, by rw [Array.getElem?_setIfInBounds_ne (by decide)]; exact h0⟩, hd₃, by simp [hsz], kb₁.fresh, hTe, hT₃, hobd, by first | (simp; done) | (rcases hpl with rfl | ⟨_, _, _, _, _, _, _, rfl⟩ <;> simp)⟩
  · obtain ⟨sl, hs⟩ := hs₁.2.2 b o hb
    exact ⟨sl, keep b _ (noRecord b o hb hnf) hs⟩
theorem noteFirstX {base : Heap} {env : Env} {outer : List Env} {L e dx : Addr} {oe : Obj} {vs : Array Value} {a0 : Value} {Q : Unit → Shared → Prop}
    (hfr : A.frames = some (env :: outer)) (hl : s.heap.FunFrames base (env :: outer)) (hf : env.frame = some L)
    (he : s.heap.get? e = some oe) (hkb : base.StaysIn s.heap) (hen : base.get? e = none) (hd : oe.data = .fields vs) (h1 : vs[1]? = some .none) (h0 : vs[0]? = some a0) (hdx : oe.dict = some dx)
    (h : ∀ h', Heap.NotedW base (env :: outer) e oe.cls a0 (rawInt L) s.heap h' → DictIs h' e dx → Q () { s with heap := h' }) : wpAny M A (noteFrame (.ref e) env) Q E s := by
  unfold noteFrame
  simp only [hf]
  refine wpAny_bind (wpAny_field he hd h1 ?_)
  rw [if_neg (by decide)]
  exact entryX hfr hl hf he hkb hen hd (Array.getElem?_eq_some_iff.mp h1).1 h0 hdx h
theorem noteOnX {base : Heap} {env : Env} {outer : List Env} {L e dx : Addr} {cls a0 : Value} {Q : Unit → Shared → Prop}
    (hfr : A.frames = some (env :: outer)) (hl : s.heap.FunFrames base (env :: outer)) (hf : env.frame = some L) (ht : s.heap.TracedW base e cls a0) (hkb : base.StaysIn s.heap) (hen : base.get? e = none) (hdi : DictIs s.heap e dx)
    (h : ∀ h', Heap.NotedW base (env :: outer) e cls a0 (rawInt L) s.heap h' → DictIs h' e dx → Q () { s with heap := h' }) : wpAny M A (noteFrame (.ref e) env) Q E s := by
  obtain ⟨oe, vs, T, oT, ts, he, ⟨hcls, h0⟩, hd, h1, hnT, hTe, hT, hdT, h3⟩ := ht
  subst hcls
  obtain ⟨oe', he', hdx⟩ := hdi
  obtain rfl := Option.some.inj (he.symm.trans he')
  unfold noteFrame
  simp only [hf]
  refine wpAny_bind (wpAny_field he hd h1 ?_)
  rw [if_pos (show (Value.ref T != Value.none) = true from by simp)]
  refine wpAny_bind (wpAny_field hT hdT h3 ?_)
  rw [if_neg (show ¬ ((Value.none == rawInt L) = true) from by simp [rawInt])]
  refine wpAny_bind (wpAny_setField hT hdT (Array.getElem?_eq_some_iff.mp h3).1 ?_)
  have other : ∀ b, b ≠ T → (s.heap.update T (Obj.mapFields (·.setIfInBounds 3 Value.none))).get? b = s.heap.get? b := fun b hb => Heap.get?_update_other _ _ (Ne.symm hb)
  have noRecord : ∀ b o, s.heap.get? b = some o → (∀ vs, o.data ≠ .fields vs) → b ≠ T := fun b o hb hnf q => by
    rw [q, hT] at hb; injection hb with hb; subst hb; exact hnf ts hdT
  refine entryX hfr (hl.of_keeps fun b o hb hnf => ⟨o, (other b (noRecord b o hb hnf)).trans hb, rfl⟩) hf ((other e (Ne.symm hTe)).trans he)
    (fun b o hbo => (other b fun q => by rw [q, hnT] at hbo; cases hbo).trans (hkb b o hbo)) hen hd (Array.getElem?_eq_some_iff.mp h1).1 h0 hdx
    fun h' ⟨x1, x2, x3, x4⟩ hx => h h' ⟨x1, x2, x3, fun b o hb hnf => x4 b o ((other b (noRecord b o hb hnf)).trans hb) hnf⟩ hx
theorem landsX {base : Heap} {l : List Env} {e L dx : Addr} {cls a0 : Value} {Q : Unit → Shared → Prop} (hh : Heap.HeldW base l e cls a0 L s.heap) (hdi : DictIs s.heap e dx)
    (hQ : ∀ h', Heap.FlyingW base l e cls a0 h' → s.heap.UpToSlots h' → DictIs h' e dx → Q () { s with heap := h' }) : wpAny M A (setFlight (.ref e) none) Q E s := by
  obtain ⟨hkb, f2, hl, ht⟩ := hh
  obtain ⟨oe, vs, T, oT, ts, he, hcls, hd, h1, hnT, hTe, hT, hdT, h3⟩ := ht
  obtain ⟨oe', he', hdx⟩ := hdi
  obtain rfl := Option.some.inj (he.symm.trans he')
  have hsz3 : 3 < ts.size := (Array.getElem?_eq_some_iff.mp h3).1
  have other : ∀ b, b ≠ T → (s.heap.update T (Obj.mapFields (·.setIfInBounds 3 ((none : Option Addr).elim Value.none fun f => rawInt f)))).get? b = s.heap.get? b :=
    fun b hb => Heap.get?_update_other _ _ (Ne.symm hb)
  have noRecord : ∀ b o, s.heap.get? b = some o → (∀ vs, o.data ≠ .fields vs) → b ≠ T := fun b o hb hnf q => by
    rw [q, hT] at hb; injection hb with hb; subst hb; exact hnf ts hdT
  unfold setFlight
  refine wpAny_bind (wpAny_field he hd h1 ?_)
  rw [if_pos (show (Value.ref T != Value.none) = true from by simp)]
  refine wpAny_setField hT hdT hsz3 (hQ _ ⟨fun b o hbo => (other b fun q => by rw [q, hnT] at hbo; cases hbo).trans (hkb b o hbo), f2,
    hl.of_keeps fun b o hb hnf => ⟨o, (other b (noRecord b o hb hnf)).trans hb, rfl⟩, ?_⟩ (fun b o hb hnf => ⟨o.slots, (other b (noRecord b o hb hnf)).trans hb⟩) ⟨oe, (other e (Ne.symm hTe)).trans he, hdx⟩)
  exact ⟨oe, vs, T, _, _, (other e (Ne.symm hTe)).trans he, hcls, hd, h1, hnT, hTe, Heap.get?_update_self _ hT (Obj.isFreed_of_fields (Obj.data_mapFields hdT _)), Obj.data_mapFields hdT _, by simp [hsz3]⟩
end
end
section
section
open PySem.Calls
variable {M : Model} {A : Around} {E : Value → Shared → Prop} {s' : Shared} {base g g₂ : Heap} {outer : List Env} {L a e dx : Addr} {m : Str → Option Value} {name : Str} {scope : Scope} {cd : Value} {Q : Unit → Shared → Prop} {news news' : List (Addr × Obj)}
noncomputable def RaisedX (base : Heap) (l : List Env) (e dx : Addr) (news : List (Addr × Obj)) (h : Heap) : Prop :=
  ∃ B a0, base.StaysIn B ∧ (∀ q ∈ news, B.get? q.1 = some q.2 ∧ base.get? q.1 = none) ∧ Heap.FlyingW B l e (.ref 51) a0 h ∧ DictIs h e dx
theorem RaisedX.drop {l : List Env} {h : Heap} (x : RaisedX base l e dx news h) (hs : ∀ q ∈ news', q ∈ news) : RaisedX base l e dx news' h := by
  obtain ⟨B, a0, h1, h2, h3, h4⟩ := x
  exact ⟨B, a0, h1, fun q hq => h2 q (hs q hq), h3, h4⟩
theorem leave_newX {oe : Obj} {vs : Array Value} {a0 : Value} (K : Below A base outer g) (F : Fr g L s'.heap m) (N : News g L s'.heap news) (he : s'.heap.get? e = some oe) (hc : oe.cls = .ref 51) (hd : oe.data = .fields vs) (h0 : vs[0]? = some a0) (h1 : vs[1]? = some .none) (hdx : oe.dict = some dx)
    (hge : g.get? e = none) (hne : ∀ q ∈ news, q.1 ≠ e)
    (hQ : ∀ h', RaisedX base outer e dx news h' → g.UpToSlots h' → Q () { s' with heap := h' }) (hk : scope.kind = .function) :
    wpAny M (A.deeper (envOf name scope L a cd)) (leaving (envOf name scope L a cd) (.ref e)) Q E s' := by
  have K' := K.push (name := name) (a := a) (cd := cd) F hk
  have hin : ∀ env ∈ (envOf name scope L a cd :: outer), ∀ b, env.frame = some b → b ∈ e :: (envOf name scope L a cd :: outer).filterMap (·.frame) := fun env he b hb => List.mem_cons_of_mem _ (List.mem_filterMap.mpr ⟨env, he, hb⟩)
  have hbe : base.get? e = none := fresh_of_stays K.stays hge
  have st : base.StaysIn (hideAll s'.heap (e :: (envOf name scope L a cd :: outer).filterMap (·.frame))) := fun b o q => hideAll_get _ (K'.stays b o q) fun hm => by
    rcases List.mem_cons.mp hm with rfl | hm
    · rw [hbe] at q; cases q
    · rw [(K'.frames.mem hm).1] at q; cases q
  have hl : ∀ q ∈ news, (hideAll s'.heap (e :: (envOf name scope L a cd :: outer).filterMap (·.frame))).get? q.1 = some q.2 ∧ base.get? q.1 = none := fun q hq => by
    refine ⟨hideAll_get _ (N q hq).1 fun hm => ?_, fresh_of_stays K.stays (N q hq).2.2⟩
    rcases List.mem_cons.mp hm with hm | hm
    · exact hne q hq hm
    · obtain ⟨env, he, hf⟩ := List.mem_filterMap.mp hm
      rcases List.mem_cons.mp he with rfl | he
      · exact (N q hq).2.1 (Option.some.inj hf).symm
      · obtain ⟨o, ho, _⟩ := (K.frames.mem (List.mem_filterMap.mpr ⟨env, he, hf⟩)).2
        rw [(N q hq).2.2] at ho; cases ho
  have hen : (hideAll s'.heap (e :: (envOf name scope L a cd :: outer).filterMap (·.frame))).get? e = none := hideAll_none _ (.head _)
  unfold leaving
  refine wpAny_bind (noteFirstX K'.stack (funFrames_hide K'.frames hin) rfl he (fun b o q => of_hideAll _ q) hen hd h1 h0 hdx fun h₁ hN hdi => ?_)
  obtain ⟨n1, n2, n3, n4⟩ := hN
  rw [hc] at n3
  refine landsX ⟨n1, hen, n2, n3⟩ hdi fun h₂ hfl hup hdi₂ => ?_
  obtain ⟨k1, k2, ⟨_, _, k3⟩, k4⟩ := hfl
  exact hQ h₂ ⟨_, _, st, hl, ⟨k1, k2, k3, k4⟩, hdi₂⟩ (((Heap.UpToSlots.of_keeps F.keep).trans n4).trans hup)
theorem leave_onX (K : Below A base outer g) (F : Fr g L g₂ m) (R : RaisedX base (envOf name scope L a cd :: outer) e dx news s'.heap) (hsm : g₂.UpToSlots s'.heap)
    (hQ : ∀ h', RaisedX base outer e dx news h' → g.UpToSlots h' → Q () { s' with heap := h' }) :
    wpAny M (A.deeper (envOf name scope L a cd)) (leaving (envOf name scope L a cd) (.ref e)) Q E s' := by
  obtain ⟨B, a0, st, hl, ⟨f1, f2, f3, f4⟩, hdi⟩ := R
  unfold leaving
  refine wpAny_bind (noteOnX (Around.frames_deeper K.stack) f3 rfl f4 f1 f2 hdi fun h₁ hN hdi => ?_)
  obtain ⟨n1, n2, n3, n4⟩ := hN
  refine landsX ⟨n1, f2, n2, n3⟩ hdi fun h₂ hfl hup hdi₂ => ?_
  obtain ⟨k1, k2, ⟨_, _, k3⟩, k4⟩ := hfl
  exact hQ h₂ ⟨_, _, st, hl, ⟨k1, k2, k3, k4⟩, hdi₂⟩ ((Heap.UpToSlots.of_keeps F.keep).trans ((hsm.trans n4).trans hup))
end
section
open PySem.Calls
variable {prog : Program} {w : World} {A : Around} {E : Value → Shared → Prop} {h : Heap} {g : Array GenState} {d : Drawn} {t : Nat} {os : OsState}
variable {nm q : Str} {C N : Addr} {bs bm bmB : List Value} {hdct : Bool} {sn : List Str} {sub : List Value} {ab : Bool} {col : Option Bool} {dd : Option Addr} {k0 k1 k2 k3 k5 : Option Value} {B newId initId : String}
theorem type_call_initX (F : ExcBaseFacts B newId initId bmB) (T : OwnTail h bmB bm) {mN : Str → Option Value} {rest : List Value} {fI : Addr} {oI : Obj} {Q : Fin → Shared → Prop}
    (hC : h.get? C = some (excClassObj nm q C N bs bm hdct sn sub ab col dd k0 k1 k2 k3 k5 newId)) (hn : h.Ns N mN) (hi : mN "__init__" = some (.ref fI)) (hfI : h.get? fI = some oI) (hfc : oI.cls = .type "function")
    (hq : ∀ h' e, Heap.MadeExcOf h h' e (.ref C) rest → wpAny (model prog w) A (call (.ref fI) (.ref e :: rest)) (fun r s' => r = .none ∧ Q (.done (.ret (.ref e))) s') E ⟨h', g, d, t, os⟩) (hrest : rest.length ≤ sizeLine) :
    wpAny (model prog w) A (Builtin.«type.__call__» ⟨.ref C :: rest, []⟩) Q E ⟨h, g, d, t, os⟩ := by
  repeat (first | with_reducible refine wpAny_loadPart_at hC ?_ | with_reducible refine wpAny_madeBy_exc hC ?_ | wp_step)
  refine codeAny_call_builtin_code (Code.quiet_builtin _ F.quiet) (wpAny_check_new_subU F F.hasB T hC ?_)
  refine codeAny_exc_new_subU F F.hasB F T hC ?_ hrest
  show wpAny _ _ _ _ _ _
  have keep : ∀ b o, h.get? b = some o → ((h.push { cls := .type "tuple", data := .seq rest.toArray }).push { cls := .ref C, data := .fields #[.ref h.objs.size, .none, .none, .none, .bool false, .none] }).get? b = some o :=
    fun b o e => Heap.get?_push_of_some _ (Heap.get?_push_of_some _ e)
  have hC₁ := keep _ _ hC
  have hfI₁ := keep _ _ hfI
  have hn₁ : ((h.push { cls := .type "tuple", data := .seq rest.toArray }).push { cls := .ref C, data := .fields #[.ref h.objs.size, .none, .none, .none, .bool false, .none] }).Ns N mN :=
    let ⟨o, es, ep, e, r⟩ := hn; ⟨o, es, ep, keep _ _ e, r⟩
  have hget : ((h.push { cls := .type "tuple", data := .seq rest.toArray }).push { cls := .ref C, data := .fields #[.ref h.objs.size, .none, .none, .none, .bool false, .none] }).get? (h.objs.size + 1) = some
      { cls := .ref C, data := .fields #[.ref h.objs.size, .none, .none, .none, .bool false, .none] } := by heap_get
  have hcC : (Value.ref C :: bm).contains (.ref C) = true := by simp
  have T₁ := T.keeps keep
  unfold isInstance
  repeat (first | with_reducible refine wpAny_loadPart_at hget ?_ | (with_reducible refine wpAny_isSubtype_exc hC₁ ?_; rw [hcC]) | wp_step)
  show wpAny _ _ (typeLookup (.ref C) _) _ _ _
  refine wpAny_typeLookup_tail hC₁ hn₁ T₁ F.mroIs F.init.lookup ?_
  rw [hi]
  refine wpAny_holding (wpAny_bind ?_)
  unfold bindSpecial
  refine wpAny_bind (wpAny_typeOf (T := "function") ⟨_, hfI₁, hfc⟩ ?_)
  rw [if_pos (by decide)]
  refine wpAny_pure (wpAny_bind (wpAny_mono (hq _ (h.objs.size + 1) ⟨keep, Heap.get?_none_of_le (Nat.le_succ _), h.objs.size, hget, Heap.get?_none_of_le (Nat.le_refl _), ?_⟩) (fun r s' hr => ?_) fun _ _ x => x))
  · exact Heap.get?_push_of_some _ (Heap.get?_push_at rfl rfl)
  · obtain ⟨rfl, hQ⟩ := hr
    wp_walk
    exact hQ
theorem call_initX (F : ExcBaseFacts B newId initId bmB) (T : OwnTail h bmB bm) {mN : Str → Option Value} {rest : List Value} {fI : Addr} {oI : Obj} {Q : Value → Shared → Prop}
    (hC : h.get? C = some (excClassObj nm q C N bs bm hdct sn sub ab col dd k0 k1 k2 k3 k5 newId)) (hn : h.Ns N mN) (hi : mN "__init__" = some (.ref fI)) (hfI : h.get? fI = some oI) (hfc : oI.cls = .type "function")
    (hq : ∀ h' e, Heap.MadeExcOf h h' e (.ref C) rest → wpAny (model prog w) (A.under (.builtin "type.__call__" ⟨.ref C :: rest, []⟩)) (call (.ref fI) (.ref e :: rest)) (fun r s' => r = .none ∧ Q (.ref e) s') E ⟨h', g, d, t, os⟩) (hrest : rest.length ≤ sizeLine) :
    wpAny (model prog w) A (call (.ref C) rest) Q E ⟨h, g, d, t, os⟩ := by
  have f1 := tc_lookup
  have f2 := tc_bind (.ref C)
  have hT : (⟨h, g, d, t, os⟩ : Shared).TypeIs (.ref C) "type" := ⟨_, hC, rfl⟩
  refine wpAny_call (codeAny_of_tree ?_)
  show wpAny _ _ (callAny (.ref C) _) _ _ _
  repeat (any_goals (first | assumption | with_reducible refine wpAny_loadPart_at hC ?_ | wp_step))
  refine ⟨rfl, ?_⟩
  exact codeAny_call_builtin_at (Code.quiet_builtin _ (by decide +kernel)) entry_typeCall (wpAny_check_type_call_sub hC (type_call_initX (hrest := hrest) F T hC hn hi hfI hfc fun h' e hm => hq h' e hm))
noncomputable def RaisableX (C : Addr) (E : Value → Shared → Prop) (v : Value) (s₁ : Shared) : Prop :=
  ∃ (nm q : Str) (N : Addr) (bs bm : List Value) (hdct : Bool) (sn : List Str) (sub : List Value) (ab : Bool) (col : Option Bool) (dd : Option Addr) (k0 k1 k2 k3 k5 : Option Value) (newId : String) (e : Addr) (dct : Option Addr) (vs : Array Value) (sl : Array (Option Value)),
    v = .ref e ∧ bm.contains (.type "BaseException") = true ∧ s₁.heap.get? C = some (excClassObj nm q C N bs bm hdct sn sub ab col dd k0 k1 k2 k3 k5 newId) ∧ s₁.heap.get? e = some { cls := .ref C, dict := dct, data := .fields vs, slots := sl } ∧ vs[1]? = some .none ∧ E (.ref e) s₁
theorem raise_X {C : Addr} {env : Env} {x : Sem Value} {s : Shared} {Q : Flow → Shared → Prop} {M : Model} (hh : A.handled = none) (h : wpAny M A x (RaisableX C E) E s) : wpAny M A (raiseStmt env (some x) none) Q E s := by
  unfold raiseStmt
  refine wpAny_bind (wpAny_mono h (fun v s₁ h₁ => ?_) fun _ _ x => x)
  obtain ⟨nm, q, N, bs, bm, hdct, sn, sub, ab, col, dd, k0, k1, k2, k3, k5, newId, e, dct, vs, sl, rfl, hbase, hC, he, h1, hE⟩ := h₁
  have hcB : (Value.ref C :: bm).contains (.type "BaseException") = true := by rw [List.contains_cons, hbase, Bool.or_true]
  obtain ⟨hp, g, d, tk, os⟩ := s₁
  repeat (first | with_reducible refine wpAny_loadPart_at he ?_ | with_reducible refine wpAny_loadPart_at hC ?_ | (with_reducible refine wpAny_isSubtype_exc hC ?_; rw [hcB]) | wp_step)
  rw [h1]
  refine wpAny_pure ?_
  rw [if_neg (by decide)]
  exact wpAny_pure (wpAny_raiseNew_none hh hE)
end
end
section
section
open PySem.Calls PySem.Builtin PySem.Builtin.ObjectAttr
variable {prog : Program} {w : World} {A : Around} {E : Value → Shared → Prop} {s : Shared} {K : Frag} {x C c2 : Addr}
theorem storeX {d : Addr} {es es' : List DictEntry} {n n' : Nat} {name : Str} {tk : Tok} {v : Value} {Q : Fin → Shared → Prop} (D : s.heap.get? d = some (dictOf es n)) (hl : (getL name es).isSome = true)
    (e : (putL name (PyData.keyHash w.params name) (.str name s.toks) v es, putN name es n) = (es', n')) (hz : es'.length ≤ 1000)
    (h : ∀ h', h'.get? d = some (dictOf es' n') → (∀ b, b ≠ d → h'.get? b = s.heap.get? b) → Q (.done (.ret .none)) { s with heap := h', toks := s.toks + 1 }) :
    wpAny (model prog w) A (storeInDict d (.str name tk) name v) Q E s := by
  obtain ⟨e1, e2⟩ := Prod.mk.inj e
  have ep : Obj.putName name (PyData.keyHash w.params name) (.str name s.toks) v (dictOf es n) = dictOf es' n' := by rw [putName_dict, e1, e2]
  have D' : (s.heap.update d (Obj.putName name (PyData.keyHash w.params name) (.str name s.toks) v)).get? d = some (dictOf es' n') := by
    rw [Heap.get?_update_self _ D (by rw [ep]; rfl), ep]
  unfold storeInDict newKeyGuard
  refine wpAny_bind (wpAny_pure (wpAny_bind ?_))
  unfold nsSet
  refine wpAny_bind (wpAny_bind (wpAny_askSetting (wpAny_pure (wpAny_bind (wpAny_mkText (wpAny_bind (wpAny_loadPart D ?_)))))))
  dsimp only
  have c : (!es.toArray.any (·.key.isStr name) && es.toArray.any (·.refKey)) = false := by
    rw [← Array.any_toList, ← Array.any_toList]
    unfold getL at hl
    split at hl
    · rename_i en he
      rw [List.any_eq_true.mpr ⟨en, List.mem_of_find?_eq_some he, List.find?_some he⟩]; rfl
    · split at hl
      · cases hl
      · rename_i z; rw [Bool.not_eq_true] at z; rw [z, Bool.and_false]
  rw [aRefKeyMayBeTheName_at, c]
  refine wpAny_updatePart D ?_
  refine wpAny_bind (wpAny_lookBehind D' (by exact pastItsLine_dict (by rw [List.size_toArray, sizeLine_eq]; omega)) ?_)
  exact wpAny_pure (h _ D' fun b hb => Heap.get?_update_other _ _ (Ne.symm hb))
theorem osa_openX {ox : Obj} {od : Option Obj} {name : Str} {tk : Tok} {v : Value} {R : Result → Shared → Prop} {cd : ClassData} (X : K.In s.heap) (I : InstAt s.heap x ox C od) (hc : clsIn K C = some cd) (hm : cd.mro = [.ref C, .ref c2, .type "Exception", .type "BaseException", .type "object"]) (hsub : mroIn K C (.type "object") = some true) (ht : takerIn K C name = some none)
    (h : ∀ b, wpAny (model prog w) A.in1 (storeInOwnDict (.ref x) (.ref C) (.str name tk) name v b)
      (fun fin s' => match fin with | .done f => R (.ok f) s' | .again c' => c'.quiet = true ∧ codeAny (model prog w) A c' R s') (fun e s' => R (.error e) s') s) :
    codeAny (model prog w) A (.call (.builtin "object.__setattr__") ⟨[.ref x, .str name tk, v], []⟩) R s := by
  have SF := PySem.F.store_object
  have sub : Looks (model prog w) s.heap (isInstance (.ref x) (.type "object")) true := I.type.andThen (looks_mroIn X hsub)
  refine codeAny_call_builtin SF.slot.plain SF.entry (@check_slot (model prog w) _ _ s "object.__setattr__" "object" "__setattr__" (.ref x) [.str name tk, v] [] _ SF.kind SF.split sub (SF.args (.ref x) (.str name tk) v) ?_)
  obtain ⟨attr, ha, hr⟩ := Option.bind_eq_some_iff.mp ht
  have hmo : Looks (model prog w) s.heap (mroOf (.ref C)) cd.mro := (looks_clsIn X hc).andThen .now
  have L3 : Looks (model prog w) s.heap (storeTaker? attr) none := by
    cases attr with
    | none => exact .now
    | some a =>
      obtain ⟨b, hb, hr⟩ := Option.map_eq_some_iff.mp hr
      refine (looks_takesIn X hb).andThen ?_
      cases b with
      | true => cases hr
      | false => exact .now
  rw [osa_eq, refuse_eq]
  refine wpAny_bind (wpAny_bind (I.type.here (wpAny_bind (hmo.here ?_))))
  rw [hm, refuseLoop_ref, refuseLoop_ref, PySem.F.store_Exception.passes (.ref x)]
  refine wpAny_pure (wpAny_bind (I.type.here (wpAny_bind ((looks_findIn X ha).here (wpAny_bind (L3.here ?_))))))
  exact h _
variable {h₀ : Heap} {L : Addr} {m : Str → Option Value} {news : List (Addr × Obj)} {vs : Array Value} {sl : Array (Option Value)} {name : Str} {v : Value} {Q : Unit → Shared → Prop} {cd : ClassData}
theorem fr_keep {h h' : Heap} (F : Fr h₀ L h m) (hL : x ≠ L) (hn : h₀.get? x = none) (keep : ∀ b o, b ≠ x → h.get? b = some o → h'.get? b = some o) : Fr h₀ L h' m := by
  obtain ⟨⟨oL, es, ep, eL, rL⟩, k, ab⟩ := F
  exact ⟨⟨oL, es, ep, keep L oL (Ne.symm hL) eL, rL⟩, fun b o e => keep b o (fun q => by rw [q, hn] at e; cases e) (k b o e), ab⟩
theorem osaX0 {tk : Tok} {R : Result → Shared → Prop} (F : Fr h₀ L s.heap m) (X₀ : K.In h₀) (N : News h₀ L s.heap ((x, (⟨.ref C, none, .fields vs, sl⟩ : Obj)) :: news)) (hne : ∀ p ∈ news, p.1 ≠ x)
    (hc : clsIn K C = some cd) (hm : cd.mro = [.ref C, .ref c2, .type "Exception", .type "BaseException", .type "object"]) (hdi : cd.hasDict = true) (hsub : mroIn K C (.type "object") = some true) (ht : takerIn K C name = some none)
    (h : ∀ d h', Fr h₀ L h' m → News h₀ L h' ((x, (⟨.ref C, some d, .fields vs, sl⟩ : Obj)) :: (d, dictOf [⟨PyData.keyHash w.params name, .str name s.toks, v⟩] 1) :: news) → (∀ p ∈ news, p.1 ≠ d) → d ≠ x → R (.ok (.ret .none)) { s with heap := h', toks := s.toks + 1 }) :
    codeAny (model prog w) A (.call (.builtin "object.__setattr__") ⟨[.ref x, .str name tk, v], []⟩) R s := by
  have hx := N.get (.head _)
  have X := X₀.keeps F.keep
  have I : InstAt s.heap x (⟨.ref C, none, .fields vs, sl⟩ : Obj) C none := ⟨hx, rfl, rfl, trivial⟩
  refine osa_openX (c2 := c2) X I hc hm hsub ht fun b => ?_
  refine wpAny_bind (wpAny_pure (wpAny_bind (wpAny_bind (wpAny_loadPart hx (wpAny_bind ((looks_clsIn X hc).here ?_))))))
  rw [hdi]
  dsimp only
  rw [if_neg (by decide), if_neg (by simp [typeHasDict])]
  have hxs : x ≠ s.heap.objs.size := Nat.ne_of_lt (Heap.lt_size hx)
  have hx₁ : (s.heap.push { cls := .type "dict", data := .dict #[] }).get? x = some (⟨.ref C, none, .fields vs, sl⟩ : Obj) := Heap.get?_push_of_some _ hx
  refine wpAny_bind (wpAny_alloc ?_)
  refine wpAny_bind (wpAny_update hx₁ ?_)
  refine wpAny_pure ?_
  show wpAny _ _ (storeInDict s.heap.objs.size (.str name tk) name v) _ _ _
  have hg1 : ∀ b, b ≠ x → ((s.heap.push { cls := .type "dict", data := .dict #[] }).update x fun o => { cls := o.cls, dict := some s.heap.objs.size, data := o.data, slots := o.slots }).get? b = (s.heap.push { cls := .type "dict", data := .dict #[] }).get? b := fun b hb => Heap.get?_update_other _ _ (Ne.symm hb)
  have hgx : ((s.heap.push { cls := .type "dict", data := .dict #[] }).update x fun o => { cls := o.cls, dict := some s.heap.objs.size, data := o.data, slots := o.slots }).get? x = some (⟨.ref C, some s.heap.objs.size, .fields vs, sl⟩ : Obj) := Heap.get?_update_self _ hx₁ rfl
  have D : ((s.heap.push { cls := .type "dict", data := .dict #[] }).update x fun o => { cls := o.cls, dict := some s.heap.objs.size, data := o.data, slots := o.slots }).get? s.heap.objs.size = some (dictOf [] 0) := (hg1 _ (Ne.symm hxs)).trans (Heap.get?_push_size _ rfl)
  refine storeX (es := []) (n := 0) D rfl rfl (Nat.le_of_ble_eq_true rfl) fun h' hd ho => ?_
  have keep : ∀ b o, b ≠ x → s.heap.get? b = some o → h'.get? b = some o := fun b o hb e => by
    rw [ho b (Nat.ne_of_lt (Heap.lt_size e))]
    exact (hg1 b hb).trans (Heap.get?_push_of_some _ e)
  have hxh := (ho x hxs).trans hgx
  have hxn := (N _ (.head _)).2
  refine h s.heap.objs.size h' (fr_keep F hxn.1 hxn.2 keep) ?_ (fun p hp => Nat.ne_of_lt (Heap.lt_size (N p (.tail _ hp)).1)) (Ne.symm hxs)
  intro p hp
  rcases List.mem_cons.mp hp with rfl | hp
  · exact ⟨hxh, hxn⟩
  · rcases List.mem_cons.mp hp with rfl | hp
    · refine ⟨hd, Nat.ne_of_gt F.ns.lt, ?_⟩
      cases hq : h₀.get? s.heap.objs.size with
      | none => rfl
      | some o' => exact absurd (Heap.lt_size (F.keep _ _ hq)) (Nat.lt_irrefl _)
    · exact ⟨keep _ _ (hne p hp) (N p (.tail _ hp)).1, (N p (.tail _ hp)).2⟩
theorem osaX1 {tk : Tok} {R : Result → Shared → Prop} {d : Addr} {es es' : List DictEntry} {n n' : Nat} (F : Fr h₀ L s.heap m) (X₀ : K.In h₀) (N : News h₀ L s.heap ((x, (⟨.ref C, some d, .fields vs, sl⟩ : Obj)) :: (d, dictOf es n) :: news)) (hne : ∀ p ∈ news, p.1 ≠ d) (hxd : d ≠ x)
    (hc : clsIn K C = some cd) (hm : cd.mro = [.ref C, .ref c2, .type "Exception", .type "BaseException", .type "object"]) (hdi : cd.hasDict = true) (hsub : mroIn K C (.type "object") = some true) (ht : takerIn K C name = some none)
    (hl : (getL name es).isSome = true) (e : (putL name (PyData.keyHash w.params name) (.str name s.toks) v es, putN name es n) = (es', n')) (hz : es'.length ≤ 1000)
    (h : ∀ h', Fr h₀ L h' m → News h₀ L h' ((x, (⟨.ref C, some d, .fields vs, sl⟩ : Obj)) :: (d, dictOf es' n') :: news) → R (.ok (.ret .none)) { s with heap := h', toks := s.toks + 1 }) :
    codeAny (model prog w) A (.call (.builtin "object.__setattr__") ⟨[.ref x, .str name tk, v], []⟩) R s := by
  have hx := N.get (.head _)
  have hd := N.get (.tail _ (.head _))
  have X := X₀.keeps F.keep
  have I : InstAt s.heap x (⟨.ref C, some d, .fields vs, sl⟩ : Obj) C (some (dictOf es n)) := ⟨hx, rfl, rfl, hd⟩
  refine osa_openX (c2 := c2) X I hc hm hsub ht fun b => ?_
  refine wpAny_bind (wpAny_pure (wpAny_bind (wpAny_bind (wpAny_loadPart hx (wpAny_bind ((looks_clsIn X hc).here ?_))))))
  rw [hdi]
  dsimp only
  rw [if_neg (by decide)]
  refine wpAny_pure ?_
  show wpAny _ _ (storeInDict d (.str name tk) name v) _ _ _
  refine storeX hd hl e hz fun h' hd' ho => ?_
  have keep : ∀ b o, b ≠ d → s.heap.get? b = some o → h'.get? b = some o := fun b o hb q => (ho b hb).trans q
  have hdn := (N _ (.tail _ (.head _))).2
  refine h h' (fr_keep F hdn.1 hdn.2 keep) ?_
  intro p hp
  rcases List.mem_cons.mp hp with rfl | hp
  · exact ⟨keep _ _ (Ne.symm hxd) hx, (N _ (.head _)).2⟩
  · rcases List.mem_cons.mp hp with rfl | hp
    · exact ⟨hd', hdn⟩
    · exact ⟨keep _ _ (hne p hp) (N p (.tail _ (.tail _ hp))).1, (N p (.tail _ (.tail _ hp))).2⟩
theorem setX1 {d : Addr} {es es' : List DictEntry} {n n' : Nat} (F : Fr h₀ L s.heap m) (X₀ : K.In h₀) (N : News h₀ L s.heap ((x, (⟨.ref C, some d, .fields vs, sl⟩ : Obj)) :: (d, dictOf es n) :: news)) (hne : ∀ p ∈ news, p.1 ≠ d) (hxd : d ≠ x) (hs : findIn K (.ref C) "__setattr__" = some (some (.builtin "object.__setattr__")))
    (hc : clsIn K C = some cd) (hm : cd.mro = [.ref C, .ref c2, .type "Exception", .type "BaseException", .type "object"]) (hdi : cd.hasDict = true) (hsub : mroIn K C (.type "object") = some true) (ht : takerIn K C name = some none)
    (hl : (getL name es).isSome = true) (e : (putL name (PyData.keyHash w.params name) (.str name (s.toks + 1)) v es, putN name es n) = (es', n')) (hz : es'.length ≤ 1000)
    (h : ∀ h', Fr h₀ L h' m → News h₀ L h' ((x, (⟨.ref C, some d, .fields vs, sl⟩ : Obj)) :: (d, dictOf es' n') :: news) → Q () { s with heap := h', toks := s.toks + 2 }) :
    wpAny (model prog w) A (setAttr (.ref x) name v) Q E s := by
  have hx := N.get (.head _)
  have X := X₀.keeps F.keep
  have I : InstAt s.heap x (⟨.ref C, some d, .fields vs, sl⟩ : Obj) C (some (dictOf es n)) := ⟨hx, rfl, rfl, N.get (.tail _ (.head _))⟩
  exact set_plain X I hs (osaX1 (s := { s with toks := s.toks + 1 }) F X₀ N hne hxd hc hm hdi hsub ht hl e hz h)
theorem setX0 (F : Fr h₀ L s.heap m) (X₀ : K.In h₀) (N : News h₀ L s.heap ((x, (⟨.ref C, none, .fields vs, sl⟩ : Obj)) :: news)) (hne : ∀ p ∈ news, p.1 ≠ x) (hs : findIn K (.ref C) "__setattr__" = some (some (.builtin "object.__setattr__")))
    (hc : clsIn K C = some cd) (hm : cd.mro = [.ref C, .ref c2, .type "Exception", .type "BaseException", .type "object"]) (hdi : cd.hasDict = true) (hsub : mroIn K C (.type "object") = some true) (ht : takerIn K C name = some none)
    (h : ∀ d h', Fr h₀ L h' m → News h₀ L h' ((x, (⟨.ref C, some d, .fields vs, sl⟩ : Obj)) :: (d, dictOf [⟨PyData.keyHash w.params name, .str name (s.toks + 1), v⟩] 1) :: news) → (∀ p ∈ news, p.1 ≠ d) → d ≠ x → Q () { s with heap := h', toks := s.toks + 2 }) :
    wpAny (model prog w) A (setAttr (.ref x) name v) Q E s := by
  have hx := N.get (.head _)
  have X := X₀.keeps F.keep
  have I : InstAt s.heap x (⟨.ref C, none, .fields vs, sl⟩ : Obj) C none := ⟨hx, rfl, rfl, trivial⟩
  exact set_plain X I hs (osaX0 (s := { s with toks := s.toks + 1 }) F X₀ N hne hc hm hdi hsub ht h)
end
end
section
theorem ns_some_of {K : Frag} {h : Heap} {N : Addr} {mg : Str → Option Value} {n : Str} {v : Value} (X : K.In h) (G : h.Ns N mg) (e : nsIn K N n = some (some v)) : mg n = some v := by
  obtain ⟨o, es, ep, ho, hd, _, hf⟩ := G
  unfold nsIn at e
  split at e
  · rename_i c d es' n' sl q
    have := X _ _ q
    rw [ho] at this
    cases this
    cases hd
    split at e
    · rename_i en he
      cases e
      rw [← hf]
      unfold nsFind findBy
      rw [← Array.find?_toList, he]
      rfl
    · split at e <;> cases e
  · cases e
section
variable {w : World} {loose : List Str} {mean : ExcName → Option Value} {mg mb : Str → Option Value}
theorem s_exc {kd : Str} {at_ : Int} {t1 t2 : Tok} {news : List (Addr × Obj)} :
    Spec w loose mean mg mb 51 [.str kd t1, .int at_ t2] 6 news (fun h₀ L m s Q => ∀ (e dx t : Addr) (c : ExcK) (h' : Heap) (tk' : Nat), Fr h₀ L h' m → News h₀ L h' ((e, (⟨.ref 51, some dx, .fields #[.ref t, .none, .none, .none, .bool false, .none], #[]⟩ : Obj)) :: (dx, excD w.params c kd at_) :: news) → dx ≠ e → (∀ p ∈ news, p.1 ≠ e) → Q (.ref e) { s with heap := h', toks := tk' }) NoErr := by
  unfold Spec NoErr
  k_fill
  k_with_none
  (k_with "setAttr ref" => (k_here; k_dflt (first   | (refine' setX0 ?k1 ?k2 ?k3 ?k4 ?k5 ?k6 ?k7 ?k8 ?k9 ?k10 ?_; (case k1 => k_asm); (case k2 => k_asm); (case k3 => k_asm); (case k4 => k_all); (case k5 => k_is); (case k6 => k_is); (case k7 => exact rfl); (case k8 => exact rfl); (case k9 => k_is); (case k10 => k_is); k_whole; intro d' h' F' N' l1 l2; (try k_sweep))   | (refine' setX1 ?k1 ?k2 ?k3 ?k4 ?k4b ?k5 ?k6 ?k7 ?k8 ?k9 ?k10 ?k11 ?k12 ?k13 ?_; (case k1 => k_asm); (case k2 => k_asm); (case k3 => k_asm); (case k4 => k_all); (case k4b => assumption); (case k5 => k_is); (case k6 => k_is); (case k7 => exact rfl); (case k8 => exact rfl); (case k9 => k_is); (case k10 => k_is); (case k11 => k_get); (case k12 => k_put); (case k13 => exact Nat.le_of_ble_eq_true rfl); k_whole; intro h' F' N'; (try k_sweep)))))
  intro dp un gd cn cs a ccd cl outer A₀ base h₀ L m s Q E B F X N T hk hdp hu hret _
  have X₁ := X.keeps F.keep
  have hC : s.heap.get? 51 = some (PySem.excClassObj (Str.ofString "ReadError") (Str.ofString "ReadError") 51 50 [.ref 31] [.ref 31, .type "Exception", .type "BaseException", .type "object"] true [] [] false none none (some (.ref 35)) none (some (.str (Str.ofString "ReadError") 216)) (some (.str (Str.ofString "ReadError") 224)) (some (.bool true)) "Exception.__new__") := X₁ 51 _ (by kernel_rfl)
  have hok : nsOkIn (hd.heap_39 w.params) 50 = true := by kernel_rfl
  have hns : s.heap.Ns 50 (s.heap.nsMap 50) := .of_isNs (isNs_of_in X₁ hok)
  have hi : s.heap.nsMap 50 "__init__" = some (.ref 48) := ns_some_of X₁ hns (by k_is)
  have hT : OwnTail s.heap [.type "Exception", .type "BaseException", .type "object"] [.ref 31, .type "Exception", .type "BaseException", .type "object"] := tail_of_in X₁ (by kernel_rfl)
  obtain ⟨hp, g, d, tk, os⟩ := s
  refine call_initX PySem.F.excBase_Exception hT hC hns hi (X₁ 48 _ (by k_is)) rfl (fun h' e hm => ?_) (Nat.le_of_ble_eq_true rfl)
  obtain ⟨hkeep, hnew, t, he, _, _⟩ := hm
  have F' : Fr h₀ L h' m := F.keeps hkeep
  have heL : e ≠ L := fun q => by
    obtain ⟨oL, _, _, eL, _⟩ := F.ns
    subst q
    rw [eL] at hnew
    cases hnew
  have N' : News h₀ L h' ((e, (⟨.ref 51, none, .fields #[.ref t, .none, .none, .none, .bool false, .none], #[]⟩ : Obj)) :: news) := by
    intro p hp'
    rcases List.mem_cons.mp hp' with rfl | hp'
    · refine ⟨he, heL, ?_⟩
      cases hq : h₀.get? e with
      | none => rfl
      | some o => have := F.keep _ _ hq; rw [hnew] at this; cases this
    · exact ⟨hkeep _ _ (N p hp').1, (N p hp').2⟩
  have hne : ∀ p ∈ news, p.1 ≠ e := fun p hp' q => by
    have := (N p hp').1
    rw [q, hnew] at this
    cases this
  clear F N
  refine wpAny_call ?_
  k_dflt (refine' code_def ?k1 ?k2 ?k3 ?k4 ?k5 ?kA ?kF ?kK ?k6 ?k7 ?k8 ?k9 ?kB ?_ ?c2 ?c3 ?c4 ?c5; (case kA => exact rfl); (case kF => exact rfl); (case kK => first | exact rfl | assumption); (case k1 => k_asm); (case k2 => k_asm); (case k3 => k_asm); (case k4 => k_asm); (case k5 => k_asm); (case k6 => k_is); (case k7 => k_is); (case k8 => k_room); (case k9 => first | exact BindsTo.of_eq rfl | exact binds_K (by k_in) rfl (by k_is) rfl rfl rfl | fail "k_enter: no rule for these arguments"); (case c5 => decide); (case kB => exact locs rfl); (case c2 => exact rfl); (case c3 => exact rfl); (case c4 => exact rfl); k_whole; intro _ _ _ _ _ _ BZ _ _; (try dsimp only); (try k_lift BZ); (try k_fold))
  k_steps
  exact hret e _ t ⟨_, _, _, _⟩ _ _ (by assumption) (by assumption) (by assumption) hne
end
section
open PySem.Calls
variable {M : Model} {A : Around} {E : Value → Shared → Prop} {s s' s₁ : Shared} {base g g₂ : Heap} {outer : List Env} {L a e dx t : Addr} {m : Str → Option Value} {name : Str} {scope : Scope} {cd : Value} {news news' : List (Addr × Obj)} {D : Obj}
theorem raisable51 {w : World} {vs : Array Value} {sl : Array (Option Value)} {dct : Option Addr} (X : (hd.heap_39 w.params).In s₁.heap) (he : s₁.heap.get? e = some ⟨.ref 51, dct, .fields vs, sl⟩) (h1 : vs[1]? = some .none) (hE : E (.ref e) s₁) : RaisableX 51 E (.ref e) s₁ :=
  ⟨Str.ofString "ReadError", Str.ofString "ReadError", 50, [.ref 31], [.ref 31, .type "Exception", .type "BaseException", .type "object"], true, [], [], false, none, none, some (.ref 35), none, some (.str (Str.ofString "ReadError") 216), some (.str (Str.ofString "ReadError") 224), some (.bool true), "Exception.__new__", e, dct, vs, sl, rfl, by decide, X 51 _ (by kernel_rfl), he, h1, hE⟩
theorem Raise_ownX {env : Env} {x : PySem.Expr} {pos : Pos} {Q : Flow → Shared → Prop} (hh : A.handled = none) (h : wpAny M A (eval x env) (RaisableX 51 E) E s) : wpAny M A (exec (.Raise (some x) none pos) env) Q E s := by
  show wpAny M A (do standAt pos; raiseStmt env (some (do let v ← eval x env; standAt pos; pure v)) none) Q E s
  exact wpAny_bind (wpAny_standAt (raise_X hh (wpAny_bind (wpAny_mono h (fun v s₁ h₁ => wpAny_bind (wpAny_standAt (wpAny_pure h₁))) fun _ _ x => x))))
theorem leave_newX2 {Q : Unit → Shared → Prop} (K : Below A base outer g) (F : Fr g L s'.heap m) (N : News g L s'.heap ((e, (⟨.ref 51, some dx, .fields #[.ref t, .none, .none, .none, .bool false, .none], #[]⟩ : Obj)) :: (dx, D) :: news)) (hde : dx ≠ e) (hne : ∀ q ∈ news, q.1 ≠ e)
    (hQ : ∀ h', RaisedX base outer e dx ((dx, D) :: news) h' → g.UpToSlots h' → Q () { s' with heap := h' }) (hk : scope.kind = .function) :
    wpAny M (A.deeper (envOf name scope L a cd)) (leaving (envOf name scope L a cd) (.ref e)) Q E s' :=
  leave_newX K F (fun p hp => N p (.tail _ hp)) (N.get (.head _)) rfl rfl rfl rfl rfl (N _ (.head _)).2.2 (fun q hq => by
    rcases List.mem_cons.mp hq with rfl | hq
    · exact hde
    · exact hne q hq) hQ hk
end
/-- it raises ReadError, told at a place -/
noncomputable abbrev Fails (P : Params) (at_ : Int) (news : List (Addr × Obj)) : Heap → List Env → Heap → Addr → (Str → Option Value) → Shared → (Value → Shared → Prop) → Prop :=
  fun base l h₀ L m s E => ∀ (e dx : Addr) (c : ExcK) (kd : Str) (h' g₂ : Heap) (tk' : Nat), Fr h₀ L g₂ m → g₂.UpToSlots h' → RaisedX base l e dx ((dx, excD P c kd at_) :: news) h' → E (.ref e) { s with heap := h', toks := tk' }
theorem raisedX_one {base : Heap} {l : List Env} {e dx : Addr} {D : Obj} {p : Addr × Obj} {news : List (Addr × Obj)} {h : Heap} (x : RaisedX base l e dx ((dx, D) :: p :: news) h) : RaisedX base l e dx ((dx, D) :: news) h :=
  x.drop fun q hq => by
    rcases List.mem_cons.mp hq with rfl | hq
    · exact .head _
    · exact .tail _ (.tail _ hq)
theorem raisedX_two {base : Heap} {l : List Env} {e dx : Addr} {D : Obj} {p p' : Addr × Obj} {news : List (Addr × Obj)} {h : Heap} (x : RaisedX base l e dx ((dx, D) :: p :: p' :: news) h) : RaisedX base l e dx ((dx, D) :: news) h :=
  raisedX_one (raisedX_one x)
end
section
section
variable {w : World} {loose : List Str} {mean : ExcName → Option Value} {mg mb : Str → Option Value}
theorem s_skip {k : LexK} {tx : Str} {at_ : Int} {tv : Tok} {nl : Bool} {rest : List (Addr × Obj)} (hx : (k.x, instObj 297 k.dx) ∈ rest) (hne : ∀ p ∈ rest, p.1 ≠ k.dx) (hlen : tx.length ≤ 1000) (h0 : 0 ≤ at_) :
    Spec w loose mean mg mb 210 [.ref k.x] 3 ((k.dx, lexD w.params k tx at_ tv nl) :: rest) (fun h₀ L m s Q => ∀ (te : Tok) (h' : Heap) (tk' : Nat), Fr h₀ L h' m → News h₀ L h' ((k.dx, lexD w.params k tx (skipE tx at_ false).1 te (skipE tx at_ false).2) :: rest) → Q .none { s with heap := h', toks := tk' }) NoErr := by
  unfold Spec NoErr
  k_fill
  k_with_none
  (k_with "call ref" => (k_here; (with_reducible show wpAny _ _ (call (Value.ref 189) _) _ _ _); k_dflt ((with_unfolding_all refine' s_char ?q0 ?q1 ?q2 ?k1 ?k2 ?k3 ?k4 ?k5 ?kK ?kd ?ku ?_ ?ke); (case k1 => k_asm); (case k2 => k_asm); (case k3 => k_asm); (case k4 => k_asm); (case k5 => k_asm); (case q0 => k_mem); (case q1 => k_mem); (case q2 => omega); (case kK => first | exact rfl | assumption); (case kd => k_room); (case ku => ((try simp only [units_in1, units_deeper, Around.mark_units, units_caller]); (try dsimp only [ktrTop]); omega)); (case ke => exact trivial); k_whole; intro t9 h9 tk9 F9 N9; (try k_sweep); (try dsimp only); (try k_fold))))
  intro dp un gd cn cs a ccd cl outer A₀ base h₀ L m s Q E B F X N T hk hd hu hret _
  have hxd : k.x ≠ k.dx := hne _ hx
  replace N : News h₀ L s.heap ((k.x, instObj 297 k.dx) :: (k.dx, lexD w.params k tx at_ tv nl) :: rest) := by
    intro p hp
    rcases List.mem_cons.mp hp with rfl | hp
    · exact N _ (List.mem_cons_of_mem _ hx)
    · exact N _ hp
  replace hxd := neN hxd
  refine wpAny_call ?_
  k_dflt (refine' code_def ?k1 ?k2 ?k3 ?k4 ?k5 ?kA ?kF ?kK ?k6 ?k7 ?k8 ?k9 ?kB ?_ ?c2 ?c3 ?c4 ?c5; (case kA => exact rfl); (case kF => exact rfl); (case kK => first | exact rfl | assumption); (case k1 => k_asm); (case k2 => k_asm); (case k3 => k_asm); (case k4 => k_asm); (case k5 => k_asm); (case k6 => k_is); (case k7 => k_is); (case k8 => k_room); (case k9 => first | exact BindsTo.of_eq rfl | exact binds_K (by k_in) rfl (by k_is) rfl rfl rfl | fail "k_enter: no rule for these arguments"); (case c5 => decide); (case kB => exact locs rfl); (case c2 => exact rfl); (case c3 => exact rfl); (case c4 => exact rfl); k_whole; intro _ _ _ _ _ _ BZ _ _; (try dsimp only); (try k_lift BZ); (try k_fold))
  (k_with "exec While Constant cons nil" => k_while (fun _ a b => 0 ≤ a ∧ skipE tx a b = skipE tx at_ false) (fun _ a b => ((tx.length : Int) + 1 - a).toNat) "self.at" "self.newline")
  (k_with "exec While Compare cons nil" => k_while_given ["self.at!"] (fun a0 _ a => a0 ≤ a ∧ scan remP tx (a + 1) = scan remP tx (a0 + 1)) (fun a0 _ a => ((tx.length : Int) + 1 - a).toNat) "self.at")
  (k_with "state" => first
    | exact ⟨h0, rfl⟩
    | exact ⟨Int.le_refl _, rfl⟩
    | exact skip_nl (by assumption) (by assumption) (by assumption)
    | exact skip_rem (by assumption) (by assumption) (by assumption) (by assumption) (by assumption) (by assumption) (by assumption)
    | exact skip_in (by assumption) (by assumption) (by assumption) (by assumption)
    | exact skip_blank (by assumption) (by assumption) (by assumption) (by assumption) (by assumption) (by assumption))
  (k_with "measure" => first
    | exact less1 (in_lt_eq eqS_nil_nl (by assumption) (by assumption))
    | exact less2 (in_lt_eq eqS_nil_sharp (by assumption) (by assumption)) (by assumption)
    | exact less1 (in_lt_ne (by assumption) (by assumption))
    | exact skip_in_less (by assumption) (by assumption) (by assumption))
  k_steps
  · rw [skip_end1 (by assumption) (by assumption : skipE tx _ _ = skipE tx at_ false) (by assumption) (by assumption) (by assumption)] at hret
    rename_i kF kN _ _
    exact hret _ _ _ kF (fun p hp => kN p (List.mem_cons_of_mem _ hp))
  · rw [skip_end2 (by assumption) (by assumption : skipE tx _ _ = skipE tx at_ false) (by assumption) (by assumption) (by assumption)] at hret
    rename_i kF kN _ _
    exact hret _ _ _ kF (fun p hp => kN p (List.mem_cons_of_mem _ hp))
theorem s_skip1 {k : LexK} {tx : Str} {at_ p : Int} {tv : Tok} {nl nl' : Bool} {rest : List (Addr × Obj)} (hx : (k.x, instObj 297 k.dx) ∈ rest) (hne : ∀ p ∈ rest, p.1 ≠ k.dx) (hlen : tx.length ≤ 1000) (h0 : 0 ≤ at_) (hsk : skipE tx at_ false = (p, nl')) :
    Spec w loose mean mg mb 210 [.ref k.x] 3 ((k.dx, lexD w.params k tx at_ tv nl) :: rest) (fun h₀ L m s Q => ∀ (te : Tok) (h' : Heap) (tk' : Nat), Fr h₀ L h' m → News h₀ L h' ((k.dx, lexD w.params k tx p te nl') :: rest) → Q .none { s with heap := h', toks := tk' }) NoErr := by
  intro dp un gd cn cs a ccd cl outer A₀ base h₀ L m s Q E B F X N T hk hdp hu hret herr
  exact s_skip hx hne hlen h0 B F X N T hk hdp hu (by rw [hsk]; exact hret) herr
end
end
section
section
variable {w : World} {loose : List Str} {mean : ExcName → Option Value} {mg mb : Str → Option Value}
theorem s_digits_value {x : Str} {t : Tok} {news : List (Addr × Obj)} (hlen : x.length ≤ 1000) : Spec w loose mean mg mb 167 [.str x t] 1 news (Gives news fun t => .int (dval x) t) NoErr := by
  unfold Spec Gives NoErr
  k_fill
  k_with_none
  intro dp un gd cn cs a ccd cl outer A₀ base h₀ L m s Q E B F X N T hk hdp hu hret _
  refine wpAny_call ?_
  k_dflt (refine' code_def ?k1 ?k2 ?k3 ?k4 ?k5 ?kA ?kF ?kK ?k6 ?k7 ?k8 ?k9 ?kB ?_ ?c2 ?c3 ?c4 ?c5; (case kA => exact rfl); (case kF => exact rfl); (case kK => first | exact rfl | assumption); (case k1 => k_asm); (case k2 => k_asm); (case k3 => k_asm); (case k4 => k_asm); (case k5 => k_asm); (case k6 => k_is); (case k7 => k_is); (case k8 => k_room); (case k9 => first | exact BindsTo.of_eq rfl | exact binds_K (by k_in) rfl (by k_is) rfl rfl rfl | fail "k_enter: no rule for these arguments"); (case c5 => decide); (case kB => exact locs rfl); (case c2 => exact rfl); (case c3 => exact rfl); (case c4 => exact rfl); k_whole; intro _ _ _ _ _ _ BZ _ _; (try dsimp only); (try k_lift BZ); (try k_fold))
  (k_with "pyIter str" => k_state (fun pre v => v = dvalL pre) "value")
  (k_with "state" => first | exact dval_nil | exact dval_turn (by assumption))
  k_steps
  have e9 := (by assumption : _ = dvalL (KStt.codes x))
  subst e9
  exact hret _ _ _ (by assumption) (by assumption)
end
end
section
section
variable {w : World} {loose : List Str} {mean : ExcName → Option Value} {mg mb : Str → Option Value}
theorem s_number {n d : Int} {t t2 : Tok} {news : List (Addr × Obj)} (h0 : 0 ≤ n) (hd0 : 1 ≤ d) : Spec w loose mean mg mb 97 [.int n t, .int d t2] 5 news (fun h₀ L m s Q => ∀ (c : VecK) (h' : Heap) (tk' : Nat), Fr h₀ L h' m → News h₀ L h' (dblO w.params c (dblN n d) (dblD n d) ++ news) → (∀ q ∈ news, ∀ p ∈ dblO w.params c (dblN n d) (dblD n d), p.1 ≠ q.1) → Q (.ref c.v) { s with heap := h', toks := tk' }) NoErr := by
  unfold Spec NoErr
  k_fill
  k_with_none
  (k_with "binaryOp FloorDiv int int" => (k_here; (with_reducible show wpAny _ _ (binaryOp Operator.FloorDiv (Value.int _ _) (Value.int _ _)) _ _ _); k_dflt (refine' floordiv_int ?hb ?_ ?hp; (case hb => first | omega | exact gcd_ne (by assumption) (by assumption) (by assumption) (by assumption) (by assumption)); (case hp => exact Or.inr (PySem.PylongRoom.of (PySem.Heap.NoLimit.keeps (PyProof.Rows.Top.nolimit (by k_asm)) (PyProof.Rows.Fr.keep (by k_asm))) (by ((try simp only [depth_mark, depth_under_make, depth_under_kw, depth_in1, depth_deeper, depth_caller, Builtin.pylongFrames]); (try dsimp only [ktrTop, recursionLimit]); omega)) (PySem.SeerAt.of (PySem.Heap.NoSeer.keeps (PyProof.Rows.Top.seer (by k_asm) (by decide +kernel)) (PyProof.Rows.Fr.keep (by k_asm))) rfl rfl rfl rfl rfl rfl))))))
  intro dp un gd cn cs a ccd cl outer A₀ base h₀ L m s Q E B F X N T hk hdp hu hret herr
  refine wpAny_call ?_
  k_dflt (refine' code_def ?k1 ?k2 ?k3 ?k4 ?k5 ?kA ?kF ?kK ?k6 ?k7 ?k8 ?k9 ?kB ?_ ?c2 ?c3 ?c4 ?c5; (case kA => exact rfl); (case kF => exact rfl); (case kK => first | exact rfl | assumption); (case k1 => k_asm); (case k2 => k_asm); (case k3 => k_asm); (case k4 => k_asm); (case k5 => k_asm); (case k6 => k_is); (case k7 => k_is); (case k8 => k_room); (case k9 => first | exact BindsTo.of_eq rfl | exact binds_K (by k_in) rfl (by k_is) rfl rfl rfl | fail "k_enter: no rule for these arguments"); (case c5 => decide); (case kB => exact locs rfl); (case c2 => exact rfl); (case c3 => exact rfl); (case c4 => exact rfl); k_whole; intro _ _ _ _ _ _ BZ _ _; (try dsimp only); (try k_lift BZ); (try k_fold))
  (k_with "exec While Compare cons nil" => k_while (fun _ a b => 0 ≤ a ∧ 0 ≤ b ∧ Int.gcd a b = Int.gcd n d) (fun _ a b => b.toNat) "a" "b")
  (k_with "state" => first | exact gcd_start h0 hd0 | exact gcd_turn (by assumption) (by assumption) (by assumption) (by assumption))
  (k_with "measure" => exact gcd_less (by assumption))
  k_steps
  have hg := (by assumption : Int.gcd _ _ = Int.gcd n d)
  have e9 := gcd_end (by assumption) (by assumption) hg (by assumption)
  subst e9
  refine hret ⟨_, _, _, _, _, _, _, _, _, _, _, _, _⟩ _ _ (by assumption) (by assumption) ?_
  intro q hq p hp
  have h1 := ltN ((by assumption : ∀ p ∈ news, p.1 < _) q hq)
  simp only [List.mem_cons, List.not_mem_nil, or_false] at hp
  rcases hp with rfl | rfl | rfl | rfl <;> k_ne
theorem s_whole {n : Int} {t : Tok} {news : List (Addr × Obj)} : Spec w loose mean mg mb 89 [.int n t] 5 news (fun h₀ L m s Q => ∀ (c : VecK) (h' : Heap) (tk' : Nat), Fr h₀ L h' m → News h₀ L h' (intO w.params c n ++ news) → (∀ q ∈ news, ∀ p ∈ intO w.params c n, p.1 ≠ q.1) → Q (.ref c.v) { s with heap := h', toks := tk' }) NoErr := by
  unfold Spec NoErr
  k_fill
  k_with_none
  (k_with "binaryOp FloorDiv int int" => (k_here; (with_reducible show wpAny _ _ (binaryOp Operator.FloorDiv (Value.int _ _) (Value.int _ _)) _ _ _); k_dflt (refine' floordiv_int ?hb ?_ ?hp; (case hb => first | omega | exact gcd_ne (by assumption) (by assumption) (by assumption) (by assumption) (by assumption)); (case hp => exact Or.inr (PySem.PylongRoom.of (PySem.Heap.NoLimit.keeps (PyProof.Rows.Top.nolimit (by k_asm)) (PyProof.Rows.Fr.keep (by k_asm))) (by ((try simp only [depth_mark, depth_under_make, depth_under_kw, depth_in1, depth_deeper, depth_caller, Builtin.pylongFrames]); (try dsimp only [ktrTop, recursionLimit]); omega)) (PySem.SeerAt.of (PySem.Heap.NoSeer.keeps (PyProof.Rows.Top.seer (by k_asm) (by decide +kernel)) (PyProof.Rows.Fr.keep (by k_asm))) rfl rfl rfl rfl rfl rfl))))))
  intro dp un gd cn cs a ccd cl outer A₀ base h₀ L m s Q E B F X N T hk hdp hu hret herr
  refine wpAny_call ?_
  k_dflt (refine' code_def ?k1 ?k2 ?k3 ?k4 ?k5 ?kA ?kF ?kK ?k6 ?k7 ?k8 ?k9 ?kB ?_ ?c2 ?c3 ?c4 ?c5; (case kA => exact rfl); (case kF => exact rfl); (case kK => first | exact rfl | assumption); (case k1 => k_asm); (case k2 => k_asm); (case k3 => k_asm); (case k4 => k_asm); (case k5 => k_asm); (case k6 => k_is); (case k7 => k_is); (case k8 => k_room); (case k9 => first | exact BindsTo.of_eq rfl | exact binds_K (by k_in) rfl (by k_is) rfl rfl rfl | fail "k_enter: no rule for these arguments"); (case c5 => decide); (case kB => exact locs rfl); (case c2 => exact rfl); (case c3 => exact rfl); (case c4 => exact rfl); k_whole; intro _ _ _ _ _ _ BZ _ _; (try dsimp only); (try k_lift BZ); (try k_fold))
  k_steps
  refine hret ⟨_, _, _, 0, _, _, _, _, _, _, _, 0, _⟩ _ _ (by assumption) (by assumption) ?_
  intro q hq p hp
  have h1 := ltN ((by assumption : ∀ p ∈ news, p.1 < _) q hq)
  simp only [List.mem_cons, List.not_mem_nil, or_false] at hp
  rcases hp with rfl | rfl | rfl <;> k_ne
end
end
section
section
variable {w : World} {loose : List Str} {mean : ExcName → Option Value} {mg mb : Str → Option Value}
theorem s_percent {k : LexK} {tx : Str} {at_ i : Int} {tv t : Tok} {nl : Bool} {rest : List (Addr × Obj)} (hx : (k.x, instObj 297 k.dx) ∈ rest) (hne : ∀ p ∈ rest, p.1 ≠ k.dx) (hlen : tx.length ≤ 1000) (h0 : 0 ≤ i) :
    Spec w loose mean mg mb 224 [.ref k.x, .int i t] 9 ((k.dx, lexD w.params k tx at_ tv nl) :: rest) (fun h₀ L m s Q => ∀ tw, (chr tx (scan pctP tx (i + 1)) == Str.ofString "%") = true → GivesTok w.params k tx (Str.ofString "op") (.str (subS tx i (scan pctP tx (i + 1) + 1)) tw) i (scan pctP tx (i + 1) + 1) nl rest h₀ L m s Q)
      (fun base l h₀ L m s E => (chr tx (scan pctP tx (i + 1)) == Str.ofString "%") = false → Fails w.params i rest base l h₀ L m s E) := by
  unfold Spec GivesTok Fails
  k_fill
  k_with_none
  (k_with "call ref" => (k_here; (with_reducible show wpAny _ _ (call (Value.ref 189) _) _ _ _); k_dflt ((with_unfolding_all refine' s_char ?q0 ?q1 ?q2 ?k1 ?k2 ?k3 ?k4 ?k5 ?kK ?kd ?ku ?_ ?ke); (case k1 => k_asm); (case k2 => k_asm); (case k3 => k_asm); (case k4 => k_asm); (case k5 => k_asm); (case q0 => k_mem); (case q1 => k_mem); (case q2 => omega); (case kK => first | exact rfl | assumption); (case kd => k_room); (case ku => ((try simp only [units_in1, units_deeper, Around.mark_units, units_caller]); (try dsimp only [ktrTop]); omega)); (case ke => exact trivial); k_whole; intro t9 h9 tk9 F9 N9; (try k_sweep); (try dsimp only); (try k_fold))))
  (k_with "call ref" => (k_here; (with_reducible show wpAny _ _ (call (Value.ref 196) _) _ _ _); k_dflt ((with_unfolding_all refine' s_tokenS ?q0 ?q1 ?q2 ?q3 ?k1 ?k2 ?k3 ?k4 ?k5 ?kK ?kd ?ku ?_ ?ke); (case k1 => k_asm); (case k2 => k_asm); (case k3 => k_asm); (case k4 => k_asm); (case k5 => k_asm); (case q0 => assumption); (case q1 => k_all); (case q2 => first | assumption | k_handed); (case q3 => (refine List.forall_mem_cons.mpr ⟨?qa, ?qb⟩; (case qa => k_mem); (case qb => (intro p9 hp9; first | exact hp9 | exact .tail _ hp9 | exact .tail _ (.tail _ hp9) | exact .tail _ (.tail _ (.tail _ hp9)) | exact .tail _ (.tail _ (.tail _ (.tail _ hp9))))))); (case kK => first | exact rfl | assumption); (case kd => k_room); (case ku => ((try simp only [units_in1, units_deeper, Around.mark_units, units_caller]); (try dsimp only [ktrTop]); omega)); (case ke => exact trivial); k_whole; intro c9 t9 h9 tk9 F9 N9 ne1 ne2; (try k_sweep); (try dsimp only); (try k_fold))))
  (k_with "exec Raise some none" => (k_here; k_dflt (refine' Raise_ownX ?h ?_; (case h => exact rfl); k_whole)))
  (k_with "call ref" => (k_here; (with_reducible show wpAny _ _ (call (Value.ref 51) _) _ _ _); k_dflt ((with_unfolding_all refine' s_exc ?k1 ?k2 ?k3 ?k4 ?k5 ?kK ?kd ?ku ?_ ?ke); (case k1 => k_asm); (case k2 => k_asm); (case k3 => k_asm); (case k4 => k_asm); (case k5 => k_asm); (case kK => first | exact rfl | assumption); (case kd => k_room); (case ku => ((try simp only [units_in1, units_deeper, Around.mark_units, units_caller]); (try dsimp only [ktrTop]); omega)); (case ke => exact trivial); k_whole; intro e9 dx9 t9 c9 h9 tk9 F9 N9 hde9 hne9; (try k_sweep); (try dsimp only))))
  (k_with "RaisableX" => k_dflt (refine' raisable51 ?k1 ?k2 ?k3 ?_; (case k1 => k_in); (case k2 => exact News.get (by k_asm) (List.Mem.head _)); (case k3 => exact rfl)))
  (k_with "leaving ref" => (k_here; k_dflt (first   | (refine' leave_newX2 (hk := by rfl) ?k1 ?k2 ?k3 ?k4 ?k5 ?_; (case k1 => k_asm); (case k2 => k_asm); (case k3 => k_asm); (case k4 => assumption); (case k5 => assumption); k_whole; intro h' R' U'; (try dsimp only at R' U' ⊢))   | (refine' leave_onX ?k1 ?k2 ?k3 ?k4 ?_; (case k3 => assumption); (case k1 => assumption); (case k4 => assumption); (case k2 => assumption); k_whole; intro h' R' U'; (try dsimp only at R' U' ⊢)))))
  (k_with "subscriptTail Name Slice str ref" => (k_here; (with_reducible show wpAny _ _ (subscriptTail _ (Expr.Slice (some _) (some _) none _) (Value.str _ _) (Value.ref _)) _ _ _); (with_reducible rename Fr _ _ _ _ => F'); (with_reducible rename News _ _ _ _ => N'); (refine slice_subS (hs := by with_unfolding_all rfl) (ht := by intro _; with_unfolding_all rfl) (hsz := ?hsz) (s := ⟨_, _, _, _, _⟩) F' N' ?_); (case hsz => (rw [PySem.sizeLine_eq]; omega)); intro _ _ _ _ _ _))
  intro dp un gd cn cs a ccd cl outer A₀ base h₀ L m s Q E B F X N T hk hdp hu hret herr
  refine wpAny_call ?_
  k_dflt (refine' code_def ?k1 ?k2 ?k3 ?k4 ?k5 ?kA ?kF ?kK ?k6 ?k7 ?k8 ?k9 ?kB ?_ ?c2 ?c3 ?c4 ?c5; (case kA => exact rfl); (case kF => exact rfl); (case kK => first | exact rfl | assumption); (case k1 => k_asm); (case k2 => k_asm); (case k3 => k_asm); (case k4 => k_asm); (case k5 => k_asm); (case k6 => k_is); (case k7 => k_is); (case k8 => k_room); (case k9 => first | exact BindsTo.of_eq rfl | exact binds_K (by k_in) rfl (by k_is) rfl rfl rfl | fail "k_enter: no rule for these arguments"); (case c5 => decide); (case kB => exact locs rfl); (case c2 => exact rfl); (case c3 => exact rfl); (case c4 => exact rfl); k_whole; intro _ _ _ _ _ _ BZ _ _; (try dsimp only); (try k_lift BZ); (try k_fold))
  (k_with "exec While Compare cons nil" => k_while (fun _ e => i + 1 ≤ e ∧ scan pctP tx e = scan pctP tx (i + 1)) (fun _ e => ((tx.length : Int) + 1 - e).toNat) "end")
  (k_with "state" => first | exact ⟨Int.le_refl _, rfl⟩ | exact pct_turn h0 (by assumption) (by assumption) (by assumption) (by assumption))
  (k_with "measure" => exact pct_less h0 (by assumption) (by assumption) (by assumption))
  k_steps
  · have e9 := scan_end (by assumption : scan pctP tx _ = scan pctP tx (i + 1)) (pctP_bad (by assumption))
    subst e9
    exact herr (by simpa using (by assumption : (chr tx _ != Str.ofString "%") = true)) _ _ _ _ _ _ _ (by assumption) (by assumption) (raisedX_one (raisedX_one (by assumption)))
  · have e9 := scan_end (by assumption : scan pctP tx _ = scan pctP tx (i + 1)) (pctP_end (by assumption))
    subst e9
    exact hret _ (by simpa using (by assumption : (chr tx _ != Str.ofString "%") = false)) _ _ _ _ (by assumption) (by assumption) (by assumption) (by assumption)
end
end
section
section
variable {w : World} {loose : List Str} {mean : ExcName → Option Value} {mg mb : Str → Option Value}
theorem s_operator {k : LexK} {tx : Str} {at_ i : Int} {tv t : Tok} {nl : Bool} {rest : List (Addr × Obj)} (hx : (k.x, instObj 297 k.dx) ∈ rest) (hne : ∀ p ∈ rest, p.1 ≠ k.dx) (hlen : tx.length ≤ 1000) (h0 : 0 ≤ i) :
    Spec w loose mean mg mb 231 [.ref k.x, .int i t] 9 ((k.dx, lexD w.params k tx at_ tv nl) :: rest) (fun h₀ L m s Q => ∀ tw o, opT tx i = some o → GivesTok w.params k tx (Str.ofString "op") (.str (opV o) tw) i (opE i o) nl rest h₀ L m s Q)
      (fun base l h₀ L m s E => opT tx i = none → Fails w.params i rest base l h₀ L m s E) := by
  unfold Spec GivesTok Fails
  k_fill
  k_with_none
  (k_with "call ref" => (k_here; (with_reducible show wpAny _ _ (call (Value.ref 189) _) _ _ _); k_dflt ((with_unfolding_all refine' s_char ?q0 ?q1 ?q2 ?k1 ?k2 ?k3 ?k4 ?k5 ?kK ?kd ?ku ?_ ?ke); (case k1 => k_asm); (case k2 => k_asm); (case k3 => k_asm); (case k4 => k_asm); (case k5 => k_asm); (case q0 => k_mem); (case q1 => k_mem); (case q2 => omega); (case kK => first | exact rfl | assumption); (case kd => k_room); (case ku => ((try simp only [units_in1, units_deeper, Around.mark_units, units_caller]); (try dsimp only [ktrTop]); omega)); (case ke => exact trivial); k_whole; intro t9 h9 tk9 F9 N9; (try k_sweep); (try dsimp only); (try k_fold))))
  (k_with "call ref" => (k_here; (with_reducible show wpAny _ _ (call (Value.ref 196) _) _ _ _); k_dflt ((with_unfolding_all refine' s_tokenS ?q0 ?q1 ?q2 ?q3 ?k1 ?k2 ?k3 ?k4 ?k5 ?kK ?kd ?ku ?_ ?ke); (case k1 => k_asm); (case k2 => k_asm); (case k3 => k_asm); (case k4 => k_asm); (case k5 => k_asm); (case q0 => assumption); (case q1 => k_all); (case q2 => first | assumption | k_handed); (case q3 => (refine List.forall_mem_cons.mpr ⟨?qa, ?qb⟩; (case qa => k_mem); (case qb => (intro p9 hp9; first | exact hp9 | exact .tail _ hp9 | exact .tail _ (.tail _ hp9) | exact .tail _ (.tail _ (.tail _ hp9)) | exact .tail _ (.tail _ (.tail _ (.tail _ hp9))))))); (case kK => first | exact rfl | assumption); (case kd => k_room); (case ku => ((try simp only [units_in1, units_deeper, Around.mark_units, units_caller]); (try dsimp only [ktrTop]); omega)); (case ke => exact trivial); k_whole; intro c9 t9 h9 tk9 F9 N9 ne1 ne2; (try k_sweep); (try dsimp only); (try k_fold))))
  (k_with "exec Raise some none" => (k_here; k_dflt (refine' Raise_ownX ?h ?_; (case h => exact rfl); k_whole)))
  (k_with "call ref" => (k_here; (with_reducible show wpAny _ _ (call (Value.ref 51) _) _ _ _); k_dflt ((with_unfolding_all refine' s_exc ?k1 ?k2 ?k3 ?k4 ?k5 ?kK ?kd ?ku ?_ ?ke); (case k1 => k_asm); (case k2 => k_asm); (case k3 => k_asm); (case k4 => k_asm); (case k5 => k_asm); (case kK => first | exact rfl | assumption); (case kd => k_room); (case ku => ((try simp only [units_in1, units_deeper, Around.mark_units, units_caller]); (try dsimp only [ktrTop]); omega)); (case ke => exact trivial); k_whole; intro e9 dx9 t9 c9 h9 tk9 F9 N9 hde9 hne9; (try k_sweep); (try dsimp only))))
  (k_with "RaisableX" => k_dflt (refine' raisable51 ?k1 ?k2 ?k3 ?_; (case k1 => k_in); (case k2 => exact News.get (by k_asm) (List.Mem.head _)); (case k3 => exact rfl)))
  (k_with "leaving ref" => (k_here; k_dflt (first   | (refine' leave_newX2 (hk := by rfl) ?k1 ?k2 ?k3 ?k4 ?k5 ?_; (case k1 => k_asm); (case k2 => k_asm); (case k3 => k_asm); (case k4 => assumption); (case k5 => assumption); k_whole; intro h' R' U'; (try dsimp only at R' U' ⊢))   | (refine' leave_onX ?k1 ?k2 ?k3 ?k4 ?_; (case k3 => assumption); (case k1 => assumption); (case k4 => assumption); (case k2 => assumption); k_whole; intro h' R' U'; (try dsimp only at R' U' ⊢)))))
  (k_with "subscriptTail Name Slice str ref" => (k_here; (with_reducible show wpAny _ _ (subscriptTail _ (Expr.Slice (some _) (some _) none _) (Value.str _ _) (Value.ref _)) _ _ _); (with_reducible rename Fr _ _ _ _ => F'); (with_reducible rename News _ _ _ _ => N'); (refine slice_subS (hs := by with_unfolding_all rfl) (ht := by intro _; with_unfolding_all rfl) (hsz := ?hsz) (s := ⟨_, _, _, _, _⟩) F' N' ?_); (case hsz => (rw [PySem.sizeLine_eq]; omega)); intro _ _ _ _ _ _))
  intro dp un gd cn cs a ccd cl outer A₀ base h₀ L m s Q E B F X N T hk hdp hu hret herr
  have hcl := chr_len (tx := tx) h0
  refine wpAny_call ?_
  k_dflt (refine' code_def ?k1 ?k2 ?k3 ?k4 ?k5 ?kA ?kF ?kK ?k6 ?k7 ?k8 ?k9 ?kB ?_ ?c2 ?c3 ?c4 ?c5; (case kA => exact rfl); (case kF => exact rfl); (case kK => first | exact rfl | assumption); (case k1 => k_asm); (case k2 => k_asm); (case k3 => k_asm); (case k4 => k_asm); (case k5 => k_asm); (case k6 => k_is); (case k7 => k_is); (case k8 => k_room); (case k9 => first | exact BindsTo.of_eq rfl | exact binds_K (by k_in) rfl (by k_is) rfl rfl rfl | fail "k_enter: no rule for these arguments"); (case c5 => decide); (case kB => exact locs rfl); (case c2 => exact rfl); (case c3 => exact rfl); (case c4 => exact rfl); k_whole; intro _ _ _ _ _ _ BZ _ _; (try dsimp only); (try k_lift BZ); (try k_fold))
  k_steps
  all_goals first
    | exact herr (op_bn (by assumption) (by assumption) (by assumption)) _ _ _ _ _ _ _ (by assumption) (by assumption) (RaisedX.drop (by assumption) (by (refine List.forall_mem_cons.mpr ⟨.head _, ?_⟩; (intro p9 hp9; first | exact .tail _ (.tail _ hp9) | exact .tail _ (.tail _ (.tail _ hp9)) | exact .tail _ (.tail _ (.tail _ (.tail _ hp9))) | exact .tail _ (.tail _ (.tail _ (.tail _ (.tail _ hp9))))))))
    | exact herr (op_dn (by assumption) (by assumption) (by assumption)) _ _ _ _ _ _ _ (by assumption) (by assumption) (RaisedX.drop (by assumption) (by (refine List.forall_mem_cons.mpr ⟨.head _, ?_⟩; (intro p9 hp9; first | exact .tail _ (.tail _ hp9) | exact .tail _ (.tail _ (.tail _ hp9)) | exact .tail _ (.tail _ (.tail _ (.tail _ hp9))) | exact .tail _ (.tail _ (.tail _ (.tail _ (.tail _ hp9))))))))
    | (have hr := fun tw => hret tw _ (op_a (by assumption) (by assumption)); have hb := (by assumption : (subS tx i (i + 3) == Str.ofString "**") = true); rw [opE_t hb, opV_t hb] at hr; exact hr _ _ _ _ _ (by assumption) (by assumption) (by assumption) (by assumption))
    | (have hr := fun tw => hret tw _ (op_a (by assumption) (by assumption)); have hb := (by assumption : (subS tx i (i + 3) == Str.ofString "**") = false); rw [opE_f hb, opV_f hb] at hr; exact hr _ _ _ _ _ (by assumption) (by assumption) (by assumption) (by assumption))
    | (have hr := fun tw => hret tw _ (op_b (by assumption) (by assumption) (by assumption)); have hb := (by assumption : (chr tx i == Str.ofString "**") = true); rw [opE_t hb, opV_t hb] at hr; exact hr _ _ _ _ _ (by assumption) (by assumption) (by assumption) (by assumption))
    | (have hr := fun tw => hret tw _ (op_b (by assumption) (by assumption) (by assumption)); have hb := (by assumption : (chr tx i == Str.ofString "**") = false); rw [opE_f hb, opV_f hb] at hr; exact hr _ _ _ _ _ (by assumption) (by assumption) (by assumption) (by assumption))
    | (have hr := fun tw => hret tw _ (op_c (by assumption) (by assumption)); have hb := (by assumption : (subS tx i (i + 2) == Str.ofString "**") = true); rw [opE_t hb, opV_t hb] at hr; exact hr _ _ _ _ _ (by assumption) (by assumption) (by assumption) (by assumption))
    | (have hr := fun tw => hret tw _ (op_c (by assumption) (by assumption)); have hb := (by assumption : (subS tx i (i + 2) == Str.ofString "**") = false); rw [opE_f hb, opV_f hb] at hr; exact hr _ _ _ _ _ (by assumption) (by assumption) (by assumption) (by assumption))
    | (have hr := fun tw => hret tw _ (op_d (by assumption) (by assumption) (by assumption)); have hb := (by assumption : (chr tx i == Str.ofString "**") = true); rw [opE_t hb, opV_t hb] at hr; exact hr _ _ _ _ _ (by assumption) (by assumption) (by assumption) (by assumption))
    | (have hr := fun tw => hret tw _ (op_d (by assumption) (by assumption) (by assumption)); have hb := (by assumption : (chr tx i == Str.ofString "**") = false); rw [opE_f hb, opV_f hb] at hr; exact hr _ _ _ _ _ (by assumption) (by assumption) (by assumption) (by assumption))
    | trace_state
end
end
section
section
variable {w : World} {loose : List Str} {mean : ExcName → Option Value} {mg mb : Str → Option Value}
theorem s_exponent {k : LexK} {tx : Str} {at_ i j : Int} {tv t t2 : Tok} {nl : Bool} {rest news : List (Addr × Obj)} (hx : (k.x, instObj 297 k.dx) ∈ rest) (hne : ∀ p ∈ rest, p.1 ≠ k.dx) (hlen : tx.length ≤ 1000) (h0 : 0 ≤ i) (hj : 0 ≤ j) (hs : ∀ p ∈ ((k.dx, lexD w.params k tx at_ tv nl) :: rest), p ∈ news) :
    Spec w loose mean mg mb 252 [.ref k.x, .int i t, .int j t2] 9 news (fun h₀ L m s Q => ∀ v e, expR tx j = some (v, e) → ∀ (D : Addr) (tv' te : Tok) (h' : Heap) (tk' : Nat), Fr h₀ L h' m → News h₀ L h' ((D, { cls := .type "tuple", data := .seq #[.int v tv', .int e te] }) :: (k.dx, lexD w.params k tx at_ tv nl) :: rest) → Q (.ref D) { s with heap := h', toks := tk' })
      (fun base l h₀ L m s E => expR tx j = none → Fails w.params i rest base l h₀ L m s E) := by
  unfold Spec Fails
  k_fill
  k_with_none
  (k_with "call ref" => (k_here; (with_reducible show wpAny _ _ (call (Value.ref 189) _) _ _ _); k_dflt ((with_unfolding_all refine' s_char ?q0 ?q1 ?q2 ?k1 ?k2 ?k3 ?k4 ?k5 ?kK ?kd ?ku ?_ ?ke); (case k1 => k_asm); (case k2 => k_asm); (case k3 => k_asm); (case k4 => k_asm); (case k5 => k_asm); (case q0 => k_mem); (case q1 => k_mem); (case q2 => omega); (case kK => first | exact rfl | assumption); (case kd => k_room); (case ku => ((try simp only [units_in1, units_deeper, Around.mark_units, units_caller]); (try dsimp only [ktrTop]); omega)); (case ke => exact trivial); k_whole; intro t9 h9 tk9 F9 N9; (try k_sweep); (try dsimp only); (try k_fold))))
  (k_with "call ref" => (k_here; (with_reducible show wpAny _ _ (call (Value.ref 238) _) _ _ _); k_dflt ((with_unfolding_all refine' s_digits_end ?q0 ?q1 ?q2 ?q3 ?k1 ?k2 ?k3 ?k4 ?k5 ?kK ?kd ?ku ?_ ?ke); (case k1 => k_asm); (case k2 => k_asm); (case k3 => k_asm); (case k4 => k_asm); (case k5 => k_asm); (case q0 => k_mem); (case q1 => k_mem); (case q2 => omega); (case q3 => omega); (case kK => first | exact rfl | assumption); (case kd => k_room); (case ku => ((try simp only [units_in1, units_deeper, Around.mark_units, units_caller]); (try dsimp only [ktrTop]); omega)); (case ke => exact trivial); k_whole; intro t9 h9 tk9 F9 N9; (try k_sweep); (try dsimp only); (try k_fold))))
  (k_with "call ref" => (k_here; (with_reducible show wpAny _ _ (call (Value.ref 167) _) _ _ _); k_dflt ((with_unfolding_all refine' s_digits_value ?q0 ?k1 ?k2 ?k3 ?k4 ?k5 ?kK ?kd ?ku ?_ ?ke); (case k1 => k_asm); (case k2 => k_asm); (case k3 => k_asm); (case k4 => k_asm); (case k5 => k_asm); (case q0 => first | omega | (simp only [] at *; omega)); (case kK => first | exact rfl | assumption); (case kd => k_room); (case ku => ((try simp only [units_in1, units_deeper, Around.mark_units, units_caller]); (try dsimp only [ktrTop]); omega)); (case ke => exact trivial); k_whole; intro t9 h9 tk9 F9 N9; (try k_sweep); (try dsimp only); (try k_fold))))
  (k_with "exec Raise some none" => (k_here; k_dflt (refine' Raise_ownX ?h ?_; (case h => exact rfl); k_whole)))
  (k_with "call ref" => (k_here; (with_reducible show wpAny _ _ (call (Value.ref 51) _) _ _ _); k_dflt ((with_unfolding_all refine' s_exc ?k1 ?k2 ?k3 ?k4 ?k5 ?kK ?kd ?ku ?_ ?ke); (case k1 => k_asm); (case k2 => k_asm); (case k3 => k_asm); (case k4 => k_asm); (case k5 => k_asm); (case kK => first | exact rfl | assumption); (case kd => k_room); (case ku => ((try simp only [units_in1, units_deeper, Around.mark_units, units_caller]); (try dsimp only [ktrTop]); omega)); (case ke => exact trivial); k_whole; intro e9 dx9 t9 c9 h9 tk9 F9 N9 hde9 hne9; (try k_sweep); (try dsimp only))))
  (k_with "RaisableX" => k_dflt (refine' raisable51 ?k1 ?k2 ?k3 ?_; (case k1 => k_in); (case k2 => exact News.get (by k_asm) (List.Mem.head _)); (case k3 => exact rfl)))
  (k_with "leaving ref" => (k_here; k_dflt (first   | (refine' leave_newX2 (hk := by rfl) ?k1 ?k2 ?k3 ?k4 ?k5 ?_; (case k1 => k_asm); (case k2 => k_asm); (case k3 => k_asm); (case k4 => assumption); (case k5 => assumption); k_whole; intro h' R' U'; (try dsimp only at R' U' ⊢))   | (refine' leave_onX ?k1 ?k2 ?k3 ?k4 ?_; (case k3 => assumption); (case k1 => assumption); (case k4 => assumption); (case k2 => assumption); k_whole; intro h' R' U'; (try dsimp only at R' U' ⊢)))))
  (k_with "subscriptTail Name Slice str ref" => (k_here; (with_reducible show wpAny _ _ (subscriptTail _ (Expr.Slice (some _) (some _) none _) (Value.str _ _) (Value.ref _)) _ _ _); (with_reducible rename Fr _ _ _ _ => F'); (with_reducible rename News _ _ _ _ => N'); (refine slice_subS (hs := by with_unfolding_all rfl) (ht := by intro _; with_unfolding_all rfl) (hsz := ?hsz) (s := ⟨_, _, _, _, _⟩) F' N' ?_); (case hsz => (rw [PySem.sizeLine_eq]; omega)); intro _ _ _ _ _ _))
  intro dp un gd cn cs a ccd cl outer A₀ base h₀ L m s Q E B F X N T hk hdp hu hret herr
  replace N : News h₀ L s.heap ((k.dx, lexD w.params k tx at_ tv nl) :: rest) := fun p hp => N p (hs p hp)
  clear hs
  refine wpAny_call ?_
  k_dflt (refine' code_def ?k1 ?k2 ?k3 ?k4 ?k5 ?kA ?kF ?kK ?k6 ?k7 ?k8 ?k9 ?kB ?_ ?c2 ?c3 ?c4 ?c5; (case kA => exact rfl); (case kF => exact rfl); (case kK => first | exact rfl | assumption); (case k1 => k_asm); (case k2 => k_asm); (case k3 => k_asm); (case k4 => k_asm); (case k5 => k_asm); (case k6 => k_is); (case k7 => k_is); (case k8 => k_room); (case k9 => first | exact BindsTo.of_eq rfl | exact binds_K (by k_in) rfl (by k_is) rfl rfl rfl | fail "k_enter: no rule for these arguments"); (case c5 => decide); (case kB => exact locs rfl); (case c2 => exact rfl); (case c3 => exact rfl); (case c4 => exact rfl); k_whole; intro _ _ _ _ _ _ BZ _ _; (try dsimp only); (try k_lift BZ); (try k_fold))
  k_steps
  all_goals (have hs := (by first | exact expJ_m (by assumption) | exact expJ_p (by assumption) (by assumption) | exact expJ_0 (by assumption) (by assumption) : expJ tx j = _))
  all_goals first
    | exact herr (exp_bad hs (by first | exact Or.inl (by assumption) | exact Or.inr (Or.inl (by assumption)) | exact Or.inr (Or.inr (by assumption)))) _ _ _ _ _ _ _ (by assumption) (by assumption) (raisedX_one (by assumption))
    | (have ho := exp_ok hs (by assumption) (by assumption) (by assumption); rw [if_pos (by assumption)] at ho; exact hret _ _ ho _ _ _ _ _ (by assumption) (by assumption))
    | (have ho := exp_ok hs (by assumption) (by assumption) (by assumption); rw [if_neg (Bool.eq_false_iff.mp (by assumption))] at ho; exact hret _ _ ho _ _ _ _ _ (by assumption) (by assumption))
    | trace_state
end
end
section
theorem num_i {tx : Str} {n d e : Int} (h : (chr tx e == Str.ofString "i") = true) : numR tx n d e = none := if_pos h
theorem neS_f {c x : Str} (h : (c != x) = true) : ¬ (c == x) = true := by
  intro q
  unfold bne at h
  rw [q] at h
  cases h
theorem neS_t {c x : Str} (h : (c != x) = false) : (c == x) = true := by
  unfold bne at h
  cases q : (c == x) with
  | true => rfl
  | false => rw [q] at h; cases h
theorem num_0 {tx : Str} {n d e : Int} (h : (chr tx e == Str.ofString "i") = false) (h2 : (chr tx e != Str.ofString "L") = true) : numR tx n d e = some (.dbl (dblN n d) (dblD n d), e) := by
  unfold numR; rw [if_neg (Bool.eq_false_iff.mp h), if_neg (neS_f h2)]
theorem num_w {tx : Str} {n d e : Int} (h : (chr tx e == Str.ofString "i") = false) (h2 : (chr tx e != Str.ofString "L") = false) (h3 : n.fmod d = 0) (h4 : n.fdiv d ≤ 2147483647) : numR tx n d e = some (.int (n.fdiv d), e + 1) := by
  unfold numR; rw [if_neg (Bool.eq_false_iff.mp h), if_pos (neS_t h2), if_pos ⟨h3, h4⟩]
theorem num_x {tx : Str} {n d e : Int} (h : (chr tx e == Str.ofString "i") = false) (h2 : (chr tx e != Str.ofString "L") = false) (h3 : n.fmod d ≠ 0 ∨ ¬ n.fdiv d ≤ 2147483647) : numR tx n d e = some (.dbl (dblN n d) (dblD n d), e + 1) := by
  unfold numR; rw [if_neg (Bool.eq_false_iff.mp h), if_pos (neS_t h2), if_neg (fun q => h3.elim (fun x => x q.1) (fun x => x q.2))]
section
variable {w : World} {loose : List Str} {mean : ExcName → Option Value} {mg mb : Str → Option Value}
theorem s_number_token {k : LexK} {tx : Str} {at0 n d i e : Int} {tv t t2 t3 t4 : Tok} {nl : Bool} {rest news : List (Addr × Obj)} (hx : (k.x, instObj 297 k.dx) ∈ rest) (hne : ∀ p ∈ rest, p.1 ≠ k.dx) (hlen : tx.length ≤ 1000) (hn : 0 ≤ n) (hd : 1 ≤ d) (he : 0 ≤ e) (hs : ∀ p ∈ ((k.dx, lexD w.params k tx at0 tv nl) :: rest), p ∈ news) :
    Spec w loose mean mg mb 266 [.ref k.x, .int n t, .int d t2, .int i t3, .int e t4] 9 news (fun h₀ L m s Q => ∀ tv en, numR tx n d e = some (tv, en) → GivesVal w.params k tx (Str.ofString "num") tv i en nl rest h₀ L m s Q)
      (fun base l h₀ L m s E => numR tx n d e = none → Fails w.params i rest base l h₀ L m s E) := by
  unfold Spec Fails GivesVal GivesTok
  k_fill
  k_with_none
  (k_with "call ref" => (k_here; (with_reducible show wpAny _ _ (call (Value.ref 189) _) _ _ _); k_dflt ((with_unfolding_all refine' s_char ?q0 ?q1 ?q2 ?k1 ?k2 ?k3 ?k4 ?k5 ?kK ?kd ?ku ?_ ?ke); (case k1 => k_asm); (case k2 => k_asm); (case k3 => k_asm); (case k4 => k_asm); (case k5 => k_asm); (case q0 => k_mem); (case q1 => k_mem); (case q2 => omega); (case kK => first | exact rfl | assumption); (case kd => k_room); (case ku => ((try simp only [units_in1, units_deeper, Around.mark_units, units_caller]); (try dsimp only [ktrTop]); omega)); (case ke => exact trivial); k_whole; intro t9 h9 tk9 F9 N9; (try k_sweep); (try dsimp only); (try k_fold))))
  (k_with "call ref" => (k_here; (with_reducible show wpAny _ _ (call (Value.ref 97) _) _ _ _); k_dflt ((with_unfolding_all refine' s_number ?q0 ?q1 ?k1 ?k2 ?k3 ?k4 ?k5 ?kK ?kd ?ku ?_ ?ke); (case k1 => k_asm); (case k2 => k_asm); (case k3 => k_asm); (case k4 => k_asm); (case k5 => k_asm); (case q0 => omega); (case q1 => omega); (case kK => first | exact rfl | assumption); (case kd => k_room); (case ku => ((try simp only [units_in1, units_deeper, Around.mark_units, units_caller]); (try dsimp only [ktrTop]); omega)); (case ke => exact trivial); k_whole; intro c9 h9 tk9 F9 N9 fr9; (try k_sweep); (try dsimp only); (try k_fold))))
  (k_with "call ref" => (k_here; (with_reducible show wpAny _ _ (call (Value.ref 89) _) _ _ _); k_dflt ((with_unfolding_all refine' s_whole  ?k1 ?k2 ?k3 ?k4 ?k5 ?kK ?kd ?ku ?_ ?ke); (case k1 => k_asm); (case k2 => k_asm); (case k3 => k_asm); (case k4 => k_asm); (case k5 => k_asm);  (case kK => first | exact rfl | assumption); (case kd => k_room); (case ku => ((try simp only [units_in1, units_deeper, Around.mark_units, units_caller]); (try dsimp only [ktrTop]); omega)); (case ke => exact trivial); k_whole; intro c9 h9 tk9 F9 N9 fr9; (try k_sweep); (try dsimp only); (try k_fold))))
  (k_with "call ref" => (k_here; (with_reducible show wpAny _ _ (call (Value.ref 196) _) _ _ _); k_dflt ((with_unfolding_all refine' s_tokenV ?q0 ?q1 ?q2 ?q3 ?k1 ?k2 ?k3 ?k4 ?k5 ?kK ?kd ?ku ?_ ?ke); (case k1 => k_asm); (case k2 => k_asm); (case k3 => k_asm); (case k4 => k_asm); (case k5 => k_asm); (case q0 => k_mem); (case q1 => k_all); (case q2 => first | exact rfl | assumption | k_handed); (case q3 => assumption); (case kK => first | exact rfl | assumption); (case kd => k_room); (case ku => ((try simp only [units_in1, units_deeper, Around.mark_units, units_caller]); (try dsimp only [ktrTop]); omega)); (case ke => exact trivial); k_whole; intro c9 t9 h9 tk9 F9 N9 ne1 ne2; (try k_sweep); (try dsimp only); (try k_fold))))
  (k_with "exec Raise some none" => (k_here; k_dflt (refine' Raise_ownX ?h ?_; (case h => exact rfl); k_whole)))
  (k_with "call ref" => (k_here; (with_reducible show wpAny _ _ (call (Value.ref 51) _) _ _ _); k_dflt ((with_unfolding_all refine' s_exc ?k1 ?k2 ?k3 ?k4 ?k5 ?kK ?kd ?ku ?_ ?ke); (case k1 => k_asm); (case k2 => k_asm); (case k3 => k_asm); (case k4 => k_asm); (case k5 => k_asm); (case kK => first | exact rfl | assumption); (case kd => k_room); (case ku => ((try simp only [units_in1, units_deeper, Around.mark_units, units_caller]); (try dsimp only [ktrTop]); omega)); (case ke => exact trivial); k_whole; intro e9 dx9 t9 c9 h9 tk9 F9 N9 hde9 hne9; (try k_sweep); (try dsimp only))))
  (k_with "RaisableX" => k_dflt (refine' raisable51 ?k1 ?k2 ?k3 ?_; (case k1 => k_in); (case k2 => exact News.get (by k_asm) (List.Mem.head _)); (case k3 => exact rfl)))
  (k_with "leaving ref" => (k_here; k_dflt (first   | (refine' leave_newX2 (hk := by rfl) ?k1 ?k2 ?k3 ?k4 ?k5 ?_; (case k1 => k_asm); (case k2 => k_asm); (case k3 => k_asm); (case k4 => assumption); (case k5 => assumption); k_whole; intro h' R' U'; (try dsimp only at R' U' ⊢))   | (refine' leave_onX ?k1 ?k2 ?k3 ?k4 ?_; (case k3 => assumption); (case k1 => assumption); (case k4 => assumption); (case k2 => assumption); k_whole; intro h' R' U'; (try dsimp only at R' U' ⊢)))))
  (k_with "binaryOp FloorDiv int int" => (k_here; (with_reducible show wpAny _ _ (binaryOp Operator.FloorDiv (Value.int _ _) (Value.int _ _)) _ _ _); k_dflt (refine' floordiv_int ?hb ?_ ?hp; (case hb => first | omega | exact gcd_ne (by assumption) (by assumption) (by assumption) (by assumption) (by assumption)); (case hp => exact Or.inr (PySem.PylongRoom.of (PySem.Heap.NoLimit.keeps (PyProof.Rows.Top.nolimit (by k_asm)) (PyProof.Rows.Fr.keep (by k_asm))) (by ((try simp only [depth_mark, depth_under_make, depth_under_kw, depth_in1, depth_deeper, depth_caller, Builtin.pylongFrames]); (try dsimp only [ktrTop, recursionLimit]); omega)) (PySem.SeerAt.of (PySem.Heap.NoSeer.keeps (PyProof.Rows.Top.seer (by k_asm) (by decide +kernel)) (PyProof.Rows.Fr.keep (by k_asm))) rfl rfl rfl rfl rfl rfl))))))
  intro dp un gd cn cs a ccd cl outer A₀ base h₀ L m s Q E B F X N T hk hdp hu hret herr
  replace N : News h₀ L s.heap ((k.dx, lexD w.params k tx at0 tv nl) :: rest) := fun p hp => N p (hs p hp)
  clear hs
  refine wpAny_call ?_
  k_dflt (refine' code_def ?k1 ?k2 ?k3 ?k4 ?k5 ?kA ?kF ?kK ?k6 ?k7 ?k8 ?k9 ?kB ?_ ?c2 ?c3 ?c4 ?c5; (case kA => exact rfl); (case kF => exact rfl); (case kK => first | exact rfl | assumption); (case k1 => k_asm); (case k2 => k_asm); (case k3 => k_asm); (case k4 => k_asm); (case k5 => k_asm); (case k6 => k_is); (case k7 => k_is); (case k8 => k_room); (case k9 => first | exact BindsTo.of_eq rfl | exact binds_K (by k_in) rfl (by k_is) rfl rfl rfl | fail "k_enter: no rule for these arguments"); (case c5 => decide); (case kB => exact locs rfl); (case c2 => exact rfl); (case c3 => exact rfl); (case c4 => exact rfl); k_whole; intro _ _ _ _ _ _ BZ _ _; (try dsimp only); (try k_lift BZ); (try k_fold))
  k_steps
  all_goals first
    | exact herr (num_i (by assumption)) _ _ _ _ _ _ _ (by assumption) (by assumption) (raisedX_one (by assumption))
    | (refine hret _ _ (by first | exact num_w (by assumption) (by assumption) (by assumption) (by assumption) | exact num_0 (by assumption) (by assumption) | exact num_x (by assumption) (by assumption) (by first | exact Or.inl (by assumption) | exact Or.inr (by assumption))) _ _ ?v ?f _ _ _ _ (by assumption) (by assumption) (by assumption) (by assumption)
       case v => exact ⟨_, rfl, rfl⟩
       case f =>
         first
         | (have q := (by assumption : ∀ q ∈ (k.dx, lexD w.params k tx at0 tv nl) :: rest, ∀ p ∈ dblO w.params _ (dblN n d) (dblD n d), p.1 ≠ q.1)
            exact q _ (.head _))
         | (have q := (by assumption : ∀ q ∈ (k.dx, lexD w.params k tx at0 tv nl) :: rest, ∀ p ∈ intO w.params _ (n.fdiv d), p.1 ≠ q.1)
            exact q _ (.head _)))
    | trace_state
end
end
section
noncomputable def hexR (tx : Str) (i : Int) : Option (TV × Int) :=
  if scan hexP tx (i + 2) = i + 2 ∨ ([Str.ofString ".", Str.ofString "p", Str.ofString "P"].any (· == chr tx (scan hexP tx (i + 2)))) = true then none
  else numR tx (hexA tx (i + 2) 0) 1 (scan hexP tx (i + 2))
theorem hex_b1 {tx : Str} {i e v : Int} (h2 : scan hexP tx e = scan hexP tx (i + 2)) (h3 : hexA tx e v = hexA tx (i + 2) 0) (h : ¬ 0 ≤ hexV (chr tx e)) (h1 : e = i + 2) : hexR tx i = none := by
  have q := (hex_end h2 h3 h).1
  exact if_pos (Or.inl (q ▸ h1))
theorem hex_b2 {tx : Str} {i e v : Int} (h2 : scan hexP tx e = scan hexP tx (i + 2)) (h3 : hexA tx e v = hexA tx (i + 2) 0) (h : ¬ 0 ≤ hexV (chr tx e)) (h1 : ([Str.ofString ".", Str.ofString "p", Str.ofString "P"].any fun x => x == chr tx e) = true) : hexR tx i = none := by
  have q := (hex_end h2 h3 h).1
  exact if_pos (Or.inr (q ▸ h1))
theorem hex_ok {tx : Str} {i e v : Int} (h2 : scan hexP tx e = scan hexP tx (i + 2)) (h3 : hexA tx e v = hexA tx (i + 2) 0) (h : ¬ 0 ≤ hexV (chr tx e)) (h0 : e ≠ i + 2) (h1 : ([Str.ofString ".", Str.ofString "p", Str.ofString "P"].any fun x => x == chr tx e) = false) : hexR tx i = numR tx v 1 e := by
  obtain ⟨q, q2⟩ := hex_end h2 h3 h
  unfold hexR
  rw [← q, ← q2]
  exact if_neg (fun z => z.elim h0 (fun y => by rw [h1] at y; cases y))
section
variable {w : World} {loose : List Str} {mean : ExcName → Option Value} {mg mb : Str → Option Value}
theorem s_hexadecimal {k : LexK} {tx : Str} {at0 i : Int} {tv t : Tok} {nl : Bool} {rest news : List (Addr × Obj)} (hx : (k.x, instObj 297 k.dx) ∈ rest) (hne : ∀ p ∈ rest, p.1 ≠ k.dx) (hlen : tx.length ≤ 1000) (h0 : 0 ≤ i) (hs : ∀ p ∈ ((k.dx, lexD w.params k tx at0 tv nl) :: rest), p ∈ news) :
    Spec w loose mean mg mb 259 [.ref k.x, .int i t] 13 news (fun h₀ L m s Q => ∀ tv en, hexR tx i = some (tv, en) → GivesVal w.params k tx (Str.ofString "num") tv i en nl rest h₀ L m s Q)
      (fun base l h₀ L m s E => hexR tx i = none → Fails w.params i rest base l h₀ L m s E) := by
  unfold Spec Fails GivesVal GivesTok
  k_fill
  k_with_none
  (k_with "call ref" => (k_here; (with_reducible show wpAny _ _ (call (Value.ref 189) _) _ _ _); k_dflt ((with_unfolding_all refine' s_char ?q0 ?q1 ?q2 ?k1 ?k2 ?k3 ?k4 ?k5 ?kK ?kd ?ku ?_ ?ke); (case k1 => k_asm); (case k2 => k_asm); (case k3 => k_asm); (case k4 => k_asm); (case k5 => k_asm); (case q0 => k_mem); (case q1 => k_mem); (case q2 => omega); (case kK => first | exact rfl | assumption); (case kd => k_room); (case ku => ((try simp only [units_in1, units_deeper, Around.mark_units, units_caller]); (try dsimp only [ktrTop]); omega)); (case ke => exact trivial); k_whole; intro t9 h9 tk9 F9 N9; (try k_sweep); (try dsimp only); (try k_fold))))
  (k_with "call ref" => (k_here; (with_reducible show wpAny _ _ (call (Value.ref 153) _) _ _ _); k_dflt ((with_unfolding_all refine' s_hex_value ?q0 ?k1 ?k2 ?k3 ?k4 ?k5 ?kK ?kd ?ku ?_ ?ke); (case k1 => k_asm); (case k2 => k_asm); (case k3 => k_asm); (case k4 => k_asm); (case k5 => k_asm); (case q0 => first | exact chr_len (by omega) | omega); (case kK => first | exact rfl | assumption); (case kd => k_room); (case ku => ((try simp only [units_in1, units_deeper, Around.mark_units, units_caller]); (try dsimp only [ktrTop]); omega)); (case ke => exact trivial); k_whole; intro t9 h9 tk9 F9 N9; (try k_sweep); (try dsimp only); (try k_fold))))
  (k_with "call ref" => (k_here; (with_reducible show wpAny _ _ (call (Value.ref 266) _) _ _ _); k_dflt ((with_unfolding_all refine' s_number_token ?q0 ?q1 ?q2 ?q3 ?q4 ?q5 ?q6 ?k1 ?k2 ?k3 ?k4 ?k5 ?kK ?kd ?ku ?_ ?_); (case k1 => k_asm); (case k2 => k_asm); (case k3 => k_asm); (case k4 => k_asm); (case k5 => k_asm); (case q0 => k_mem); (case q1 => k_all); (case q2 => omega); (case q3 => omega); (case q4 => omega); (case q5 => omega); (case q6 => (refine List.forall_mem_cons.mpr ⟨?qa, ?qb⟩; (case qa => k_mem); (case qb => (intro p9 hp9; first | exact hp9 | exact .tail _ hp9 | exact .tail _ (.tail _ hp9) | exact .tail _ (.tail _ (.tail _ hp9)) | exact .tail _ (.tail _ (.tail _ (.tail _ hp9))))))); (case kK => first | exact rfl | assumption); (case kd => k_room); (case ku => ((try simp only [units_in1, units_deeper, Around.mark_units, units_caller]); (try dsimp only [ktrTop]); omega));  k_whole; rotate_left; (intro hb9 e9 dx9 c9 kd9 h9 g9 tk9 F9 U9 R9; (try dsimp only)); rotate_left; intro tv9 en9 hr9 v9 add9 hv9 ha9 c9 t9 h9 tk9 F9 N9 ne1 ne2; (try k_sweep); (try dsimp only); (try k_fold))))
  (k_with "exec Raise some none" => (k_here; k_dflt (refine' Raise_ownX ?h ?_; (case h => exact rfl); k_whole)))
  (k_with "call ref" => (k_here; (with_reducible show wpAny _ _ (call (Value.ref 51) _) _ _ _); k_dflt ((with_unfolding_all refine' s_exc ?k1 ?k2 ?k3 ?k4 ?k5 ?kK ?kd ?ku ?_ ?ke); (case k1 => k_asm); (case k2 => k_asm); (case k3 => k_asm); (case k4 => k_asm); (case k5 => k_asm); (case kK => first | exact rfl | assumption); (case kd => k_room); (case ku => ((try simp only [units_in1, units_deeper, Around.mark_units, units_caller]); (try dsimp only [ktrTop]); omega)); (case ke => exact trivial); k_whole; intro e9 dx9 t9 c9 h9 tk9 F9 N9 hde9 hne9; (try k_sweep); (try dsimp only))))
  (k_with "RaisableX" => k_dflt (refine' raisable51 ?k1 ?k2 ?k3 ?_; (case k1 => k_in); (case k2 => exact News.get (by k_asm) (List.Mem.head _)); (case k3 => exact rfl)))
  (k_with "leaving ref" => (k_here; k_dflt (first   | (refine' leave_newX2 (hk := by rfl) ?k1 ?k2 ?k3 ?k4 ?k5 ?_; (case k1 => k_asm); (case k2 => k_asm); (case k3 => k_asm); (case k4 => assumption); (case k5 => assumption); k_whole; intro h' R' U'; (try dsimp only at R' U' ⊢))   | (refine' leave_onX ?k1 ?k2 ?k3 ?k4 ?_; (case k3 => assumption); (case k1 => assumption); (case k4 => assumption); (case k2 => assumption); k_whole; intro h' R' U'; (try dsimp only at R' U' ⊢)))))
  intro dp un gd cn cs a ccd cl outer A₀ base h₀ L m s Q E B F X N T hk hdp hu hret herr
  replace N : News h₀ L s.heap ((k.dx, lexD w.params k tx at0 tv nl) :: rest) := fun p hp => N p (hs p hp)
  clear hs
  refine wpAny_call ?_
  k_dflt (refine' code_def ?k1 ?k2 ?k3 ?k4 ?k5 ?kA ?kF ?kK ?k6 ?k7 ?k8 ?k9 ?kB ?_ ?c2 ?c3 ?c4 ?c5; (case kA => exact rfl); (case kF => exact rfl); (case kK => first | exact rfl | assumption); (case k1 => k_asm); (case k2 => k_asm); (case k3 => k_asm); (case k4 => k_asm); (case k5 => k_asm); (case k6 => k_is); (case k7 => k_is); (case k8 => k_room); (case k9 => first | exact BindsTo.of_eq rfl | exact binds_K (by k_in) rfl (by k_is) rfl rfl rfl | fail "k_enter: no rule for these arguments"); (case c5 => decide); (case kB => exact locs rfl); (case c2 => exact rfl); (case c3 => exact rfl); (case c4 => exact rfl); k_whole; intro _ _ _ _ _ _ BZ _ _; (try dsimp only); (try k_lift BZ); (try k_fold))
  (k_with "exec While Compare cons nil" => k_while (fun _ v e => i + 2 ≤ e ∧ 0 ≤ v ∧ scan hexP tx e = scan hexP tx (i + 2) ∧ hexA tx e v = hexA tx (i + 2) 0) (fun _ v e => ((tx.length : Int) + 1 - e).toNat) "value" "end")
  (k_with "state" => first | exact ⟨Int.le_refl _, Int.le_refl _, rfl, rfl⟩ | exact hex_turn' h0 (by assumption) (by assumption) (by assumption) (by assumption) (by assumption))
  (k_with "measure" => exact hex_less h0 (by assumption) (by assumption))
  k_steps
  all_goals first
    | exact herr (by first | exact hex_b1 (by assumption) (by assumption) (by assumption) (by assumption) | exact hex_b2 (by assumption) (by assumption) (by assumption) (by assumption)) _ _ _ _ _ _ _ (by assumption) (by assumption) (by first | exact raisedX_one (by assumption) | exact raisedX_two (by assumption))
    | exact hret _ _ ((hex_ok (by assumption) (by assumption) (by assumption) (by assumption) (by assumption)).trans (by assumption)) _ _ (by assumption) (by assumption) _ _ _ _ (by assumption) (by assumption) (by assumption) (by assumption)
    | exact herr ((hex_ok (by assumption) (by assumption) (by assumption) (by assumption) (by assumption)).trans (by assumption)) _ _ _ _ _ _ _ (by assumption) (by assumption) (by assumption)
    | trace_state
end
end
section
noncomputable def nmlC (tx : Str) (g : Str) (sc : Int) (e : Int) : Option (TV × Int) :=
  if 0 ≤ sc then numR tx (dval g * 10 ^ sc.toNat) 1 e else numR tx (dval g) (10 ^ (0 - sc).toNat) e
noncomputable def nmlB (tx : Str) (g : Str) (sc : Int) (e : Int) : Option (TV × Int) :=
  if ([Str.ofString "e", Str.ofString "E"].any (· == chr tx e)) = true then (match expR tx (e + 1) with
    | none => none
    | some (v, e') => nmlC tx g (sc + v) e')
  else nmlC tx g sc e
noncomputable def nmlA (tx : Str) (i : Int) : Option (TV × Int) :=
  if (chr tx (scan isDigitS tx i) == Str.ofString ".") = true then
    nmlB tx (subS tx i (scan isDigitS tx i) ++ subS tx (scan isDigitS tx i + 1) (scan isDigitS tx (scan isDigitS tx i + 1))) (scan isDigitS tx i + 1 - scan isDigitS tx (scan isDigitS tx i + 1)) (scan isDigitS tx (scan isDigitS tx i + 1))
  else nmlB tx (subS tx i (scan isDigitS tx i)) 0 (scan isDigitS tx i)
noncomputable def nmlR (tx : Str) (i : Int) : Option (TV × Int) :=
  if (chr tx i == Str.ofString "0") = true ∧ ([Str.ofString "x", Str.ofString "X"].any (· == chr tx (i + 1))) = true then hexR tx i else nmlA tx i
theorem nml_h {tx : Str} {i : Int} (h1 : (chr tx i == Str.ofString "0") = true) (h2 : ([Str.ofString "x", Str.ofString "X"].any fun x => x == chr tx (i + 1)) = true) : nmlR tx i = hexR tx i := if_pos ⟨h1, h2⟩
theorem nml_n1 {tx : Str} {i : Int} (h1 : (chr tx i == Str.ofString "0") = false) : nmlR tx i = nmlA tx i := if_neg fun q => Bool.eq_false_iff.mp h1 q.1
theorem nml_n2 {tx : Str} {i : Int} (h2 : ([Str.ofString "x", Str.ofString "X"].any fun x => x == chr tx (i + 1)) = false) : nmlR tx i = nmlA tx i := if_neg fun q => Bool.eq_false_iff.mp h2 q.2
theorem nml_d {tx : Str} {i : Int} (h : (chr tx (scan isDigitS tx i) == Str.ofString ".") = true) : nmlA tx i = nmlB tx (subS tx i (scan isDigitS tx i) ++ subS tx (scan isDigitS tx i + 1) (scan isDigitS tx (scan isDigitS tx i + 1))) (scan isDigitS tx i + 1 - scan isDigitS tx (scan isDigitS tx i + 1)) (scan isDigitS tx (scan isDigitS tx i + 1)) := if_pos h
theorem nml_f {tx : Str} {i : Int} (h : (chr tx (scan isDigitS tx i) == Str.ofString ".") = false) : nmlA tx i = nmlB tx (subS tx i (scan isDigitS tx i)) 0 (scan isDigitS tx i) := if_neg (Bool.eq_false_iff.mp h)
theorem nmlB_e {tx g : Str} {sc e v e' : Int} (h : ([Str.ofString "e", Str.ofString "E"].any fun x => x == chr tx e) = true) (hr : expR tx (e + 1) = some (v, e')) : nmlB tx g sc e = nmlC tx g (sc + v) e' := by
  unfold nmlB; rw [if_pos h, hr]
theorem nmlB_x {tx g : Str} {sc e : Int} (h : ([Str.ofString "e", Str.ofString "E"].any fun x => x == chr tx e) = true) (hr : expR tx (e + 1) = none) : nmlB tx g sc e = none := by
  unfold nmlB; rw [if_pos h, hr]
theorem nmlB_n {tx g : Str} {sc e : Int} (h : ([Str.ofString "e", Str.ofString "E"].any fun x => x == chr tx e) = false) : nmlB tx g sc e = nmlC tx g sc e := if_neg (Bool.eq_false_iff.mp h)
theorem nmlC_p {tx g : Str} {sc e : Int} (h : 0 ≤ sc) : nmlC tx g sc e = numR tx (dval g * 10 ^ sc.toNat) 1 e := if_pos h
theorem nmlC_m {tx g : Str} {sc e : Int} (h : ¬ 0 ≤ sc) : nmlC tx g sc e = numR tx (dval g) (10 ^ (0 - sc).toNat) e := if_neg h
set_option maxHeartbeats 4000000
section
variable {w : World} {loose : List Str} {mean : ExcName → Option Value} {mg mb : Str → Option Value}
theorem s_numeral {k : LexK} {tx : Str} {at0 i : Int} {tv t : Tok} {nl : Bool} {rest news : List (Addr × Obj)} (hx : (k.x, instObj 297 k.dx) ∈ rest) (hne : ∀ p ∈ rest, p.1 ≠ k.dx) (hlen : tx.length ≤ 1000) (h0 : 0 ≤ i) (hi : i ≤ tx.length) (hs : ∀ p ∈ ((k.dx, lexD w.params k tx at0 tv nl) :: rest), p ∈ news) :
    Spec w loose mean mg mb 245 [.ref k.x, .int i t] 17 news (fun h₀ L m s Q => ∀ tv en, nmlR tx i = some (tv, en) → GivesVal w.params k tx (Str.ofString "num") tv i en nl rest h₀ L m s Q)
      (fun base l h₀ L m s E => nmlR tx i = none → Fails w.params i rest base l h₀ L m s E) := by
  unfold Spec Fails GivesVal GivesTok
  k_fill
  k_with_none
  (k_with "call ref" => (k_here; (with_reducible show wpAny _ _ (call (Value.ref 189) _) _ _ _); k_dflt ((with_unfolding_all refine' s_char ?q0 ?q1 ?q2 ?k1 ?k2 ?k3 ?k4 ?k5 ?kK ?kd ?ku ?_ ?ke); (case k1 => k_asm); (case k2 => k_asm); (case k3 => k_asm); (case k4 => k_asm); (case k5 => k_asm); (case q0 => k_mem); (case q1 => k_mem); (case q2 => omega); (case kK => first | exact rfl | assumption); (case kd => k_room); (case ku => ((try simp only [units_in1, units_deeper, Around.mark_units, units_caller]); (try dsimp only [ktrTop]); omega)); (case ke => exact trivial); k_whole; intro t9 h9 tk9 F9 N9; (try k_sweep); (try dsimp only); (try k_fold))))
  (k_with "call ref" => (k_here; (with_reducible show wpAny _ _ (call (Value.ref 238) _) _ _ _); k_dflt ((with_unfolding_all refine' s_digits_end ?q0 ?q1 ?q2 ?q3 ?k1 ?k2 ?k3 ?k4 ?k5 ?kK ?kd ?ku ?_ ?ke); (case k1 => k_asm); (case k2 => k_asm); (case k3 => k_asm); (case k4 => k_asm); (case k5 => k_asm); (case q0 => k_mem); (case q1 => k_mem); (case q2 => omega); (case q3 => omega); (case kK => first | exact rfl | assumption); (case kd => k_room); (case ku => ((try simp only [units_in1, units_deeper, Around.mark_units, units_caller]); (try dsimp only [ktrTop]); omega)); (case ke => exact trivial); k_whole; intro t9 h9 tk9 F9 N9; (try k_sweep); (try dsimp only); (try k_fold))))
  (k_with "call ref" => (k_here; (with_reducible show wpAny _ _ (call (Value.ref 167) _) _ _ _); k_dflt ((with_unfolding_all refine' s_digits_value ?q0 ?k1 ?k2 ?k3 ?k4 ?k5 ?kK ?kd ?ku ?_ ?ke); (case k1 => k_asm); (case k2 => k_asm); (case k3 => k_asm); (case k4 => k_asm); (case k5 => k_asm); (case q0 => first | omega | (simp only [] at *; omega)); (case kK => first | exact rfl | assumption); (case kd => k_room); (case ku => ((try simp only [units_in1, units_deeper, Around.mark_units, units_caller]); (try dsimp only [ktrTop]); omega)); (case ke => exact trivial); k_whole; intro t9 h9 tk9 F9 N9; (try k_sweep); (try dsimp only); (try k_fold))))
  (k_with "call ref" => (k_here; (with_reducible show wpAny _ _ (call (Value.ref 252) _) _ _ _); k_dflt ((with_unfolding_all refine' s_exponent ?q0 ?q1 ?q2 ?q3 ?q4 ?q5 ?k1 ?k2 ?k3 ?k4 ?k5 ?kK ?kd ?ku ?_ ?_); (case k1 => k_asm); (case k2 => k_asm); (case k3 => k_asm); (case k4 => k_asm); (case k5 => k_asm); (case q0 => k_mem); (case q1 => k_all); (case q2 => omega); (case q3 => omega); (case q4 => omega); (case q5 => (refine List.forall_mem_cons.mpr ⟨?qa, ?qb⟩; (case qa => k_mem); (case qb => (intro p9 hp9; first | exact hp9 | exact .tail _ hp9 | exact .tail _ (.tail _ hp9) | exact .tail _ (.tail _ (.tail _ hp9)) | exact .tail _ (.tail _ (.tail _ (.tail _ hp9))))))); (case kK => first | exact rfl | assumption); (case kd => k_room); (case ku => ((try simp only [units_in1, units_deeper, Around.mark_units, units_caller]); (try dsimp only [ktrTop]); omega));  k_whole; rotate_left; (intro hb9 e9 dx9 c9 kd9 h9 g9 tk9 F9 U9 R9; (try dsimp only)); rotate_left; intro v9 en9 hr9 D9 tv9 te9 h9 tk9 F9 N9; (obtain ⟨xb1, xb2, xb3⟩ := expR_bound hr9 (by omega)); (try k_sweep); (try dsimp only); (try k_fold))))
  (k_with "call ref" => (k_here; (with_reducible show wpAny _ _ (call (Value.ref 266) _) _ _ _); k_dflt ((with_unfolding_all refine' s_number_token ?q0 ?q1 ?q2 ?q3 ?q4 ?q5 ?q6 ?k1 ?k2 ?k3 ?k4 ?k5 ?kK ?kd ?ku ?_ ?_); (case k1 => k_asm); (case k2 => k_asm); (case k3 => k_asm); (case k4 => k_asm); (case k5 => k_asm); (case q0 => k_mem); (case q1 => k_all); (case q2 => omega); (case q3 => first | exact Int.mul_nonneg (dval_nonneg (by assumption)) (Int.pow_nonneg (by decide)) | exact dval_nonneg (by assumption)); (case q4 => first | omega | exact ten_pos _); (case q5 => omega); (case q6 => (refine List.forall_mem_cons.mpr ⟨?qa, ?qb⟩; (case qa => k_mem); (case qb => (intro p9 hp9; first | exact hp9 | exact .tail _ hp9 | exact .tail _ (.tail _ hp9) | exact .tail _ (.tail _ (.tail _ hp9)) | exact .tail _ (.tail _ (.tail _ (.tail _ hp9))))))); (case kK => first | exact rfl | assumption); (case kd => k_room); (case ku => ((try simp only [units_in1, units_deeper, Around.mark_units, units_caller]); (try dsimp only [ktrTop]); omega));  k_whole; rotate_left; (intro hb9 e9 dx9 c9 kd9 h9 g9 tk9 F9 U9 R9; (try dsimp only)); rotate_left; intro tv9 en9 hr9 v9 add9 hv9 ha9 c9 t9 h9 tk9 F9 N9 ne1 ne2; (try k_sweep); (try dsimp only); (try k_fold))))
  (k_with "call ref" => (k_here; (with_reducible show wpAny _ _ (call (Value.ref 259) _) _ _ _); k_dflt ((with_unfolding_all refine' s_hexadecimal ?q0 ?q1 ?q2 ?q3 ?q4 ?k1 ?k2 ?k3 ?k4 ?k5 ?kK ?kd ?ku ?_ ?_); (case k1 => k_asm); (case k2 => k_asm); (case k3 => k_asm); (case k4 => k_asm); (case k5 => k_asm); (case q0 => k_mem); (case q1 => k_all); (case q2 => omega); (case q3 => omega); (case q4 => (refine List.forall_mem_cons.mpr ⟨?qa, ?qb⟩; (case qa => k_mem); (case qb => (intro p9 hp9; first | exact hp9 | exact .tail _ hp9 | exact .tail _ (.tail _ hp9) | exact .tail _ (.tail _ (.tail _ hp9)) | exact .tail _ (.tail _ (.tail _ (.tail _ hp9))))))); (case kK => first | exact rfl | assumption); (case kd => k_room); (case ku => ((try simp only [units_in1, units_deeper, Around.mark_units, units_caller]); (try dsimp only [ktrTop]); omega));  k_whole; rotate_left; (intro hb9 e9 dx9 c9 kd9 h9 g9 tk9 F9 U9 R9; (try dsimp only)); rotate_left; intro tv9 en9 hr9 v9 add9 hv9 ha9 c9 t9 h9 tk9 F9 N9 ne1 ne2; (try k_sweep); (try dsimp only); (try k_fold))))
  (k_with "exec Raise some none" => (k_here; k_dflt (refine' Raise_ownX ?h ?_; (case h => exact rfl); k_whole)))
  (k_with "call ref" => (k_here; (with_reducible show wpAny _ _ (call (Value.ref 51) _) _ _ _); k_dflt ((with_unfolding_all refine' s_exc ?k1 ?k2 ?k3 ?k4 ?k5 ?kK ?kd ?ku ?_ ?ke); (case k1 => k_asm); (case k2 => k_asm); (case k3 => k_asm); (case k4 => k_asm); (case k5 => k_asm); (case kK => first | exact rfl | assumption); (case kd => k_room); (case ku => ((try simp only [units_in1, units_deeper, Around.mark_units, units_caller]); (try dsimp only [ktrTop]); omega)); (case ke => exact trivial); k_whole; intro e9 dx9 t9 c9 h9 tk9 F9 N9 hde9 hne9; (try k_sweep); (try dsimp only))))
  (k_with "RaisableX" => k_dflt (refine' raisable51 ?k1 ?k2 ?k3 ?_; (case k1 => k_in); (case k2 => exact News.get (by k_asm) (List.Mem.head _)); (case k3 => exact rfl)))
  (k_with "leaving ref" => (k_here; k_dflt (first   | (refine' leave_newX2 (hk := by rfl) ?k1 ?k2 ?k3 ?k4 ?k5 ?_; (case k1 => k_asm); (case k2 => k_asm); (case k3 => k_asm); (case k4 => assumption); (case k5 => assumption); k_whole; intro h' R' U'; (try dsimp only at R' U' ⊢))   | (refine' leave_onX ?k1 ?k2 ?k3 ?k4 ?_; (case k3 => assumption); (case k1 => assumption); (case k4 => assumption); (case k2 => assumption); k_whole; intro h' R' U'; (try dsimp only at R' U' ⊢)))))
  (k_with "subscriptTail Name Slice str ref" => (k_here; (with_reducible show wpAny _ _ (subscriptTail _ (Expr.Slice (some _) (some _) none _) (Value.str _ _) (Value.ref _)) _ _ _); (with_reducible rename Fr _ _ _ _ => F'); (with_reducible rename News _ _ _ _ => N'); (refine slice_subS (hs := by with_unfolding_all rfl) (ht := by intro _; with_unfolding_all rfl) (hsz := ?hsz) (s := ⟨_, _, _, _, _⟩) F' N' ?_); (case hsz => (rw [PySem.sizeLine_eq]; omega)); intro _ _ _ _ _ _))
  (k_with "binaryOp Pow int int" => (k_here; k_dflt (refine' pow_int_small ?kb1 ?kb2 ?kb3 ?_; (case kb1 => omega); (case kb2 => omega); (case kb3 => decide))))
  (k_with "binaryOp Mult int int" => (k_here; k_dflt (refine' mul_int ?_ ?hm; (case hm => first | exact mul_ok_num (by assumption) (hl := by omega) (hz := by omega)))))
  (k_with "binaryOp Add str str" => (k_here; k_dflt (refine' SBL.add ?_ ?hsz; (case hsz => (rw [PySem.sizeLine_eq]; omega)); intro _ _ _)))
  intro dp un gd cn cs a ccd cl outer A₀ base h₀ L m s Q E B F X N T hk hdp hu hret herr
  replace N : News h₀ L s.heap ((k.dx, lexD w.params k tx at0 tv nl) :: rest) := fun p hp => N p (hs p hp)
  clear hs
  have b1 : i ≤ scan isDigitS tx i := scan_ge
  have b2 : scan isDigitS tx i ≤ tx.length := scan_le isDigitS_nil h0 hi
  have b3 : scan isDigitS tx i + 1 ≤ scan isDigitS tx (scan isDigitS tx i + 1) := scan_ge
  have b4 : scan isDigitS tx (scan isDigitS tx i + 1) ≤ tx.length + 1 := scan_le1 isDigitS_nil (by omega) (by omega) (by omega)
  have d1 : NumOk (subS tx i (scan isDigitS tx i)) := numOk_sub h0
  have d2 : NumOk (subS tx i (scan isDigitS tx i) ++ subS tx (scan isDigitS tx i + 1) (scan isDigitS tx (scan isDigitS tx i + 1))) := numOk_app d1 (numOk_sub (by omega))
  have l1 : ((subS tx i (scan isDigitS tx i)).length : Int) ≤ scan isDigitS tx i - i := sub_len h0 b1
  have l2 : ((subS tx (scan isDigitS tx i + 1) (scan isDigitS tx (scan isDigitS tx i + 1))).length : Int) ≤ scan isDigitS tx (scan isDigitS tx i + 1) - (scan isDigitS tx i + 1) := sub_len (by omega) b3
  refine wpAny_call ?_
  k_dflt (refine' code_def ?k1 ?k2 ?k3 ?k4 ?k5 ?kA ?kF ?kK ?k6 ?k7 ?k8 ?k9 ?kB ?_ ?c2 ?c3 ?c4 ?c5; (case kA => exact rfl); (case kF => exact rfl); (case kK => first | exact rfl | assumption); (case k1 => k_asm); (case k2 => k_asm); (case k3 => k_asm); (case k4 => k_asm); (case k5 => k_asm); (case k6 => k_is); (case k7 => k_is); (case k8 => k_room); (case k9 => first | exact BindsTo.of_eq rfl | exact binds_K (by k_in) rfl (by k_is) rfl rfl rfl | fail "k_enter: no rule for these arguments"); (case c5 => decide); (case kB => exact locs rfl); (case c2 => exact rfl); (case c3 => exact rfl); (case c4 => exact rfl); k_whole; intro _ _ _ _ _ _ BZ _ _; (try dsimp only); (try k_lift BZ); (try k_fold))
  k_steps
  all_goals (first | have hA := nml_h (tx := tx) (i := i) (by assumption) (by assumption) | have hA := nml_n1 (tx := tx) (i := i) (by assumption) | have hA := nml_n2 (tx := tx) (i := i) (by assumption))
  all_goals (first | have hA := hA.trans (nml_d (by assumption)) | have hA := hA.trans (nml_f (by assumption)) | skip)
  all_goals (first | have hA := hA.trans (nmlB_n (by assumption)) | have hA := hA.trans (nmlB_e (by assumption) (by assumption)) | have hA := hA.trans (nmlB_x (by assumption) (by assumption)) | skip)
  all_goals (first | have hA := hA.trans (nmlC_p (by first | assumption | decide)) | have hA := hA.trans (nmlC_m (by assumption)) | skip)
  all_goals first
    | exact hret _ _ (hA.trans (by assumption)) _ _ (by assumption) (by assumption) _ _ _ _ (by assumption) (by assumption) (by assumption) (by assumption)
    | exact herr (hA.trans (by assumption)) _ _ _ _ _ _ _ (by assumption) (by assumption) (by assumption)
    | exact herr hA _ _ _ _ _ _ _ (by assumption) (by assumption) (by assumption)
    | trace_state
end
end
section
theorem news_drop {h₀ h : Heap} {L : Addr} {a b : Addr × Obj} {rest : List (Addr × Obj)} (N : News h₀ L h (a :: b :: rest)) : News h₀ L h (a :: rest) := fun p hp => N p (by
  rcases List.mem_cons.mp hp with rfl | hp
  · exact .head _
  · exact .tail _ (.tail _ hp))
section
variable {w : World} {loose : List Str} {mean : ExcName → Option Value} {mg mb : Str → Option Value}
/-- a quoted text as the pieces have it: an opening quote, one plain sign, the quote again -/
theorem s_quoted1 {k : LexK} {tx : Str} {at0 i : Int} {tv t : Tok} {nl : Bool} {rest news : List (Addr × Obj)} (hx : (k.x, instObj 297 k.dx) ∈ rest) (hne : ∀ p ∈ rest, p.1 ≠ k.dx) (hlen : tx.length ≤ 1000) (h0 : 0 ≤ i) (hs : ∀ p ∈ ((k.dx, lexD w.params k tx at0 tv nl) :: rest), p ∈ news)
    (f1 : (chr tx (i + 1) != chr tx i) = true) (f2 : (chr tx (i + 1) == Str.ofString "") = false) (f3 : (chr tx (i + 1) == Str.ofString "\\") = false) (f4 : (chr tx (i + 1 + 1) != chr tx i) = false) :
    Spec w loose mean mg mb 273 [.ref k.x, .int i t] 9 news (fun h₀ L m s Q => ∀ (D : Addr) (v : Str) (tv' te : Tok) (h' : Heap) (tk' : Nat), v = Txt.join (Str.ofString "") [chr tx (i + 1)] → Fr h₀ L h' m → News h₀ L h' ((D, { cls := .type "tuple", data := .seq #[.str v tv', .int (i + 1 + 1 + 1) te] }) :: (k.dx, lexD w.params k tx at0 tv nl) :: rest) → Q (.ref D) { s with heap := h', toks := tk' })
      NoErr := by
  unfold Spec NoErr
  k_fill
  k_with_none
  (k_with "call ref" => (k_here; (with_reducible show wpAny _ _ (call (Value.ref 189) _) _ _ _); k_dflt ((with_unfolding_all refine' s_char ?q0 ?q1 ?q2 ?k1 ?k2 ?k3 ?k4 ?k5 ?kK ?kd ?ku ?_ ?ke); (case k1 => k_asm); (case k2 => k_asm); (case k3 => k_asm); (case k4 => k_asm); (case k5 => k_asm); (case q0 => k_mem); (case q1 => k_mem); (case q2 => omega); (case kK => first | exact rfl | assumption); (case kd => k_room); (case ku => ((try simp only [units_in1, units_deeper, Around.mark_units, units_caller]); (try dsimp only [ktrTop]); omega)); (case ke => exact trivial); k_whole; intro t9 h9 tk9 F9 N9; (try k_sweep); (try dsimp only); (try k_fold))))
  (k_with "WhlIf" => (k_here; k_dflt (first | (refine WhlIf.yes (by assumption) ?_) | (refine WhlIf.no (by assumption) ?_))))
  (k_with "ite" => (k_here; k_dflt (first | (refine ite_pos (by assumption) ?_) | (refine ite_neg (Bool.eq_false_iff.mp (by assumption)) ?_))))
  (k_with "call builtin:str.join" => (k_here; (with_reducible show wpAny _ _ (call (Value.builtin _) [Value.str _ _, Value.ref _]) _ _ _); k_dflt (refine' join_listW ?il ?hi ?h1 ?h2 ?_; (case il => is_list); (case hi => kct_strs); (case h1 => decide +kernel); (case h2 => (simp only [List.map_cons, List.map_nil, List.sum_cons, List.sum_nil, List.length_cons, List.length_nil]; omega)); intro _ _)))
  intro dp un gd cn cs a ccd cl outer A₀ base h₀ L m s Q E B F X N T hk hdp hu hret herr
  replace N : News h₀ L s.heap ((k.dx, lexD w.params k tx at0 tv nl) :: rest) := fun p hp => N p (hs p hp)
  clear hs
  have c1 := chr_len (tx := tx) (i := i + 1) (by omega)
  have c2 := chr_len (tx := tx) (i := i + 1 + 1) (by omega)
  have c3 := chr_len (tx := tx) (i := i + 1 + 1 + 1) (by omega)
  refine wpAny_call ?_
  k_dflt (refine' code_def ?k1 ?k2 ?k3 ?k4 ?k5 ?kA ?kF ?kK ?k6 ?k7 ?k8 ?k9 ?kB ?_ ?c2 ?c3 ?c4 ?c5; (case kA => exact rfl); (case kF => exact rfl); (case kK => first | exact rfl | assumption); (case k1 => k_asm); (case k2 => k_asm); (case k3 => k_asm); (case k4 => k_asm); (case k5 => k_asm); (case k6 => k_is); (case k7 => k_is); (case k8 => k_room); (case k9 => first | exact BindsTo.of_eq rfl | exact binds_K (by k_in) rfl (by k_is) rfl rfl rfl | fail "k_enter: no rule for these arguments"); (case c5 => decide); (case kB => exact locs rfl); (case c2 => exact rfl); (case c3 => exact rfl); (case c4 => exact rfl); k_whole; intro _ _ _ _ _ _ BZ _ _; (try dsimp only); (try k_lift BZ); (try k_fold))
  k_steps
  exact hret _ _ _ _ _ _ rfl (by assumption) (news_drop (by assumption))
theorem s_quoted3 {k : LexK} {tx : Str} {at0 i : Int} {tv t : Tok} {nl : Bool} {rest news : List (Addr × Obj)} (hx : (k.x, instObj 297 k.dx) ∈ rest) (hne : ∀ p ∈ rest, p.1 ≠ k.dx) (hlen : tx.length ≤ 1000) (h0 : 0 ≤ i) (hs : ∀ p ∈ ((k.dx, lexD w.params k tx at0 tv nl) :: rest), p ∈ news)
    (f1 : (chr tx (i + 1) != chr tx i) = true) (f2 : (chr tx (i + 1) == Str.ofString "") = false) (f3 : (chr tx (i + 1) == Str.ofString "\\") = false)
    (f4 : (chr tx (i + 1 + 1) != chr tx i) = true) (f5 : (chr tx (i + 1 + 1) == Str.ofString "") = false) (f6 : (chr tx (i + 1 + 1) == Str.ofString "\\") = false)
    (f7 : (chr tx (i + 1 + 1 + 1) != chr tx i) = true) (f8 : (chr tx (i + 1 + 1 + 1) == Str.ofString "") = false) (f9 : (chr tx (i + 1 + 1 + 1) == Str.ofString "\\") = false)
    (fa : (chr tx (i + 1 + 1 + 1 + 1) != chr tx i) = false) :
    Spec w loose mean mg mb 273 [.ref k.x, .int i t] 9 news (fun h₀ L m s Q => ∀ (D : Addr) (v : Str) (tv' te : Tok) (h' : Heap) (tk' : Nat), v = Txt.join (Str.ofString "") [chr tx (i + 1), chr tx (i + 1 + 1), chr tx (i + 1 + 1 + 1)] → Fr h₀ L h' m → News h₀ L h' ((D, { cls := .type "tuple", data := .seq #[.str v tv', .int (i + 1 + 1 + 1 + 1 + 1) te] }) :: (k.dx, lexD w.params k tx at0 tv nl) :: rest) → Q (.ref D) { s with heap := h', toks := tk' })
      NoErr := by
  unfold Spec NoErr
  k_fill
  k_with_none
  (k_with "call ref" => (k_here; (with_reducible show wpAny _ _ (call (Value.ref 189) _) _ _ _); k_dflt ((with_unfolding_all refine' s_char ?q0 ?q1 ?q2 ?k1 ?k2 ?k3 ?k4 ?k5 ?kK ?kd ?ku ?_ ?ke); (case k1 => k_asm); (case k2 => k_asm); (case k3 => k_asm); (case k4 => k_asm); (case k5 => k_asm); (case q0 => k_mem); (case q1 => k_mem); (case q2 => omega); (case kK => first | exact rfl | assumption); (case kd => k_room); (case ku => ((try simp only [units_in1, units_deeper, Around.mark_units, units_caller]); (try dsimp only [ktrTop]); omega)); (case ke => exact trivial); k_whole; intro t9 h9 tk9 F9 N9; (try k_sweep); (try dsimp only); (try k_fold))))
  (k_with "WhlIf" => (k_here; k_dflt (first | (refine WhlIf.yes (by assumption) ?_) | (refine WhlIf.no (by assumption) ?_))))
  (k_with "ite" => (k_here; k_dflt (first | (refine ite_pos (by assumption) ?_) | (refine ite_neg (Bool.eq_false_iff.mp (by assumption)) ?_))))
  (k_with "call builtin:str.join" => (k_here; (with_reducible show wpAny _ _ (call (Value.builtin _) [Value.str _ _, Value.ref _]) _ _ _); k_dflt (refine' join_listW ?il ?hi ?h1 ?h2 ?_; (case il => is_list); (case hi => kct_strs); (case h1 => decide +kernel); (case h2 => (simp only [List.map_cons, List.map_nil, List.sum_cons, List.sum_nil, List.length_cons, List.length_nil]; omega)); intro _ _)))
  intro dp un gd cn cs a ccd cl outer A₀ base h₀ L m s Q E B F X N T hk hdp hu hret herr
  replace N : News h₀ L s.heap ((k.dx, lexD w.params k tx at0 tv nl) :: rest) := fun p hp => N p (hs p hp)
  clear hs
  have c1 := chr_len (tx := tx) (i := i + 1) (by omega)
  have c2 := chr_len (tx := tx) (i := i + 1 + 1) (by omega)
  have c3 := chr_len (tx := tx) (i := i + 1 + 1 + 1) (by omega)
  refine wpAny_call ?_
  k_dflt (refine' code_def ?k1 ?k2 ?k3 ?k4 ?k5 ?kA ?kF ?kK ?k6 ?k7 ?k8 ?k9 ?kB ?_ ?c2 ?c3 ?c4 ?c5; (case kA => exact rfl); (case kF => exact rfl); (case kK => first | exact rfl | assumption); (case k1 => k_asm); (case k2 => k_asm); (case k3 => k_asm); (case k4 => k_asm); (case k5 => k_asm); (case k6 => k_is); (case k7 => k_is); (case k8 => k_room); (case k9 => first | exact BindsTo.of_eq rfl | exact binds_K (by k_in) rfl (by k_is) rfl rfl rfl | fail "k_enter: no rule for these arguments"); (case c5 => decide); (case kB => exact locs rfl); (case c2 => exact rfl); (case c3 => exact rfl); (case c4 => exact rfl); k_whole; intro _ _ _ _ _ _ BZ _ _; (try dsimp only); (try k_lift BZ); (try k_fold))
  k_steps
  exact hret _ _ _ _ _ _ rfl (by assumption) (news_drop (by assumption))
end
/-- what stands behind an opening quote, as the pieces have it: one sign, or three -/
noncomputable def quo1 (tx : Str) (i : Int) : Prop := (chr tx (i + 1) != chr tx i) = true ∧ (chr tx (i + 1) == Str.ofString "") = false ∧ (chr tx (i + 1) == Str.ofString "\\") = false ∧ (chr tx (i + 1 + 1) != chr tx i) = false
noncomputable def quo3 (tx : Str) (i : Int) : Prop := (chr tx (i + 1) != chr tx i) = true ∧ (chr tx (i + 1) == Str.ofString "") = false ∧ (chr tx (i + 1) == Str.ofString "\\") = false ∧
  (chr tx (i + 1 + 1) != chr tx i) = true ∧ (chr tx (i + 1 + 1) == Str.ofString "") = false ∧ (chr tx (i + 1 + 1) == Str.ofString "\\") = false ∧
  (chr tx (i + 1 + 1 + 1) != chr tx i) = true ∧ (chr tx (i + 1 + 1 + 1) == Str.ofString "") = false ∧ (chr tx (i + 1 + 1 + 1) == Str.ofString "\\") = false ∧ (chr tx (i + 1 + 1 + 1 + 1) != chr tx i) = false
noncomputable def quoV (tx : Str) (i : Int) : Str := if (chr tx (i + 1 + 1) != chr tx i) = true then Txt.join (Str.ofString "") [chr tx (i + 1), chr tx (i + 1 + 1), chr tx (i + 1 + 1 + 1)] else Txt.join (Str.ofString "") [chr tx (i + 1)]
noncomputable def quoE (tx : Str) (i : Int) : Int := if (chr tx (i + 1 + 1) != chr tx i) = true then i + 1 + 1 + 1 + 1 + 1 else i + 1 + 1 + 1
section
variable {w : World} {loose : List Str} {mean : ExcName → Option Value} {mg mb : Str → Option Value}
theorem s_quoted {k : LexK} {tx : Str} {at0 i : Int} {tv t : Tok} {nl : Bool} {rest news : List (Addr × Obj)} (hx : (k.x, instObj 297 k.dx) ∈ rest) (hne : ∀ p ∈ rest, p.1 ≠ k.dx) (hlen : tx.length ≤ 1000) (h0 : 0 ≤ i) (hq : quo1 tx i ∨ quo3 tx i) (hs : ∀ p ∈ ((k.dx, lexD w.params k tx at0 tv nl) :: rest), p ∈ news) :
    Spec w loose mean mg mb 273 [.ref k.x, .int i t] 9 news (fun h₀ L m s Q => ∀ (D : Addr) (tv' te : Tok) (h' : Heap) (tk' : Nat), Fr h₀ L h' m → News h₀ L h' ((D, { cls := .type "tuple", data := .seq #[.str (quoV tx i) tv', .int (quoE tx i) te] }) :: (k.dx, lexD w.params k tx at0 tv nl) :: rest) → Q (.ref D) { s with heap := h', toks := tk' })
      NoErr := by
  intro dp un gd cn cs a ccd cl outer A₀ base h₀ L m s Q E B F X N T hk hdp hu hret herr
  rcases hq with ⟨a1, a2, a3, a4⟩ | ⟨a1, a2, a3, a4, a5, a6, a7, a8, a9, aa⟩
  · have hv : quoV tx i = Txt.join (Str.ofString "") [chr tx (i + 1)] := if_neg (Bool.eq_false_iff.mp a4)
    have he : quoE tx i = i + 1 + 1 + 1 := if_neg (Bool.eq_false_iff.mp a4)
    rw [hv, he] at hret
    exact s_quoted1 hx hne hlen h0 hs a1 a2 a3 a4 B F X N T hk hdp hu (fun D v tv' te h' tk' hv F N => by subst hv; exact hret D tv' te h' tk' F N) herr
  · have hv : quoV tx i = Txt.join (Str.ofString "") [chr tx (i + 1), chr tx (i + 1 + 1), chr tx (i + 1 + 1 + 1)] := if_pos a4
    have he : quoE tx i = i + 1 + 1 + 1 + 1 + 1 := if_pos a4
    rw [hv, he] at hret
    exact s_quoted3 hx hne hlen h0 hs a1 a2 a3 a4 a5 a6 a7 a8 a9 aa B F X N T hk hdp hu (fun D v tv' te h' tk' hv F N => by subst hv; exact hret D tv' te h' tk' F N) herr
end
end
section
section
variable {w : World} {loose : List Str} {mean : ExcName → Option Value} {mg mb : Str → Option Value}
/-- a raw string as the pieces can make it: no bracket opens it -/
theorem s_raw {k : LexK} {tx : Str} {at0 i : Int} {tv t : Tok} {nl : Bool} {rest news : List (Addr × Obj)} (hx : (k.x, instObj 297 k.dx) ∈ rest) (hne : ∀ p ∈ rest, p.1 ≠ k.dx) (hlen : tx.length ≤ 1000) (h0 : 0 ≤ i)
    (f1 : (chr tx (i + 2) == Str.ofString "-") = false) (f2 : (chr tx (i + 2) == Str.ofString "") = false) (f3 : (Builtin.Str.occurrences (Str.ofString "([{") (chr tx (i + 2)) 0 (Str.ofString "([{").length 1).isEmpty = true) (hs : ∀ p ∈ ((k.dx, lexD w.params k tx at0 tv nl) :: rest), p ∈ news) :
    Spec w loose mean mg mb 294 [.ref k.x, .int i t] 9 news (fun _ _ _ _ _ => True)
      (fun base l h₀ L m s E => Fails w.params i rest base l h₀ L m s E) := by
  unfold Spec Fails
  k_fill
  k_with_none
  (k_with "call ref" => (k_here; (with_reducible show wpAny _ _ (call (Value.ref 189) _) _ _ _); k_dflt ((with_unfolding_all refine' s_char ?q0 ?q1 ?q2 ?k1 ?k2 ?k3 ?k4 ?k5 ?kK ?kd ?ku ?_ ?ke); (case k1 => k_asm); (case k2 => k_asm); (case k3 => k_asm); (case k4 => k_asm); (case k5 => k_asm); (case q0 => k_mem); (case q1 => k_mem); (case q2 => omega); (case kK => first | exact rfl | assumption); (case kd => k_room); (case ku => ((try simp only [units_in1, units_deeper, Around.mark_units, units_caller]); (try dsimp only [ktrTop]); omega)); (case ke => exact trivial); k_whole; intro t9 h9 tk9 F9 N9; (try k_sweep); (try dsimp only); (try k_fold))))
  (k_with "exec Raise some none" => (k_here; k_dflt (refine' Raise_ownX ?h ?_; (case h => exact rfl); k_whole)))
  (k_with "call ref" => (k_here; (with_reducible show wpAny _ _ (call (Value.ref 51) _) _ _ _); k_dflt ((with_unfolding_all refine' s_exc ?k1 ?k2 ?k3 ?k4 ?k5 ?kK ?kd ?ku ?_ ?ke); (case k1 => k_asm); (case k2 => k_asm); (case k3 => k_asm); (case k4 => k_asm); (case k5 => k_asm); (case kK => first | exact rfl | assumption); (case kd => k_room); (case ku => ((try simp only [units_in1, units_deeper, Around.mark_units, units_caller]); (try dsimp only [ktrTop]); omega)); (case ke => exact trivial); k_whole; intro e9 dx9 t9 c9 h9 tk9 F9 N9 hde9 hne9; (try k_sweep); (try dsimp only))))
  (k_with "RaisableX" => k_dflt (refine' raisable51 ?k1 ?k2 ?k3 ?_; (case k1 => k_in); (case k2 => exact News.get (by k_asm) (List.Mem.head _)); (case k3 => exact rfl)))
  (k_with "leaving ref" => (k_here; k_dflt (first   | (refine' leave_newX2 (hk := by rfl) ?k1 ?k2 ?k3 ?k4 ?k5 ?_; (case k1 => k_asm); (case k2 => k_asm); (case k3 => k_asm); (case k4 => assumption); (case k5 => assumption); k_whole; intro h' R' U'; (try dsimp only at R' U' ⊢))   | (refine' leave_onX ?k1 ?k2 ?k3 ?k4 ?_; (case k3 => assumption); (case k1 => assumption); (case k4 => assumption); (case k2 => assumption); k_whole; intro h' R' U'; (try dsimp only at R' U' ⊢)))))
  (k_with "subscriptTail Name Slice str ref" => (k_here; (with_reducible show wpAny _ _ (subscriptTail _ (Expr.Slice (some _) (some _) none _) (Value.str _ _) (Value.ref _)) _ _ _); (with_reducible rename Fr _ _ _ _ => F'); (with_reducible rename News _ _ _ _ => N'); (refine slice_subS (hs := by with_unfolding_all rfl) (ht := by intro _; with_unfolding_all rfl) (hsz := ?hsz) (s := ⟨_, _, _, _, _⟩) F' N' ?_); (case hsz => (rw [PySem.sizeLine_eq]; omega)); intro _ _ _ _ _ _))
  (k_with "exec While Compare cons nil" => (k_here; k_dflt (refine whl_start 100 ?_)))
  (k_with "WhlIf" => (k_here; k_dflt (first | (refine WhlIf.yes (by assumption) ?_) | (refine WhlIf.no (by assumption) ?_))))
  (k_with "ite" => (k_here; k_dflt (first | (refine ite_pos (by assumption) ?_) | (refine ite_neg (Bool.eq_false_iff.mp (by assumption)) ?_))))
  intro dp un gd cn cs a ccd cl outer A₀ base h₀ L m s Q E B F X N T hk hdp hu hret herr
  replace N : News h₀ L s.heap ((k.dx, lexD w.params k tx at0 tv nl) :: rest) := fun p hp => N p (hs p hp)
  clear hs
  refine wpAny_call ?_
  k_dflt (refine' code_def ?k1 ?k2 ?k3 ?k4 ?k5 ?kA ?kF ?kK ?k6 ?k7 ?k8 ?k9 ?kB ?_ ?c2 ?c3 ?c4 ?c5; (case kA => exact rfl); (case kF => exact rfl); (case kK => first | exact rfl | assumption); (case k1 => k_asm); (case k2 => k_asm); (case k3 => k_asm); (case k4 => k_asm); (case k5 => k_asm); (case k6 => k_is); (case k7 => k_is); (case k8 => k_room); (case k9 => first | exact BindsTo.of_eq rfl | exact binds_K (by k_in) rfl (by k_is) rfl rfl rfl | fail "k_enter: no rule for these arguments"); (case c5 => decide); (case kB => exact locs rfl); (case c2 => exact rfl); (case c3 => exact rfl); (case c4 => exact rfl); k_whole; intro _ _ _ _ _ _ BZ _ _; (try dsimp only); (try k_lift BZ); (try k_fold))
  k_steps
  exact herr _ _ _ _ _ _ _ (by assumption) (by assumption) (raisedX_one (by assumption))
end
end
section
noncomputable def numT (tx : Str) (p : Int) : Bool := isDigitS (chr tx p) || (chr tx p == Str.ofString "." && isDigitS (chr tx (p + 1)))
noncomputable def rawT (tx : Str) (p : Int) : Bool := inS (Str.ofString "rR") (chr tx p) && ([Str.ofString "'", Str.ofString "\""].any (· == chr tx (p + 1)))
noncomputable def wrdT (tx : Str) (p : Int) : Bool := isLetterS (chr tx p) || chr tx p == Str.ofString "."
noncomputable def quoT (tx : Str) (p : Int) : Bool := chr tx p == Str.ofString "\"" || chr tx p == Str.ofString "'"
noncomputable def rawF (tx : Str) (i : Int) : Prop := (chr tx (i + 2) == Str.ofString "-") = false ∧ (chr tx (i + 2) == Str.ofString "") = false ∧ (Builtin.Str.occurrences (Str.ofString "([{") (chr tx (i + 2)) 0 (Str.ofString "([{").length 1).isEmpty = true
noncomputable def lexAt (tx : Str) (p : Int) : Option (Str × TV × Int) :=
  if (chr tx p == Str.ofString "") = true then some (Str.ofString "eof", .str (Str.ofString ""), p)
  else if numT tx p = true then (nmlR tx p).map (fun r => (Str.ofString "num", r.1, r.2))
  else if rawT tx p = true then none
  else if wrdT tx p = true then some (wordK tx p, .str (subS tx p (scan isNameS tx p)), scan isNameS tx p)
  else if quoT tx p = true then some (Str.ofString "str", .str (quoV tx p), quoE tx p)
  else if (chr tx p == Str.ofString "`") = true then some (Str.ofString "id", .str (quoV tx p), quoE tx p)
  else if (chr tx p == Str.ofString "%") = true then (if (chr tx (scan pctP tx (p + 1)) == Str.ofString "%") = true then some (Str.ofString "op", .str (subS tx p (scan pctP tx (p + 1) + 1)), scan pctP tx (p + 1) + 1) else none)
  else (opT tx p).map (fun o => (Str.ofString "op", .str (opV o), opE p o))
/-- the quotes at a place, as the pieces have them -/
structure GoodP (tx : Str) (p : Int) : Prop where
  lo : 0 ≤ p
  hi : p ≤ tx.length
  quo : quoT tx p = true ∨ (chr tx p == Str.ofString "`") = true → (quo1 tx p ∨ quo3 tx p)
  tick : (chr tx p == Str.ofString "`") = true → (quoV tx p == Str.ofString "") = false
  raw : rawT tx p = true → rawF tx p
noncomputable def JMark : Prop := True
theorem join_test {M : Model} {A : Around} {X : Sem Bool} {T Fq : Shared → Prop} {E : Value → Shared → Prop} {s : Shared} {h₀ : Heap} {L : Addr} {m : Str → Option Value} {news : List (Addr × Obj)} (b₀ : Bool) (F : Fr h₀ L s.heap m) (N : News h₀ L s.heap news)
    (h1 : wpAny M A X (fun b s' => b = b₀ ∧ ∃ h' tk', s' = { s with heap := h', toks := tk' } ∧ Fr h₀ L h' m ∧ News h₀ L h' news) E s)
    (h2 : ∀ h' tk', Fr h₀ L h' m → News h₀ L h' news → if b₀ = true then T { s with heap := h', toks := tk' } else Fq { s with heap := h', toks := tk' }) : wpAny M A X (fun b s' => if b = true then T s' else Fq s') E s :=
  wpAny_mono h1 (fun b s' ⟨e, h', tk', es, F', N'⟩ => by
    subst e es
    exact h2 h' tk' F' N') (fun _ _ x => x)
theorem lex_eof {tx : Str} {p : Int} (h : (chr tx p == Str.ofString "") = true) : lexAt tx p = some (Str.ofString "eof", .str (Str.ofString ""), p) := if_pos h
theorem lex_num {tx : Str} {p : Int} (h : (chr tx p == Str.ofString "") = false) (h1 : numT tx p = true) : lexAt tx p = (nmlR tx p).map (fun r => (Str.ofString "num", r.1, r.2)) := by
  unfold lexAt; rw [if_neg (Bool.eq_false_iff.mp h), if_pos h1]
noncomputable def lexB (tx : Str) (p : Int) : Option (Str × TV × Int) :=
  if rawT tx p = true then none
  else if wrdT tx p = true then some (wordK tx p, .str (subS tx p (scan isNameS tx p)), scan isNameS tx p)
  else if quoT tx p = true then some (Str.ofString "str", .str (quoV tx p), quoE tx p)
  else if (chr tx p == Str.ofString "`") = true then some (Str.ofString "id", .str (quoV tx p), quoE tx p)
  else if (chr tx p == Str.ofString "%") = true then (if (chr tx (scan pctP tx (p + 1)) == Str.ofString "%") = true then some (Str.ofString "op", .str (subS tx p (scan pctP tx (p + 1) + 1)), scan pctP tx (p + 1) + 1) else none)
  else (opT tx p).map (fun o => (Str.ofString "op", .str (opV o), opE p o))
theorem lex_B {tx : Str} {p : Int} (h : (chr tx p == Str.ofString "") = false) (h1 : numT tx p = false) : lexAt tx p = lexB tx p := by
  unfold lexAt lexB; rw [if_neg (Bool.eq_false_iff.mp h), if_neg (Bool.eq_false_iff.mp h1)]
theorem lex_raw {tx : Str} {p : Int} (h : rawT tx p = true) : lexB tx p = none := if_pos h
theorem lex_wrd {tx : Str} {p : Int} (h : rawT tx p = false) (h1 : wrdT tx p = true) : lexB tx p = some (wordK tx p, .str (subS tx p (scan isNameS tx p)), scan isNameS tx p) := by
  unfold lexB; rw [if_neg (Bool.eq_false_iff.mp h), if_pos h1]
theorem lex_quo {tx : Str} {p : Int} (h : rawT tx p = false) (h1 : wrdT tx p = false) (h2 : quoT tx p = true) : lexB tx p = some (Str.ofString "str", .str (quoV tx p), quoE tx p) := by
  unfold lexB; rw [if_neg (Bool.eq_false_iff.mp h), if_neg (Bool.eq_false_iff.mp h1), if_pos h2]
theorem lex_tick {tx : Str} {p : Int} (h : rawT tx p = false) (h1 : wrdT tx p = false) (h2 : quoT tx p = false) (h3 : (chr tx p == Str.ofString "`") = true) : lexB tx p = some (Str.ofString "id", .str (quoV tx p), quoE tx p) := by
  unfold lexB; rw [if_neg (Bool.eq_false_iff.mp h), if_neg (Bool.eq_false_iff.mp h1), if_neg (Bool.eq_false_iff.mp h2), if_pos h3]
theorem lex_pct {tx : Str} {p : Int} (h : rawT tx p = false) (h1 : wrdT tx p = false) (h2 : quoT tx p = false) (h3 : (chr tx p == Str.ofString "`") = false) (h4 : (chr tx p == Str.ofString "%") = true) (h5 : (chr tx (scan pctP tx (p + 1)) == Str.ofString "%") = true) :
    lexB tx p = some (Str.ofString "op", .str (subS tx p (scan pctP tx (p + 1) + 1)), scan pctP tx (p + 1) + 1) := by
  unfold lexB; rw [if_neg (Bool.eq_false_iff.mp h), if_neg (Bool.eq_false_iff.mp h1), if_neg (Bool.eq_false_iff.mp h2), if_neg (Bool.eq_false_iff.mp h3), if_pos h4, if_pos h5]
theorem lex_pctx {tx : Str} {p : Int} (h : rawT tx p = false) (h1 : wrdT tx p = false) (h2 : quoT tx p = false) (h3 : (chr tx p == Str.ofString "`") = false) (h4 : (chr tx p == Str.ofString "%") = true) (h5 : (chr tx (scan pctP tx (p + 1)) == Str.ofString "%") = false) :
    lexB tx p = none := by
  unfold lexB; rw [if_neg (Bool.eq_false_iff.mp h), if_neg (Bool.eq_false_iff.mp h1), if_neg (Bool.eq_false_iff.mp h2), if_neg (Bool.eq_false_iff.mp h3), if_pos h4, if_neg (Bool.eq_false_iff.mp h5)]
theorem lex_op {tx : Str} {p : Int} (h : rawT tx p = false) (h1 : wrdT tx p = false) (h2 : quoT tx p = false) (h3 : (chr tx p == Str.ofString "`") = false) (h4 : (chr tx p == Str.ofString "%") = false) :
    lexB tx p = (opT tx p).map (fun o => (Str.ofString "op", .str (opV o), opE p o)) := by
  unfold lexB; rw [if_neg (Bool.eq_false_iff.mp h), if_neg (Bool.eq_false_iff.mp h1), if_neg (Bool.eq_false_iff.mp h2), if_neg (Bool.eq_false_iff.mp h3), if_neg (Bool.eq_false_iff.mp h4)]
theorem news_tail {h₀ h : Heap} {L : Addr} {a : Addr × Obj} {rest : List (Addr × Obj)} (N : News h₀ L h (a :: rest)) : News h₀ L h rest := fun p hp => N p (.tail _ hp)
end
section
section
variable {w : World} {loose : List Str} {mean : ExcName → Option Value} {mg mb : Str → Option Value}
theorem s_next_token {k : LexK} {tx : Str} {at0 p : Int} {tv : Tok} {nl nl' : Bool} {q : Nat → Tok} {rest news : List (Addr × Obj)} (hx : (k.x, instObj 297 k.dx) ∈ rest) (hkt : (k.kt, keysT q) ∈ rest) (hne : ∀ p ∈ rest, p.1 ≠ k.dx) (hlen : tx.length ≤ 1000) (h0 : 0 ≤ at0) (hsk : skipE tx at0 false = (p, nl')) (hg : GoodP tx p)
    (hs : ∀ p ∈ ((k.dx, lexD w.params k tx at0 tv nl) :: rest), p ∈ news) :
    Spec w loose mean mg mb 203 [.ref k.x] 20 news (fun h₀ L m s Q => ∀ kind tv en, lexAt tx p = some (kind, tv, en) → GivesVal w.params k tx kind tv p en nl' rest h₀ L m s Q)
      (fun base l h₀ L m s E => lexAt tx p = none → Fails w.params p rest base l h₀ L m s E) := by
  unfold Spec Fails GivesVal GivesTok
  k_fill
  k_with_none
  (k_with "call ref" => (k_here; (with_reducible show wpAny _ _ (call (Value.ref 189) _) _ _ _); k_dflt ((with_unfolding_all refine' s_char ?q0 ?q1 ?q2 ?k1 ?k2 ?k3 ?k4 ?k5 ?kK ?kd ?ku ?_ ?ke); (case k1 => k_asm); (case k2 => k_asm); (case k3 => k_asm); (case k4 => k_asm); (case k5 => k_asm); (case q0 => k_mem); (case q1 => k_mem); (case q2 => omega); (case kK => first | exact rfl | assumption); (case kd => k_room); (case ku => ((try simp only [units_in1, units_deeper, Around.mark_units, units_caller]); (try dsimp only [ktrTop]); omega)); (case ke => exact trivial); k_whole; intro t9 h9 tk9 F9 N9; (try k_sweep); (try dsimp only); (try k_fold))))
  (k_with "call ref" => (k_here; (with_reducible show wpAny _ _ (call (Value.ref 139) _) _ _ _); k_dflt ((with_unfolding_all refine' s_is_digit  ?k1 ?k2 ?k3 ?k4 ?k5 ?kK ?kd ?ku ?_ ?ke); (case k1 => k_asm); (case k2 => k_asm); (case k3 => k_asm); (case k4 => k_asm); (case k5 => k_asm);  (case kK => first | exact rfl | assumption); (case kd => k_room); (case ku => ((try simp only [units_in1, units_deeper, Around.mark_units, units_caller]); (try dsimp only [ktrTop]); omega)); (case ke => exact trivial); k_whole; intro t9 h9 tk9 F9 N9; (try k_sweep); (try dsimp only); (try k_fold))))
  (k_with "call ref" => (k_here; (with_reducible show wpAny _ _ (call (Value.ref 132) _) _ _ _); k_dflt ((with_unfolding_all refine' s_is_letter  ?k1 ?k2 ?k3 ?k4 ?k5 ?kK ?kd ?ku ?_ ?ke); (case k1 => k_asm); (case k2 => k_asm); (case k3 => k_asm); (case k4 => k_asm); (case k5 => k_asm);  (case kK => first | exact rfl | assumption); (case kd => k_room); (case ku => ((try simp only [units_in1, units_deeper, Around.mark_units, units_caller]); (try dsimp only [ktrTop]); omega)); (case ke => exact trivial); k_whole; intro t9 h9 tk9 F9 N9; (try k_sweep); (try dsimp only); (try k_fold))))
  (k_with "call ref" => (k_here; (with_reducible show wpAny _ _ (call (Value.ref 210) _) _ _ _); k_dflt ((with_unfolding_all refine' s_skip1 ?q0 ?q1 ?q2 ?q3 ?q4 ?k1 ?k2 ?k3 ?k4 ?k5 ?kK ?kd ?ku ?_ ?ke); (case k1 => k_asm); (case k2 => k_asm); (case k3 => k_asm); (case k4 => k_asm); (case k5 => k_asm); (case q0 => k_mem); (case q1 => k_all); (case q2 => omega); (case q3 => omega); (case q4 => assumption); (case kK => first | exact rfl | assumption); (case kd => k_room); (case ku => ((try simp only [units_in1, units_deeper, Around.mark_units, units_caller]); (try dsimp only [ktrTop]); omega)); (case ke => exact trivial); k_whole; intro te9 h9 tk9 F9 N9; (try k_sweep); (try dsimp only); (try k_fold))))
  (k_with "call ref" => (k_here; (with_reducible show wpAny _ _ (call (Value.ref 245) _) _ _ _); k_dflt ((with_unfolding_all refine' s_numeral ?q0 ?q1 ?q2 ?q3 ?q4 ?q5 ?k1 ?k2 ?k3 ?k4 ?k5 ?kK ?kd ?ku ?_ ?_); (case k1 => k_asm); (case k2 => k_asm); (case k3 => k_asm); (case k4 => k_asm); (case k5 => k_asm); (case q0 => k_mem); (case q1 => k_all); (case q2 => omega); (case q3 => omega); (case q4 => omega); (case q5 => (refine List.forall_mem_cons.mpr ⟨?qa, ?qb⟩; (case qa => k_mem); (case qb => (intro p9 hp9; first | exact hp9 | exact .tail _ hp9 | exact .tail _ (.tail _ hp9) | exact .tail _ (.tail _ (.tail _ hp9)) | exact .tail _ (.tail _ (.tail _ (.tail _ hp9))))))); (case kK => first | exact rfl | assumption); (case kd => k_room); (case ku => ((try simp only [units_in1, units_deeper, Around.mark_units, units_caller]); (try dsimp only [ktrTop]); omega));  k_whole; rotate_left; (intro hb9 e9 dx9 c9 kd9 h9 g9 tk9 F9 U9 R9; (try dsimp only)); rotate_left; intro tv9 en9 hr9 v9 add9 hv9 ha9 c9 t9 h9 tk9 F9 N9 ne1 ne2; (try k_sweep); (try dsimp only); (try k_fold))))
  (k_with "call ref" => (k_here; (with_reducible show wpAny _ _ (call (Value.ref 294) _) _ _ _); k_dflt ((with_unfolding_all refine' s_raw ?q0 ?q1 ?q2 ?q3 ?q4 ?q5 ?q6 ?q7 ?k1 ?k2 ?k3 ?k4 ?k5 ?kK ?kd ?ku ?_ ?_); (case k1 => k_asm); (case k2 => k_asm); (case k3 => k_asm); (case k4 => k_asm); (case k5 => k_asm); (case q0 => k_mem); (case q1 => k_all); (case q2 => omega); (case q3 => omega); (case q4 => exact (GoodP.raw (by assumption) (by assumption)).1); (case q5 => exact (GoodP.raw (by assumption) (by assumption)).2.1); (case q6 => exact (GoodP.raw (by assumption) (by assumption)).2.2); (case q7 => (refine List.forall_mem_cons.mpr ⟨?qa, ?qb⟩; (case qa => k_mem); (case qb => (intro p9 hp9; first | exact hp9 | exact .tail _ hp9 | exact .tail _ (.tail _ hp9) | exact .tail _ (.tail _ (.tail _ hp9)) | exact .tail _ (.tail _ (.tail _ (.tail _ hp9))))))); (case kK => first | exact rfl | assumption); (case kd => k_room); (case ku => ((try simp only [units_in1, units_deeper, Around.mark_units, units_caller]); (try dsimp only [ktrTop]); omega));  k_whole; rotate_left; (intro e9 dx9 c9 kd9 h9 g9 tk9 F9 U9 R9; (try dsimp only)); rotate_left; exact trivial; (try k_sweep); (try dsimp only); (try k_fold))))
  (k_with "call ref" => (k_here; (with_reducible show wpAny _ _ (call (Value.ref 217) _) _ _ _); k_dflt ((with_unfolding_all refine' s_word ?q0 ?q1 ?q2 ?q3 ?q4 ?k1 ?k2 ?k3 ?k4 ?k5 ?kK ?kd ?ku ?_ ?ke); (case k1 => k_asm); (case k2 => k_asm); (case k3 => k_asm); (case k4 => k_asm); (case k5 => k_asm); (case q0 => k_mem); (case q1 => k_mem); (case q2 => k_all); (case q3 => omega); (case q4 => omega); (case kK => first | exact rfl | assumption); (case kd => k_room); (case ku => ((try simp only [units_in1, units_deeper, Around.mark_units, units_caller]); (try dsimp only [ktrTop]); omega)); (case ke => exact trivial); k_whole; intro tw9 c9 t9 h9 tk9 F9 N9 ne1 ne2; (try k_sweep); (try dsimp only); (try k_fold))))
  (k_with "call ref" => (k_here; (with_reducible show wpAny _ _ (call (Value.ref 273) _) _ _ _); k_dflt ((with_unfolding_all refine' s_quoted ?q0 ?q1 ?q2 ?q3 ?q4 ?q5 ?k1 ?k2 ?k3 ?k4 ?k5 ?kK ?kd ?ku ?_ ?ke); (case k1 => k_asm); (case k2 => k_asm); (case k3 => k_asm); (case k4 => k_asm); (case k5 => k_asm); (case q0 => k_mem); (case q1 => k_all); (case q2 => omega); (case q3 => omega); (case q4 => first | exact GoodP.quo (by assumption) (Or.inl (by assumption)) | exact GoodP.quo (by assumption) (Or.inr (by assumption))); (case q5 => (refine List.forall_mem_cons.mpr ⟨?qa, ?qb⟩; (case qa => k_mem); (case qb => (intro p9 hp9; first | exact hp9 | exact .tail _ hp9 | exact .tail _ (.tail _ hp9) | exact .tail _ (.tail _ (.tail _ hp9)) | exact .tail _ (.tail _ (.tail _ (.tail _ hp9))))))); (case kK => first | exact rfl | assumption); (case kd => k_room); (case ku => ((try simp only [units_in1, units_deeper, Around.mark_units, units_caller]); (try dsimp only [ktrTop]); omega)); (case ke => exact trivial); k_whole; intro D9 tv9 te9 h9 tk9 F9 N9; (try k_sweep); (try dsimp only); (try k_fold))))
  (k_with "call ref" => (k_here; (with_reducible show wpAny _ _ (call (Value.ref 196) _) _ _ _); k_dflt ((with_unfolding_all refine' s_tokenS ?q0 ?q1 ?q2 ?q3 ?k1 ?k2 ?k3 ?k4 ?k5 ?kK ?kd ?ku ?_ ?ke); (case k1 => k_asm); (case k2 => k_asm); (case k3 => k_asm); (case k4 => k_asm); (case k5 => k_asm); (case q0 => assumption); (case q1 => k_all); (case q2 => first | assumption | k_handed); (case q3 => (refine List.forall_mem_cons.mpr ⟨?qa, ?qb⟩; (case qa => k_mem); (case qb => (intro p9 hp9; first | exact hp9 | exact .tail _ hp9 | exact .tail _ (.tail _ hp9) | exact .tail _ (.tail _ (.tail _ hp9)) | exact .tail _ (.tail _ (.tail _ (.tail _ hp9))))))); (case kK => first | exact rfl | assumption); (case kd => k_room); (case ku => ((try simp only [units_in1, units_deeper, Around.mark_units, units_caller]); (try dsimp only [ktrTop]); omega)); (case ke => exact trivial); k_whole; intro c9 t9 h9 tk9 F9 N9 ne1 ne2; (try k_sweep); (try dsimp only); (try k_fold))))
  (k_with "call ref" => (k_here; (with_reducible show wpAny _ _ (call (Value.ref 224) _) _ _ _); k_dflt ((with_unfolding_all refine' s_percent ?q0 ?q1 ?q2 ?q3 ?k1 ?k2 ?k3 ?k4 ?k5 ?kK ?kd ?ku ?_ ?_); (case k1 => k_asm); (case k2 => k_asm); (case k3 => k_asm); (case k4 => k_asm); (case k5 => k_asm); (case q0 => k_mem); (case q1 => k_all); (case q2 => omega); (case q3 => omega); (case kK => first | exact rfl | assumption); (case kd => k_room); (case ku => ((try simp only [units_in1, units_deeper, Around.mark_units, units_caller]); (try dsimp only [ktrTop]); omega));  k_whole; rotate_left; (intro hb9 e9 dx9 c9 kd9 h9 g9 tk9 F9 U9 R9; (try dsimp only)); rotate_left; intro tw9 hr9 c9 t9 h9 tk9 F9 N9 ne1 ne2; (try k_sweep); (try dsimp only); (try k_fold))))
  (k_with "call ref" => (k_here; (with_reducible show wpAny _ _ (call (Value.ref 231) _) _ _ _); k_dflt ((with_unfolding_all refine' s_operator ?q0 ?q1 ?q2 ?q3 ?k1 ?k2 ?k3 ?k4 ?k5 ?kK ?kd ?ku ?_ ?_); (case k1 => k_asm); (case k2 => k_asm); (case k3 => k_asm); (case k4 => k_asm); (case k5 => k_asm); (case q0 => k_mem); (case q1 => k_all); (case q2 => omega); (case q3 => omega); (case kK => first | exact rfl | assumption); (case kd => k_room); (case ku => ((try simp only [units_in1, units_deeper, Around.mark_units, units_caller]); (try dsimp only [ktrTop]); omega));  k_whole; rotate_left; (intro hb9 e9 dx9 c9 kd9 h9 g9 tk9 F9 U9 R9; (try dsimp only)); rotate_left; intro tw9 o9 hr9 c9 t9 h9 tk9 F9 N9 ne1 ne2; (try k_sweep); (try dsimp only); (try k_fold))))
  (k_with "exec Raise some none" => (k_here; k_dflt (refine' Raise_ownX ?h ?_; (case h => exact rfl); k_whole)))
  (k_with "call ref" => (k_here; (with_reducible show wpAny _ _ (call (Value.ref 51) _) _ _ _); k_dflt ((with_unfolding_all refine' s_exc ?k1 ?k2 ?k3 ?k4 ?k5 ?kK ?kd ?ku ?_ ?ke); (case k1 => k_asm); (case k2 => k_asm); (case k3 => k_asm); (case k4 => k_asm); (case k5 => k_asm); (case kK => first | exact rfl | assumption); (case kd => k_room); (case ku => ((try simp only [units_in1, units_deeper, Around.mark_units, units_caller]); (try dsimp only [ktrTop]); omega)); (case ke => exact trivial); k_whole; intro e9 dx9 t9 c9 h9 tk9 F9 N9 hde9 hne9; (try k_sweep); (try dsimp only))))
  (k_with "RaisableX" => k_dflt (refine' raisable51 ?k1 ?k2 ?k3 ?_; (case k1 => k_in); (case k2 => exact News.get (by k_asm) (List.Mem.head _)); (case k3 => exact rfl)))
  (k_with "leaving ref" => (k_here; k_dflt (first   | (refine' leave_newX2 (hk := by rfl) ?k1 ?k2 ?k3 ?k4 ?k5 ?_; (case k1 => k_asm); (case k2 => k_asm); (case k3 => k_asm); (case k4 => assumption); (case k5 => assumption); k_whole; intro h' R' U'; (try dsimp only at R' U' ⊢))   | (refine' leave_onX ?k1 ?k2 ?k3 ?k4 ?_; (case k3 => assumption); (case k1 => assumption); (case k4 => assumption); (case k2 => assumption); k_whole; intro h' R' U'; (try dsimp only at R' U' ⊢)))))
  (k_with "isTrue BoolOp" => (k_here; (rename JMark => hJ); refine' Halt.mk ?_))
  intro dp un gd cn cs a ccd cl outer A₀ base h₀ L m s Q E B F X N T hk hdp hu hret herr
  replace N : News h₀ L s.heap ((k.dx, lexD w.params k tx at0 tv nl) :: rest) := fun p hp => N p (hs p hp)
  clear hs
  have hp0 := hg.lo
  have hp1 := hg.hi
  have hJ : JMark := trivial
  refine wpAny_call ?_
  k_dflt (refine' code_def ?k1 ?k2 ?k3 ?k4 ?k5 ?kA ?kF ?kK ?k6 ?k7 ?k8 ?k9 ?kB ?_ ?c2 ?c3 ?c4 ?c5; (case kA => exact rfl); (case kF => exact rfl); (case kK => first | exact rfl | assumption); (case k1 => k_asm); (case k2 => k_asm); (case k3 => k_asm); (case k4 => k_asm); (case k5 => k_asm); (case k6 => k_is); (case k7 => k_is); (case k8 => k_room); (case k9 => first | exact BindsTo.of_eq rfl | exact binds_K (by k_in) rfl (by k_is) rfl rfl rfl | fail "k_enter: no rule for these arguments"); (case c5 => decide); (case kB => exact locs rfl); (case c2 => exact rfl); (case c3 => exact rfl); (case c4 => exact rfl); k_whole; intro _ _ _ _ _ _ BZ _ _; (try dsimp only); (try k_lift BZ); (try k_fold))
  k_steps
  · exact hret _ _ _ (lex_eof (by assumption)) _ [] ⟨rfl, _, rfl⟩ (fun _ h => nomatch h) _ _ _ _ (by assumption) (by assumption) (by assumption) (by assumption)
  have c0 := (by assumption : (chr tx p == Str.ofString "") = false)
  unfold Halt
  rename JMark => hJ; clear hJ
  refine join_test (numT tx p) (by assumption) (by assumption) ?_ ?_
  · k_steps
    all_goals first
      | assumption
      | exact news_tail (by assumption)
      | (simp only [numT, rawT, wrdT, quoT, inS, *, Bool.not_true, Bool.not_false, Bool.and_true, Bool.or_true, Bool.true_and, Bool.true_or, Bool.false_and, Bool.false_or, Bool.or_false, Bool.and_false])
  intro h9 tk9 F9 N9
  have hJ : JMark := trivial
  k_steps
  · have e := (lex_num c0 (by assumption)).trans (congrArg (Option.map _) (by assumption : nmlR tx p = some _))
    exact hret _ _ _ e _ _ (by assumption) (by assumption) _ _ _ _ (by assumption) (by assumption) (by assumption) (by assumption)
  · have e := (lex_num c0 (by assumption)).trans (congrArg (Option.map _) (by assumption : nmlR tx p = none))
    exact herr e _ _ _ _ _ _ _ (by assumption) (by assumption) (by assumption)
  have c1 := lex_B c0 (by assumption : numT tx p = false)
  rw [c1] at hret herr
  unfold Halt
  rename JMark => hJ; clear hJ
  refine join_test (rawT tx p) (by assumption) (by assumption) ?_ ?_
  · k_steps
    all_goals first
      | assumption
      | exact news_tail (by assumption)
      | (simp only [numT, rawT, wrdT, quoT, inS, *, Bool.not_true, Bool.not_false, Bool.and_true, Bool.or_true, Bool.true_and, Bool.true_or, Bool.false_and, Bool.false_or, Bool.or_false, Bool.and_false])
  intro h9 tk9 F9 N9
  have hJ : JMark := trivial
  k_steps
  · exact herr (lex_raw (by assumption)) _ _ _ _ _ _ _ (by assumption) (by assumption) (by assumption)
  have c2 := (by assumption : rawT tx p = false)
  unfold Halt
  rename JMark => hJ; clear hJ
  refine join_test (wrdT tx p) (by assumption) (by assumption) ?_ ?_
  · k_steps
    all_goals first
      | assumption
      | exact news_tail (by assumption)
      | (simp only [numT, rawT, wrdT, quoT, inS, *, Bool.not_true, Bool.not_false, Bool.and_true, Bool.or_true, Bool.true_and, Bool.true_or, Bool.false_and, Bool.false_or, Bool.or_false, Bool.and_false])
  intro h9 tk9 F9 N9
  have hJ : JMark := trivial
  k_steps
  · exact hret _ _ _ (lex_wrd c2 (by assumption)) _ [] ⟨rfl, _, rfl⟩ (fun _ h => nomatch h) _ _ _ _ (by assumption) (by assumption) (by assumption) (by assumption)
  have c3 := (by assumption : wrdT tx p = false)
  unfold Halt
  rename JMark => hJ; clear hJ
  refine join_test (quoT tx p) (by assumption) (by assumption) ?_ ?_
  · k_steps
    all_goals first
      | assumption
      | exact news_tail (by assumption)
      | (simp only [numT, rawT, wrdT, quoT, inS, *, Bool.not_true, Bool.not_false, Bool.and_true, Bool.or_true, Bool.true_and, Bool.true_or, Bool.false_and, Bool.false_or, Bool.or_false, Bool.and_false])
  intro h9 tk9 F9 N9
  have hJ : JMark := trivial
  k_steps
  · exact hret _ _ _ (lex_quo c2 c3 (by assumption)) _ [] ⟨rfl, _, rfl⟩ (fun _ h => nomatch h) _ _ _ _ (by assumption) (by assumption) (by assumption) (by assumption)
  · have e := hg.tick (by assumption)
    rw [(by assumption : (quoV tx p == Str.ofString "") = true)] at e
    cases e
  · exact hret _ _ _ (lex_tick c2 c3 (by assumption) (by assumption)) _ [] ⟨rfl, _, rfl⟩ (fun _ h => nomatch h) _ _ _ _ (by assumption) (by assumption) (by assumption) (by assumption)
  · exact hret _ _ _ (lex_pct c2 c3 (by assumption) (by assumption) (by assumption) (by assumption)) _ [] ⟨rfl, _, rfl⟩ (fun _ h => nomatch h) _ _ _ _ (by assumption) (by assumption) (by assumption) (by assumption)
  · exact herr (lex_pctx c2 c3 (by assumption) (by assumption) (by assumption) (by assumption)) _ _ _ _ _ _ _ (by assumption) (by assumption) (by assumption)
  · have e := (lex_op c2 c3 (by assumption) (by assumption) (by assumption)).trans (congrArg (Option.map _) (by assumption : opT tx p = some _))
    exact hret _ _ _ e _ [] ⟨rfl, _, rfl⟩ (fun _ h => nomatch h) _ _ _ _ (by assumption) (by assumption) (by assumption) (by assumption)
  · have e := (lex_op c2 c3 (by assumption) (by assumption) (by assumption)).trans (congrArg (Option.map _) (by assumption : opT tx p = none))
    exact herr e _ _ _ _ _ _ _ (by assumption) (by assumption) (by assumption)
end
end
section
section
open PySem.Calls
variable {M : Model} {A : Around} {E : Value → Shared → Prop} {s : Shared}
theorem landsX2 {base : Heap} {l : List Env} {e dx : Addr} {cls a0 : Value} {Q : Unit → Shared → Prop} (hh : Heap.FlyingW base l e cls a0 s.heap) (hdi : DictIs s.heap e dx)
    (hQ : ∀ h', Heap.FlyingW base l e cls a0 h' → s.heap.UpToSlots h' → DictIs h' e dx → Q () { s with heap := h' }) : wpAny M A (setFlight (.ref e) none) Q E s := by
  obtain ⟨hkb, f2, hl, ht⟩ := hh
  obtain ⟨oe, vs, T, oT, ts, he, hcls, hd, h1, hnT, hTe, hT, hdT, h3⟩ := ht
  obtain ⟨oe', he', hdx⟩ := hdi
  obtain rfl := Option.some.inj (he.symm.trans he')
  have hsz3 : 3 < ts.size := (Array.getElem?_eq_some_iff.mp h3).1
  have other : ∀ b, b ≠ T → (s.heap.update T (Obj.mapFields (·.setIfInBounds 3 ((none : Option Addr).elim Value.none fun f => rawInt f)))).get? b = s.heap.get? b :=
    fun b hb => Heap.get?_update_other _ _ (Ne.symm hb)
  have noRecord : ∀ b o, s.heap.get? b = some o → (∀ vs, o.data ≠ .fields vs) → b ≠ T := fun b o hb hnf q => by
    rw [q, hT] at hb; injection hb with hb; subst hb; exact hnf ts hdT
  unfold setFlight
  refine wpAny_bind (wpAny_field he hd h1 ?_)
  rw [if_pos (show (Value.ref T != Value.none) = true from by simp)]
  refine wpAny_setField hT hdT hsz3 (hQ _ ⟨fun b o hbo => (other b fun q => by rw [q, hnT] at hbo; cases hbo).trans (hkb b o hbo), f2,
    hl.of_keeps fun b o hb hnf => ⟨o, (other b (noRecord b o hb hnf)).trans hb, rfl⟩, ?_⟩ (fun b o hb hnf => ⟨o.slots, (other b (noRecord b o hb hnf)).trans hb⟩) ⟨oe, (other e (Ne.symm hTe)).trans he, hdx⟩)
  exact ⟨oe, vs, T, _, _, (other e (Ne.symm hTe)).trans he, hcls, hd, h1, hnT, hTe, Heap.get?_update_self _ hT (Obj.isFreed_of_fields (Obj.data_mapFields hdT _)), Obj.data_mapFields hdT _, by simp [hsz3]⟩
end
section
open PySem.Calls
variable {w : World} {A₀ : Around} {E : Value → Shared → Prop} {s' : Shared} {h₀ h : Heap} {outer : List Env} {L a e dx : Addr} {m : Str → Option Value} {name : Str} {scope : Scope} {cd : Value}
  {n : Str} {b₀ : Stmt} {suite : List Stmt} {pos np : Pos} {rest : List ExceptHandler} {Q : Flow → Shared → Prop} {news : List (Addr × Obj)} {p : Program} {loose : List Str} {mean : ExcName → Option Value} {mg mb : Str → Option Value} {x : Str}
/-- the clause takes ReadError, its own dict kept -/
theorem caught_X (hst : A₀.frames = some outer) (F : Fr h₀ L h m) (hsm : h.UpToSlots s'.heap) (R : RaisedX h₀ (envOf name scope L a cd :: outer) e dx news s'.heap)
    (X : (hd.heap_39 w.params).In h₀) (T : TopRead p loose mg mb h₀) (ex : nsIn (hd.heap_39 w.params) mainGlobals x = some (some (.ref 51)))
    (k : ∀ h' oe tk, Fr h₀ L h' (fun y => if y = n then some (.ref e) else m y) → News h₀ L h' ((e, oe) :: news) → oe.cls = .ref 51 → oe.dict = some dx → (∃ ws, oe.data = .fields ws) → (∀ env ∈ outer, ∀ b, env.frame = some b → ∀ q ∈ news, q.1 ≠ b) →
      (∀ b o, b ≠ L → h.get? b = some o → (∀ vs, o.data ≠ .fields vs) → ∃ sl, h'.get? b = some { o with slots := sl }) →
      wpAny (model PySem.Challenge.rw_ov0064_01.row.prog w) ((A₀.deeper (envOf name scope L a cd)).mark (some (.ref e))) (execs (b₀ :: suite) (envOf name scope L a cd))
        (fun f s₄ => wpAny (model PySem.Challenge.rw_ov0064_01.row.prog w) (A₀.deeper (envOf name scope L a cd)) (do bindName (envOf name scope L a cd) n .none; unbindBehindTheSuite (envOf name scope L a cd) n pos) (fun _ s₅ => Q f s₅) E s₄)
        (AsSuiteRaised (model PySem.Challenge.rw_ov0064_01.row.prog w) ((A₀.deeper (envOf name scope L a cd)).mark (some (.ref e))) (envOf name scope L a cd) n pos (notedBy (model PySem.Challenge.rw_ov0064_01.row.prog w) ((A₀.deeper (envOf name scope L a cd)).mark (some (.ref e))) (envOf name scope L a cd) (cameBackBy (model PySem.Challenge.rw_ov0064_01.row.prog w) (A₀.deeper (envOf name scope L a cd)) (envOf name scope L a cd) E)))
        { s' with heap := h', toks := tk })
    (hk : scope.kind = .function) (hlo : (envOf name scope L a cd).kindOf n = some .local) (hx : (envOf name scope L a cd).kindOf x = some .globalImplicit) (hd' : (x == ("__debug__" : Str)) = false) :
    wpAny (model PySem.Challenge.rw_ov0064_01.row.prog w) (A₀.deeper (envOf name scope L a cd)) (noteFrame (.ref e) (envOf name scope L a cd))
      (fun _ s₂ => wpAny (model PySem.Challenge.rw_ov0064_01.row.prog w) (A₀.deeper (envOf name scope L a cd)) (setFlight (.ref e) none) (fun _ s₃ =>
        wpAny (model PySem.Challenge.rw_ov0064_01.row.prog w) (A₀.deeper (envOf name scope L a cd)) (handleBy (.ref e) (envOf name scope L a cd) (.ExceptHandler (some (.Name x np)) (some n) (b₀ :: suite) pos :: rest)) Q E s₃) E s₂) E s' := by
  obtain ⟨B, a0, hB, hl, ⟨f1, f2, f3, f4⟩, hdi⟩ := R
  have hL : B.get? L = none := by
    obtain ⟨_, ⟨L', _, hf, hn', _⟩, _⟩ := f3
    obtain rfl : L = L' := Option.some.inj hf
    exact hn'
  have hout : ∀ env ∈ outer, ∀ b, env.frame = some b → B.get? b = none := fun env he b hb => (f3.mem (List.mem_filterMap.mpr ⟨env, .tail _ he, hb⟩)).1
  refine noteOnX (Around.frames_deeper hst) f3 rfl f4 f1 f2 hdi fun h₄ hN hdi₄ => ?_
  obtain ⟨n1, n2, n3, n4⟩ := hN
  refine landsX ⟨n1, f2, n2, n3⟩ hdi₄ fun h₅ hfl hup hdi₅ => ?_
  have n4' : Heap.UpToSlots s'.heap h₄ := n4
  have hsm₅ := n4'.trans hup
  have hheld' := flyingW_base hB hfl
  have F₅ := F.of_stays hheld'.1 (hsm.trans hsm₅)
  obtain ⟨ob, hob, hobc⟩ := hheld'.there
  have hC := F₅.keep _ _ (X 51 (PySem.excClassObj (Str.ofString "ReadError") (Str.ofString "ReadError") 51 50 [.ref 31] [.ref 31, .type "Exception", .type "BaseException", .type "object"] true [] [] false none none (some (.ref 35)) none (some (.str (Str.ofString "ReadError") 216)) (some (.str (Str.ofString "ReadError") 224)) (some (.bool true)) "Exception.__new__") (by kernel_rfl))
  refine wpAny_handleBy_cons (codeAny_handlers_test (name_K F₅ X T ex ?_ hk hx hd')) (by intro q; cases q)
  refine wpAny_excMatches_sub_self hC hob hobc (by decide) (codeAny_handlers_suite_as ?_)
  refine landsX2 hfl hdi₅ fun h₆ hfl₆ hsm₆ hdi₆ => ?_
  have hfl₆' := flyingW_base hB hfl₆
  have F₆ := F.of_stays hfl₆'.1 ((hsm.trans hsm₅).trans hsm₆)
  obtain ⟨oe, ws, hoe, hoec, hoed, hoe0⟩ := hfl₆'.first
  obtain ⟨oe', hoe', hdx⟩ := hdi₆
  obtain rfl := Option.some.inj (hoe.symm.trans hoe')
  have Nl : News h₀ L h₆ news := fun q hq => ⟨hfl₆.1 _ _ (hl q hq).1, (fun z => by have := (hl q hq).1; rw [z, hL] at this; cases this), (hl q hq).2⟩
  have N₆ := News.more F₆ Nl hoe (fun es n q => by rw [hoed] at q; cases q) hfl₆'.2.1
  refine wpAny_storeName_local hlo F₆.ns (fun h₇ hn hs => ?_) (by show (scope.kind == .class || (scope.kind == .module && L != mainGlobals)) = false; rw [hk]; rfl)
  refine k h₇ oe _ (F₆.set hn hs) (N₆.set hs) hoec hdx ⟨ws, hoed⟩ (fun env he b hb q hq z => by
    have := (hl q hq).1
    rw [z, hout env he b hb] at this
    cases this) fun b o hb ho hnf => ?_
  obtain ⟨sl, e1⟩ := ((hsm.trans hsm₅).trans hsm₆) b o ho hnf
  exact ⟨sl, (hs.2 b hb).trans e1⟩
end
end
section
section
open PySem.Calls PySem.Builtin PySem.Builtin.ObjectAttr
variable {prog : Program} {w : World} {A : Around} {E : Value → Shared → Prop} {s : Shared} {K : Frag} {x C : Addr} {ox : Obj} {od : Option Obj} {name : Str} {expr : Bool} {Q : Value → Shared → Prop}
/-- a field of an own exception, read from its own dict -/
theorem get_excX {v : Value} (FB : PySem.ExcAttrFacts "Exception") (X : K.In s.heap) (I : InstAt s.heap x ox C od) (hga : findIn K (.ref C) "__getattribute__" = some (some (.builtin "BaseException.__getattribute__"))) (hgn : findIn K (.ref C) "__getattr__" = some none)
    (hsub : mroIn K C (.type "BaseException") = some true) (hf : findObj K C od name = some (.value v)) (hh : handedIn v = true) (h : Q v { s with toks := s.toks + 1 }) : wpAny (model prog w) A (getAttr (.ref x) name expr) Q E s := by
  obtain ⟨hp, g, d, t, os⟩ := s
  have L0 := I.type (M := model prog w)
  have L1 := looks_findIn (M := model prog w) X hga
  have L2 := looks_findIn (M := model prog w) X hgn
  have L3 := looks_find (M := model prog w) X I hf
  unfold getAttr getAttrBy
  refine wpAny_bind (wpAny_mkText (wpAny_holding (wpAny_bind (L0.at (wpAny_bind (L1.at ?_))))))
  dsimp only
  rw [show (onTheHeap (Value.ref C) && Value.builtin "BaseException.__getattribute__" == Value.builtin "object.__getattribute__") = false from by rw [show (Value.builtin "BaseException.__getattribute__" == Value.builtin "object.__getattribute__") = false from by decide +kernel, Bool.and_false], if_neg (by decide)]
  unfold getAttrByItsOwn hookBefore
  rw [if_pos (show onTheHeap (Value.ref C) = true from rfl)]
  refine wpAny_bind (L2.at (wpAny_bind (wpAny_attempt (wpAny_holding ?_))))
  unfold callGetattribute
  rw [show (expr && onTheHeap (Value.builtin "BaseException.__getattribute__")) = false from Bool.and_false _, if_neg (by decide)]
  unfold boundAndCalled
  rw [FB.ga.bind]
  refine wpAny_bind (wpAny_pure ?_)
  show wpAny _ _ (call (.builtin "BaseException.__getattribute__") [.ref x, .str name t]) _ _ _
  refine wpAny_call ?_
  refine codeAny_call_builtin FB.ga.plain PySem.F.entry_bexc_ga ?_
  refine @check_slot (model prog w) _ _ ⟨hp, g, d, t + 1, os⟩ "BaseException.__getattribute__" "BaseException" "__getattribute__" (.ref x) [.str name t] [] _ (by decide +kernel) (by decide +kernel) (L0.andThen (looks_mroIn X hsub)) (PySem.F.args_bexc_ga (.ref x) (.str name t)) ?_
  unfold Builtin.«object.__getattribute__»
  refine wpAny_bind (wpAny_pure (wpAny_bind (wpAny_pure (wpAny_bind (L0.at (wpAny_bind (L3.at ?_)))))))
  refine wpAny_pure ?_
  show wpAny _ _ (handedOut v) _ _ _
  rw [handedOut_of hh]; exact wpAny_pure h
end
end
section
section
open PySem.Calls
variable {prog : Program} {w : World} {A₀ A : Around} {s : Shared} {base h₀ : Heap} {L a : Addr} {m : Str → Option Value} {cn : Str} {cs : Scope} {ccd : Value} {news : List (Addr × Obj)} {K : Frag} {p : Program} {loose : List Str} {mean : ExcName → Option Value} {mg mb : Str → Option Value}
    {R : Result → Shared → Prop} {name qual : Str} {params : Arguments} {body : List Stmt} {scope : Scope} {dV kV doc pm cdv ct oc : Value} {an od : Option Addr} {osl : Array (Option Value)} {f : Addr} {args : Args} {binds : List (Str × Value)}
/-- what holds of the caller's frame when the callee's own heap stays -/
noncomputable def Back (h₀ : Heap) (L : Addr) (m : Str → Option Value) (g : Heap) : Prop :=
  ∀ (h' : Heap) (L' : Addr) (m' : Str → Option Value) (news' : List (Addr × Obj)), Fr g L' h' m' → News g L' h' news' → Fr h₀ L h' m ∧ News h₀ L h' news'
/-- the caller's frame as an object: its slots may turn -/
noncomputable def Own (h₀ : Heap) (L : Addr) (m : Str → Option Value) (g : Heap) : Prop :=
  ∃ oL, g.get? L = some oL ∧ (∀ vs, oL.data ≠ .fields vs) ∧ (∀ (sl : Array (Option Value)) h', h₀.StaysIn h' → h'.get? L = some { oL with slots := sl } → Fr h₀ L h' m)
theorem code_defX0 (B : Below A₀ base [] h₀) (F : Fr h₀ L s.heap m) (X₀ : K.In h₀) (N : News h₀ L s.heap news) (T : Top p loose mean mg mb h₀) (hA : A.frames = some [envOf cn cs L a ccd])
    (ho : K.lookup f = some ⟨oc, od, .func (fnOf name qual params body scope dV kV doc pm an cdv ct), osl⟩) (hcd : codeIn K cdv qual = true) (hroom : A.depth < recursionLimit)
    (hbind : BindsTo s (fnOf name qual params body scope dV kV doc pm an cdv ct) args binds) (hloc : ∀ y ∈ binds, scope.names.lookup y.1 = some .local)
    (h : ∀ g L' h₁, Fr h₀ L g m → Fr g L' h₁ (fun y => binds.reverse.lookup y) → News g L' h₁ news → Below A base [envOf cn cs L a ccd] g → K.In g → Top p loose mean mg mb g → h₀.StaysIn g → Back h₀ L m g → Own h₀ L m g → L ≠ L' → (∀ p ∈ news, p.1 < L') →
      wpAny (model prog w) (A.deeper (envOf qual scope L' f cdv)) (execs body (envOf qual scope L' f cdv))
        (fun fl s' => R (.ok (.ret (match fl with | .ret v => v | _ => .none))) s')
        (fun e s' => wpAny (model prog w) (A.deeper (envOf qual scope L' f cdv)) (leaving (envOf qual scope L' f cdv) e) (fun _ s'' => R (.error e) s'') (fun e' s'' => R (.error e') s'') s')
        { s with heap := h₁, toks := s.toks + binds.length })
    (hck : cs.kind = .function) (hco : scope.isCoroutine = false) (hgen : scope.isGenerator = false) (hk : scope.kind = .function)
    (hcell : ∀ x ∈ scope.names, x.2 ≠ .cell) : codeAny (model prog w) A (.call (.ref f) args) R s := by
  have X := X₀.keeps F.keep
  refine codeAny_call_def (fd := fnOf name qual params body scope dV kV doc pm an cdv ct) (body := body) (binds := binds) hroom (X _ _ ho) rfl (T.nolimit.keeps F.keep) (codeRec_of X hcd) rfl hbind hcell hloc (fun h₁ hns hk₁ => ?_) hco hgen hk
  obtain ⟨oL, es, ep, hLg, hLd, hN, hNs, st, B₂⟩ := kts_enter B F N hA hck
  have nL₀ : h₀.get? L = none := kts_self F
  refine wpAny_mono (h _ s.heap.objs.size h₁ ⟨hN _ hLg, st, F.above⟩ ⟨hns, fun b o e => hk₁ b o (of_hideAll _ e), Nat.le_of_eq (hideAll_size _ _)⟩
    (fun p hp => ⟨hk₁ _ _ (N p hp).1, Nat.ne_of_lt (Heap.lt_size (N p hp).1), hideAll_none _ (List.mem_map_of_mem hp)⟩) B₂ (X₀.keeps st) (T.keeps st) st ?_ ?_ (Nat.ne_of_lt (Heap.lt_size (of_hideAll _ hLg))) (fun p hp => Heap.lt_size (N p hp).1)) (fun fl s' hl => hl) fun _ _ y => y
  · intro h' L' m' news' F' N'
    refine ⟨⟨hN _ (F'.keep _ _ hLg), fun b o e => F'.keep b o (st b o e), F.above⟩, fun p hp => ⟨(N' p hp).1, fun q => ?_, ?_⟩⟩
    · have := (N' p hp).2.2; rw [q, hLg] at this; cases this
    · cases q : h₀.get? p.1 with
      | none => rfl
      | some o =>
        have := (N' p hp).2.2
        rw [st _ _ q] at this
        cases this
  · exact ⟨oL, hLg, (fun vs q => by rw [hLd] at q; cases q), fun sl h' hst e => ⟨hNs sl _ e, hst, F.above⟩⟩
/-- a loop over a range of n ints from 0, its whole state told by J -/
theorem loop_range {E : Value → Shared → Prop} {Q : Flow → Shared → Prop} {env : Env} {x : Str} {r : Addr} {a₀ b₀ : Int} {t₀ u₀ v₀ : Tok} {n : Nat} {m₀ : Str → Option Value} (J : Nat → (Str → Option Value) → List (Addr × Obj) → Prop)
    (hh : A.handled = none) (hr : IsRange s.heap r a₀ b₀ 1 t₀ u₀ v₀) (hsmall : Builtin.Range.small a₀ b₀ 1 = true) (hn : Builtin.Range.rangeSize a₀ b₀ 1 = (n : Int)) (F : Fr h₀ env.locals s.heap m₀) (N : News h₀ env.locals s.heap news) (h0 : J 0 m₀ news)
    (turn : ∀ (i : Nat) t m₁ news₁ h tk (o : Obj) I, i < n → o.cls = .type "range_iterator" → J i m₁ news₁ → (∀ p ∈ news₁, p.1 ≠ I) → Fr h₀ env.locals h (fun y => if y = x then some (.int (a₀ + (i : Int)) t) else m₁ y) → News h₀ env.locals h ((I, o) :: news₁) →
      wpAny (model prog w) A (execs body env) (LoopStepV h₀ env.locals [I] [(I, o)] (J (i + 1)) { s with heap := h, toks := tk } (fun v s' => Q (.ret v) s') fun s' => Q .next s') E { s with heap := h, toks := tk })
    (done : ∀ h tk m₁ news₁, Fr h₀ env.locals h m₁ → News h₀ env.locals h news₁ → J n m₁ news₁ → Q .next { s with heap := h, toks := tk }) :
    wpAny (model prog w) A (pyIter (.ref r)) (fun it s₂ => LoopAtV prog w A h₀ env x body Q E it s₂) E s := by
  refine wpAny_pyIter_range hr hsmall ?_
  have hnew : h₀.get? s.heap.objs.size = none := next_is_new F
  have hL : env.locals ≠ s.heap.objs.size := Nat.ne_of_lt F.ns.lt
  refine ⟨s.heap.objs.size, [s.heap.objs.size], [s.heap.objs.size], n, _, _, m₀, news, J, rfl, Walks.range hh _ a₀ 1 n, ?_, ?_, ?_, ?_, F.push _, fun p hp => ⟨Heap.get?_push_of_some _ (N p hp).1, (N p hp).2⟩, h0, ?_, ?_⟩
  · exact fun hm => hL (List.mem_singleton.mp hm)
  · intro b hb; rw [List.mem_singleton.mp hb]; exact hnew
  · intro q hq hI
    exact absurd (Heap.lt_size (N q hq).1) ((List.mem_singleton.mp hI) ▸ Nat.lt_irrefl _)
  · show IsRangeIter _ _ _ _ _
    rw [hn]; simpa using Heap.get?_push_size _ rfl
  · rintro i v m₁ news₁ s₁ own ⟨h, tk, rfl⟩ hi ⟨t, rfl⟩ hJ hnw hown hownat hfp hst F₁ N₁
    obtain ⟨o, hmem, hocls⟩ : ∃ o : Obj, (s.heap.objs.size, o) ∈ own ∧ o.cls = .type "range_iterator" := ⟨_, hfp _ (List.mem_singleton.mpr rfl) hnew _ hst, rfl⟩
    have hne : ∀ q ∈ news₁, q.1 ≠ s.heap.objs.size := fun q hq e => hnw q hq (List.mem_singleton.mpr e)
    have ht := turn i t m₁ news₁ h tk o s.heap.objs.size hi hocls hJ hne (by simpa using F₁) (fun q hq => by
      rcases List.mem_cons.mp hq with rfl | hq
      · exact N₁ _ (List.mem_append_left _ hmem)
      · exact N₁ _ (List.mem_append_right _ hq))
    refine wpAny_mono ht (fun f s₃ h₃ => ?_) fun _ _ e => e
    have conv : ∀ {s₂ : Shared}, LoopStepU h₀ env.locals [s.heap.objs.size] [(s.heap.objs.size, o)] (J (i + 1)) { s with heap := h, toks := tk } .next s₂ → LoopStepU h₀ env.locals [s.heap.objs.size] own (J (i + 1)) { s with heap := h, toks := tk } .next s₂ := by
      rintro s₂ ⟨_, h', tk', m₂, news₂, rfl, F₂, N₂, ha, hJ₂⟩
      refine ⟨rfl, h', tk', m₂, news₂, rfl, F₂, fun q hq => ?_, ha, hJ₂⟩
      rcases List.mem_append.mp hq with hq | hq
      · have e1 : q.1 = s.heap.objs.size := List.mem_singleton.mp (hown q hq)
        have e2 : q.2 = o := by
          have a1 := hownat q hq
          have a2 := hownat _ hmem
          rw [e1] at a1
          exact Option.some.inj (a1.symm.trans a2)
        obtain ⟨q1, q2⟩ := q
        dsimp only at e1 e2
        subst e1 e2
        exact N₂ _ (.head _)
      · exact N₂ _ (List.mem_append_right _ hq)
    cases f with
    | ret v => exact h₃
    | brk => exact h₃
    | cont => exact conv h₃
    | next => exact conv h₃
  · intro h' tk m' news' F' N' hnw' hJ
    exact done h' tk m' news' F' N' hJ
end
end
section
structure Rec where
  kind : Str
  tv : TV
  at_ : Int
  en : Int
  nl : Bool
structure RK where
  tp : Addr
  c : TokK
  te : Tok
  v : Value
  add : List (Addr × Obj)
noncomputable abbrev recO (P : Params) (k : RK) (r : Rec) : List (Addr × Obj) :=
  (k.tp, ({ cls := .type "tuple", data := .seq #[.ref k.c.t, .int r.en k.te] } : Obj)) :: (k.c.t, instObj 114 k.c.dt) :: (k.c.dt, tokD P k.c r.kind k.v r.at_ r.nl) :: k.add
noncomputable def ledger (P : Params) (l : List (RK × Rec)) : List (Addr × Obj) := l.flatMap fun x => recO P x.1 x.2
noncomputable def RecsOk (P : Params) (l : List (RK × Rec)) : Prop := ∀ x ∈ l, ValIs P x.2.tv x.1.v x.1.add
noncomputable def isEof (k : Str) : Bool := k == Str.ofString "eof"
noncomputable def readF (tx : Str) : Nat → Int → List Rec × Option Int
  | 0, _ => ([], none)
  | n + 1, a => match lexAt tx (skipE tx a false).1 with
    | none => ([], some (skipE tx a false).1)
    | some (k, v, e) => if isEof k = true then ([⟨k, v, (skipE tx a false).1, e, (skipE tx a false).2⟩], none) else (⟨k, v, (skipE tx a false).1, e, (skipE tx a false).2⟩ :: (readF tx n e).1, (readF tx n e).2)
noncomputable def FaultIs (f : Option Int) (v : Value) : Prop := match f with
  | none => v = .none
  | some i => ∃ t, v = .int i t
/-- the places that a reading comes to are good -/
structure GoodC (tx : Str) (P : Int → Prop) : Prop where
  lo : ∀ a, P a → 0 ≤ a
  good : ∀ a, P a → GoodP tx (skipE tx a false).1
  next : ∀ a k v e, P a → lexAt tx (skipE tx a false).1 = some (k, v, e) → P e
noncomputable abbrev SpecL (w : World) (loose : List Str) (mean : ExcName → Option Value) (mg mb : Str → Option Value) (f : Addr) (vs : List Value) (need : Nat) (news : List (Addr × Obj)) (R : Heap → Addr → (Str → Option Value) → Shared → (Value → Shared → Prop) → Prop) : Prop :=
  ∀ {dp un : Nat} {gd : Option (List Code)} {cn : Str} {cs : Scope} {a : Addr} {ccd : Value} {A₀ : Around} {h₀ : Heap} {L : Addr} {m : Str → Option Value} {s : Shared} {Q E : Value → Shared → Prop},
    Below A₀ h₀ [] h₀ → Fr h₀ L s.heap m → (hd.heap_39 w.params).In h₀ → News h₀ L s.heap news → Top hd.view_39 loose mean mg mb h₀ → cs.kind = .function →
    dp + need < 800 → un + 8 * need < 9900 → R h₀ L m s Q →
      wpAny (model PySem.Challenge.rw_ov0064_01.row.prog w) (ktrTop dp un gd cn cs L a ccd [] []) (call (.ref f) vs) Q E s
theorem news_move {h₀ h : Heap} {L : Addr} {a b c d : Addr × Obj} {add R : List (Addr × Obj)} (N : News h₀ L h (a :: b :: c :: (add ++ (d :: R)))) : News h₀ L h (c :: d :: a :: b :: (add ++ R)) := fun p hp => N p (by
  simp only [List.mem_cons, List.mem_append] at hp ⊢
  rcases hp with h | h | h | h | h | h <;> simp [h])
theorem mem_app_x {k : LexK} {add R : List (Addr × Obj)} (h : (k.x, instObj 297 k.dx) ∈ R) : (k.x, instObj 297 k.dx) ∈ add ++ R := List.mem_append_right _ h
theorem news_perm4 {h₀ h : Heap} {L : Addr} {a b c d : Addr × Obj} {R : List (Addr × Obj)} (N : News h₀ L h (a :: b :: c :: d :: R)) : News h₀ L h (d :: a :: c :: b :: R) := fun p hp => N p (by
  simp only [List.mem_cons] at hp ⊢
  rcases hp with h | h | h | h | h <;> simp [h])
/-- the items of the list of tokens: pairs that begin with an object -/
noncomputable def PairsAre (R : List (Addr × Obj)) (items : Array Value) : Prop := ∀ x ∈ items.toList, ∃ a b e t, x = .ref a ∧ (a, ({ cls := .type "tuple", data := .seq #[.ref b, .int e t] } : Obj)) ∈ R
theorem fresh_fl {h₀ h : Heap} {L fl : Addr} {P : Params} {tv : TV} {v : Value} {x0 a b : Addr × Obj} {add R : List (Addr × Obj)} {items : Array Value} {nn : Nat} (N : News h₀ L h (x0 :: (fl, PySem.W.listOf items nn) :: a :: b :: (add ++ R))) (hv : ValIs P tv v add) (hi : PairsAre R items) (hR : ∀ p ∈ R, p.1 ≠ fl) : ∀ p ∈ add ++ R, p.1 ≠ fl := by
  intro p hp
  rcases List.mem_append.mp hp with hp' | hp'
  · intro e
    have n1 := (N p (.tail _ (.tail _ (.tail _ (.tail _ hp))))).1
    have n2 := (N _ (.tail _ (.head _))).1
    dsimp only at n2
    rw [e, n2] at n1
    have n3 := Option.some.inj n1
    cases tv with
    | str y => obtain ⟨rfl, _⟩ := hv; cases hp'
    | int n =>
      obtain ⟨c, rfl, rfl⟩ := hv
      simp only [List.mem_cons, List.not_mem_nil, or_false] at hp'
      rcases hp' with rfl | rfl | rfl
      · exact absurd (congrArg Obj.cls n3) (by first | (intro q; injection q with q; exact absurd q (by decide)) | (intro q; cases q))
      · exact absurd (congrArg Obj.cls n3) (by first | (intro q; injection q with q; exact absurd q (by decide)) | (intro q; cases q))
      · have e2 : items = #[.int n c.vn] := by injection n3 with _ _ n4 _; injection n4
        obtain ⟨a', _, _, _, h1, _⟩ := hi (.int n c.vn) (by rw [e2]; exact .head _)
        cases h1
    | dbl n d =>
      obtain ⟨c, rfl, rfl⟩ := hv
      simp only [List.mem_cons, List.not_mem_nil, or_false] at hp'
      rcases hp' with rfl | rfl | rfl | rfl
      · exact absurd (congrArg Obj.cls n3) (by first | (intro q; injection q with q; exact absurd q (by decide)) | (intro q; cases q))
      · exact absurd (congrArg Obj.cls n3) (by first | (intro q; injection q with q; exact absurd q (by decide)) | (intro q; cases q))
      · have e2 : items = #[.ref c.tp] := by injection n3 with _ _ n4 _; injection n4
        obtain ⟨a', b', e', t', h1, h2⟩ := hi (.ref c.tp) (by rw [e2]; exact .head _)
        cases h1
        have m1 := (N _ (.tail _ (.tail _ (.tail _ (.tail _ (List.mem_append_right _ h2)))))).1
        have m2 := (N (c.tp, _) (.tail _ (.tail _ (.tail _ (.tail _ (List.mem_append_left _ (.tail _ (.tail _ (.tail _ (.head _)))))))))).1
        dsimp only at m1 m2
        rw [m1] at m2
        have m3 := Option.some.inj m2
        injection m3 with _ _ m4 _
        injection m4 with m5 _
        injection m5 with m6
        injection m6 with m7 _
        cases m7
      · exact absurd (congrArg Obj.cls n3) (by first | (intro q; injection q with q; exact absurd q (by decide)) | (intro q; cases q))
  · exact hR p hp'
theorem after9 {h₀ h : Heap} {L fl : Addr} {P P' : Params} {tv : TV} {v : Value} {k : LexK} {c : TokK} {tx kind : Str} {en p : Int} {t : Tok} {nl : Bool} {add R : List (Addr × Obj)} {items : Array Value} {nn : Nat}
    (N : News h₀ L h ((c.t, instObj 114 c.dt) :: (c.dt, tokD P c kind v p nl) :: (k.dx, lexD P k tx en t nl) :: (add ++ ((fl, PySem.W.listOf items nn) :: R)))) (hx : (k.x, instObj 297 k.dx) ∈ R) (hv : ValIs P' tv v add) (hi : PairsAre R items) (hR : ∀ p ∈ R, p.1 ≠ fl) (hd : ∀ p ∈ R, p.1 ≠ k.dx) (ha : ∀ p ∈ add, p.1 ≠ k.dx) :
    News h₀ L h ((k.dx, lexD P k tx en t nl) :: (fl, PySem.W.listOf items nn) :: (c.t, instObj 114 c.dt) :: (c.dt, tokD P c kind v p nl) :: (add ++ R)) ∧ (k.x, instObj 297 k.dx) ∈ add ++ R ∧ (∀ p ∈ add ++ R, p.1 ≠ fl) ∧ (∀ p ∈ add ++ R, p.1 ≠ k.dx) ∧ @Ne Nat c.t fl ∧ @Ne Nat c.dt fl := by
  have N' := news_move N
  refine ⟨N', List.mem_append_right _ hx, fresh_fl N' hv hi hR, fun p hp => (List.mem_append.mp hp).elim (ha p) (hd p), fun e => ?_, fun e => ?_⟩
  · have n1 := (N' _ (.tail _ (.tail _ (.head _)))).1
    have n2 := (N' _ (.tail _ (.head _))).1
    dsimp only at n1 n2
    rw [e, n2] at n1
    exact absurd (congrArg Obj.cls (Option.some.inj n1)) (by intro q; cases q)
  · have n1 := (N' _ (.tail _ (.tail _ (.tail _ (.head _))))).1
    have n2 := (N' _ (.tail _ (.head _))).1
    dsimp only at n1 n2
    rw [e, n2] at n1
    exact absurd (congrArg Obj.cls (Option.some.inj n1)) (by intro q; injection q with q; exact absurd q (by decide))
/-- what a turn of the reading loop finds -/
noncomputable def RdJ (P : Params) (tx : Str) (Pl : Int → Prop) (at_ : Int) (k : LexK) (fl : Addr) (R₀ : List (Addr × Obj)) (m₁ : Str → Option Value) (i : Nat) (m : Str → Option Value) (ns : List (Addr × Obj)) : Prop :=
  ∃ (l : List (RK × Rec)) (a : Int) (te : Tok) (nl : Bool) (nn : Nat) (u₁ u₂ : Option Value), m = (fun y => if y = Str.ofString "token" then u₁ else if y = Str.ofString "step" then u₂ else if y = Str.ofString "fault" then some .none else if y = Str.ofString "found" then some (.ref fl) else if y = Str.ofString "lexer" then some (.ref k.x) else m₁ y) ∧
    ns = (k.dx, lexD P k tx a te nl) :: (fl, PySem.W.listOf (l.map fun x => Value.ref x.1.tp).toArray nn) :: (ledger P l ++ R₀) ∧ Pl a ∧ l.length = i ∧ i ≤ 100 ∧
    readF tx 100 at_ = (l.map (·.2) ++ (readF tx (100 - i) a).1, (readF tx (100 - i) a).2) ∧ RecsOk P l ∧ (∀ p ∈ ledger P l ++ R₀, p.1 ≠ k.dx) ∧ (∀ p ∈ ledger P l ++ R₀, p.1 ≠ fl) ∧ fl ≠ k.dx
theorem pairsAre (P : Params) (l : List (RK × Rec)) (R₀ : List (Addr × Obj)) : PairsAre (ledger P l ++ R₀) (l.map fun x => Value.ref x.1.tp).toArray := by
  intro x hx
  obtain ⟨y, hy, rfl⟩ := List.mem_map.mp hx
  exact ⟨_, _, _, _, rfl, List.mem_append_left _ (List.mem_flatMap.mpr ⟨y, hy, .head _⟩)⟩
theorem read_step {tx : Str} {n : Nat} {a p : Int} {nl : Bool} {k : Str} {v : TV} {e : Int} (hs : skipE tx a false = (p, nl)) (hr : lexAt tx p = some (k, v, e)) (he : isEof k = false) : readF tx (n + 1) a = (⟨k, v, p, e, nl⟩ :: (readF tx n e).1, (readF tx n e).2) := by
  rw [readF, hs]; dsimp only; rw [hr]; dsimp only; rw [he]; rfl
theorem read_eof {tx : Str} {n : Nat} {a p : Int} {nl : Bool} {k : Str} {v : TV} {e : Int} (hs : skipE tx a false = (p, nl)) (hr : lexAt tx p = some (k, v, e)) (he : isEof k = true) : readF tx (n + 1) a = ([⟨k, v, p, e, nl⟩], none) := by
  rw [readF, hs]; dsimp only; rw [hr]; dsimp only; rw [he]; rfl
theorem read_bad {tx : Str} {n : Nat} {a p : Int} {nl : Bool} (hs : skipE tx a false = (p, nl)) (hr : lexAt tx p = none) : readF tx (n + 1) a = ([], some p) := by
  rw [readF, hs]; dsimp only; rw [hr]
section
variable {w : World} {loose : List Str} {mean : ExcName → Option Value} {mg mb : Str → Option Value}
theorem s_next2 {k : LexK} {tx : Str} {at0 p : Int} {tv : Tok} {nl nl' : Bool} {q : Nat → Tok} {fl : Addr} {lst : Obj} {R : List (Addr × Obj)} (hx : (k.x, instObj 297 k.dx) ∈ R) (hkt : (k.kt, keysT q) ∈ R) (hne : ∀ p ∈ R, p.1 ≠ k.dx) (hfl : fl ≠ k.dx) (hlen : tx.length ≤ 1000) (h0 : 0 ≤ at0) (hsk : skipE tx at0 false = (p, nl')) (hg : GoodP tx p) :
    Spec w loose mean mg mb 203 [.ref k.x] 20 ((k.dx, lexD w.params k tx at0 tv nl) :: (fl, lst) :: R) (fun h₀ L m s Q => ∀ kind tv en, lexAt tx p = some (kind, tv, en) → GivesVal w.params k tx kind tv p en nl' ((fl, lst) :: R) h₀ L m s Q)
      (fun base l h₀ L m s E => lexAt tx p = none → Fails w.params p ((fl, lst) :: R) base l h₀ L m s E) := by
  intro dp un gd cn cs a ccd cl outer A₀ base h₀ L m s Q E B F X N T hk hdp hu hret herr
  exact s_next_token (rest := (fl, lst) :: R) (.tail _ hx) (.tail _ hkt) (fun p hp => by
    rcases List.mem_cons.mp hp with rfl | hp
    · exact hfl
    · exact hne p hp) hlen h0 hsk hg (fun p hp => hp) B F X N T hk hdp hu hret herr
end
end
section
theorem ne_cls {h₀ h : Heap} {L : Addr} {news : List (Addr × Obj)} {x y : Addr × Obj} (N : News h₀ L h news) (hx : x ∈ news) (hy : y ∈ news) (hc : x.2.cls ≠ y.2.cls) : x.1 ≠ y.1 := fun e => by
  have n1 := (N _ hx).1
  have n2 := (N _ hy).1
  rw [e, n2] at n1
  exact hc (congrArg Obj.cls (Option.some.inj n1)).symm
theorem val_cls {P : Params} {tv : TV} {v : Value} {add : List (Addr × Obj)} (hv : ValIs P tv v add) : ∀ p ∈ add, p.2.cls ≠ .type "range_iterator" := by
  intro p hp
  cases tv with
  | str y => obtain ⟨rfl, _⟩ := hv; cases hp
  | int n =>
    obtain ⟨c, rfl, rfl⟩ := hv
    simp only [List.mem_cons, List.not_mem_nil, or_false] at hp
    rcases hp with rfl | rfl | rfl <;> (intro q; first | cases q | (injection q with q; exact absurd q (by decide)))
  | dbl n d =>
    obtain ⟨c, rfl, rfl⟩ := hv
    simp only [List.mem_cons, List.not_mem_nil, or_false] at hp
    rcases hp with rfl | rfl | rfl | rfl <;> (intro q; first | cases q | (injection q with q; exact absurd q (by decide)))
theorem rd_next {P : Params} {tx : Str} {Pl : Int → Prop} {at_ a : Int} {k : LexK} {fl I L tp : Addr} {o : Obj} {R₀ R : List (Addr × Obj)} {m₁ : Str → Option Value} {i nn : Nat} {l : List (RK × Rec)} {its : Array Value} {g h : Heap} {u₁ u₂ : Option Value} {c : TokK} {kind : Str} {tv : TV} {v sv : Value} {en p : Int} {te : Tok} {nl' : Bool} {add : List (Addr × Obj)}
    (hG : GoodC tx Pl) (hPa : Pl a) (hl : l.length = i) (hi : i < 100) (ho : o.cls = .type "range_iterator") (hits : its = (l.map fun x => Value.ref x.1.tp).toArray) (hR : R = (I, o) :: (ledger P l ++ R₀))
    (hr : readF tx 100 at_ = (l.map (·.2) ++ (readF tx (100 - i) a).1, (readF tx (100 - i) a).2)) (hok : RecsOk P l) (hsk : skipE tx a false = (p, nl')) (hx : lexAt tx p = some (kind, tv, en)) (he : (kind == Str.ofString "eof") = false)
    (hv : ValIs P tv v add) (h1 : ∀ p ∈ add ++ R, p.1 ≠ fl) (h2 : ∀ p ∈ add ++ R, p.1 ≠ k.dx) (h3 : fl ≠ k.dx) (h4 : @Ne Nat c.t fl) (h5 : @Ne Nat c.dt fl) (h6 : c.t ≠ k.dx) (h7 : c.dt ≠ k.dx) (h8 : fl ≠ I) (h9 : k.dx ≠ I) (hnI : ∀ p ∈ ledger P l ++ R₀, p.1 ≠ I)
    (hlt : @LT.lt Nat _ k.dx tp ∧ @LT.lt Nat _ fl tp ∧ @LT.lt Nat _ c.t tp ∧ @LT.lt Nat _ c.dt tp ∧ AllLt tp (add ++ R))
    (F : Fr g L h (fun y => if y = Str.ofString "token" then some (.ref c.t) else if y = Str.ofString "step" then some sv else if y = Str.ofString "token" then u₁ else if y = Str.ofString "step" then u₂ else if y = Str.ofString "fault" then some .none else if y = Str.ofString "found" then some (.ref fl) else if y = Str.ofString "lexer" then some (.ref k.x) else m₁ y))
    (N : News g L h ((tp, ({ cls := .type "tuple", data := .seq #[.ref c.t, .int en te] } : Obj)) :: (k.dx, lexD P k tx en te nl') :: (fl, PySem.W.listOf (its.push (.ref tp)) (nn + 1)) :: (c.t, instObj 114 c.dt) :: (c.dt, tokD P c kind v p nl') :: (add ++ R))) :
    ∃ m₂ news₂, Fr g L h m₂ ∧ News g L h ([(I, o)] ++ news₂) ∧ (∀ p ∈ news₂, p.1 ∉ [I]) ∧ RdJ P tx Pl at_ k fl R₀ m₁ (i + 1) m₂ news₂ := by
  obtain ⟨t1, t2, t3, t4, t5⟩ := hlt
  have memI : (I, o) ∈ (tp, ({ cls := .type "tuple", data := .seq #[.ref c.t, .int en te] } : Obj)) :: (k.dx, lexD P k tx en te nl') :: (fl, PySem.W.listOf (its.push (.ref tp)) (nn + 1)) :: (c.t, instObj 114 c.dt) :: (c.dt, tokD P c kind v p nl') :: (add ++ R) := by
    rw [hR]; exact .tail _ (.tail _ (.tail _ (.tail _ (.tail _ (List.mem_append_right _ (.head _))))))
  have neI : ∀ q, q ∈ (tp, ({ cls := .type "tuple", data := .seq #[.ref c.t, .int en te] } : Obj)) :: (k.dx, lexD P k tx en te nl') :: (fl, PySem.W.listOf (its.push (.ref tp)) (nn + 1)) :: (c.t, instObj 114 c.dt) :: (c.dt, tokD P c kind v p nl') :: (add ++ R) → q.2.cls ≠ .type "range_iterator" → q.1 ≠ I := fun q hq hc => ne_cls N hq memI (by rw [ho]; exact hc)
  have led : ledger P (l ++ [((⟨tp, c, te, v, add⟩, ⟨kind, tv, p, en, nl'⟩) : RK × Rec)]) = ledger P l ++ recO P ⟨tp, c, te, v, add⟩ ⟨kind, tv, p, en, nl'⟩ := by
    unfold ledger; simp [List.flatMap_append]
  have memnew : ∀ q ∈ ledger P (l ++ [((⟨tp, c, te, v, add⟩, ⟨kind, tv, p, en, nl'⟩) : RK × Rec)]) ++ R₀, q ∈ ledger P l ++ R₀ ∨ q = (tp, ({ cls := .type "tuple", data := .seq #[.ref c.t, .int en te] } : Obj)) ∨ q = (c.t, instObj 114 c.dt) ∨ q = (c.dt, tokD P c kind v p nl') ∨ q ∈ add := by
    intro q hq
    rw [led] at hq
    simp only [List.mem_append, List.mem_cons] at hq ⊢
    rcases hq with (h | h | h | h | h) | h
    · exact .inl (.inl h)
    · exact .inr (.inl h)
    · exact .inr (.inr (.inl h))
    · exact .inr (.inr (.inr (.inl h)))
    · exact .inr (.inr (.inr (.inr h)))
    · exact .inl (.inr h)
  have old : ∀ q ∈ ledger P l ++ R₀, q ∈ add ++ R := fun q hq => by rw [hR]; exact List.mem_append_right _ (.tail _ hq)
  refine ⟨_, (k.dx, lexD P k tx en te nl') :: (fl, PySem.W.listOf ((l ++ [((⟨tp, c, te, v, add⟩, ⟨kind, tv, p, en, nl'⟩) : RK × Rec)]).map fun x => Value.ref x.1.tp).toArray (nn + 1)) :: (ledger P (l ++ [((⟨tp, c, te, v, add⟩, ⟨kind, tv, p, en, nl'⟩) : RK × Rec)]) ++ R₀), F, ?_, ?_, l ++ [((⟨tp, c, te, v, add⟩, ⟨kind, tv, p, en, nl'⟩) : RK × Rec)], en, te, nl', nn + 1, some (.ref c.t), some sv, ?_, rfl, ?_, ?_, ?_, ?_, ?_, ?_, ?_, h3⟩
  · intro q hq
    have e1 : ((l ++ [((⟨tp, c, te, v, add⟩ : RK), (⟨kind, tv, p, en, nl'⟩ : Rec))]).map fun x => Value.ref x.1.tp).toArray = its.push (.ref tp) := by rw [hits]; simp
    rw [e1] at hq
    simp only [List.singleton_append, List.mem_cons] at hq
    rcases hq with rfl | rfl | rfl | hq
    · exact N _ memI
    · exact N _ (.tail _ (.head _))
    · exact N _ (.tail _ (.tail _ (.head _)))
    · rcases memnew q hq with h | rfl | rfl | rfl | h
      · exact N _ (.tail _ (.tail _ (.tail _ (.tail _ (.tail _ (old q h))))))
      · exact N _ (.head _)
      · exact N _ (.tail _ (.tail _ (.tail _ (.head _))))
      · exact N _ (.tail _ (.tail _ (.tail _ (.tail _ (.head _)))))
      · exact N _ (.tail _ (.tail _ (.tail _ (.tail _ (.tail _ (List.mem_append_left _ h))))))
  · intro q hq hm
    have e := List.mem_singleton.mp hm
    rcases List.mem_cons.mp hq with rfl | hq
    · exact h9 e
    rcases List.mem_cons.mp hq with rfl | hq
    · exact h8 e
    rcases memnew q hq with h | rfl | rfl | rfl | h
    · exact hnI q h e
    · exact neI _ (.head _) (by intro q; injection q with q; exact absurd q (by decide)) e
    · exact neI _ (.tail _ (.tail _ (.tail _ (.head _)))) (by intro q; cases q) e
    · exact neI _ (.tail _ (.tail _ (.tail _ (.tail _ (.head _))))) (by intro q; injection q with q; exact absurd q (by decide)) e
    · exact neI _ (.tail _ (.tail _ (.tail _ (.tail _ (.tail _ (List.mem_append_left _ h)))))) (val_cls hv q h) e
  · funext y
    by_cases e1 : y = Str.ofString "token"
    · rw [if_pos e1, if_pos e1]
    · rw [if_neg e1, if_neg e1, if_neg e1]
      by_cases e2 : y = Str.ofString "step"
      · rw [if_pos e2, if_pos e2]
      · rw [if_neg e2, if_neg e2, if_neg e2]
  · exact hG.next a _ _ _ hPa (by rw [hsk]; exact hx)
  · simp [hl]
  · omega
  · rw [hr, show 100 - i = (100 - (i + 1)) + 1 by omega, read_step hsk hx he]
    simp
  · intro x hx'
    rcases List.mem_append.mp hx' with h | h
    · exact hok x h
    · rw [List.mem_singleton.mp h]; exact hv
  · intro q hq
    rcases memnew q hq with h | rfl | rfl | rfl | h
    · exact h2 q (old q h)
    · exact fun e => absurd t1 (by rw [← e]; exact Nat.lt_irrefl _)
    · exact h6
    · exact h7
    · exact h2 q (List.mem_append_left _ h)
  · intro q hq
    rcases memnew q hq with h | rfl | rfl | rfl | h
    · exact h1 q (old q h)
    · exact fun e => absurd t2 (by rw [← e]; exact Nat.lt_irrefl _)
    · exact h4
    · exact h5
    · exact h1 q (List.mem_append_left _ h)
theorem rd_eof {P : Params} {tx : Str} {at_ a : Int} {k : LexK} {fl I L tp D : Addr} {tup xk xt o : Obj} {x1 x2 : Addr} {news R : List (Addr × Obj)} {i nn : Nat} {l : List (RK × Rec)} {its : Array Value} {g h : Heap} {c : TokK} {kind : Str} {tv : TV} {v : Value} {en p : Int} {te : Tok} {nl' : Bool} {add : List (Addr × Obj)}
    (hi : i < 100) (hits : its = (l.map fun x => Value.ref x.1.tp).toArray) (hR : R = (I, o) :: (ledger P l ++ (x1, xk) :: (x2, xt) :: news))
    (hr : readF tx 100 at_ = (l.map (·.2) ++ (readF tx (100 - i) a).1, (readF tx (100 - i) a).2)) (hok : RecsOk P l) (hsk : skipE tx a false = (p, nl')) (hx : lexAt tx p = some (kind, tv, en)) (he : (kind == Str.ofString "eof") = true) (hv : ValIs P tv v add)
    (N : News g L h ((D, tup) :: (tp, ({ cls := .type "tuple", data := .seq #[.ref c.t, .int en te] } : Obj)) :: (k.dx, lexD P k tx en te nl') :: (fl, PySem.W.listOf (its.push (.ref tp)) (nn + 1)) :: (c.t, instObj 114 c.dt) :: (c.dt, tokD P c kind v p nl') :: (add ++ R))) :
    ∃ l' : List (RK × Rec), l'.map (·.2) = (readF tx 100 at_).1 ∧ FaultIs (readF tx 100 at_).2 .none ∧ RecsOk P l' ∧ News g L h ((D, tup) :: (fl, PySem.W.listOf (l'.map fun x => Value.ref x.1.tp).toArray (nn + 1)) :: (ledger P l' ++ news)) := by
  have led : ledger P (l ++ [((⟨tp, c, te, v, add⟩, ⟨kind, tv, p, en, nl'⟩) : RK × Rec)]) = ledger P l ++ recO P ⟨tp, c, te, v, add⟩ ⟨kind, tv, p, en, nl'⟩ := by
    unfold ledger; simp [List.flatMap_append]
  have hr' : readF tx 100 at_ = (l.map (·.2) ++ [⟨kind, tv, p, en, nl'⟩], none) := by
    rw [hr, show 100 - i = (100 - (i + 1)) + 1 by omega, read_eof hsk hx he]
  refine ⟨l ++ [((⟨tp, c, te, v, add⟩, ⟨kind, tv, p, en, nl'⟩) : RK × Rec)], ?_, ?_, ?_, ?_⟩
  · rw [hr']; simp
  · rw [hr']; rfl
  · intro x hx'
    rcases List.mem_append.mp hx' with h | h
    · exact hok x h
    · rw [List.mem_singleton.mp h]; exact hv
  · intro q hq
    have e1 : ((l ++ [((⟨tp, c, te, v, add⟩, ⟨kind, tv, p, en, nl'⟩) : RK × Rec)]).map fun x => Value.ref x.1.tp).toArray = its.push (.ref tp) := by rw [hits]; simp
    rw [e1, led] at hq
    rcases List.mem_cons.mp hq with rfl | hq
    · exact N _ (.head _)
    rcases List.mem_cons.mp hq with rfl | hq
    · exact N _ (.tail _ (.tail _ (.tail _ (.head _))))
    have inR : ∀ q ∈ ledger P l ++ (x1, xk) :: (x2, xt) :: news, News g L h [q] := fun q hq z hz => by
      rw [List.mem_singleton.mp hz]
      refine N _ (.tail _ (.tail _ (.tail _ (.tail _ (.tail _ (.tail _ (List.mem_append_right _ ?_)))))))
      rw [hR]; exact .tail _ hq
    rcases List.mem_append.mp hq with hq | hq
    · rcases List.mem_append.mp hq with hq | hq
      · exact inR q (List.mem_append_left _ hq) q (.head _)
      · rcases List.mem_cons.mp hq with rfl | hq
        · exact N _ (.tail _ (.head _))
        rcases List.mem_cons.mp hq with rfl | hq
        · exact N _ (.tail _ (.tail _ (.tail _ (.tail _ (.head _)))))
        rcases List.mem_cons.mp hq with rfl | hq
        · exact N _ (.tail _ (.tail _ (.tail _ (.tail _ (.tail _ (.head _))))))
        exact N _ (.tail _ (.tail _ (.tail _ (.tail _ (.tail _ (.tail _ (List.mem_append_left _ hq)))))))
    · exact inR q (List.mem_append_right _ (.tail _ (.tail _ hq))) q (.head _)
theorem rd_done {P : Params} {tx : Str} {at_ a : Int} {k : LexK} {fl L D : Addr} {tup xk xt ld : Obj} {x1 x2 : Addr} {news : List (Addr × Obj)} {nn : Nat} {l : List (RK × Rec)} {g h : Heap}
    (hr : readF tx 100 at_ = (l.map (·.2) ++ (readF tx (100 - 100) a).1, (readF tx (100 - 100) a).2))
    (N : News g L h ((D, tup) :: (k.dx, ld) :: (fl, PySem.W.listOf (l.map fun x => Value.ref x.1.tp).toArray nn) :: (ledger P l ++ (x1, xk) :: (x2, xt) :: news))) :
    l.map (·.2) = (readF tx 100 at_).1 ∧ FaultIs (readF tx 100 at_).2 .none ∧ News g L h ((D, tup) :: (fl, PySem.W.listOf (l.map fun x => Value.ref x.1.tp).toArray nn) :: (ledger P l ++ news)) := by
  have e : readF tx (100 - 100) a = ([], none) := rfl
  rw [e] at hr
  refine ⟨by rw [hr]; simp, by rw [hr]; rfl, fun q hq => N q ?_⟩
  simp only [List.mem_cons, List.mem_append] at hq ⊢
  rcases hq with h | h | h | h <;> simp [h]
theorem fr_down {h₀ g h : Heap} {L L' : Addr} {m m' : Str → Option Value} (st : h₀.StaysIn g) (FG : Fr h₀ L g m) (hl : ∃ oL, g.get? L = some oL) (F : Fr g L' h m') : Fr h₀ L' h m' := by
  obtain ⟨oL, e⟩ := hl
  exact ⟨F.ns, fun b o q => F.keep b o (st b o q), Nat.le_trans FG.above (Nat.le_of_lt (Nat.lt_of_lt_of_le (Heap.lt_size e) F.above))⟩
theorem rd_cut {P : Params} {h₀ h : Heap} {L L' D fl : Addr} {tup oL lst : Obj} {x1 x2 y1 y2 i0 : Addr × Obj} {news R : List (Addr × Obj)} {l : List (RK × Rec)} (N : News h₀ L' h ((D, tup) :: (L, oL) :: x1 :: x2 :: (fl, lst) :: R)) (hR : R = i0 :: (ledger P l ++ y1 :: y2 :: news)) (hD : @LT.lt Nat _ L D)
    (hne : ∀ q ∈ x2 :: (fl, lst) :: R, q.1 ≠ L) : News h₀ L h ((D, tup) :: (fl, lst) :: (ledger P l ++ news)) := by
  have old : ∀ q ∈ ledger P l ++ news, q ∈ R := fun q hq => by
    rw [hR]
    rcases List.mem_append.mp hq with h | h
    · exact .tail _ (List.mem_append_left _ h)
    · exact .tail _ (List.mem_append_right _ (.tail _ (.tail _ h)))
  intro q hq
  rcases List.mem_cons.mp hq with rfl | hq
  · exact ⟨(N _ (.head _)).1, fun e => absurd hD (by rw [show D = L from e]; exact Nat.lt_irrefl _), (N _ (.head _)).2.2⟩
  rcases List.mem_cons.mp hq with rfl | hq
  · exact ⟨(N _ (.tail _ (.tail _ (.tail _ (.tail _ (.head _)))))).1, hne _ (.tail _ (.head _)), (N _ (.tail _ (.tail _ (.tail _ (.tail _ (.head _)))))).2.2⟩
  · have m := old q hq
    exact ⟨(N _ (.tail _ (.tail _ (.tail _ (.tail _ (.tail _ m)))))).1, hne _ (.tail _ (.tail _ m)), (N _ (.tail _ (.tail _ (.tail _ (.tail _ (.tail _ m)))))).2.2⟩
end
section
section
variable {w : World} {loose : List Str} {mean : ExcName → Option Value} {mg mb : Str → Option Value}
theorem s_law_read {tx : Str} {at_ : Int} {t1 t2 : Tok} {P : Int → Prop} {news : List (Addr × Obj)} (hG : GoodC tx P) (hlen : tx.length ≤ 1000) (h0 : P at_) :
    SpecL w loose mean mg mb 329 [.str tx t1, .int at_ t2] 30 news (fun h₀ L m s Q => ∀ (D fl : Addr) (nn : Nat) (l : List (RK × Rec)) (fv : Value) (h' : Heap) (tk' : Nat), l.map (·.2) = (readF tx 100 at_).1 → FaultIs (readF tx 100 at_).2 fv → RecsOk w.params l → Fr h₀ L h' m →
      News h₀ L h' ((D, { cls := .type "tuple", data := .seq #[.ref fl, fv] }) :: (fl, PySem.W.listOf (l.map fun x => Value.ref x.1.tp).toArray nn) :: (ledger w.params l ++ news)) → Q (.ref D) { s with heap := h', toks := tk' }) := by
  unfold SpecL
  k_fill
  k_with_none
  (k_with "call ref" => (k_here; (with_reducible show wpAny _ _ (call (Value.ref 203) _) _ _ _); k_dflt ((with_unfolding_all refine' s_next2 ?q0 ?q1 ?q2 ?q3 ?q4 ?q5 ?q6 ?q7 ?k1 ?k2 ?k3 ?k4 ?k5 ?kK ?kd ?ku ?_ ?_); (case k1 => k_asm); (case k2 => k_asm); (case k3 => k_asm); (case k4 => k_asm); (case k5 => k_asm); (case q0 => assumption); (case q1 => assumption); (case q2 => assumption); (case q3 => assumption); (case q4 => omega); (case q5 => omega); (case q6 => assumption); (case q7 => assumption); (case kK => first | exact rfl | assumption); (case kd => k_room); (case ku => ((try simp only [units_in1, units_deeper, Around.mark_units, units_caller]); (try dsimp only [ktrTop]); omega));  k_whole; rotate_left; (intro hb9 e9 dx9 c9 kd9 h9 g9 tk9 F9 U9 R9; (try dsimp only)); rotate_left; intro kind9 tv9 en9 hr9 v9 add9 hv9 ha9 c9 t9 h9 tk9 F9 N9 ne1 ne2; (obtain ⟨M9, hxA9, hfA9, hdA9, hcA9, hcB9⟩ := after9 N9 (by assumption) (by assumption) (by assumption) (by assumption) (by assumption) (by assumption)); (clear N9); (try k_sweep); (try dsimp only); (try k_fold))))
  (k_with "getAttr ref" => (k_here; (rename JMark => hJ); refine' Halt.mk ?_))
  (k_with "call builtin:list.append" => (k_here; (with_reducible show wpAny _ _ (call (Value.builtin _) [Value.ref _, _]) _ _ _); k_dflt (refine' append_K ?k1 ?k2 ?k3 ?_ ?z; (case k1 => k_asm); (case k2 => k_asm); (case k3 => k_upd); (case z => (rw [PySem.sizeLine_eq]; omega)); k_whole; intro h9 F9 N9; (try k_sweep); (try dsimp only); (try k_fold))))
  (k_with "pyIter ref" => (k_here; (with_reducible show wpAny _ _ (pyIter (Value.ref _)) (fun it s₂ => LoopAtV _ _ _ _ _ _ _ _ _ it s₂) _ _); refine' Halt.mk ?_))
  intro dp un gd cn cs a ccd A₀ h₀ L m s Q E B F X N T hk hdp hu hret
  refine wpAny_call ?_
  k_dflt ((refine' code_defX0 ?k1 ?k2 ?k3 ?k4 ?k5 ?kA ?k6 ?k7 ?k8 ?k9 ?kB ?_ ?kK ?c2 ?c3 ?c4 ?c5); (case kA => exact rfl); (case kK => first | exact rfl | assumption); (case k1 => k_asm); (case k2 => k_asm); (case k3 => k_asm); (case k4 => k_asm); (case k5 => k_asm); (case k6 => k_is); (case k7 => k_is); (case k8 => k_room); (case k9 => first | exact BindsTo.of_eq rfl | exact binds_K (by k_in) rfl (by k_is) rfl rfl rfl); (case c5 => decide); (case kB => exact locs rfl); (case c2 => exact rfl); (case c3 => exact rfl); (case c4 => exact rfl); k_whole; intro g' L' h' FG F' N' B' X' T' hst hback hown hLL l1; (try dsimp only); (try k_lift B'); (try k_fold))
  k_steps
  unfold Halt
  obtain ⟨k, fl, q, t, m₁, hN, hF, a1, a2, a3⟩ : ∃ (k : LexK) (fl : Addr) (q : Nat → Tok) (t : Tok) (m₁ : Str → Option Value), News g' L' _ ((k.dx, lexD w.params k tx at_ t false) :: (fl, PySem.W.listOf #[] 0) :: (k.x, instObj 297 k.dx) :: (k.kt, keysT q) :: news) ∧
      Fr g' L' _ (fun y => if y = Str.ofString "fault" then some .none else if y = Str.ofString "found" then some (.ref fl) else if y = Str.ofString "lexer" then some (.ref k.x) else m₁ y) ∧
      (∀ p ∈ (k.x, instObj 297 k.dx) :: (k.kt, keysT q) :: news, p.1 ≠ k.dx) ∧ (∀ p ∈ (k.x, instObj 297 k.dx) :: (k.kt, keysT q) :: news, p.1 ≠ fl) ∧ fl ≠ k.dx := by
    refine ⟨⟨_, _, _, _, _, _, _, _⟩, _, fun i => _ + i, _, _, news_perm4 (by assumption), by assumption, ?_, ?_, ?_⟩
    · k_all
    · k_all
    · k_ne
  have h0' := hG.lo at_ h0
  refine loop_range (n := 100) (RdJ w.params tx P at_ k fl ((k.x, instObj 297 k.dx) :: (k.kt, keysT q) :: news) m₁) rfl (by assumption) (by decide) (by decide) hF hN ?_ ?_ ?_
  · exact ⟨[], at_, t, false, 0, (fun y => if y = Str.ofString "fault" then some .none else if y = Str.ofString "found" then some (.ref fl) else if y = Str.ofString "lexer" then some (.ref k.x) else m₁ y) (Str.ofString "token"), (fun y => if y = Str.ofString "fault" then some .none else if y = Str.ofString "found" then some (.ref fl) else if y = Str.ofString "lexer" then some (.ref k.x) else m₁ y) (Str.ofString "step"), (by
      funext y
      by_cases e1 : y = Str.ofString "token"
      · subst e1; rw [if_pos rfl]
      · rw [if_neg e1]
        by_cases e2 : y = Str.ofString "step"
        · subst e2; rw [if_pos rfl]
        · rw [if_neg e2]), rfl, h0, rfl, by omega, by simp, (fun _ h => nomatch h), a1, a2, a3⟩
  · rintro i t' m₂ news₁ h tk o I hi ho ⟨l, a, te, nl, nn, u₁, u₂, rfl, rfl, hPa, hl, hi', hr, hok, n1, n2, n3⟩ hne F₁ N₁
    obtain ⟨R, hR⟩ : ∃ R, R = (I, o) :: (ledger w.params l ++ (k.x, instObj 297 k.dx) :: (k.kt, keysT q) :: news) := ⟨_, rfl⟩
    have x1 : (k.x, instObj 297 k.dx) ∈ R := by rw [hR]; exact .tail _ (List.mem_append_right _ (.head _))
    have x2 : (k.kt, keysT q) ∈ R := by rw [hR]; exact .tail _ (List.mem_append_right _ (.tail _ (.head _)))
    obtain ⟨its, hits⟩ : ∃ its, its = (l.map fun x => Value.ref x.1.tp).toArray := ⟨_, rfl⟩
    have hpr : PairsAre R its := by
      rw [hits, hR]
      intro x hx
      obtain ⟨a, b, e, t, h1, h2⟩ := pairsAre w.params l ((k.x, instObj 297 k.dx) :: (k.kt, keysT q) :: news) x hx
      exact ⟨a, b, e, t, h1, .tail _ h2⟩
    have hsz : its.size ≤ 100 := by rw [hits]; simp; omega
    have y1 : ∀ p ∈ R, p.1 ≠ k.dx := by
      rw [hR]; intro p hp
      rcases List.mem_cons.mp hp with rfl | hp
      · exact fun e => hne _ (.head _) e.symm
      · exact n1 p hp
    have y2 : ∀ p ∈ R, p.1 ≠ fl := by
      rw [hR]; intro p hp
      rcases List.mem_cons.mp hp with rfl | hp
      · exact fun e => hne _ (.tail _ (.head _)) e.symm
      · exact n2 p hp
    have N₂ : News g' L' h ((k.dx, lexD w.params k tx a te nl) :: (fl, PySem.W.listOf its nn) :: R) := by
      rw [hits, hR]
      exact fun p hp => N₁ p (by
        simp only [List.mem_cons] at hp ⊢
        rcases hp with h | h | h | h <;> simp [h])
    obtain ⟨p, nl', hsk⟩ : ∃ p n, skipE tx a false = (p, n) := ⟨_, _, rfl⟩
    have hgd : GoodP tx p := by have := hG.good a hPa; rw [hsk] at this; exact this
    have ha0 := hG.lo a hPa
    have n3' := neN n3
    clear N₁ hN hF
    dsimp only at F₁
    k_steps
    · (try dsimp only)
      refine LoopStepV.brk ?_
      (try dsimp only)
      k_steps
      obtain ⟨l', e1, e2, e3, N₃⟩ := rd_eof hi hits hR hr hok hsk (by assumption) (by assumption) (by assumption) (by assumption)
      obtain ⟨F₄, N₄⟩ := hback _ _ _ _ (by assumption) N₃
      exact hret _ fl _ l' _ _ _ e1 e2 e3 F₄ N₄
    · obtain ⟨m₂, n₂, F₂, N₂', hn, hJ⟩ := rd_next hG hPa hl hi ho hits hR hr hok hsk (by assumption) (by assumption) (by assumption) (by assumption) (by assumption) n3 (by assumption) (by assumption) (by assumption) (by assumption) (hne _ (.tail _ (.head _))) (hne _ (.head _)) (fun p hp => hne p (.tail _ (.tail _ hp))) (by assumption) (by assumption) (by assumption)
      exact ⟨rfl, _, _, m₂, n₂, rfl, F₂, N₂', hn, hJ⟩
    · have hbad := (by assumption : lexAt tx p = none)
      obtain ⟨oL, hoL, hnf, hfr⟩ := hown
      have F₀ := fr_down hst FG ⟨oL, hoL⟩ (by assumption : Fr g' L' _ _)
      refine caught_X (hk := by rfl) (hlo := by rfl) (hx := by rfl) (hd' := by decide) rfl F₀ (by assumption) (by assumption) X (topRead_of T) (by k_is) ?_
      intro h7 oe tk7 F7 N7 hoc hod hof hnL hup
      obtain ⟨sl, eL⟩ := hup L oL hLL ((by assumption : Fr g' L' _ _).keep _ _ hoL) hnf
      have nL₀ : h₀.get? L = none := kts_self FG
      have N8 := (show News h₀ L' h7 ((L, { oL with slots := sl }) :: _) from fun q hq => (List.mem_cons.mp hq).elim (fun e => e ▸ ⟨eL, hLL, nL₀⟩) (fun hq => N7 q hq))
      clear N7
      have hJ : JMark := trivial
      k_steps
      unfold Halt
      rename JMark => hJ; clear hJ
      rename ExcK => cE
      refine get_excX (K := hd.heap_39 w.params) (C := 51) (v := .int p cE.vb) (od := some (excD w.params cE _ p)) PySem.F.attr_Exception (Frag.In.keeps X (Fr.keep (by assumption : Fr h₀ L' _ _))) ⟨((by assumption : News h₀ L' _ ((L, { oL with slots := sl }) :: (_, oe) :: _)) _ (.tail _ (.head _))).1, hoc, (by obtain ⟨ws, hw⟩ := hof; unfold notCls; rw [hw]), (by rw [hod]; exact ((by assumption : News h₀ L' _ ((L, { oL with slots := sl }) :: (_, oe) :: (_, excD _ _ _ _) :: _)) _ (.tail _ (.tail _ (.head _)))).1)⟩ (by kernel_rfl) (by kernel_rfl) (by kernel_rfl) (by kernel_rfl) rfl ?_
      k_steps
      have N9 := (by assumption : News h₀ L' _ ((_, _) :: (L, { oL with slots := sl }) :: _ :: _ :: _ :: R))
      have F9 := hfr sl _ (Fr.keep (by assumption : Fr h₀ L' _ _)) (N9 _ (.tail _ (.head _))).1
      have e0 : readF tx 100 at_ = (l.map (·.2), some p) := by
        rw [hr, show 100 - i = (100 - (i + 1)) + 1 by omega, read_bad hsk hbad]; simp
      subst hits
      exact hret _ fl _ l _ _ _ (by rw [e0]) (by rw [e0]; exact ⟨_, rfl⟩) hok F9 (rd_cut N9 hR (by assumption : @LT.lt Nat _ L _ ∧ _).1 (hnL _ (.head _) _ rfl))
  · rintro h tk m₂ news₁ F₁ N₁ ⟨l, a, te, nl, nn, u₁, u₂, rfl, rfl, hPa, hl, hi', hr, hok, n1, n2, n3⟩
    dsimp only
    k_steps
    obtain ⟨e1, e2, N₃⟩ := rd_done hr (by assumption)
    obtain ⟨F₄, N₄⟩ := hback _ _ _ _ (by assumption) N₃
    exact hret _ fl _ l _ _ _ e1 e2 hok F₄ N₄
end
end
section
noncomputable def layT (o : Option Bool) (c : Int) : Option Bool := match o with
  | none => none
  | some b => if ((⟨#[c.toNat]⟩ : Str) == Str.ofString "\n") = true then some false else if ((⟨#[c.toNat]⟩ : Str) == Str.ofString "#") = true then some true else if b = true then some b else if blankP ⟨#[c.toNat]⟩ = true then some b else none
noncomputable def layS (l : List Int) : Option Bool := l.foldl layT (some false)
theorem layS_snoc (l : List Int) (c : Int) : layS (l ++ [c]) = layT (layS l) c := by unfold layS; rw [List.foldl_append]; rfl
theorem layT_none : ∀ l : List Int, l.foldl layT none = none
  | [] => rfl
  | _ :: l => layT_none l
theorem lay_nl {l : List Int} {b : Bool} {n : Nat} (h : layS l = some b) (h1 : ((⟨#[n]⟩ : Str) == Str.ofString "\n") = true) : layS (l ++ [(n : Int)]) = some false := by
  rw [layS_snoc, h]; unfold layT; simp only [Int.toNat_natCast]; rw [if_pos h1]
theorem lay_sharp {l : List Int} {b : Bool} {n : Nat} (h : layS l = some b) (h1 : ((⟨#[n]⟩ : Str) == Str.ofString "\n") = false) (h2 : ((⟨#[n]⟩ : Str) == Str.ofString "#") = true) : layS (l ++ [(n : Int)]) = some true := by
  rw [layS_snoc, h]; unfold layT; simp only [Int.toNat_natCast]; rw [if_neg (Bool.eq_false_iff.mp h1), if_pos h2]
theorem lay_in {l : List Int} {b : Bool} {n : Nat} (h : layS l = some b) (h1 : ((⟨#[n]⟩ : Str) == Str.ofString "\n") = false) (h2 : ((⟨#[n]⟩ : Str) == Str.ofString "#") = false) (h3 : b = true) : layS (l ++ [(n : Int)]) = some b := by
  rw [layS_snoc, h]; unfold layT; simp only [Int.toNat_natCast]; rw [if_neg (Bool.eq_false_iff.mp h1), if_neg (Bool.eq_false_iff.mp h2), if_pos h3]
theorem lay_blank {l : List Int} {b : Bool} {n : Nat} (h : layS l = some b) (h1 : ((⟨#[n]⟩ : Str) == Str.ofString "\n") = false) (h2 : ((⟨#[n]⟩ : Str) == Str.ofString "#") = false) (h4 : (Builtin.Str.occurrences (Str.ofString " \t\r\x0c") ⟨#[n]⟩ 0 (Str.ofString " \t\r\x0c").length 1).isEmpty = false) : layS (l ++ [(n : Int)]) = some b := by
  rw [layS_snoc, h]; unfold layT; simp only [Int.toNat_natCast]
  rw [if_neg (Bool.eq_false_iff.mp h1), if_neg (Bool.eq_false_iff.mp h2)]
  have : blankP ⟨#[n]⟩ = true := by unfold blankP; rw [h4]; rfl
  by_cases hb : b = true
  · rw [if_pos hb]
  · rw [if_neg hb, if_pos this]
theorem lay_bad {l post all : List Int} {b : Bool} {n : Nat} (e : all = l ++ (n : Int) :: post) (h : layS l = some b) (h1 : ((⟨#[n]⟩ : Str) == Str.ofString "\n") = false) (h2 : ((⟨#[n]⟩ : Str) == Str.ofString "#") = false) (h3 : b = false) (h4 : (Builtin.Str.occurrences (Str.ofString " \t\r\x0c") ⟨#[n]⟩ 0 (Str.ofString " \t\r\x0c").length 1).isEmpty = true) : (layS all).isSome = false := by
  have e2 : layS (l ++ [(n : Int)]) = none := by
    rw [layS_snoc, h]; unfold layT; simp only [Int.toNat_natCast]
    rw [if_neg (Bool.eq_false_iff.mp h1), if_neg (Bool.eq_false_iff.mp h2), if_neg (by rw [h3]; decide)]
    have : blankP ⟨#[n]⟩ = false := by unfold blankP; rw [h4]; rfl
    rw [if_neg (by rw [this]; decide)]
  have e3 : layS all = none := by
    rw [e, show l ++ (n : Int) :: post = (l ++ [(n : Int)]) ++ post by simp]
    unfold layS at e2 ⊢
    rw [List.foldl_append, e2]; exact layT_none post
  rw [e3]; rfl
section
variable {w : World} {loose : List Str} {mean : ExcName → Option Value} {mg mb : Str → Option Value}
theorem s_layout {x : Str} {t : Tok} {news : List (Addr × Obj)} (hlen : x.length ≤ 1000) : Spec w loose mean mg mb 336 [.str x t] 4 news (Gives news fun _ => .bool (layS (KStt.codes x)).isSome) NoErr := by
  unfold Spec Gives NoErr
  k_fill
  k_with_none
  intro dp un gd cn cs a ccd cl outer A₀ base h₀ L m s Q E B F X N T hk hdp hu hret _
  refine wpAny_call ?_
  k_dflt (refine' code_def ?k1 ?k2 ?k3 ?k4 ?k5 ?kA ?kF ?kK ?k6 ?k7 ?k8 ?k9 ?kB ?_ ?c2 ?c3 ?c4 ?c5; (case kA => exact rfl); (case kF => exact rfl); (case kK => first | exact rfl | assumption); (case k1 => k_asm); (case k2 => k_asm); (case k3 => k_asm); (case k4 => k_asm); (case k5 => k_asm); (case k6 => k_is); (case k7 => k_is); (case k8 => k_room); (case k9 => first | exact BindsTo.of_eq rfl | exact binds_K (by k_in) rfl (by k_is) rfl rfl rfl | fail "k_enter: no rule for these arguments"); (case c5 => decide); (case kB => exact locs rfl); (case c2 => exact rfl); (case c3 => exact rfl); (case c4 => exact rfl); k_whole; intro _ _ _ _ _ _ BZ _ _; (try dsimp only); (try k_lift BZ); (try k_fold))
  (k_with "pyIter str" => k_state (fun pre r => layS pre = some r) "remark")
  (k_with "state" => first | exact rfl | exact lay_nl (by assumption) (by assumption) | exact lay_sharp (by assumption) (by assumption) (by assumption) | exact lay_in (by assumption) (by assumption) (by assumption) (by assumption) | exact lay_blank (by assumption) (by assumption) (by assumption) (by assumption) | exact (lay_in (by assumption) (by assumption) (by assumption) (by assumption)).trans (congrArg some (by assumption)) | exact (lay_blank (by assumption) (by assumption) (by assumption) (by assumption)).trans (congrArg some (by assumption)))
  k_steps
  · rw [lay_bad (by assumption) (by assumption) (by assumption) (by assumption) (by assumption) (by assumption)] at hret
    exact hret 0 _ _ (by assumption) (fun p hp => (by assumption : News h₀ L _ (news ++ _)) p (List.mem_append_left _ hp))
  · rw [(by assumption : layS (KStt.codes x) = some _)] at hret
    exact hret 0 _ _ (by assumption) (by assumption)
end
end
section
theorem allLt_ne9 {D : Addr} {l : List (Addr × Obj)} (h : AllLt D l) : ∀ p ∈ l, p.1 ≠ D := by
  induction l with
  | nil => intro p hp; cases hp
  | cons a r ih =>
    intro p hp
    rcases List.mem_cons.mp hp with rfl | hp
    · exact Nat.ne_of_lt h.1
    · exact ih h.2 p hp
section
variable {w : World} {loose : List Str} {mean : ExcName → Option Value} {mg mb : Str → Option Value}
theorem s_value_s {c : TokK} {kind x : Str} {tx : Tok} {at_ : Int} {nl : Bool} {news : List (Addr × Obj)} (hc : (c.t, instObj 114 c.dt) ∈ news) (hd : (c.dt, tokD w.params c kind (.str x tx) at_ nl) ∈ news) (hk : (kind == Str.ofString "num") = false) :
    Spec w loose mean mg mb 343 [.ref c.t] 4 news (Gives news fun _ => .str x tx) NoErr := by
  unfold Spec Gives NoErr
  k_fill
  k_with_none
  intro dp un gd cn cs a ccd cl outer A₀ base h₀ L m s Q E B F X N T hk' hdp hu hret _
  refine wpAny_call ?_
  k_dflt (refine' code_def ?k1 ?k2 ?k3 ?k4 ?k5 ?kA ?kF ?kK ?k6 ?k7 ?k8 ?k9 ?kB ?_ ?c2 ?c3 ?c4 ?c5; (case kA => exact rfl); (case kF => exact rfl); (case kK => first | exact rfl | assumption); (case k1 => k_asm); (case k2 => k_asm); (case k3 => k_asm); (case k4 => k_asm); (case k5 => k_asm); (case k6 => k_is); (case k7 => k_is); (case k8 => k_room); (case k9 => first | exact BindsTo.of_eq rfl | exact binds_K (by k_in) rfl (by k_is) rfl rfl rfl | fail "k_enter: no rule for these arguments"); (case c5 => decide); (case kB => exact locs rfl); (case c2 => exact rfl); (case c3 => exact rfl); (case c4 => exact rfl); k_whole; intro _ _ _ _ _ _ BZ _ _; (try dsimp only); (try k_lift BZ); (try k_fold))
  k_steps
  · exact hret 0 _ _ (by assumption) (by assumption)
theorem s_value_i {c : TokK} {kind : Str} {k : VecK} {n at_ : Int} {nl : Bool} {news : List (Addr × Obj)} (hc : (c.t, instObj 114 c.dt) ∈ news) (hd : (c.dt, tokD w.params c kind (.ref k.v) at_ nl) ∈ news) (hv : ∀ p ∈ intO w.params k n, p ∈ news) (hk : (kind == Str.ofString "num") = true) :
    Spec w loose mean mg mb 343 [.ref c.t] 4 news (fun h₀ L m s Q => ∀ (D l : Addr) (nn : Nat) (h' : Heap) (tk' : Nat), (∀ p ∈ news, p.1 ≠ D) → (∀ p ∈ news, p.1 ≠ l) → Fr h₀ L h' m → News h₀ L h' ((D, { cls := .type "tuple", data := .seq #[.str (Str.ofString "integer") k.va, .ref l] }) :: (l, PySem.W.listOf #[.int n k.vn] nn) :: news) → Q (.ref D) { s with heap := h', toks := tk' }) NoErr := by
  unfold Spec NoErr
  k_fill
  k_with_none
  intro dp un gd cn cs a ccd cl outer A₀ base h₀ L m s Q E B F X N T hk' hdp hu hret _
  have m1 : (k.v, instObj 78 k.dv) ∈ news := hv _ (.head _)
  have m2 : (k.dv, vecD w.params k (Str.ofString "integer")) ∈ news := hv _ (.tail _ (.head _))
  have m3 : (k.l, PySem.W.listOf #[.int n k.vn] k.nl) ∈ news := hv _ (.tail _ (.tail _ (.head _)))
  refine wpAny_call ?_
  k_dflt (refine' code_def ?k1 ?k2 ?k3 ?k4 ?k5 ?kA ?kF ?kK ?k6 ?k7 ?k8 ?k9 ?kB ?_ ?c2 ?c3 ?c4 ?c5; (case kA => exact rfl); (case kF => exact rfl); (case kK => first | exact rfl | assumption); (case k1 => k_asm); (case k2 => k_asm); (case k3 => k_asm); (case k4 => k_asm); (case k5 => k_asm); (case k6 => k_is); (case k7 => k_is); (case k8 => k_room); (case k9 => first | exact BindsTo.of_eq rfl | exact binds_K (by k_in) rfl (by k_is) rfl rfl rfl | fail "k_enter: no rule for these arguments"); (case c5 => decide); (case kB => exact locs rfl); (case c2 => exact rfl); (case c3 => exact rfl); (case c4 => exact rfl); k_whole; intro _ _ _ _ _ _ BZ _ _; (try dsimp only); (try k_lift BZ); (try k_fold))
  k_steps
  · rename _ < _ ∧ AllLt _ _ => q1
    rename ∀ q ∈ news, q.1 < _ => q2
    exact hret _ _ _ _ _ (allLt_ne9 q1.2) (fun p hp => Nat.ne_of_lt (q2 p hp)) (by assumption) (by assumption)
theorem s_value_d {c : TokK} {kind : Str} {k : VecK} {n d at_ : Int} {nl : Bool} {news : List (Addr × Obj)} (hc : (c.t, instObj 114 c.dt) ∈ news) (hd : (c.dt, tokD w.params c kind (.ref k.v) at_ nl) ∈ news) (hv : ∀ p ∈ dblO w.params k n d, p ∈ news) (hk : (kind == Str.ofString "num") = true) :
    Spec w loose mean mg mb 343 [.ref c.t] 4 news (fun h₀ L m s Q => ∀ (D l : Addr) (nn : Nat) (h' : Heap) (tk' : Nat), (∀ p ∈ news, p.1 ≠ D) → (∀ p ∈ news, p.1 ≠ l) → Fr h₀ L h' m → News h₀ L h' ((D, { cls := .type "tuple", data := .seq #[.str (Str.ofString "double") k.va, .ref l] }) :: (l, PySem.W.listOf #[.ref k.tp] nn) :: news) → Q (.ref D) { s with heap := h', toks := tk' }) NoErr := by
  unfold Spec NoErr
  k_fill
  k_with_none
  intro dp un gd cn cs a ccd cl outer A₀ base h₀ L m s Q E B F X N T hk' hdp hu hret _
  have m1 : (k.v, instObj 78 k.dv) ∈ news := hv _ (.head _)
  have m2 : (k.dv, vecD w.params k (Str.ofString "double")) ∈ news := hv _ (.tail _ (.head _))
  have m3 : (k.l, PySem.W.listOf #[.ref k.tp] k.nl) ∈ news := hv _ (.tail _ (.tail _ (.head _)))
  refine wpAny_call ?_
  k_dflt (refine' code_def ?k1 ?k2 ?k3 ?k4 ?k5 ?kA ?kF ?kK ?k6 ?k7 ?k8 ?k9 ?kB ?_ ?c2 ?c3 ?c4 ?c5; (case kA => exact rfl); (case kF => exact rfl); (case kK => first | exact rfl | assumption); (case k1 => k_asm); (case k2 => k_asm); (case k3 => k_asm); (case k4 => k_asm); (case k5 => k_asm); (case k6 => k_is); (case k7 => k_is); (case k8 => k_room); (case k9 => first | exact BindsTo.of_eq rfl | exact binds_K (by k_in) rfl (by k_is) rfl rfl rfl | fail "k_enter: no rule for these arguments"); (case c5 => decide); (case kB => exact locs rfl); (case c2 => exact rfl); (case c3 => exact rfl); (case c4 => exact rfl); k_whole; intro _ _ _ _ _ _ BZ _ _; (try dsimp only); (try k_lift BZ); (try k_fold))
  k_steps
  · rename _ < _ ∧ AllLt _ _ => q1
    rename ∀ q ∈ news, q.1 < _ => q2
    exact hret _ _ _ _ _ (allLt_ne9 q1.2) (fun p hp => Nat.ne_of_lt (q2 p hp)) (by assumption) (by assumption)
end
end
section
theorem news_tail' {h₀ h : Heap} {L : Addr} {a : Addr × Obj} {rest : List (Addr × Obj)} (N : News h₀ L h (a :: rest)) : News h₀ L h rest := fun p hp => N p (.tail _ hp)
theorem seq0 {v : Value} {tl : List Value} : seqIndex? 0 (v :: tl).toArray.size = some 0 := by
  unfold seqIndex?
  simp
section
variable {w : World} {loose : List Str} {mean : ExcName → Option Value} {mg mb : Str → Option Value}
theorem s_stone0 {l : Addr} {nn : Nat} {most : Int} {t : Tok} {rest : List (Addr × Obj)} (hm : 1 ≤ most) (hne : ∀ p ∈ rest, p.1 ≠ l) :
    Spec w loose mean mg mb 315 [.ref l, .int most t] 12 ((l, PySem.W.listOf #[] nn) :: rest) (fun h₀ L m s Q => ∀ (h' : Heap) (zt : Tok) (tk' : Nat), Fr h₀ L h' m → News h₀ L h' ((l, PySem.W.listOf #[] nn) :: rest) → Q (.int 0 zt) { s with heap := h', toks := tk' }) NoErr := by
  unfold Spec NoErr
  k_fill
  k_with_none
  (k_with "call builtin:list.pop" => (k_here; (with_reducible show wpAny _ _ (call (Value.builtin _) [Value.ref _, Value.int _ _]) _ _ _); k_dflt (refine' kl_popAt (k := 0) ?F ?N ?f ?k ?e ?U ?z ?_; (case F => k_asm); (case N => k_asm); (case U => k_upd); (case f => rfl); (case k => exact seq0); (case e => rfl); (case z => (simp only [List.length_cons]; rw [PySem.sizeLine_eq]; omega))); intro h9 F9 N9; (try dsimp only [List.nil_append, List.cons_append] at N9)))
  (k_with "compareOp NotEq ref ref" => (k_here; (with_reducible show wpAny _ _ (compareOp CmpOp.NotEq (Value.ref _) (Value.ref _)) _ _ _); k_dflt ((with_unfolding_all refine' ne_intsK ?k1 ?k2 ?k3 ?k4 ?k5 ?_; (case k1 => is_list); (case k2 => assumption); (case k3 => is_list); (case k4 => exact IntsAre.nil); (case k5 => ((try simp only [units_in1, units_deeper, Around.mark_units, units_caller]); (try dsimp only [ktrTop, cLine]); omega)); k_whole); (try simp only [filter_tt]))))
  intro dp un gd cn cs a ccd cl outer A₀ base h₀ L m s Q E B F X N T hk' hdp hu hret _
  have i0 : IntsAre ([] : List Value) [] := IntsAre.nil
  refine wpAny_call ?_
  k_dflt (refine' code_def ?k1 ?k2 ?k3 ?k4 ?k5 ?kA ?kF ?kK ?k6 ?k7 ?k8 ?k9 ?kB ?_ ?c2 ?c3 ?c4 ?c5; (case kA => exact rfl); (case kF => exact rfl); (case kK => first | exact rfl | assumption); (case k1 => k_asm); (case k2 => k_asm); (case k3 => k_asm); (case k4 => k_asm); (case k5 => k_asm); (case k6 => k_is); (case k7 => k_is); (case k8 => k_room); (case k9 => first | exact BindsTo.of_eq rfl | exact binds_K (by k_in) rfl (by k_is) rfl rfl rfl | fail "k_enter: no rule for these arguments"); (case c5 => decide); (case kB => exact locs rfl); (case c2 => exact rfl); (case c3 => exact rfl); (case c4 => exact rfl); k_whole; intro _ _ _ _ _ _ BZ _ _; (try dsimp only); (try k_lift BZ); (try k_fold))
  k_steps
  exact hret _ _ _ (by assumption) (news_tail' (by assumption))
theorem s_stone1 {z : Int} {tz : Tok} {tl : List Value} {l : Addr} {nn : Nat} {most : Int} {t : Tok} {rest : List (Addr × Obj)} (hm : 1 ≤ most) (hne : ∀ p ∈ rest, p.1 ≠ l) (hsz : tl.length ≤ 100) {its : List Int} (hi : IntsAre (Value.int z tz :: tl) (z :: its)) :
    Spec w loose mean mg mb 315 [.ref l, .int most t] 12 ((l, PySem.W.listOf (Value.int z tz :: tl).toArray nn) :: rest) (fun h₀ L m s Q => ∀ (h' : Heap) (zt : Tok) (nn' tk' : Nat), Fr h₀ L h' m → News h₀ L h' ((l, PySem.W.listOf tl.toArray nn') :: rest) → Q (.int (z.fmod most) zt) { s with heap := h', toks := tk' }) NoErr := by
  unfold Spec NoErr
  k_fill
  k_with_none
  (k_with "call builtin:list.pop" => (k_here; (with_reducible show wpAny _ _ (call (Value.builtin _) [Value.ref _, Value.int _ _]) _ _ _); k_dflt (refine' kl_popAt (k := 0) ?F ?N ?f ?k ?e ?U ?z ?_; (case F => k_asm); (case N => k_asm); (case U => k_upd); (case f => rfl); (case k => exact seq0); (case e => rfl); (case z => (simp only [List.length_cons]; rw [PySem.sizeLine_eq]; omega))); intro h9 F9 N9; (try dsimp only [List.nil_append, List.cons_append] at N9)))
  (k_with "compareOp NotEq ref ref" => (k_here; (with_reducible show wpAny _ _ (compareOp CmpOp.NotEq (Value.ref _) (Value.ref _)) _ _ _); k_dflt ((with_unfolding_all refine' ne_intsK ?k1 ?k2 ?k3 ?k4 ?k5 ?_; (case k1 => is_list); (case k2 => assumption); (case k3 => is_list); (case k4 => exact IntsAre.nil); (case k5 => ((try simp only [units_in1, units_deeper, Around.mark_units, units_caller]); (try dsimp only [ktrTop, cLine]); omega)); k_whole); (try simp only [filter_tt]))))
  intro dp un gd cn cs a ccd cl outer A₀ base h₀ L m s Q E B F X N T hk' hdp hu hret _
  have i0 : IntsAre ([] : List Value) [] := IntsAre.nil
  refine wpAny_call ?_
  k_dflt (refine' code_def ?k1 ?k2 ?k3 ?k4 ?k5 ?kA ?kF ?kK ?k6 ?k7 ?k8 ?k9 ?kB ?_ ?c2 ?c3 ?c4 ?c5; (case kA => exact rfl); (case kF => exact rfl); (case kK => first | exact rfl | assumption); (case k1 => k_asm); (case k2 => k_asm); (case k3 => k_asm); (case k4 => k_asm); (case k5 => k_asm); (case k6 => k_is); (case k7 => k_is); (case k8 => k_room); (case k9 => first | exact BindsTo.of_eq rfl | exact binds_K (by k_in) rfl (by k_is) rfl rfl rfl | fail "k_enter: no rule for these arguments"); (case c5 => decide); (case kB => exact locs rfl); (case c2 => exact rfl); (case c3 => exact rfl); (case c4 => exact rfl); k_whole; intro _ _ _ _ _ _ BZ _ _; (try dsimp only); (try k_lift BZ); (try k_fold))
  k_steps
  · exact absurd (of_decide_eq_true (by assumption : decide (z :: its = []) = true)) (by simp)
  · exact hret _ _ _ _ (by assumption) (news_tail' (by assumption))
theorem s_stone {vs : List Value} {items : List Int} {l : Addr} {nn : Nat} {most : Int} {t : Tok} {rest : List (Addr × Obj)} (hi : IntsAre vs items) (hsz : vs.length ≤ 100) (hm : 1 ≤ most) (hne : ∀ p ∈ rest, p.1 ≠ l) :
    Spec w loose mean mg mb 315 [.ref l, .int most t] 12 ((l, PySem.W.listOf vs.toArray nn) :: rest) (fun h₀ L m s Q => ∀ (z : Int) (zt : Tok) (vs' : List Value) (items' : List Int) (nn' : Nat) (h' : Heap) (tk' : Nat), 0 ≤ z → z < most → IntsAre vs' items' → vs'.length ≤ 100 → Fr h₀ L h' m → News h₀ L h' ((l, PySem.W.listOf vs'.toArray nn') :: rest) → Q (.int z zt) { s with heap := h', toks := tk' }) NoErr := by
  intro dp un gd cn cs a ccd cl outer A₀ base h₀ L m s Q E B F X N T hk' hdp hu hret he
  have hi' := hi
  cases hi with
  | nil => exact s_stone0 hm hne B F X N T hk' hdp hu (fun h' zt tk' F' N' => hret 0 zt [] [] nn h' tk' (by omega) (by omega) .nil (by simp) F' N') he
  | cons z0 t0 hr =>
    exact s_stone1 hm hne (by simp at hsz; omega) hi' B F X N T hk' hdp hu (fun h' zt nn' tk' F' N' => hret _ zt _ _ nn' h' tk' (Int.fmod_nonneg_of_pos _ (by omega)) (Int.fmod_lt_of_pos _ (by omega)) hr (by simp at hsz; omega) F' N') he
theorem news_swap {h₀ h : Heap} {L : Addr} {a b : Addr × Obj} {rest : List (Addr × Obj)} (N : News h₀ L h (a :: b :: rest)) : News h₀ L h (b :: a :: rest) := fun p hp => N p (by
  rcases List.mem_cons.mp hp with rfl | hp
  · exact .tail _ (.head _)
  rcases List.mem_cons.mp hp with rfl | hp
  · exact .head _
  · exact .tail _ (.tail _ hp))
theorem s_stone2 {vs : List Value} {items : List Int} {l md : Addr} {lst : Obj} {nn : Nat} {most : Int} {t : Tok} {rest : List (Addr × Obj)} (hi : IntsAre vs items) (hsz : vs.length ≤ 100) (hm : 1 ≤ most) (hne : ∀ p ∈ rest, p.1 ≠ l) (hmd : md ≠ l) :
    Spec w loose mean mg mb 315 [.ref l, .int most t] 12 ((md, lst) :: (l, PySem.W.listOf vs.toArray nn) :: rest) (fun h₀ L m s Q => ∀ (z : Int) (zt : Tok) (vs' : List Value) (items' : List Int) (nn' : Nat) (h' : Heap) (tk' : Nat), 0 ≤ z → z < most → IntsAre vs' items' → vs'.length ≤ 100 → Fr h₀ L h' m → News h₀ L h' ((md, lst) :: (l, PySem.W.listOf vs'.toArray nn') :: rest) → Q (.int z zt) { s with heap := h', toks := tk' }) NoErr := by
  intro dp un gd cn cs a ccd cl outer A₀ base h₀ L m s Q E B F X N T hk' hdp hu hret he
  exact s_stone (rest := (md, lst) :: rest) hi hsz hm (fun p hp => by
    rcases List.mem_cons.mp hp with rfl | hp
    · exact hmd
    · exact hne p hp) B F X (news_swap N) T hk' hdp hu (fun z zt vs' it' nn' h' tk' a b c d F' N' => hret z zt vs' it' nn' h' tk' a b c d F' (news_swap N')) he
theorem news_rot {h₀ h : Heap} {L : Addr} {a b c : Addr × Obj} {rest : List (Addr × Obj)} (N : News h₀ L h (a :: b :: c :: rest)) : News h₀ L h (b :: c :: a :: rest) := fun p hp => N p (by
  simp only [List.mem_cons] at hp ⊢
  rcases hp with h | h | h | h <;> simp [h])
theorem news_rot' {h₀ h : Heap} {L : Addr} {a b c : Addr × Obj} {rest : List (Addr × Obj)} (N : News h₀ L h (b :: c :: a :: rest)) : News h₀ L h (a :: b :: c :: rest) := fun p hp => N p (by
  simp only [List.mem_cons] at hp ⊢
  rcases hp with h | h | h | h <;> simp [h])
theorem s_stone3 {vs : List Value} {items : List Int} {l md : Addr} {x0 : Addr × Obj} {lst : Obj} {nn : Nat} {most : Int} {t : Tok} {rest : List (Addr × Obj)} (hi : IntsAre vs items) (hsz : vs.length ≤ 100) (hm : 1 ≤ most) (hne : ∀ p ∈ rest, p.1 ≠ l) (hmd : md ≠ l) (hx0 : x0.1 ≠ l) :
    Spec w loose mean mg mb 315 [.ref l, .int most t] 12 (x0 :: (md, lst) :: (l, PySem.W.listOf vs.toArray nn) :: rest) (fun h₀ L m s Q => ∀ (z : Int) (zt : Tok) (vs' : List Value) (items' : List Int) (nn' : Nat) (h' : Heap) (tk' : Nat), 0 ≤ z → z < most → IntsAre vs' items' → vs'.length ≤ 100 → Fr h₀ L h' m → News h₀ L h' (x0 :: (md, lst) :: (l, PySem.W.listOf vs'.toArray nn') :: rest) → Q (.int z zt) { s with heap := h', toks := tk' }) NoErr := by
  intro dp un gd cn cs a ccd cl outer A₀ base h₀ L m s Q E B F X N T hk' hdp hu hret he
  exact s_stone2 (rest := x0 :: rest) hi hsz hm (fun p hp => by
    rcases List.mem_cons.mp hp with rfl | hp
    · exact hx0
    · exact hne p hp) hmd B F X (news_rot N) T hk' hdp hu (fun z zt vs' it' nn' h' tk' a b c d F' N' => hret z zt vs' it' nn' h' tk' a b c d F' (news_rot' N')) he
end
end
section
noncomputable def pieces : List Str := ["a", "x", "if", "TRUE", "7", "1e", "0x", ".", "_", "L", "<", "-", ">", "# b", "\n", " ", "\t", "'q'", "\"a b\"", "`n`", "%o%", "(", "]", "[", "=", ":", "&", "|", "!", "*", ",", ";", "$", "@", "{", "~", "?", "\\", "r", "%", "3.5"].map Str.ofString
theorem rs_nat {z : Int} (h : 0 ≤ z) : Builtin.Range.rangeSize 0 z 1 = ((z.toNat : Nat) : Int) := by
  rw [PySem.rangeSize_one]
  split <;> omega
theorem allLt_ne2 {D : Addr} {l : List (Addr × Obj)} (h : AllLt D l) : ∀ p ∈ l, p.1 ≠ D := by
  induction l with
  | nil => intro p hp; cases hp
  | cons a r ih =>
    intro p hp
    rcases List.mem_cons.mp hp with rfl | hp
    · exact Nat.ne_of_lt h.1
    · exact ih h.2 p hp
/-- what a turn of the loop that lays the text finds -/
noncomputable def TxJ (md l : Addr) (rest : List (Addr × Obj)) (m₀ : Str → Option Value) (i : Nat) (m : Str → Option Value) (ns : List (Addr × Obj)) : Prop :=
  ∃ (vs us : List Value) (items : List Int) (pcs : List Str) (nn n2 : Nat) (u : Option Value), m = (fun y => if y = Str.ofString "step" then u else m₀ y) ∧ ns = (md, PySem.W.listOf us.toArray n2) :: (l, PySem.W.listOf vs.toArray nn) :: rest ∧
    IntsAre vs items ∧ vs.length ≤ 100 ∧ StrsAre us pcs ∧ pcs.length = i ∧ us.length = i ∧ (∀ p ∈ pcs, p ∈ pieces)
theorem strs_snoc {us : List Value} {pcs : List Str} {x : Str} {t : Tok} (h : StrsAre us pcs) : StrsAre (us ++ [Value.str x t]) (pcs ++ [x]) := by
  induction h with
  | nil => exact .cons _ _ .nil
  | cons _ _ _ ih => exact .cons _ _ ih
theorem tx_next {md l I L : Addr} {o : Obj} {rest R : List (Addr × Obj)} {m₀ : Str → Option Value} {i nn n2 : Nat} {vs us : List Value} {items : List Int} {pcs : List Str} {g h : Heap} {sv : Value} {u : Option Value} {z : Int} {tt : Tok} {xl : Addr × Obj} (hR : R = (I, o) :: rest) (hst : StrsAre us pcs) (hpl : pcs.length = i) (hul : us.length = i) (hpc : ∀ p ∈ pcs, p ∈ pieces) (hI1 : md ≠ I) (hI2 : l ≠ I) (hnI : ∀ p ∈ rest, p.1 ≠ I)
    (his : IntsAre vs items) (hsz : vs.length ≤ 100) (hz0 : 0 ≤ z) (hz1 : z < 41) (F : Fr g L h (fun y => if y = Str.ofString "step" then some sv else if y = Str.ofString "step" then u else m₀ y))
    (N : News g L h (xl :: (md, PySem.W.listOf (us.toArray.push (.str (pieces.getD z.toNat PySem.Str.empty) tt)) (n2 + 1)) :: (l, PySem.W.listOf vs.toArray nn) :: R)) :
    ∃ m₂ n₂, Fr g L h m₂ ∧ News g L h ([(I, o)] ++ n₂) ∧ (∀ p ∈ n₂, p.1 ∉ [I]) ∧ TxJ md l rest m₀ (i + 1) m₂ n₂ := by
  refine ⟨_, (md, PySem.W.listOf (us ++ [Value.str (pieces.getD z.toNat PySem.Str.empty) tt]).toArray (n2 + 1)) :: (l, PySem.W.listOf vs.toArray nn) :: rest, F, fun p hp => ?_, fun p hp hm => ?_, vs, us ++ [Value.str (pieces.getD z.toNat PySem.Str.empty) tt], items, pcs ++ [pieces.getD z.toNat PySem.Str.empty], nn, n2 + 1, some sv, ?_, rfl, his, hsz, strs_snoc hst, by simp [hpl], by simp [hul], fun p hp => ?_⟩
  · have e1 : (us ++ [Value.str (pieces.getD z.toNat PySem.Str.empty) tt]).toArray = us.toArray.push (.str (pieces.getD z.toNat PySem.Str.empty) tt) := by simp
    rw [e1] at hp
    refine N p ?_
    rw [hR]
    simp only [List.singleton_append, List.mem_cons] at hp ⊢
    rcases hp with h | h | h | h <;> simp [h]
  · have e := List.mem_singleton.mp hm
    rcases List.mem_cons.mp hp with rfl | hp
    · exact hI1 e
    rcases List.mem_cons.mp hp with rfl | hp
    · exact hI2 e
    exact hnI p hp e
  · funext y
    by_cases e : y = Str.ofString "step"
    · rw [if_pos e, if_pos e]
    · rw [if_neg e, if_neg e, if_neg e]
  · rcases List.mem_append.mp hp with hp | hp
    · exact hpc p hp
    · rw [List.mem_singleton.mp hp]
      have hl : z.toNat < pieces.length := by show z.toNat < 41; omega
      rw [List.getD_eq_getElem?_getD, List.getElem?_eq_getElem hl]
      exact List.getElem_mem hl
theorem pieces_len : ∀ {pcs : List Str}, (∀ p ∈ pcs, p ∈ pieces) → (pcs.map (·.length)).sum ≤ 5 * pcs.length := by
  intro pcs
  induction pcs with
  | nil => intro _; simp
  | cons a r ih =>
    intro h
    have h1 := ih fun p hp => h p (.tail _ hp)
    have h2 : ∀ p ∈ pieces, p.length ≤ 5 := by decide +kernel
    have h3 := h2 a (h a (.head _))
    simp only [List.map_cons, List.sum_cons, List.length_cons]
    omega
theorem fun_step {m₀ : Str → Option Value} : m₀ = fun y => if y = Str.ofString "step" then m₀ (Str.ofString "step") else m₀ y := by
  funext y
  by_cases e : y = Str.ofString "step"
  · subst e; rw [if_pos rfl]
  · rw [if_neg e]
theorem fr_arg1 {g h : Heap} {L : Addr} {n : Str} {v : Value} {m : Str → Option Value} (F : Fr g L h m) (e : m = fun y => List.lookup y [(n, v)]) : Fr g L h (fun y => if y = n then some v else none) := by
  subst e
  have q : (fun y => List.lookup y [(n, v)]) = (fun y => if y = n then some v else none) := by
    funext y
    by_cases h : y = n
    · subst h; simp [List.lookup]
    · rw [if_neg h]
      have : (y == n) = false := by simpa using h
      simp [List.lookup, this]
  rw [← q]; exact F
section
variable {w : World} {loose : List Str} {mean : ExcName → Option Value} {mg mb : Str → Option Value}
theorem s_text {vs : List Value} {items : List Int} {l : Addr} {nn : Nat} {rest : List (Addr × Obj)} (hi : IntsAre vs items) (hsz : vs.length ≤ 100) (hne : ∀ p ∈ rest, p.1 ≠ l) :
    Spec w loose mean mg mb 322 [.ref l] 16 ((l, PySem.W.listOf vs.toArray nn) :: rest) (fun h₀ L m s Q => ∀ (pcs : List Str) (t : Tok) (h' : Heap) (tk' : Nat), pcs.length ≤ 24 → (∀ p ∈ pcs, p ∈ pieces) → Fr h₀ L h' m → News h₀ L h' rest → Q (.str (Txt.join (Str.ofString "") pcs) t) { s with heap := h', toks := tk' }) NoErr := by
  unfold Spec NoErr
  k_fill
  k_with_none
  (k_with "call ref" => (k_here; (with_reducible show wpAny _ _ (call (Value.ref 315) _) _ _ _); k_dflt ((with_unfolding_all refine' s_stone2 ?q0 ?q1 ?q2 ?q3 ?q4 ?k1 ?k2 ?k3 ?k4 ?k5 ?kK ?kd ?ku ?_ ?ke); (case k1 => k_asm); (case k2 => k_asm); (case k3 => k_asm); (case k4 => k_asm); (case k5 => k_asm); (case q0 => assumption); (case q1 => omega); (case q2 => omega); (case q3 => first | assumption | k_all); (case q4 => first | assumption | k_ne); (case kK => first | exact rfl | assumption); (case kd => k_room); (case ku => ((try simp only [units_in1, units_deeper, Around.mark_units, units_caller]); (try dsimp only [ktrTop]); omega)); (case ke => exact trivial); k_whole; intro z9 zt9 vs9 it9 nn9 h9 tk9 lo9 hi9 is9 sz9 F9 N9; (try k_sweep); (try dsimp only); (try k_fold))))
  (k_with "call ref" => (k_here; (with_reducible show wpAny _ _ (call (Value.ref 315) _) _ _ _); k_dflt ((with_unfolding_all refine' s_stone3 ?q0 ?q1 ?q2 ?q3 ?q4 ?q5 ?k1 ?k2 ?k3 ?k4 ?k5 ?kK ?kd ?ku ?_ ?ke); (case k1 => k_asm); (case k2 => k_asm); (case k3 => k_asm); (case k4 => k_asm); (case k5 => k_asm); (case q0 => assumption); (case q1 => omega); (case q2 => omega); (case q3 => first | assumption | k_all); (case q4 => first | assumption | k_ne); (case q5 => first | assumption | k_ne); (case kK => first | exact rfl | assumption); (case kd => k_room); (case ku => ((try simp only [units_in1, units_deeper, Around.mark_units, units_caller]); (try dsimp only [ktrTop]); omega)); (case ke => exact trivial); k_whole; intro z9 zt9 vs9 it9 nn9 h9 tk9 lo9 hi9 is9 sz9 F9 N9; (try k_sweep); (try dsimp only); (try k_fold))))
  (k_with "call builtin:str.join" => (k_here; (rename StrsAre _ _ => hzz); (with_reducible show wpAny _ _ (call (Value.builtin _) [Value.str _ _, Value.ref _]) _ _ _); k_dflt (refine' join_listW ?il ?hi ?h1 ?h2 ?_; (case il => is_list); (case hi => assumption); (case h1 => decide +kernel); (case h2 => omega); intro _ _)))
  (k_with "callWith" => (k_here; (rename StrsAre _ _ => hzz); k_dflt (refine' PyProof.Rows.callWith_method1 ?h ?he ?hp; (case he => rfl); (case hp => rfl))))
  (k_with "getMethod ref" => (k_here; (rename StrsAre _ _ => hzz); (with_reducible show wpAny _ _ (getMethod (Value.ref _) (PySem.Str.ofString "append") _) _ _ _); k_dflt (refine' listMethod_K ?N ?m PySem.F.slot_list_append PySem.F.type_list_append ?_; (case N => assumption); (case m => exact List.Mem.head _))))
  (k_with "pyIter ref" => (k_here; (with_reducible show wpAny _ _ (pyIter (Value.ref _)) (fun it s₂ => LoopAtV _ _ _ _ _ _ _ _ _ it s₂) _ _); refine' Halt.mk ?_))
  (k_with "call builtin:list.append" => (k_here; (with_reducible show wpAny _ _ (call (Value.builtin _) [Value.ref _, _]) _ _ _); k_dflt (refine' append_K ?k1 ?k2 ?k3 ?_ ?z; (case k1 => k_asm); (case k2 => k_asm); (case k3 => k_upd); (case z => (rw [PySem.sizeLine_eq]; (try simp only [List.size_toArray]); omega)); k_whole; intro h9 F9 N9; (try k_sweep); (try dsimp only); (try k_fold))))
  intro dp un gd cn cs a ccd cl outer A₀ base h₀ L m s Q E B F X N T hk' hdp hu hret _
  refine wpAny_call ?_
  k_dflt ((refine' code_def ?k1 ?k2 ?k3 ?k4 ?k5 ?kA ?kF ?kK ?k6 ?k7 ?k8 ?k9 ?kB ?_ ?c2 ?c3 ?c4 ?c5); (case kA => exact rfl); (case kF => exact rfl); (case kK => first | exact rfl | assumption); (case k1 => k_asm); (case k2 => k_asm); (case k3 => k_asm); (case k4 => k_asm); (case k5 => k_asm); (case k6 => k_is); (case k7 => k_is); (case k8 => k_room); (case k9 => first | exact BindsTo.of_eq rfl | exact binds_K (by k_in) rfl (by k_is) rfl rfl rfl); (case c5 => decide); (case kB => exact locs rfl); (case c2 => exact rfl); (case c3 => exact rfl); (case c4 => exact rfl); k_whole; intro g' L' h' FG F' N' B' X' T'; (try dsimp only); (try k_lift B'); (try k_fold))
  replace F' := fr_arg1 (n := Str.ofString "stones") (v := .ref l) F' (by with_unfolding_all rfl)
  k_steps
  unfold Halt
  obtain ⟨md, z, vs₁, its₁, nn₁, hN, hF, hrg, hz, hz2, his, hsz₁, hmd, hlt⟩ : ∃ (md : Addr) (z : Int) (vs₁ : List Value) (its₁ : List Int) (nn₁ : Nat), News g' L' _ ((md, PySem.W.listOf #[] 0) :: (l, PySem.W.listOf vs₁.toArray nn₁) :: rest) ∧ Fr g' L' _ (fun y => if y = Str.ofString "made" then some (.ref md) else if y = Str.ofString "stones" then some (.ref l) else none) ∧ PySem.IsRange _ _ 0 z 1 _ _ _ ∧ 0 ≤ z ∧ z < 25 ∧ IntsAre vs₁ its₁ ∧ vs₁.length ≤ 100 ∧ @LT.lt Nat _ l md ∧ AllLt md rest :=
    ⟨_, _, _, _, _, by assumption, by assumption, by assumption, by assumption, by assumption, by assumption, by assumption, (by assumption : @LT.lt Nat _ l _ ∧ _).1, (by assumption : @LT.lt Nat _ l _ ∧ _).2⟩
  refine loop_range (n := z.toNat) (TxJ md l rest (fun y => if y = Str.ofString "made" then some (.ref md) else if y = Str.ofString "stones" then some (.ref l) else none)) rfl hrg (PySem.small_one (by decide) (by decide) (by omega) (by omega)) (rs_nat hz) hF hN ?_ ?_ ?_
  · exact ⟨vs₁, [], its₁, [], nn₁, 0, _, fun_step, rfl, his, hsz₁, .nil, rfl, rfl, fun _ h => nomatch h⟩
  · rintro i t' m₂ news₁ h tk o I hi ho ⟨vs₂, us, items₂, pcs, nn₂, n2, u, rfl, rfl, hi2, hs2, hst, hpl, hul, hpc⟩ hne₁ F₁ N₁
    have hI1 := neN (hne₁ _ (.head _))
    have hI2 := neN (hne₁ _ (.tail _ (.head _)))
    obtain ⟨R, hR⟩ : ∃ R, R = (I, o) :: rest := ⟨_, rfl⟩
    have N₂ : News g' L' h ((md, PySem.W.listOf us.toArray n2) :: (l, PySem.W.listOf vs₂.toArray nn₂) :: R) := by
      rw [hR]
      exact fun p hp => N₁ p (by
        simp only [List.mem_cons] at hp ⊢
        rcases hp with h | h | h | h <;> simp [h])
    have y1 : ∀ p ∈ R, p.1 ≠ l := by
      rw [hR]; intro p hp
      rcases List.mem_cons.mp hp with rfl | hp
      · exact fun e => hI2 e.symm
      · exact hne p hp
    have y2 : ∀ p ∈ R, p.1 ≠ md := by
      rw [hR]; intro p hp
      rcases List.mem_cons.mp hp with rfl | hp
      · exact fun e => hI1 e.symm
      · exact allLt_ne2 hlt p hp
    clear N₁ hN hF
    dsimp only at F₁
    k_steps
    obtain ⟨m₃, n₃, F₃, N₃, hn, hJ⟩ := tx_next hR (by assumption) hpl hul hpc (hne₁ _ (.head _)) (hne₁ _ (.tail _ (.head _))) (fun p hp => hne₁ p (.tail _ (.tail _ hp))) (by assumption) (by assumption) (by assumption) (by assumption) (by assumption) (by assumption)
    exact ⟨rfl, _, _, m₃, n₃, rfl, F₃, N₃, hn, hJ⟩
  · rintro h tk m₂ news₁ F₁ N₁ ⟨vs₂, us, items₂, pcs, nn₂, n2, u, rfl, rfl, hi2, hs2, hst, hpl, hul, hpc⟩
    dsimp only at F₁
    have hsum := pieces_len hpc
    k_steps
    exact hret _ _ _ _ (by omega) hpc (by assumption) (fun p hp => (by assumption : News h₀ L _ ((_, _) :: (_, _) :: rest)) p (.tail _ (.tail _ hp)))
end
end
section
theorem isList_keeps {h g : Heap} {a : Addr} {arr : Array Value} (x : h.IsList a arr) (k : ∀ b o, h.get? b = some o → g.get? b = some o) : g.IsList a arr := by
  obtain ⟨o, hn, r⟩ := x
  exact ⟨o, k _ _ hn, r⟩
theorem ints_snoc9 {us : List Value} {its : List Int} {z : Int} {t : Tok} (hi : IntsAre us its) : IntsAre (us ++ [Value.int z t]) (its ++ [z]) := by
  induction hi with
  | nil => exact .cons _ _ .nil
  | cons _ _ _ ih => exact .cons _ _ ih
theorem ints_len9 {us : List Value} {its : List Int} (hi : IntsAre us its) : us.length = its.length := by
  induction hi with
  | nil => rfl
  | cons _ _ _ ih => simp [ih]
theorem ints_snocN {h g : Heap} {L l : Addr} {x : Addr × Obj} {us : List Value} {its : List Int} {z : Int} {t : Tok} {k : Nat} {rest : List (Addr × Obj)} (N : News h L g (x :: (l, PySem.W.listOf (us ++ [Value.int z t]).toArray k) :: rest)) (hi : IntsAre us its) : IntsAre (us ++ [Value.int z t]) (its ++ [z]) := ints_snoc9 hi
section
variable {w : World} {loose : List Str} {mean : ExcName → Option Value} {mg mb : Str → Option Value}
theorem s_heap {ns : List Int} {vs : List Value} {sc : Addr} {news : List (Addr × Obj)} (hi : IntsAre vs ns) (hlen : ns.length ≤ 63) :
    Spec w loose mean mg mb 308 [.ref sc] 16 news (fun h₀ L m s Q => h₀.IsList sc vs.toArray ∧ ∀ (D : Addr) (us : List Value) (its : List Int) (nn : Nat) (h' : Heap) (tk' : Nat), IntsAre us its → us.length ≤ 60 → (∀ p ∈ news, p.1 ≠ D) → Fr h₀ L h' m → News h₀ L h' ((D, PySem.W.listOf us.toArray nn) :: news) → Q (.ref D) { s with heap := h', toks := tk' }) NoErr := by
  unfold Spec NoErr
  k_fill
  k_with_none
  intro dp un gd cn cs a ccd cl outer A₀ base h₀ L m s Q E B F X N T hk' hdp hu ⟨hsc, hret⟩ _
  refine wpAny_call ?_
  k_dflt ((refine' code_def ?k1 ?k2 ?k3 ?k4 ?k5 ?kA ?kF ?kK ?k6 ?k7 ?k8 ?k9 ?kB ?_ ?c2 ?c3 ?c4 ?c5); (case kA => exact rfl); (case kF => exact rfl); (case kK => first | exact rfl | assumption); (case k1 => k_asm); (case k2 => k_asm); (case k3 => k_asm); (case k4 => k_asm); (case k5 => k_asm); (case k6 => k_is); (case k7 => k_is); (case k8 => k_room); (case k9 => first | exact BindsTo.of_eq rfl | exact binds_K (by k_in) rfl (by k_is) rfl rfl rfl); (case c5 => decide); (case kB => exact locs rfl); (case c2 => exact rfl); (case c3 => exact rfl); (case c4 => exact rfl); k_whole; intro g' L' h' FG F' N' B' X' T'; (try dsimp only); (try k_lift B'); (try k_fold))
  have hsc2 : g'.IsList sc vs.toArray := isList_keeps hsc FG.keep
  (k_with "pyIter ref" => k_state (fun pre stones => stones.length ≤ 60 + pre.length) "stones")
  (k_with "exec While BoolOp cons nil" => (k_here; (rename News _ _ _ _ => nE'); (simp only [List.push_toArray] at nE'); (rename IntsAre _ _ => hzz); (have hzy := ints_snocN nE' hzz); (k_while (fun _ left stones => stones.length ≤ 61 + kPre.length) (fun _ left stones => left.toNat) "left" "stones")))
  (k_with "state" => first | (show _ ≤ _; (have h9 := congrArg List.length kEq); (simp only [List.length_take, List.length_append, List.length_cons, List.length_nil] at *); omega) | (simp only [List.length_nil, Nat.zero_le, Nat.le_add_left]))
  (k_with "measure" => ((rw [Int.fdiv_eq_ediv_of_nonneg _ (by decide : (0:Int) ≤ 211)]); omega))
  k_steps
  all_goals
    rename News h₀ _ _ _ => nZ
    rename Fr h₀ _ _ _ => fZ
    rename IntsAre _ (List.take 60 _) => iZ
    rename (List.take 60 _).length = _ => lZ
    rename _ < _ ∧ _ < _ ∧ AllLt _ _ => aZ
    have e9 := ints_len9 iZ
    refine hret _ _ _ 0 _ _ iZ (by omega) (allLt_ne2 aZ.2.2) fZ (fun p hp => nZ p ?_)
    rcases List.mem_cons.mp hp with rfl | hp
    · exact .head _
    · exact .tail _ (.tail _ (.tail _ hp))
end
end
section
/-- what a value reads as, wherever these objects stand -/
noncomputable def Reading (news : List (Addr × Obj)) (v : Value) (d : PyData) : Prop := ∀ g : Heap, (∀ p ∈ news, g.get? p.1 = some p.2) → ∃ as, Reads g v d as
theorem Reading.mono {news news' : List (Addr × Obj)} {v : Value} {d : PyData} (h : Reading news v d) (hs : ∀ p ∈ news, p ∈ news') : Reading news' v d := fun g hg => h g fun p hp => hg p (hs p hp)
theorem Reading.str (news : List (Addr × Obj)) (x : Str) (t : Tok) : Reading news (.str x t) (.str x) := fun _ _ => ⟨_, .str x t⟩
theorem Reading.int (news : List (Addr × Obj)) (x : Int) (t : Tok) : Reading news (.int x t) (.int x) := fun _ _ => ⟨_, .int x t⟩
theorem Reading.bool (news : List (Addr × Obj)) (b : Bool) : Reading news (.bool b) (.bool b) := fun _ _ => ⟨_, .bool b⟩
theorem Reading.pair {news : List (Addr × Obj)} {a : Addr} {v v' : Value} {d d' : PyData} (ha : (a, ({ cls := .type "tuple", data := .seq #[v, v'] } : Obj)) ∈ news) (h : Reading news v d) (h' : Reading news v' d') : Reading news (.ref a) (.tuple [d, d']) := fun g hg => by
  obtain ⟨_, r⟩ := h g hg
  obtain ⟨_, r'⟩ := h' g hg
  exact ⟨_, .tuple (hg _ ha) rfl rfl (.cons r (.cons r' .nil))⟩
theorem Reading.triple {news : List (Addr × Obj)} {a : Addr} {v v' v'' : Value} {d d' d'' : PyData} (ha : (a, ({ cls := .type "tuple", data := .seq #[v, v', v''] } : Obj)) ∈ news) (h : Reading news v d) (h' : Reading news v' d') (h'' : Reading news v'' d'') : Reading news (.ref a) (.tuple [d, d', d'']) := fun g hg => by
  obtain ⟨_, r⟩ := h g hg
  obtain ⟨_, r'⟩ := h' g hg
  obtain ⟨_, r''⟩ := h'' g hg
  exact ⟨_, .tuple (hg _ ha) rfl rfl (.cons r (.cons r' (.cons r'' .nil)))⟩
theorem Reading.list1 {news : List (Addr × Obj)} {a : Addr} {v : Value} {d : PyData} {nn : Nat} (ha : (a, PySem.W.listOf #[v] nn) ∈ news) (h : Reading news v d) : Reading news (.ref a) (.list [d]) := fun g hg => by
  obtain ⟨_, r⟩ := h g hg
  exact ⟨_, .list (hg _ ha) rfl rfl (.cons r .nil)⟩
/-- the new objects stand apart from the old -/
noncomputable def AddOff (add news : List (Addr × Obj)) : Prop := ∀ p ∈ add, ∀ q ∈ news, q.1 ≠ p.1
theorem addOff2 {a b : Addr × Obj} {news : List (Addr × Obj)} (h : ∀ p ∈ news, p.1 ≠ a.1) (h' : ∀ p ∈ news, p.1 ≠ b.1) : AddOff [a, b] news := fun p hp q hq => by
  rcases List.mem_cons.mp hp with rfl | hp
  · exact h q hq
  · rw [List.mem_singleton.mp hp]; exact h' q hq
theorem addOff_cons {a : Addr × Obj} {add news : List (Addr × Obj)} (h : ∀ p ∈ add ++ news, p.1 < a.1) (h' : AddOff add news) : AddOff (a :: add) news := fun p hp q hq => by
  rcases List.mem_cons.mp hp with rfl | hp
  · exact Nat.ne_of_lt (h q (List.mem_append_right _ hq))
  · exact h' p hp q hq
noncomputable def valD : TV → PyData
  | .str x => .str x
  | .int n => .tuple [.str (Str.ofString "integer"), .list [.int n]]
  | .dbl n d => .tuple [.str (Str.ofString "double"), .list [.tuple [.int n, .int d]]]
noncomputable def isNum : TV → Bool
  | .str _ => false
  | _ => true
section
variable {w : World} {loose : List Str} {mean : ExcName → Option Value} {mg mb : Str → Option Value}
theorem s_value {c : TokK} {kind : Str} {tv : TV} {v : Value} {add : List (Addr × Obj)} {at_ : Int} {nl : Bool} {news : List (Addr × Obj)} (hc : (c.t, instObj 114 c.dt) ∈ news) (hd : (c.dt, tokD w.params c kind v at_ nl) ∈ news) (hv : ValIs w.params tv v add) (ha : ∀ p ∈ add, p ∈ news) (hk : (kind == Str.ofString "num") = isNum tv) :
    Spec w loose mean mg mb 343 [.ref c.t] 4 news (fun h₀ L m s Q => ∀ (v2 : Value) (add2 : List (Addr × Obj)) (h' : Heap) (tk' : Nat), AddOff add2 news → Reading (add2 ++ add) v2 (valD tv) → Fr h₀ L h' m → News h₀ L h' (add2 ++ news) → Q v2 { s with heap := h', toks := tk' }) NoErr := by
  intro dp un gd cn cs a ccd cl outer A₀ base h₀ L m s Q E B F X N T hk' hdp hu hret herr
  cases tv with
  | str x =>
    obtain ⟨rfl, t, rfl⟩ := hv
    exact s_value_s hc hd hk B F X N T hk' hdp hu (fun t' h' tk' F' N' => hret _ [] h' tk' (fun _ h => nomatch h) (.str _ _ _) F' N') herr
  | int n =>
    obtain ⟨k, rfl, rfl⟩ := hv
    refine s_value_i (k := k) hc hd ha hk B F X N T hk' hdp hu (fun D l nn h' tk' n1 n2 F' N' => hret _ [_, _] h' tk' (addOff2 n1 n2) ?_ F' N') herr
    exact .pair (.head _) (.str _ _ _) (.list1 (.tail _ (.head _)) (.int _ _ _))
  | dbl n d =>
    obtain ⟨k, rfl, rfl⟩ := hv
    refine s_value_d (k := k) (n := n) (d := d) hc hd ha hk B F X N T hk' hdp hu (fun D l nn h' tk' n1 n2 F' N' => hret _ [_, _] h' tk' (addOff2 n1 n2) ?_ F' N') herr
    exact .pair (.head _) (.str _ _ _) (.list1 (.tail _ (.head _)) (.pair (.tail _ (.tail _ (.tail _ (.tail _ (.tail _ (.head _)))))) (.int _ _ _) (.int _ _ _)))
end
end
section
noncomputable def shownD (kind : Str) (tv : TV) (nl : Bool) : PyData := .tuple [.str kind, valD tv, .bool nl]
section
variable {w : World} {loose : List Str} {mean : ExcName → Option Value} {mg mb : Str → Option Value}
theorem s_shown {c : TokK} {kind : Str} {tv : TV} {v : Value} {add : List (Addr × Obj)} {at_ : Int} {nl : Bool} {news : List (Addr × Obj)} (hc : (c.t, instObj 114 c.dt) ∈ news) (hd : (c.dt, tokD w.params c kind v at_ nl) ∈ news) (hv : ValIs w.params tv v add) (ha : ∀ p ∈ add, p ∈ news) (hk : (kind == Str.ofString "num") = isNum tv) :
    Spec w loose mean mg mb 350 [.ref c.t] 8 news (fun h₀ L m s Q => ∀ (v2 : Value) (add2 : List (Addr × Obj)) (h' : Heap) (tk' : Nat), AddOff add2 news → Reading (add2 ++ add) v2 (shownD kind tv nl) → Fr h₀ L h' m → News h₀ L h' (add2 ++ news) → Q v2 { s with heap := h', toks := tk' }) NoErr := by
  unfold Spec NoErr
  k_fill
  k_with_none
  (k_with "call ref" => (k_here; (with_reducible show wpAny _ _ (call (Value.ref 343) _) _ _ _); k_dflt ((with_unfolding_all refine' s_value ?q0 ?q1 ?q2 ?q3 ?q4 ?k1 ?k2 ?k3 ?k4 ?k5 ?kK ?kd ?ku ?_ ?ke); (case k1 => k_asm); (case k2 => k_asm); (case k3 => k_asm); (case k4 => k_asm); (case k5 => k_asm); (case q0 => k_mem); (case q1 => k_mem); (case q2 => assumption); (case q3 => assumption); (case q4 => assumption); (case kK => first | exact rfl | assumption); (case kd => k_room); (case ku => ((try simp only [units_in1, units_deeper, Around.mark_units, units_caller]); (try dsimp only [ktrTop]); omega)); (case ke => exact trivial); k_whole; intro v9 a9 h9 tk9 ao9 rd9 F9 N9; (try k_sweep); (try dsimp only); (try k_fold))))
  intro dp un gd cn cs a ccd cl outer A₀ base h₀ L m s Q E B F X N T hk' hdp hu hret _
  refine wpAny_call ?_
  k_dflt (refine' code_def ?k1 ?k2 ?k3 ?k4 ?k5 ?kA ?kF ?kK ?k6 ?k7 ?k8 ?k9 ?kB ?_ ?c2 ?c3 ?c4 ?c5; (case kA => exact rfl); (case kF => exact rfl); (case kK => first | exact rfl | assumption); (case k1 => k_asm); (case k2 => k_asm); (case k3 => k_asm); (case k4 => k_asm); (case k5 => k_asm); (case k6 => k_is); (case k7 => k_is); (case k8 => k_room); (case k9 => first | exact BindsTo.of_eq rfl | exact binds_K (by k_in) rfl (by k_is) rfl rfl rfl | fail "k_enter: no rule for these arguments"); (case c5 => decide); (case kB => exact locs rfl); (case c2 => exact rfl); (case c3 => exact rfl); (case c4 => exact rfl); k_whole; intro _ _ _ _ _ _ BZ _ _; (try dsimp only); (try k_lift BZ); (try k_fold))
  k_steps
  rename Reading _ _ _ => hrd
  rename AddOff _ _ => hao
  exact hret _ (_ :: _) _ _ (addOff_cons (by assumption) hao) (.triple (.head _) (.str _ _ _) (hrd.mono fun p hp => .tail _ hp) (.bool _ _)) (by assumption) (by assumption)
end
end
section
section
open PySem.Calls
variable {prog : Program} {w : World} {A : Around} {s : Shared} {h₀ : Heap} {news : List (Addr × Obj)}
/-- what a turn leaves behind -/
noncomputable def StepF (h₀ : Heap) (L : Addr) (news : List (Addr × Obj)) (J : (Str → Option Value) → Prop) (s₁ : Shared) (f : Flow) (s₄ : Shared) : Prop :=
  f = .next ∧ ∃ h' tk' m', s₄ = { s₁ with heap := h', toks := tk' } ∧ Fr h₀ L h' m' ∧ News h₀ L h' news ∧ J m'
/-- a loop over a list of the ledger, any target: the ledger stays from turn to turn -/
theorem loop_pairs {E : Value → Shared → Prop} {Q : Flow → Shared → Prop} {env : Env} {target : PySem.Expr} {body : List Stmt} {l : Addr} {vs : List Value} {nn : Nat} {m₀ : Str → Option Value} (J : Nat → (Str → Option Value) → Prop)
    (hh : A.handled = none) (hl : (l, PySem.W.listOf vs.toArray nn) ∈ news) (F : Fr h₀ env.locals s.heap m₀) (N : News h₀ env.locals s.heap news) (h0 : J 0 m₀)
    (turn : ∀ (i : Nat) v m₁ h g d tk os (I : Addr) (oI : Obj), vs[i]? = some v → J i m₁ → oI.cls = .type "list_iterator" → (∀ p ∈ news, p.1 ≠ I) → Fr h₀ env.locals h m₁ → News h₀ env.locals h ((I, oI) :: news) →
      wpAny (model prog w) A (assign target env v) (fun _ s₃ => wpAny (model prog w) A (execs body env) (StepF h₀ env.locals ((I, oI) :: news) (J (i + 1)) { heap := h, gens := g, drawn := d, toks := tk, os := os }) E s₃) E { heap := h, gens := g, drawn := d, toks := tk, os := os })
    (done : ∀ h tk m₁, Fr h₀ env.locals h m₁ → News h₀ env.locals h news → J vs.length m₁ → Q .next { s with heap := h, toks := tk })
    (hgo : ∀ (s' : Shared) (I : Addr) (i : Nat) (v : Value) (Q' : Unit → Shared → Prop), s'.heap.IsListIter I l i → Q' () s' → wpAny (model prog w) A (letOwnedTupleGo target (.ref I) v) Q' E s') :
    wpAny (model prog w) A (pyIter (.ref l)) (fun it s₂ => LoopAtT prog w A h₀ env target body Q E it s₂) E s := by
  have hol : s.heap.get? l = some (PySem.W.listOf vs.toArray nn) := (N _ hl).1
  have hls : s.heap.IsList l vs.toArray := ⟨_, hol, rfl, nn, rfl⟩
  have hne : l ≠ s.heap.objs.size := Nat.ne_of_lt (Heap.lt_size hol)
  refine wpAny_pyIter_list hls ?_
  have W := Walks.list (prog := prog) (w := w) hh s.heap.objs.size l hne vs.toArray
  have hlen : vs.toArray.size = vs.length := by simp
  rw [hlen] at W
  have hI0 : h₀.get? s.heap.objs.size = none := next_is_new F
  have hnI : ∀ p ∈ news, p.1 ≠ s.heap.objs.size := fun p hp => Nat.ne_of_lt (Heap.lt_size (N p hp).1)
  refine ⟨_, _, _, vs.length, _, _, m₀, news, (fun i m nx => nx = news ∧ J i m), rfl, W, ?_, ?_, ?_, ⟨⟨_, Heap.get?_push_size _ rfl, rfl, rfl⟩, hls.at fun o e => Heap.get?_push_of_some _ e⟩, F.push _, (fun p hp => ⟨Heap.get?_push_of_some _ (N p hp).1, (N p hp).2⟩), ?_, ⟨rfl, h0⟩, ?_, ?_⟩
  · intro hm
    rcases List.mem_cons.mp hm with e | hm
    · exact absurd F.ns.lt (e ▸ Nat.lt_irrefl _)
    · exact (N _ hl).2.1 ((List.mem_singleton.mp hm).symm)
  · intro b hb
    rw [List.mem_singleton.mp hb]
    exact hI0
  · intro p hp hI
    exact hnI p hp (List.mem_singleton.mp hI)
  · intro i s' v Q' st hQ'
    exact hgo s' _ i v Q' st.1 hQ'
  · rintro i v m₁ news₁ ⟨h, g, d, tk, os⟩ own hi hP ⟨rfl, hJ⟩ hnw hown hownat hfp hst F₁ N₁
    obtain ⟨oI, hoI, hcI, _⟩ := hst.1
    have hin : (s.heap.objs.size, oI) ∈ own := hfp _ (.head _) hI0 _ hoI
    have hN : News h₀ env.locals h ((s.heap.objs.size, oI) :: news₁) := fun q hq => by
      rcases List.mem_cons.mp hq with rfl | hq
      · exact N₁ _ (List.mem_append_left _ hin)
      · exact N₁ _ (List.mem_append_right _ hq)
    have hv : vs[i]? = some v := by simpa using hP
    refine wpAny_mono (turn i v m₁ h g d tk os _ oI hv hJ hcI hnI F₁ hN) (fun _ s₃ h₃ => wpAny_mono h₃ (fun f s₄ h₄ => ?_) fun _ _ e => e) fun _ _ e => e
    obtain ⟨rfl, h', tk', m', rfl, F', N', hJ'⟩ := h₄
    refine ⟨rfl, h', tk', m', news₁, rfl, F', fun q hq => ?_, hnw, rfl, hJ'⟩
    rcases List.mem_append.mp hq with hq | hq
    · have e1 := hown q hq
      have a1 := hownat q hq
      obtain ⟨q1, q2⟩ := q
      dsimp only at e1 a1
      rcases List.mem_cons.mp e1 with rfl | e1
      · have a2 := hownat _ hin
        dsimp only at a2
        rw [a2] at a1
        cases a1
        exact N' _ (.head _)
      · have e2 := List.mem_singleton.mp e1
        subst e2
        have a3 := (N₁ _ (List.mem_append_right _ hl)).1
        dsimp only at a3
        rw [a3] at a1
        cases a1
        exact N' _ (.tail _ hl)
    · exact N' _ (.tail _ hq)
  · rintro h' tk m' news' F' N' _ ⟨rfl, hJ⟩
    exact done h' tk m' F' N' hJ
end
end
section
/-- where the tokens end that were read so far -/
noncomputable def behindR : List Rec → Int
  | [] => 0
  | [r] => r.en
  | _ :: r :: l => behindR (r :: l)
noncomputable def layB (x : Str) : Bool := (layS (KStt.codes x)).isSome
noncomputable def nlIn (x : Str) : Bool := decide (10 ∈ x.cps.toList)
noncomputable def tvOk : TV → Bool
  | .str x => PyData.strOk x
  | _ => true
/-- what the law asks of a text, in plain words -/
structure LawOK (tx : Str) : Prop where
  hlen : tx.length ≤ 1000
  good : ∃ P, GoodC tx P ∧ P 0 ∧ ∀ r, (readF tx 100 0).1[1]? = some r → P r.at_
  num : ∀ r ∈ (readF tx 100 0).1, (r.kind == Str.ofString "num") = isNum r.tv
  ok : ∀ r ∈ (readF tx 100 0).1, PyData.strOk r.kind = true ∧ tvOk r.tv = true
  le : (readF tx 100 0).1.length ≤ 100
  step : ∀ (i : Nat) r, (readF tx 100 0).1[i]? = some r → 0 ≤ behindR ((readF tx 100 0).1.take i) ∧ behindR ((readF tx 100 0).1.take i) ≤ r.at_ ∧ r.at_ ≤ tx.length ∧ layB (subS tx (behindR ((readF tx 100 0).1.take i)) r.at_) = true ∧ nlIn (subS tx (behindR ((readF tx 100 0).1.take i)) r.at_) = r.nl ∧
    (if isEof r.kind = true then r.at_ = tx.length ∧ r.en = tx.length else r.at_ < r.en ∧ r.en ≤ tx.length)
  fin : ∀ p, (readF tx 100 0).2 = some p → behindR (readF tx 100 0).1 ≤ p ∧ p < tx.length ∧ layB (subS tx (behindR (readF tx 100 0).1) p) = true
  eof : (readF tx 100 0).2 = none → ∃ r, (readF tx 100 0).1.getLast? = some r ∧ isEof r.kind = true
  alone : ∀ r ∈ (readF tx 100 0).1, isEof r.kind = false → (∃ P, GoodC (subS tx r.at_ r.en) P ∧ P 0) ∧ (subS tx r.at_ r.en).length ≤ 1000 ∧ ∃ e, readF (subS tx r.at_ r.en) 100 0 = ([⟨r.kind, r.tv, 0, r.en - r.at_, false⟩, e], none)
  again : ∀ r, (readF tx 100 0).1[1]? = some r → isEof r.kind = false → ∃ r', readF tx 100 r.at_ = (r' :: (readF tx 100 0).1.drop 2, (readF tx 100 0).2)
section
variable {prog : Program} {w : World} {A : Around} {E : Value → Shared → Prop} {s : Shared}
theorem in_nl {x : Str} {b : Bool} {t u : Tok} {Q : Value → Shared → Prop} (hb : nlIn x = b) (h : Q (.bool b) s) : wpAny (model prog w) A (compareOp .In (.str (Str.ofString "\n") u) (.str x t)) Q E s := by
  refine PySem.P.in_str ?_
  have e : Str.ofString "\n" = ⟨#[10]⟩ := by decide +kernel
  rw [e, StrLaws.found_one]
  subst hb
  exact h
end
section
variable {w : World} {loose : List Str} {mean : ExcName → Option Value} {mg mb : Str → Option Value}
theorem s_layT {x : Str} {t : Tok} {news : List (Addr × Obj)} (hl : x.length ≤ 1000) (hb : layB x = true) : Spec w loose mean mg mb 336 [.str x t] 4 news (Gives news fun _ => .bool true) NoErr := by
  intro dp un gd cn cs a ccd cl outer A₀ base h₀ L m s Q E B F X N T hk' hdp hu hret herr
  refine s_layout hl B F X N T hk' hdp hu ?_ herr
  intro t' h' tk' F' N'
  have e : (layS (KStt.codes x)).isSome = true := hb
  rw [e]
  exact hret 0 h' tk' F' N'
end
section
variable {w : World} {loose : List Str} {mean : ExcName → Option Value} {mg mb : Str → Option Value}
/-- the record of a token, its tuple first -/
theorem led_mem {P : Params} {l : List (RK × Rec)} {x : RK × Rec} (h : x ∈ l) : ∀ p ∈ recO P x.1 x.2, p ∈ ledger P l := fun p hp => List.mem_flatMap.mpr ⟨x, h, hp⟩
/-- a token cut out and read for itself -/
theorem s_alone {tx : Str} {r e : Rec} {t1 t2 : Tok} {news : List (Addr × Obj)} {P : Int → Prop} (hG : GoodC tx P) (h0 : P 0) (hlen : tx.length ≤ 1000) (hr : readF tx 100 0 = ([r, e], none)) :
    SpecL w loose mean mg mb 329 [.str tx t1, .int 0 t2] 30 news (fun h₀ L m s Q => ∀ (D fl tp te : Addr) (nn : Nat) (k : RK) (h' : Heap) (tk' : Nat), ValIs w.params r.tv k.v k.add → Fr h₀ L h' m →
      News h₀ L h' ((D, { cls := .type "tuple", data := .seq #[.ref fl, .none] }) :: (fl, PySem.W.listOf #[.ref k.tp, .ref te] nn) :: (k.tp, { cls := .type "tuple", data := .seq #[.ref k.c.t, .int r.en k.te] }) :: (k.c.t, instObj 114 k.c.dt) :: (k.c.dt, tokD w.params k.c r.kind k.v r.at_ r.nl) :: (k.add ++ news)) → Q (.ref D) { s with heap := h', toks := tk' }) := by
  intro dp un gd cn cs a ccd A₀ h₀ L m s Q E B F X N T hk hdp hu hret
  refine s_law_read hG hlen h0 B F X N T hk hdp hu ?_
  intro D fl nn l fv h' tk' hl hf hok F' N'
  rw [hr] at hl hf
  dsimp only [FaultIs] at hf
  subst hf
  obtain ⟨k, k2, rfl⟩ : ∃ k k2, l = [(k, r), (k2, e)] := by
    cases l with
    | nil => cases hl
    | cons a l =>
      cases l with
      | nil => cases hl
      | cons b l =>
        cases l with
        | nil =>
          simp only [List.map_cons, List.map_nil, List.cons.injEq, and_true] at hl
          obtain ⟨rfl, rfl⟩ := hl
          exact ⟨a.1, b.1, rfl⟩
        | cons c l => cases hl
  refine hret D fl k.tp k2.tp nn k h' tk' (hok _ (.head _)) F' fun p hp => N' p ?_
  rcases List.mem_cons.mp hp with rfl | hp
  · exact .head _
  rcases List.mem_cons.mp hp with rfl | hp
  · exact .tail _ (.head _)
  refine .tail _ (.tail _ ?_)
  rcases List.mem_cons.mp hp with rfl | hp
  · exact List.mem_append_left _ (led_mem (.head _) _ (.head _))
  rcases List.mem_cons.mp hp with rfl | hp
  · exact List.mem_append_left _ (led_mem (.head _) _ (.tail _ (.head _)))
  rcases List.mem_cons.mp hp with rfl | hp
  · exact List.mem_append_left _ (led_mem (.head _) _ (.tail _ (.tail _ (.head _))))
  rcases List.mem_append.mp hp with hp | hp
  · exact List.mem_append_left _ (led_mem (.head _) _ (.tail _ (.tail _ (.tail _ hp))))
  · exact List.mem_append_right _ hp
end
/-- the law's own frame, told as far as its loops read it -/
noncomputable def mL (bt fv : Value) (fl : Addr) (tx : Str) (tt : Tok) (u : Str → Option Value) : Str → Option Value := fun y => if y = Str.ofString "behind" then some bt else if y = Str.ofString "fault" then some fv else if y = Str.ofString "found" then some (.ref fl) else if y = Str.ofString "text_x" then some (.str tx tt) else u y
theorem mL_of {bt fv : Value} {fl : Addr} {tx : Str} {tt : Tok} {m : Str → Option Value} (h1 : m (Str.ofString "behind") = some bt) (h2 : m (Str.ofString "fault") = some fv) (h3 : m (Str.ofString "found") = some (.ref fl)) (h4 : m (Str.ofString "text_x") = some (.str tx tt)) : m = mL bt fv fl tx tt m := by
  funext y
  unfold mL
  by_cases e1 : y = Str.ofString "behind"
  · rw [if_pos e1, e1]; exact h1
  by_cases e2 : y = Str.ofString "fault"
  · rw [if_neg e1, if_pos e2, e2]; exact h2
  by_cases e3 : y = Str.ofString "found"
  · rw [if_neg e1, if_neg e2, if_pos e3, e3]; exact h3
  by_cases e4 : y = Str.ofString "text_x"
  · rw [if_neg e1, if_neg e2, if_neg e3, if_pos e4, e4]; exact h4
  · rw [if_neg e1, if_neg e2, if_neg e3, if_neg e4]
theorem behindR_snoc {l : List Rec} {r : Rec} : behindR (l ++ [r]) = r.en := by
  induction l with
  | nil => rfl
  | cons a t ih =>
    cases t with
    | nil => rfl
    | cons b t => exact ih
theorem behindR_take {l : List Rec} {i : Nat} {r : Rec} (h : l[i]? = some r) : behindR (l.take (i + 1)) = r.en := by
  rw [List.take_add_one, h]
  exact behindR_snoc
theorem rec_at {l : List (RK × Rec)} {rs : List Rec} {i : Nat} {v : Value} (hl : l.map (·.2) = rs) (hv : (l.map fun x => Value.ref x.1.tp)[i]? = some v) : ∃ k r, (k, r) ∈ l ∧ rs[i]? = some r ∧ v = .ref k.tp := by
  rw [List.getElem?_map] at hv
  cases h : l[i]? with
  | none => rw [h] at hv; cases hv
  | some x =>
    rw [h] at hv
    refine ⟨x.1, x.2, List.mem_of_getElem? h, ?_, (Option.some.inj hv).symm⟩
    rw [← hl, List.getElem?_map, h]; rfl
section
variable {M : Model} {A : Around} {E : Value → Shared → Prop}
theorem seam {t : Sem Flow} {Q : Flow → Shared → Prop} {h₀ : Heap} {L : Addr} {s : Shared} {bt fv : Value} {fl : Addr} {tx : Str} {tt : Tok} {u : Str → Option Value} {news : List (Addr × Obj)} (F : Fr h₀ L s.heap (mL bt fv fl tx tt u)) (N : News h₀ L s.heap news)
    (h1 : Fr h₀ L s.heap (mL bt fv fl tx tt u) → News h₀ L s.heap news → wpAny M A t (StepF h₀ L news (fun m => ∃ u bt', m = mL bt' fv fl tx tt u) s) E s)
    (h2 : ∀ h' tk' bt' u', Fr h₀ L h' (mL bt' fv fl tx tt u') → News h₀ L h' news → Q .next { s with heap := h', toks := tk' }) : wpAny M A t Q E s := by
  refine wpAny_mono (h1 F N) ?_ fun _ _ e => e
  rintro f s₄ ⟨rfl, h₄, tk₄, m₄, rfl, F₄, N₄, u₄, t₄, rfl⟩
  exact h2 _ _ _ _ F₄ N₄
end
section
open PySem.SeqAt
variable {prog : Program} {w : World} {A : Around} {E : Value → Shared → Prop} {s : Shared} {h₀ : Heap} {L : Addr} {news : List (Addr × Obj)} {Q : Value → Shared → Prop}
theorem ne_same {v v' : Value} {d : PyData} (N : News h₀ L s.heap news) (r : Reading news v d) (r' : Reading news v' d) (hs : shaped d = true) (he : PyData.eqv d d = true) (hu : A.units + 64 < cLine) (h : Q (.bool false) s) : wpAny (model prog w) A (compareOp .NotEq v v') Q E s := by
  obtain ⟨as, ra⟩ := r s.heap fun p hp => (N p hp).1
  obtain ⟨bs, rb⟩ := r' s.heap fun p hp => (N p hp).1
  refine ne_dataH ra rb hs hs hu ?_
  rw [he]
  exact h
end
theorem eqv_str (x : Str) : PyData.eqv (.str x) (.str x) = true := by simp [PyData.eqv]
theorem eqv_val (tv : TV) : PyData.eqv (valD tv) (valD tv) = true := by
  cases tv <;> simp [valD, PyData.eqv, PyData.eqvAll]
theorem eqv_pair (k : Str) (tv : TV) : PyData.eqv (.tuple [.str k, valD tv]) (.tuple [.str k, valD tv]) = true := by
  simp [PyData.eqv, PyData.eqvAll, eqv_val]
theorem eqv_shown (k : Str) (tv : TV) (nl : Bool) : PyData.eqv (shownD k tv nl) (shownD k tv nl) = true := by
  simp [shownD, PyData.eqv, PyData.eqvAll, eqv_val]
theorem eqv_list (ds : List PyData) (h : ∀ d ∈ ds, PyData.eqv d d = true) : PyData.eqv (.list ds) (.list ds) = true := by
  have : PyData.eqvAll ds ds = true := by
    induction ds with
    | nil => simp [PyData.eqvAll]
    | cons d r ih => simp only [PyData.eqvAll, h d (.head _), ih fun d hd => h d (.tail _ hd), Bool.and_self]
  simp [PyData.eqv, this]
theorem lay_val {tv : TV} (h : tvOk tv = true) : (valD tv).canLay0 = true ∧ (valD tv).depth ≤ 3 := by
  cases tv with
  | str x => exact ⟨by unfold valD PyData.canLay0; exact h, by simp [valD, PyData.depth]⟩
  | int n => exact ⟨by simp [valD, PyData.canLay0, PyData.canLayAll0]; decide +kernel, by simp [valD, PyData.depth, PyData.depthAll]⟩
  | dbl n d => exact ⟨by simp [valD, PyData.canLay0, PyData.canLayAll0]; decide +kernel, by simp [valD, PyData.depth, PyData.depthAll]⟩
theorem shaped_pair {k : Str} {tv : TV} (hk : PyData.strOk k = true) (h : tvOk tv = true) : SeqAt.shaped (.tuple [.str k, valD tv]) = true := by
  obtain ⟨h1, h2⟩ := lay_val h
  unfold SeqAt.shaped
  simp only [PyData.canLay0, PyData.canLayAll0, PyData.depth, PyData.depthAll, hk, h1, Bool.and_self, Bool.true_and]
  exact decide_eq_true (by omega)
theorem lay_shown {k : Str} {tv : TV} (nl : Bool) (hk : PyData.strOk k = true) (h : tvOk tv = true) : (shownD k tv nl).canLay0 = true ∧ (shownD k tv nl).depth ≤ 4 := by
  obtain ⟨h1, h2⟩ := lay_val h
  unfold shownD
  simp only [PyData.canLay0, PyData.canLayAll0, PyData.depth, PyData.depthAll, hk, h1, Bool.and_self, Bool.true_and, true_and]
  omega
theorem shaped_list {ds : List PyData} (h : ∀ d ∈ ds, d.canLay0 = true ∧ d.depth ≤ 4) : SeqAt.shaped (.list ds) = true := by
  have : PyData.canLayAll0 ds = true ∧ PyData.depthAll ds ≤ 4 := by
    induction ds with
    | nil => exact ⟨rfl, Nat.zero_le _⟩
    | cons d r ih =>
      obtain ⟨a, b⟩ := h d (.head _)
      obtain ⟨c, e⟩ := ih fun d hd => h d (.tail _ hd)
      exact ⟨by simp [PyData.canLayAll0, a, c], by simp only [PyData.depthAll]; omega⟩
  unfold SeqAt.shaped
  simp only [PyData.canLay0, PyData.depth, this.1, Bool.true_and]
  exact decide_eq_true (by omega)
section
variable {prog : Program} {w : World} {A : Around} {E : Value → Shared → Prop} {s : Shared} {h₀ : Heap} {L l : Addr} {news : List (Addr × Obj)} {Q : Value → Shared → Prop} {vs : List Value} {nn : Nat} {v : Value} {u : Tok} {value slice : PySem.Expr}
theorem item_at {k : Int} (N : News h₀ L s.heap news) (hl : (l, PySem.W.listOf vs.toArray nn) ∈ news) (h0 : 0 ≤ k) (hfit : k < 2 ^ 63) (hx : vs[k.toNat]? = some v) (h : Q v s)
    (hs : subscripted slice false (.ref l) (.int k u) = operate [.ref l, .int k u] (getItem (.ref l) (.int k u))) :
    wpAny (model prog w) A (subscriptTail value slice (.ref l) (.int k u)) Q E s :=
  item_listR ⟨_, (N _ hl).1, rfl, nn, rfl⟩ h0 hfit (by simpa using hx) h hs
theorem item_last (N : News h₀ L s.heap news) (hl : (l, PySem.W.listOf vs.toArray nn) ∈ news) (hx : vs.getLast? = some v) (h : Q v s)
    (hs : subscripted slice false (.ref l) (.int (-1) u) = operate [.ref l, .int (-1) u] (getItem (.ref l) (.int (-1) u))) :
    wpAny (model prog w) A (subscriptTail value slice (.ref l) (.int (-1) u)) Q E s := by
  have hpos : 0 < vs.length := by
    cases vs with
    | nil => cases hx
    | cons => simp
  have hj : seqIndex? (-1) vs.length = some (vs.length - 1) := by
    unfold seqIndex?
    simp
    omega
  refine kde_neg (j := vs.length - 1) ⟨_, (N _ hl).1, rfl, nn, rfl⟩ (by decide) (by decide) hj ?_ h hs
  rw [List.getLast?_eq_getElem?] at hx
  exact hx
theorem eq_empty {e : Addr} {n2 : Nat} (N : News h₀ L s.heap news) (hl : (l, PySem.W.listOf vs.toArray nn) ∈ news) (he : (e, PySem.W.listOf #[] n2) ∈ news) (hx : vs ≠ []) (hu : A.units < cLine) (h : Q (.bool false) s) : wpAny (model prog w) A (compareOp .Eq (.ref l) (.ref e)) Q E s := by
  refine SeqAt.eq_list_lengthsAt ⟨_, (N _ hl).1, rfl, nn, rfl⟩ ⟨_, (N _ he).1, rfl, n2, rfl⟩ ?_ hu h
  cases vs with
  | nil => exact absurd rfl hx
  | cons => simp
end
theorem rec_last {l : List (RK × Rec)} {rs : List Rec} {r : Rec} (hl : l.map (·.2) = rs) (hr : rs.getLast? = some r) : ∃ k, (k, r) ∈ l ∧ (l.map fun x => Value.ref x.1.tp).getLast? = some (.ref k.tp) := by
  subst hl
  rw [List.getLast?_map] at hr
  cases h : l.getLast? with
  | none => rw [h] at hr; cases hr
  | some x =>
    rw [h] at hr
    have e := Option.some.inj hr
    refine ⟨x.1, ?_, ?_⟩
    · rw [← e]; exact List.mem_of_getLast? h
    · rw [List.getLast?_map, h]; rfl
section
variable {prog : Program} {w : World} {A : Around} {E : Value → Shared → Prop} {s : Shared} {h₀ : Heap} {L l : Addr} {m : Str → Option Value} {news : List (Addr × Obj)} {Q : Value → Shared → Prop} {vs : List Value} {nn : Nat} {u : Tok} {value slice : PySem.Expr}
theorem slice_from {x : Int} {n : Nat} {ws : List Value} (F : Fr h₀ L s.heap m) (N : News h₀ L s.heap news) (hl : (l, PySem.W.listOf vs.toArray nn) ∈ news) (hw : vs.drop n = ws) (hx : x = (n : Int)) (h1 : n ≤ vs.length) (hz : vs.length ≤ 1000)
    (h : ∀ (S : Addr) h', Fr h₀ L h' m → News h₀ L h' ((S, PySem.W.listOf ws.toArray 0) :: news) → (∀ p ∈ news, p.1 < S) → Q (.ref S) { s with heap := h' })
    (hs : subscripted slice false (.ref l) (.ref s.heap.objs.size) = operate [.ref s.heap.objs.size, .ref l] (getItem (.ref l) (.ref s.heap.objs.size)))
    (ht : ∀ r, letTemporaryGo value (.ref l) r = pure ()) :
    wpAny (model prog w) A (subscriptTail value slice (.ref l) (.ref s.heap.objs.size)) Q E { s with heap := s.heap.push { cls := .type "slice", data := .fields #[.int x u, .none, .none] } } := by
  subst hx hw
  refine slice_list (lo := some (n : Int)) (hi := none) F N ⟨_, (N _ hl).1, rfl, nn, rfl⟩ (.int _ _) .none (fun h' F' N' => ?_) hs ht (by rw [PySem.sizeLine_eq]; simp; omega)
  refine h _ h' F' ?_ fun p hp => Nat.lt_succ_of_lt (Heap.lt_size (N p hp).1)
  have e : slicePick vs.toArray (some (n : Int)) none none = (vs.drop n).toArray := by
    rw [slicePick_from vs.toArray n (by simpa using h1)]
  rw [e] at N'
  exact N'
end
/-- all of these stand in the ledger -/
noncomputable def AddIn (add news : List (Addr × Obj)) : Prop := ∀ p ∈ add, p ∈ news
theorem AddIn.self (l : List (Addr × Obj)) : AddIn l l := fun _ h => h
theorem AddIn.cons {add news : List (Addr × Obj)} {x : Addr × Obj} (h : AddIn add news) : AddIn add (x :: news) := fun p hp => .tail _ (h p hp)
theorem AddIn.left {add news r : List (Addr × Obj)} (h : AddIn add news) : AddIn add (news ++ r) := fun p hp => List.mem_append_left _ (h p hp)
theorem AddIn.right {add news r : List (Addr × Obj)} (h : AddIn add news) : AddIn add (r ++ news) := fun p hp => List.mem_append_right _ (h p hp)
theorem AddIn.both {a b news : List (Addr × Obj)} (h : AddIn a news) (h' : AddIn b news) : AddIn (a ++ b) news := fun p hp => (List.mem_append.mp hp).elim (h p) (h' p)
theorem Reading.on {add news : List (Addr × Obj)} {v : Value} {d : PyData} (r : Reading add v d) (h : AddIn add news) : Reading news v d := r.mono h
theorem ne_pair {prog : Program} {w : World} {A : Around} {E : Value → Shared → Prop} {s : Shared} {h₀ : Heap} {L a b : Addr} {news add add' : List (Addr × Obj)} {Q : Value → Shared → Prop} {x : Str} {t t' : Tok} {v v' : Value} {tv : TV} (N : News h₀ L s.heap news)
    (ha : (a, ({ cls := .type "tuple", data := .seq #[.str x t, v] } : Obj)) ∈ news) (r : Reading add v (valD tv)) (hr : AddIn add news)
    (hb : (b, ({ cls := .type "tuple", data := .seq #[.str x t', v'] } : Obj)) ∈ news) (r' : Reading add' v' (valD tv)) (hr' : AddIn add' news)
    (hk : PyData.strOk x = true) (ho : tvOk tv = true) (hu : A.units + 64 < cLine) (h : Q (.bool false) s) : wpAny (model prog w) A (compareOp .NotEq (.ref a) (.ref b)) Q E s :=
  ne_same N (.pair ha (.str _ _ _) (r.on hr)) (.pair hb (.str _ _ _) (r'.on hr')) (shaped_pair hk ho) (eqv_pair _ _) hu h
theorem rec_at2 {l : List (RK × Rec)} {rs : List Rec} {i : Nat} (hl : l.map (·.2) = rs) (hi : i < rs.length) : ∃ k r, (k, r) ∈ l ∧ rs[i]? = some r ∧ (l.map fun x => Value.ref x.1.tp)[((i : Nat) : Int).toNat]? = some (.ref k.tp) := by
  subst hl
  rw [List.length_map] at hi
  refine ⟨l[i].1, l[i].2, List.getElem_mem hi, ?_, ?_⟩
  · rw [List.getElem?_map, List.getElem?_eq_getElem hi]; rfl
  · rw [Int.toNat_natCast, List.getElem?_map, List.getElem?_eq_getElem hi]; rfl
theorem rs_nat2 {n : Nat} : Builtin.Range.rangeSize 0 (n : Int) 1 = (n : Int) := by
  rw [PySem.rangeSize_one]
  split <;> omega
theorem news_turn {h₀ h : Heap} {L : Addr} {a b : List (Addr × Obj)} (N : News h₀ L h (a ++ b)) : News h₀ L h (b ++ a) := fun p hp => N p ((List.mem_append.mp hp).elim (List.mem_append_right _) (List.mem_append_left _))
theorem news_turn5 {h₀ h : Heap} {L : Addr} {x1 x2 x3 x4 x5 : Addr × Obj} {a b : List (Addr × Obj)} (N : News h₀ L h (x1 :: x2 :: x3 :: x4 :: x5 :: (a ++ b))) : News h₀ L h (x1 :: x2 :: x3 :: x4 :: x5 :: (b ++ a)) := fun p hp => N p (by
  simp only [List.mem_cons, List.mem_append] at hp ⊢
  rcases hp with h | h | h | h | h | h | h <;> simp [h])
section
variable {prog : Program} {w : World} {A : Around} {E : Value → Shared → Prop} {s : Shared} {h₀ : Heap} {L t : Addr} {news : List (Addr × Obj)} {Q : Value → Shared → Prop} {v x y : Value} {nn : Nat} {u : Tok} {value slice : PySem.Expr}
theorem item_t0 (N : News h₀ L s.heap news) (hl : (t, ({ cls := .type "tuple", data := .seq #[x, y] } : Obj)) ∈ news) (h : Q x s)
    (hs : subscripted slice false (.ref t) (.int 0 u) = operate [.ref t, .int 0 u] (getItem (.ref t) (.int 0 u))) :
    wpAny (model prog w) A (subscriptTail value slice (.ref t) (.int 0 u)) Q E s :=
  have ht : IsTup s.heap t #[x, y] := ⟨_, (N _ hl).1, rfl, _, rfl⟩
  subscriptTail_builtinR ht.typeIs slot_tuple_getitem.lookup (getItem_tuple (Q := fun r s' => r = x ∧ Q r s') ht (by decide) (by decide) (j := 0) rfl rfl ⟨rfl, h⟩) hs
theorem item_t1 (N : News h₀ L s.heap news) (hl : (t, ({ cls := .type "tuple", data := .seq #[x, y] } : Obj)) ∈ news) (h : Q y s)
    (hs : subscripted slice false (.ref t) (.int 1 u) = operate [.ref t, .int 1 u] (getItem (.ref t) (.int 1 u))) :
    wpAny (model prog w) A (subscriptTail value slice (.ref t) (.int 1 u)) Q E s :=
  have ht : IsTup s.heap t #[x, y] := ⟨_, (N _ hl).1, rfl, _, rfl⟩
  subscriptTail_builtinR ht.typeIs slot_tuple_getitem.lookup (getItem_tuple (Q := fun r s' => r = y ∧ Q r s') ht (by decide) (by decide) (j := 1) rfl rfl ⟨rfl, h⟩) hs
theorem item_l0 (N : News h₀ L s.heap news) (hl : (t, PySem.W.listOf #[x, y] nn) ∈ news) (h : Q x s)
    (hs : subscripted slice false (.ref t) (.int 0 u) = operate [.ref t, .int 0 u] (getItem (.ref t) (.int 0 u))) :
    wpAny (model prog w) A (subscriptTail value slice (.ref t) (.int 0 u)) Q E s :=
  item_listR (x := x) ⟨_, (N _ hl).1, rfl, _, rfl⟩ (by decide) (by decide) rfl h hs
end
section
variable {prog : Program} {w : World} {A : Around} {E : Value → Shared → Prop} {s : Shared} {Q : Value → Shared → Prop}
theorem ne_fault {f : Option Int} {v v' : Value} (h1 : FaultIs f v) (h2 : FaultIs f v') (hu : A.units + 64 < cLine) (h : Q (.bool false) s) : wpAny (model prog w) A (compareOp .NotEq v v') Q E s := by
  cases f with
  | none =>
    dsimp only [FaultIs] at h1 h2
    subst h1 h2
    refine ne_dataH (.none) (.none) (by decide) (by decide) hu ?_
    rw [show PyData.eqv .none .none = true by simp [PyData.eqv]]
    exact h
  | some p =>
    obtain ⟨t, rfl⟩ := h1
    obtain ⟨t', rfl⟩ := h2
    refine ne_dataH (.int p t) (.int p t') rfl rfl hu ?_
    rw [show PyData.eqv (.int p) (.int p) = true by simp [PyData.eqv]]
    exact h
end
theorem again_split {l3 : List (RK × Rec)} {r' : Rec} {l : List (RK × Rec)} {rs : List Rec} (hl : l.map (·.2) = rs) (h : l3.map (·.2) = r' :: rs.drop 2) : ∃ x l4, l3 = x :: l4 ∧ l4.map (·.2) = (l.drop 2).map (·.2) := by
  cases l3 with
  | nil => cases h
  | cons x l4 =>
    rw [List.map_cons] at h
    injection h with _ h
    exact ⟨x, l4, rfl, by rw [h, ← hl, List.map_drop]⟩
theorem shown_same {l l' : List (RK × Rec)} (h : l.map (·.2) = l'.map (·.2)) : (l.map fun y => shownD y.2.kind y.2.tv y.2.nl) = l'.map fun y => shownD y.2.kind y.2.tv y.2.nl := by
  have e : ∀ q : List (RK × Rec), (q.map fun y => shownD y.2.kind y.2.tv y.2.nl) = (q.map (·.2)).map fun r => shownD r.kind r.tv r.nl := by intro q; rw [List.map_map]; rfl
  rw [e, e, h]
theorem pack3 {h₀ h : Heap} {L : Addr} {x : Addr × Obj} {a b W : List (Addr × Obj)} (N : News h₀ L h (x :: W)) (ha : AddIn a W) (hb : AddIn b W) : ∃ W', News h₀ L h W' ∧ x ∈ W' ∧ AddIn a W' ∧ AddIn b W' := ⟨_, N, .head _, ha.cons, hb.cons⟩
theorem AddIn.one {x : Addr × Obj} {W : List (Addr × Obj)} (h : x ∈ W) : AddIn [x] W := fun p hp => by rw [List.mem_singleton.mp hp]; exact h
end
section
noncomputable def ReadingAll (news : List (Addr × Obj)) (ys : List Value) (ds : List PyData) : Prop := ∀ g : Heap, (∀ p ∈ news, g.get? p.1 = some p.2) → ∃ as, ReadsAll g ys ds as
theorem readsAll_snoc {g : Heap} {ys : List Value} {ds : List PyData} {v : Value} {d : PyData} {as bs : List Addr} (h : ReadsAll g ys ds as) (hr : Reads g v d bs) : ∃ cs, ReadsAll g (ys ++ [v]) (ds ++ [d]) cs := by
  induction ys generalizing ds as with
  | nil => cases h; exact ⟨_, .cons hr .nil⟩
  | cons y ys ih =>
    cases h with
    | cons h1 h2 =>
      obtain ⟨cs, h3⟩ := ih h2
      exact ⟨_, .cons h1 h3⟩
theorem ReadingAll.snoc {news news' : List (Addr × Obj)} {ys : List Value} {ds : List PyData} {v : Value} {d : PyData} (h : ReadingAll news ys ds) (hs : ∀ p ∈ news, p ∈ news') (hr : Reading news' v d) : ReadingAll news' (ys ++ [v]) (ds ++ [d]) := fun g hg => by
  obtain ⟨as, r⟩ := h g fun p hp => hg p (hs p hp)
  obtain ⟨bs, r'⟩ := hr g hg
  exact readsAll_snoc r r'
theorem ReadingAll.mono {news news' : List (Addr × Obj)} {ys : List Value} {ds : List PyData} (h : ReadingAll news ys ds) (hs : ∀ p ∈ news, p ∈ news') : ReadingAll news' ys ds := fun g hg => h g fun p hp => hg p (hs p hp)
theorem ReadingAll.list {news : List (Addr × Obj)} {ys : List Value} {ds : List PyData} {a : Addr} (h : ReadingAll news ys ds) (ha : (a, LCg.lst ys) ∈ news) : Reading news (.ref a) (.list ds) := fun g hg => by
  obtain ⟨as, r⟩ := h g hg
  exact ⟨_, .list (hg _ ha) rfl rfl (by simpa using r)⟩
open LCg in
theorem comp_all {prog : Program} {w : World} {A : Around} {h₀ : Heap} {L : Addr} {m : Str → Option Value} {env : Env} {elt : PySem.Expr} {x x₂ : Str} {scope : Scope} {cl : List (Str × Addr)} {s : Shared} {P : Params} {ax : Addr} {nn : Nat} {ks : List (RK × Rec)} {nw₀ : List (Addr × Obj)} {Fin : List Value → List (Addr × Obj) → Prop}
    (hax : (ax, PySem.W.listOf (ks.map fun x => Value.ref x.1.tp).toArray nn) ∈ nw₀) (hks : ∀ y ∈ ks, ∀ p ∈ recO P y.1 y.2, p ∈ nw₀) (hfin : ∀ ys nw, (∀ p ∈ nw₀, p ∈ nw) → ReadingAll nw ys (ks.map fun y => shownD y.2.kind y.2.tv y.2.nl) → Fin ys nw)
    (step : ∀ y ∈ ks, ∀ (ys : List Value) (nw : List (Addr × Obj)) (I : Addr) (oI : Obj) (C : Addr) (oC : Obj) (D : Addr) (m₂ : Str → Option Value) (h : Heap) (tk : Nat) (E' : Value → Shared → Prop) (Q : Value → Shared → Prop), (∀ p ∈ nw₀, p ∈ nw) → NsObj oC m₂ → m₂ x = some (.ref y.1.c.t) → Fr h₀ L h m → News h₀ L h ((I, oI) :: (C, oC) :: (D, lst ys) :: nw) →
      (∀ v2 add2 h' tk', AddOff add2 ((I, oI) :: (C, oC) :: (D, lst ys) :: nw) → Reading (add2 ++ y.1.add) v2 (shownD y.2.kind y.2.tv y.2.nl) → Fr h₀ L h' m → News h₀ L h' (add2 ++ ((I, oI) :: (C, oC) :: (D, lst ys) :: nw)) → Q v2 { s with heap := h', toks := tk' }) →
      wpAny (model prog w) A (eval elt (compEnvC scope cl C env)) Q E' { s with heap := h, toks := tk }) :
    LCp.CompRestP prog w A h₀ L m env elt x x₂ scope cl s (SrcAt h₀ ax (ks.map fun x => Value.ref x.1.tp).toArray) (fun i v => (ks.map fun x => Value.ref x.1.tp).toArray[i]? = some v) Fin (ks.map fun x => Value.ref x.1.tp).toArray.size 0 [] nw₀ := by
  have hsz : (ks.map fun x => Value.ref x.1.tp).toArray.size = ks.length := by simp
  rw [hsz]
  have main : ∀ (post pre : List (RK × Rec)) (ys : List Value) (nw : List (Addr × Obj)), ks = pre ++ post → (∀ p ∈ nw₀, p ∈ nw) → ReadingAll nw ys (pre.map fun y => shownD y.2.kind y.2.tv y.2.nl) →
      LCp.CompRestP prog w A h₀ L m env elt x x₂ scope cl s (SrcAt h₀ ax (ks.map fun x => Value.ref x.1.tp).toArray) (fun i v => (ks.map fun x => Value.ref x.1.tp).toArray[i]? = some v) Fin post.length pre.length ys nw := by
    intro post
    induction post with
    | nil =>
      intro pre ys nw e hsub hr
      rw [List.append_nil] at e
      subst e
      exact LCp.CompRestP.zero (hfin ys nw hsub hr)
    | cons y post ih =>
      intro pre ys nw e hsub hr
      refine LCp.CompRestP.succ fun v hv => ?_
      have hy : y ∈ ks := by rw [e]; exact List.mem_append_right _ (.head _)
      have ev : v = .ref y.1.tp := by
        rw [e] at hv
        simp at hv
        exact hv.symm
      subst ev
      refine ⟨y.1.tp, _, .ref y.1.c.t, .int y.2.en y.1.te, _, rfl, hsub _ (hks y hy _ (.head _)), rfl, rfl, ?_⟩
      intro I oI C oC D m₂ h tk E' hC hx hx₂ F N off ne
      refine step y hy ys nw I oI C oC D m₂ h tk E' _ hsub hC hx F N ?_
      intro v2 add2 h' tk' hao hrd F' N'
      refine ⟨h', tk', add2 ++ nw, rfl, F', fun p hp => N' p ?_, Off3.of fun p hp => ?_, .inr ⟨_, List.mem_append_right _ (hsub _ hax), rfl, _, rfl⟩, ?_⟩
      · rcases List.mem_cons.mp hp with rfl | hp
        · exact List.mem_append_right _ (.head _)
        rcases List.mem_cons.mp hp with rfl | hp
        · exact List.mem_append_right _ (.tail _ (.head _))
        rcases List.mem_cons.mp hp with rfl | hp
        · exact List.mem_append_right _ (.tail _ (.tail _ (.head _)))
        rcases List.mem_append.mp hp with hp | hp
        · exact List.mem_append_left _ hp
        · exact List.mem_append_right _ (.tail _ (.tail _ (.tail _ hp)))
      · rcases List.mem_append.mp hp with hp | hp
        · exact ⟨fun e => hao p hp _ (.head _) e.symm, fun e => hao p hp _ (.tail _ (.head _)) e.symm, fun e => hao p hp _ (.tail _ (.tail _ (.head _))) e.symm⟩
        · exact off.mem p hp
      · have := ih (pre ++ [y]) (ys ++ [v2]) (add2 ++ nw) (by rw [e]; simp) (fun p hp => List.mem_append_right _ (hsub p hp)) (by
          rw [List.map_append]
          exact hr.snoc (fun p hp => List.mem_append_right _ hp) (hrd.mono fun p hp => by
            rcases List.mem_append.mp hp with hp | hp
            · exact List.mem_append_left _ hp
            · exact List.mem_append_right _ (hsub p (hks y hy p (.tail _ (.tail _ (.tail _ hp)))))))
        simpa using this
  exact main ks [] [] nw₀ rfl (fun p hp => hp) fun g _ => ⟨_, .nil⟩
end
section
theorem str_ext {x y : Str} (h : x.cps.toList = y.cps.toList) : x = y := by
  cases x; cases y
  congr 1
  exact Array.toList_inj.mp h
theorem len_list (tx : Str) : tx.length = tx.cps.toList.length := by simp [Str.length]
/-- a piece cut out of a text -/
structure Cut (cx tx : Str) (p n : Int) : Prop where
  p0 : 0 ≤ p
  n0 : 0 ≤ n
  len : (cx.length : Int) ≤ n
  at_ : ∀ j, 0 ≤ j → j < n → chr cx j = chr tx (p + j)
  sub : ∀ i j, 0 ≤ i → i ≤ j → j ≤ n → subS cx i j = subS tx (p + i) (p + j)
  out : ∀ j, n ≤ j → chr cx j = nilS
  far : ∀ i j, 0 ≤ i → i ≤ n → n ≤ j → subS cx i j = subS cx i n
theorem cut_of {tx : Str} {p e : Int} (h0 : 0 ≤ p) (h1 : p ≤ e) : Cut (subS tx p e) tx p (e - p) := by
  obtain ⟨a, rfl⟩ := Int.eq_ofNat_of_zero_le h0
  obtain ⟨d, hd⟩ := Int.eq_ofNat_of_zero_le (Int.sub_nonneg_of_le h1)
  have hL := subS_list (tx := tx) h0 h1
  rw [hd, Int.toNat_natCast, Int.toNat_natCast] at hL
  rw [hd]
  have hlen : ((subS tx a e).length : Int) ≤ d := by
    rw [len_list, hL, List.length_take]
    exact Int.ofNat_le.mpr (Nat.min_le_left _ _)
  have hd0 : (0 : Int) ≤ d := Int.natCast_nonneg _
  refine ⟨h0, hd0, hlen, ?_, ?_, ?_, ?_⟩
  · intro j j0 j1
    obtain ⟨k, rfl⟩ := Int.eq_ofNat_of_zero_le j0
    rw [chr_eq j0, chr_eq (Int.add_nonneg h0 j0), hL, Int.toNat_natCast, List.getElem?_take_of_lt (Int.ofNat_lt.mp j1), List.getElem?_drop]
    rfl
  · intro i j i0 ij jn
    obtain ⟨u, rfl⟩ := Int.eq_ofNat_of_zero_le i0
    obtain ⟨v, rfl⟩ := Int.eq_ofNat_of_zero_le (Int.le_trans i0 ij)
    have hv := Nat.sub_le_sub_right (Int.ofNat_le.mp jn) u
    apply str_ext
    rw [subS_list i0 ij, hL, subS_list (tx := tx) (Int.add_nonneg h0 i0) (Int.add_le_add_left ij _), Int.add_sub_add_left, Int.toNat_sub, Int.toNat_natCast, List.drop_take, List.drop_drop, List.take_take, Nat.min_eq_left hv]
    rfl
  · intro j hj
    exact chr_out (Int.le_trans hd0 hj) (Int.le_trans hlen hj)
  · intro i j i0 hi hj
    apply str_ext
    rw [subS_list i0 (Int.le_trans hi hj), subS_list i0 hi]
    obtain ⟨u, rfl⟩ := Int.eq_ofNat_of_zero_le i0
    obtain ⟨v, rfl⟩ := Int.eq_ofNat_of_zero_le (Int.le_trans hd0 hj)
    have hl : (subS tx a e).cps.toList.length ≤ d := by rw [← len_list]; exact Int.ofNat_le.mp hlen
    rw [Int.toNat_sub, Int.toNat_sub, List.take_of_length_le (by rw [List.length_drop]; exact Nat.sub_le_sub_right (Nat.le_trans hl (Int.ofNat_le.mp hj)) _), List.take_of_length_le (by rw [List.length_drop]; exact Nat.sub_le_sub_right hl _)]
theorem scan_char {q : Str → Bool} {tx : Str} (hq : q nilS = false) {s : Int} (hs : q (chr tx s) = false) : ∀ (n : Nat) (i : Int), 0 ≤ i → s = i + n → (∀ j, i ≤ j → j < s → q (chr tx j) = true) → scan q tx i = s := by
  intro n
  induction n with
  | zero =>
    intro i i0 e _
    have : s = i := by omega
    subst this
    exact scan_stop hs
  | succ n ih =>
    intro i i0 e h
    rw [← scan_step hq i0 (h i (Int.le_refl _) (by omega))]
    exact ih (i + 1) (by omega) (by omega) fun j j0 j1 => h j (by omega) j1
theorem scan_stops {q : Str → Bool} {tx : Str} {i : Int} (hq : q nilS = false) (i0 : 0 ≤ i) : q (chr tx (scan q tx i)) = false := by
  have main : ∀ (n : Nat) (i : Int), 0 ≤ i → tx.length + 1 ≤ n + i.toNat → q (chr tx (scan q tx i)) = false := by
    intro n
    induction n with
    | zero =>
      intro i i0 h
      have e : q (chr tx i) = false := by rw [chr_out i0 (by omega)]; exact hq
      rw [scan_stop e]; exact e
    | succ n ih =>
      intro i i0 h
      cases e : q (chr tx i) with
      | false => rw [scan_stop e]; exact e
      | true => rw [← scan_step hq i0 e]; exact ih (i + 1) (by omega) (by omega)
  exact main (tx.length + 1) i i0 (by omega)
theorem Cut.scan {cx tx : Str} {p n i : Int} {q : Str → Bool} (C : Cut cx tx p n) (hq : q nilS = false) (i0 : 0 ≤ i) (h : scan q tx (p + i) ≤ p + n) : Lx.scan q cx i = Lx.scan q tx (p + i) - p := by
  have hp := C.p0
  have ge : p + i ≤ Lx.scan q tx (p + i) := scan_ge
  have stp := scan_stops (tx := tx) hq (i := p + i) (by omega)
  have all := scan_all (p := q) (tx := tx) (i := p + i)
  generalize Lx.scan q tx (p + i) = s at *
  refine scan_char hq ?_ (s - p - i).toNat i i0 (by omega) ?_
  · by_cases hs : s - p < n
    · rw [C.at_ _ (by omega) hs, show p + (s - p) = s by omega]; exact stp
    · rw [C.out _ (by omega)]; exact hq
  · intro j j0 j1
    rw [C.at_ j (by omega) (by omega)]
    exact all (p + j) (by omega) (by omega)
/-- the quotes stand in whole pieces alone -/
inductive WQ : List Nat → Prop
  | nil : WQ []
  | one (c : Nat) {s : List Nat} : c ≠ 34 → c ≠ 39 → c ≠ 96 → WQ s → WQ (c :: s)
  | q {s : List Nat} : WQ s → WQ (39 :: 113 :: 39 :: s)
  | ab {s : List Nat} : WQ s → WQ (34 :: 97 :: 32 :: 98 :: 34 :: s)
  | n {s : List Nat} : WQ s → WQ (96 :: 110 :: 96 :: s)
/-- characters that are no quotes may be passed -/
theorem WQ.skip : ∀ {s : List Nat} (k : Nat), WQ s → (∀ j c, j < k → s[j]? = some c → c ≠ 34 ∧ c ≠ 39 ∧ c ≠ 96) → WQ (s.drop k)
  | _, 0, h, _ => h
  | [], k + 1, h, _ => by rw [List.drop_nil]; exact h
  | c :: s, k + 1, h, hk => by
    have hc := hk 0 c (by omega) rfl
    rw [List.drop_succ_cons]
    cases h with
    | one _ _ _ _ h => exact WQ.skip k h fun j d hj hd => hk (j + 1) d (by omega) (by simpa using hd)
    | q h => exact absurd rfl hc.2.1
    | ab h => exact absurd rfl hc.1
    | n h => exact absurd rfl hc.2.2
/-- a run that passes over whole quotes -/
theorem WQ.run {f : Nat → Bool} (h1 : f 39 = true ∧ f 113 = true ∧ f 34 = true ∧ f 97 = true ∧ f 32 = true ∧ f 98 = true ∧ f 96 = true ∧ f 110 = true) {s : List Nat} (h : WQ s) : WQ (s.dropWhile f) := by
  obtain ⟨a1, a2, a3, a4, a5, a6, a7, a8⟩ := h1
  induction h with
  | nil => exact .nil
  | one c c1 c2 c3 hs ih =>
    cases e : f c with
    | true => rw [List.dropWhile_cons_of_pos e]; exact ih
    | false => rw [List.dropWhile_cons_of_neg (by rw [e]; decide)]; exact .one c c1 c2 c3 hs
  | q hs ih => rw [List.dropWhile_cons_of_pos a1, List.dropWhile_cons_of_pos a2, List.dropWhile_cons_of_pos a1]; exact ih
  | ab hs ih => rw [List.dropWhile_cons_of_pos a3, List.dropWhile_cons_of_pos a4, List.dropWhile_cons_of_pos a5, List.dropWhile_cons_of_pos a6, List.dropWhile_cons_of_pos a3]; exact ih
  | n hs ih => rw [List.dropWhile_cons_of_pos a7, List.dropWhile_cons_of_pos a8, List.dropWhile_cons_of_pos a7]; exact ih
/-- a scan, on the list of codes -/
theorem scan_drop {q : Str → Bool} {tx : Str} (hq : q nilS = false) {i : Int} (i0 : 0 ≤ i) : tx.cps.toList.drop (scan q tx i).toNat = (tx.cps.toList.drop i.toNat).dropWhile fun c => q ⟨#[c]⟩ := by
  have main : ∀ (n : Nat) (i : Int), 0 ≤ i → tx.length + 1 ≤ n + i.toNat → tx.cps.toList.drop (scan q tx i).toNat = (tx.cps.toList.drop i.toNat).dropWhile fun c => q ⟨#[c]⟩ := by
    intro n
    induction n with
    | zero =>
      intro i i0 h
      have e : q (chr tx i) = false := by rw [chr_out i0 (by omega)]; exact hq
      rw [scan_stop e, List.drop_of_length_le (by rw [← len_list]; omega)]; rfl
    | succ n ih =>
      intro i i0 h
      cases e : q (chr tx i) with
      | true =>
        have hl := in_lt hq i0 e
        rw [← scan_step hq i0 e, ih (i + 1) (by omega) (by omega)]
        have hlt : i.toNat < tx.cps.toList.length := by rw [← len_list]; omega
        rw [List.drop_eq_getElem_cons hlt]
        rw [chr_eq i0, List.getElem?_eq_getElem hlt] at e
        rw [List.dropWhile_cons_of_pos (by exact e), show (i + 1).toNat = i.toNat + 1 by omega]
      | false =>
        rw [scan_stop e]
        by_cases hl : i.toNat < tx.cps.toList.length
        · rw [List.drop_eq_getElem_cons hl]
          rw [chr_eq i0, List.getElem?_eq_getElem hl] at e
          rw [List.dropWhile_cons_of_neg (by show ¬ q (chO (some _)) = true; rw [e]; decide)]
        · rw [List.drop_of_length_le (by omega)]; rfl
  exact main (tx.length + 1) i i0 (by omega)
end
section
theorem chr_code {tx : Str} {a : Int} (h0 : 0 ≤ a) (h : a < tx.length) : ∃ c, chr tx a = ⟨#[c]⟩ ∧ tx.cps.toList[a.toNat]? = some c ∧ tx.cps.toList.drop a.toNat = c :: tx.cps.toList.drop (a + 1).toNat := by
  have hlt : a.toNat < tx.cps.toList.length := by rw [← len_list]; omega
  refine ⟨tx.cps.toList[a.toNat], ?_, List.getElem?_eq_getElem hlt, ?_⟩
  · rw [chr_eq h0, List.getElem?_eq_getElem hlt]; rfl
  · rw [List.drop_eq_getElem_cons hlt, show (a + 1).toNat = a.toNat + 1 by omega]
theorem sub_nil {tx : Str} {a : Int} (h0 : 0 ≤ a) : (subS tx a a).cps.toList = [] := by
  rw [subS_list h0 (Int.le_refl _), show (a - a).toNat = 0 by omega]; rfl
theorem sub_cons {tx : Str} {a p : Int} {c : Nat} (h0 : 0 ≤ a) (h : a < p) (hd : tx.cps.toList.drop a.toNat = c :: tx.cps.toList.drop (a + 1).toNat) : (subS tx a p).cps.toList = c :: (subS tx (a + 1) p).cps.toList := by
  rw [subS_list h0 (by omega), subS_list (by omega) (by omega), hd, show (p - a).toNat = (p - (a + 1)).toNat + 1 by omega, List.take_succ_cons]
theorem toNat_split {a b : Int} (h0 : 0 ≤ a) (h : a ≤ b) : b.toNat = a.toNat + (b - a).toNat := by
  rw [← Int.toNat_add h0 (Int.sub_nonneg_of_le h), Int.add_comm, Int.sub_add_cancel]
theorem sub_split {a b p : Int} (h1 : a ≤ b) (h2 : b ≤ p) : (p - a).toNat = (b - a).toNat + (p - b).toNat := by
  rw [← Int.toNat_add (Int.sub_nonneg_of_le h1) (Int.sub_nonneg_of_le h2)]
  congr 1
  omega
theorem drop_split {tx : Str} {a b : Int} (h0 : 0 ≤ a) (h1 : a ≤ b) : tx.cps.toList.drop b.toNat = (tx.cps.toList.drop a.toNat).drop (b - a).toNat := by
  rw [List.drop_drop, ← toNat_split h0 h1]
theorem sub_app {tx : Str} {a b p : Int} (h0 : 0 ≤ a) (h1 : a ≤ b) (h2 : b ≤ p) : (subS tx a p).cps.toList = (subS tx a b).cps.toList ++ (subS tx b p).cps.toList := by
  rw [subS_list h0 (Int.le_trans h1 h2), subS_list h0 h1, subS_list (Int.le_trans h0 h1) h2]
  rw [drop_split h0 h1, sub_split h1 h2, List.take_add]
/-- where a skip stops -/
noncomputable def stopP (c : Str) : Prop := (c == Str.ofString "\n") = false ∧ (c == Str.ofString "#") = false ∧ ((c == Str.ofString "") = true ∨ blankP c = false)
theorem skip_stays {tx : Str} {a : Int} {b : Bool} (h0 : 0 ≤ a) (h : stopP (chr tx a)) : skipE tx a b = (a, b) := by
  rw [skipE_eq tx a b h0, if_neg (by rw [h.1]; decide), if_neg (by rw [h.2.1]; decide), if_pos]
  rcases h.2.2 with h | h
  · rw [h]; rfl
  · rw [h]; simp
theorem stop_nil : stopP nilS := ⟨by decide +kernel, by decide +kernel, .inl (by decide +kernel)⟩
theorem codes_eq (x : Str) : KStt.codes x = x.cps.toList.map fun (c : Nat) => (c : Int) := rfl
theorem layT_nl (st : Bool) {c : Nat} (h : ((⟨#[c]⟩ : Str) == Str.ofString "\n") = true) : layT (some st) (c : Int) = some false := by
  unfold layT; simp only [Int.toNat_natCast]; rw [if_pos h]
theorem layT_sharp (st : Bool) {c : Nat} (h1 : ((⟨#[c]⟩ : Str) == Str.ofString "\n") = false) (h2 : ((⟨#[c]⟩ : Str) == Str.ofString "#") = true) : layT (some st) (c : Int) = some true := by
  unfold layT; simp only [Int.toNat_natCast]; rw [if_neg (Bool.eq_false_iff.mp h1), if_pos h2]
theorem layT_rem {c : Nat} (h1 : ((⟨#[c]⟩ : Str) == Str.ofString "\n") = false) : layT (some true) (c : Int) = some true := by
  unfold layT; simp only [Int.toNat_natCast]; rw [if_neg (Bool.eq_false_iff.mp h1)]
  split <;> rfl
theorem layT_blank {c : Nat} (h1 : ((⟨#[c]⟩ : Str) == Str.ofString "\n") = false) (h2 : ((⟨#[c]⟩ : Str) == Str.ofString "#") = false) (h3 : blankP ⟨#[c]⟩ = true) : layT (some false) (c : Int) = some false := by
  unfold layT; simp only [Int.toNat_natCast]; rw [if_neg (Bool.eq_false_iff.mp h1), if_neg (Bool.eq_false_iff.mp h2), if_neg (by decide), if_pos h3]
theorem one_eq {c d : Nat} : ((⟨#[c]⟩ : Str) == ⟨#[d]⟩) = decide (c = d) := by
  by_cases h : c = d
  · subst h; simp
  · rw [decide_eq_false h]
    rw [beq_eq_false_iff_ne]
    intro e
    injection e with e
    injection e with e
    injection e with e _
    exact h e
theorem nl_eq {c : Nat} : ((⟨#[c]⟩ : Str) == Str.ofString "\n") = decide (c = 10) := by
  rw [show Str.ofString "\n" = ⟨#[10]⟩ by decide +kernel]; exact one_eq
theorem remP_nl {c : Nat} (h : remP ⟨#[c]⟩ = true) : ((⟨#[c]⟩ : Str) == Str.ofString "\n") = false := by
  unfold remP at h
  simp only [List.any_cons, List.any_nil, Bool.or_false, Bool.not_eq_true', Bool.or_eq_false_iff] at h
  have h2 := h.2
  rw [beq_eq_false_iff_ne] at h2 ⊢
  exact fun e => h2 e.symm
theorem rem_fold : ∀ (l : List Nat), (∀ c ∈ l, remP ⟨#[c]⟩ = true) → (l.map fun (c : Nat) => (c : Int)).foldl layT (some true) = some true
  | [], _ => rfl
  | c :: l, h => by
    rw [List.map_cons, List.foldl_cons, layT_rem (remP_nl (h c (.head _)))]
    exact rem_fold l fun d hd => h d (.tail _ hd)
theorem skip_spec (tx : Str) : ∀ (n : Nat) (a : Int) (b st : Bool) (p : Int) (nl : Bool), 0 ≤ a → tx.length + 1 ≤ n + a.toNat → a ≤ tx.length → (st = true → (chr tx a == Str.ofString "\n") = true ∨ (chr tx a == Str.ofString "") = true) → skipF tx n a b = (p, nl) →
    a ≤ p ∧ p ≤ tx.length ∧ (((subS tx a p).cps.toList.map fun (c : Nat) => (c : Int)).foldl layT (some st)).isSome = true ∧ nl = (b || decide (10 ∈ (subS tx a p).cps.toList)) ∧ stopP (chr tx p) ∧ (WQ (tx.cps.toList.drop a.toNat) → WQ (tx.cps.toList.drop p.toNat)) := by
  intro n
  induction n with
  | zero => intro a b st p nl h0 hn hle; omega
  | succ n ih =>
    intro a b st p nl h0 hn hle hst hs
    rw [skipF] at hs
    split at hs
    · rename_i hc
      have hl := in_lt_eq eqS_nil_nl h0 hc
      obtain ⟨c, e1, e2, e3⟩ := chr_code h0 hl
      obtain ⟨i1, i2, i3, i4, i5, i6⟩ := ih (a + 1) true false p nl (by omega) (by omega) (by omega) (fun q => by cases q) hs
      rw [e1] at hc
      have hc10 : c = 10 := by rw [nl_eq] at hc; exact of_decide_eq_true hc
      refine ⟨by omega, i2, ?_, ?_, i5, fun hw => i6 ?_⟩
      · rw [sub_cons h0 (by omega) e3, List.map_cons, List.foldl_cons, layT_nl st hc]; exact i3
      · rw [i4, sub_cons h0 (by omega) e3, hc10]; simp
      · rw [e3] at hw
        have := WQ.skip 1 hw fun j d hj hd => by
          have : j = 0 := by omega
          subst this
          simp at hd
          subst hd
          omega
        simpa using this
    · rename_i hnl
      have hnl' : (chr tx a == Str.ofString "\n") = false := Bool.eq_false_iff.mpr hnl
      split at hs
      · rename_i hc
        have hl := in_lt_eq eqS_nil_sharp h0 hc
        obtain ⟨c, e1, e2, e3⟩ := chr_code h0 hl
        have g1 : a + 1 ≤ scan remP tx (a + 1) := scan_ge
        have g2 : scan remP tx (a + 1) ≤ tx.length := scan_le remP_nil (by omega) (by omega)
        have g3 := scan_stops (tx := tx) remP_nil (i := a + 1) (by omega)
        have g4 := scan_drop (tx := tx) remP_nil (i := a + 1) (by omega)
        have g5 := scan_all (p := remP) (tx := tx) (i := a + 1)
        generalize scan remP tx (a + 1) = r at *
        obtain ⟨i1, i2, i3, i4, i5, i6⟩ := ih r b true p nl (by omega) (by omega) (by omega) (fun _ => by
          unfold remP at g3
          simp only [List.any_cons, List.any_nil, Bool.or_false, Bool.not_eq_false', Bool.or_eq_true, beq_iff_eq] at g3
          rcases g3 with g3 | g3
          · right; rw [← g3]; simp
          · left; rw [← g3]; simp) hs
        rw [e1] at hc hnl'
        have hin : ∀ d ∈ (subS tx (a + 1) r).cps.toList, remP ⟨#[d]⟩ = true := fun d hd => by
          obtain ⟨q, q1, q2, q3⟩ := mem_subS (by omega) g1 hd
          rw [← q3]; exact g5 q q1 q2
        refine ⟨by omega, i2, ?_, ?_, i5, fun hw => i6 ?_⟩
        · rw [sub_cons h0 (by omega) e3, sub_app (by omega) g1 i1, List.map_cons, List.foldl_cons, layT_sharp st hnl' hc, List.map_append, List.foldl_append, rem_fold _ hin]
          exact i3
        · rw [i4, sub_cons h0 (by omega) e3, sub_app (by omega) g1 i1]
          have n1 : ¬ 10 = c := fun q => by rw [nl_eq, ← q] at hnl'; cases hnl'
          have n2 : 10 ∉ (subS tx (a + 1) r).cps.toList := fun q => by
            have := remP_nl (hin 10 q)
            rw [nl_eq] at this
            cases this
          simp [n1, n2]
        · rw [g4]
          refine WQ.run (by decide +kernel) ?_
          rw [e3] at hw
          have := WQ.skip 1 hw fun j d hj hd => by
            have : j = 0 := by omega
            subst this
            simp at hd
            subst hd
            rw [show Str.ofString "#" = ⟨#[35]⟩ by decide +kernel, one_eq] at hc
            have := of_decide_eq_true hc
            omega
          simpa using this
      · rename_i hsh
        have hsh' : (chr tx a == Str.ofString "#") = false := Bool.eq_false_iff.mpr hsh
        split at hs
        · rename_i hc
          cases hs
          refine ⟨Int.le_refl _, hle, ?_, ?_, ⟨hnl', hsh', ?_⟩, fun hw => hw⟩
          · rw [sub_nil h0]; rfl
          · rw [sub_nil h0]; simp
          · rcases Bool.or_eq_true_iff.mp hc with hc | hc
            · exact .inl hc
            · exact .inr (by simpa using hc)
        · rename_i hc
          have hc' := Bool.eq_false_iff.mpr hc
          rw [Bool.or_eq_false_iff] at hc'
          have hl := in_lt_ne h0 hc'.1
          obtain ⟨c, e1, e2, e3⟩ := chr_code h0 hl
          have hst' : st = false := by
            cases st with
            | false => rfl
            | true =>
              rcases hst rfl with q | q
              · rw [hnl'] at q; cases q
              · rw [hc'.1] at q; cases q
          subst hst'
          obtain ⟨i1, i2, i3, i4, i5, i6⟩ := ih (a + 1) b false p nl (by omega) (by omega) (by omega) (fun q => by cases q) hs
          have hb : blankP (chr tx a) = true := by simpa using hc'.2
          rw [e1] at hnl' hsh' hb
          refine ⟨by omega, i2, ?_, ?_, i5, fun hw => i6 ?_⟩
          · rw [sub_cons h0 (by omega) e3, List.map_cons, List.foldl_cons, layT_blank hnl' hsh' hb]; exact i3
          · rw [i4, sub_cons h0 (by omega) e3]
            have n1 : ¬ 10 = c := fun q => by rw [nl_eq, ← q] at hnl'; cases hnl'
            simp [n1]
          · rw [e3] at hw
            have := WQ.skip 1 hw fun j d hj hd => by
              have : j = 0 := by omega
              subst this
              simp at hd
              subst hd
              refine ⟨?_, ?_, ?_⟩ <;> (intro q; subst q; revert hb; decide +kernel)
            simpa using this
end
section
noncomputable def isQ (c : Str) : Bool := c == Str.ofString "\"" || c == Str.ofString "'" || c == Str.ofString "`"
/-- a predicate that no quote meets, nor the end -/
structure Off (f : Str → Bool) : Prop where
  n : f nilS = false
  a : f (Str.ofString "\"") = false
  b : f (Str.ofString "'") = false
  c : f (Str.ofString "`") = false
theorem Off.of {f : Str → Bool} (F : Off f) {c : Str} (h : f c = true) : isQ c = false := by
  unfold isQ
  rw [Bool.or_eq_false_iff, Bool.or_eq_false_iff]
  refine ⟨⟨?_, ?_⟩, ?_⟩ <;> (rw [beq_eq_false_iff_ne]; intro e; subst e)
  · rw [F.a] at h; cases h
  · rw [F.b] at h; cases h
  · rw [F.c] at h; cases h
/-- a stretch of text without quotes -/
noncomputable def Reg (tx : Str) (s e : Int) : Prop := s ≤ e ∧ ∀ j, s ≤ j → j < e → isQ (chr tx j) = false ∧ j < tx.length
theorem Reg.trans {tx : Str} {s e f : Int} (h : Reg tx s e) (h' : Reg tx e f) : Reg tx s f := ⟨by have := h.1; have := h'.1; omega, fun j j0 j1 => if q : j < e then h.2 j j0 q else h'.2 j (by omega) j1⟩
theorem Reg.nil (tx : Str) (s : Int) : Reg tx s s := ⟨Int.le_refl _, fun j j0 j1 => by omega⟩
theorem Reg.one {tx : Str} {s : Int} {f : Str → Bool} (F : Off f) (h0 : 0 ≤ s) (h : f (chr tx s) = true) : Reg tx s (s + 1) := ⟨by omega, fun j j0 j1 => by
  have : j = s := by omega
  subst this
  exact ⟨F.of h, in_lt F.n h0 h⟩⟩
theorem Reg.scan {tx : Str} {s : Int} {f : Str → Bool} (F : Off f) (h0 : 0 ≤ s) : Reg tx s (Lx.scan f tx s) := ⟨scan_ge, fun j j0 j1 => by
  have := scan_all (p := f) (tx := tx) (i := s) j j0 j1
  exact ⟨F.of this, in_lt F.n (by omega) this⟩⟩
theorem Reg.le {tx : Str} {s e : Int} (h : Reg tx s e) (hs : s ≤ tx.length) : e ≤ tx.length := by
  have := h.1
  by_cases q : s < e
  · have := (h.2 (e - 1) (by omega) (by omega)).2; omega
  · omega
theorem Reg.wq {tx : Str} {s e : Int} (h : Reg tx s e) (h0 : 0 ≤ s) (hw : WQ (tx.cps.toList.drop s.toNat)) : WQ (tx.cps.toList.drop e.toNat) := by
  have h1 := h.1
  have := WQ.skip (e - s).toNat hw fun j c hj hc => by
    rw [List.getElem?_drop] at hc
    obtain ⟨q1, q2⟩ := h.2 (s + j) (by omega) (by omega)
    rw [chr_eq (by omega), show (s + (j : Int)).toNat = s.toNat + j by omega, hc] at q1
    unfold isQ at q1
    simp only [chO] at q1
    rw [show Str.ofString "\"" = ⟨#[34]⟩ by decide +kernel, show Str.ofString "'" = ⟨#[39]⟩ by decide +kernel, show Str.ofString "`" = ⟨#[96]⟩ by decide +kernel, one_eq, one_eq, one_eq] at q1
    simp only [Bool.or_eq_false_iff, decide_eq_false_iff_not] at q1
    exact ⟨q1.1.1, q1.1.2, q1.2⟩
  rw [List.drop_drop, show s.toNat + (e - s).toNat = e.toNat by omega] at this
  exact this
theorem off_digit : Off isDigitS := ⟨by decide +kernel, by decide +kernel, by decide +kernel, by decide +kernel⟩
theorem off_name : Off isNameS := ⟨by decide +kernel, by decide +kernel, by decide +kernel, by decide +kernel⟩
theorem off_hex : Off hexP := ⟨by decide +kernel, by decide +kernel, by decide +kernel, by decide +kernel⟩
theorem off_eq (d : Str) (h : (nilS == d) = false ∧ (Str.ofString "\"" == d) = false ∧ (Str.ofString "'" == d) = false ∧ (Str.ofString "`" == d) = false) : Off (fun c => c == d) := ⟨h.1, h.2.1, h.2.2.1, h.2.2.2⟩
theorem off_any (l : List Str) (h : (l.any (· == nilS)) = false ∧ (l.any (· == Str.ofString "\"")) = false ∧ (l.any (· == Str.ofString "'")) = false ∧ (l.any (· == Str.ofString "`")) = false) : Off (fun c => l.any (· == c)) := ⟨h.1, h.2.1, h.2.2.1, h.2.2.2⟩
theorem numR_b {tx : Str} {n d s e : Int} {tv : TV} (h0 : 0 ≤ s) (h : numR tx n d s = some (tv, e)) : isNum tv = true ∧ Reg tx s e := by
  unfold numR at h
  split at h
  · cases h
  · split at h
    · rename_i _ hL
      have r : Reg tx s (s + 1) := Reg.one (off_eq (Str.ofString "L") (by decide +kernel)) h0 hL
      split at h
      · cases h; exact ⟨rfl, r⟩
      · cases h; exact ⟨rfl, r⟩
    · cases h; exact ⟨rfl, .nil _ _⟩
theorem numR_cut {cx tx : Str} {p m n d s : Int} {tv : TV} (C : Cut cx tx p m) (hs : p ≤ s) (h : numR tx n d s = some (tv, p + m)) : numR cx n d (s - p) = some (tv, m) := by
  have hp := C.p0
  obtain ⟨_, hr, _⟩ := numR_b (by omega) h
  unfold numR at h ⊢
  by_cases q : s - p < m
  · rw [C.at_ (s - p) (by omega) q, show p + (s - p) = s by omega]
    split at h
    · cases h
    · rename_i hi
      rw [if_neg hi]
      split at h
      · rename_i hL
        rw [if_pos hL]
        split at h
        · rename_i hd
          rw [if_pos hd]
          injection h with h
          injection h with h1 h2
          rw [h1, show s - p + 1 = m by omega]
        · rename_i hd
          rw [if_neg hd]
          injection h with h
          injection h with h1 h2
          rw [h1, show s - p + 1 = m by omega]
      · rename_i hL
        rw [if_neg hL]
        injection h with h
        injection h with h1 h2
        omega
  · rw [C.out (s - p) (by omega), if_neg (by decide +kernel), if_neg (by decide +kernel)]
    split at h
    · cases h
    · split at h
      · rename_i hL
        split at h <;> (injection h with h; injection h with h h2; omega)
      · injection h with h
        injection h with h h2
        rw [h, show s - p = m by omega]
theorem off_sign (d : Str) (h : (nilS == d) = false ∧ (Str.ofString "\"" == d) = false ∧ (Str.ofString "'" == d) = false ∧ (Str.ofString "`" == d) = false) {tx : Str} {j : Int} (h0 : 0 ≤ j) (hc : (chr tx j == d) = true) : Reg tx j (j + 1) := Reg.one (off_eq d h) h0 hc
theorem expJ_reg {tx : Str} {j : Int} (h0 : 0 ≤ j) : Reg tx j (expJ tx j) := by
  unfold expJ
  split
  · rename_i h; exact off_sign _ (by decide +kernel) h0 h
  · split
    · rename_i h; exact off_sign _ (by decide +kernel) h0 h
    · exact .nil _ _
theorem expR_b {tx : Str} {j v e : Int} (h0 : 0 ≤ j) (h : expR tx j = some (v, e)) : Reg tx j e ∧ j < e := by
  have r := expJ_reg (tx := tx) h0
  have hr := r.1
  have r2 := Reg.scan (tx := tx) off_digit (s := expJ tx j) (by omega)
  have hr2 := r2.1
  unfold expR at h
  split at h
  · cases h
  · rename_i hn
    injection h with h
    injection h with h1 h2
    subst h2
    refine ⟨r.trans r2, ?_⟩
    have : scan isDigitS tx (expJ tx j) ≠ expJ tx j := fun q => hn (.inl q)
    omega
theorem expR_cut {cx tx : Str} {p m j v e : Int} (C : Cut cx tx p m) (hj : p ≤ j) (he : e ≤ p + m) (h : expR tx j = some (v, e)) : expR cx (j - p) = some (v, e - p) := by
  have hp := C.p0
  obtain ⟨⟨_, _⟩, hlt⟩ := expR_b (by omega) h
  have c1 : chr cx (j - p) = chr tx j := by rw [C.at_ (j - p) (by omega) (by omega), show p + (j - p) = j by omega]
  have r := (expJ_reg (tx := tx) (j := j) (by omega)).1
  have cJ : expJ cx (j - p) = expJ tx j - p := by
    unfold expJ
    rw [c1]
    split
    · omega
    · split <;> omega
  have hsc : scan isDigitS tx (expJ tx j) = e := by
    unfold expR at h
    split at h
    · cases h
    · injection h with h
      injection h with h1 h2
  have cS : scan isDigitS cx (expJ cx (j - p)) = scan isDigitS tx (expJ tx j) - p := by
    rw [cJ, C.scan off_digit.n (by omega) (by rw [show p + (expJ tx j - p) = expJ tx j by omega, hsc]; exact he), show p + (expJ tx j - p) = expJ tx j by omega]
  have ge : expJ tx j ≤ scan isDigitS tx (expJ tx j) := scan_ge
  have cG : expG cx (j - p) = expG tx j := by
    unfold expG
    rw [cS, cJ, C.sub _ _ (by omega) (by omega) (by rw [hsc]; omega), show p + (expJ tx j - p) = expJ tx j by omega, show p + (scan isDigitS tx (expJ tx j) - p) = scan isDigitS tx (expJ tx j) by omega]
  have cV : expV cx (j - p) = expV tx j := by unfold expV; rw [c1, cG]
  unfold expR at h ⊢
  rw [cS, cG, cJ, cV]
  split at h
  · cases h
  · rename_i hn
    rw [if_neg (fun q => hn (q.elim (fun q => .inl (by omega)) .inr))]
    injection h with h
    injection h with h1 h2
    rw [h1, h2]
theorem nmlC_b {tx g : Str} {sc s e : Int} {tv : TV} (h0 : 0 ≤ s) (h : nmlC tx g sc s = some (tv, e)) : isNum tv = true ∧ Reg tx s e := by
  unfold nmlC at h
  split at h
  · exact numR_b h0 h
  · exact numR_b h0 h
theorem nmlC_cut {cx tx g : Str} {p m sc s : Int} {tv : TV} (C : Cut cx tx p m) (hs : p ≤ s) (h : nmlC tx g sc s = some (tv, p + m)) : nmlC cx g sc (s - p) = some (tv, m) := by
  unfold nmlC at h ⊢
  split at h
  · rename_i q; rw [if_pos q]; exact numR_cut C hs h
  · rename_i q; rw [if_neg q]; exact numR_cut C hs h
theorem off_e : Off (fun c => [Str.ofString "e", Str.ofString "E"].any (· == c)) := off_any _ (by decide +kernel)
theorem nmlB_b {tx g : Str} {sc s e : Int} {tv : TV} (h0 : 0 ≤ s) (h : nmlB tx g sc s = some (tv, e)) : isNum tv = true ∧ Reg tx s e := by
  unfold nmlB at h
  split at h
  · rename_i he
    have r := Reg.one off_e h0 he
    split at h
    · cases h
    · rename_i v e' hx
      obtain ⟨r2, _⟩ := expR_b (by omega) hx
      have := r2.1
      obtain ⟨q1, q2⟩ := nmlC_b (by omega) h
      exact ⟨q1, (r.trans r2).trans q2⟩
  · exact nmlC_b h0 h
theorem nmlB_cut {cx tx g : Str} {p m sc s : Int} {tv : TV} (C : Cut cx tx p m) (hs : p ≤ s) (h : nmlB tx g sc s = some (tv, p + m)) : nmlB cx g sc (s - p) = some (tv, m) := by
  have hp := C.p0
  unfold nmlB at h ⊢
  split at h
  · rename_i he
    split at h
    · cases h
    · rename_i v e' hx
      obtain ⟨⟨r1, _⟩, r2⟩ := expR_b (by omega) hx
      obtain ⟨_, ⟨q2, _⟩⟩ := nmlC_b (by omega) h
      rw [C.at_ (s - p) (by omega) (by omega), show p + (s - p) = s by omega, if_pos he]
      have := expR_cut C (by omega) (by omega) hx
      rw [show s - p + 1 = s + 1 - p by omega, this]
      exact nmlC_cut C (by omega) h
  · rename_i he
    have hb := (nmlC_b (by omega) h).2.1
    have : ¬ ([Str.ofString "e", Str.ofString "E"].any (· == chr cx (s - p))) = true := by
      by_cases q : s - p < m
      · rw [C.at_ (s - p) (by omega) q, show p + (s - p) = s by omega]; exact he
      · rw [C.out _ (by omega)]; decide +kernel
    rw [if_neg this]
    exact nmlC_cut C hs h
theorem off_dot : Off (fun c => c == Str.ofString ".") := off_eq _ (by decide +kernel)
theorem nmlA_b {tx : Str} {s e : Int} {tv : TV} (h0 : 0 ≤ s) (h : nmlA tx s = some (tv, e)) : isNum tv = true ∧ Reg tx s e := by
  have r := Reg.scan (tx := tx) off_digit h0
  have hr := r.1
  unfold nmlA at h
  split at h
  · rename_i hd
    have r2 := Reg.one off_dot (by omega) hd
    have r3 := Reg.scan (tx := tx) off_digit (s := scan isDigitS tx s + 1) (by omega)
    have hr3 := r3.1
    obtain ⟨q1, q2⟩ := nmlB_b (by omega) h
    exact ⟨q1, ((r.trans r2).trans r3).trans q2⟩
  · obtain ⟨q1, q2⟩ := nmlB_b (by omega) h
    exact ⟨q1, r.trans q2⟩
theorem nmlA_cut {cx tx : Str} {p m : Int} {tv : TV} (C : Cut cx tx p m) (h : nmlA tx p = some (tv, p + m)) : nmlA cx 0 = some (tv, m) := by
  have hp := C.p0
  have ge : p ≤ scan isDigitS tx p := scan_ge
  unfold nmlA at h
  split at h
  · rename_i hd
    have ge2 : scan isDigitS tx p + 1 ≤ scan isDigitS tx (scan isDigitS tx p + 1) := scan_ge
    have hb := (nmlB_b (by omega) h).2.1
    have c1 : scan isDigitS cx 0 = scan isDigitS tx p - p := by rw [C.scan off_digit.n (Int.le_refl _) (by rw [Int.add_zero]; omega), Int.add_zero]
    have c2 : scan isDigitS cx (scan isDigitS tx p - p + 1) = scan isDigitS tx (scan isDigitS tx p + 1) - p := by
      rw [C.scan off_digit.n (by omega) (by rw [show p + (scan isDigitS tx p - p + 1) = scan isDigitS tx p + 1 by omega]; omega), show p + (scan isDigitS tx p - p + 1) = scan isDigitS tx p + 1 by omega]
    have c3 : chr cx (scan isDigitS tx p - p) = chr tx (scan isDigitS tx p) := by rw [C.at_ _ (by omega) (by omega), show p + (scan isDigitS tx p - p) = scan isDigitS tx p by omega]
    unfold nmlA
    rw [c1, c3, if_pos hd, c2, C.sub _ _ (by omega) (by omega) (by omega), C.sub _ _ (by omega) (by omega) (by omega), Int.add_zero, show p + (scan isDigitS tx p - p) = scan isDigitS tx p by omega, show p + (scan isDigitS tx p - p + 1) = scan isDigitS tx p + 1 by omega,
      show p + (scan isDigitS tx (scan isDigitS tx p + 1) - p) = scan isDigitS tx (scan isDigitS tx p + 1) by omega, show scan isDigitS tx p - p + 1 - (scan isDigitS tx (scan isDigitS tx p + 1) - p) = scan isDigitS tx p + 1 - scan isDigitS tx (scan isDigitS tx p + 1) by omega]
    exact nmlB_cut C (by omega) h
  · rename_i hd
    have hb := (nmlB_b (by omega) h).2.1
    have c1 : scan isDigitS cx 0 = scan isDigitS tx p - p := by rw [C.scan off_digit.n (Int.le_refl _) (by rw [Int.add_zero]; omega), Int.add_zero]
    have c3 : ¬ (chr cx (scan isDigitS tx p - p) == Str.ofString ".") = true := by
      by_cases q : scan isDigitS tx p - p < m
      · rw [C.at_ _ (by omega) q, show p + (scan isDigitS tx p - p) = scan isDigitS tx p by omega]; exact hd
      · rw [C.out _ (by omega)]; decide +kernel
    unfold nmlA
    rw [c1, if_neg c3, C.sub _ _ (by omega) (by omega) (by omega), Int.add_zero, show p + (scan isDigitS tx p - p) = scan isDigitS tx p by omega]
    exact nmlB_cut C (by omega) h
end
section
theorem app_list (x y : Str) : (x ++ y).cps.toList = x.cps.toList ++ y.cps.toList := by
  show (x.cps ++ y.cps).toList = _
  simp
theorem emp_list : (Str.ofString "").cps.toList = [] := by decide +kernel
theorem join_list (l : List Str) : (Txt.join (Str.ofString "") l).cps.toList = (l.map fun x => x.cps.toList).flatten := by
  rw [beq_iff_eq.mp (join_closes (sep := Str.ofString "") (sep' := Str.ofString "") (ys := l) rfl)]
  induction l with
  | nil => rfl
  | cons x r ih =>
    cases r with
    | nil => simp [Str.join]
    | cons y r =>
      rw [show Str.join (Str.ofString "") (x :: y :: r) = x ++ Str.ofString "" ++ Str.join (Str.ofString "") (y :: r) from rfl, app_list, app_list, emp_list, ih]
      simp
theorem hexA_cut {cx tx : Str} {p m : Int} (C : Cut cx tx p m) : ∀ (k : Nat) (i v : Int), 0 ≤ i → scan hexP tx (p + i) = p + i + k → i + k ≤ m → hexA cx i v = hexA tx (p + i) v := by
  have hp := C.p0
  intro k
  induction k with
  | zero =>
    intro i v i0 hs hm
    have st := scan_stops (tx := tx) hexP_nil (i := p + i) (by omega)
    rw [hs, show p + i + ((0 : Nat) : Int) = p + i by omega] at st
    rw [hexA_stop st]
    apply hexA_stop
    by_cases q : i < m
    · rw [C.at_ i i0 q]; exact st
    · rw [C.out i (by omega)]; exact hexP_nil
  | succ k ih =>
    intro i v i0 hs hm
    have hc := scan_all (p := hexP) (tx := tx) (i := p + i) (p + i) (Int.le_refl _) (by omega)
    have e : chr cx i = chr tx (p + i) := C.at_ i i0 (by omega)
    rw [← hexA_step (by omega) hc, ← hexA_step (tx := cx) i0 (by rw [e]; exact hc), e, show p + i + 1 = p + (i + 1) by omega]
    refine ih (i + 1) _ (by omega) ?_ (by omega)
    rw [show p + (i + 1) = p + i + 1 by omega, scan_step hexP_nil (by omega) hc, hs]
    omega
theorem off_zero : Off (fun c => c == Str.ofString "0") := off_eq _ (by decide +kernel)
theorem off_x : Off (fun c => [Str.ofString "x", Str.ofString "X"].any (· == c)) := off_any _ (by decide +kernel)
theorem hexR_b {tx : Str} {p e : Int} {tv : TV} (h0 : 0 ≤ p) (h1 : (chr tx p == Str.ofString "0") = true) (h2 : ([Str.ofString "x", Str.ofString "X"].any (· == chr tx (p + 1))) = true) (h : hexR tx p = some (tv, e)) : isNum tv = true ∧ Reg tx p e ∧ p + 2 < e := by
  have r1 := Reg.one off_zero h0 h1
  have r2 := Reg.one off_x (by omega) h2
  rw [show p + 1 + 1 = p + 2 by omega] at r2
  have r3 := Reg.scan (tx := tx) off_hex (s := p + 2) (by omega)
  have hr := r3.1
  unfold hexR at h
  split at h
  · cases h
  · rename_i hn
    have hne : scan hexP tx (p + 2) ≠ p + 2 := fun q => hn (.inl q)
    obtain ⟨q1, q2⟩ := numR_b (by omega) h
    have := q2.1
    exact ⟨q1, ((r1.trans (r2.trans r3)).trans q2), by omega⟩
theorem hexR_cut {cx tx : Str} {p m : Int} {tv : TV} (C : Cut cx tx p m) (h : hexR tx p = some (tv, p + m)) : hexR cx 0 = some (tv, m) := by
  have hp := C.p0
  have ge : p + 2 ≤ scan hexP tx (p + 2) := scan_ge
  unfold hexR at h
  split at h
  · cases h
  · rename_i hn
    have hb := (numR_b (by omega) h).2.1
    have c1 : scan hexP cx (0 + 2) = scan hexP tx (p + 2) - p := by rw [C.scan hexP_nil (by omega) (by rw [show p + (0 + 2) = p + 2 by omega]; exact hb), show p + (0 + 2) = p + 2 by omega]
    have c2 := hexA_cut C (scan hexP tx (p + 2) - (p + 2)).toNat (0 + 2) 0 (by omega) (by rw [show p + (0 + 2) = p + 2 by omega]; omega) (by omega)
    rw [show p + (0 + 2) = p + 2 by omega] at c2
    have c3 : ¬ ([Str.ofString ".", Str.ofString "p", Str.ofString "P"].any (· == chr cx (scan hexP tx (p + 2) - p))) = true := by
      by_cases q : scan hexP tx (p + 2) - p < m
      · rw [C.at_ _ (by omega) q, show p + (scan hexP tx (p + 2) - p) = scan hexP tx (p + 2) by omega]; exact fun q => hn (.inr q)
      · rw [C.out _ (by omega)]; decide +kernel
    unfold hexR
    rw [c1, c2, if_neg]
    · exact numR_cut C (by omega) h
    · rintro (q | q)
      · exact hn (.inl (by omega))
      · exact c3 q
theorem nmlR_b {tx : Str} {p e : Int} {tv : TV} (h0 : 0 ≤ p) (hn : numT tx p = true) (h : nmlR tx p = some (tv, e)) : isNum tv = true ∧ Reg tx p e ∧ p < e ∧ (isDigitS (chr tx p) = false → p + 1 < e) := by
  unfold nmlR at h
  split at h
  · rename_i hx
    obtain ⟨a, b, c⟩ := hexR_b h0 hx.1 hx.2 h
    exact ⟨a, b, by omega, fun _ => by omega⟩
  · obtain ⟨a, b⟩ := nmlA_b h0 h
    cases hd : isDigitS (chr tx p) with
    | true =>
      have g1 : scan isDigitS tx (p + 1) = scan isDigitS tx p := scan_step off_digit.n h0 hd
      have g2 : p + 1 ≤ scan isDigitS tx (p + 1) := scan_ge
      refine ⟨a, b, ?_, fun q => by cases q⟩
      unfold nmlA at h
      split at h
      · have g3 : scan isDigitS tx p + 1 ≤ scan isDigitS tx (scan isDigitS tx p + 1) := scan_ge
        have := (nmlB_b (by omega) h).2.1
        omega
      · have := (nmlB_b (by omega) h).2.1
        omega
    | false =>
      unfold numT at hn
      rw [hd, Bool.false_or, Bool.and_eq_true] at hn
      have g0 : scan isDigitS tx p = p := scan_stop hd
      have g1 : scan isDigitS tx (p + 1 + 1) = scan isDigitS tx (p + 1) := scan_step off_digit.n (by omega) hn.2
      have g2 : p + 1 + 1 ≤ scan isDigitS tx (p + 1 + 1) := scan_ge
      unfold nmlA at h
      rw [g0, if_pos hn.1] at h
      have := (nmlB_b (by omega) h).2.1
      exact ⟨a, b, by omega, fun _ => by omega⟩
theorem nmlR_cut {cx tx : Str} {p m : Int} {tv : TV} (C : Cut cx tx p m) (hm : 0 < m) (h : nmlR tx p = some (tv, p + m)) : nmlR cx 0 = some (tv, m) := by
  have hp := C.p0
  have c0 : chr cx 0 = chr tx p := by rw [C.at_ 0 (Int.le_refl _) hm, Int.add_zero]
  unfold nmlR at h ⊢
  rw [c0]
  split at h
  · rename_i hx
    obtain ⟨_, _, hlt⟩ := hexR_b hp hx.1 hx.2 h
    rw [if_pos ⟨hx.1, by rw [C.at_ (0 + 1) (by omega) (by omega), show p + (0 + 1) = p + 1 by omega]; exact hx.2⟩]
    exact hexR_cut C h
  · rename_i hx
    rw [if_neg]
    · exact nmlA_cut C h
    · rintro ⟨q1, q2⟩
      by_cases q : 0 + 1 < m
      · rw [C.at_ (0 + 1) (by omega) q, show p + (0 + 1) = p + 1 by omega] at q2
        exact hx ⟨q1, q2⟩
      · rw [C.out (0 + 1) (by omega)] at q2
        revert q2
        decide +kernel
/-- what is known of a token that is read -/
structure LexG (tx : Str) (p : Int) (k : Str) (v : TV) (e : Int) : Prop where
  lt : p < e
  le : e ≤ tx.length
  num : (k == Str.ofString "num") = isNum v
  wq : WQ (tx.cps.toList.drop p.toNat) → WQ (tx.cps.toList.drop e.toNat)
  okk : PyData.strOk k = true
  okv : (∀ c ∈ tx.cps.toList, c < 0x110000) → tvOk v = true
  cut : ∀ cx, Cut cx tx p (e - p) → lexAt cx 0 = some (k, v, e - p)
theorem strOk_of {x : Str} (h : ∀ c ∈ x.cps.toList, c < 0x110000) : PyData.strOk x = true := by
  unfold PyData.strOk
  rw [← Array.all_toList, List.all_eq_true]
  intro c hc
  exact decide_eq_true (h c hc)
theorem sub_mem {tx : Str} {i j : Int} (h0 : 0 ≤ i) (h1 : i ≤ j) {c : Nat} (h : c ∈ (subS tx i j).cps.toList) : c ∈ tx.cps.toList := by
  rw [subS_list h0 h1] at h
  exact List.mem_of_mem_drop (List.mem_of_mem_take h)
theorem chr_mem {tx : Str} {i : Int} (h0 : 0 ≤ i) {c : Nat} (h : c ∈ (chr tx i).cps.toList) : c ∈ tx.cps.toList := sub_mem (i := i) (j := i + 1) h0 (by omega) h
/-- the tests at the token's start, on the piece cut out -/
structure Start (tx cx : Str) (p m : Int) : Prop where
  c0 : chr cx 0 = chr tx p
  num : numT tx p = false → numT cx 0 = false
  raw : rawT tx p = false → rawT cx 0 = false
theorem start_of {cx tx : Str} {p m : Int} (C : Cut cx tx p m) (hm : 0 < m) : Start tx cx p m := by
  have c0 : chr cx 0 = chr tx p := by rw [C.at_ 0 (Int.le_refl _) hm, Int.add_zero]
  refine ⟨c0, fun h => ?_, fun h => ?_⟩
  · unfold numT at h ⊢
    rw [c0]
    rw [Bool.or_eq_false_iff] at h ⊢
    refine ⟨h.1, ?_⟩
    by_cases q : 0 + 1 < m
    · rw [C.at_ (0 + 1) (by omega) q, show p + (0 + 1) = p + 1 by omega]; exact h.2
    · rw [C.out (0 + 1) (by omega), isDigitS_nil, Bool.and_false]
  · unfold rawT at h ⊢
    rw [c0]
    by_cases q : 0 + 1 < m
    · rw [C.at_ (0 + 1) (by omega) q, show p + (0 + 1) = p + 1 by omega]; exact h
    · rw [C.out (0 + 1) (by omega), show ([Str.ofString "'", Str.ofString "\""].any (· == nilS)) = false by decide +kernel, Bool.and_false]
theorem lexG_num {tx : Str} {p e : Int} {k : Str} {v : TV} (h0 : 0 ≤ p) (hp : p ≤ tx.length) (hc : (chr tx p == Str.ofString "") = false) (hn : numT tx p = true) (h : lexAt tx p = some (k, v, e)) : LexG tx p k v e := by
  rw [lex_num hc hn] at h
  cases hr : nmlR tx p with
  | none => rw [hr] at h; cases h
  | some r =>
    rw [hr] at h
    obtain ⟨tv, e'⟩ := r
    simp only [Option.map_some, Option.some.injEq, Prod.mk.injEq] at h
    obtain ⟨rfl, rfl, rfl⟩ := h
    obtain ⟨a, b, c, d⟩ := nmlR_b h0 hn hr
    refine ⟨c, b.le hp, by rw [a]; decide +kernel, b.wq h0, by decide +kernel, fun _ => ?_, fun cx C => ?_⟩
    · cases tv with
      | str x => cases a
      | int n => rfl
      | dbl n d => rfl
    · have S := start_of C (by omega)
      have hn' : numT cx 0 = true := by
        unfold numT at hn ⊢
        rw [S.c0]
        cases hd : isDigitS (chr tx p) with
        | true => rfl
        | false =>
          have := d hd
          rw [hd] at hn
          rw [C.at_ (0 + 1) (by omega) (by omega), show p + (0 + 1) = p + 1 by omega]
          exact hn
      rw [lex_num (by rw [S.c0]; exact hc) hn', nmlR_cut C (by omega) (by rw [hr]; congr 2; omega)]
      rfl
end
section
theorem num_key : (Str.ofString "key" == Str.ofString "num") = false := by decide +kernel
theorem num_id : (Str.ofString "id" == Str.ofString "num") = false := by decide +kernel
theorem num_str : (Str.ofString "str" == Str.ofString "num") = false := by decide +kernel
theorem num_op : (Str.ofString "op" == Str.ofString "num") = false := by decide +kernel
theorem lexG_wrd {tx : Str} {p e : Int} {k : Str} {v : TV} (h0 : 0 ≤ p) (hp : p ≤ tx.length) (hc : (chr tx p == Str.ofString "") = false) (hn : numT tx p = false) (hr : rawT tx p = false) (hw : wrdT tx p = true) (h : lexAt tx p = some (k, v, e)) : LexG tx p k v e := by
  rw [lex_B hc hn, lex_wrd hr hw] at h
  simp only [Option.some.injEq, Prod.mk.injEq] at h
  obtain ⟨rfl, rfl, rfl⟩ := h
  have hname : isNameS (chr tx p) = true := by
    unfold wrdT at hw
    unfold isNameS
    rcases Bool.or_eq_true_iff.mp hw with hw | hw
    · rw [hw]; rfl
    · rw [hw]; simp
  have g1 : scan isNameS tx (p + 1) = scan isNameS tx p := scan_step off_name.n h0 hname
  have g2 : p + 1 ≤ scan isNameS tx (p + 1) := scan_ge
  have r := Reg.scan (tx := tx) off_name h0
  have hkind : ∀ x : Str, ∀ i : Int, wordK x i = Str.ofString "key" ∨ wordK x i = Str.ofString "id" := fun x i => by
    unfold wordK; split
    · exact .inl rfl
    · exact .inr rfl
  refine ⟨by omega, r.le hp, ?_, r.wq h0, ?_, fun hok => strOk_of fun c hc => hok c (sub_mem h0 (by omega) hc), fun cx C => ?_⟩
  · rcases hkind tx p with q | q <;> rw [q]
    · exact num_key
    · exact num_id
  · rcases hkind tx p with q | q <;> (rw [q]; decide +kernel)
  · have S := start_of C (by omega)
    have c1 : scan isNameS cx 0 = scan isNameS tx p - p := by rw [C.scan off_name.n (Int.le_refl _) (by rw [Int.add_zero]; omega), Int.add_zero]
    have c2 : subS cx 0 (scan isNameS tx p - p) = subS tx p (scan isNameS tx p) := by rw [C.sub 0 _ (Int.le_refl _) (by omega) (Int.le_refl _), Int.add_zero, show p + (scan isNameS tx p - p) = scan isNameS tx p by omega]
    rw [lex_B (by rw [S.c0]; exact hc) (S.num hn), lex_wrd (S.raw hr) (by unfold wrdT at hw ⊢; rw [S.c0]; exact hw)]
    unfold wordK
    rw [c1, c2]
theorem drop_chr {tx : Str} {p : Int} (h0 : 0 ≤ p) (k : Nat) {q : Int} (hq : q = p + k) : chr tx q = chO (tx.cps.toList.drop p.toNat)[k]? := by
  subst hq
  rw [chr_eq (by omega), List.getElem?_drop, show (p + (k : Int)).toNat = p.toNat + k by omega]
theorem quo_len {tx : Str} {p : Int} (h0 : 0 ≤ p) (hc : (chr tx p == Str.ofString "") = false) (hg : quo1 tx p ∨ quo3 tx p) : p < quoE tx p ∧ quoE tx p ≤ tx.length := by
  unfold quoE
  rcases hg with hg | hg
  · have e : (chr tx (p + 1 + 1) != chr tx p) = false := hg.2.2.2
    rw [if_neg (by rw [e]; decide)]
    have e2 : chr tx (p + 1 + 1) = chr tx p := by simpa using e
    have := in_lt_ne (tx := tx) (a := p + 1 + 1) (by omega) (by rw [e2]; exact hc)
    omega
  · have e : (chr tx (p + 1 + 1) != chr tx p) = true := hg.2.2.2.1
    rw [if_pos e]
    have e1 : (chr tx (p + 1 + 1 + 1 + 1) != chr tx p) = false := hg.2.2.2.2.2.2.2.2.2
    have e2 : chr tx (p + 1 + 1 + 1 + 1) = chr tx p := by simpa using e1
    have := in_lt_ne (tx := tx) (a := p + 1 + 1 + 1 + 1) (by omega) (by rw [e2]; exact hc)
    omega
theorem quo_wq {tx : Str} {p : Int} (h0 : 0 ≤ p) (hq : isQ (chr tx p) = true) (hw : WQ (tx.cps.toList.drop p.toNat)) : WQ (tx.cps.toList.drop (quoE tx p).toNat) := by
  have k0 := drop_chr (tx := tx) h0 0 (q := p) (by omega)
  have k2 := drop_chr (tx := tx) h0 2 (q := p + 1 + 1) (by omega)
  have d3 : tx.cps.toList.drop (p + 1 + 1 + 1).toNat = (tx.cps.toList.drop p.toNat).drop 3 := by rw [List.drop_drop]; congr 1; omega
  have d5 : tx.cps.toList.drop (p + 1 + 1 + 1 + 1 + 1).toNat = (tx.cps.toList.drop p.toNat).drop 5 := by rw [List.drop_drop]; congr 1; omega
  unfold quoE
  generalize tx.cps.toList.drop p.toNat = l at *
  cases hw with
  | nil =>
    rw [k0] at hq
    have q : isQ nilS = false := by decide +kernel
    exact absurd (q.symm.trans hq) (by decide)
  | one c c1 c2 c3 hs =>
    exfalso
    rw [k0] at hq
    unfold isQ at hq
    simp only [chO, List.getElem?_cons_zero] at hq
    rw [show Str.ofString "\"" = ⟨#[34]⟩ by decide +kernel, show Str.ofString "'" = ⟨#[39]⟩ by decide +kernel, show Str.ofString "`" = ⟨#[96]⟩ by decide +kernel, one_eq, one_eq, one_eq] at hq
    simp [c1, c2, c3] at hq
  | q hs =>
    rw [k2, k0, if_neg (by simp), d3]
    exact hs
  | ab hs =>
    rw [k2, k0, if_pos (by simp only [chO, List.getElem?_cons_succ, List.getElem?_cons_zero]; decide +kernel), d5]
    exact hs
  | n hs =>
    rw [k2, k0, if_neg (by simp), d3]
    exact hs
theorem quo_cut {cx tx : Str} {p : Int} (C : Cut cx tx p (quoE tx p - p)) : quoV cx 0 = quoV tx p ∧ quoE cx 0 = quoE tx p - p := by
  have hm : quoE tx p = (if (chr tx (p + 1 + 1) != chr tx p) = true then p + 1 + 1 + 1 + 1 + 1 else p + 1 + 1 + 1) := rfl
  have hge : p + 3 ≤ quoE tx p := by rw [hm]; split <;> omega
  have a0 : chr cx 0 = chr tx p := by rw [C.at_ 0 (Int.le_refl _) (by omega), Int.add_zero]
  have a1 : chr cx (0 + 1) = chr tx (p + 1) := by rw [C.at_ (0 + 1) (by omega) (by omega), show p + (0 + 1) = p + 1 by omega]
  have a2 : chr cx (0 + 1 + 1) = chr tx (p + 1 + 1) := by rw [C.at_ (0 + 1 + 1) (by omega) (by omega), show p + (0 + 1 + 1) = p + 1 + 1 by omega]
  unfold quoV quoE
  rw [a0, a1, a2]
  by_cases q : (chr tx (p + 1 + 1) != chr tx p) = true
  · rw [if_pos q] at hm
    have a3 : chr cx (0 + 1 + 1 + 1) = chr tx (p + 1 + 1 + 1) := by rw [C.at_ (0 + 1 + 1 + 1) (by omega) (by omega), show p + (0 + 1 + 1 + 1) = p + 1 + 1 + 1 by omega]
    rw [if_pos q, if_pos q, if_pos q, if_pos q, a3]
    exact ⟨rfl, by omega⟩
  · rw [if_neg q, if_neg q, if_neg q, if_neg q]
    exact ⟨rfl, by omega⟩
theorem quo_ok {tx : Str} {p : Int} (h0 : 0 ≤ p) (hok : ∀ c ∈ tx.cps.toList, c < 0x110000) : tvOk (.str (quoV tx p)) = true := by
  refine strOk_of fun c hc => ?_
  unfold quoV at hc
  split at hc
  · rw [join_list] at hc
    simp only [List.map_cons, List.map_nil, List.flatten_cons, List.flatten_nil, List.append_nil, List.mem_append] at hc
    rcases hc with hc | hc | hc <;> exact hok c (chr_mem (by omega) hc)
  · rw [join_list] at hc
    simp only [List.map_cons, List.map_nil, List.flatten_cons, List.flatten_nil, List.append_nil] at hc
    exact hok c (chr_mem (by omega) hc)
theorem lexG_quo {tx : Str} {p e : Int} {k : Str} {v : TV} (h0 : 0 ≤ p) (hc : (chr tx p == Str.ofString "") = false) (hn : numT tx p = false) (hr : rawT tx p = false) (hw : wrdT tx p = false) (hq : quoT tx p = true) (hg : quo1 tx p ∨ quo3 tx p) (h : lexAt tx p = some (k, v, e)) : LexG tx p k v e := by
  rw [lex_B hc hn, lex_quo hr hw hq] at h
  simp only [Option.some.injEq, Prod.mk.injEq] at h
  obtain ⟨rfl, rfl, rfl⟩ := h
  obtain ⟨l1, l2⟩ := quo_len h0 hc hg
  refine ⟨l1, l2, num_str, quo_wq h0 (by unfold quoT at hq; unfold isQ; rw [hq]; rfl), by decide +kernel, quo_ok h0, fun cx C => ?_⟩
  have S := start_of C (by omega)
  obtain ⟨c1, c2⟩ := quo_cut C
  rw [lex_B (by rw [S.c0]; exact hc) (S.num hn), lex_quo (S.raw hr) (by unfold wrdT at hw ⊢; rw [S.c0]; exact hw) (by unfold quoT at hq ⊢; rw [S.c0]; exact hq), c1, c2]
theorem lexG_tick {tx : Str} {p e : Int} {k : Str} {v : TV} (h0 : 0 ≤ p) (hc : (chr tx p == Str.ofString "") = false) (hn : numT tx p = false) (hr : rawT tx p = false) (hw : wrdT tx p = false) (hq : quoT tx p = false) (ht : (chr tx p == Str.ofString "`") = true) (hg : quo1 tx p ∨ quo3 tx p) (h : lexAt tx p = some (k, v, e)) : LexG tx p k v e := by
  rw [lex_B hc hn, lex_tick hr hw hq ht] at h
  simp only [Option.some.injEq, Prod.mk.injEq] at h
  obtain ⟨rfl, rfl, rfl⟩ := h
  obtain ⟨l1, l2⟩ := quo_len h0 hc hg
  refine ⟨l1, l2, num_id, quo_wq h0 (by unfold isQ; rw [ht]; simp), by decide +kernel, quo_ok h0, fun cx C => ?_⟩
  have S := start_of C (by omega)
  obtain ⟨c1, c2⟩ := quo_cut C
  rw [lex_B (by rw [S.c0]; exact hc) (S.num hn), lex_tick (S.raw hr) (by unfold wrdT at hw ⊢; rw [S.c0]; exact hw) (by unfold quoT at hq ⊢; rw [S.c0]; exact hq) (by rw [S.c0]; exact ht), c1, c2]
theorem lexG_pct {tx : Str} {p e : Int} {k : Str} {v : TV} (h0 : 0 ≤ p) (hc : (chr tx p == Str.ofString "") = false) (hn : numT tx p = false) (hr : rawT tx p = false) (hw : wrdT tx p = false) (hq : quoT tx p = false) (ht : (chr tx p == Str.ofString "`") = false) (hpc : (chr tx p == Str.ofString "%") = true) (h : lexAt tx p = some (k, v, e)) : LexG tx p k v e := by
  cases hs : (chr tx (scan pctP tx (p + 1)) == Str.ofString "%") with
  | false => rw [lex_B hc hn, lex_pctx hr hw hq ht hpc hs] at h; cases h
  | true =>
    rw [lex_B hc hn, lex_pct hr hw hq ht hpc hs] at h
    simp only [Option.some.injEq, Prod.mk.injEq] at h
    obtain ⟨rfl, rfl, rfl⟩ := h
    have g1 : p + 1 ≤ scan pctP tx (p + 1) := scan_ge
    have hl := in_lt_eq (tx := tx) (x := Str.ofString "%") (by decide +kernel) (by omega) hs
    have offp : Off (fun c => c == Str.ofString "%") := off_eq _ (by decide +kernel)
    refine ⟨by omega, by omega, num_op, fun hwq => ?_, by decide +kernel, fun hok => strOk_of fun c hc => hok c (sub_mem h0 (by omega) hc), fun cx C => ?_⟩
    · have r1 := (Reg.one offp h0 hpc).wq h0 hwq
      have r2 := WQ.run (f := fun c => pctP ⟨#[c]⟩) (by decide +kernel) r1
      rw [← scan_drop pctP_nil (by omega)] at r2
      exact (Reg.one offp (by omega) hs).wq (by omega) r2
    · have S := start_of C (by omega)
      have c1 : scan pctP cx (0 + 1) = scan pctP tx (p + 1) - p := by rw [C.scan pctP_nil (by omega) (by rw [show p + (0 + 1) = p + 1 by omega]; omega), show p + (0 + 1) = p + 1 by omega]
      have c2 : chr cx (scan pctP tx (p + 1) - p) = chr tx (scan pctP tx (p + 1)) := by rw [C.at_ _ (by omega) (by omega), show p + (scan pctP tx (p + 1) - p) = scan pctP tx (p + 1) by omega]
      rw [lex_B (by rw [S.c0]; exact hc) (S.num hn), lex_pct (S.raw hr) (by unfold wrdT at hw ⊢; rw [S.c0]; exact hw) (by unfold quoT at hq ⊢; rw [S.c0]; exact hq) (by rw [S.c0]; exact ht) (by rw [S.c0]; exact hpc) (by rw [c1, c2]; exact hs), c1]
      rw [C.sub 0 _ (Int.le_refl _) (by omega) (by omega), Int.add_zero, show p + (scan pctP tx (p + 1) - p + 1) = scan pctP tx (p + 1) + 1 by omega, show scan pctP tx (p + 1) - p + 1 = scan pctP tx (p + 1) + 1 - p by omega]
end
section
theorem op2_all : ∀ t ∈ op2, 2 ≤ t.length ∧ t.length ≤ 3 ∧ (∀ c ∈ t.cps.toList, c ≠ 34 ∧ c ≠ 39 ∧ c ≠ 96 ∧ c < 0x110000) := by decide +kernel
theorem op3_all : ∀ t ∈ op3, t.length = 3 ∧ t ∈ op2 := by decide +kernel
theorem opC_all : ∀ c ∈ opC.cps.toList, c ≠ 34 ∧ c ≠ 39 ∧ c ≠ 96 ∧ c < 0x110000 := by decide +kernel
theorem any_mem {l : List Str} {x : Str} : (l.any fun y => y == x) = true ↔ x ∈ l := by
  rw [List.any_eq_true]
  constructor
  · rintro ⟨y, hy, e⟩
    rw [← eq_of_beq e]; exact hy
  · intro h; exact ⟨x, h, by simp⟩
theorem sub_lenN {tx : Str} {p n : Int} (h0 : 0 ≤ p) (h1 : 0 ≤ n) : ((subS tx p (p + n)).length : Int) = min n (tx.length - p) ∨ (tx.length : Int) < p := by
  by_cases q : (tx.length : Int) < p
  · exact .inr q
  · left
    obtain ⟨a, rfl⟩ := Int.eq_ofNat_of_zero_le h0
    obtain ⟨b, rfl⟩ := Int.eq_ofNat_of_zero_le h1
    have hq : a ≤ tx.length := Int.ofNat_le.mp (Int.not_lt.mp q)
    have e : ((a : Int) + b - a) = b := by rw [Int.add_comm, Int.add_sub_cancel]
    rw [len_list, subS_list h0 (Int.le_add_of_nonneg_right h1), List.length_take, List.length_drop, e, Int.toNat_natCast, Int.toNat_natCast, ← len_list, ← Int.ofNat_sub hq]
    generalize tx.length - a = y
    rcases Nat.le_total b y with g | g
    · rw [Nat.min_eq_left g, Int.min_eq_left (Int.ofNat_le.mpr g)]
    · rw [Nat.min_eq_right g, Int.min_eq_right (Int.ofNat_le.mpr g)]
theorem sub_chr {tx : Str} {p n j : Int} (h0 : 0 ≤ p) (h1 : p ≤ j) (h2 : j < p + n) (h3 : j < tx.length) : ∃ c, c ∈ (subS tx p (p + n)).cps.toList ∧ chr tx j = ⟨#[c]⟩ := by
  obtain ⟨c, e1, e2, e3⟩ := chr_code (tx := tx) (a := j) (by omega) h3
  refine ⟨c, ?_, e1⟩
  rw [sub_app (b := j) h0 h1 (by omega), sub_cons (by omega) h2 e3]
  simp
theorem isQ_of {c : Nat} (h1 : c ≠ 34) (h2 : c ≠ 39) (h3 : c ≠ 96) : isQ ⟨#[c]⟩ = false := by
  unfold isQ
  rw [show Str.ofString "\"" = ⟨#[34]⟩ by decide +kernel, show Str.ofString "'" = ⟨#[39]⟩ by decide +kernel, show Str.ofString "`" = ⟨#[96]⟩ by decide +kernel, one_eq, one_eq, one_eq]
  simp [h1, h2, h3]
theorem inS_one {x : Str} {c : Nat} : inS x ⟨#[c]⟩ = decide (c ∈ x.cps.toList) := by
  unfold inS
  exact StrLaws.found_one x c
theorem cut_le {cx tx : Str} {p n k : Int} (C : Cut cx tx p n) (hk : n ≤ k) : subS cx 0 k = subS tx p (p + n) := by
  rw [C.far 0 k (Int.le_refl _) C.n0 hk, C.sub 0 n (Int.le_refl _) C.n0 (Int.le_refl _), Int.add_zero]
/-- an operator: its text, its length, and the same for the piece cut out -/
theorem opG {tx t : Str} {p : Int} (h0 : 0 ≤ p) (hc : (chr tx p == Str.ofString "") = false) (h : opT tx p = some t) :
    ∃ n : Int, 1 ≤ n ∧ t = subS tx p (p + n) ∧ (t.length : Int) = n ∧ p + n ≤ tx.length ∧ (∀ c ∈ t.cps.toList, c ≠ 34 ∧ c ≠ 39 ∧ c ≠ 96 ∧ c < 0x110000) ∧ ∀ cx, Cut cx tx p n → opT cx 0 = some t := by
  have hl := in_lt_ne h0 hc
  unfold opT at h
  split at h
  · rename_i h2
    have ht : opL tx p = t := Option.some.inj h
    rw [ht, any_mem] at h2
    obtain ⟨b1, b2, b3⟩ := op2_all t h2
    unfold opL at ht
    split at ht
    · rename_i h3
      rw [ht, any_mem] at h3
      obtain ⟨c1, c2⟩ := op3_all t h3
      have hlen := sub_lenN (tx := tx) (p := p) (n := 3) h0 (by omega)
      rw [ht] at hlen
      refine ⟨3, by omega, ht.symm, by omega, by omega, b3, fun cx C => ?_⟩
      have e : subS cx 0 (0 + 3) = t := by rw [cut_le C (by omega), ht]
      unfold opT opL
      rw [e, if_pos (any_mem.mpr h3), if_pos (any_mem.mpr h2)]
    · rename_i h3
      have hlen := sub_lenN (tx := tx) (p := p) (n := 2) h0 (by omega)
      rw [ht] at hlen
      refine ⟨2, by omega, ht.symm, by omega, by omega, b3, fun cx C => ?_⟩
      have e : subS cx 0 (0 + 3) = t := by rw [cut_le C (by omega), ht]
      have e2 : subS cx 0 (0 + 2) = t := by rw [cut_le C (by omega), ht]
      have eL : opL cx 0 = t := by
        unfold opL
        rw [e, e2, if_neg (fun q => by have := (op3_all t (any_mem.mp q)).1; omega)]
      unfold opT
      rw [eL, if_pos (any_mem.mpr h2)]
  · rename_i h2
    split at h
    · rename_i hin
      have ht : chr tx p = t := Option.some.inj h
      obtain ⟨c, e1, e2, e3⟩ := chr_code h0 hl
      have et : t = ⟨#[c]⟩ := by rw [← ht, e1]
      have hlen : t.length = 1 := by rw [et]; rfl
      rw [e1, inS_one] at hin
      have hb := opC_all c (of_decide_eq_true hin)
      refine ⟨1, by omega, ht.symm, by omega, by omega, fun d hd => ?_, fun cx C => ?_⟩
      · rw [et] at hd
        have : d = c := by simpa using hd
        rw [this]; exact hb
      · have f1 : subS tx p (p + 1) = t := ht
        have e : subS cx 0 (0 + 3) = t := by rw [cut_le C (by omega), f1]
        have e4 : subS cx 0 (0 + 2) = t := by rw [cut_le C (by omega), f1]
        have e5 : chr cx 0 = t := by rw [C.at_ 0 (Int.le_refl _) (by omega), Int.add_zero, ht]
        have eL : opL cx 0 = t := by
          unfold opL
          rw [e, e4, if_neg (fun q => by have := (op3_all t (any_mem.mp q)).1; omega)]
        unfold opT
        rw [eL, e5, if_neg (fun q => by have := (op2_all t (any_mem.mp q)).1; omega), if_pos (by rw [et, inS_one]; exact hin)]
    · cases h
theorem lexG_op {tx : Str} {p e : Int} {k : Str} {v : TV} (h0 : 0 ≤ p) (hc : (chr tx p == Str.ofString "") = false) (hn : numT tx p = false) (hr : rawT tx p = false) (hw : wrdT tx p = false) (hq : quoT tx p = false) (ht : (chr tx p == Str.ofString "`") = false) (hpc : (chr tx p == Str.ofString "%") = false) (h : lexAt tx p = some (k, v, e)) : LexG tx p k v e := by
  rw [lex_B hc hn, lex_op hr hw hq ht hpc] at h
  cases ho : opT tx p with
  | none => rw [ho] at h; cases h
  | some t =>
    rw [ho] at h
    simp only [Option.map_some, Option.some.injEq, Prod.mk.injEq] at h
    obtain ⟨rfl, rfl, rfl⟩ := h
    obtain ⟨n, n1, et, hlen, hle, hcs, hcut⟩ := opG h0 hc ho
    have hE : ∀ i : Int, opE i t = i + n := fun i => by
      unfold opE
      split
      · rename_i q
        have : t.length = 2 := by rw [eq_of_beq q]; decide +kernel
        omega
      · omega
    have r : Reg tx p (p + n) := ⟨by omega, fun j j0 j1 => by
      obtain ⟨c, c1, c2⟩ := sub_chr (tx := tx) (n := n) h0 j0 j1 (by omega)
      rw [← et] at c1
      obtain ⟨a1, a2, a3, _⟩ := hcs c c1
      exact ⟨by rw [c2]; exact isQ_of a1 a2 a3, by omega⟩⟩
    rw [hE p]
    refine ⟨by omega, hle, num_op, r.wq h0, by decide +kernel, fun _ => ?_, fun cx C => ?_⟩
    · unfold opV
      split
      · show PyData.strOk _ = true; decide +kernel
      · exact strOk_of fun c hc => (hcs c hc).2.2.2
    · rw [show p + n - p = n by omega] at C ⊢
      have S := start_of C (by omega)
      rw [lex_B (by rw [S.c0]; exact hc) (S.num hn), lex_op (S.raw hr) (by unfold wrdT at hw ⊢; rw [S.c0]; exact hw) (by unfold quoT at hq ⊢; rw [S.c0]; exact hq) (by rw [S.c0]; exact ht) (by rw [S.c0]; exact hpc), hcut cx C]
      simp only [Option.map_some]
      rw [hE 0, Int.zero_add]
theorem eof_kind {tx : Str} {p : Int} : lexAt tx p = some (Str.ofString "eof", .str (Str.ofString ""), p) ∨ (chr tx p == Str.ofString "") = false := by
  cases h : (chr tx p == Str.ofString "") with
  | true => exact .inl (lex_eof h)
  | false => exact .inr rfl
/-- a token that is no end -/
theorem lexG {tx : Str} {p e : Int} {k : Str} {v : TV} (G : GoodP tx p) (hc : (chr tx p == Str.ofString "") = false) (h : lexAt tx p = some (k, v, e)) : LexG tx p k v e := by
  have h0 := G.lo
  have hp := G.hi
  cases hn : numT tx p with
  | true => exact lexG_num h0 hp hc hn h
  | false =>
    cases hr : rawT tx p with
    | true => rw [lex_B hc hn, lex_raw hr] at h; cases h
    | false =>
      cases hw : wrdT tx p with
      | true => exact lexG_wrd h0 hp hc hn hr hw h
      | false =>
        cases hq : quoT tx p with
        | true => exact lexG_quo h0 hc hn hr hw hq (G.quo (.inl hq)) h
        | false =>
          cases ht : (chr tx p == Str.ofString "`") with
          | true => exact lexG_tick h0 hc hn hr hw hq ht (G.quo (.inr ht)) h
          | false =>
            cases hpc : (chr tx p == Str.ofString "%") with
            | true => exact lexG_pct h0 hc hn hr hw hq ht hpc h
            | false => exact lexG_op h0 hc hn hr hw hq ht hpc h
/-- no token but the last is an end -/
theorem not_eof {tx : Str} {p e : Int} {k : Str} {v : TV} (hc : (chr tx p == Str.ofString "") = false) (h : lexAt tx p = some (k, v, e)) : isEof k = false := by
  unfold lexAt at h
  rw [if_neg (by rw [hc]; decide)] at h
  have q : ∀ x : Str, x = Str.ofString "num" ∨ x = Str.ofString "key" ∨ x = Str.ofString "id" ∨ x = Str.ofString "str" ∨ x = Str.ofString "op" → isEof x = false := by
    rintro x (rfl | rfl | rfl | rfl | rfl) <;> decide +kernel
  apply q
  split at h
  · cases hr : nmlR tx p with
    | none => rw [hr] at h; cases h
    | some r => rw [hr] at h; cases h; exact .inl rfl
  · split at h
    · cases h
    · split at h
      · have : k = wordK tx p := by cases h; rfl
        rw [this]; unfold wordK; split
        · exact .inr (.inl rfl)
        · exact .inr (.inr (.inl rfl))
      · split at h
        · cases h; exact .inr (.inr (.inr (.inl rfl)))
        · split at h
          · cases h; exact .inr (.inr (.inl rfl))
          · split at h
            · split at h
              · cases h; exact .inr (.inr (.inr (.inr rfl)))
              · cases h
            · cases hr : opT tx p with
              | none => rw [hr] at h; cases h
              | some r => rw [hr] at h; cases h; exact .inr (.inr (.inr (.inr rfl)))
end
section
theorem quo_cases {c : Str} (h : isQ c = true) : c = Str.ofString "\"" ∨ c = Str.ofString "'" ∨ c = Str.ofString "`" := by
  unfold isQ at h
  rw [Bool.or_eq_true, Bool.or_eq_true, beq_iff_eq, beq_iff_eq, beq_iff_eq] at h
  rcases h with (h | h) | h
  · exact .inl h
  · exact .inr (.inl h)
  · exact .inr (.inr h)
theorem quo_facts {c : Str} (h : isQ c = true) : isDigitS c = false ∧ (c == Str.ofString ".") = false ∧ inS (Str.ofString "rR") c = false ∧ isLetterS c = false ∧ (c == Str.ofString "") = false := by
  rcases quo_cases h with rfl | rfl | rfl <;> decide +kernel
theorem quoE_of {tx : Str} {p e : Int} {k : Str} {v : TV} (hq : isQ (chr tx p) = true) (h : lexAt tx p = some (k, v, e)) : e = quoE tx p := by
  obtain ⟨a1, a2, a3, a4, a5⟩ := quo_facts hq
  have hn : numT tx p = false := by unfold numT; rw [a1, a2]; rfl
  have hr : rawT tx p = false := by unfold rawT; rw [a3]; rfl
  have hw : wrdT tx p = false := by unfold wrdT; rw [a4, a2]; rfl
  rw [lex_B a5 hn] at h
  cases q : quoT tx p with
  | true => rw [lex_quo hr hw q] at h; cases h; rfl
  | false =>
    have t : (chr tx p == Str.ofString "`") = true := by
      unfold quoT at q
      unfold isQ at hq
      rw [q, Bool.false_or] at hq
      exact hq
    rw [lex_tick hr hw q t] at h; cases h; rfl
theorem isQ_any {tx : Str} {p : Int} (h : quoT tx p = true ∨ (chr tx p == Str.ofString "`") = true) : isQ (chr tx p) = true := by
  unfold quoT at h
  unfold isQ
  rcases h with h | h <;> rw [h]
  · rfl
  · simp
/-- the piece cut out is good at its start -/
theorem good_cut {cx tx : Str} {p e : Int} {k : Str} {v : TV} (G : GoodP tx p) (hc : (chr tx p == Str.ofString "") = false) (h : lexAt tx p = some (k, v, e)) (g : LexG tx p k v e) (C : Cut cx tx p (e - p)) : GoodP cx 0 := by
  have hlt := g.lt
  have a0 : chr cx 0 = chr tx p := by rw [C.at_ 0 (Int.le_refl _) (by omega), Int.add_zero]
  refine ⟨Int.le_refl _, by omega, fun hq => ?_, fun ht => ?_, fun hr => ?_⟩
  · have hq' : quoT tx p = true ∨ (chr tx p == Str.ofString "`") = true := by unfold quoT at hq ⊢; rw [a0] at hq; exact hq
    have eE := quoE_of (isQ_any hq') h
    have hE : quoE tx p = (if (chr tx (p + 1 + 1) != chr tx p) = true then p + 1 + 1 + 1 + 1 + 1 else p + 1 + 1 + 1) := rfl
    rcases G.quo hq' with q | q
    · obtain ⟨q1, q2, q3, q4⟩ := q
      rw [if_neg (by rw [q4]; decide)] at hE
      have a1 : chr cx (0 + 1) = chr tx (p + 1) := by rw [C.at_ (0 + 1) (by omega) (by omega), show p + (0 + 1) = p + 1 by omega]
      have a2 : chr cx (0 + 1 + 1) = chr tx (p + 1 + 1) := by rw [C.at_ (0 + 1 + 1) (by omega) (by omega), show p + (0 + 1 + 1) = p + 1 + 1 by omega]
      left
      unfold quo1
      rw [a0, a1, a2]
      exact ⟨q1, q2, q3, q4⟩
    · obtain ⟨q1, q2, q3, q4, q5⟩ := q
      rw [if_pos q4] at hE
      have a1 : chr cx (0 + 1) = chr tx (p + 1) := by rw [C.at_ (0 + 1) (by omega) (by omega), show p + (0 + 1) = p + 1 by omega]
      have a2 : chr cx (0 + 1 + 1) = chr tx (p + 1 + 1) := by rw [C.at_ (0 + 1 + 1) (by omega) (by omega), show p + (0 + 1 + 1) = p + 1 + 1 by omega]
      have a3 : chr cx (0 + 1 + 1 + 1) = chr tx (p + 1 + 1 + 1) := by rw [C.at_ (0 + 1 + 1 + 1) (by omega) (by omega), show p + (0 + 1 + 1 + 1) = p + 1 + 1 + 1 by omega]
      have a4 : chr cx (0 + 1 + 1 + 1 + 1) = chr tx (p + 1 + 1 + 1 + 1) := by rw [C.at_ (0 + 1 + 1 + 1 + 1) (by omega) (by omega), show p + (0 + 1 + 1 + 1 + 1) = p + 1 + 1 + 1 + 1 by omega]
      right
      unfold quo3
      rw [a0, a1, a2, a3, a4]
      exact ⟨q1, q2, q3, q4, q5⟩
  · rw [a0] at ht
    have eE := quoE_of (isQ_any (.inr ht)) h
    rw [eE] at C
    rw [(quo_cut C).1]
    exact G.tick ht
  · exfalso
    have hin : inS (Str.ofString "rR") (chr tx p) = true := by
      unfold rawT at hr
      rw [a0, Bool.and_eq_true] at hr
      exact hr.1
    obtain ⟨c, e1, _, _⟩ := chr_code G.lo (in_lt_ne G.lo hc)
    have hcc : c = 114 ∨ c = 82 := by
      rw [e1, inS_one] at hin
      have := of_decide_eq_true hin
      rw [show (Str.ofString "rR").cps.toList = [114, 82] by decide +kernel] at this
      simpa using this
    have hn : numT tx p = false := by
      unfold numT
      rw [e1]
      rcases hcc with rfl | rfl
      · rw [show isDigitS ⟨#[114]⟩ = false by decide +kernel, show ((⟨#[114]⟩ : Str) == Str.ofString ".") = false by decide +kernel]; rfl
      · rw [show isDigitS ⟨#[82]⟩ = false by decide +kernel, show ((⟨#[82]⟩ : Str) == Str.ofString ".") = false by decide +kernel]; rfl
    by_cases q : 0 + 1 < e - p
    · have : rawT tx p = true := by
        unfold rawT at hr ⊢
        rw [a0, C.at_ (0 + 1) (by omega) q, show p + (0 + 1) = p + 1 by omega] at hr
        exact hr
      rw [lex_B hc hn, lex_raw this] at h
      cases h
    · unfold rawT at hr
      rw [C.out (0 + 1) (by omega), show ([Str.ofString "'", Str.ofString "\""].any (· == nilS)) = false by decide +kernel, Bool.and_false] at hr
      cases hr
/-- the quotes at a place, told of the suffix -/
theorem good_of {tx : Str} {p : Int} (h0 : 0 ≤ p) (hp : p ≤ tx.length) (hw : WQ (tx.cps.toList.drop p.toNat)) : GoodP tx p := by
  have k0 := drop_chr (tx := tx) h0 0 (q := p) (by omega)
  have k1 := drop_chr (tx := tx) h0 1 (q := p + 1) (by omega)
  have k2 := drop_chr (tx := tx) h0 2 (q := p + 1 + 1) (by omega)
  have k2' := drop_chr (tx := tx) h0 2 (q := p + 2) (by omega)
  have k3 := drop_chr (tx := tx) h0 3 (q := p + 1 + 1 + 1) (by omega)
  have k4 := drop_chr (tx := tx) h0 4 (q := p + 1 + 1 + 1 + 1) (by omega)
  generalize tx.cps.toList.drop p.toNat = l at *
  have raw0 : ∀ (s : List Nat), WQ s → chr tx (p + 1) = chO s[0]? → chr tx (p + 2) = chO s[1]? → rawT tx p = true → rawF tx p := by
    intro s hs e1 e2 hr
    unfold rawT at hr
    rw [Bool.and_eq_true] at hr
    have hr2 := hr.2
    rw [e1] at hr2
    unfold rawF
    rw [e2]
    cases hs with
    | nil => exact absurd hr2 (by decide +kernel)
    | one c c1 c2 c3 hs =>
      exfalso
      simp only [List.getElem?_cons_zero, chO] at hr2
      rw [show Str.ofString "'" = ⟨#[39]⟩ by decide +kernel, show Str.ofString "\"" = ⟨#[34]⟩ by decide +kernel] at hr2
      simp only [List.any_cons, List.any_nil, one_eq, Bool.or_false, Bool.or_eq_true, decide_eq_true_eq] at hr2
      omega
    | q hs => simp only [List.getElem?_cons_succ, List.getElem?_cons_zero, chO]; decide +kernel
    | ab hs => simp only [List.getElem?_cons_succ, List.getElem?_cons_zero, chO]; decide +kernel
    | n hs =>
      exfalso
      simp only [List.getElem?_cons_zero, chO] at hr2
      revert hr2
      decide +kernel
  cases hw with
  | nil =>
    refine ⟨h0, hp, fun hq => ?_, fun ht => ?_, fun hr => ?_⟩
    · have := isQ_any hq
      rw [k0] at this
      exact absurd this (by decide +kernel)
    · rw [k0] at ht; exact absurd ht (by decide +kernel)
    · unfold rawT at hr; rw [k1, Bool.and_eq_true] at hr; exact absurd hr.2 (by decide +kernel)
  | one c c1 c2 c3 hs =>
    have nq : isQ (chr tx p) = false := by rw [k0]; exact isQ_of c1 c2 c3
    refine ⟨h0, hp, fun hq => ?_, fun ht => ?_, fun hr => ?_⟩
    · rw [isQ_any hq] at nq; cases nq
    · rw [isQ_any (.inr ht)] at nq; cases nq
    · exact raw0 _ hs (by rw [k1]; rfl) (by rw [k2']; rfl) hr
  | q hs =>
    refine ⟨h0, hp, fun _ => .inl ?_, fun ht => ?_, fun hr => ?_⟩
    · unfold quo1
      rw [k0, k1, k2]
      simp only [List.getElem?_cons_succ, List.getElem?_cons_zero, chO]
      decide +kernel
    · rw [k0] at ht
      simp only [List.getElem?_cons_zero, chO] at ht
      exact absurd ht (by decide +kernel)
    · unfold rawT at hr
      rw [k1, Bool.and_eq_true] at hr
      have := hr.2
      simp only [List.getElem?_cons_succ, List.getElem?_cons_zero, chO] at this
      exact absurd this (by decide +kernel)
  | ab hs =>
    refine ⟨h0, hp, fun _ => .inr ?_, fun ht => ?_, fun hr => ?_⟩
    · unfold quo3
      rw [k0, k1, k2, k3, k4]
      simp only [List.getElem?_cons_succ, List.getElem?_cons_zero, chO]
      decide +kernel
    · rw [k0] at ht
      simp only [List.getElem?_cons_zero, chO] at ht
      exact absurd ht (by decide +kernel)
    · unfold rawT at hr
      rw [k1, Bool.and_eq_true] at hr
      have := hr.2
      simp only [List.getElem?_cons_succ, List.getElem?_cons_zero, chO] at this
      exact absurd this (by decide +kernel)
  | n hs =>
    refine ⟨h0, hp, fun _ => .inl ?_, fun ht => ?_, fun hr => ?_⟩
    · unfold quo1
      rw [k0, k1, k2]
      simp only [List.getElem?_cons_succ, List.getElem?_cons_zero, chO]
      decide +kernel
    · have e : quoV tx p = Txt.join (Str.ofString "") [chr tx (p + 1)] := if_neg (by rw [k2, k0]; simp)
      rw [e, k1]
      simp only [List.getElem?_cons_succ, List.getElem?_cons_zero, chO]
      decide +kernel
    · unfold rawT at hr
      rw [k1, Bool.and_eq_true] at hr
      have := hr.2
      simp only [List.getElem?_cons_succ, List.getElem?_cons_zero, chO] at this
      exact absurd this (by decide +kernel)
end
section
/-- a place outside the quotes -/
noncomputable def PW (tx : Str) (a : Int) : Prop := 0 ≤ a ∧ a ≤ tx.length ∧ WQ (tx.cps.toList.drop a.toNat)
theorem skipP {tx : Str} {a : Int} (h : PW tx a) : ∃ p nl, skipE tx a false = (p, nl) ∧ a ≤ p ∧ PW tx p ∧ layB (subS tx a p) = true ∧ nlIn (subS tx a p) = nl ∧ stopP (chr tx p) := by
  obtain ⟨h0, h1, h2⟩ := h
  obtain ⟨p, nl, e⟩ : ∃ p nl, skipE tx a false = (p, nl) := ⟨_, _, rfl⟩
  obtain ⟨a1, a2, a3, a4, a5, a6⟩ := skip_spec tx (tx.length + 1 - a.toNat) a false false p nl h0 (by omega) h1 (fun q => by cases q) e
  refine ⟨p, nl, e, a1, ⟨by omega, a2, a6 h2⟩, ?_, ?_, a5⟩
  · unfold layB layS
    rw [codes_eq]
    exact a3
  · unfold nlIn
    rw [a4, Bool.false_or]
theorem PW.good {tx : Str} {p : Int} (h : PW tx p) : GoodP tx p := good_of h.1 h.2.1 h.2.2
theorem PW.next {tx : Str} {p e : Int} {k : Str} {v : TV} (h : PW tx p) (hl : lexAt tx p = some (k, v, e)) : PW tx e := by
  cases hc : (chr tx p == Str.ofString "") with
  | true => rw [lex_eof hc] at hl; cases hl; exact h
  | false =>
    have g := lexG h.good hc hl
    have := g.lt
    have := h.1
    exact ⟨by omega, g.le, g.wq h.2.2⟩
theorem goodC (tx : Str) : GoodC tx (PW tx) := ⟨fun a h => h.1, fun a h => by
  obtain ⟨p, nl, e, _, hp, _⟩ := skipP h
  rw [e]; exact hp.good, fun a k v e h hl => by
  obtain ⟨p, nl, e', _, hp, _⟩ := skipP h
  rw [e'] at hl; exact hp.next hl⟩
noncomputable def nbC (c : Nat) : Bool := !blankP ⟨#[c]⟩ && !((⟨#[c]⟩ : Str) == Str.ofString "\n")
noncomputable def nb (tx : Str) (a : Int) : Nat := (tx.cps.toList.drop a.toNat).countP nbC
theorem nb_mono {tx : Str} {a p : Int} (h0 : 0 ≤ a) (h : a ≤ p) : nb tx p ≤ nb tx a := by
  unfold nb
  rw [drop_split h0 h]
  exact List.Sublist.countP_le (List.drop_sublist _ _)
theorem nb_step {tx : Str} {p e : Int} (h0 : 0 ≤ p) (hs : stopP (chr tx p)) (hc : (chr tx p == Str.ofString "") = false) (h : p < e) : nb tx e + 1 ≤ nb tx p := by
  obtain ⟨c, e1, e2, e3⟩ := chr_code h0 (in_lt_ne h0 hc)
  have h1 := nb_mono (tx := tx) (a := p + 1) (p := e) (by omega) (by omega)
  have : nb tx p = nb tx (p + 1) + 1 := by
    unfold nb
    rw [e3, List.countP_cons_of_pos]
    unfold nbC
    obtain ⟨s1, s2, s3⟩ := hs
    rw [e1] at s1 s3 hc
    rcases s3 with s3 | s3
    · rw [hc] at s3; cases s3
    · rw [s1, s3]; rfl
  omega
/-- the reading, token by token -/
inductive Chain (tx : Str) : Int → List Rec → Option Int → Prop
  | eof {a p : Int} {nl : Bool} : PW tx a → skipE tx a false = (p, nl) → (chr tx p == Str.ofString "") = true → Chain tx a [⟨Str.ofString "eof", .str (Str.ofString ""), p, p, nl⟩] none
  | bad {a p : Int} {nl : Bool} : PW tx a → skipE tx a false = (p, nl) → (chr tx p == Str.ofString "") = false → lexAt tx p = none → Chain tx a [] (some p)
  | tok {a p e : Int} {nl : Bool} {k : Str} {v : TV} {l : List Rec} {f : Option Int} : PW tx a → skipE tx a false = (p, nl) → (chr tx p == Str.ofString "") = false → lexAt tx p = some (k, v, e) → Chain tx e l f → Chain tx a (⟨k, v, p, e, nl⟩ :: l) f
theorem chain_ex (tx : Str) : ∀ (n : Nat) (a : Int), PW tx a → nb tx a < n → ∃ l f, Chain tx a l f := by
  intro n
  induction n with
  | zero => intro a h hn; omega
  | succ n ih =>
    intro a h hn
    obtain ⟨p, nl, e, h1, h2, _, _, hs⟩ := skipP h
    cases hc : (chr tx p == Str.ofString "") with
    | true => exact ⟨_, _, .eof h e hc⟩
    | false =>
      cases hl : lexAt tx p with
      | none => exact ⟨_, _, .bad h e hc hl⟩
      | some r =>
        obtain ⟨k, v, e'⟩ := r
        have g := lexG h2.good hc hl
        have m1 := nb_mono (tx := tx) h.1 h1
        have m2 := nb_step h2.1 hs hc g.lt
        obtain ⟨l, f, hch⟩ := ih e' (h2.next hl) (by omega)
        exact ⟨_, _, .tok h e hc hl hch⟩
theorem chain_len {tx : Str} {a : Int} {l : List Rec} {f : Option Int} (h : Chain tx a l f) : l.length ≤ nb tx a + 1 := by
  induction h with
  | eof => simp
  | bad => simp
  | tok ha hs hc hl _ ih =>
    obtain ⟨p', nl', e, h1, h2, _, _, hst⟩ := skipP ha
    rw [hs] at e
    cases e
    have g := lexG h2.good hc hl
    have m1 := nb_mono (tx := tx) ha.1 h1
    have m2 := nb_step h2.1 hst hc g.lt
    rw [List.length_cons]
    omega
theorem chain_read {tx : Str} {a : Int} {l : List Rec} {f : Option Int} (h : Chain tx a l f) : ∀ n, l.length < n → readF tx n a = (l, f) := by
  induction h with
  | eof ha hs hc =>
    intro n hn
    obtain ⟨n, rfl⟩ : ∃ m, n = m + 1 := ⟨n - 1, by omega⟩
    exact read_eof hs (lex_eof hc) (by decide +kernel)
  | bad ha hs hc hl =>
    intro n hn
    obtain ⟨n, rfl⟩ : ∃ m, n = m + 1 := ⟨n - 1, by omega⟩
    exact read_bad hs hl
  | tok ha hs hc hl _ ih =>
    intro n hn
    obtain ⟨n, rfl⟩ : ∃ m, n = m + 1 := ⟨n - 1, by omega⟩
    rw [List.length_cons] at hn
    rw [read_step hs hl (not_eof hc hl), ih n (by omega)]
noncomputable def bhd (a : Int) (l : List Rec) : Int := match l with
  | [] => a
  | _ :: _ => behindR l
theorem bhd_cons (a : Int) (r : Rec) (l : List Rec) : bhd a (r :: l) = bhd r.en l := by
  cases l <;> rfl
theorem bhd_zero (l : List Rec) : bhd 0 l = behindR l := by
  cases l <;> rfl
noncomputable def StepOk (tx : Str) (b : Int) (r : Rec) : Prop := 0 ≤ b ∧ b ≤ r.at_ ∧ r.at_ ≤ tx.length ∧ layB (subS tx b r.at_) = true ∧ nlIn (subS tx b r.at_) = r.nl ∧ (if isEof r.kind = true then r.at_ = tx.length ∧ r.en = tx.length else r.at_ < r.en ∧ r.en ≤ tx.length)
theorem end_len {tx : Str} {p : Int} (h : PW tx p) (hc : (chr tx p == Str.ofString "") = true) : p = tx.length := by
  by_cases q : p < tx.length
  · obtain ⟨c, e1, _, _⟩ := chr_code h.1 q
    rw [e1] at hc
    have := eq_of_beq hc
    exact absurd (congrArg Str.length this) (by rw [show (⟨#[c]⟩ : Str).length = 1 from rfl]; decide +kernel)
  · have := h.2.1; omega
theorem chain_step {tx : Str} {a : Int} {l : List Rec} {f : Option Int} (h : Chain tx a l f) : ∀ (i : Nat) r, l[i]? = some r → StepOk tx (bhd a (l.take i)) r := by
  induction h with
  | eof ha hs hc =>
    intro i r hr
    obtain ⟨p', nl', e, h1, h2, h3, h4, hst⟩ := skipP ha
    rw [hs] at e
    cases e
    match i, hr with
    | 0, hr =>
      cases hr
      have := end_len h2 hc
      refine ⟨ha.1, h1, h2.2.1, h3, h4, ?_⟩
      rw [if_pos (show isEof (Str.ofString "eof") = true by decide +kernel)]
      exact ⟨this, this⟩
    | i + 1, hr => simp at hr
  | bad => intro i r hr; simp at hr
  | tok ha hs hc hl _ ih =>
    intro i r hr
    obtain ⟨p', nl', e, h1, h2, h3, h4, hst⟩ := skipP ha
    rw [hs] at e
    cases e
    match i, hr with
    | 0, hr =>
      cases hr
      have g := lexG h2.good hc hl
      refine ⟨ha.1, h1, h2.2.1, h3, h4, ?_⟩
      rw [if_neg (by show ¬ isEof _ = true; rw [not_eof hc hl]; decide)]
      exact ⟨g.lt, g.le⟩
    | i + 1, hr =>
      rw [List.take_succ_cons, bhd_cons]
      exact ih i r (by simpa using hr)
theorem chain_fin {tx : Str} {a : Int} {l : List Rec} {f : Option Int} (h : Chain tx a l f) : ∀ p, f = some p → bhd a l ≤ p ∧ p < tx.length ∧ layB (subS tx (bhd a l) p) = true := by
  induction h with
  | eof => intro p e; cases e
  | bad ha hs hc hl =>
    intro p e
    cases e
    obtain ⟨p', nl', e, h1, h2, h3, h4, hst⟩ := skipP ha
    rw [hs] at e
    cases e
    exact ⟨h1, in_lt_ne h2.1 hc, h3⟩
  | tok ha hs hc hl _ ih =>
    intro p e
    rw [bhd_cons]
    exact ih p e
theorem chain_eof {tx : Str} {a : Int} {l : List Rec} {f : Option Int} (h : Chain tx a l f) : f = none → ∃ r, l.getLast? = some r ∧ isEof r.kind = true := by
  induction h with
  | eof => intro _; exact ⟨_, rfl, by show isEof (Str.ofString "eof") = true; decide +kernel⟩
  | bad => intro e; cases e
  | tok ha hs hc hl hch ih =>
    intro e
    obtain ⟨r, h1, h2⟩ := ih e
    refine ⟨r, ?_, h2⟩
    rw [List.getLast?_cons, h1]
    rfl
/-- what holds of each token -/
theorem chain_all {tx : Str} {a : Int} {l : List Rec} {f : Option Int} (h : Chain tx a l f) : ∀ r ∈ l, (r.kind = Str.ofString "eof" ∧ r.tv = .str (Str.ofString "")) ∨ (PW tx r.at_ ∧ stopP (chr tx r.at_) ∧ (chr tx r.at_ == Str.ofString "") = false ∧ lexAt tx r.at_ = some (r.kind, r.tv, r.en)) := by
  induction h with
  | eof ha hs hc =>
    intro r hr
    rw [List.mem_singleton.mp hr]
    exact .inl ⟨rfl, rfl⟩
  | bad => intro r hr; cases hr
  | tok ha hs hc hl hch ih =>
    intro r hr
    rcases List.mem_cons.mp hr with rfl | hr
    · obtain ⟨p', nl', e, h1, h2, h3, h4, hst⟩ := skipP ha
      rw [hs] at e
      cases e
      exact .inr ⟨h2, hst, hc, hl⟩
    · exact ih r hr
end
section
theorem wq_app {x s : List Nat} (h : ∀ c ∈ x, c ≠ 34 ∧ c ≠ 39 ∧ c ≠ 96) (hs : WQ s) : WQ (x ++ s) := by
  induction x with
  | nil => exact hs
  | cons c x ih =>
    obtain ⟨a, b, d⟩ := h c (.head _)
    exact .one c a b d (ih fun d hd => h d (.tail _ hd))
theorem pieces_all : ∀ p ∈ pieces, (p.cps.toList = [39, 113, 39] ∨ p.cps.toList = [34, 97, 32, 98, 34] ∨ p.cps.toList = [96, 110, 96] ∨ ∀ c ∈ p.cps.toList, c ≠ 34 ∧ c ≠ 39 ∧ c ≠ 96) ∧ p.cps.toList.length ≤ 5 ∧ p.cps.toList.countP nbC ≤ 4 ∧ ∀ c ∈ p.cps.toList, c < 0x110000 := by decide +kernel
theorem pieces_text : ∀ (pcs : List Str), (∀ p ∈ pcs, p ∈ pieces) → WQ (pcs.map fun x => x.cps.toList).flatten ∧ (pcs.map fun x => x.cps.toList).flatten.length ≤ 5 * pcs.length ∧ (pcs.map fun x => x.cps.toList).flatten.countP nbC ≤ 4 * pcs.length ∧ ∀ c ∈ (pcs.map fun x => x.cps.toList).flatten, c < 0x110000 := by
  intro pcs
  induction pcs with
  | nil => intro _; exact ⟨.nil, by simp, by simp, fun c hc => by simp at hc⟩
  | cons x r ih =>
    intro h
    obtain ⟨i1, i2, i3, i4⟩ := ih fun p hp => h p (.tail _ hp)
    obtain ⟨a1, a2, a3, a4⟩ := pieces_all x (h x (.head _))
    rw [List.map_cons, List.flatten_cons]
    refine ⟨?_, ?_, ?_, fun c hc => ?_⟩
    · rcases a1 with e | e | e | e
      · rw [e]; exact .q i1
      · rw [e]; exact .ab i1
      · rw [e]; exact .n i1
      · exact wq_app e i1
    · rw [List.length_append, List.length_cons]; omega
    · rw [List.countP_append, List.length_cons]; omega
    · rcases List.mem_append.mp hc with hc | hc
      · exact a4 c hc
      · exact i4 c hc
/-- a token cut out is read as the same token -/
theorem alone_of {tx : Str} {p e : Int} {k : Str} {v : TV} (hp : PW tx p) (hs : stopP (chr tx p)) (hc : (chr tx p == Str.ofString "") = false) (hl : lexAt tx p = some (k, v, e)) :
    (∃ P, GoodC (subS tx p e) P ∧ P 0) ∧ ∃ r, readF (subS tx p e) 100 0 = ([⟨k, v, 0, e - p, false⟩, r], none) := by
  have G := hp.good
  have g := lexG G hc hl
  have hlt := g.lt
  have C := cut_of (tx := tx) hp.1 (Int.le_of_lt g.lt)
  have hcut := g.cut _ C
  have Gc := good_cut G hc hl g C
  have hlen : ((subS tx p e).length : Int) = e - p := by
    have := sub_lenN (tx := tx) (p := p) (n := e - p) hp.1 (by omega)
    rw [show p + (e - p) = e by omega] at this
    have := g.le
    omega
  generalize subS tx p e = cx at *
  have a0 : chr cx 0 = chr tx p := by rw [C.at_ 0 (Int.le_refl _) (by omega), Int.add_zero]
  have s0 : skipE cx 0 false = (0, false) := skip_stays (Int.le_refl _) (by rw [a0]; exact hs)
  have en : chr cx (e - p) = nilS := C.out _ (Int.le_refl _)
  have s1 : skipE cx (e - p) false = (e - p, false) := skip_stays (by omega) (by rw [en]; exact stop_nil)
  have l1 : lexAt cx (e - p) = some (Str.ofString "eof", .str (Str.ofString ""), e - p) := lex_eof (by rw [en]; exact eqS_nil_nil)
  have g1 : GoodP cx (e - p) := by
    have q0 : isQ (chr cx (e - p)) = false := by rw [en]; decide +kernel
    refine ⟨by omega, by omega, fun hq => ?_, fun ht => ?_, fun hr => ?_⟩
    · rw [isQ_any hq] at q0; cases q0
    · rw [isQ_any (.inr ht)] at q0; cases q0
    · unfold rawT at hr
      rw [C.out (e - p + 1) (by omega), show ([Str.ofString "'", Str.ofString "\""].any (· == nilS)) = false by decide +kernel, Bool.and_false] at hr
      cases hr
  refine ⟨⟨fun a => a = 0 ∨ a = e - p, ⟨fun a ha => ?_, fun a ha => ?_, fun a k' v' e' ha hl' => ?_⟩, .inl rfl⟩, ?_⟩
  · rcases ha with rfl | rfl <;> omega
  · rcases ha with rfl | rfl
    · rw [s0]; exact Gc
    · rw [s1]; exact g1
  · rcases ha with rfl | rfl
    · rw [s0] at hl'
      dsimp only at hl'
      rw [hcut] at hl'
      cases hl'
      exact .inr rfl
    · rw [s1] at hl'
      dsimp only at hl'
      rw [l1] at hl'
      cases hl'
      exact .inr rfl
  · have r1 := read_step (n := 99) s0 hcut (not_eof hc hl)
    have r2 := read_eof (n := 98) s1 l1 (by decide +kernel)
    exact ⟨_, by rw [r1, r2]⟩
theorem law_ok {pcs : List Str} (h1 : pcs.length ≤ 24) (h2 : ∀ p ∈ pcs, p ∈ pieces) : LawOK (Txt.join (Str.ofString "") pcs) := by
  obtain ⟨t1, t2, t3, t4⟩ := pieces_text pcs h2
  rw [← join_list] at t1 t2 t3 t4
  generalize Txt.join (Str.ofString "") pcs = tx at *
  have hlen : tx.length ≤ 120 := by rw [len_list]; omega
  have hP : PW tx 0 := ⟨Int.le_refl _, by omega, by simpa using t1⟩
  have hnb : nb tx 0 ≤ 96 := by
    unfold nb
    simp only [Int.toNat_zero, List.drop_zero]
    omega
  obtain ⟨l, f, hch⟩ := chain_ex tx 97 0 hP (by omega)
  have hl := chain_len hch
  have hread := chain_read hch 100 (by omega)
  have hall := chain_all hch
  refine ⟨by omega, ⟨PW tx, goodC tx, hP, fun r hr => ?_⟩, fun r hr => ?_, fun r hr => ?_, ?_, fun i r hr => ?_, fun p hp => ?_, fun hf => ?_, fun r hr he => ?_, fun r hr he => ?_⟩
  · rw [hread] at hr
    dsimp only at hr
    cases hch with
    | eof => simp at hr
    | bad => simp at hr
    | tok ha hs hc hlx hch2 =>
      cases hch2 with
      | eof ha2 hs2 hc2 =>
        obtain ⟨p', nl', e, b1, b2, _⟩ := skipP ha2
        rw [hs2] at e
        cases e
        cases hr
        exact b2
      | bad => simp at hr
      | tok ha2 hs2 hc2 hlx2 hch3 =>
        obtain ⟨p', nl', e, b1, b2, _⟩ := skipP ha2
        rw [hs2] at e
        cases e
        cases hr
        exact b2
  · rw [hread] at hr
    rcases hall r hr with ⟨e1, e2⟩ | ⟨q1, q2, q3, q4⟩
    · rw [e1, e2]
      show (Str.ofString "eof" == Str.ofString "num") = false
      decide +kernel
    · exact (lexG q1.good q3 q4).num
  · rw [hread] at hr
    rcases hall r hr with ⟨e1, e2⟩ | ⟨q1, q2, q3, q4⟩
    · rw [e1, e2]
      refine ⟨by decide +kernel, ?_⟩
      show PyData.strOk (Str.ofString "") = true
      decide +kernel
    · have g := lexG q1.good q3 q4
      exact ⟨g.okk, g.okv t4⟩
  · rw [hread]; show l.length ≤ 100; omega
  · rw [hread] at hr ⊢
    have := chain_step hch i r hr
    rw [bhd_zero] at this
    exact this
  · rw [hread] at hp ⊢
    have := chain_fin hch p hp
    rw [bhd_zero] at this
    exact this
  · rw [hread] at hf ⊢
    exact chain_eof hch hf
  · rw [hread] at hr
    rcases hall r hr with ⟨e1, e2⟩ | ⟨q1, q2, q3, q4⟩
    · rw [e1] at he
      exact absurd he (by decide +kernel)
    · obtain ⟨a1, a2⟩ := alone_of q1 q2 q3 q4
      have g := lexG q1.good q3 q4
      refine ⟨a1, ?_, a2⟩
      have := sub_len (tx := tx) (i := r.at_) (j := r.en) q1.1 (Int.le_of_lt g.lt)
      have := g.le
      have := q1.1
      omega
  · rw [hread] at hr ⊢
    dsimp only at hr ⊢
    cases hch with
    | eof => simp at hr
    | bad => simp at hr
    | tok ha hs hc hlx hch2 =>
      cases hch2 with
      | eof ha2 hs2 hc2 =>
        cases hr
        exact absurd he (by show ¬ isEof (Str.ofString "eof") = false; decide +kernel)
      | bad => simp at hr
      | tok ha2 hs2 hc2 hlx2 hch3 =>
        obtain ⟨p', nl', e, b1, b2, _, _, hst⟩ := skipP ha2
        rw [hs2] at e
        cases e
        cases hr
        have hch4 := Chain.tok b2 (skip_stays b2.1 hst) hc2 hlx2 hch3
        have hh := chain_read hch4 100 (by simp only [List.length_cons] at hl ⊢; omega)
        exact ⟨_, hh⟩
end
section
local macro_rules | `(tactic| k_mem) => `(tactic| with_reducible (show AddIn _ _; first | assumption | exact AddIn.self _ | (apply AddIn.both; all_goals k_mem; done) | (apply AddIn.cons; k_mem; done) | (apply AddIn.left; k_mem; done) | (apply AddIn.right; k_mem; done)))
theorem law_main : PySem.Challenge.rw_ov0064_01.Holds := hd (by
  k_with_none
  (k_with "call ref" => (k_here; (with_reducible show wpAny _ _ (call (Value.ref 308) _) _ _ _); k_dflt ((with_unfolding_all refine' s_heap ?q0 ?q1 ?k1 ?k2 ?k3 ?k4 ?k5 ?kK ?kd ?ku ?_ ?ke); (case k1 => k_asm); (case k2 => k_asm); (case k3 => k_asm); (case k4 => k_asm); (case k5 => k_asm); (case q0 => assumption); (case q1 => omega); (case kK => first | exact rfl | assumption); (case kd => k_room); (case ku => ((try simp only [units_in1, units_deeper, Around.mark_units, units_caller]); (try dsimp only [ktrTop]); omega)); (case ke => exact trivial); k_whole; refine And.intro (by assumption) ?_; intro D9 us9 it9 nn9 h9 tk9 is9 sz9 ne9 F9 N9; (try k_sweep); (try dsimp only); (try k_fold))))
  (k_with "call ref" => (k_here; (with_reducible show wpAny _ _ (call (Value.ref 322) _) _ _ _); k_dflt ((with_unfolding_all refine' s_text ?q0 ?q1 ?q2 ?k1 ?k2 ?k3 ?k4 ?k5 ?kK ?kd ?ku ?_ ?ke); (case k1 => k_asm); (case k2 => k_asm); (case k3 => k_asm); (case k4 => k_asm); (case k5 => k_asm); (case q0 => assumption); (case q1 => omega); (case q2 => first | assumption | k_all); (case kK => first | exact rfl | assumption); (case kd => k_room); (case ku => ((try simp only [units_in1, units_deeper, Around.mark_units, units_caller]); (try dsimp only [ktrTop]); omega)); (case ke => exact trivial); k_whole; intro pc9 t9 h9 tk9 pl9 pm9 F9 N9; (try k_sweep); (try dsimp only); (try k_fold))))
  (k_with "call ref" => (k_here; (with_reducible show wpAny _ _ (call (Value.ref 336) _) _ _ _); k_dflt ((with_unfolding_all refine' s_layT ?q0 ?q1 ?k1 ?k2 ?k3 ?k4 ?k5 ?kK ?kd ?ku ?_ ?ke); (case k1 => k_asm); (case k2 => k_asm); (case k3 => k_asm); (case k4 => k_asm); (case k5 => k_asm); (case q0 => first | omega | assumption); (case q1 => assumption); (case kK => first | exact rfl | assumption); (case kd => k_room); (case ku => ((try simp only [units_in1, units_deeper, Around.mark_units, units_caller]); (try dsimp only [ktrTop]); omega)); (case ke => exact trivial); k_whole; intro t9 h9 tk9 F9 N9; (try k_sweep); (try dsimp only); (try k_fold))))
  (k_with "call ref" => (k_here; (with_reducible show wpAny _ _ (call (Value.ref 343) _) _ _ _); k_dflt ((with_unfolding_all refine' s_value ?q0 ?q1 ?q2 ?q3 ?q4 ?k1 ?k2 ?k3 ?k4 ?k5 ?kK ?kd ?ku ?_ ?ke); (case k1 => k_asm); (case k2 => k_asm); (case k3 => k_asm); (case k4 => k_asm); (case k5 => k_asm); (case q0 => k_mem); (case q1 => k_mem); (case q2 => assumption); (case q3 => (show AddIn _ _; k_mem)); (case q4 => assumption); (case kK => first | exact rfl | assumption); (case kd => k_room); (case ku => ((try simp only [units_in1, units_deeper, Around.mark_units, units_caller]); (try dsimp only [ktrTop]); omega)); (case ke => exact trivial); k_whole; intro v9 a9 h9 tk9 ao9 rd9 F9 N9; (replace N9 := news_turn N9); (simp only [List.cons_append] at N9); (try k_sweep); (try dsimp only); (try k_fold))))
  (k_with "subscriptTail Name Slice str ref" => (k_here; (with_reducible show wpAny _ _ (subscriptTail _ (Expr.Slice (some _) (some _) none _) (Value.str _ _) (Value.ref _)) _ _ _); (with_reducible rename Fr _ _ _ _ => F'); (with_reducible rename News _ _ _ _ => N'); (refine slice_subS (hs := by with_unfolding_all rfl) (ht := by intro _; with_unfolding_all rfl) (hsz := ?hsz) (s := ⟨_, _, _, _, _⟩) F' N' ?_); (case hsz => (rw [PySem.sizeLine_eq]; omega)); intro _ _ _ _ _ _))
  (k_with "call ref" => (k_here; (with_reducible show wpAny _ _ (call (Value.ref 329) _) _ _ _); refine' Halt.mk ?_))
  (k_with "exec For Tuple Name" => (k_here; refine' Halt.mk ?_))
  (k_with "pyIter ref" => (k_here; refine' Halt.mk ?_))
  (k_with "compareOp In str str" => (k_here; refine in_nl (by assumption) ?_))
  (k_with "compareOp Eq ref ref" => (k_here; k_dflt (refine' eq_empty ?k1 ?k2 ?k3 ?k4 ?k5 ?_; (case k1 => k_asm); (case k4 => assumption); (case k2 => k_mem); (case k3 => k_mem); (case k5 => k_units); k_whole)))
  (k_with "subscriptTail Name UnaryOp ref int" => (k_here; k_dflt (refine' item_last (hs := by with_unfolding_all rfl) ?k1 ?k2 ?k3 ?_; (case k1 => k_asm); (case k3 => assumption); (case k2 => k_mem); k_whole)))
  (k_with "call builtin:len" => (k_here; (with_reducible show wpAny _ _ (call (Value.builtin _) [Value.ref _]) _ _ _); k_dflt (refine' PySem.W.KM.len_K ?k1 ?k2 ?k3 ?k4 ?_; (case k1 => k_asm); (case k2 => k_mem); (case k3 => first | assumption | exact rfl); (case k4 => omega); k_whole)))
  (k_with "subscriptTail Name Name ref int" => (k_here; k_dflt (refine' item_at (hs := by with_unfolding_all rfl) ?k1 ?k2 ?k3 ?k4 ?k5 ?_; (case k1 => k_asm); (case k5 => assumption); (case k2 => k_mem); (case k3 => omega); (case k4 => omega); k_whole)))
  (k_with "compareOp NotEq ref ref" => (k_here; k_dflt (refine' ne_pair ?k1 ?k2 ?k3 ?k4 ?k5 ?k6 ?k7 ?k8 ?k9 ?k0 ?_; (case k1 => k_asm); (case k2 => k_mem); (case k3 => assumption); (case k4 => k_mem); (case k5 => k_mem); (case k6 => assumption); (case k7 => k_mem); (case k8 => assumption); (case k9 => assumption); (case k0 => k_units); k_whole)))
  (k_with "subscriptTail" => (k_here; (with_reducible show wpAny _ _ (subscriptTail _ _ (Value.ref _) (Value.int 1 _)) _ _ _); k_dflt (refine' item_t1 (hs := by with_unfolding_all rfl) ?k1 ?k2 ?_; (case k1 => k_asm); (case k2 => k_mem); k_whole)))
  (k_with "subscriptTail" => (k_here; (with_reducible show wpAny _ _ (subscriptTail _ _ (Value.ref _) (Value.int 0 _)) _ _ _); k_dflt (refine' item_t0 (hs := by with_unfolding_all rfl) ?k1 ?k2 ?_; (case k1 => k_asm); (case k2 => k_mem); k_whole)))
  (k_with "subscriptTail" => (k_here; (with_reducible show wpAny _ _ (subscriptTail _ _ (Value.ref _) (Value.int 0 _)) _ _ _); k_dflt (refine' item_l0 (hs := by with_unfolding_all rfl) ?k1 ?k2 ?_; (case k1 => k_asm); (case k2 => k_mem); k_whole)))
  (k_with "eval ListComp" => (k_here; refine' Halt.mk ?_))
  (k_with "compareOp NotEq" => (k_here; k_dflt (refine' ne_fault ?k1 ?k2 ?k3 ?_; (case k1 => assumption); (case k2 => assumption); (case k3 => k_units); k_whole)))
  (k_with "SrcLP" => (k_here; refine' Halt.mk ?_))
  (k_with "subscriptTail Name Slice ref ref" => (k_here; k_dflt (refine' slice_from (hs := by with_unfolding_all rfl) (ht := by intro _; with_unfolding_all rfl) ?F ?N ?hl ?hw ?hx ?h1 ?hz ?_; (case F => k_asm); (case N => k_asm); (case hl => k_mem); (case hw => assumption); (case hx => first | rfl | omega); (case h1 => assumption); (case hz => assumption); k_whole); intro S9 h9 F9 N9 l9; (try k_sweep)))
  (k_with "call ref" => (k_here; (with_reducible show wpAny _ _ (call (Value.ref 350) _) _ _ _); refine' Halt.mk ?_))
  k_go0
  all_goals try k_fold
  k_steps
  unfold Halt
  rename World => w
  rename Heap.CodeRec _ _ _ => z1
  rename Dflts _ _ _ _ _ _ => z2
  clear z1 z2
  rename ∀ p ∈ _, p ∈ pieces => pm
  rename List.length _ ≤ 24 => pl
  have hOK := law_ok pl pm
  rename Fr _ _ _ _ => F
  revert F hOK
  generalize Txt.join (Str.ofString "") _ = tx
  intro F hOK
  have hlen := hOK.hlen
  obtain ⟨P, hG, hP0, hP1⟩ := hOK.good
  with_unfolding_all refine' s_law_read hG hlen hP0 ?k1 ?k2 ?k3 ?k4 ?k5 ?kK ?kd ?ku ?_
  case k1 => k_asm
  case k2 => k_asm
  case k3 => k_asm
  case k4 => k_asm
  case k5 => k_asm
  case kK => exact rfl
  case kd => k_room
  case ku => (try simp only [units_in1, units_deeper, Around.mark_units, units_caller]); (try dsimp only [ktrTop]); omega
  intro D fl nn l fv h' tk' hl hf hrok F' N'
  k_steps
  unfold Halt
  rename Fr _ _ _ _ => F
  refine For_invTF F ?_ (by intro _; rfl) ?_
  rotate_left
  · passes_own
  k_steps
  unfold Halt
  rename Fr _ _ _ _ => F
  rename News _ _ _ _ => N
  obtain ⟨rs, hrs⟩ : ∃ rs, rs = (readF tx 100 0).1 := ⟨_, rfl⟩
  rw [← hrs] at hl
  have hle := hOK.le
  rw [← hrs] at hle
  have hsz : (l.map fun x => Value.ref x.1.tp).toArray.size = rs.length := by rw [← hl]; simp
  refine loop_pairs (vs := l.map fun x => Value.ref x.1.tp) (nn := nn) (fun i m => ∃ u t, m = mL (.int (behindR (rs.take i)) t) fv fl tx _ u) rfl ?_ F N ⟨_, _, mL_of rfl rfl rfl rfl⟩ ?_ ?_ ?_
  · exact .tail _ (.head _)
  · rintro i v m₁ h g d tk os I oI hv ⟨u, t, rfl⟩ hcI hnI F₁ N₁
    obtain ⟨k, r, hkr, hr, rfl⟩ := rec_at hl hv
    obtain ⟨s1, s2, s3, s4, s5, s6⟩ := hOK.step i r (by rw [← hrs]; exact hr)
    rw [← hrs] at s1 s2 s4 s5
    have hbn := behindR_take hr
    generalize behindR (rs.take i) = b at *
    obtain ⟨R, hR⟩ : ∃ R, R = (I, oI) :: (D, ({ cls := .type "tuple", data := .seq #[.ref fl, fv] } : Obj)) :: (fl, PySem.W.listOf (l.map fun x => Value.ref x.1.tp).toArray nn) :: (ledger w.params l ++ []) := ⟨_, rfl⟩
    have N₂ := (show News _ _ h ((k.tp, ({ cls := .type "tuple", data := .seq #[.ref k.c.t, .int r.en k.te] } : Obj)) :: (k.c.t, instObj 114 k.c.dt) :: (k.c.dt, tokD w.params k.c r.kind k.v r.at_ r.nl) :: R) from fun p hp => by
      rcases List.mem_cons.mp hp with rfl | hp
      · exact N₁ _ (.tail _ (.tail _ (.tail _ (List.mem_append_left _ (led_mem hkr _ (.head _))))))
      rcases List.mem_cons.mp hp with rfl | hp
      · exact N₁ _ (.tail _ (.tail _ (.tail _ (List.mem_append_left _ (led_mem hkr _ (.tail _ (.head _)))))))
      rcases List.mem_cons.mp hp with rfl | hp
      · exact N₁ _ (.tail _ (.tail _ (.tail _ (List.mem_append_left _ (led_mem hkr _ (.tail _ (.tail _ (.head _))))))))
      · exact N₁ _ (by rw [← hR]; exact hp))
    clear N₁ N F
    delta mL at F₁
    have s6a : (r.kind == Str.ofString "eof") = true → r.at_ = tx.length ∧ r.en = tx.length := fun e => by unfold isEof at s6; rw [if_pos e] at s6; exact s6
    have s6b : (r.kind == Str.ofString "eof") = false → r.at_ < r.en ∧ r.en ≤ tx.length := fun e => by unfold isEof at s6; rw [if_neg (by rw [e]; decide)] at s6; exact s6
    clear s6
    k_steps
    all_goals first
      | (exfalso; rename (_ != _) = true => q; revert q; cases r.nl <;> decide)
      | (exfalso; rename (_ == _) = true => q; have q' := s6a q; omega)
      | (exfalso; rename (_ == _) = false => q; have q' := s6b q; omega)
      | skip
    all_goals
      rename News _ _ _ _ => N₉
      rename Fr _ _ _ _ => F₉
      refine ⟨rfl, _, _, _, rfl, F₉, (fun p hp => N₉ p (.tail _ (.tail _ (.tail _ (by rw [hR]; exact hp))))), _, _, mL_of (by rw [hbn]; exact rfl) rfl rfl rfl⟩
  · rintro h tk m₁ F₁ N₁ ⟨u, t, rfl⟩
    have hvl : (l.map fun x => Value.ref x.1.tp).length = rs.length := by rw [← hl]; simp
    rw [hvl, List.take_length] at F₁
    clear N F
    delta mL at F₁
    (k_with "exec If" => refine' Halt.mk ?_)
    k_steps
    k_with_none
    (k_with "call ref" => (k_here; (with_reducible show wpAny _ _ (call (Value.ref 308) _) _ _ _); k_dflt ((with_unfolding_all refine' s_heap ?q0 ?q1 ?k1 ?k2 ?k3 ?k4 ?k5 ?kK ?kd ?ku ?_ ?ke); (case k1 => k_asm); (case k2 => k_asm); (case k3 => k_asm); (case k4 => k_asm); (case k5 => k_asm); (case q0 => assumption); (case q1 => omega); (case kK => first | exact rfl | assumption); (case kd => k_room); (case ku => ((try simp only [units_in1, units_deeper, Around.mark_units, units_caller]); (try dsimp only [ktrTop]); omega)); (case ke => exact trivial); k_whole; refine And.intro (by assumption) ?_; intro D9 us9 it9 nn9 h9 tk9 is9 sz9 ne9 F9 N9; (try k_sweep); (try dsimp only); (try k_fold))))
    (k_with "call ref" => (k_here; (with_reducible show wpAny _ _ (call (Value.ref 322) _) _ _ _); k_dflt ((with_unfolding_all refine' s_text ?q0 ?q1 ?q2 ?k1 ?k2 ?k3 ?k4 ?k5 ?kK ?kd ?ku ?_ ?ke); (case k1 => k_asm); (case k2 => k_asm); (case k3 => k_asm); (case k4 => k_asm); (case k5 => k_asm); (case q0 => assumption); (case q1 => omega); (case q2 => first | assumption | k_all); (case kK => first | exact rfl | assumption); (case kd => k_room); (case ku => ((try simp only [units_in1, units_deeper, Around.mark_units, units_caller]); (try dsimp only [ktrTop]); omega)); (case ke => exact trivial); k_whole; intro pc9 t9 h9 tk9 pl9 pm9 F9 N9; (try k_sweep); (try dsimp only); (try k_fold))))
    (k_with "call ref" => (k_here; (with_reducible show wpAny _ _ (call (Value.ref 336) _) _ _ _); k_dflt ((with_unfolding_all refine' s_layT ?q0 ?q1 ?k1 ?k2 ?k3 ?k4 ?k5 ?kK ?kd ?ku ?_ ?ke); (case k1 => k_asm); (case k2 => k_asm); (case k3 => k_asm); (case k4 => k_asm); (case k5 => k_asm); (case q0 => first | omega | assumption); (case q1 => assumption); (case kK => first | exact rfl | assumption); (case kd => k_room); (case ku => ((try simp only [units_in1, units_deeper, Around.mark_units, units_caller]); (try dsimp only [ktrTop]); omega)); (case ke => exact trivial); k_whole; intro t9 h9 tk9 F9 N9; (try k_sweep); (try dsimp only); (try k_fold))))
    (k_with "call ref" => (k_here; (with_reducible show wpAny _ _ (call (Value.ref 343) _) _ _ _); k_dflt ((with_unfolding_all refine' s_value ?q0 ?q1 ?q2 ?q3 ?q4 ?k1 ?k2 ?k3 ?k4 ?k5 ?kK ?kd ?ku ?_ ?ke); (case k1 => k_asm); (case k2 => k_asm); (case k3 => k_asm); (case k4 => k_asm); (case k5 => k_asm); (case q0 => k_mem); (case q1 => k_mem); (case q2 => assumption); (case q3 => (show AddIn _ _; k_mem)); (case q4 => assumption); (case kK => first | exact rfl | assumption); (case kd => k_room); (case ku => ((try simp only [units_in1, units_deeper, Around.mark_units, units_caller]); (try dsimp only [ktrTop]); omega)); (case ke => exact trivial); k_whole; intro v9 a9 h9 tk9 ao9 rd9 F9 N9; (replace N9 := news_turn N9); (simp only [List.cons_append] at N9); (try k_sweep); (try dsimp only); (try k_fold))))
    (k_with "subscriptTail Name Slice str ref" => (k_here; (with_reducible show wpAny _ _ (subscriptTail _ (Expr.Slice (some _) (some _) none _) (Value.str _ _) (Value.ref _)) _ _ _); (with_reducible rename Fr _ _ _ _ => F'); (with_reducible rename News _ _ _ _ => N'); (refine slice_subS (hs := by with_unfolding_all rfl) (ht := by intro _; with_unfolding_all rfl) (hsz := ?hsz) (s := ⟨_, _, _, _, _⟩) F' N' ?_); (case hsz => (rw [PySem.sizeLine_eq]; omega)); intro _ _ _ _ _ _))
    (k_with "call ref" => (k_here; (with_reducible show wpAny _ _ (call (Value.ref 329) _) _ _ _); refine' Halt.mk ?_))
    (k_with "exec For Tuple Name" => (k_here; refine' Halt.mk ?_))
    (k_with "pyIter ref" => (k_here; refine' Halt.mk ?_))
    (k_with "compareOp In str str" => (k_here; refine in_nl (by assumption) ?_))
    (k_with "compareOp Eq ref ref" => (k_here; k_dflt (refine' eq_empty ?k1 ?k2 ?k3 ?k4 ?k5 ?_; (case k1 => k_asm); (case k4 => assumption); (case k2 => k_mem); (case k3 => k_mem); (case k5 => k_units); k_whole)))
    (k_with "subscriptTail Name UnaryOp ref int" => (k_here; k_dflt (refine' item_last (hs := by with_unfolding_all rfl) ?k1 ?k2 ?k3 ?_; (case k1 => k_asm); (case k3 => assumption); (case k2 => k_mem); k_whole)))
    (k_with "call builtin:len" => (k_here; (with_reducible show wpAny _ _ (call (Value.builtin _) [Value.ref _]) _ _ _); k_dflt (refine' PySem.W.KM.len_K ?k1 ?k2 ?k3 ?k4 ?_; (case k1 => k_asm); (case k2 => k_mem); (case k3 => first | assumption | exact rfl); (case k4 => omega); k_whole)))
    (k_with "subscriptTail Name Name ref int" => (k_here; k_dflt (refine' item_at (hs := by with_unfolding_all rfl) ?k1 ?k2 ?k3 ?k4 ?k5 ?_; (case k1 => k_asm); (case k5 => assumption); (case k2 => k_mem); (case k3 => omega); (case k4 => omega); k_whole)))
    (k_with "compareOp NotEq ref ref" => (k_here; k_dflt (refine' ne_pair ?k1 ?k2 ?k3 ?k4 ?k5 ?k6 ?k7 ?k8 ?k9 ?k0 ?_; (case k1 => k_asm); (case k2 => k_mem); (case k3 => assumption); (case k4 => k_mem); (case k5 => k_mem); (case k6 => assumption); (case k7 => k_mem); (case k8 => assumption); (case k9 => assumption); (case k0 => k_units); k_whole)))
    (k_with "subscriptTail" => (k_here; (with_reducible show wpAny _ _ (subscriptTail _ _ (Value.ref _) (Value.int 1 _)) _ _ _); k_dflt (refine' item_t1 (hs := by with_unfolding_all rfl) ?k1 ?k2 ?_; (case k1 => k_asm); (case k2 => k_mem); k_whole)))
    (k_with "subscriptTail" => (k_here; (with_reducible show wpAny _ _ (subscriptTail _ _ (Value.ref _) (Value.int 0 _)) _ _ _); k_dflt (refine' item_t0 (hs := by with_unfolding_all rfl) ?k1 ?k2 ?_; (case k1 => k_asm); (case k2 => k_mem); k_whole)))
    (k_with "subscriptTail" => (k_here; (with_reducible show wpAny _ _ (subscriptTail _ _ (Value.ref _) (Value.int 0 _)) _ _ _); k_dflt (refine' item_l0 (hs := by with_unfolding_all rfl) ?k1 ?k2 ?_; (case k1 => k_asm); (case k2 => k_mem); k_whole)))
    (k_with "eval ListComp" => (k_here; refine' Halt.mk ?_))
    (k_with "compareOp NotEq" => (k_here; k_dflt (refine' ne_fault ?k1 ?k2 ?k3 ?_; (case k1 => assumption); (case k2 => assumption); (case k3 => k_units); k_whole)))
    (k_with "SrcLP" => (k_here; refine' Halt.mk ?_))
    (k_with "subscriptTail Name Slice ref ref" => (k_here; k_dflt (refine' slice_from (hs := by with_unfolding_all rfl) (ht := by intro _; with_unfolding_all rfl) ?F ?N ?hl ?hw ?hx ?h1 ?hz ?_; (case F => k_asm); (case N => k_asm); (case hl => k_mem); (case hw => assumption); (case hx => first | rfl | omega); (case h1 => assumption); (case hz => assumption); k_whole); intro S9 h9 F9 N9 l9; (try k_sweep)))
    (k_with "call ref" => (k_here; (with_reducible show wpAny _ _ (call (Value.ref 350) _) _ _ _); refine' Halt.mk ?_))
    unfold Halt
    rename Fr _ _ _ _ => F₂
    rename News _ _ _ _ => N₂
    refine seam (tt := _) (u := u) F₂ N₂ ?_ ?_
    rotate_left
    · intro h₄ tk₄ t₄ u₄ F₄ N₄
      clear F₂ N₂
      delta mL at F₄
      obtain ⟨R, hR⟩ : ∃ R, R = (D, ({ cls := .type "tuple", data := .seq #[.ref fl, fv] } : Obj)) :: (fl, PySem.W.listOf (l.map fun x => Value.ref x.1.tp).toArray nn) :: (ledger w.params l ++ []) := ⟨_, rfl⟩
      have hflR : (fl, PySem.W.listOf (l.map fun x => Value.ref x.1.tp).toArray nn) ∈ R := by rw [hR]; exact .tail _ (.head _)
      have hled : AddIn (ledger w.params l) R := by rw [hR]; exact .cons (.cons (.left (.self _)))
      rw [← hR] at N₄
      dsimp only
      k_steps
      unfold Halt
      rename Fr _ _ _ _ => F₅
      rename News _ _ _ _ => N₅
      refine loop_range (n := rs.length) (fun i m nw => nw = R ∧ ∃ u bt, m = mL bt fv fl tx _ u) rfl (by assumption) (PySem.small_one (by decide) (by decide) (by omega) (by omega)) rs_nat2 F₅ N₅ ⟨rfl, _, _, mL_of rfl rfl rfl rfl⟩ ?_ ?_
      · rintro i ti m₆ news₆ h₆ tk₆ o₆ I₆ hi ho ⟨rfl, u₆, bt, rfl⟩ hne₆ F₆ N₆
        obtain ⟨k, r, hkr, hri, hvi⟩ := rec_at2 hl hi
        obtain ⟨R₂, hR₂⟩ : ∃ R₂, R₂ = (I₆, o₆) :: news₆ := ⟨_, rfl⟩
        rw [← hR₂] at N₆
        have hsub : AddIn news₆ R₂ := by rw [hR₂]; exact .cons (.self _)
        have hkin : AddIn k.add R₂ := fun p hp => hsub _ (hled _ (led_mem hkr _ (.tail _ (.tail _ (.tail _ hp)))))
        have N₇ := (show News _ _ h₆ ((k.tp, ({ cls := .type "tuple", data := .seq #[.ref k.c.t, .int r.en k.te] } : Obj)) :: (k.c.t, instObj 114 k.c.dt) :: (k.c.dt, tokD w.params k.c r.kind k.v r.at_ r.nl) :: (fl, PySem.W.listOf (l.map fun x => Value.ref x.1.tp).toArray nn) :: R₂) from fun p hp => by
          rcases List.mem_cons.mp hp with rfl | hp
          · exact N₆ _ (hsub _ (hled _ (led_mem hkr _ (.head _))))
          rcases List.mem_cons.mp hp with rfl | hp
          · exact N₆ _ (hsub _ (hled _ (led_mem hkr _ (.tail _ (.head _)))))
          rcases List.mem_cons.mp hp with rfl | hp
          · exact N₆ _ (hsub _ (hled _ (led_mem hkr _ (.tail _ (.tail _ (.head _))))))
          rcases List.mem_cons.mp hp with rfl | hp
          · exact N₆ _ (hsub _ hflR)
          · exact N₆ _ hp)
        clear N₆ N₅ F₅
        delta mL at F₆
        rw [Int.zero_add] at F₆
        have hVk := hrok _ hkr
        dsimp only at hVk
        have hrm : r ∈ rs := List.mem_of_getElem? hri
        have hnum := hOK.num r (by rw [← hrs]; exact hrm)
        obtain ⟨ok1, ok2⟩ := hOK.ok r (by rw [← hrs]; exact hrm)
        k_steps
        · rename Fr _ _ _ _ => F₈
          rename News _ _ _ _ => N₈
          refine ⟨rfl, _, _, _, news₆, rfl, F₈, (fun p hp => N₈ p ((show AddIn R₂ _ from ?_) p (by rw [hR₂]; exact hp))), (fun p hp e => hne₆ p hp (List.mem_singleton.mp e)), rfl, _, _, mL_of rfl rfl rfl rfl⟩
          k_mem
        · rename (_ == _) = false => heof
          obtain ⟨⟨P2, hG2, hP2⟩, hlen2, e2, hread⟩ := hOK.alone r (by rw [← hrs]; exact hrm) (by unfold isEof; exact heof)
          unfold Halt
          with_unfolding_all refine' s_alone hG2 hP2 hlen2 hread ?k1 ?k2 ?k3 ?k4 ?k5 ?kK ?kd ?ku ?_
          case k1 => k_asm
          case k2 => k_asm
          case k3 => k_asm
          case k4 => k_asm
          case k5 => k_asm
          case kK => exact rfl
          case kd => k_room
          case ku => (try simp only [units_in1, units_deeper, Around.mark_units, units_caller]); (try dsimp only [ktrTop]); omega
          intro D2 fl2 tp2 te2 nn2 k2 h8 tk8 hV2 F8 N8
          dsimp only at N8 hV2
          replace N8 := news_turn5 N8
          simp only [List.cons_append] at N8
          k_steps
          · exfalso
            rename _ ≠ _ => q
            exact q rfl
          · unfold Halt
            rename ((i : Nat) : Int) = 1 => hi1
            have hi2 : i = 1 := by omega
            subst hi2
            have hri0 : (readF tx 100 0).1[1]? = some r := by rw [← hrs]; exact hri
            obtain ⟨r', hag⟩ := hOK.again r hri0 (by unfold isEof; exact heof)
            with_unfolding_all refine' s_law_read hG hlen (hP1 r hri0) ?k1 ?k2 ?k3 ?k4 ?k5 ?kK ?kd ?ku ?_
            case k1 => k_asm
            case k2 => k_asm
            case k3 => k_asm
            case k4 => k_asm
            case k5 => k_asm
            case kK => exact rfl
            case kd => k_room
            case ku => (try simp only [units_in1, units_deeper, Around.mark_units, units_caller]); (try dsimp only [ktrTop]); omega
            intro D3 fl3 nn3 l3 fv3 h9 tk9 hl3 hf3 hok3 F9 N9
            rw [hag] at hl3 hf3
            dsimp only at hl3 hf3
            rw [← hrs] at hl3
            obtain ⟨x3, l4, rfl, hl4⟩ := again_split hl hl3
            have hw3 : ((x3 :: l4).map fun x => Value.ref x.1.tp).drop 1 = l4.map fun x => Value.ref x.1.tp := rfl
            have hw2 : (l.map fun x => Value.ref x.1.tp).drop 2 = (l.drop 2).map fun x => Value.ref x.1.tp := List.map_drop.symm
            have hll : l.length = rs.length := by rw [← hl]; simp
            have hlen4 : l4.length = rs.length - 2 := by
              have e := congrArg List.length hl4
              rw [List.length_map, List.length_map, List.length_drop] at e
              rw [e, ← hl, List.length_map]
            have hb1 : 1 ≤ ((x3 :: l4).map fun x => Value.ref x.1.tp).length := by rw [List.length_map, List.length_cons]; omega
            have hb2 : 2 ≤ (l.map fun x => Value.ref x.1.tp).length := by rw [hvl]; omega
            have hb3 : ((x3 :: l4).map fun x => Value.ref x.1.tp).length ≤ 1000 := by rw [List.length_map, List.length_cons]; omega
            have hb4 : (l.map fun x => Value.ref x.1.tp).length ≤ 1000 := by rw [hvl]; omega
            k_steps
            unfold Halt
            rename Fr _ _ _ _ => F₈
            refine LCp.ListComp_P (F₀ := F₈) (by with_unfolding_all rfl) (by decide) (by rfl) (by decide) (by rfl) (by rfl) (by decide) ?_
            k_steps
            unfold Halt
            rename Fr _ _ _ _ => F₁₀
            rename News _ _ _ _ => N₁₀
            have hk4 : ∀ y ∈ l4, y.2 ∈ rs ∧ ValIs w.params y.2.tv y.1.v y.1.add := fun y hy => ⟨by
              have e : y.2 ∈ l4.map (·.2) := List.mem_map_of_mem hy
              rw [hl4] at e
              obtain ⟨z, hz, ez⟩ := List.mem_map.mp e
              rw [← ez, ← hl]
              exact List.mem_map_of_mem (List.mem_of_mem_drop hz), hok3 y (.tail _ hy)⟩
            have hkd : ∀ y ∈ l.drop 2, y.2 ∈ rs ∧ ValIs w.params y.2.tv y.1.v y.1.add := fun y hy => ⟨by
              rw [← hl]
              exact List.mem_map_of_mem (List.mem_of_mem_drop hy), hrok y (List.mem_of_mem_drop hy)⟩
            obtain ⟨W, hW, hWx, hWl, hWR⟩ := pack3 N₁₀ (a := ledger w.params (x3 :: l4)) (b := R₂) (by k_mem) (by k_mem)
            have hks : ∀ y ∈ l4, ∀ p ∈ recO w.params y.1 y.2, p ∈ W := fun y hy p hp => hWl p (led_mem (.tail _ hy) p hp)
            refine LCp.SrcLP.ledger (k := 0) (by rfl) F₁₀ hW hWx (by rw [PySem.sizeLine_eq]; simp; omega) ?_
            intro g'
            refine comp_all (P := w.params) (nn := 0) (ks := l4) hWx hks ?_ ?_
            rotate_left
            · intro y hy ys nw I oI C oC D m₂ h tk E' Q' hsub hC hx F N hfin
              have hyl := hk4 y hy
              have c1 := hsub _ (hks y hy _ (.tail _ (.head _)))
              have c2 := hsub _ (hks y hy _ (.tail _ (.tail _ (.head _))))
              have c3 : AddIn y.1.add nw := fun p hp => hsub _ (hks y hy _ (.tail _ (.tail _ (.tail _ hp))))
              k_steps
              unfold Halt
              with_unfolding_all refine' s_shown (c := y.1.c) (kind := y.2.kind) (tv := y.2.tv) (v := y.1.v) (add := y.1.add) (at_ := y.2.at_) (nl := y.2.nl) ?hc ?hd ?hv ?ha ?hk ?k1 ?k2 ?k3 ?k4 ?k5 ?kK ?kd ?ku ?_ trivial
              case k4 => exact N
              case hc => exact .tail _ (.tail _ (.tail _ c1))
              case hd => exact .tail _ (.tail _ (.tail _ c2))
              case hv => exact hyl.2
              case ha => exact fun p hp => .tail _ (.tail _ (.tail _ (c3 p hp)))
              case hk => exact hOK.num _ (by rw [← hrs]; exact hyl.1)
              case k1 => k_asm
              case k2 => k_asm
              case k3 => k_asm
              case k5 => k_asm
              case kK => exact rfl
              case kd => k_room
              case ku => (try simp only [units_in1, units_deeper, Around.mark_units, units_caller]); (try dsimp only [ktrTop]); omega
              exact hfin
            · intro ys nw hsb hra D4 h4 tk4 F4 N4 off4
              have hR2n : AddIn R₂ nw := fun p hp => hsb p (hWR p hp)
              have hRn : AddIn news₆ nw := fun p hp => hR2n p (hsub p hp)
              have N5 := (show News _ _ h4 ((D4, LCg.lst ys) :: (fl, PySem.W.listOf (l.map fun x => Value.ref x.1.tp).toArray nn) :: nw) from fun p hp => by
                rcases List.mem_cons.mp hp with rfl | hp
                · exact N4 _ (.head _)
                rcases List.mem_cons.mp hp with rfl | hp
                · exact N4 _ (.tail _ (hRn _ hflR))
                · exact N4 _ (.tail _ hp))
              clear N4
              k_steps
              unfold Halt
              rename Fr _ _ _ _ => F₁₁
              refine LCp.ListComp_P (F₀ := F₁₁) (by with_unfolding_all rfl) (by decide) (by rfl) (by decide) (by rfl) (by rfl) (by decide) ?_
              k_steps
              unfold Halt
              rename Fr _ _ _ _ => F₁₂
              rename News _ _ _ _ => N₁₂
              obtain ⟨W2, hW2, hW2x, hW2l, hW2R⟩ := pack3 N₁₂ (a := [(D4, LCg.lst ys)]) (b := nw) (AddIn.one (.head _)) (by k_mem)
              have hks2 : ∀ y ∈ l.drop 2, ∀ p ∈ recO w.params y.1 y.2, p ∈ W2 := fun y hy p hp => hW2R p (hRn p (hled p (led_mem (List.mem_of_mem_drop hy) p hp)))
              refine LCp.SrcLP.ledger (k := 0) (by rfl) F₁₂ hW2 hW2x (by rw [PySem.sizeLine_eq]; simp; omega) ?_
              intro g''
              refine comp_all (P := w.params) (nn := 0) (ks := l.drop 2) hW2x hks2 ?_ ?_
              rotate_left
              · intro y hy ys nw I oI C oC D m₂ h tk E' Q' hsub hC hx F N hfin
                have hyl := hkd y hy
                have c1 := hsub _ (hks2 y hy _ (.tail _ (.head _)))
                have c2 := hsub _ (hks2 y hy _ (.tail _ (.tail _ (.head _))))
                have c3 : AddIn y.1.add nw := fun p hp => hsub _ (hks2 y hy _ (.tail _ (.tail _ (.tail _ hp))))
                k_steps
                unfold Halt
                with_unfolding_all refine' s_shown (c := y.1.c) (kind := y.2.kind) (tv := y.2.tv) (v := y.1.v) (add := y.1.add) (at_ := y.2.at_) (nl := y.2.nl) ?hc ?hd ?hv ?ha ?hk ?k1 ?k2 ?k3 ?k4 ?k5 ?kK ?kd ?ku ?_ trivial
                case k4 => exact N
                case hc => exact .tail _ (.tail _ (.tail _ c1))
                case hd => exact .tail _ (.tail _ (.tail _ c2))
                case hv => exact hyl.2
                case ha => exact fun p hp => .tail _ (.tail _ (.tail _ (c3 p hp)))
                case hk => exact hOK.num _ (by rw [← hrs]; exact hyl.1)
                case k1 => k_asm
                case k2 => k_asm
                case k3 => k_asm
                case k5 => k_asm
                case kK => exact rfl
                case kd => k_room
                case ku => (try simp only [units_in1, units_deeper, Around.mark_units, units_caller]); (try dsimp only [ktrTop]); omega
                exact hfin
              · intro ys2 nw2 hsb2 hra2 D5 h5 tk5 F5 N6 off5
                have hR2m : AddIn R₂ nw2 := fun p hp => hsb2 p (hW2R p (hR2n p hp))
                have r1 := (hra.mono (news' := (D5, LCg.lst ys2) :: nw2) fun p hp => .tail _ (hsb2 p (hW2R p hp))).list (.tail _ (hsb2 _ (hW2l _ (.head _))))
                have r2 := (hra2.mono (news' := (D5, LCg.lst ys2) :: nw2) fun p hp => .tail _ hp).list (.head _)
                rw [shown_same hl4] at r1
                refine ne_same N6 r1 r2 (shaped_list fun d hd => ?_) (eqv_list _ fun d hd => ?_) (by k_units) ?_
                · obtain ⟨y, hy, rfl⟩ := List.mem_map.mp hd
                  obtain ⟨o1, o2⟩ := hOK.ok y.2 (by rw [← hrs]; exact (hkd y hy).1)
                  exact lay_shown _ o1 o2
                · obtain ⟨y, hy, rfl⟩ := List.mem_map.mp hd
                  exact eqv_shown _ _ _
                k_steps
                rename Fr _ _ _ _ => F₁₃
                rename News _ _ _ _ => N₁₃
                refine ⟨rfl, _, _, _, news₆, rfl, F₁₃, (fun p hp => N₁₃ p ((show AddIn R₂ _ from ?_) p (by rw [hR₂]; exact hp))), (fun p hp e => hne₆ p hp (List.mem_singleton.mp e)), rfl, _, _, mL_of rfl rfl rfl rfl⟩
                k_mem
          · rename Fr _ _ _ _ => F₈
            rename News _ _ _ _ => N₈
            refine ⟨rfl, _, _, _, news₆, rfl, F₈, (fun p hp => N₈ p ((show AddIn R₂ _ from ?_) p (by rw [hR₂]; exact hp))), (fun p hp e => hne₆ p hp (List.mem_singleton.mp e)), rfl, _, _, mL_of rfl rfl rfl rfl⟩
            k_mem
      · rintro h₆ tk₆ m₆ news₆ F₆ N₆ ⟨rfl, u₆, bt, rfl⟩
        delta mL at F₆
        k_steps
    · clear F₂ N₂
      intro F₂ N₂
      delta mL at F₂
      cases hf' : (readF tx 100 0).2 with
      | none =>
        rw [hf'] at hf
        dsimp only [FaultIs] at hf
        subst hf
        obtain ⟨r, hrl, hre⟩ := hOK.eof hf'
        rw [← hrs] at hrl
        obtain ⟨k, hkr, hlast⟩ := rec_last hl hrl
        unfold isEof at hre
        have hne : (l.map fun x => Value.ref x.1.tp) ≠ [] := by intro e; rw [e] at hlast; cases hlast
        obtain ⟨R, hR⟩ : ∃ R, R = (D, ({ cls := .type "tuple", data := .seq #[.ref fl, .none] } : Obj)) :: (fl, PySem.W.listOf (l.map fun x => Value.ref x.1.tp).toArray nn) :: (ledger w.params l ++ []) := ⟨_, rfl⟩
        have hflR : (fl, PySem.W.listOf (l.map fun x => Value.ref x.1.tp).toArray nn) ∈ R := by rw [hR]; exact .tail _ (.head _)
        rw [← hR] at N₂ ⊢
        replace N₂ := (show News _ _ h ((k.tp, ({ cls := .type "tuple", data := .seq #[.ref k.c.t, .int r.en k.te] } : Obj)) :: (k.c.t, instObj 114 k.c.dt) :: (k.c.dt, tokD w.params k.c r.kind k.v r.at_ r.nl) :: (fl, PySem.W.listOf (l.map fun x => Value.ref x.1.tp).toArray nn) :: R) from fun p hp => by
          rcases List.mem_cons.mp hp with rfl | hp
          · exact N₂ _ (by rw [hR]; exact .tail _ (.tail _ (List.mem_append_left _ (led_mem hkr _ (.head _)))))
          rcases List.mem_cons.mp hp with rfl | hp
          · exact N₂ _ (by rw [hR]; exact .tail _ (.tail _ (List.mem_append_left _ (led_mem hkr _ (.tail _ (.head _))))))
          rcases List.mem_cons.mp hp with rfl | hp
          · exact N₂ _ (by rw [hR]; exact .tail _ (.tail _ (List.mem_append_left _ (led_mem hkr _ (.tail _ (.tail _ (.head _)))))))
          rcases List.mem_cons.mp hp with rfl | hp
          · exact N₂ _ hflR
          · exact N₂ _ hp)
        k_steps
        · exfalso
          rename (_ != _) = true => q
          rw [bne, hre] at q
          cases q
        · rename News _ _ _ _ => N₉
          rename Fr _ _ _ _ => F₉
          exact ⟨rfl, _, _, _, rfl, F₉, (fun p hp => N₉ p (.tail _ (.tail _ (.tail _ (.tail _ (.tail _ hp)))))), _, _, mL_of rfl rfl rfl rfl⟩
      | some p =>
        rw [hf'] at hf
        dsimp only [FaultIs] at hf
        obtain ⟨tf, rfl⟩ := hf
        obtain ⟨f1, f2, f3⟩ := hOK.fin p hf'
        rw [← hrs] at f1 f3
        generalize behindR rs = b at *
        k_steps
        rename News _ _ _ _ => N₉
        rename Fr _ _ _ _ => F₉
        exact ⟨rfl, _, _, _, rfl, F₉, N₉, _, _, mL_of rfl rfl rfl rfl⟩
  · intro s' I i v Q' hit hQ'
    exact letGo_listiter hit hQ')
end
end Lx
theorem PySem.Challenge.cw_ov0064_01_holds : PySem.Challenge.rw_ov0064_01.Holds :=
  Lx.law_main
